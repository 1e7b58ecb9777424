import PyProof.Rows.All
import PyProof.ConsumeWalk
import PyProof.Rows.TupAssign
import PyProof.Rows.StrTemp
import Wide.WTab
import KE.KDictSum
import KE.KPairComp
import KE.KPairTest
import KE.KSortedM
import Wide.FinOn
import OpenK.AllK
import Wide.All
import Lean
import PySem.Challenge.RW_nz0368_01
open PySem PySem.W PySem.Calls PyProof.Rows
set_option Elab.async false
set_option maxRecDepth 100000
set_option maxHeartbeats 4000000
set_option linter.unusedVariables false
namespace Mine
/-! L0 -/
/-- the i-th statement of the text -/
noncomputable def stAt (i : Nat) : Stmt := PySem.Challenge.pw_nz0368_01.main.body.getD i (.Pass default)
/-- the j-th statement of the i-th statement's class block -/
noncomputable def stIn (i j : Nat) : Stmt := match stAt i with
  | .ClassDef _ _ _ b _ _ _ _ _ _ _ => b.getD j (.Pass default)
  | _ => .Pass default
noncomputable def dName : Stmt → Str | .FunctionDef n _ _ _ _ _ _ _ _ _ => n | _ => default
noncomputable def dArgs : Stmt → Arguments | .FunctionDef _ a _ _ _ _ _ _ _ _ => a | _ => default
noncomputable def dBody : Stmt → List Stmt | .FunctionDef _ _ b _ _ _ _ _ _ _ => b | _ => []
noncomputable def dScope : Stmt → Scope | .FunctionDef _ _ _ _ _ _ s _ _ _ => s | _ => default
/-- what a plain def of the text is, as its object holds it -/
noncomputable def fnFd (st : Stmt) (qual : Str) (pm cd : Value) : FuncData :=
  { name := dName st, qualname := qual, params := dArgs st, body := .stmts (dBody st), scope := dScope st, globals := mainGlobals, closure := [], defaults := .none, kwdefaults := .none,
    doc := .none, pyModule := pm, annotations := none, code := cd, closureTuple := .none, builtins := builtinsNs }
noncomputable def fnData (st : Stmt) (qual : Str) (pm cd : Value) : Data := .func (fnFd st qual pm cd)
noncomputable def o3 (P : Params) : Obj := ⟨(.type "dict"), none, (.dict #[⟨PyData.keyHash P (Str.ofString "__name__"), .str (Str.ofString "__name__") 165, (.str (Str.ofString "law_nz0368_01") 662)⟩, ⟨PyData.keyHash P (Str.ofString "__doc__"), .str (Str.ofString "__doc__") 166, .none⟩, ⟨PyData.keyHash P (Str.ofString "__package__"), .str (Str.ofString "__package__") 167, .none⟩, ⟨PyData.keyHash P (Str.ofString "__loader__"), .str (Str.ofString "__loader__") 168, (.builtin "__main__.__loader__#opaque")⟩, ⟨PyData.keyHash P (Str.ofString "__spec__"), .str (Str.ofString "__spec__") 169, .none⟩, ⟨PyData.keyHash P (Str.ofString "__annotations__"), .str (Str.ofString "__annotations__") 170, (.ref 6)⟩, ⟨PyData.keyHash P (Str.ofString "__builtins__"), .str (Str.ofString "__builtins__") 171, (.ref 4)⟩, ⟨PyData.keyHash P (Str.ofString "__file__"), .str (Str.ofString "__file__") 173, (.str (Str.ofString "/claim/cut.py") 172)⟩, ⟨PyData.keyHash P (Str.ofString "__cached__"), .str (Str.ofString "__cached__") 174, .none⟩, ⟨PyData.keyHash P (Str.ofString "_wall"), .str (Str.ofString "_wall") 193, (.ref 21)⟩, ⟨PyData.keyHash P (Str.ofString "KeepError"), .str (Str.ofString "KeepError") 215, (.ref 31)⟩, ⟨PyData.keyHash P (Str.ofString "StoreError"), .str (Str.ofString "StoreError") 231, (.ref 44)⟩, ⟨PyData.keyHash P (Str.ofString "BadOption"), .str (Str.ofString "BadOption") 247, (.ref 56)⟩, ⟨PyData.keyHash P (Str.ofString "MAX_32"), .str (Str.ofString "MAX_32") 251, (.int 4294967295 250)⟩, ⟨PyData.keyHash P (Str.ofString "MAX_64"), .str (Str.ofString "MAX_64") 253, (.int 18446744073709551615 252)⟩, ⟨PyData.keyHash P (Str.ofString "put_fixed32"), .str (Str.ofString "put_fixed32") 260, (.ref 65)⟩, ⟨PyData.keyHash P (Str.ofString "put_fixed64"), .str (Str.ofString "put_fixed64") 267, (.ref 72)⟩, ⟨PyData.keyHash P (Str.ofString "SAFE"), .str (Str.ofString "SAFE") 271, (.int 0 270)⟩, ⟨PyData.keyHash P (Str.ofString "LEASE"), .str (Str.ofString "LEASE") 273, (.int 1 272)⟩, ⟨PyData.keyHash P (Str.ofString "read_context"), .str (Str.ofString "read_context") 280, (.ref 79)⟩, ⟨PyData.keyHash P (Str.ofString "ReadStatus"), .str (Str.ofString "ReadStatus") 312, (.ref 96)⟩, ⟨PyData.keyHash P (Str.ofString "ReadOnly"), .str (Str.ofString "ReadOnly") 394, (.ref 152)⟩, ⟨PyData.keyHash P (Str.ofString "MSG_READ_INDEX"), .str (Str.ofString "MSG_READ_INDEX") 398, (.int 15 397)⟩, ⟨PyData.keyHash P (Str.ofString "ENTRY_NORMAL"), .str (Str.ofString "ENTRY_NORMAL") 400, (.int 0 399)⟩, ⟨PyData.keyHash P (Str.ofString "rising"), .str (Str.ofString "rising") 409, (.ref 163)⟩, ⟨PyData.keyHash P (Str.ofString "Entry"), .str (Str.ofString "Entry") 472, (.ref 208)⟩, ⟨PyData.keyHash P (Str.ofString "Message"), .str (Str.ofString "Message") 528, (.ref 241)⟩, ⟨PyData.keyHash P (Str.ofString "VOTE_PENDING"), .str (Str.ofString "VOTE_PENDING") 532, (.int 1 531)⟩, ⟨PyData.keyHash P (Str.ofString "VOTE_LOST"), .str (Str.ofString "VOTE_LOST") 534, (.int 2 533)⟩, ⟨PyData.keyHash P (Str.ofString "VOTE_WON"), .str (Str.ofString "VOTE_WON") 536, (.int 3 535)⟩, ⟨PyData.keyHash P (Str.ofString "majority_vote"), .str (Str.ofString "majority_vote") 548, (.ref 252)⟩, ⟨PyData.keyHash P (Str.ofString "joint_vote"), .str (Str.ofString "joint_vote") 559, (.ref 259)⟩, ⟨PyData.keyHash P (Str.ofString "Config"), .str (Str.ofString "Config") 661, (.ref 339)⟩, ⟨PyData.keyHash P (Str.ofString "_law_draw"), .str (Str.ofString "_law_draw") 671, (.ref 350)⟩, ⟨PyData.keyHash P (Str.ofString "_law_ids"), .str (Str.ofString "_law_ids") 677, (.ref 355)⟩, ⟨PyData.keyHash P (Str.ofString "_law_wins"), .str (Str.ofString "_law_wins") 683, (.ref 360)⟩, ⟨PyData.keyHash P (Str.ofString "_law_request"), .str (Str.ofString "_law_request") 692, (.ref 367)⟩, ⟨PyData.keyHash P (Str.ofString "_law_heard"), .str (Str.ofString "_law_heard") 698, (.ref 372)⟩, ⟨PyData.keyHash P (Str.ofString "_law_gone"), .str (Str.ofString "_law_gone") 710, (.ref 379)⟩, ⟨PyData.keyHash P (Str.ofString "law"), .str (Str.ofString "law") 716, (.ref 384)⟩] 40), #[]⟩
noncomputable def o65 (P : Params) : Obj := ⟨(.type "function"), none, (fnData (stAt 8) (Str.ofString "put_fixed32") (.str (Str.ofString "raftkeep.octets") 248) (.ref 64)), #[]⟩
noncomputable def o72 (P : Params) : Obj := ⟨(.type "function"), none, (fnData (stAt 9) (Str.ofString "put_fixed64") (.str (Str.ofString "raftkeep.octets") 248) (.ref 71)), #[]⟩
noncomputable def o79 (P : Params) : Obj := ⟨(.type "function"), none, (fnData (stAt 13) (Str.ofString "read_context") (.str (Str.ofString "raftkeep.tracker") 268) (.ref 78)), #[]⟩
noncomputable def o93 (P : Params) : Obj := ⟨(.type "function"), none, (fnData (stIn 14 0) (Str.ofString "ReadStatus.__init__") (.str (Str.ofString "raftkeep.tracker") 268) (.ref 92)), #[]⟩
noncomputable def o114 (P : Params) : Obj := ⟨(.type "function"), none, (fnData (stIn 15 0) (Str.ofString "ReadOnly.__init__") (.str (Str.ofString "raftkeep.tracker") 268) (.ref 113)), #[]⟩
noncomputable def o121 (P : Params) : Obj := ⟨(.type "function"), none, (fnData (stIn 15 1) (Str.ofString "ReadOnly.add") (.str (Str.ofString "raftkeep.tracker") 268) (.ref 120)), #[]⟩
noncomputable def o128 (P : Params) : Obj := ⟨(.type "function"), none, (fnData (stIn 15 2) (Str.ofString "ReadOnly.ack") (.str (Str.ofString "raftkeep.tracker") 268) (.ref 127)), #[]⟩
noncomputable def o135 (P : Params) : Obj := ⟨(.type "function"), none, (fnData (stIn 15 3) (Str.ofString "ReadOnly.advance") (.str (Str.ofString "raftkeep.tracker") 268) (.ref 134)), #[]⟩
noncomputable def o142 (P : Params) : Obj := ⟨(.type "function"), none, (fnData (stIn 15 4) (Str.ofString "ReadOnly.last_context") (.str (Str.ofString "raftkeep.tracker") 268) (.ref 141)), #[]⟩
noncomputable def o149 (P : Params) : Obj := ⟨(.type "function"), none, (fnData (stIn 15 5) (Str.ofString "ReadOnly.row") (.str (Str.ofString "raftkeep.tracker") 268) (.ref 148)), #[]⟩
noncomputable def o163 (P : Params) : Obj := ⟨(.type "function"), none, (fnData (stAt 19) (Str.ofString "rising") (.str (Str.ofString "raftkeep.messages") 395) (.ref 162)), #[]⟩
noncomputable def o177 (P : Params) : Obj := ⟨(.type "function"), none, (fnData (stIn 20 0) (Str.ofString "Entry.__init__") (.str (Str.ofString "raftkeep.messages") 395) (.ref 176)), #[]⟩
noncomputable def o184 (P : Params) : Obj := ⟨(.type "function"), none, (fnData (stIn 20 1) (Str.ofString "Entry.row") (.str (Str.ofString "raftkeep.messages") 395) (.ref 183)), #[]⟩
noncomputable def o226 (P : Params) : Obj := ⟨(.type "function"), none, (fnData (stIn 21 0) (Str.ofString "Message.__init__") (.str (Str.ofString "raftkeep.messages") 395) (.ref 225)), #[]⟩
noncomputable def o231 (P : Params) : Obj := ⟨(.type "function"), none, (fnData (stIn 21 1) (Str.ofString "Message.row") (.str (Str.ofString "raftkeep.messages") 395) (.ref 230)), #[]⟩
noncomputable def o252 (P : Params) : Obj := ⟨(.type "function"), none, (fnData (stAt 26) (Str.ofString "majority_vote") (.str (Str.ofString "raftkeep.quorum") 529) (.ref 251)), #[]⟩
noncomputable def o259 (P : Params) : Obj := ⟨(.type "function"), none, (fnData (stAt 27) (Str.ofString "joint_vote") (.str (Str.ofString "raftkeep.quorum") 529) (.ref 258)), #[]⟩
noncomputable def o273 (P : Params) : Obj := ⟨(.type "function"), none, (fnData (stIn 28 0) (Str.ofString "Config.__init__") (.str (Str.ofString "raftkeep.quorum") 529) (.ref 272)), #[]⟩
noncomputable def o322 (P : Params) : Obj := ⟨(.type "function"), none, (fnData (stIn 28 7) (Str.ofString "Config.vote") (.str (Str.ofString "raftkeep.quorum") 529) (.ref 321)), #[]⟩
noncomputable def o350 (P : Params) : Obj := ⟨(.type "function"), none, (fnData (stAt 30) (Str.ofString "_law_draw") (.str (Str.ofString "law_nz0368_01") 662) (.ref 349)), #[]⟩
noncomputable def o355 (P : Params) : Obj := ⟨(.type "function"), none, (fnData (stAt 31) (Str.ofString "_law_ids") (.str (Str.ofString "law_nz0368_01") 662) (.ref 354)), #[]⟩
noncomputable def o360 (P : Params) : Obj := ⟨(.type "function"), none, (fnData (stAt 32) (Str.ofString "_law_wins") (.str (Str.ofString "law_nz0368_01") 662) (.ref 359)), #[]⟩
noncomputable def o367 (P : Params) : Obj := ⟨(.type "function"), none, (fnData (stAt 33) (Str.ofString "_law_request") (.str (Str.ofString "law_nz0368_01") 662) (.ref 366)), #[]⟩
noncomputable def o372 (P : Params) : Obj := ⟨(.type "function"), none, (fnData (stAt 34) (Str.ofString "_law_heard") (.str (Str.ofString "law_nz0368_01") 662) (.ref 371)), #[]⟩
noncomputable def o379 (P : Params) : Obj := ⟨(.type "function"), none, (fnData (stAt 35) (Str.ofString "_law_gone") (.str (Str.ofString "law_nz0368_01") 662) (.ref 378)), #[]⟩
noncomputable def o64 (P : Params) : Obj := ⟨(.type "code"), none, (.fields #[(.str (Str.ofString "put_fixed32") 254), (.str (Str.ofString "put_fixed32") 255), (.str (Str.ofString "/claim/cut.py") 256), (.int 14 0), (.int 1 0), (.int 0 0), (.int 0 0), (.int 3 0), (.ref 59), (.bool true), (.int 181 0), (.ref 60), .none, (.ref 61), (.ref 62), (.ref 63), (.int 258 0), (.int 14 0), (.str (Str.ofString "/claim/cut.py") 259)]), #[]⟩
noncomputable def o71 (P : Params) : Obj := ⟨(.type "code"), none, (.fields #[(.str (Str.ofString "put_fixed64") 261), (.str (Str.ofString "put_fixed64") 262), (.str (Str.ofString "/claim/cut.py") 263), (.int 18 0), (.int 1 0), (.int 0 0), (.int 0 0), (.int 3 0), (.ref 66), (.bool true), (.int 181 0), (.ref 67), .none, (.ref 68), (.ref 69), (.ref 70), (.int 265 0), (.int 18 0), (.str (Str.ofString "/claim/cut.py") 266)]), #[]⟩
noncomputable def o78 (P : Params) : Obj := ⟨(.type "code"), none, (.fields #[(.str (Str.ofString "read_context") 274), (.str (Str.ofString "read_context") 275), (.str (Str.ofString "/claim/cut.py") 276), (.int 25 0), (.int 1 0), (.int 0 0), (.int 0 0), (.int 3 0), (.ref 73), (.bool true), (.int 181 0), (.ref 74), .none, (.ref 75), (.ref 76), (.ref 77), (.int 278 0), (.int 25 0), (.str (Str.ofString "/claim/cut.py") 279)]), #[]⟩
noncomputable def o92 (P : Params) : Obj := ⟨(.type "code"), none, (.fields #[(.str (Str.ofString "__init__") 293), (.str (Str.ofString "ReadStatus.__init__") 294), (.str (Str.ofString "/claim/cut.py") 295), (.int 31 0), (.int 3 0), (.int 0 0), (.int 0 0), (.int 3 0), (.ref 87), (.bool true), (.int 181 0), (.ref 88), .none, (.ref 89), (.ref 90), (.ref 91), (.int 299 0), (.int 31 0), (.str (Str.ofString "/claim/cut.py") 300)]), #[]⟩
noncomputable def o113 (P : Params) : Obj := ⟨(.type "code"), none, (.fields #[(.str (Str.ofString "__init__") 325), (.str (Str.ofString "ReadOnly.__init__") 326), (.str (Str.ofString "/claim/cut.py") 327), (.int 37 0), (.int 2 0), (.int 0 0), (.int 0 0), (.int 3 0), (.ref 108), (.bool true), (.int 181 0), (.ref 109), .none, (.ref 110), (.ref 111), (.ref 112), (.int 330 0), (.int 37 0), (.str (Str.ofString "/claim/cut.py") 331)]), #[]⟩
noncomputable def o120 (P : Params) : Obj := ⟨(.type "code"), none, (.fields #[(.str (Str.ofString "add") 333), (.str (Str.ofString "ReadOnly.add") 334), (.str (Str.ofString "/claim/cut.py") 335), (.int 43 0), (.int 3 0), (.int 0 0), (.int 0 0), (.int 3 0), (.ref 115), (.bool true), (.int 181 0), (.ref 116), .none, (.ref 117), (.ref 118), (.ref 119), (.int 340 0), (.int 43 0), (.str (Str.ofString "/claim/cut.py") 341)]), #[]⟩
noncomputable def o127 (P : Params) : Obj := ⟨(.type "code"), none, (.fields #[(.str (Str.ofString "ack") 343), (.str (Str.ofString "ReadOnly.ack") 344), (.str (Str.ofString "/claim/cut.py") 345), (.int 50 0), (.int 3 0), (.int 0 0), (.int 0 0), (.int 3 0), (.ref 122), (.bool true), (.int 181 0), (.ref 123), .none, (.ref 124), (.ref 125), (.ref 126), (.int 350 0), (.int 50 0), (.str (Str.ofString "/claim/cut.py") 351)]), #[]⟩
noncomputable def o134 (P : Params) : Obj := ⟨(.type "code"), none, (.fields #[(.str (Str.ofString "advance") 353), (.str (Str.ofString "ReadOnly.advance") 354), (.str (Str.ofString "/claim/cut.py") 355), (.int 57 0), (.int 2 0), (.int 0 0), (.int 0 0), (.int 3 0), (.ref 129), (.bool true), (.int 181 0), (.ref 130), .none, (.ref 131), (.ref 132), (.ref 133), (.int 363 0), (.int 57 0), (.str (Str.ofString "/claim/cut.py") 364)]), #[]⟩
noncomputable def o141 (P : Params) : Obj := ⟨(.type "code"), none, (.fields #[(.str (Str.ofString "last_context") 366), (.str (Str.ofString "ReadOnly.last_context") 367), (.str (Str.ofString "/claim/cut.py") 368), (.int 72 0), (.int 1 0), (.int 0 0), (.int 0 0), (.int 3 0), (.ref 136), (.bool true), (.int 181 0), (.ref 137), .none, (.ref 138), (.ref 139), (.ref 140), (.int 370 0), (.int 72 0), (.str (Str.ofString "/claim/cut.py") 371)]), #[]⟩
noncomputable def o148 (P : Params) : Obj := ⟨(.type "code"), none, (.fields #[(.str (Str.ofString "row") 373), (.str (Str.ofString "ReadOnly.row") 374), (.str (Str.ofString "/claim/cut.py") 375), (.int 77 0), (.int 1 0), (.int 0 0), (.int 0 0), (.int 3 0), (.ref 143), (.bool true), (.int 181 0), (.ref 144), .none, (.ref 145), (.ref 146), (.ref 147), (.int 380 0), (.int 77 0), (.str (Str.ofString "/claim/cut.py") 381)]), #[]⟩
noncomputable def o162 (P : Params) : Obj := ⟨(.type "code"), none, (.fields #[(.str (Str.ofString "rising") 401), (.str (Str.ofString "rising") 402), (.str (Str.ofString "/claim/cut.py") 403), (.int 86 0), (.int 1 0), (.int 0 0), (.int 0 0), (.int 3 0), (.ref 157), (.bool true), (.int 181 0), (.ref 158), .none, (.ref 159), (.ref 160), (.ref 161), (.int 407 0), (.int 86 0), (.str (Str.ofString "/claim/cut.py") 408)]), #[]⟩
noncomputable def o176 (P : Params) : Obj := ⟨(.type "code"), none, (.fields #[(.str (Str.ofString "__init__") 422), (.str (Str.ofString "Entry.__init__") 423), (.str (Str.ofString "/claim/cut.py") 424), (.int 94 0), (.int 5 0), (.int 0 0), (.int 0 0), (.int 3 0), (.ref 171), (.bool true), (.int 181 0), (.ref 172), .none, (.ref 173), (.ref 174), (.ref 175), (.int 430 0), (.int 94 0), (.str (Str.ofString "/claim/cut.py") 431)]), #[]⟩
noncomputable def o183 (P : Params) : Obj := ⟨(.type "code"), none, (.fields #[(.str (Str.ofString "row") 433), (.str (Str.ofString "Entry.row") 434), (.str (Str.ofString "/claim/cut.py") 435), (.int 100 0), (.int 1 0), (.int 0 0), (.int 0 0), (.int 3 0), (.ref 178), (.bool true), (.int 181 0), (.ref 179), .none, (.ref 180), (.ref 181), (.ref 182), (.int 437 0), (.int 100 0), (.str (Str.ofString "/claim/cut.py") 438)]), #[]⟩
noncomputable def o225 (P : Params) : Obj := ⟨(.type "code"), none, (.fields #[(.str (Str.ofString "__init__") 485), (.str (Str.ofString "Message.__init__") 486), (.str (Str.ofString "/claim/cut.py") 487), (.int 113 0), (.int 5 0), (.int 0 0), (.int 0 0), (.int 3 0), (.ref 220), (.bool true), (.int 181 0), (.ref 221), .none, (.ref 222), (.ref 223), (.ref 224), (.int 493 0), (.int 113 0), (.str (Str.ofString "/claim/cut.py") 494)]), #[]⟩
noncomputable def o230 (P : Params) : Obj := ⟨(.type "code"), none, (.fields #[(.str (Str.ofString "row") 496), (.str (Str.ofString "Message.row") 497), (.str (Str.ofString "/claim/cut.py") 498), (.int 127 0), (.int 1 0), (.int 0 0), (.int 0 0), (.int 3 0), (.ref 227), (.bool true), (.int 181 0), (.ref 228), .none, .none, .none, (.ref 229), (.int 499 0), (.int 127 0), (.str (Str.ofString "/claim/cut.py") 500)]), #[]⟩
noncomputable def o251 (P : Params) : Obj := ⟨(.type "code"), none, (.fields #[(.str (Str.ofString "majority_vote") 537), (.str (Str.ofString "majority_vote") 538), (.str (Str.ofString "/claim/cut.py") 539), (.int 140 0), (.int 2 0), (.int 0 0), (.int 0 0), (.int 3 0), (.ref 246), (.bool true), (.int 181 0), (.ref 247), .none, (.ref 248), (.ref 249), (.ref 250), (.int 546 0), (.int 140 0), (.str (Str.ofString "/claim/cut.py") 547)]), #[]⟩
noncomputable def o258 (P : Params) : Obj := ⟨(.type "code"), none, (.fields #[(.str (Str.ofString "joint_vote") 549), (.str (Str.ofString "joint_vote") 550), (.str (Str.ofString "/claim/cut.py") 551), (.int 156 0), (.int 3 0), (.int 0 0), (.int 0 0), (.int 3 0), (.ref 253), (.bool true), (.int 181 0), (.ref 254), .none, (.ref 255), (.ref 256), (.ref 257), (.int 557 0), (.int 156 0), (.str (Str.ofString "/claim/cut.py") 558)]), #[]⟩
noncomputable def o272 (P : Params) : Obj := ⟨(.type "code"), none, (.fields #[(.str (Str.ofString "__init__") 572), (.str (Str.ofString "Config.__init__") 573), (.str (Str.ofString "/claim/cut.py") 574), (.int 166 0), (.int 6 0), (.int 0 0), (.int 0 0), (.int 3 0), (.ref 267), (.bool true), (.int 181 0), (.ref 268), .none, (.ref 269), (.ref 270), (.ref 271), (.int 581 0), (.int 166 0), (.str (Str.ofString "/claim/cut.py") 582)]), #[]⟩
noncomputable def o321 (P : Params) : Obj := ⟨(.type "code"), none, (.fields #[(.str (Str.ofString "vote") 627), (.str (Str.ofString "Config.vote") 628), (.str (Str.ofString "/claim/cut.py") 629), (.int 191 0), (.int 2 0), (.int 0 0), (.int 0 0), (.int 3 0), (.ref 316), (.bool true), (.int 181 0), (.ref 317), .none, (.ref 318), (.ref 319), (.ref 320), (.int 632 0), (.int 191 0), (.str (Str.ofString "/claim/cut.py") 633)]), #[]⟩
noncomputable def o349 (P : Params) : Obj := ⟨(.type "code"), none, (.fields #[(.str (Str.ofString "_law_draw") 664), (.str (Str.ofString "_law_draw") 665), (.str (Str.ofString "/claim/cut.py") 666), (.int 200 0), (.int 2 0), (.int 0 0), (.int 0 0), (.int 3 0), (.ref 344), (.bool true), (.int 181 0), (.ref 345), .none, (.ref 346), (.ref 347), (.ref 348), (.int 669 0), (.int 200 0), (.str (Str.ofString "/claim/cut.py") 670)]), #[]⟩
noncomputable def o354 (P : Params) : Obj := ⟨(.type "code"), none, (.fields #[(.str (Str.ofString "_law_ids") 672), (.str (Str.ofString "_law_ids") 673), (.str (Str.ofString "/claim/cut.py") 674), (.int 202 0), (.int 1 0), (.int 0 0), (.int 0 0), (.int 3 0), (.ref 351), (.bool true), (.int 181 0), (.ref 352), .none, .none, .none, (.ref 353), (.int 675 0), (.int 202 0), (.str (Str.ofString "/claim/cut.py") 676)]), #[]⟩
noncomputable def o359 (P : Params) : Obj := ⟨(.type "code"), none, (.fields #[(.str (Str.ofString "_law_wins") 678), (.str (Str.ofString "_law_wins") 679), (.str (Str.ofString "/claim/cut.py") 680), (.int 204 0), (.int 2 0), (.int 0 0), (.int 0 0), (.int 3 0), (.ref 356), (.bool true), (.int 181 0), (.ref 357), .none, .none, .none, (.ref 358), (.int 681 0), (.int 204 0), (.str (Str.ofString "/claim/cut.py") 682)]), #[]⟩
noncomputable def o366 (P : Params) : Obj := ⟨(.type "code"), none, (.fields #[(.str (Str.ofString "_law_request") 684), (.str (Str.ofString "_law_request") 685), (.str (Str.ofString "/claim/cut.py") 686), (.int 206 0), (.int 1 0), (.int 0 0), (.int 0 0), (.int 3 0), (.ref 361), (.bool true), (.int 181 0), (.ref 362), .none, (.ref 363), (.ref 364), (.ref 365), (.int 690 0), (.int 206 0), (.str (Str.ofString "/claim/cut.py") 691)]), #[]⟩
noncomputable def o371 (P : Params) : Obj := ⟨(.type "code"), none, (.fields #[(.str (Str.ofString "_law_heard") 693), (.str (Str.ofString "_law_heard") 694), (.str (Str.ofString "/claim/cut.py") 695), (.int 215 0), (.int 2 0), (.int 0 0), (.int 0 0), (.int 3 0), (.ref 368), (.bool true), (.int 181 0), (.ref 369), .none, .none, .none, (.ref 370), (.int 696 0), (.int 215 0), (.str (Str.ofString "/claim/cut.py") 697)]), #[]⟩
noncomputable def o378 (P : Params) : Obj := ⟨(.type "code"), none, (.fields #[(.str (Str.ofString "_law_gone") 699), (.str (Str.ofString "_law_gone") 700), (.str (Str.ofString "/claim/cut.py") 701), (.int 217 0), (.int 4 0), (.int 0 0), (.int 0 0), (.int 3 0), (.ref 373), (.bool true), (.int 181 0), (.ref 374), .none, (.ref 375), (.ref 376), (.ref 377), (.int 708 0), (.int 217 0), (.str (Str.ofString "/claim/cut.py") 709)]), #[]⟩
noncomputable def o96 (P : Params) : Obj := ⟨(.type "type"), none, (.cls { name := (Str.ofString "ReadStatus"), bases := [(.type "object")], mro := [(.ref 96), (.type "object")], ns := 95, qualname := (Str.ofString "ReadStatus"), hasDict := true, slotNames := [], subclasses := [], abstract := false, collection := none, hasDel := false }), #[none, none, (some (.str (Str.ofString "ReadStatus") 281)), (some (.str (Str.ofString "ReadStatus") 289)), (some (.builtin "object.__new__")), (some (.bool true))]⟩
noncomputable def o152 (P : Params) : Obj := ⟨(.type "type"), none, (.cls { name := (Str.ofString "ReadOnly"), bases := [(.type "object")], mro := [(.ref 152), (.type "object")], ns := 151, qualname := (Str.ofString "ReadOnly"), hasDict := true, slotNames := [], subclasses := [], abstract := false, collection := none, hasDel := false }), #[none, none, (some (.str (Str.ofString "ReadOnly") 313)), (some (.str (Str.ofString "ReadOnly") 321)), (some (.builtin "object.__new__")), (some (.bool true))]⟩
noncomputable def o208 (P : Params) : Obj := ⟨(.type "type"), none, (.cls { name := (Str.ofString "Entry"), bases := [(.type "object")], mro := [(.ref 208), (.type "object")], ns := 207, qualname := (Str.ofString "Entry"), hasDict := true, slotNames := [], subclasses := [], abstract := false, collection := none, hasDel := false }), #[none, none, (some (.str (Str.ofString "Entry") 410)), (some (.str (Str.ofString "Entry") 418)), (some (.builtin "object.__new__")), (some (.bool true))]⟩
noncomputable def o241 (P : Params) : Obj := ⟨(.type "type"), none, (.cls { name := (Str.ofString "Message"), bases := [(.type "object")], mro := [(.ref 241), (.type "object")], ns := 240, qualname := (Str.ofString "Message"), hasDict := true, slotNames := [], subclasses := [], abstract := false, collection := none, hasDel := false }), #[none, none, (some (.str (Str.ofString "Message") 473)), (some (.str (Str.ofString "Message") 481)), (some (.builtin "object.__new__")), (some (.bool true))]⟩
noncomputable def o339 (P : Params) : Obj := ⟨(.type "type"), none, (.cls { name := (Str.ofString "Config"), bases := [(.type "object")], mro := [(.ref 339), (.type "object")], ns := 338, qualname := (Str.ofString "Config"), hasDict := true, slotNames := [], subclasses := [], abstract := false, collection := none, hasDel := false }), #[none, none, (some (.str (Str.ofString "Config") 560)), (some (.str (Str.ofString "Config") 568)), (some (.builtin "object.__new__")), (some (.bool true))]⟩
noncomputable def o95 (P : Params) : Obj := ⟨(.type "dict"), none, (.dict #[⟨PyData.keyHash P (Str.ofString "__module__"), .str (Str.ofString "__module__") 288, (.str (Str.ofString "raftkeep.tracker") 268)⟩, ⟨PyData.keyHash P (Str.ofString "__firstlineno__"), .str (Str.ofString "__firstlineno__") 292, (.int 29 291)⟩, ⟨PyData.keyHash P (Str.ofString "__init__"), .str (Str.ofString "__init__") 301, (.ref 93)⟩, ⟨PyData.keyHash P (Str.ofString "__static_attributes__"), .str (Str.ofString "__static_attributes__") 305, (.ref 94)⟩, ⟨PyData.keyHash P (Str.ofString "__dict__"), .str (Str.ofString "__dict__") 307, (.ref 97)⟩, ⟨PyData.keyHash P (Str.ofString "__weakref__"), .str (Str.ofString "__weakref__") 309, (.ref 98)⟩, ⟨PyData.keyHash P (Str.ofString "__doc__"), .str (Str.ofString "__doc__") 310, .none⟩] 4), #[]⟩
noncomputable def o151 (P : Params) : Obj := ⟨(.type "dict"), none, (.dict #[⟨PyData.keyHash P (Str.ofString "__module__"), .str (Str.ofString "__module__") 320, (.str (Str.ofString "raftkeep.tracker") 268)⟩, ⟨PyData.keyHash P (Str.ofString "__firstlineno__"), .str (Str.ofString "__firstlineno__") 324, (.int 35 323)⟩, ⟨PyData.keyHash P (Str.ofString "__init__"), .str (Str.ofString "__init__") 332, (.ref 114)⟩, ⟨PyData.keyHash P (Str.ofString "add"), .str (Str.ofString "add") 342, (.ref 121)⟩, ⟨PyData.keyHash P (Str.ofString "ack"), .str (Str.ofString "ack") 352, (.ref 128)⟩, ⟨PyData.keyHash P (Str.ofString "advance"), .str (Str.ofString "advance") 365, (.ref 135)⟩, ⟨PyData.keyHash P (Str.ofString "last_context"), .str (Str.ofString "last_context") 372, (.ref 142)⟩, ⟨PyData.keyHash P (Str.ofString "row"), .str (Str.ofString "row") 382, (.ref 149)⟩, ⟨PyData.keyHash P (Str.ofString "__static_attributes__"), .str (Str.ofString "__static_attributes__") 387, (.ref 150)⟩, ⟨PyData.keyHash P (Str.ofString "__dict__"), .str (Str.ofString "__dict__") 389, (.ref 153)⟩, ⟨PyData.keyHash P (Str.ofString "__weakref__"), .str (Str.ofString "__weakref__") 391, (.ref 154)⟩, ⟨PyData.keyHash P (Str.ofString "__doc__"), .str (Str.ofString "__doc__") 392, .none⟩] 4), #[]⟩
noncomputable def o207 (P : Params) : Obj := ⟨(.type "dict"), none, (.dict #[⟨PyData.keyHash P (Str.ofString "__module__"), .str (Str.ofString "__module__") 417, (.str (Str.ofString "raftkeep.messages") 395)⟩, ⟨PyData.keyHash P (Str.ofString "__firstlineno__"), .str (Str.ofString "__firstlineno__") 421, (.int 92 420)⟩, ⟨PyData.keyHash P (Str.ofString "__init__"), .str (Str.ofString "__init__") 432, (.ref 177)⟩, ⟨PyData.keyHash P (Str.ofString "row"), .str (Str.ofString "row") 439, (.ref 184)⟩, ⟨PyData.keyHash P (Str.ofString "copy"), .str (Str.ofString "copy") 446, (.ref 191)⟩, ⟨PyData.keyHash P (Str.ofString "payload"), .str (Str.ofString "payload") 453, (.ref 198)⟩, ⟨PyData.keyHash P (Str.ofString "size"), .str (Str.ofString "size") 460, (.ref 205)⟩, ⟨PyData.keyHash P (Str.ofString "__static_attributes__"), .str (Str.ofString "__static_attributes__") 465, (.ref 206)⟩, ⟨PyData.keyHash P (Str.ofString "__dict__"), .str (Str.ofString "__dict__") 467, (.ref 209)⟩, ⟨PyData.keyHash P (Str.ofString "__weakref__"), .str (Str.ofString "__weakref__") 469, (.ref 210)⟩, ⟨PyData.keyHash P (Str.ofString "__doc__"), .str (Str.ofString "__doc__") 470, .none⟩] 4), #[]⟩
noncomputable def o240 (P : Params) : Obj := ⟨(.type "dict"), none, (.dict #[⟨PyData.keyHash P (Str.ofString "__module__"), .str (Str.ofString "__module__") 480, (.str (Str.ofString "raftkeep.messages") 395)⟩, ⟨PyData.keyHash P (Str.ofString "__firstlineno__"), .str (Str.ofString "__firstlineno__") 484, (.int 111 483)⟩, ⟨PyData.keyHash P (Str.ofString "__init__"), .str (Str.ofString "__init__") 495, (.ref 226)⟩, ⟨PyData.keyHash P (Str.ofString "row"), .str (Str.ofString "row") 501, (.ref 231)⟩, ⟨PyData.keyHash P (Str.ofString "copy"), .str (Str.ofString "copy") 508, (.ref 238)⟩, ⟨PyData.keyHash P (Str.ofString "__static_attributes__"), .str (Str.ofString "__static_attributes__") 521, (.ref 239)⟩, ⟨PyData.keyHash P (Str.ofString "__dict__"), .str (Str.ofString "__dict__") 523, (.ref 242)⟩, ⟨PyData.keyHash P (Str.ofString "__weakref__"), .str (Str.ofString "__weakref__") 525, (.ref 243)⟩, ⟨PyData.keyHash P (Str.ofString "__doc__"), .str (Str.ofString "__doc__") 526, .none⟩] 4), #[]⟩
noncomputable def o338 (P : Params) : Obj := ⟨(.type "dict"), none, (.dict #[⟨PyData.keyHash P (Str.ofString "__module__"), .str (Str.ofString "__module__") 567, (.str (Str.ofString "raftkeep.quorum") 529)⟩, ⟨PyData.keyHash P (Str.ofString "__firstlineno__"), .str (Str.ofString "__firstlineno__") 571, (.int 164 570)⟩, ⟨PyData.keyHash P (Str.ofString "__init__"), .str (Str.ofString "__init__") 583, (.ref 273)⟩, ⟨PyData.keyHash P (Str.ofString "row"), .str (Str.ofString "row") 590, (.ref 280)⟩, ⟨PyData.keyHash P (Str.ofString "copy"), .str (Str.ofString "copy") 597, (.ref 287)⟩, ⟨PyData.keyHash P (Str.ofString "joint"), .str (Str.ofString "joint") 604, (.ref 294)⟩, ⟨PyData.keyHash P (Str.ofString "all_voters"), .str (Str.ofString "all_voters") 611, (.ref 301)⟩, ⟨PyData.keyHash P (Str.ofString "members"), .str (Str.ofString "members") 618, (.ref 308)⟩, ⟨PyData.keyHash P (Str.ofString "committed"), .str (Str.ofString "committed") 626, (.ref 315)⟩, ⟨PyData.keyHash P (Str.ofString "vote"), .str (Str.ofString "vote") 634, (.ref 322)⟩, ⟨PyData.keyHash P (Str.ofString "conf_state"), .str (Str.ofString "conf_state") 641, (.ref 329)⟩, ⟨PyData.keyHash P (Str.ofString "check"), .str (Str.ofString "check") 648, (.ref 336)⟩, ⟨PyData.keyHash P (Str.ofString "__static_attributes__"), .str (Str.ofString "__static_attributes__") 654, (.ref 337)⟩, ⟨PyData.keyHash P (Str.ofString "__dict__"), .str (Str.ofString "__dict__") 656, (.ref 340)⟩, ⟨PyData.keyHash P (Str.ofString "__weakref__"), .str (Str.ofString "__weakref__") 658, (.ref 341)⟩, ⟨PyData.keyHash P (Str.ofString "__doc__"), .str (Str.ofString "__doc__") 659, .none⟩] 4), #[]⟩
noncomputable def o383 (P : Params) : Obj := ⟨(.type "code"), none, (.fields #[(.str (Str.ofString "law") 711), (.str (Str.ofString "law") 712), (.str (Str.ofString "/claim/cut.py") 713), (.int 223 0), (.int 1 0), (.int 0 0), (.int 0 0), (.int 3 0), (.ref 380), (.bool true), (.int 181 0), (.ref 381), .none, .none, .none, (.ref 382), (.int 714 0), (.int 223 0), (.str (Str.ofString "/claim/cut.py") 715)]), #[]⟩
noncomputable def o384 (P : Params) : Obj := ⟨(.type "function"), none, (fnData (stAt 36) (Str.ofString "law") (.str (Str.ofString "law_nz0368_01") 662) (.ref 383)), #[]⟩
noncomputable def K (P : Params) : Frag := [(3, o3 P), (65, o65 P), (72, o72 P), (79, o79 P), (93, o93 P), (114, o114 P), (121, o121 P), (128, o128 P), (135, o135 P), (142, o142 P), (149, o149 P), (163, o163 P), (177, o177 P), (184, o184 P), (226, o226 P), (231, o231 P), (252, o252 P), (259, o259 P), (273, o273 P), (322, o322 P), (350, o350 P), (355, o355 P), (360, o360 P), (367, o367 P), (372, o372 P), (379, o379 P), (384, o384 P), (383, o383 P), (64, o64 P), (71, o71 P), (78, o78 P), (92, o92 P), (113, o113 P), (120, o120 P), (127, o127 P), (134, o134 P), (141, o141 P), (148, o148 P), (162, o162 P), (176, o176 P), (183, o183 P), (225, o225 P), (230, o230 P), (251, o251 P), (258, o258 P), (272, o272 P), (321, o321 P), (349, o349 P), (354, o354 P), (359, o359 P), (366, o366 P), (371, o371 P), (378, o378 P), (96, o96 P), (152, o152 P), (208, o208 P), (241, o241 P), (339, o339 P), (95, o95 P), (151, o151 P), (207, o207 P), (240, o240 P), (338, o338 P)]
noncomputable def Kas : List Addr := [3, 65, 72, 79, 93, 114, 121, 128, 135, 142, 149, 163, 177, 184, 226, 231, 252, 259, 273, 322, 350, 355, 360, 367, 372, 379, 384, 383, 64, 71, 78, 92, 113, 120, 127, 134, 141, 148, 162, 176, 183, 225, 230, 251, 258, 272, 321, 349, 354, 359, 366, 371, 378, 96, 152, 208, 241, 339, 95, 151, 207, 240, 338]

/-! B1 -/
/-! ## what a step leaves standing -/
noncomputable abbrev St (s : Shared) (tk : Nat) : Shared := { s with toks := tk }
/-- all that stands in z stands in h -/
noncomputable def Sub (z h : Heap) : Prop := ∀ a o, z.get? a = some o → h.get? a = some o
theorem Sub.refl (h : Heap) : Sub h h := fun _ _ e => e
theorem Sub.trans {a b c : Heap} (x : Sub a b) (y : Sub b c) : Sub a c := fun p o e => y p o (x p o e)
structure Ext (M : List Addr) (s s' : Shared) : Prop where
  same : ∃ h' tk, s' = { s with heap := h', toks := tk }
  keep : ∀ a o, a ∉ M → s.heap.get? a = some o → s'.heap.get? a = some o
theorem Ext.refl (s : Shared) (M : List Addr) : Ext M s s := ⟨⟨s.heap, s.toks, rfl⟩, fun _ _ _ e => e⟩
theorem Ext.toks (s : Shared) (tk : Nat) : Ext [] s { s with toks := tk } := ⟨⟨s.heap, tk, rfl⟩, fun _ _ _ e => e⟩
theorem Ext.of_heap {s : Shared} {h' : Heap} {tk : Nat} (k : ∀ a o, s.heap.get? a = some o → h'.get? a = some o) : Ext [] s { s with heap := h', toks := tk } :=
  ⟨⟨h', tk, rfl⟩, fun a o _ e => k a o e⟩
theorem Ext.of_but {s : Shared} {h' : Heap} {tk : Nat} {d : Addr} (k : Heap.SameBut d s.heap h') : Ext [d] s { s with heap := h', toks := tk } :=
  ⟨⟨h', tk, rfl⟩, fun a o hn e => (k.2 a (fun q => hn (q ▸ List.mem_singleton.mpr rfl))).trans e⟩
theorem Ext.mono {M M' : List Addr} {s s' : Shared} (x : Ext M s s') (h : ∀ a ∈ M, a ∈ M') : Ext M' s s' := ⟨x.same, fun a o hn e => x.keep a o (fun q => hn (h a q)) e⟩
theorem Ext.any {M : List Addr} {s s' : Shared} (x : Ext [] s s') : Ext M s s' := x.mono fun _ h => nomatch h
theorem Ext.trans {M : List Addr} {s s' s'' : Shared} (x : Ext M s s') (y : Ext M s' s'') : Ext M s s'' := by
  obtain ⟨⟨h1, t1, e1⟩, k1⟩ := x
  obtain ⟨⟨h2, t2, e2⟩, k2⟩ := y
  exact ⟨⟨h2, t2, by rw [e2, e1]⟩, fun a o hn e => k2 a o hn (k1 a o hn e)⟩
theorem Ext.sub {s s' : Shared} (x : Ext [] s s') : Sub s.heap s'.heap := fun a o e => x.keep a o (fun h => nomatch h) e
/-- turned, or not yet there -/
noncomputable def Offs (M : List Addr) (s₀ : Shared) (a : Addr) : Prop := a ∈ M ∨ s₀.heap.get? a = none
/-- a step that turns objects that did not stand at the beginning -/
theorem Ext.fresh {M N : List Addr} {s₀ s s' : Shared} (x : Ext M s₀ s) (y : Ext N s s') (hn : ∀ a ∈ N, Offs M s₀ a) : Ext M s₀ s' := by
  obtain ⟨⟨h1, t1, e1⟩, k1⟩ := x
  obtain ⟨⟨h2, t2, e2⟩, k2⟩ := y
  refine ⟨⟨h2, t2, by rw [e2, e1]⟩, fun a o hm e => k2 a o (fun q => ?_) (k1 a o hm e)⟩
  rcases hn a q with h | h
  · exact hm h
  · rw [h] at e; cases e
theorem Ext.get {M : List Addr} {s s' : Shared} (x : Ext M s s') {a : Addr} {o : Obj} (e : s.heap.get? a = some o) (hn : a ∉ M) : s'.heap.get? a = some o := x.keep a o hn e
theorem Ext.list {M : List Addr} {s s' : Shared} (x : Ext M s s') {a : Addr} {items : Array Value} (hl : s.heap.IsList a items) (hn : a ∉ M) : s'.heap.IsList a items := hl.at fun o e => x.keep a o hn e
theorem Ext.st {M : List Addr} {s s' : Shared} {tk : Nat} (x : Ext M (St s tk) s') : Ext M s s' := ⟨let ⟨h', t, e⟩ := x.same; ⟨h', t, e⟩, x.keep⟩
theorem Ext.st' {M : List Addr} {s s' : Shared} {tk : Nat} (x : Ext M s s') : Ext M s (St s' tk) := ⟨let ⟨h', t, e⟩ := x.same; ⟨h', tk, by rw [e]⟩, x.keep⟩
theorem none_of_ext {M : List Addr} {s s' : Shared} (x : Ext M s s') {a : Addr} (hn : a ∉ M) (e : s'.heap.get? a = none) : s.heap.get? a = none := by
  cases q : s.heap.get? a with
  | none => rfl
  | some o => rw [x.keep a o hn q] at e; cases e
theorem ne_ns {h : Heap} {a b : Addr} {o : Obj} (ha : h.get? a = none) (hb : h.get? b = some o) : a ≠ b := fun e => by rw [e, hb] at ha; cases ha

/-! ## the room -/
noncomputable def Lv (d : Nat) (A : Around) : Prop := A.handled = none ∧ A.depth ≤ d ∧ A.units ≤ 8 * d + 8
theorem Lv.room {d : Nat} {A : Around} (h : Lv d A) (hd : d < 900) : A.depth < recursionLimit := Nat.lt_of_le_of_lt h.2.1 (Nat.lt_trans hd (by decide))
theorem Lv.units {d : Nat} {A : Around} (h : Lv d A) (hd : d < 900) : A.units < cLine := Nat.lt_of_le_of_lt h.2.2 (by simp only [cLine]; omega)
theorem Lv.deeper {d : Nat} {A : Around} (h : Lv d A) (env : Env) : Lv (d + 1) (A.deeper env) := ⟨h.1, Nat.succ_le_succ h.2.1, by rw [Around.deeper_units]; have := h.2.2; omega⟩
theorem Lv.make {d : Nat} {A : Around} (h : Lv d A) (C : Addr) (vals : List Value) : Lv (d + 1) (A.under (.builtin "type.__call__" ⟨.ref C :: vals, []⟩)) :=
  ⟨h.1, by rw [depth_under_make]; exact Nat.succ_le_succ h.2.1, by rw [units_under_make]; have := h.2.2; omega⟩
theorem Lv.in1 {d : Nat} {A : Around} (h : Lv d A) : Lv (d + 1) A.in1 := ⟨h.1, Nat.le_succ_of_le h.2.1, by rw [Around.in1_units]; have := h.2.2; omega⟩

/-! ## names in a table -/
noncomputable def look : List (Str × Value) → Str → Option Value
  | [], _ => none
  | (y, v) :: l, x => if x = y then some v else look l x
theorem lk0 {x : Str} {v : Value} {l : List (Str × Value)} : look ((x, v) :: l) x = some v := if_pos rfl
theorem lkS {x y : Str} {v u : Value} {l : List (Str × Value)} (hn : (x == y) = false) (h : look l x = some v) : look ((y, u) :: l) x = some v :=
  (if_neg (beq_eq_false_iff_ne.mp hn)).trans h
/-- the table at a holds at least l -/
noncomputable def Nm (h : Heap) (a : Addr) (l : List (Str × Value)) : Prop := ∃ m, h.Ns a m ∧ ∀ x v, look l x = some v → m x = some v
theorem Nm.keep {h h' : Heap} {a : Addr} {l : List (Str × Value)} (n : Nm h a l) (k : ∀ o, h.get? a = some o → h'.get? a = some o) : Nm h' a l := let ⟨m, e, q⟩ := n; ⟨m, e.at' k, q⟩
theorem Nm.sub {h h' : Heap} {a : Addr} {l : List (Str × Value)} (n : Nm h a l) (k : Sub h h') : Nm h' a l := n.keep (k a)
theorem Nm.has {h : Heap} {a : Addr} {l : List (Str × Value)} (n : Nm h a l) : ∃ o, h.get? a = some o := let ⟨_, ⟨o, _, _, ho, _⟩, _⟩ := n; ⟨o, ho⟩
theorem Nm.less {h : Heap} {a : Addr} {l l' : List (Str × Value)} (n : Nm h a l) (k : ∀ x v, look l' x = some v → look l x = some v) : Nm h a l' := let ⟨m, e, q⟩ := n; ⟨m, e, fun x v z => q x v (k x v z)⟩
/-- put x := v ahead, and strike what stood there -/
noncomputable def put (x : Str) (v : Value) : List (Str × Value) → List (Str × Value)
  | [] => [(x, v)]
  | (y, u) :: l => if y = x then (x, v) :: l else (y, u) :: put x v l
theorem look_put {x y : Str} {v u : Value} : ∀ {l : List (Str × Value)}, look (put x v l) y = some u → (if y = x then some v else look l y) = some u
  | [], h => by
    unfold put look at h
    by_cases e : y = x
    · rw [if_pos e] at h ⊢; exact h
    · rw [if_neg e] at h; cases h
  | (z, w) :: l, h => by
    unfold put at h
    by_cases e : y = x
    · rw [if_pos e]
      split at h
      · unfold look at h; rwa [if_pos e] at h
      · next hz =>
        unfold look at h
        rw [if_neg (fun q => hz (q.symm.trans e))] at h
        have := look_put h; rwa [if_pos e] at this
    · rw [if_neg e]
      split at h
      · next hz =>
        unfold look at h ⊢
        rw [if_neg e] at h
        rw [hz, if_neg e]; exact h
      · unfold look at h ⊢
        by_cases q : y = z
        · rw [if_pos q] at h ⊢; exact h
        · rw [if_neg q] at h ⊢
          have := look_put h; rwa [if_neg e] at this
theorem Nm.putN {h h' : Heap} {a : Addr} {l : List (Str × Value)} {x : Str} {v : Value} {m : Str → Option Value} (q : ∀ x v, look l x = some v → m x = some v) (n : h'.Ns a fun y => if y = x then some v else m y) : Nm h' a (put x v l) :=
  ⟨_, n, fun y u e => by
    have := look_put e
    by_cases c : y = x
    · rw [if_pos c] at this; rw [if_pos c]; exact this
    · rw [if_neg c] at this; rw [if_neg c]; exact q _ _ this⟩
theorem look_sh {x y : Str} {v u : Value} {l : List (Str × Value)} (h : look ((x, v) :: l) y = some u) : (if y = x then some v else look l y) = some u := h
theorem Nm.sh {h h' : Heap} {a : Addr} {l : List (Str × Value)} {x : Str} {v : Value} {m : Str → Option Value} (q : ∀ x v, look l x = some v → m x = some v) (n : h'.Ns a fun y => if y = x then some v else m y) : Nm h' a ((x, v) :: l) :=
  ⟨_, n, fun y u e => by
    have := look_sh e
    by_cases c : y = x
    · rw [if_pos c] at this; rw [if_pos c]; exact this
    · rw [if_neg c] at this; rw [if_neg c]; exact q _ _ this⟩
theorem puE {x : Str} {v : Value} : put x v [] = [(x, v)] := rfl
theorem pu0 {x : Str} {v u : Value} {l : List (Str × Value)} : put x v ((x, u) :: l) = (x, v) :: l := if_pos rfl
theorem puS {x y : Str} {v u : Value} {l l' : List (Str × Value)} (hn : (y == x) = false) (h : put x v l = l') : put x v ((y, u) :: l) = (y, u) :: l' := by
  unfold put; rw [if_neg (beq_eq_false_iff_ne.mp hn), h]

theorem pr0 {x : Str} {v u : Value} {l : List (Str × Value)} : put x v ((x, u) :: l) = (x, v) :: l := pu0
theorem pr1 {x y1 : Str} {v u u1 : Value} {l : List (Str × Value)} (h : (y1 == x) = false) : put x v ((y1, u1) :: (x, u) :: l) = (y1, u1) :: (x, v) :: l := puS h pu0
theorem pr2 {x y1 y2 : Str} {v u u1 u2 : Value} {l : List (Str × Value)} (h : (y1 == x || (y2 == x)) = false) : put x v ((y1, u1) :: (y2, u2) :: (x, u) :: l) = (y1, u1) :: (y2, u2) :: (x, v) :: l := puS (Bool.or_eq_false_iff.mp h).1 (pr1 (Bool.or_eq_false_iff.mp h).2)
theorem pr3 {x y1 y2 y3 : Str} {v u u1 u2 u3 : Value} {l : List (Str × Value)} (h : (y1 == x || (y2 == x || (y3 == x))) = false) : put x v ((y1, u1) :: (y2, u2) :: (y3, u3) :: (x, u) :: l) = (y1, u1) :: (y2, u2) :: (y3, u3) :: (x, v) :: l := puS (Bool.or_eq_false_iff.mp h).1 (pr2 (Bool.or_eq_false_iff.mp h).2)
theorem pr4 {x y1 y2 y3 y4 : Str} {v u u1 u2 u3 u4 : Value} {l : List (Str × Value)} (h : (y1 == x || (y2 == x || (y3 == x || (y4 == x)))) = false) : put x v ((y1, u1) :: (y2, u2) :: (y3, u3) :: (y4, u4) :: (x, u) :: l) = (y1, u1) :: (y2, u2) :: (y3, u3) :: (y4, u4) :: (x, v) :: l := puS (Bool.or_eq_false_iff.mp h).1 (pr3 (Bool.or_eq_false_iff.mp h).2)
theorem pr5 {x y1 y2 y3 y4 y5 : Str} {v u u1 u2 u3 u4 u5 : Value} {l : List (Str × Value)} (h : (y1 == x || (y2 == x || (y3 == x || (y4 == x || (y5 == x))))) = false) : put x v ((y1, u1) :: (y2, u2) :: (y3, u3) :: (y4, u4) :: (y5, u5) :: (x, u) :: l) = (y1, u1) :: (y2, u2) :: (y3, u3) :: (y4, u4) :: (y5, u5) :: (x, v) :: l := puS (Bool.or_eq_false_iff.mp h).1 (pr4 (Bool.or_eq_false_iff.mp h).2)
theorem pr6 {x y1 y2 y3 y4 y5 y6 : Str} {v u u1 u2 u3 u4 u5 u6 : Value} {l : List (Str × Value)} (h : (y1 == x || (y2 == x || (y3 == x || (y4 == x || (y5 == x || (y6 == x)))))) = false) : put x v ((y1, u1) :: (y2, u2) :: (y3, u3) :: (y4, u4) :: (y5, u5) :: (y6, u6) :: (x, u) :: l) = (y1, u1) :: (y2, u2) :: (y3, u3) :: (y4, u4) :: (y5, u5) :: (y6, u6) :: (x, v) :: l := puS (Bool.or_eq_false_iff.mp h).1 (pr5 (Bool.or_eq_false_iff.mp h).2)
theorem pr7 {x y1 y2 y3 y4 y5 y6 y7 : Str} {v u u1 u2 u3 u4 u5 u6 u7 : Value} {l : List (Str × Value)} (h : (y1 == x || (y2 == x || (y3 == x || (y4 == x || (y5 == x || (y6 == x || (y7 == x))))))) = false) : put x v ((y1, u1) :: (y2, u2) :: (y3, u3) :: (y4, u4) :: (y5, u5) :: (y6, u6) :: (y7, u7) :: (x, u) :: l) = (y1, u1) :: (y2, u2) :: (y3, u3) :: (y4, u4) :: (y5, u5) :: (y6, u6) :: (y7, u7) :: (x, v) :: l := puS (Bool.or_eq_false_iff.mp h).1 (pr6 (Bool.or_eq_false_iff.mp h).2)
theorem pr8 {x y1 y2 y3 y4 y5 y6 y7 y8 : Str} {v u u1 u2 u3 u4 u5 u6 u7 u8 : Value} {l : List (Str × Value)} (h : (y1 == x || (y2 == x || (y3 == x || (y4 == x || (y5 == x || (y6 == x || (y7 == x || (y8 == x)))))))) = false) : put x v ((y1, u1) :: (y2, u2) :: (y3, u3) :: (y4, u4) :: (y5, u5) :: (y6, u6) :: (y7, u7) :: (y8, u8) :: (x, u) :: l) = (y1, u1) :: (y2, u2) :: (y3, u3) :: (y4, u4) :: (y5, u5) :: (y6, u6) :: (y7, u7) :: (y8, u8) :: (x, v) :: l := puS (Bool.or_eq_false_iff.mp h).1 (pr7 (Bool.or_eq_false_iff.mp h).2)
theorem pr9 {x y1 y2 y3 y4 y5 y6 y7 y8 y9 : Str} {v u u1 u2 u3 u4 u5 u6 u7 u8 u9 : Value} {l : List (Str × Value)} (h : (y1 == x || (y2 == x || (y3 == x || (y4 == x || (y5 == x || (y6 == x || (y7 == x || (y8 == x || (y9 == x))))))))) = false) : put x v ((y1, u1) :: (y2, u2) :: (y3, u3) :: (y4, u4) :: (y5, u5) :: (y6, u6) :: (y7, u7) :: (y8, u8) :: (y9, u9) :: (x, u) :: l) = (y1, u1) :: (y2, u2) :: (y3, u3) :: (y4, u4) :: (y5, u5) :: (y6, u6) :: (y7, u7) :: (y8, u8) :: (y9, u9) :: (x, v) :: l := puS (Bool.or_eq_false_iff.mp h).1 (pr8 (Bool.or_eq_false_iff.mp h).2)
theorem pr10 {x y1 y2 y3 y4 y5 y6 y7 y8 y9 y10 : Str} {v u u1 u2 u3 u4 u5 u6 u7 u8 u9 u10 : Value} {l : List (Str × Value)} (h : (y1 == x || (y2 == x || (y3 == x || (y4 == x || (y5 == x || (y6 == x || (y7 == x || (y8 == x || (y9 == x || (y10 == x)))))))))) = false) : put x v ((y1, u1) :: (y2, u2) :: (y3, u3) :: (y4, u4) :: (y5, u5) :: (y6, u6) :: (y7, u7) :: (y8, u8) :: (y9, u9) :: (y10, u10) :: (x, u) :: l) = (y1, u1) :: (y2, u2) :: (y3, u3) :: (y4, u4) :: (y5, u5) :: (y6, u6) :: (y7, u7) :: (y8, u8) :: (y9, u9) :: (y10, u10) :: (x, v) :: l := puS (Bool.or_eq_false_iff.mp h).1 (pr9 (Bool.or_eq_false_iff.mp h).2)
theorem pr11 {x y1 y2 y3 y4 y5 y6 y7 y8 y9 y10 y11 : Str} {v u u1 u2 u3 u4 u5 u6 u7 u8 u9 u10 u11 : Value} {l : List (Str × Value)} (h : (y1 == x || (y2 == x || (y3 == x || (y4 == x || (y5 == x || (y6 == x || (y7 == x || (y8 == x || (y9 == x || (y10 == x || (y11 == x))))))))))) = false) : put x v ((y1, u1) :: (y2, u2) :: (y3, u3) :: (y4, u4) :: (y5, u5) :: (y6, u6) :: (y7, u7) :: (y8, u8) :: (y9, u9) :: (y10, u10) :: (y11, u11) :: (x, u) :: l) = (y1, u1) :: (y2, u2) :: (y3, u3) :: (y4, u4) :: (y5, u5) :: (y6, u6) :: (y7, u7) :: (y8, u8) :: (y9, u9) :: (y10, u10) :: (y11, u11) :: (x, v) :: l := puS (Bool.or_eq_false_iff.mp h).1 (pr10 (Bool.or_eq_false_iff.mp h).2)
theorem pr12 {x y1 y2 y3 y4 y5 y6 y7 y8 y9 y10 y11 y12 : Str} {v u u1 u2 u3 u4 u5 u6 u7 u8 u9 u10 u11 u12 : Value} {l : List (Str × Value)} (h : (y1 == x || (y2 == x || (y3 == x || (y4 == x || (y5 == x || (y6 == x || (y7 == x || (y8 == x || (y9 == x || (y10 == x || (y11 == x || (y12 == x)))))))))))) = false) : put x v ((y1, u1) :: (y2, u2) :: (y3, u3) :: (y4, u4) :: (y5, u5) :: (y6, u6) :: (y7, u7) :: (y8, u8) :: (y9, u9) :: (y10, u10) :: (y11, u11) :: (y12, u12) :: (x, u) :: l) = (y1, u1) :: (y2, u2) :: (y3, u3) :: (y4, u4) :: (y5, u5) :: (y6, u6) :: (y7, u7) :: (y8, u8) :: (y9, u9) :: (y10, u10) :: (y11, u11) :: (y12, u12) :: (x, v) :: l := puS (Bool.or_eq_false_iff.mp h).1 (pr11 (Bool.or_eq_false_iff.mp h).2)
theorem lk1 {x y1 : Str} {v u1 : Value} {l : List (Str × Value)} (h : (x == y1) = false) : look ((y1, u1) :: (x, v) :: l) x = some v := lkS h lk0
theorem lk2 {x y1 y2 : Str} {v u1 u2 : Value} {l : List (Str × Value)} (h : (x == y1 || (x == y2)) = false) : look ((y1, u1) :: (y2, u2) :: (x, v) :: l) x = some v := lkS (Bool.or_eq_false_iff.mp h).1 (lk1 (Bool.or_eq_false_iff.mp h).2)
theorem lk3 {x y1 y2 y3 : Str} {v u1 u2 u3 : Value} {l : List (Str × Value)} (h : (x == y1 || (x == y2 || (x == y3))) = false) : look ((y1, u1) :: (y2, u2) :: (y3, u3) :: (x, v) :: l) x = some v := lkS (Bool.or_eq_false_iff.mp h).1 (lk2 (Bool.or_eq_false_iff.mp h).2)
theorem lk4 {x y1 y2 y3 y4 : Str} {v u1 u2 u3 u4 : Value} {l : List (Str × Value)} (h : (x == y1 || (x == y2 || (x == y3 || (x == y4)))) = false) : look ((y1, u1) :: (y2, u2) :: (y3, u3) :: (y4, u4) :: (x, v) :: l) x = some v := lkS (Bool.or_eq_false_iff.mp h).1 (lk3 (Bool.or_eq_false_iff.mp h).2)
theorem lk5 {x y1 y2 y3 y4 y5 : Str} {v u1 u2 u3 u4 u5 : Value} {l : List (Str × Value)} (h : (x == y1 || (x == y2 || (x == y3 || (x == y4 || (x == y5))))) = false) : look ((y1, u1) :: (y2, u2) :: (y3, u3) :: (y4, u4) :: (y5, u5) :: (x, v) :: l) x = some v := lkS (Bool.or_eq_false_iff.mp h).1 (lk4 (Bool.or_eq_false_iff.mp h).2)
theorem lk6 {x y1 y2 y3 y4 y5 y6 : Str} {v u1 u2 u3 u4 u5 u6 : Value} {l : List (Str × Value)} (h : (x == y1 || (x == y2 || (x == y3 || (x == y4 || (x == y5 || (x == y6)))))) = false) : look ((y1, u1) :: (y2, u2) :: (y3, u3) :: (y4, u4) :: (y5, u5) :: (y6, u6) :: (x, v) :: l) x = some v := lkS (Bool.or_eq_false_iff.mp h).1 (lk5 (Bool.or_eq_false_iff.mp h).2)
theorem lk7 {x y1 y2 y3 y4 y5 y6 y7 : Str} {v u1 u2 u3 u4 u5 u6 u7 : Value} {l : List (Str × Value)} (h : (x == y1 || (x == y2 || (x == y3 || (x == y4 || (x == y5 || (x == y6 || (x == y7))))))) = false) : look ((y1, u1) :: (y2, u2) :: (y3, u3) :: (y4, u4) :: (y5, u5) :: (y6, u6) :: (y7, u7) :: (x, v) :: l) x = some v := lkS (Bool.or_eq_false_iff.mp h).1 (lk6 (Bool.or_eq_false_iff.mp h).2)
theorem lk8 {x y1 y2 y3 y4 y5 y6 y7 y8 : Str} {v u1 u2 u3 u4 u5 u6 u7 u8 : Value} {l : List (Str × Value)} (h : (x == y1 || (x == y2 || (x == y3 || (x == y4 || (x == y5 || (x == y6 || (x == y7 || (x == y8)))))))) = false) : look ((y1, u1) :: (y2, u2) :: (y3, u3) :: (y4, u4) :: (y5, u5) :: (y6, u6) :: (y7, u7) :: (y8, u8) :: (x, v) :: l) x = some v := lkS (Bool.or_eq_false_iff.mp h).1 (lk7 (Bool.or_eq_false_iff.mp h).2)
theorem lk9 {x y1 y2 y3 y4 y5 y6 y7 y8 y9 : Str} {v u1 u2 u3 u4 u5 u6 u7 u8 u9 : Value} {l : List (Str × Value)} (h : (x == y1 || (x == y2 || (x == y3 || (x == y4 || (x == y5 || (x == y6 || (x == y7 || (x == y8 || (x == y9))))))))) = false) : look ((y1, u1) :: (y2, u2) :: (y3, u3) :: (y4, u4) :: (y5, u5) :: (y6, u6) :: (y7, u7) :: (y8, u8) :: (y9, u9) :: (x, v) :: l) x = some v := lkS (Bool.or_eq_false_iff.mp h).1 (lk8 (Bool.or_eq_false_iff.mp h).2)
theorem lk10 {x y1 y2 y3 y4 y5 y6 y7 y8 y9 y10 : Str} {v u1 u2 u3 u4 u5 u6 u7 u8 u9 u10 : Value} {l : List (Str × Value)} (h : (x == y1 || (x == y2 || (x == y3 || (x == y4 || (x == y5 || (x == y6 || (x == y7 || (x == y8 || (x == y9 || (x == y10)))))))))) = false) : look ((y1, u1) :: (y2, u2) :: (y3, u3) :: (y4, u4) :: (y5, u5) :: (y6, u6) :: (y7, u7) :: (y8, u8) :: (y9, u9) :: (y10, u10) :: (x, v) :: l) x = some v := lkS (Bool.or_eq_false_iff.mp h).1 (lk9 (Bool.or_eq_false_iff.mp h).2)
theorem lk11 {x y1 y2 y3 y4 y5 y6 y7 y8 y9 y10 y11 : Str} {v u1 u2 u3 u4 u5 u6 u7 u8 u9 u10 u11 : Value} {l : List (Str × Value)} (h : (x == y1 || (x == y2 || (x == y3 || (x == y4 || (x == y5 || (x == y6 || (x == y7 || (x == y8 || (x == y9 || (x == y10 || (x == y11))))))))))) = false) : look ((y1, u1) :: (y2, u2) :: (y3, u3) :: (y4, u4) :: (y5, u5) :: (y6, u6) :: (y7, u7) :: (y8, u8) :: (y9, u9) :: (y10, u10) :: (y11, u11) :: (x, v) :: l) x = some v := lkS (Bool.or_eq_false_iff.mp h).1 (lk10 (Bool.or_eq_false_iff.mp h).2)
theorem lk12 {x y1 y2 y3 y4 y5 y6 y7 y8 y9 y10 y11 y12 : Str} {v u1 u2 u3 u4 u5 u6 u7 u8 u9 u10 u11 u12 : Value} {l : List (Str × Value)} (h : (x == y1 || (x == y2 || (x == y3 || (x == y4 || (x == y5 || (x == y6 || (x == y7 || (x == y8 || (x == y9 || (x == y10 || (x == y11 || (x == y12)))))))))))) = false) : look ((y1, u1) :: (y2, u2) :: (y3, u3) :: (y4, u4) :: (y5, u5) :: (y6, u6) :: (y7, u7) :: (y8, u8) :: (y9, u9) :: (y10, u10) :: (y11, u11) :: (y12, u12) :: (x, v) :: l) x = some v := lkS (Bool.or_eq_false_iff.mp h).1 (lk11 (Bool.or_eq_false_iff.mp h).2)
theorem lk13 {x y1 y2 y3 y4 y5 y6 y7 y8 y9 y10 y11 y12 y13 : Str} {v u1 u2 u3 u4 u5 u6 u7 u8 u9 u10 u11 u12 u13 : Value} {l : List (Str × Value)} (h : (x == y1 || (x == y2 || (x == y3 || (x == y4 || (x == y5 || (x == y6 || (x == y7 || (x == y8 || (x == y9 || (x == y10 || (x == y11 || (x == y12 || (x == y13))))))))))))) = false) : look ((y1, u1) :: (y2, u2) :: (y3, u3) :: (y4, u4) :: (y5, u5) :: (y6, u6) :: (y7, u7) :: (y8, u8) :: (y9, u9) :: (y10, u10) :: (y11, u11) :: (y12, u12) :: (y13, u13) :: (x, v) :: l) x = some v := lkS (Bool.or_eq_false_iff.mp h).1 (lk12 (Bool.or_eq_false_iff.mp h).2)
theorem lk14 {x y1 y2 y3 y4 y5 y6 y7 y8 y9 y10 y11 y12 y13 y14 : Str} {v u1 u2 u3 u4 u5 u6 u7 u8 u9 u10 u11 u12 u13 u14 : Value} {l : List (Str × Value)} (h : (x == y1 || (x == y2 || (x == y3 || (x == y4 || (x == y5 || (x == y6 || (x == y7 || (x == y8 || (x == y9 || (x == y10 || (x == y11 || (x == y12 || (x == y13 || (x == y14)))))))))))))) = false) : look ((y1, u1) :: (y2, u2) :: (y3, u3) :: (y4, u4) :: (y5, u5) :: (y6, u6) :: (y7, u7) :: (y8, u8) :: (y9, u9) :: (y10, u10) :: (y11, u11) :: (y12, u12) :: (y13, u13) :: (y14, u14) :: (x, v) :: l) x = some v := lkS (Bool.or_eq_false_iff.mp h).1 (lk13 (Bool.or_eq_false_iff.mp h).2)
theorem lk15 {x y1 y2 y3 y4 y5 y6 y7 y8 y9 y10 y11 y12 y13 y14 y15 : Str} {v u1 u2 u3 u4 u5 u6 u7 u8 u9 u10 u11 u12 u13 u14 u15 : Value} {l : List (Str × Value)} (h : (x == y1 || (x == y2 || (x == y3 || (x == y4 || (x == y5 || (x == y6 || (x == y7 || (x == y8 || (x == y9 || (x == y10 || (x == y11 || (x == y12 || (x == y13 || (x == y14 || (x == y15))))))))))))))) = false) : look ((y1, u1) :: (y2, u2) :: (y3, u3) :: (y4, u4) :: (y5, u5) :: (y6, u6) :: (y7, u7) :: (y8, u8) :: (y9, u9) :: (y10, u10) :: (y11, u11) :: (y12, u12) :: (y13, u13) :: (y14, u14) :: (y15, u15) :: (x, v) :: l) x = some v := lkS (Bool.or_eq_false_iff.mp h).1 (lk14 (Bool.or_eq_false_iff.mp h).2)
theorem lk16 {x y1 y2 y3 y4 y5 y6 y7 y8 y9 y10 y11 y12 y13 y14 y15 y16 : Str} {v u1 u2 u3 u4 u5 u6 u7 u8 u9 u10 u11 u12 u13 u14 u15 u16 : Value} {l : List (Str × Value)} (h : (x == y1 || (x == y2 || (x == y3 || (x == y4 || (x == y5 || (x == y6 || (x == y7 || (x == y8 || (x == y9 || (x == y10 || (x == y11 || (x == y12 || (x == y13 || (x == y14 || (x == y15 || (x == y16)))))))))))))))) = false) : look ((y1, u1) :: (y2, u2) :: (y3, u3) :: (y4, u4) :: (y5, u5) :: (y6, u6) :: (y7, u7) :: (y8, u8) :: (y9, u9) :: (y10, u10) :: (y11, u11) :: (y12, u12) :: (y13, u13) :: (y14, u14) :: (y15, u15) :: (y16, u16) :: (x, v) :: l) x = some v := lkS (Bool.or_eq_false_iff.mp h).1 (lk15 (Bool.or_eq_false_iff.mp h).2)
theorem lk17 {x y1 y2 y3 y4 y5 y6 y7 y8 y9 y10 y11 y12 y13 y14 y15 y16 y17 : Str} {v u1 u2 u3 u4 u5 u6 u7 u8 u9 u10 u11 u12 u13 u14 u15 u16 u17 : Value} {l : List (Str × Value)} (h : (x == y1 || (x == y2 || (x == y3 || (x == y4 || (x == y5 || (x == y6 || (x == y7 || (x == y8 || (x == y9 || (x == y10 || (x == y11 || (x == y12 || (x == y13 || (x == y14 || (x == y15 || (x == y16 || (x == y17))))))))))))))))) = false) : look ((y1, u1) :: (y2, u2) :: (y3, u3) :: (y4, u4) :: (y5, u5) :: (y6, u6) :: (y7, u7) :: (y8, u8) :: (y9, u9) :: (y10, u10) :: (y11, u11) :: (y12, u12) :: (y13, u13) :: (y14, u14) :: (y15, u15) :: (y16, u16) :: (y17, u17) :: (x, v) :: l) x = some v := lkS (Bool.or_eq_false_iff.mp h).1 (lk16 (Bool.or_eq_false_iff.mp h).2)
theorem lk18 {x y1 y2 y3 y4 y5 y6 y7 y8 y9 y10 y11 y12 y13 y14 y15 y16 y17 y18 : Str} {v u1 u2 u3 u4 u5 u6 u7 u8 u9 u10 u11 u12 u13 u14 u15 u16 u17 u18 : Value} {l : List (Str × Value)} (h : (x == y1 || (x == y2 || (x == y3 || (x == y4 || (x == y5 || (x == y6 || (x == y7 || (x == y8 || (x == y9 || (x == y10 || (x == y11 || (x == y12 || (x == y13 || (x == y14 || (x == y15 || (x == y16 || (x == y17 || (x == y18)))))))))))))))))) = false) : look ((y1, u1) :: (y2, u2) :: (y3, u3) :: (y4, u4) :: (y5, u5) :: (y6, u6) :: (y7, u7) :: (y8, u8) :: (y9, u9) :: (y10, u10) :: (y11, u11) :: (y12, u12) :: (y13, u13) :: (y14, u14) :: (y15, u15) :: (y16, u16) :: (y17, u17) :: (y18, u18) :: (x, v) :: l) x = some v := lkS (Bool.or_eq_false_iff.mp h).1 (lk17 (Bool.or_eq_false_iff.mp h).2)
theorem lk19 {x y1 y2 y3 y4 y5 y6 y7 y8 y9 y10 y11 y12 y13 y14 y15 y16 y17 y18 y19 : Str} {v u1 u2 u3 u4 u5 u6 u7 u8 u9 u10 u11 u12 u13 u14 u15 u16 u17 u18 u19 : Value} {l : List (Str × Value)} (h : (x == y1 || (x == y2 || (x == y3 || (x == y4 || (x == y5 || (x == y6 || (x == y7 || (x == y8 || (x == y9 || (x == y10 || (x == y11 || (x == y12 || (x == y13 || (x == y14 || (x == y15 || (x == y16 || (x == y17 || (x == y18 || (x == y19))))))))))))))))))) = false) : look ((y1, u1) :: (y2, u2) :: (y3, u3) :: (y4, u4) :: (y5, u5) :: (y6, u6) :: (y7, u7) :: (y8, u8) :: (y9, u9) :: (y10, u10) :: (y11, u11) :: (y12, u12) :: (y13, u13) :: (y14, u14) :: (y15, u15) :: (y16, u16) :: (y17, u17) :: (y18, u18) :: (y19, u19) :: (x, v) :: l) x = some v := lkS (Bool.or_eq_false_iff.mp h).1 (lk18 (Bool.or_eq_false_iff.mp h).2)
theorem lk20 {x y1 y2 y3 y4 y5 y6 y7 y8 y9 y10 y11 y12 y13 y14 y15 y16 y17 y18 y19 y20 : Str} {v u1 u2 u3 u4 u5 u6 u7 u8 u9 u10 u11 u12 u13 u14 u15 u16 u17 u18 u19 u20 : Value} {l : List (Str × Value)} (h : (x == y1 || (x == y2 || (x == y3 || (x == y4 || (x == y5 || (x == y6 || (x == y7 || (x == y8 || (x == y9 || (x == y10 || (x == y11 || (x == y12 || (x == y13 || (x == y14 || (x == y15 || (x == y16 || (x == y17 || (x == y18 || (x == y19 || (x == y20)))))))))))))))))))) = false) : look ((y1, u1) :: (y2, u2) :: (y3, u3) :: (y4, u4) :: (y5, u5) :: (y6, u6) :: (y7, u7) :: (y8, u8) :: (y9, u9) :: (y10, u10) :: (y11, u11) :: (y12, u12) :: (y13, u13) :: (y14, u14) :: (y15, u15) :: (y16, u16) :: (y17, u17) :: (y18, u18) :: (y19, u19) :: (y20, u20) :: (x, v) :: l) x = some v := lkS (Bool.or_eq_false_iff.mp h).1 (lk19 (Bool.or_eq_false_iff.mp h).2)
theorem lk21 {x y1 y2 y3 y4 y5 y6 y7 y8 y9 y10 y11 y12 y13 y14 y15 y16 y17 y18 y19 y20 y21 : Str} {v u1 u2 u3 u4 u5 u6 u7 u8 u9 u10 u11 u12 u13 u14 u15 u16 u17 u18 u19 u20 u21 : Value} {l : List (Str × Value)} (h : (x == y1 || (x == y2 || (x == y3 || (x == y4 || (x == y5 || (x == y6 || (x == y7 || (x == y8 || (x == y9 || (x == y10 || (x == y11 || (x == y12 || (x == y13 || (x == y14 || (x == y15 || (x == y16 || (x == y17 || (x == y18 || (x == y19 || (x == y20 || (x == y21))))))))))))))))))))) = false) : look ((y1, u1) :: (y2, u2) :: (y3, u3) :: (y4, u4) :: (y5, u5) :: (y6, u6) :: (y7, u7) :: (y8, u8) :: (y9, u9) :: (y10, u10) :: (y11, u11) :: (y12, u12) :: (y13, u13) :: (y14, u14) :: (y15, u15) :: (y16, u16) :: (y17, u17) :: (y18, u18) :: (y19, u19) :: (y20, u20) :: (y21, u21) :: (x, v) :: l) x = some v := lkS (Bool.or_eq_false_iff.mp h).1 (lk20 (Bool.or_eq_false_iff.mp h).2)
theorem lk22 {x y1 y2 y3 y4 y5 y6 y7 y8 y9 y10 y11 y12 y13 y14 y15 y16 y17 y18 y19 y20 y21 y22 : Str} {v u1 u2 u3 u4 u5 u6 u7 u8 u9 u10 u11 u12 u13 u14 u15 u16 u17 u18 u19 u20 u21 u22 : Value} {l : List (Str × Value)} (h : (x == y1 || (x == y2 || (x == y3 || (x == y4 || (x == y5 || (x == y6 || (x == y7 || (x == y8 || (x == y9 || (x == y10 || (x == y11 || (x == y12 || (x == y13 || (x == y14 || (x == y15 || (x == y16 || (x == y17 || (x == y18 || (x == y19 || (x == y20 || (x == y21 || (x == y22)))))))))))))))))))))) = false) : look ((y1, u1) :: (y2, u2) :: (y3, u3) :: (y4, u4) :: (y5, u5) :: (y6, u6) :: (y7, u7) :: (y8, u8) :: (y9, u9) :: (y10, u10) :: (y11, u11) :: (y12, u12) :: (y13, u13) :: (y14, u14) :: (y15, u15) :: (y16, u16) :: (y17, u17) :: (y18, u18) :: (y19, u19) :: (y20, u20) :: (y21, u21) :: (y22, u22) :: (x, v) :: l) x = some v := lkS (Bool.or_eq_false_iff.mp h).1 (lk21 (Bool.or_eq_false_iff.mp h).2)
theorem lk23 {x y1 y2 y3 y4 y5 y6 y7 y8 y9 y10 y11 y12 y13 y14 y15 y16 y17 y18 y19 y20 y21 y22 y23 : Str} {v u1 u2 u3 u4 u5 u6 u7 u8 u9 u10 u11 u12 u13 u14 u15 u16 u17 u18 u19 u20 u21 u22 u23 : Value} {l : List (Str × Value)} (h : (x == y1 || (x == y2 || (x == y3 || (x == y4 || (x == y5 || (x == y6 || (x == y7 || (x == y8 || (x == y9 || (x == y10 || (x == y11 || (x == y12 || (x == y13 || (x == y14 || (x == y15 || (x == y16 || (x == y17 || (x == y18 || (x == y19 || (x == y20 || (x == y21 || (x == y22 || (x == y23))))))))))))))))))))))) = false) : look ((y1, u1) :: (y2, u2) :: (y3, u3) :: (y4, u4) :: (y5, u5) :: (y6, u6) :: (y7, u7) :: (y8, u8) :: (y9, u9) :: (y10, u10) :: (y11, u11) :: (y12, u12) :: (y13, u13) :: (y14, u14) :: (y15, u15) :: (y16, u16) :: (y17, u17) :: (y18, u18) :: (y19, u19) :: (y20, u20) :: (y21, u21) :: (y22, u22) :: (y23, u23) :: (x, v) :: l) x = some v := lkS (Bool.or_eq_false_iff.mp h).1 (lk22 (Bool.or_eq_false_iff.mp h).2)
theorem lk24 {x y1 y2 y3 y4 y5 y6 y7 y8 y9 y10 y11 y12 y13 y14 y15 y16 y17 y18 y19 y20 y21 y22 y23 y24 : Str} {v u1 u2 u3 u4 u5 u6 u7 u8 u9 u10 u11 u12 u13 u14 u15 u16 u17 u18 u19 u20 u21 u22 u23 u24 : Value} {l : List (Str × Value)} (h : (x == y1 || (x == y2 || (x == y3 || (x == y4 || (x == y5 || (x == y6 || (x == y7 || (x == y8 || (x == y9 || (x == y10 || (x == y11 || (x == y12 || (x == y13 || (x == y14 || (x == y15 || (x == y16 || (x == y17 || (x == y18 || (x == y19 || (x == y20 || (x == y21 || (x == y22 || (x == y23 || (x == y24)))))))))))))))))))))))) = false) : look ((y1, u1) :: (y2, u2) :: (y3, u3) :: (y4, u4) :: (y5, u5) :: (y6, u6) :: (y7, u7) :: (y8, u8) :: (y9, u9) :: (y10, u10) :: (y11, u11) :: (y12, u12) :: (y13, u13) :: (y14, u14) :: (y15, u15) :: (y16, u16) :: (y17, u17) :: (y18, u18) :: (y19, u19) :: (y20, u20) :: (y21, u21) :: (y22, u22) :: (y23, u23) :: (y24, u24) :: (x, v) :: l) x = some v := lkS (Bool.or_eq_false_iff.mp h).1 (lk23 (Bool.or_eq_false_iff.mp h).2)
theorem lk25 {x y1 y2 y3 y4 y5 y6 y7 y8 y9 y10 y11 y12 y13 y14 y15 y16 y17 y18 y19 y20 y21 y22 y23 y24 y25 : Str} {v u1 u2 u3 u4 u5 u6 u7 u8 u9 u10 u11 u12 u13 u14 u15 u16 u17 u18 u19 u20 u21 u22 u23 u24 u25 : Value} {l : List (Str × Value)} (h : (x == y1 || (x == y2 || (x == y3 || (x == y4 || (x == y5 || (x == y6 || (x == y7 || (x == y8 || (x == y9 || (x == y10 || (x == y11 || (x == y12 || (x == y13 || (x == y14 || (x == y15 || (x == y16 || (x == y17 || (x == y18 || (x == y19 || (x == y20 || (x == y21 || (x == y22 || (x == y23 || (x == y24 || (x == y25))))))))))))))))))))))))) = false) : look ((y1, u1) :: (y2, u2) :: (y3, u3) :: (y4, u4) :: (y5, u5) :: (y6, u6) :: (y7, u7) :: (y8, u8) :: (y9, u9) :: (y10, u10) :: (y11, u11) :: (y12, u12) :: (y13, u13) :: (y14, u14) :: (y15, u15) :: (y16, u16) :: (y17, u17) :: (y18, u18) :: (y19, u19) :: (y20, u20) :: (y21, u21) :: (y22, u22) :: (y23, u23) :: (y24, u24) :: (y25, u25) :: (x, v) :: l) x = some v := lkS (Bool.or_eq_false_iff.mp h).1 (lk24 (Bool.or_eq_false_iff.mp h).2)
theorem lk26 {x y1 y2 y3 y4 y5 y6 y7 y8 y9 y10 y11 y12 y13 y14 y15 y16 y17 y18 y19 y20 y21 y22 y23 y24 y25 y26 : Str} {v u1 u2 u3 u4 u5 u6 u7 u8 u9 u10 u11 u12 u13 u14 u15 u16 u17 u18 u19 u20 u21 u22 u23 u24 u25 u26 : Value} {l : List (Str × Value)} (h : (x == y1 || (x == y2 || (x == y3 || (x == y4 || (x == y5 || (x == y6 || (x == y7 || (x == y8 || (x == y9 || (x == y10 || (x == y11 || (x == y12 || (x == y13 || (x == y14 || (x == y15 || (x == y16 || (x == y17 || (x == y18 || (x == y19 || (x == y20 || (x == y21 || (x == y22 || (x == y23 || (x == y24 || (x == y25 || (x == y26)))))))))))))))))))))))))) = false) : look ((y1, u1) :: (y2, u2) :: (y3, u3) :: (y4, u4) :: (y5, u5) :: (y6, u6) :: (y7, u7) :: (y8, u8) :: (y9, u9) :: (y10, u10) :: (y11, u11) :: (y12, u12) :: (y13, u13) :: (y14, u14) :: (y15, u15) :: (y16, u16) :: (y17, u17) :: (y18, u18) :: (y19, u19) :: (y20, u20) :: (y21, u21) :: (y22, u22) :: (y23, u23) :: (y24, u24) :: (y25, u25) :: (y26, u26) :: (x, v) :: l) x = some v := lkS (Bool.or_eq_false_iff.mp h).1 (lk25 (Bool.or_eq_false_iff.mp h).2)
theorem lk27 {x y1 y2 y3 y4 y5 y6 y7 y8 y9 y10 y11 y12 y13 y14 y15 y16 y17 y18 y19 y20 y21 y22 y23 y24 y25 y26 y27 : Str} {v u1 u2 u3 u4 u5 u6 u7 u8 u9 u10 u11 u12 u13 u14 u15 u16 u17 u18 u19 u20 u21 u22 u23 u24 u25 u26 u27 : Value} {l : List (Str × Value)} (h : (x == y1 || (x == y2 || (x == y3 || (x == y4 || (x == y5 || (x == y6 || (x == y7 || (x == y8 || (x == y9 || (x == y10 || (x == y11 || (x == y12 || (x == y13 || (x == y14 || (x == y15 || (x == y16 || (x == y17 || (x == y18 || (x == y19 || (x == y20 || (x == y21 || (x == y22 || (x == y23 || (x == y24 || (x == y25 || (x == y26 || (x == y27))))))))))))))))))))))))))) = false) : look ((y1, u1) :: (y2, u2) :: (y3, u3) :: (y4, u4) :: (y5, u5) :: (y6, u6) :: (y7, u7) :: (y8, u8) :: (y9, u9) :: (y10, u10) :: (y11, u11) :: (y12, u12) :: (y13, u13) :: (y14, u14) :: (y15, u15) :: (y16, u16) :: (y17, u17) :: (y18, u18) :: (y19, u19) :: (y20, u20) :: (y21, u21) :: (y22, u22) :: (y23, u23) :: (y24, u24) :: (y25, u25) :: (y26, u26) :: (y27, u27) :: (x, v) :: l) x = some v := lkS (Bool.or_eq_false_iff.mp h).1 (lk26 (Bool.or_eq_false_iff.mp h).2)
theorem lk28 {x y1 y2 y3 y4 y5 y6 y7 y8 y9 y10 y11 y12 y13 y14 y15 y16 y17 y18 y19 y20 y21 y22 y23 y24 y25 y26 y27 y28 : Str} {v u1 u2 u3 u4 u5 u6 u7 u8 u9 u10 u11 u12 u13 u14 u15 u16 u17 u18 u19 u20 u21 u22 u23 u24 u25 u26 u27 u28 : Value} {l : List (Str × Value)} (h : (x == y1 || (x == y2 || (x == y3 || (x == y4 || (x == y5 || (x == y6 || (x == y7 || (x == y8 || (x == y9 || (x == y10 || (x == y11 || (x == y12 || (x == y13 || (x == y14 || (x == y15 || (x == y16 || (x == y17 || (x == y18 || (x == y19 || (x == y20 || (x == y21 || (x == y22 || (x == y23 || (x == y24 || (x == y25 || (x == y26 || (x == y27 || (x == y28)))))))))))))))))))))))))))) = false) : look ((y1, u1) :: (y2, u2) :: (y3, u3) :: (y4, u4) :: (y5, u5) :: (y6, u6) :: (y7, u7) :: (y8, u8) :: (y9, u9) :: (y10, u10) :: (y11, u11) :: (y12, u12) :: (y13, u13) :: (y14, u14) :: (y15, u15) :: (y16, u16) :: (y17, u17) :: (y18, u18) :: (y19, u19) :: (y20, u20) :: (y21, u21) :: (y22, u22) :: (y23, u23) :: (y24, u24) :: (y25, u25) :: (y26, u26) :: (y27, u27) :: (y28, u28) :: (x, v) :: l) x = some v := lkS (Bool.or_eq_false_iff.mp h).1 (lk27 (Bool.or_eq_false_iff.mp h).2)
theorem lk29 {x y1 y2 y3 y4 y5 y6 y7 y8 y9 y10 y11 y12 y13 y14 y15 y16 y17 y18 y19 y20 y21 y22 y23 y24 y25 y26 y27 y28 y29 : Str} {v u1 u2 u3 u4 u5 u6 u7 u8 u9 u10 u11 u12 u13 u14 u15 u16 u17 u18 u19 u20 u21 u22 u23 u24 u25 u26 u27 u28 u29 : Value} {l : List (Str × Value)} (h : (x == y1 || (x == y2 || (x == y3 || (x == y4 || (x == y5 || (x == y6 || (x == y7 || (x == y8 || (x == y9 || (x == y10 || (x == y11 || (x == y12 || (x == y13 || (x == y14 || (x == y15 || (x == y16 || (x == y17 || (x == y18 || (x == y19 || (x == y20 || (x == y21 || (x == y22 || (x == y23 || (x == y24 || (x == y25 || (x == y26 || (x == y27 || (x == y28 || (x == y29))))))))))))))))))))))))))))) = false) : look ((y1, u1) :: (y2, u2) :: (y3, u3) :: (y4, u4) :: (y5, u5) :: (y6, u6) :: (y7, u7) :: (y8, u8) :: (y9, u9) :: (y10, u10) :: (y11, u11) :: (y12, u12) :: (y13, u13) :: (y14, u14) :: (y15, u15) :: (y16, u16) :: (y17, u17) :: (y18, u18) :: (y19, u19) :: (y20, u20) :: (y21, u21) :: (y22, u22) :: (y23, u23) :: (y24, u24) :: (y25, u25) :: (y26, u26) :: (y27, u27) :: (y28, u28) :: (y29, u29) :: (x, v) :: l) x = some v := lkS (Bool.or_eq_false_iff.mp h).1 (lk28 (Bool.or_eq_false_iff.mp h).2)
theorem lk30 {x y1 y2 y3 y4 y5 y6 y7 y8 y9 y10 y11 y12 y13 y14 y15 y16 y17 y18 y19 y20 y21 y22 y23 y24 y25 y26 y27 y28 y29 y30 : Str} {v u1 u2 u3 u4 u5 u6 u7 u8 u9 u10 u11 u12 u13 u14 u15 u16 u17 u18 u19 u20 u21 u22 u23 u24 u25 u26 u27 u28 u29 u30 : Value} {l : List (Str × Value)} (h : (x == y1 || (x == y2 || (x == y3 || (x == y4 || (x == y5 || (x == y6 || (x == y7 || (x == y8 || (x == y9 || (x == y10 || (x == y11 || (x == y12 || (x == y13 || (x == y14 || (x == y15 || (x == y16 || (x == y17 || (x == y18 || (x == y19 || (x == y20 || (x == y21 || (x == y22 || (x == y23 || (x == y24 || (x == y25 || (x == y26 || (x == y27 || (x == y28 || (x == y29 || (x == y30)))))))))))))))))))))))))))))) = false) : look ((y1, u1) :: (y2, u2) :: (y3, u3) :: (y4, u4) :: (y5, u5) :: (y6, u6) :: (y7, u7) :: (y8, u8) :: (y9, u9) :: (y10, u10) :: (y11, u11) :: (y12, u12) :: (y13, u13) :: (y14, u14) :: (y15, u15) :: (y16, u16) :: (y17, u17) :: (y18, u18) :: (y19, u19) :: (y20, u20) :: (y21, u21) :: (y22, u22) :: (y23, u23) :: (y24, u24) :: (y25, u25) :: (y26, u26) :: (y27, u27) :: (y28, u28) :: (y29, u29) :: (y30, u30) :: (x, v) :: l) x = some v := lkS (Bool.or_eq_false_iff.mp h).1 (lk29 (Bool.or_eq_false_iff.mp h).2)
theorem pu1e {x y1 : Str} {v u1 : Value} (h : (y1 == x) = false) : put x v [(y1, u1)] = [(y1, u1), (x, v)] := puS h puE
theorem pu2e {x y1 y2 : Str} {v u1 u2 : Value} (h : (y1 == x || (y2 == x)) = false) : put x v [(y1, u1), (y2, u2)] = [(y1, u1), (y2, u2), (x, v)] := puS (Bool.or_eq_false_iff.mp h).1 (pu1e (Bool.or_eq_false_iff.mp h).2)
theorem pu3e {x y1 y2 y3 : Str} {v u1 u2 u3 : Value} (h : (y1 == x || (y2 == x || (y3 == x))) = false) : put x v [(y1, u1), (y2, u2), (y3, u3)] = [(y1, u1), (y2, u2), (y3, u3), (x, v)] := puS (Bool.or_eq_false_iff.mp h).1 (pu2e (Bool.or_eq_false_iff.mp h).2)
theorem pu4e {x y1 y2 y3 y4 : Str} {v u1 u2 u3 u4 : Value} (h : (y1 == x || (y2 == x || (y3 == x || (y4 == x)))) = false) : put x v [(y1, u1), (y2, u2), (y3, u3), (y4, u4)] = [(y1, u1), (y2, u2), (y3, u3), (y4, u4), (x, v)] := puS (Bool.or_eq_false_iff.mp h).1 (pu3e (Bool.or_eq_false_iff.mp h).2)
theorem pu5e {x y1 y2 y3 y4 y5 : Str} {v u1 u2 u3 u4 u5 : Value} (h : (y1 == x || (y2 == x || (y3 == x || (y4 == x || (y5 == x))))) = false) : put x v [(y1, u1), (y2, u2), (y3, u3), (y4, u4), (y5, u5)] = [(y1, u1), (y2, u2), (y3, u3), (y4, u4), (y5, u5), (x, v)] := puS (Bool.or_eq_false_iff.mp h).1 (pu4e (Bool.or_eq_false_iff.mp h).2)
theorem pu6e {x y1 y2 y3 y4 y5 y6 : Str} {v u1 u2 u3 u4 u5 u6 : Value} (h : (y1 == x || (y2 == x || (y3 == x || (y4 == x || (y5 == x || (y6 == x)))))) = false) : put x v [(y1, u1), (y2, u2), (y3, u3), (y4, u4), (y5, u5), (y6, u6)] = [(y1, u1), (y2, u2), (y3, u3), (y4, u4), (y5, u5), (y6, u6), (x, v)] := puS (Bool.or_eq_false_iff.mp h).1 (pu5e (Bool.or_eq_false_iff.mp h).2)
theorem pu7e {x y1 y2 y3 y4 y5 y6 y7 : Str} {v u1 u2 u3 u4 u5 u6 u7 : Value} (h : (y1 == x || (y2 == x || (y3 == x || (y4 == x || (y5 == x || (y6 == x || (y7 == x))))))) = false) : put x v [(y1, u1), (y2, u2), (y3, u3), (y4, u4), (y5, u5), (y6, u6), (y7, u7)] = [(y1, u1), (y2, u2), (y3, u3), (y4, u4), (y5, u5), (y6, u6), (y7, u7), (x, v)] := puS (Bool.or_eq_false_iff.mp h).1 (pu6e (Bool.or_eq_false_iff.mp h).2)
theorem pu8e {x y1 y2 y3 y4 y5 y6 y7 y8 : Str} {v u1 u2 u3 u4 u5 u6 u7 u8 : Value} (h : (y1 == x || (y2 == x || (y3 == x || (y4 == x || (y5 == x || (y6 == x || (y7 == x || (y8 == x)))))))) = false) : put x v [(y1, u1), (y2, u2), (y3, u3), (y4, u4), (y5, u5), (y6, u6), (y7, u7), (y8, u8)] = [(y1, u1), (y2, u2), (y3, u3), (y4, u4), (y5, u5), (y6, u6), (y7, u7), (y8, u8), (x, v)] := puS (Bool.or_eq_false_iff.mp h).1 (pu7e (Bool.or_eq_false_iff.mp h).2)
theorem pu9e {x y1 y2 y3 y4 y5 y6 y7 y8 y9 : Str} {v u1 u2 u3 u4 u5 u6 u7 u8 u9 : Value} (h : (y1 == x || (y2 == x || (y3 == x || (y4 == x || (y5 == x || (y6 == x || (y7 == x || (y8 == x || (y9 == x))))))))) = false) : put x v [(y1, u1), (y2, u2), (y3, u3), (y4, u4), (y5, u5), (y6, u6), (y7, u7), (y8, u8), (y9, u9)] = [(y1, u1), (y2, u2), (y3, u3), (y4, u4), (y5, u5), (y6, u6), (y7, u7), (y8, u8), (y9, u9), (x, v)] := puS (Bool.or_eq_false_iff.mp h).1 (pu8e (Bool.or_eq_false_iff.mp h).2)
theorem pu10e {x y1 y2 y3 y4 y5 y6 y7 y8 y9 y10 : Str} {v u1 u2 u3 u4 u5 u6 u7 u8 u9 u10 : Value} (h : (y1 == x || (y2 == x || (y3 == x || (y4 == x || (y5 == x || (y6 == x || (y7 == x || (y8 == x || (y9 == x || (y10 == x)))))))))) = false) : put x v [(y1, u1), (y2, u2), (y3, u3), (y4, u4), (y5, u5), (y6, u6), (y7, u7), (y8, u8), (y9, u9), (y10, u10)] = [(y1, u1), (y2, u2), (y3, u3), (y4, u4), (y5, u5), (y6, u6), (y7, u7), (y8, u8), (y9, u9), (y10, u10), (x, v)] := puS (Bool.or_eq_false_iff.mp h).1 (pu9e (Bool.or_eq_false_iff.mp h).2)
theorem pu11e {x y1 y2 y3 y4 y5 y6 y7 y8 y9 y10 y11 : Str} {v u1 u2 u3 u4 u5 u6 u7 u8 u9 u10 u11 : Value} (h : (y1 == x || (y2 == x || (y3 == x || (y4 == x || (y5 == x || (y6 == x || (y7 == x || (y8 == x || (y9 == x || (y10 == x || (y11 == x))))))))))) = false) : put x v [(y1, u1), (y2, u2), (y3, u3), (y4, u4), (y5, u5), (y6, u6), (y7, u7), (y8, u8), (y9, u9), (y10, u10), (y11, u11)] = [(y1, u1), (y2, u2), (y3, u3), (y4, u4), (y5, u5), (y6, u6), (y7, u7), (y8, u8), (y9, u9), (y10, u10), (y11, u11), (x, v)] := puS (Bool.or_eq_false_iff.mp h).1 (pu10e (Bool.or_eq_false_iff.mp h).2)
theorem pu12e {x y1 y2 y3 y4 y5 y6 y7 y8 y9 y10 y11 y12 : Str} {v u1 u2 u3 u4 u5 u6 u7 u8 u9 u10 u11 u12 : Value} (h : (y1 == x || (y2 == x || (y3 == x || (y4 == x || (y5 == x || (y6 == x || (y7 == x || (y8 == x || (y9 == x || (y10 == x || (y11 == x || (y12 == x)))))))))))) = false) : put x v [(y1, u1), (y2, u2), (y3, u3), (y4, u4), (y5, u5), (y6, u6), (y7, u7), (y8, u8), (y9, u9), (y10, u10), (y11, u11), (y12, u12)] = [(y1, u1), (y2, u2), (y3, u3), (y4, u4), (y5, u5), (y6, u6), (y7, u7), (y8, u8), (y9, u9), (y10, u10), (y11, u11), (y12, u12), (x, v)] := puS (Bool.or_eq_false_iff.mp h).1 (pu11e (Bool.or_eq_false_iff.mp h).2)

/-! ## what stands at the bottom -/
structure Base (w : World) (h : Heap) : Prop where
  k : (K w.params).In h
  g : ∃ mg, h.Ns mainGlobals mg
  b : ∃ mb, h.Ns builtinsNs mb ∧ ∀ x : Str, x ≠ "__name__" → mb x = bootBuiltins x
  nolimit : h.NoLimit
theorem Base.sub {w : World} {h h' : Heap} (x : Base w h) (k : Sub h h') : Base w h' :=
  ⟨x.k.keeps k, let ⟨mg, e⟩ := x.g; ⟨mg, e.keeps k⟩, let ⟨mb, e, q⟩ := x.b; ⟨mb, e.keeps k, q⟩, x.nolimit.keeps k⟩
theorem Base.ext {w : World} {s s' : Shared} (x : Base w s.heap) (e : Ext [] s s') : Base w s'.heap := x.sub e.sub

/-! ## a frame -/
structure Fm (M : List Addr) (s₀ : Shared) (env : Env) (l cl : List (Str × Value)) (s : Shared) : Prop where
  ext : Ext M s₀ s
  ns : Nm s.heap env.locals l
  cell : ∀ n c, env.cells.lookup n = some c → ∃ o, s.heap.IsCell c o ∧ ∀ v, look cl n = some v → o = some v
/-- the frame's own objects -/
noncomputable def own (env : Env) : List Addr := env.locals :: env.cells.map (·.2)
structure Own (s₀ : Shared) (env : Env) : Prop where
  off : ∀ a ∈ own env, s₀.heap.get? a = none
  apart : env.cells.Pairwise fun x y => x.2 ≠ y.2
  above : ∀ n c, (n, c) ∈ env.cells → env.locals < c
theorem Own.loc {s₀ : Shared} {env : Env} (O : Own s₀ env) : s₀.heap.get? env.locals = none := O.off _ List.mem_cons_self
theorem Own.cell {s₀ : Shared} {env : Env} (O : Own s₀ env) {n : Str} {c : Addr} (h : env.cells.lookup n = some c) : s₀.heap.get? c = none := O.off _ (List.mem_cons_of_mem _ (List.mem_map.mpr ⟨(n, c), mem_of_lookup h, rfl⟩))
/-- not the frame's own -/
noncomputable def OffOwn (env : Env) (a : Addr) : Prop := a ≠ env.locals ∧ ∀ n c, env.cells.lookup n = some c → a ≠ c
theorem Own.not {s₀ : Shared} {env : Env} (O : Own s₀ env) {a : Addr} {o : Obj} (h : s₀.heap.get? a = some o) : OffOwn env a :=
  ⟨(fun e => by rw [e, O.loc] at h; cases h), (fun n c hc e => by rw [e, O.cell hc] at h; cases h)⟩
theorem Own.ne {s₀ : Shared} {env : Env} (O : Own s₀ env) {n : Str} {c : Addr} (h : env.cells.lookup n = some c) : c ≠ env.locals := Nat.ne_of_gt (O.above n c (mem_of_lookup h))
section
variable {M N : List Addr} {s₀ s s' : Shared} {env : Env} {l cl : List (Str × Value)}
theorem Fm.sub (F : Fm [] s₀ env l cl s) : Sub s₀.heap s.heap := F.ext.sub
theorem Fm.step (F : Fm M s₀ env l cl s) (x : Ext N s s') (hN : ∀ a ∈ N, OffOwn env a ∧ Offs M s₀ a) : Fm M s₀ env l cl s' := by
  refine ⟨F.ext.fresh x fun a h => (hN a h).2, F.ns.keep fun o e => x.keep _ o (fun h => (hN _ h).1.1 rfl) e, fun n c hc => ?_⟩
  obtain ⟨v, ⟨oc, ho, hd⟩, q⟩ := F.cell n c hc
  exact ⟨v, ⟨oc, x.keep c oc (fun h => (hN c h).1.2 n c hc rfl) ho, hd⟩, q⟩
/-- what is not yet there is not the frame's own -/
theorem Fm.new (F : Fm M s₀ env l cl s) {a : Addr} (h : s.heap.get? a = none) : OffOwn env a := by
  refine ⟨fun e => ?_, fun n c hc e => ?_⟩
  · obtain ⟨o, ho⟩ := F.ns.has
    rw [e, ho] at h; cases h
  · obtain ⟨v, ⟨o, ho, _⟩, _⟩ := F.cell n c hc
    rw [e, ho] at h; cases h
theorem Fm.offs (F : Fm M s₀ env l cl s) {a : Addr} (h : s.heap.get? a = none) (hM : ∀ b ∈ M, ∃ o, s.heap.get? b = some o) : OffOwn env a ∧ Offs M s₀ a :=
  ⟨F.new h, .inr (none_of_ext F.ext (fun q => by obtain ⟨o, ho⟩ := hM a q; rw [ho] at h; cases h) h)⟩
theorem Fm.offs0 (F : Fm [] s₀ env l cl s) {a : Addr} (h : s.heap.get? a = none) : OffOwn env a ∧ Offs [] s₀ a := F.offs h fun _ q => nomatch q
theorem Fm.step0 (F : Fm M s₀ env l cl s) (x : Ext [] s s') : Fm M s₀ env l cl s' := F.step x fun _ h => nomatch h
theorem Fm.less {l' cl' : List (Str × Value)} (F : Fm M s₀ env l cl s) (k : ∀ x v, look l' x = some v → look l x = some v) (kc : ∀ x v, look cl' x = some v → look cl x = some v) : Fm M s₀ env l' cl' s :=
  ⟨F.ext, F.ns.less k, fun n c h => let ⟨o, a, b⟩ := F.cell n c h; ⟨o, a, fun v e => b v (kc _ _ e)⟩⟩
theorem Fm.mono (F : Fm M s₀ env l cl s) (h : ∀ a ∈ M, a ∈ N) : Fm N s₀ env l cl s := ⟨F.ext.mono h, F.ns, F.cell⟩
theorem Fm.base {w : World} (F : Fm [] s₀ env l cl s) (hb : Base w s₀.heap) : Base w s.heap := hb.sub F.sub
end
section
variable {prog : Program} {w : World} {A : Around} {E : Value → Shared → Prop} {s s₀ : Shared} {tk : Nat} {M : List Addr} {env : Env} {l cl : List (Str × Value)}
theorem toSt {α : Type} {t : Sem α} {Q : α → Shared → Prop} (h : ∀ tk, wpAny (model prog w) A t Q E (St s tk)) : wpAny (model prog w) A t Q E s := h s.toks

theorem nmL {x : Str} {pos : Pos} {v : Value} {Q : Value → Shared → Prop} (F : Fm M s₀ env l cl s) (hv : look l x = some v) (h : Q v (St s tk))
    (hk : env.scope.kind = .function := by kernel_rfl) (hl : env.kindOf x = some .local := by kernel_rfl) (hd : (x == ("__debug__" : Str)) = false := by kernel_rfl) :
    wpAny (model prog w) A (eval (.Name x pos) env) Q E (St s tk) := let ⟨m, n, q⟩ := F.ns; wpAny_Name (wpAny_loadName_local hk hl n (q _ _ hv) h) hd
theorem nmC {x : Str} {pos : Pos} {v : Value} {Q : Value → Shared → Prop} (F : Fm M s₀ env l cl s) (hv : look cl x = some v) (h : Q v (St s tk)) (hc : (env.cells.lookup x).isSome = true := by kernel_rfl)
    (hk : env.scope.kind = .function := by kernel_rfl) (hl : env.kindOf x = some .cell := by kernel_rfl) (hd : (x == ("__debug__" : Str)) = false := by kernel_rfl) :
    wpAny (model prog w) A (eval (.Name x pos) env) Q E (St s tk) := by
  obtain ⟨c, hc⟩ := Option.isSome_iff_exists.mp hc
  obtain ⟨o, ho, q⟩ := F.cell x c hc
  rw [q v hv] at ho
  exact wpAny_Name (wpAny_loadName_cell hk hl hc ho h) hd
theorem Fm.cellsOf {cs : List (Str × Addr)} (F : Fm M s₀ env l cl s) (e : env.cells = cs) : ∀ n c, cs.lookup n = some c → ∃ o, s.heap.IsCell c o ∧ ∀ v, look cl n = some v → o = some v := e ▸ F.cell
theorem nmG {x : Str} {pos : Pos} (v : Value) {Q : Value → Shared → Prop} (hb : Base w s.heap) (h : Q v (St s tk)) (e : nsIn (K w.params) mainGlobals x = some (some v) := by kernel_rfl)
    (hg : env.globals = mainGlobals := by kernel_rfl) (hk : env.scope.kind = .function := by kernel_rfl) (hx : env.kindOf x = some .globalImplicit := by kernel_rfl) (hd : (x == ("__debug__" : Str)) = false := by kernel_rfl) :
    wpAny (model prog w) A (eval (.Name x pos) env) Q E (St s tk) :=
  let ⟨_, G⟩ := hb.g
  Name_function_global hk hx (loadGlobal_global (env := env) (hg ▸ G) (mg_of hb.k G e) h) hd
theorem nmB {x : Str} {pos : Pos} (v : Value) {Q : Value → Shared → Prop} (hb : Base w s.heap) (hv : bootBuiltins x = some v) (h : Q v (St s tk)) (e : nsIn (K w.params) mainGlobals x = some none := by kernel_rfl) (hn : (x == "__name__") = false := by kernel_rfl)
    (hg : env.globals = mainGlobals := by kernel_rfl) (hbn : env.builtins = builtinsNs := by kernel_rfl) (hk : env.scope.kind = .function := by kernel_rfl) (hx : env.kindOf x = some .globalImplicit := by kernel_rfl) (hd : (x == ("__debug__" : Str)) = false := by kernel_rfl) :
    wpAny (model prog w) A (eval (.Name x pos) env) Q E (St s tk) :=
  let ⟨_, G⟩ := hb.g
  let ⟨_, B, q⟩ := hb.b
  Name_function_global hk hx (loadGlobal_builtin (env := env) (hg ▸ G) (mg_none_of hb.k G e) (hbn ▸ B) ((q x (beq_eq_false_iff_ne.mp hn)).trans hv) h) hd
theorem stoLo {x : Str} {v : Value} {Q : Unit → Shared → Prop} (F : Fm M s₀ env l cl s) (ho : Offs M s₀ env.locals) (hne : ∀ n c, env.cells.lookup n = some c → c ≠ env.locals) (h : ∀ s' tk', Ext [env.locals] s s' → Fm M s₀ env ((x, v) :: l) cl s' → Q () (St s' tk'))
    (hk : env.scope.kind = .function := by kernel_rfl) (hl : env.kindOf x = some .local := by kernel_rfl) : wpAny (model prog w) A (storeName env x v) Q E (St s tk) := by
  obtain ⟨m, n, q⟩ := F.ns
  refine wpAny_storeName_local hl n (fun h' hn hs => h { s with heap := h', toks := tk + 1 } _ (Ext.of_but hs) ?_) (by rw [hk]; rfl)
  refine ⟨F.ext.fresh (Ext.of_but hs) fun a ha => (List.mem_singleton.mp ha) ▸ ho, Nm.sh (h := s.heap) q hn, fun n c hc => ?_⟩
  obtain ⟨o, ho, z⟩ := F.cell n c hc
  exact ⟨o, ho.sameBut hs (hne n c hc), z⟩
theorem stoL {x : Str} {v : Value} {Q : Unit → Shared → Prop} (F : Fm M s₀ env l cl s) (O : Own s₀ env) (h : ∀ s' tk', Ext [env.locals] s s' → Fm M s₀ env ((x, v) :: l) cl s' → Q () (St s' tk'))
    (hk : env.scope.kind = .function := by kernel_rfl) (hl : env.kindOf x = some .local := by kernel_rfl) : wpAny (model prog w) A (storeName env x v) Q E (St s tk) :=
  stoLo F (.inr O.loc) (fun n c hc => O.ne hc) h hk hl
theorem stoC {x : Str} {c : Addr} {v : Value} {Q : Unit → Shared → Prop} (F : Fm M s₀ env l cl s) (O : Own s₀ env) (h : ∀ s' tk', Ext [c] s s' → Fm M s₀ env l ((x, v) :: cl) s' → Q () (St s' tk')) (hc : env.cells.lookup x = some c := by kernel_rfl)
    (hk : env.scope.kind = .function := by kernel_rfl) (hl : env.kindOf x = some .cell := by kernel_rfl) : wpAny (model prog w) A (storeName env x v) Q E (St s tk) := by
  have hLc := O.above x c (mem_of_lookup hc)
  obtain ⟨oc, hoc, _⟩ := F.cell x c hc
  refine wpAny_storeName_cell hk hl hc hoc fun h' hc' hs' => ?_
  refine h { s with heap := h', toks := tk } tk (Ext.of_but hs') ?_
  refine ⟨F.ext.fresh (Ext.of_but hs') fun a ha => Or.inr ((List.mem_singleton.mp ha) ▸ O.cell hc), F.ns.keep fun o e => (hs'.2 _ (Nat.ne_of_lt hLc)).trans e, fun k c' hk' => ?_⟩
  by_cases hkn : k = x
  · subst hkn
    rw [hc] at hk'; cases hk'
    refine ⟨_, hc', fun u e => ?_⟩
    have := look_sh e; rwa [if_pos rfl] at this
  · obtain ⟨o, ho, z⟩ := F.cell k c' hk'
    refine ⟨o, ho.sameBut hs' fun e => hkn (name_of_addr O.apart (mem_of_lookup hk') (e ▸ mem_of_lookup hc)), fun u e => ?_⟩
    have := look_sh e; rw [if_neg hkn] at this; exact z u this
end

/-! ## a call of a def of the text -/
theorem bindL_sup {kind : Str → Option NameKind} : ∀ (bs : List (Str × Value)) (l : List (Str × Value)) (m : Str → Option Value), (∀ x v, look l x = some v → m x = some v) →
    ∀ x v, look ((bs.filter fun y => kind y.1 == some .local).reverse ++ l) x = some v → bindL kind bs m x = some v
  | [], l, m, h, x, v, e => h x v e
  | (n, u) :: r, l, m, h, x, v, e => by
    show bindL kind r (if kind n = some .local then fun y => if y = n then some u else m y else m) x = some v
    by_cases c : kind n = some .local
    · rw [if_pos c]
      rw [List.filter_cons_of_pos (by simpa using c), List.reverse_cons, List.append_assoc] at e
      refine bindL_sup r ((n, u) :: l) _ (fun y w z => ?_) x v e
      by_cases q : y = n
      · rw [if_pos q]; unfold look at z; rwa [if_pos q] at z
      · rw [if_neg q]; unfold look at z; rw [if_neg q] at z; exact h y w z
    · rw [if_neg c]
      rw [List.filter_cons_of_neg (by simpa using c)] at e
      exact bindL_sup r l m h x v e
theorem bindC_sup {kind : Str → Option NameKind} : ∀ (bs : List (Str × Value)) (l : List (Str × Value)) (m : Str → Option Value), (∀ x v, look l x = some v → m x = some v) →
    ∀ x v, look ((bs.filter fun y => !(kind y.1 == some .local)).reverse ++ l) x = some v → bindC kind bs m x = some v
  | [], l, m, h, x, v, e => h x v e
  | (n, u) :: r, l, m, h, x, v, e => by
    show bindC kind r (if kind n = some .local then m else fun y => if y = n then some u else m y) x = some v
    by_cases c : kind n = some .local
    · rw [if_pos c]
      rw [List.filter_cons_of_neg (by simpa using c)] at e
      exact bindC_sup r l m h x v e
    · rw [if_neg c]
      rw [List.filter_cons_of_pos (by simpa using c), List.reverse_cons, List.append_assoc] at e
      refine bindC_sup r ((n, u) :: l) _ (fun y w z => ?_) x v e
      by_cases q : y = n
      · rw [if_pos q]; unfold look at z; rwa [if_pos q] at z
      · rw [if_neg q]; unfold look at z; rw [if_neg q] at z; exact h y w z
noncomputable abbrev fenv (st : Stmt) (qual : Str) (pm cd : Value) (L f : Addr) : Env := callEnvC (fnFd st qual pm cd) L f
section
variable {prog : Program} {w : World} {A : Around} {E : Value → Shared → Prop} {s : Shared} {tk : Nat}
theorem callC {d : Nat} {f : Addr} {st : Stmt} {qual : Str} {pm cd : Value} {vals : List Value} {bs ll cl : List (Str × Value)} {R : Result → Shared → Prop} (hb : Base w s.heap) (hA : Lv d A) (hd : d < 900)
    (ho : (K w.params).lookup f = some ⟨.type "function", none, fnData st qual pm cd, #[]⟩) (hc : codeIn (K w.params) cd qual = true)
    (hbind : bindArgs (fnFd st qual pm cd) ⟨vals, []⟩ = pure bs) (hkind : (bs.all fun y => (dScope st).names.lookup y.1 == some .local || (dScope st).names.lookup y.1 == some .cell) = true)
    (hl : (bs.filter fun y => (fenv st qual pm cd s.heap.objs.size f).kindOf y.1 == some .local).reverse ++ [] = ll) (hcl : (bs.filter fun y => !((fenv st qual pm cd s.heap.objs.size f).kindOf y.1 == some .local)).reverse ++ [] = cl)
    (h : ∀ s₁ tk₁ A₁, Lv (d + 1) A₁ → Own s (fenv st qual pm cd s.heap.objs.size f) → Fm [] s (fenv st qual pm cd s.heap.objs.size f) ll cl s₁ →
      wpAny (model prog w) A₁ (execs (dBody st) (fenv st qual pm cd s.heap.objs.size f)) (fun fl s' => R (.ok (.ret (match fl with | .ret v => v | _ => .none))) s') (fun _ _ => False) (St s₁ tk₁))
    (hco : (dScope st).isCoroutine = false := by kernel_rfl) (hgen : (dScope st).isGenerator = false := by kernel_rfl) (hk : (dScope st).kind = .function := by kernel_rfl) :
    codeAny (model prog w) A (.call (.ref f) ⟨vals, []⟩) R (St s tk) := by
  subst hl hcl
  refine codeAny_call_cells (s := St s tk) (fd := fnFd st qual pm cd) (hA.room hd) (hb.k _ _ ho) rfl hb.nolimit (codeRec_of hb.k hc) rfl hbind rfl (kindsX hkind _) (fun s₁ x => ?_) hco hgen hk
  have e : Ext [] s s₁ := (Ext.mk x.toInCall.same fun a o _ e => x.toInCall.keep a o e : Ext [] (St s tk) s₁).st
  have O : Own s (fenv st qual pm cd s.heap.objs.size f) := by
    refine ⟨fun a ha => ?_, x.apart, x.above⟩
    have hge : s.heap.objs.size ≤ a := by
      rcases List.mem_cons.mp ha with rfl | ha
      · exact x.toInCall.fresh
      · obtain ⟨p, hp, rfl⟩ := List.mem_map.mp ha
        exact Nat.le_trans x.toInCall.fresh (Nat.le_of_lt (x.above p.1 p.2 hp))
    exact Heap.get?_none_of_le hge
  have F : Fm [] s (fenv st qual pm cd s.heap.objs.size f) _ _ s₁ := ⟨e, ⟨_, x.toInCall.ns, bindL_sup _ [] _ fun _ _ e => nomatch e⟩, fun n c hc => ⟨_, x.cell n c hc, bindC_sup _ [] _ (fun _ _ e => nomatch e) n⟩⟩
  exact wpAny_mono (h s₁ s₁.toks _ (hA.deeper _) O F) (fun _ _ q => q) fun _ _ q => q.elim
theorem callF {d : Nat} {f : Addr} {st : Stmt} {qual : Str} {pm cd : Value} {vals : List Value} {bs ll cl : List (Str × Value)} {Q : Value → Shared → Prop} (hb : Base w s.heap) (hA : Lv d A) (hd : d < 900)
    (ho : (K w.params).lookup f = some ⟨.type "function", none, fnData st qual pm cd, #[]⟩) (hc : codeIn (K w.params) cd qual = true)
    (hbind : bindArgs (fnFd st qual pm cd) ⟨vals, []⟩ = pure bs) (hkind : (bs.all fun y => (dScope st).names.lookup y.1 == some .local || (dScope st).names.lookup y.1 == some .cell) = true)
    (hl : (bs.filter fun y => (fenv st qual pm cd s.heap.objs.size f).kindOf y.1 == some .local).reverse ++ [] = ll) (hcl : (bs.filter fun y => !((fenv st qual pm cd s.heap.objs.size f).kindOf y.1 == some .local)).reverse ++ [] = cl)
    (h : ∀ s₁ tk₁ A₁, Lv (d + 1) A₁ → Own s (fenv st qual pm cd s.heap.objs.size f) → Fm [] s (fenv st qual pm cd s.heap.objs.size f) ll cl s₁ →
      wpAny (model prog w) A₁ (execs (dBody st) (fenv st qual pm cd s.heap.objs.size f)) (fun fl s' => Q (match fl with | .ret v => v | _ => .none) s') (fun _ _ => False) (St s₁ tk₁))
    (hco : (dScope st).isCoroutine = false := by kernel_rfl) (hgen : (dScope st).isGenerator = false := by kernel_rfl) (hk : (dScope st).kind = .function := by kernel_rfl) :
    wpAny (model prog w) A (call (.ref f) vals) Q E (St s tk) :=
  wpAny_call (callC hb hA hd ho hc hbind hkind hl hcl h hco hgen hk)
end

/-! B2 -/
theorem iteT {a b : Prop} (h : a) : if true = true then a else b := by simpa using h
theorem iteF {a b : Prop} (h : b) : if false = true then a else b := by simpa using h
theorem iteT1 {a b : Prop} (h : a) : if (!false) = true then a else b := by simpa using h
theorem iteF1 {a b : Prop} (h : b) : if (!true) = true then a else b := by simpa using h
theorem iteT2 {a b : Prop} (h : a) : if (!!true) = true then a else b := by simpa using h
theorem iteF2 {a b : Prop} (h : b) : if (!!false) = true then a else b := by simpa using h
theorem le_line {n : Nat} (h : Nat.ble n 16777216 = true) : n ≤ sizeLine := by rw [sizeLine_eq]; exact Nat.le_of_ble_eq_true h
theorem le_line' {n : Nat} (h : n ≤ 16777216) : n ≤ sizeLine := by rw [sizeLine_eq]; exact h
section
variable {prog : Program} {w : World} {A : Around} {E : Value → Shared → Prop} {s : Shared} {tk : Nat} {env : Env}
/-! ## constants and ints -/
theorem cInt {i k pos} {Q : Value → Shared → Prop} (h : ∀ t tk', Q (.int i t) (St s tk')) : wpAny (model prog w) A (eval (.Constant (.int i) k pos) env) Q E (St s tk) := wpAny_Constant_int (h _ _)
theorem cBytes {x : List UInt8} {k pos} {Q : Value → Shared → Prop} (h : ∀ t tk', Q (.bytes x.toArray t) (St s tk')) : wpAny (model prog w) A (eval (.Constant (.bytes x) k pos) env) Q E (St s tk) := Constant_bytes (h _ _)
theorem cBool {b k pos} {Q : Value → Shared → Prop} (h : Q (.bool b) (St s tk)) : wpAny (model prog w) A (eval (.Constant (.bool b) k pos) env) Q E (St s tk) := wpAny_Constant_bool h
theorem cNone {k pos} {Q : Value → Shared → Prop} (h : Q .none (St s tk)) : wpAny (model prog w) A (eval (.Constant .none k pos) env) Q E (St s tk) := wpAny_Constant_none h
section
variable {a b : Int} {t u : Tok} {Q : Value → Shared → Prop}
theorem bAdd (h : ∀ t' tk', Q (.int (a + b) t') (St s tk')) : wpAny (model prog w) A (binaryOp .Add (.int a t) (.int b u)) Q E (St s tk) := PyProof.Rows.add_int (h _ _)
theorem iAdd (h : ∀ t' tk', Q (.int (a + b) t') (St s tk')) : wpAny (model prog w) A (inplaceOp .Add (.int a t) (.int b u)) Q E (St s tk) := PyProof.Rows.iadd_int (h _ _)
theorem bSub (h : ∀ t' tk', Q (.int (a - b) t') (St s tk')) : wpAny (model prog w) A (binaryOp .Sub (.int a t) (.int b u)) Q E (St s tk) := PyProof.Rows.sub_int (h _ _)
theorem bMul (hm : IntMulOk a b) (h : ∀ t' tk', Q (.int (a * b) t') (St s tk')) : wpAny (model prog w) A (binaryOp .Mult (.int a t) (.int b u)) Q E (St s tk) := PyProof.Rows.mul_int (h _ _) hm
theorem bDiv (hb : 0 < b) (hb2 : b < 1073741824) (h : ∀ t' tk', Q (.int (a / b) t') (St s tk')) : wpAny (model prog w) A (binaryOp .FloorDiv (.int a t) (.int b u)) Q E (St s tk) :=
  floordiv_int (Int.ne_of_gt hb) (by rw [Int.fdiv_eq_ediv_of_nonneg _ (Int.le_of_lt hb)]; exact h _ _) (Or.inl (PyProof.noPylong_small (by omega)))
theorem bMod (hb : 0 < b) (h : ∀ t' tk', Q (.int (a % b) t') (St s tk')) : wpAny (model prog w) A (binaryOp .Mod (.int a t) (.int b u)) Q E (St s tk) :=
  mod_int' (Int.ne_of_gt hb) (by rw [Int.fmod_eq_emod_of_nonneg _ (Int.le_of_lt hb)]; exact h _ _)
theorem bAnd (h : ∀ t' tk', Q (.int (Builtin.bitAnd a b) t') (St s tk')) : wpAny (model prog w) A (binaryOp .BitAnd (.int a t) (.int b u)) Q E (St s tk) := and_int (h _ _)
theorem bShr (hb : 0 ≤ b) (h : ∀ t' tk', Q (.int (a / 2 ^ b.toNat) t') (St s tk')) : wpAny (model prog w) A (binaryOp .RShift (.int a t) (.int b u)) Q E (St s tk) :=
  rshift_int hb (by rw [Int.fdiv_eq_ediv_of_nonneg _ (Int.le_of_lt (Int.pow_pos (by decide)))]; exact h _ _)
theorem bPow (hn : 0 ≤ b) (hn2 : b ≤ 1000000) (ha : a.natAbs < 2 ^ 64) (h : ∀ t' tk', Q (.int (a ^ b.toNat) t') (St s tk')) : wpAny (model prog w) A (binaryOp .Pow (.int a t) (.int b u)) Q E (St s tk) := pow_int_small hn hn2 ha (h _ _)
theorem uNeg (h : ∀ t' tk', Q (.int (-a) t') (St s tk')) : wpAny (model prog w) A (unaryOp .USub (.int a t)) Q E (St s tk) := PyProof.Rows.neg_int (h _ _)
theorem cLt (h : Q (.bool (decide (a < b))) (St s tk)) : wpAny (model prog w) A (compareOp .Lt (.int a t) (.int b u)) Q E (St s tk) := PyProof.Rows.lt_int h
theorem cGt (h : Q (.bool (decide (b < a))) (St s tk)) : wpAny (model prog w) A (compareOp .Gt (.int a t) (.int b u)) Q E (St s tk) := PyProof.Rows.gt_int h
theorem cGe (h : Q (.bool (decide (b ≤ a))) (St s tk)) : wpAny (model prog w) A (compareOp .GtE (.int a t) (.int b u)) Q E (St s tk) := P.ge_int h
theorem cEq (h : Q (.bool (a == b)) (St s tk)) : wpAny (model prog w) A (compareOp .Eq (.int a t) (.int b u)) Q E (St s tk) := PyProof.Rows.eq_int h
theorem cNe (h : Q (.bool (a != b)) (St s tk)) : wpAny (model prog w) A (compareOp .NotEq (.int a t) (.int b u)) Q E (St s tk) := PyProof.Rows.ne_int h
end
theorem nnNone {Q : Value → Shared → Prop} (h : Q (.bool false) (St s tk)) : wpAny (model prog w) A (compareOp .IsNot .none .none) Q E (St s tk) := wpAny_isNot_self rfl h
theorem trB {b : Bool} {Q : Bool → Shared → Prop} (h : Q b (St s tk)) : wpAny (model prog w) A (truthy (.bool b)) Q E (St s tk) := wpAny_truthy_bool h
/-! ## bytes -/
section
variable {b c : Array UInt8} {t u : Tok} {Q : Value → Shared → Prop}
theorem yAdd (hsz : b.size + c.size ≤ 16777216) (h : ∀ t' tk', Q (.bytes (b ++ c) t') (St s tk')) : wpAny (model prog w) A (binaryOp .Add (.bytes b t) (.bytes c u)) Q E (St s tk) := PySem.W.KBy.add_bytes hsz fun t' k => h t' k
theorem yEq (h : Q (.bool (b.toList == c.toList)) (St s tk)) : wpAny (model prog w) A (compareOp .Eq (.bytes b t) (.bytes c u)) Q E (St s tk) := PySem.W.eq_bytes h
theorem yNe (h : Q (.bool (b.toList != c.toList)) (St s tk)) : wpAny (model prog w) A (compareOp .NotEq (.bytes b t) (.bytes c u)) Q E (St s tk) := PySem.W.ne_bytes h
theorem yLen (hfit : b.size ≤ 1099511627776) (h : ∀ t' tk', Q (.int b.size t') (St s tk')) : wpAny (model prog w) A (call (.builtin "len") [.bytes b t]) Q E (St s tk) := PySem.W.len_bytes hfit (h _ _)
end
theorem exB {l : List Stmt} {st : Stmt} {rest : List Stmt} {Q : Flow → Shared → Prop} (e : l = st :: rest) (h : wpAny (model prog w) A (execs (st :: rest) env) Q E (St s tk)) : wpAny (model prog w) A (execs l env) Q E (St s tk) := e ▸ h
/-! ## calls -/
section
variable {Q : Value → Shared → Prop}
theorem argN {pos : Pos} {Q : List Value → Shared → Prop} (h : Q [] (St s tk)) : wpAny (model prog w) A (spliced (backTo pos (starEach [] env))) Q E (St s tk) := spliced_nil h
theorem argC {e : Expr} {rest : List Expr} {pos : Pos} {Q : List Value → Shared → Prop}
    (h : wpAny (model prog w) A (eval e env) (fun v s₁ => wpAny (model prog w) A (spliced (backTo pos (starEach rest env))) (fun vs s₂ => Q (v :: vs) s₂) E s₁) E (St s tk))
    (he : starEach (e :: rest) env = (false, eval e env) :: starEach rest env := by kernel_rfl) : wpAny (model prog w) A (spliced (backTo pos (starEach (e :: rest) env))) Q E (St s tk) := args_cons h he
theorem callE {func : Expr} {args : List Expr} {pos : Pos}
    (h : wpAny (model prog w) A (eval func env) (fun f s₁ => wpAny (model prog w) A (callWith pos f [] (backTo pos (starEach args env)) []) Q E s₁) E (St s tk))
    (he : eval (.Call func args [] pos) env = (do callWith pos (← eval func env) [] (backTo pos (starEach args env)) (backToKw pos (keywordEach [] env))) := by kernel_rfl) :
    wpAny (model prog w) A (eval (.Call func args [] pos) env) Q E (St s tk) := Call_ h he
theorem mcall {o : Expr} {name : Str} {apos pos : Pos} {args : List Expr}
    (h : wpAny (model prog w) A (eval o env) (fun ov s₁ => wpAny (model prog w) A (getMethod ov name (do return (← importBound o env).getD true)) (fun fx s₂ => wpAny (model prog w) A (callWith pos fx.1 fx.2 (backTo pos (starEach args env)) []) Q E s₂) E s₁) E (St s tk))
    (he : eval (.Call (.Attribute o name apos) args [] pos) env = (do
      let ov ← eval o env
      standAt apos.atName
      let (f, first) ← holding [ov] (getMethod ov name (do return (← importBound o env).getD true))
      callWith pos f first (backTo pos (starEach args env)) (backToKw pos (keywordEach [] env))) := by kernel_rfl) :
    wpAny (model prog w) A (eval (.Call (.Attribute o name apos) args [] pos) env) Q E (St s tk) := methodCall_KW h he
/-- a type called with one argument or more -/
theorem cwT {pos : Pos} {T : String} {e : Expr} {rest : List Expr}
    (h : wpAny (model prog w) A (spliced (backTo pos (starEach (e :: rest) env))) (fun vs s₁ => wpAny (model prog w) A (call (.type T) vs) Q E s₁) E (St s tk))
    (he : starEach (e :: rest) env = (false, eval e env) :: starEach rest env := by kernel_rfl) (hp : (backTo pos (starEach rest env)).any (·.1) = false := by kernel_rfl) :
    wpAny (model prog w) A (callWith pos (.type T) [] (backTo pos (starEach (e :: rest) env)) []) Q E (St s tk) := PyProof.Rows.callWith_type1 h he hp
/-- a built-in function or method called with one argument or more -/
theorem cwB {pos : Pos} {id : String} {first : List Value} {e : Expr} {rest : List Expr}
    (h : wpAny (model prog w) A (spliced (backTo pos (starEach (e :: rest) env))) (fun vs s₁ => wpAny (model prog w) A (call (.builtin id) (first ++ vs)) Q E s₁) E (St s tk))
    (he : starEach (e :: rest) env = (false, eval e env) :: starEach rest env := by kernel_rfl) (hp : (backTo pos (starEach rest env)).any (·.1) = false := by kernel_rfl) :
    wpAny (model prog w) A (callWith pos (.builtin id) first (backTo pos (starEach (e :: rest) env)) []) Q E (St s tk) := by
  rw [he] at h ⊢
  exact callWith_builtin (by show (false || (backTo pos (starEach rest env)).any (·.1)) = false; rw [hp]; rfl) (evalArgs_plain h)
/-- a def or a class of the text called with one argument or more -/
theorem cwK {pos : Pos} {f : Value} {first : List Value} {e : Expr} {rest : List Expr} (hk : keepIn (K w.params) f = true)
    (h : wpAny (model prog w) A (spliced (backTo pos (starEach (e :: rest) env))) (fun vs s₁ => (K w.params).In s₁.heap ∧ wpAny (model prog w) A (call f (first ++ vs)) Q E s₁) E (St s tk))
    (he : starEach (e :: rest) env = (false, eval e env) :: starEach rest env := by kernel_rfl) (hp : (backTo pos (starEach rest env)).any (·.1) = false := by kernel_rfl) :
    wpAny (model prog w) A (callWith pos f first (backTo pos (starEach (e :: rest) env)) []) Q E (St s tk) := by
  rw [he] at h ⊢
  exact callWith_of (by show ((false || (backTo pos (starEach rest env)).any (·.1)) || false) = false; rw [hp]; rfl) (keeps_K hk) (evalArgs_plain h)
theorem cwK0 {pos : Pos} {f : Value} {first : List Value} (hb : Base w s.heap) (hk : keepIn (K w.params) f = true) (h : wpAny (model prog w) A (call f (first ++ [])) Q E (St s tk)) :
    wpAny (model prog w) A (callWith pos f first (backTo pos (starEach [] env)) []) Q E (St s tk) := callWith_K0 hb.k hk h
theorem cwB1 {pos : Pos} {id : String} {x : Value} {e : Expr} {rest : List Expr}
    (h : wpAny (model prog w) A (spliced (backTo pos (starEach (e :: rest) env))) (fun vs s₁ => wpAny (model prog w) A (call (.builtin id) (x :: vs)) Q E s₁) E (St s tk))
    (he : starEach (e :: rest) env = (false, eval e env) :: starEach rest env := by kernel_rfl) (hp : (backTo pos (starEach rest env)).any (·.1) = false := by kernel_rfl) :
    wpAny (model prog w) A (callWith pos (.builtin id) [x] (backTo pos (starEach (e :: rest) env)) []) Q E (St s tk) := cwB (first := [x]) h he hp
theorem cwBf {pos : Pos} {id : String} {e : Expr} {rest : List Expr}
    (h : wpAny (model prog w) A (spliced (backTo pos (starEach (e :: rest) env))) (fun vs s₁ => wpAny (model prog w) A (call (.builtin id) vs) Q E s₁) E (St s tk))
    (he : starEach (e :: rest) env = (false, eval e env) :: starEach rest env := by kernel_rfl) (hp : (backTo pos (starEach rest env)).any (·.1) = false := by kernel_rfl) :
    wpAny (model prog w) A (callWith pos (.builtin id) [] (backTo pos (starEach (e :: rest) env)) []) Q E (St s tk) := cwB (first := []) h he hp
theorem cwKf {pos : Pos} {f : Value} {e : Expr} {rest : List Expr} (hk : keepIn (K w.params) f = true)
    (h : wpAny (model prog w) A (spliced (backTo pos (starEach (e :: rest) env))) (fun vs s₁ => (K w.params).In s₁.heap ∧ wpAny (model prog w) A (call f vs) Q E s₁) E (St s tk))
    (he : starEach (e :: rest) env = (false, eval e env) :: starEach rest env := by kernel_rfl) (hp : (backTo pos (starEach rest env)).any (·.1) = false := by kernel_rfl) :
    wpAny (model prog w) A (callWith pos f [] (backTo pos (starEach (e :: rest) env)) []) Q E (St s tk) := cwK (first := []) hk h he hp
theorem cwK1 {pos : Pos} {f x : Value} {e : Expr} {rest : List Expr} (hk : keepIn (K w.params) f = true)
    (h : wpAny (model prog w) A (spliced (backTo pos (starEach (e :: rest) env))) (fun vs s₁ => (K w.params).In s₁.heap ∧ wpAny (model prog w) A (call f (x :: vs)) Q E s₁) E (St s tk))
    (he : starEach (e :: rest) env = (false, eval e env) :: starEach rest env := by kernel_rfl) (hp : (backTo pos (starEach rest env)).any (·.1) = false := by kernel_rfl) :
    wpAny (model prog w) A (callWith pos f [x] (backTo pos (starEach (e :: rest) env)) []) Q E (St s tk) := cwK (first := [x]) hk h he hp
theorem cwM0 {pos : Pos} {f x : Value} (hb : Base w s.heap) (hk : keepIn (K w.params) f = true) (h : wpAny (model prog w) A (call f [x]) Q E (St s tk)) :
    wpAny (model prog w) A (callWith pos f [x] (backTo pos (starEach [] env)) []) Q E (St s tk) := callWith_K0 hb.k hk h
end
/-! ## news -/
theorem newL {vs : List Value} {Q : Value → Shared → Prop} (hsz : vs.length ≤ sizeLine) (h : ∀ D s' tk', Ext [] s s' → s.heap.get? D = none → s'.heap.PlainList D vs.toArray → Q (.ref D) (St s' tk')) :
    wpAny (model prog w) A (newList vs) Q E (St s tk) :=
  wpAny_newList (h s.heap.objs.size { s with heap := _, toks := tk } tk (Ext.of_heap fun a o e => Heap.get?_push_of_some _ e) (Heap.get?_none_of_le (Nat.le_refl _)) ⟨0, Heap.get?_push_size _ rfl⟩) hsz
theorem newT {vs : List Value} {Q : Value → Shared → Prop} (hsz : vs.length ≤ sizeLine) (h : ∀ D s' tk', Ext [] s s' → s.heap.get? D = none → s'.heap.get? D = some { cls := .type "tuple", data := .seq vs.toArray } → Q (.ref D) (St s' tk')) :
    wpAny (model prog w) A (newTuple vs) Q E (St s tk) :=
  wpAny_newTuple (h s.heap.objs.size { s with heap := _, toks := tk } tk (Ext.of_heap fun a o e => Heap.get?_push_of_some _ e) (Heap.get?_none_of_le (Nat.le_refl _)) (Heap.get?_push_size _ rfl)) hsz
theorem sysMod_ne {w : World} {h : Heap} {d : Addr} (hb : Base w h) (hd : h.objs.size ≤ d) : (d == sysModules) = false := by
  have h1 := Heap.lt_size (hb.k 64 _ (by kernel_rfl : (K w.params).lookup 64 = some (o64 w.params)))
  have : d ≠ sysModules := fun e => by
    rw [e] at hd
    exact absurd (Nat.lt_of_lt_of_le h1 hd) (by decide)
  exact beq_eq_false_iff_ne.mpr this
theorem newD {α : Type} [DecidableEq α] {knd : KeyKind prog w α} {pos} {Q : Value → Shared → Prop} (hb : Base w s.heap) (h : ∀ D s' tk', Ext [] s s' → s.heap.get? D = none → (D == sysModules) = false → s'.heap.DictOf knd D [] → Q (.ref D) (St s' tk')) :
    wpAny (model prog w) A (eval (.Dict [] [] pos) env) Q E (St s tk) :=
  wpAny_Dict_empty (h s.heap.objs.size { s with heap := _, toks := tk } tk (Ext.of_heap fun a o e => Heap.get?_push_of_some _ e) (Heap.get?_none_of_le (Nat.le_refl _)) (sysMod_ne hb (Nat.le_refl _)) (Heap.DictOf.new _))
/-! ## lists -/
section
variable {l : Addr} {vs : List Value} {Q : Value → Shared → Prop}
theorem lLen (hl : s.heap.PlainList l vs.toArray) (hsz : vs.length ≤ 16777216) (h : ∀ t' tk', Q (.int vs.length t') (St s tk')) : wpAny (model prog w) A (call (.builtin "len") [.ref l]) Q E (St s tk) :=
  call_len_list (s := St s tk) hl.isList (by rw [List.size_toArray]; omega) (by rw [List.size_toArray]; exact h _ _)
theorem lTru {Q : Bool → Shared → Prop} (hl : s.heap.PlainList l vs.toArray) (hsz : vs.length ≤ 16777216) (h : ∀ tk', Q (!vs.isEmpty) (St s tk')) : wpAny (model prog w) A (truthy (.ref l)) Q E (St s tk) :=
  wpAny_truthy_list (s := St s tk) hl.isList (by rw [List.size_toArray]; omega) (by rw [List.isEmpty_toArray]; exact h _)
theorem lItem {value slice : Expr} {k : Int} {u : Tok} {x : Value} (hl : s.heap.PlainList l vs.toArray) (h0 : 0 ≤ k) (hx : vs[k.toNat]? = some x) (hfit : k < 2 ^ 63) (h : Q x (St s tk))
    (hs : subscripted slice false (.ref l) (.int k u) = operate [.ref l, .int k u] (getItem (.ref l) (.int k u)) := by with_unfolding_all rfl) :
    wpAny (model prog w) A (subscriptTail value slice (.ref l) (.int k u)) Q E (St s tk) := item_listR (s := St s tk) hl.isList h0 hfit (by simpa using hx) h hs
theorem lLast {value slice : Expr} {u : Tok} {x : Value} (hl : s.heap.PlainList l vs.toArray) (hx : vs.getLast? = some x) (h : Q x (St s tk))
    (hs : subscripted slice false (.ref l) (.int (-1) u) = operate [.ref l, .int (-1) u] (getItem (.ref l) (.int (-1) u)) := by with_unfolding_all rfl) :
    wpAny (model prog w) A (subscriptTail value slice (.ref l) (.int (-1) u)) Q E (St s tk) := by
  have hne : vs ≠ [] := fun e => by rw [e] at hx; cases hx
  have hlen : 0 < vs.length := List.length_pos_iff.mpr hne
  refine tail_any (s := St s tk) (T := "list") hl.isList.typeIs list_getitem_lookup (wpAny_getItem_list_neg (s := St s tk) hl.isList (by decide) (by rw [List.size_toArray]; omega) (by decide) ?_ h) hs
  rw [List.size_toArray, List.getElem?_toArray]
  rw [List.getLast?_eq_getElem?] at hx
  rw [← hx]
  congr 1
  omega
theorem mAppend {pl : Sem Bool} {Q : Value × List Value → Shared → Prop} (hl : s.heap.PlainList l vs.toArray) (h : Q (.builtin "list.append", [.ref l]) (St s tk)) : wpAny (model prog w) A (getMethod (.ref l) "append" pl) Q E (St s tk) :=
  getMethod_builtin (s := St s tk) hl.isList.typeIs PySem.F.plainAttrs_list PySem.F.slot_list_append PySem.F.type_list_append (fun a e => by cases e; obtain ⟨n, ho⟩ := hl; exact ⟨_, ho, rfl⟩) h
theorem lAppend {x : Value} (hl : s.heap.PlainList l vs.toArray) (hsz : vs.length ≤ sizeLine) (h : ∀ s' tk', Ext [l] s s' → s'.heap.PlainList l (vs ++ [x]).toArray → Q .none (St s' tk')) :
    wpAny (model prog w) A (call (.builtin "list.append") [.ref l, x]) Q E (St s tk) := by
  refine wpAny_list_append_plain (s := St s tk) hl (fun h' hl' hs => ?_) (by rw [List.size_toArray]; exact hsz)
  rw [List.push_toArray] at hl'
  exact h { s with heap := h', toks := tk } tk (Ext.of_but hs) hl'
theorem lFrom {value : Expr} {slice : Expr} {k : Nat} {t : Tok} {sl : Addr} (hl : s.heap.PlainList l vs.toArray) (hsz : vs.length ≤ sizeLine) (hsl : s.heap.IsSliceOf sl (.int k t) .none .none)
    (h : ∀ D s' tk', Ext [] s s' → s.heap.get? D = none → s'.heap.PlainList D (vs.drop k).toArray → Q (.ref D) (St s' tk'))
    (hs : subscripted slice false (.ref l) (.ref sl) = operate [.ref sl, .ref l] (getItem (.ref l) (.ref sl)) := by with_unfolding_all rfl) :
    wpAny (model prog w) A (subscriptTail value slice (.ref l) (.ref sl)) Q E (St s tk) := by
  refine tail_any (s := St s tk) (T := "list") hl.isList.typeIs list_getitem_lookup (wpAny_getItem_list_slice (s := St s tk) hl.isList hsl (.int _ _) .none .none (by simp) ?_ (by rw [List.size_toArray]; exact hsz)) hs
  have e : vs.toArray.toList = vs := by simp
  rw [PySem.slicePick_from', e]
  exact h s.heap.objs.size { s with heap := _, toks := tk } tk (Ext.of_heap fun a o e => Heap.get?_push_of_some _ e) (Heap.get?_none_of_le (Nat.le_refl _)) ⟨0, Heap.get?_push_size s.heap rfl⟩
theorem lUpto {value : Expr} {slice : Expr} {k : Nat} {t : Tok} {sl : Addr} (hl : s.heap.IsList l vs.toArray) (hsz : vs.length ≤ sizeLine) (hsl : s.heap.IsSliceOf sl .none (.int k t) .none)
    (h : ∀ D s' tk', Ext [] s s' → s.heap.get? D = none → s'.heap.PlainList D (vs.take k).toArray → Q (.ref D) (St s' tk'))
    (hs : subscripted slice false (.ref l) (.ref sl) = operate [.ref sl, .ref l] (getItem (.ref l) (.ref sl)) := by with_unfolding_all rfl) :
    wpAny (model prog w) A (subscriptTail value slice (.ref l) (.ref sl)) Q E (St s tk) := by
  refine tail_any (s := St s tk) (T := "list") hl.typeIs list_getitem_lookup (wpAny_getItem_list_slice (s := St s tk) hl hsl .none (.int _ _) .none (by simp) ?_ (by rw [List.size_toArray]; exact hsz)) hs
  have e : vs.toArray.toList = vs := by simp
  rw [PySem.slicePick_upto', e]
  exact h s.heap.objs.size { s with heap := _, toks := tk } tk (Ext.of_heap fun a o e => Heap.get?_push_of_some _ e) (Heap.get?_none_of_le (Nat.le_refl _)) ⟨0, Heap.get?_push_size s.heap rfl⟩
/-- a tuple out of a list -/
theorem lTup (hl : s.heap.PlainList l vs.toArray) (hsz : vs.length ≤ sizeLine) (h : ∀ D s' tk', Ext [] s s' → s.heap.get? D = none → s'.heap.get? D = some { cls := .type "tuple", data := .seq vs.toArray } → Q (.ref D) (St s' tk')) :
    wpAny (model prog w) A (call (.type "tuple") [.ref l]) Q E (St s tk) := by
  refine call_tuple_list (s := St s tk) hl.isList (fun h' hk => ?_) (by rw [List.size_toArray]; exact hsz)
  refine h h'.objs.size { s with heap := _, toks := tk } tk (Ext.of_heap fun a o e => Heap.get?_push_of_some _ (hk a o e)) ?_ (Heap.get?_push_size _ rfl)
  cases q : s.heap.get? h'.objs.size with
  | none => rfl
  | some o => exact absurd (Heap.lt_size (hk _ _ q)) (Nat.lt_irrefl _)
end
/-! ## dicts -/
section
variable {α : Type} [DecidableEq α] {knd : KeyKind prog w α} {d : Addr} {k : α} {key v : Value} {kvs : List (α × Value)} {Q : Value → Shared → Prop}
theorem dNotIn (hkey : knd.is k key = true) (hd : (d == sysModules) = false) (hm : s.heap.DictOf knd d kvs) (h : ∀ tk', Q (.bool (!(valueAt kvs k).isSome)) (St s tk')) :
    wpAny (model prog w) A (compareOp .NotIn key (.ref d)) Q E (St s tk) := wpAny_notIn_of (s := St s tk) hkey hd hm.mapOf (h _)
theorem dIn (hkey : knd.is k key = true) (hd : (d == sysModules) = false) (hm : s.heap.DictOf knd d kvs) (h : ∀ tk', Q (.bool (valueAt kvs k).isSome) (St s tk')) :
    wpAny (model prog w) A (compareOp .In key (.ref d)) Q E (St s tk) := wpAny_in_of (s := St s tk) hkey hd hm.mapOf (h _)
theorem dItem {value slice : Expr} (hkey : knd.is k key = true) (hm : s.heap.DictOf knd d kvs) (hv : valueAt kvs k = some v) (h : ∀ tk', Q v (St s tk'))
    (hs : subscripted slice false (.ref d) key = operate [.ref d, key] (getItem (.ref d) key) := by with_unfolding_all rfl) :
    wpAny (model prog w) A (subscriptTail value slice (.ref d) key) Q E (St s tk) :=
  tail_any (s := St s tk) (T := "dict") hm.typeIs slot_dict_getitem.lookup (wpAny_getItem_of (s := St s tk) hkey hm.mapOf hv (h _)) hs
theorem dSet {Q : Unit → Shared → Prop} (hkey : knd.is k key = true) (hm : s.heap.DictOf knd d kvs) (hsz : kvs.length ≤ sizeLine) (h : ∀ s' tk', Ext [d] s s' → s'.heap.DictOf knd d (stored kvs k v) → Q () (St s' tk')) :
    wpAny (model prog w) A (setItem (.ref d) key v) Q E (St s tk) :=
  wpAny_setItem_pairs (s := St s tk) hkey hm (fun h' hm' hs => h { s with heap := h', toks := tk + 1 } (tk + 1) (Ext.of_but hs) hm') hsz
theorem mPop {pl : Sem Bool} {Q : Value × List Value → Shared → Prop} (hm : s.heap.DictOf knd d kvs) (h : Q (.builtin "dict.pop", [.ref d]) (St s tk)) : wpAny (model prog w) A (getMethod (.ref d) "pop" pl) Q E (St s tk) :=
  getMethod_builtin (s := St s tk) hm.typeIs PySem.F.plainAttrs_dict PySem.F.slot_dict_pop PySem.F.type_dict_pop hm.mapOf.noDict h
theorem dPop (hkey : knd.is k key = true) (hpart : (keyPart key).isSome = true) (hm : s.heap.DictOf knd d kvs) (hsz : kvs.length ≤ sizeLine) (hv : valueAt kvs k = some v)
    (h : ∀ s' tk', Ext [d] s s' → s'.heap.DictOf knd d (without kvs k) → Q v (St s' tk')) :
    wpAny (model prog w) A (call (.builtin "dict.pop") [.ref d, key]) Q E (St s tk) :=
  call_meetsIn (s := St s tk) PySem.F.slot_dict_pop hm.typeIs PySem.F.entry_dict_pop (PySem.F.args_dict_pop_2 _ _) (meets_dict_pop_there knd d hkey [] (.inl rfl) hpart) ⟨kvs, v, hm, hsz, hv, fun h' hm' hs => h { s with heap := h', toks := tk + 1 } (tk + 1) (Ext.of_but hs) hm'⟩
end
end

/-! B3 -/
/-- the bottom stands, and M is none of it -/
noncomputable def Bz (w : World) (M : List Addr) (s₀ : Shared) : Prop := ∃ z, Base w z ∧ Sub z s₀.heap ∧ ∀ a ∈ M, z.get? a = none
theorem Bz.of {w : World} {s₀ : Shared} (hb : Base w s₀.heap) : Bz w [] s₀ := ⟨_, hb, Sub.refl _, fun _ h => nomatch h⟩
theorem Bz.base {w : World} {M : List Addr} {s₀ : Shared} (hb : Bz w M s₀) : Base w s₀.heap := let ⟨_, b, k, _⟩ := hb; b.sub k
theorem Bz.after {w : World} {M : List Addr} {s₀ s : Shared} (hb : Bz w M s₀) (x : Ext M s₀ s) : Base w s.heap :=
  let ⟨z, b, k, o⟩ := hb
  b.sub fun a ob e => x.keep a ob (fun h => by rw [o a h] at e; cases e) (k a ob e)
theorem Bz.next {w : World} {M : List Addr} {s₀ s : Shared} (hb : Bz w M s₀) (x : Ext M s₀ s) : Bz w M s :=
  let ⟨z, b, k, o⟩ := hb
  ⟨z, b, fun a ob e => x.keep a ob (fun h => by rw [o a h] at e; cases e) (k a ob e), o⟩
theorem Bz.less {w : World} {M N : List Addr} {s₀ : Shared} (hb : Bz w M s₀) (h : ∀ a ∈ N, a ∈ M) : Bz w N s₀ := let ⟨z, b, k, o⟩ := hb; ⟨z, b, k, fun a q => o a (h a q)⟩
theorem Fm.bz {w : World} {M : List Addr} {s₀ s : Shared} {env : Env} {l cl : List (Str × Value)} (F : Fm M s₀ env l cl s) (hb : Bz w M s₀) : Base w s.heap := hb.after F.ext
theorem Fm.kin {w : World} {M : List Addr} {s₀ s : Shared} {tk : Nat} {env : Env} {l cl : List (Str × Value)} (F : Fm M s₀ env l cl s) (hb : Bz w M s₀) : (K w.params).In (St s tk).heap := (hb.after F.ext).k
theorem Lv.h {d : Nat} {A : Around} (h : Lv d A) : A.handled = none := h.1
section
variable {prog : Program} {w : World} {A : Around} {E : Value → Shared → Prop} {s s₀ : Shared} {tk : Nat} {M : List Addr} {env : Env} {l cl : List (Str × Value)}
theorem g_MAX_32 {pos : Pos} {Q : Value → Shared → Prop} (F : Fm M s₀ env l cl s) (hb : Bz w M s₀) (h : Q (.int 4294967295 250) (St s tk)) (hg : env.globals = mainGlobals := by kernel_rfl) (hk : env.scope.kind = .function := by kernel_rfl) (hx : env.kindOf (Str.ofString "MAX_32") = some .globalImplicit := by kernel_rfl) :
    wpAny (model prog w) A (eval (.Name (Str.ofString "MAX_32") pos) env) Q E (St s tk) := nmG (.int 4294967295 250) (F.bz hb) h (by kernel_rfl) hg hk hx (by kernel_rfl)
theorem g_MAX_64 {pos : Pos} {Q : Value → Shared → Prop} (F : Fm M s₀ env l cl s) (hb : Bz w M s₀) (h : Q (.int 18446744073709551615 252) (St s tk)) (hg : env.globals = mainGlobals := by kernel_rfl) (hk : env.scope.kind = .function := by kernel_rfl) (hx : env.kindOf (Str.ofString "MAX_64") = some .globalImplicit := by kernel_rfl) :
    wpAny (model prog w) A (eval (.Name (Str.ofString "MAX_64") pos) env) Q E (St s tk) := nmG (.int 18446744073709551615 252) (F.bz hb) h (by kernel_rfl) hg hk hx (by kernel_rfl)
theorem g_SAFE {pos : Pos} {Q : Value → Shared → Prop} (F : Fm M s₀ env l cl s) (hb : Bz w M s₀) (h : Q (.int 0 270) (St s tk)) (hg : env.globals = mainGlobals := by kernel_rfl) (hk : env.scope.kind = .function := by kernel_rfl) (hx : env.kindOf (Str.ofString "SAFE") = some .globalImplicit := by kernel_rfl) :
    wpAny (model prog w) A (eval (.Name (Str.ofString "SAFE") pos) env) Q E (St s tk) := nmG (.int 0 270) (F.bz hb) h (by kernel_rfl) hg hk hx (by kernel_rfl)
theorem g_LEASE {pos : Pos} {Q : Value → Shared → Prop} (F : Fm M s₀ env l cl s) (hb : Bz w M s₀) (h : Q (.int 1 272) (St s tk)) (hg : env.globals = mainGlobals := by kernel_rfl) (hk : env.scope.kind = .function := by kernel_rfl) (hx : env.kindOf (Str.ofString "LEASE") = some .globalImplicit := by kernel_rfl) :
    wpAny (model prog w) A (eval (.Name (Str.ofString "LEASE") pos) env) Q E (St s tk) := nmG (.int 1 272) (F.bz hb) h (by kernel_rfl) hg hk hx (by kernel_rfl)
theorem g_MSG_READ_INDEX {pos : Pos} {Q : Value → Shared → Prop} (F : Fm M s₀ env l cl s) (hb : Bz w M s₀) (h : Q (.int 15 397) (St s tk)) (hg : env.globals = mainGlobals := by kernel_rfl) (hk : env.scope.kind = .function := by kernel_rfl) (hx : env.kindOf (Str.ofString "MSG_READ_INDEX") = some .globalImplicit := by kernel_rfl) :
    wpAny (model prog w) A (eval (.Name (Str.ofString "MSG_READ_INDEX") pos) env) Q E (St s tk) := nmG (.int 15 397) (F.bz hb) h (by kernel_rfl) hg hk hx (by kernel_rfl)
theorem g_ENTRY_NORMAL {pos : Pos} {Q : Value → Shared → Prop} (F : Fm M s₀ env l cl s) (hb : Bz w M s₀) (h : Q (.int 0 399) (St s tk)) (hg : env.globals = mainGlobals := by kernel_rfl) (hk : env.scope.kind = .function := by kernel_rfl) (hx : env.kindOf (Str.ofString "ENTRY_NORMAL") = some .globalImplicit := by kernel_rfl) :
    wpAny (model prog w) A (eval (.Name (Str.ofString "ENTRY_NORMAL") pos) env) Q E (St s tk) := nmG (.int 0 399) (F.bz hb) h (by kernel_rfl) hg hk hx (by kernel_rfl)
theorem g_VOTE_PENDING {pos : Pos} {Q : Value → Shared → Prop} (F : Fm M s₀ env l cl s) (hb : Bz w M s₀) (h : Q (.int 1 531) (St s tk)) (hg : env.globals = mainGlobals := by kernel_rfl) (hk : env.scope.kind = .function := by kernel_rfl) (hx : env.kindOf (Str.ofString "VOTE_PENDING") = some .globalImplicit := by kernel_rfl) :
    wpAny (model prog w) A (eval (.Name (Str.ofString "VOTE_PENDING") pos) env) Q E (St s tk) := nmG (.int 1 531) (F.bz hb) h (by kernel_rfl) hg hk hx (by kernel_rfl)
theorem g_VOTE_LOST {pos : Pos} {Q : Value → Shared → Prop} (F : Fm M s₀ env l cl s) (hb : Bz w M s₀) (h : Q (.int 2 533) (St s tk)) (hg : env.globals = mainGlobals := by kernel_rfl) (hk : env.scope.kind = .function := by kernel_rfl) (hx : env.kindOf (Str.ofString "VOTE_LOST") = some .globalImplicit := by kernel_rfl) :
    wpAny (model prog w) A (eval (.Name (Str.ofString "VOTE_LOST") pos) env) Q E (St s tk) := nmG (.int 2 533) (F.bz hb) h (by kernel_rfl) hg hk hx (by kernel_rfl)
theorem g_VOTE_WON {pos : Pos} {Q : Value → Shared → Prop} (F : Fm M s₀ env l cl s) (hb : Bz w M s₀) (h : Q (.int 3 535) (St s tk)) (hg : env.globals = mainGlobals := by kernel_rfl) (hk : env.scope.kind = .function := by kernel_rfl) (hx : env.kindOf (Str.ofString "VOTE_WON") = some .globalImplicit := by kernel_rfl) :
    wpAny (model prog w) A (eval (.Name (Str.ofString "VOTE_WON") pos) env) Q E (St s tk) := nmG (.int 3 535) (F.bz hb) h (by kernel_rfl) hg hk hx (by kernel_rfl)
theorem g_put_fixed32 {pos : Pos} {Q : Value → Shared → Prop} (F : Fm M s₀ env l cl s) (hb : Bz w M s₀) (h : Q (.ref 65) (St s tk)) (hg : env.globals = mainGlobals := by kernel_rfl) (hk : env.scope.kind = .function := by kernel_rfl) (hx : env.kindOf (Str.ofString "put_fixed32") = some .globalImplicit := by kernel_rfl) :
    wpAny (model prog w) A (eval (.Name (Str.ofString "put_fixed32") pos) env) Q E (St s tk) := nmG (.ref 65) (F.bz hb) h (by kernel_rfl) hg hk hx (by kernel_rfl)
theorem g_put_fixed64 {pos : Pos} {Q : Value → Shared → Prop} (F : Fm M s₀ env l cl s) (hb : Bz w M s₀) (h : Q (.ref 72) (St s tk)) (hg : env.globals = mainGlobals := by kernel_rfl) (hk : env.scope.kind = .function := by kernel_rfl) (hx : env.kindOf (Str.ofString "put_fixed64") = some .globalImplicit := by kernel_rfl) :
    wpAny (model prog w) A (eval (.Name (Str.ofString "put_fixed64") pos) env) Q E (St s tk) := nmG (.ref 72) (F.bz hb) h (by kernel_rfl) hg hk hx (by kernel_rfl)
theorem g_read_context {pos : Pos} {Q : Value → Shared → Prop} (F : Fm M s₀ env l cl s) (hb : Bz w M s₀) (h : Q (.ref 79) (St s tk)) (hg : env.globals = mainGlobals := by kernel_rfl) (hk : env.scope.kind = .function := by kernel_rfl) (hx : env.kindOf (Str.ofString "read_context") = some .globalImplicit := by kernel_rfl) :
    wpAny (model prog w) A (eval (.Name (Str.ofString "read_context") pos) env) Q E (St s tk) := nmG (.ref 79) (F.bz hb) h (by kernel_rfl) hg hk hx (by kernel_rfl)
theorem g_ReadStatus {pos : Pos} {Q : Value → Shared → Prop} (F : Fm M s₀ env l cl s) (hb : Bz w M s₀) (h : Q (.ref 96) (St s tk)) (hg : env.globals = mainGlobals := by kernel_rfl) (hk : env.scope.kind = .function := by kernel_rfl) (hx : env.kindOf (Str.ofString "ReadStatus") = some .globalImplicit := by kernel_rfl) :
    wpAny (model prog w) A (eval (.Name (Str.ofString "ReadStatus") pos) env) Q E (St s tk) := nmG (.ref 96) (F.bz hb) h (by kernel_rfl) hg hk hx (by kernel_rfl)
theorem g_ReadOnly {pos : Pos} {Q : Value → Shared → Prop} (F : Fm M s₀ env l cl s) (hb : Bz w M s₀) (h : Q (.ref 152) (St s tk)) (hg : env.globals = mainGlobals := by kernel_rfl) (hk : env.scope.kind = .function := by kernel_rfl) (hx : env.kindOf (Str.ofString "ReadOnly") = some .globalImplicit := by kernel_rfl) :
    wpAny (model prog w) A (eval (.Name (Str.ofString "ReadOnly") pos) env) Q E (St s tk) := nmG (.ref 152) (F.bz hb) h (by kernel_rfl) hg hk hx (by kernel_rfl)
theorem g_rising {pos : Pos} {Q : Value → Shared → Prop} (F : Fm M s₀ env l cl s) (hb : Bz w M s₀) (h : Q (.ref 163) (St s tk)) (hg : env.globals = mainGlobals := by kernel_rfl) (hk : env.scope.kind = .function := by kernel_rfl) (hx : env.kindOf (Str.ofString "rising") = some .globalImplicit := by kernel_rfl) :
    wpAny (model prog w) A (eval (.Name (Str.ofString "rising") pos) env) Q E (St s tk) := nmG (.ref 163) (F.bz hb) h (by kernel_rfl) hg hk hx (by kernel_rfl)
theorem g_Entry {pos : Pos} {Q : Value → Shared → Prop} (F : Fm M s₀ env l cl s) (hb : Bz w M s₀) (h : Q (.ref 208) (St s tk)) (hg : env.globals = mainGlobals := by kernel_rfl) (hk : env.scope.kind = .function := by kernel_rfl) (hx : env.kindOf (Str.ofString "Entry") = some .globalImplicit := by kernel_rfl) :
    wpAny (model prog w) A (eval (.Name (Str.ofString "Entry") pos) env) Q E (St s tk) := nmG (.ref 208) (F.bz hb) h (by kernel_rfl) hg hk hx (by kernel_rfl)
theorem g_Message {pos : Pos} {Q : Value → Shared → Prop} (F : Fm M s₀ env l cl s) (hb : Bz w M s₀) (h : Q (.ref 241) (St s tk)) (hg : env.globals = mainGlobals := by kernel_rfl) (hk : env.scope.kind = .function := by kernel_rfl) (hx : env.kindOf (Str.ofString "Message") = some .globalImplicit := by kernel_rfl) :
    wpAny (model prog w) A (eval (.Name (Str.ofString "Message") pos) env) Q E (St s tk) := nmG (.ref 241) (F.bz hb) h (by kernel_rfl) hg hk hx (by kernel_rfl)
theorem g_majority_vote {pos : Pos} {Q : Value → Shared → Prop} (F : Fm M s₀ env l cl s) (hb : Bz w M s₀) (h : Q (.ref 252) (St s tk)) (hg : env.globals = mainGlobals := by kernel_rfl) (hk : env.scope.kind = .function := by kernel_rfl) (hx : env.kindOf (Str.ofString "majority_vote") = some .globalImplicit := by kernel_rfl) :
    wpAny (model prog w) A (eval (.Name (Str.ofString "majority_vote") pos) env) Q E (St s tk) := nmG (.ref 252) (F.bz hb) h (by kernel_rfl) hg hk hx (by kernel_rfl)
theorem g_joint_vote {pos : Pos} {Q : Value → Shared → Prop} (F : Fm M s₀ env l cl s) (hb : Bz w M s₀) (h : Q (.ref 259) (St s tk)) (hg : env.globals = mainGlobals := by kernel_rfl) (hk : env.scope.kind = .function := by kernel_rfl) (hx : env.kindOf (Str.ofString "joint_vote") = some .globalImplicit := by kernel_rfl) :
    wpAny (model prog w) A (eval (.Name (Str.ofString "joint_vote") pos) env) Q E (St s tk) := nmG (.ref 259) (F.bz hb) h (by kernel_rfl) hg hk hx (by kernel_rfl)
theorem g_Config {pos : Pos} {Q : Value → Shared → Prop} (F : Fm M s₀ env l cl s) (hb : Bz w M s₀) (h : Q (.ref 339) (St s tk)) (hg : env.globals = mainGlobals := by kernel_rfl) (hk : env.scope.kind = .function := by kernel_rfl) (hx : env.kindOf (Str.ofString "Config") = some .globalImplicit := by kernel_rfl) :
    wpAny (model prog w) A (eval (.Name (Str.ofString "Config") pos) env) Q E (St s tk) := nmG (.ref 339) (F.bz hb) h (by kernel_rfl) hg hk hx (by kernel_rfl)
theorem g_law_draw {pos : Pos} {Q : Value → Shared → Prop} (F : Fm M s₀ env l cl s) (hb : Bz w M s₀) (h : Q (.ref 350) (St s tk)) (hg : env.globals = mainGlobals := by kernel_rfl) (hk : env.scope.kind = .function := by kernel_rfl) (hx : env.kindOf (Str.ofString "_law_draw") = some .globalImplicit := by kernel_rfl) :
    wpAny (model prog w) A (eval (.Name (Str.ofString "_law_draw") pos) env) Q E (St s tk) := nmG (.ref 350) (F.bz hb) h (by kernel_rfl) hg hk hx (by kernel_rfl)
theorem g_law_ids {pos : Pos} {Q : Value → Shared → Prop} (F : Fm M s₀ env l cl s) (hb : Bz w M s₀) (h : Q (.ref 355) (St s tk)) (hg : env.globals = mainGlobals := by kernel_rfl) (hk : env.scope.kind = .function := by kernel_rfl) (hx : env.kindOf (Str.ofString "_law_ids") = some .globalImplicit := by kernel_rfl) :
    wpAny (model prog w) A (eval (.Name (Str.ofString "_law_ids") pos) env) Q E (St s tk) := nmG (.ref 355) (F.bz hb) h (by kernel_rfl) hg hk hx (by kernel_rfl)
theorem g_law_wins {pos : Pos} {Q : Value → Shared → Prop} (F : Fm M s₀ env l cl s) (hb : Bz w M s₀) (h : Q (.ref 360) (St s tk)) (hg : env.globals = mainGlobals := by kernel_rfl) (hk : env.scope.kind = .function := by kernel_rfl) (hx : env.kindOf (Str.ofString "_law_wins") = some .globalImplicit := by kernel_rfl) :
    wpAny (model prog w) A (eval (.Name (Str.ofString "_law_wins") pos) env) Q E (St s tk) := nmG (.ref 360) (F.bz hb) h (by kernel_rfl) hg hk hx (by kernel_rfl)
theorem g_law_request {pos : Pos} {Q : Value → Shared → Prop} (F : Fm M s₀ env l cl s) (hb : Bz w M s₀) (h : Q (.ref 367) (St s tk)) (hg : env.globals = mainGlobals := by kernel_rfl) (hk : env.scope.kind = .function := by kernel_rfl) (hx : env.kindOf (Str.ofString "_law_request") = some .globalImplicit := by kernel_rfl) :
    wpAny (model prog w) A (eval (.Name (Str.ofString "_law_request") pos) env) Q E (St s tk) := nmG (.ref 367) (F.bz hb) h (by kernel_rfl) hg hk hx (by kernel_rfl)
theorem g_law_heard {pos : Pos} {Q : Value → Shared → Prop} (F : Fm M s₀ env l cl s) (hb : Bz w M s₀) (h : Q (.ref 372) (St s tk)) (hg : env.globals = mainGlobals := by kernel_rfl) (hk : env.scope.kind = .function := by kernel_rfl) (hx : env.kindOf (Str.ofString "_law_heard") = some .globalImplicit := by kernel_rfl) :
    wpAny (model prog w) A (eval (.Name (Str.ofString "_law_heard") pos) env) Q E (St s tk) := nmG (.ref 372) (F.bz hb) h (by kernel_rfl) hg hk hx (by kernel_rfl)
theorem g_law_gone {pos : Pos} {Q : Value → Shared → Prop} (F : Fm M s₀ env l cl s) (hb : Bz w M s₀) (h : Q (.ref 379) (St s tk)) (hg : env.globals = mainGlobals := by kernel_rfl) (hk : env.scope.kind = .function := by kernel_rfl) (hx : env.kindOf (Str.ofString "_law_gone") = some .globalImplicit := by kernel_rfl) :
    wpAny (model prog w) A (eval (.Name (Str.ofString "_law_gone") pos) env) Q E (St s tk) := nmG (.ref 379) (F.bz hb) h (by kernel_rfl) hg hk hx (by kernel_rfl)
theorem b_bytes {pos : Pos} {Q : Value → Shared → Prop} (F : Fm M s₀ env l cl s) (hb : Bz w M s₀) (h : Q (.type "bytes") (St s tk)) (hg : env.globals = mainGlobals := by kernel_rfl) (hbn : env.builtins = builtinsNs := by kernel_rfl) (hk : env.scope.kind = .function := by kernel_rfl) (hx : env.kindOf (Str.ofString "bytes") = some .globalImplicit := by kernel_rfl) :
    wpAny (model prog w) A (eval (.Name (Str.ofString "bytes") pos) env) Q E (St s tk) := nmB (.type "bytes") (F.bz hb) boot_bytes h (by kernel_rfl) (by kernel_rfl) hg hbn hk hx (by kernel_rfl)
theorem b_len {pos : Pos} {Q : Value → Shared → Prop} (F : Fm M s₀ env l cl s) (hb : Bz w M s₀) (h : Q (.builtin "len") (St s tk)) (hg : env.globals = mainGlobals := by kernel_rfl) (hbn : env.builtins = builtinsNs := by kernel_rfl) (hk : env.scope.kind = .function := by kernel_rfl) (hx : env.kindOf (Str.ofString "len") = some .globalImplicit := by kernel_rfl) :
    wpAny (model prog w) A (eval (.Name (Str.ofString "len") pos) env) Q E (St s tk) := nmB (.builtin "len") (F.bz hb) boot_len h (by kernel_rfl) (by kernel_rfl) hg hbn hk hx (by kernel_rfl)
theorem b_sorted {pos : Pos} {Q : Value → Shared → Prop} (F : Fm M s₀ env l cl s) (hb : Bz w M s₀) (h : Q (.builtin "sorted") (St s tk)) (hg : env.globals = mainGlobals := by kernel_rfl) (hbn : env.builtins = builtinsNs := by kernel_rfl) (hk : env.scope.kind = .function := by kernel_rfl) (hx : env.kindOf (Str.ofString "sorted") = some .globalImplicit := by kernel_rfl) :
    wpAny (model prog w) A (eval (.Name (Str.ofString "sorted") pos) env) Q E (St s tk) := nmB (.builtin "sorted") (F.bz hb) boot_sorted h (by kernel_rfl) (by kernel_rfl) hg hbn hk hx (by kernel_rfl)
theorem b_range {pos : Pos} {Q : Value → Shared → Prop} (F : Fm M s₀ env l cl s) (hb : Bz w M s₀) (h : Q (.type "range") (St s tk)) (hg : env.globals = mainGlobals := by kernel_rfl) (hbn : env.builtins = builtinsNs := by kernel_rfl) (hk : env.scope.kind = .function := by kernel_rfl) (hx : env.kindOf (Str.ofString "range") = some .globalImplicit := by kernel_rfl) :
    wpAny (model prog w) A (eval (.Name (Str.ofString "range") pos) env) Q E (St s tk) := nmB (.type "range") (F.bz hb) boot_range h (by kernel_rfl) (by kernel_rfl) hg hbn hk hx (by kernel_rfl)
theorem b_tuple {pos : Pos} {Q : Value → Shared → Prop} (F : Fm M s₀ env l cl s) (hb : Bz w M s₀) (h : Q (.type "tuple") (St s tk)) (hg : env.globals = mainGlobals := by kernel_rfl) (hbn : env.builtins = builtinsNs := by kernel_rfl) (hk : env.scope.kind = .function := by kernel_rfl) (hx : env.kindOf (Str.ofString "tuple") = some .globalImplicit := by kernel_rfl) :
    wpAny (model prog w) A (eval (.Name (Str.ofString "tuple") pos) env) Q E (St s tk) := nmB (.type "tuple") (F.bz hb) boot_tuple h (by kernel_rfl) (by kernel_rfl) hg hbn hk hx (by kernel_rfl)
theorem b_all {pos : Pos} {Q : Value → Shared → Prop} (F : Fm M s₀ env l cl s) (hb : Bz w M s₀) (h : Q (.builtin "all") (St s tk)) (hg : env.globals = mainGlobals := by kernel_rfl) (hbn : env.builtins = builtinsNs := by kernel_rfl) (hk : env.scope.kind = .function := by kernel_rfl) (hx : env.kindOf (Str.ofString "all") = some .globalImplicit := by kernel_rfl) :
    wpAny (model prog w) A (eval (.Name (Str.ofString "all") pos) env) Q E (St s tk) := nmB (.builtin "all") (F.bz hb) boot_all h (by kernel_rfl) (by kernel_rfl) hg hbn hk hx (by kernel_rfl)
/-! ## statements -/
theorem sIf {test body orelse pos} {Q : Flow → Shared → Prop}
    (h : wpAny (model prog w) A (isTrue test env (eval test env)) (fun b s₂ => if b then wpAny (model prog w) A (execs body env) Q E s₂ else wpAny (model prog w) A (execs orelse env) Q E s₂) E (St s tk)) :
    wpAny (model prog w) A (exec (.If test body orelse pos) env) Q E (St s tk) := wpAny_If h
theorem sRet {e pos} {Q : Flow → Shared → Prop} (h : wpAny (model prog w) A (eval e env) (fun v => Q (.ret v)) E (St s tk)) : wpAny (model prog w) A (exec (.Return (some e) pos) env) Q E (St s tk) := wpAny_Return_some h
theorem sAsn {x pos' value pos} {Q : Flow → Shared → Prop} (h : wpAny (model prog w) A (eval value env) (fun v s₁ => wpAny (model prog w) A (storeName env x v) (fun _ => Q .next) E s₁) E (St s tk))
    (hs : swapsWith value (some (.Name x pos')) pos.line env = pure false := by kernel_rfl) : wpAny (model prog w) A (exec (.Assign [.Name x pos'] value pos) env) Q E (St s tk) := wpAny_Assign_Name h hs
theorem sAtt {o attr pos' value pos} {Q : Flow → Shared → Prop} (h : wpAny (model prog w) A (eval value env) (fun v s₁ => wpAny (model prog w) A (eval o env) (fun ov s₂ => wpAny (model prog w) A (setAttr ov attr v) (fun _ => Q .next) E s₂) E s₁) E (St s tk))
    (hs : swapsWith value (some (.Attribute o attr pos')) pos.line env = pure false := by kernel_rfl) : wpAny (model prog w) A (exec (.Assign [.Attribute o attr pos'] value pos) env) Q E (St s tk) := plainObj_wpAny_Assign_Attribute h hs
theorem sSub {o i pos' value pos} {Q : Flow → Shared → Prop} (h : wpAny (model prog w) A (eval value env) (fun v s₁ => wpAny (model prog w) A (eval o env) (fun ov s₂ => wpAny (model prog w) A (eval i env) (fun iv s₃ => wpAny (model prog w) A (setItem ov iv v) (fun _ => Q .next) E s₃) E s₂) E s₁) E (St s tk))
    (hs : swapsWith value (some (.Subscript o i pos')) pos.line env = pure false := by kernel_rfl) : wpAny (model prog w) A (exec (.Assign [.Subscript o i pos'] value pos) env) Q E (St s tk) := wpAny_Assign_Subscript h hs
theorem sAug {x pos' op value pos} {Q : Flow → Shared → Prop} {v : Value} (F : Fm M s₀ env l cl s) (hv : look l x = some v)
    (h : wpAny (model prog w) A (eval value env) (fun u s₂ => wpAny (model prog w) A (inplaceOp op v u) (fun r s₃ => wpAny (model prog w) A (storeName env x r) (fun _ => Q .next) E s₃) E s₂) E (St s tk))
    (hk : env.scope.kind = .function := by kernel_rfl) (hl : env.kindOf x = some .local := by kernel_rfl) : wpAny (model prog w) A (exec (.AugAssign (.Name x pos') op value pos) env) Q E (St s tk) :=
  let ⟨m, n, q⟩ := F.ns; wpAny_AugAssign_Name (wpAny_loadName_local hk hl n (q _ _ hv) h)
theorem sExp {e pos} {Q : Flow → Shared → Prop} (h : wpAny (model prog w) A (eval e env) (fun _ => Q .next) E (St s tk)) (hi : interactive env = false := by kernel_rfl) (hs : swapsWith e none pos.line env = pure false := by kernel_rfl) :
    wpAny (model prog w) A (exec (.Expr e pos) env) Q E (St s tk) := wpAny_Expr_any h hi hs
theorem xCmp {lft op r pos} {Q : Value → Shared → Prop} (h : wpAny (model prog w) A (eval lft env) (fun a s₁ => wpAny (model prog w) A (eval r env) (fun b s₂ => wpAny (model prog w) A (compareOp op a b) Q E s₂) E s₁) E (St s tk))
    (hm : behindInMarks op r = false := by kernel_rfl) : wpAny (model prog w) A (eval (.Compare lft [op] [r] pos) env) Q E (St s tk) := wpAny_Compare1 h hm
theorem tCmp {lft op r pos whole} {Q : Bool → Shared → Prop} (h : wpAny (model prog w) A (eval lft env) (fun a s₁ => wpAny (model prog w) A (eval r env) (fun b s₂ => wpAny (model prog w) A (compareOp op a b) (fun c s₃ => wpAny (model prog w) A (truthy c) Q E s₃) E s₂) E s₁) E (St s tk))
    (hm : behindInMarks op r = false := by kernel_rfl) : wpAny (model prog w) A (isTrue (.Compare lft [op] [r] pos) env whole) Q E (St s tk) := wpAny_isTrue_Compare1 h hm
theorem tName {x pos} {Q : Bool → Shared → Prop} (h : wpAny (model prog w) A (eval (.Name x pos) env) (fun v s₁ => wpAny (model prog w) A (truthy v) Q E s₁) E (St s tk)) : wpAny (model prog w) A (isTrue (.Name x pos) env (eval (.Name x pos) env)) Q E (St s tk) := wpAny_bind (wpAny_mono h (fun _ _ h => wpAny_bind (wpAny_standAt (wpAny_holding h))) fun _ _ x => x)
theorem tCall {f as ks pos} {Q : Bool → Shared → Prop} (h : wpAny (model prog w) A (eval (.Call f as ks pos) env) (fun v s₁ => wpAny (model prog w) A (truthy v) Q E s₁) E (St s tk)) : wpAny (model prog w) A (isTrue (.Call f as ks pos) env (eval (.Call f as ks pos) env)) Q E (St s tk) := wpAny_bind (wpAny_mono h (fun _ _ h => wpAny_bind (wpAny_standAt (wpAny_holding h))) fun _ _ x => x)
theorem tSub {o i pos} {Q : Bool → Shared → Prop} (h : wpAny (model prog w) A (eval (.Subscript o i pos) env) (fun v s₁ => wpAny (model prog w) A (truthy v) Q E s₁) E (St s tk)) : wpAny (model prog w) A (isTrue (.Subscript o i pos) env (eval (.Subscript o i pos) env)) Q E (St s tk) := wpAny_bind (wpAny_mono h (fun _ _ h => wpAny_bind (wpAny_standAt (wpAny_holding h))) fun _ _ x => x)
theorem xAtt {o attr pos} {Q : Value → Shared → Prop} (h : wpAny (model prog w) A (eval o env) (fun o s₁ => wpAny (model prog w) A (getAttr o attr true) Q E s₁) E (St s tk))
    (he : eval (.Attribute o attr pos) env = (do
      let o' ← eval o env
      standAt pos.atName
      let r ← holding [o'] (getAttr o' attr true)
      letTemporaryGo o o' r
      pure r) := by kernel_rfl) : wpAny (model prog w) A (eval (.Attribute o attr pos) env) Q E (St s tk) := Attribute_any_ h he
end

/-! H1 -/
/-- the top's run over a tree of objects, by any step -/
noncomputable def runG (ok : Thread → Bool) (stp : SharedT → Thread → Option (SharedT × Thread)) : Nat → SharedT → Thread → Option SharedT
  | 0, _, _ => none
  | n + 1, s, t => match through t with
    | true => some s
    | false => match ok t with
      | false => none
      | true => match stp s t with
        | some (s', t') => runG ok stp n s' t'
        | none => none
theorem runG_of {tb : String → Option Builtin} {p : Program} {w : World} {n₀ : Nat} {ann : Option Value} : ∀ {n : Nat} {s s' : SharedT} {t : Thread}, runG (stepOk n₀ ann) (stepT (denote tb) p w) n s t = some s' → topRun tb p w n₀ ann n s.abs t = some s'.abs
  | 0, _, _, _, h => by cases h
  | n + 1, s, s', t, h => by
    unfold runG at h
    unfold topRun
    cases he : through t with
    | true => rw [he] at h; cases h; rfl
    | false =>
      rw [he] at h
      cases hk : stepOk n₀ ann t with
      | false => rw [hk] at h; cases h
      | true =>
        rw [hk] at h
        cases hs : stepT (denote tb) p w s t with
        | none => rw [hs] at h; cases h
        | some r => obtain ⟨s₂, t₂⟩ := r; rw [hs] at h; rw [stepT_spec hs]; exact runG_of h
noncomputable def treeOf (l : List Obj) : BT := (l.foldl (fun (x : BT × Nat) o => (x.1.ins x.2 o, x.2 + 1)) (BT.nil, 0)).1
noncomputable def loose : List Str := [Str.ofString "_wall", Str.ofString "KeepError", Str.ofString "StoreError", Str.ofString "BadOption", Str.ofString "MAX_32", Str.ofString "MAX_64", Str.ofString "put_fixed32", Str.ofString "put_fixed64", Str.ofString "SAFE", Str.ofString "LEASE", Str.ofString "read_context", Str.ofString "ReadStatus", Str.ofString "ReadOnly", Str.ofString "MSG_READ_INDEX", Str.ofString "ENTRY_NORMAL", Str.ofString "rising", Str.ofString "Entry", Str.ofString "Message", Str.ofString "VOTE_PENDING", Str.ofString "VOTE_LOST", Str.ofString "VOTE_WON", Str.ofString "majority_vote", Str.ofString "joint_vote", Str.ofString "Config", Str.ofString "_law_draw", Str.ofString "_law_ids", Str.ofString "_law_wins", Str.ofString "_law_request", Str.ofString "_law_heard", Str.ofString "_law_gone"]
noncomputable abbrev pw : Program := PySem.Challenge.pw_nz0368_01
noncomputable def q : Program := { pw with main := { pw.main with body := [stAt 36] } }
noncomputable def bT (P : Params) : BT := treeOf [boot_o_0 P, boot_o_1 P, boot_o_2 P, boot_o_3 P, boot_o_4 P, boot_o_5 P, boot_o_6 P, boot_o_7 P, boot_o_8 P, boot_o_9 P, boot_o_10 P]
theorem bT_eq (P : Params) : absHeap (bT P) 11 {} = boot_heap P := by kernel_rfl
noncomputable abbrev mods : List Str := importedModules pw.main.body
noncomputable abbrev Xq (s : Shared) : Bool := xlAt q [] s && recOk [] s
noncomputable def looks (w : World) (s : Shared) := ((staticsOk mods (boot_heap w.params) s.heap && namesBound pw s.heap && gensDone s && laidKept (boot_heap w.params) s.heap),
        openSeen q loose mods Xq true s, Kas.map s.heap.get?)
noncomputable def sT (w : World) (os : OsState) : SharedT := ⟨bT w.params, 11, {}, #[], boot_drawn, boot_toks, os⟩
theorem ran' (w : World) : (fun os => (runG (PySem.W.Fast.tw6613529449190102663 11 (some (.ref 6))) (PySem.W.Fast.tw10156331382660048174 (PySem.W.Fast.tw11892475500146522536 PySem.W.Fast.tw14364793385576792824) pw w) 3000 (sT w os) (topStub pw)).map fun s => looks w s.abs) = fun os => some (true, openGood q loose, (K w.params).map fun p => some p.2) := by
  kernel_rfl
theorem ran (w : World) (os : OsState) : (runG (stepOk 11 (some (.ref 6))) (stepT (denote treeTable) pw w) 3000 (sT w os) (topStub pw)).map (fun s => looks w s.abs) = some (true, openGood q loose, (K w.params).map fun p => some p.2) := by
  rw [PySem.W.Fast.te6613529449190102663, PySem.W.Fast.te10156331382660048174, PySem.W.Fast.te11892475500146522536, PySem.W.Fast.te14364793385576792824]
  exact congrFun (ran' w) os
theorem sT_abs (w : World) (os : OsState) : (sT w os).abs = ⟨boot_heap w.params, #[], boot_drawn, boot_toks, os⟩ := by
  show Shared.mk (absHeap (bT w.params) 11 {}) _ _ _ _ = _
  rw [bT_eq]; rfl
theorem size0 (P : Params) : ((boot_heap P).isNs mainGlobals && (#[] : Array GenState).size == 0, (boot_heap P).objs.size, (boot_heap P).nsMap mainGlobals "__annotations__") = (true, 11, some (.ref 6)) := by kernel_rfl
theorem opens0 (w : World) : (fencedOpening treeTable pw w 3000).map (fun s => (s.heap, s.gens, s.drawn, s.toks)) = some (boot_heap w.params, #[], boot_drawn, boot_toks) :=
  boot_open (p := pw) (by kernel_rfl) (by rfl) (fun s => by kernel_rfl) w
theorem left_of {p q : Program} {loose : List Str} {Xt : Shared → Bool} {α : Type} {Yf : Shared → α} {Ya : World → α} {N m₀ : Nat} {g0 : Bool} {H₀ : Params → Heap} {gs₀ : Array GenState} {d₀ : Drawn} {k₀ : Nat} {ann : Option Value}
    (ho : ∀ w : World, (fencedOpening treeTable p w N).map (fun s => (s.heap, s.gens, s.drawn, s.toks)) = some (H₀ w.params, gs₀, d₀, k₀))
    (hs : ∀ P : Params, ((H₀ P).isNs mainGlobals && gs₀.size == 0, (H₀ P).objs.size, (H₀ P).nsMap mainGlobals "__annotations__") = (true, m₀, ann))
    (hr : ∀ (w : World) (os : OsState), ∃ s', topRun treeTable p w m₀ ann N ⟨H₀ w.params, gs₀, d₀, k₀, os⟩ (topStub p) = some s' ∧ (staticsOk (importedModules p.main.body) (H₀ w.params) s'.heap && namesBound p s'.heap && gensDone s' && laidKept (H₀ w.params) s'.heap) = true ∧
      openSeen q loose (importedModules p.main.body) Xt g0 s' = openGood q loose ∧ Yf s' = Ya w) : LeftO p q loose Xt Yf Ya N g0 := fun w => by
  obtain ⟨⟨h, gs, d, k, os⟩, e, e'⟩ := Option.map_eq_some_iff.mp (ho w)
  obtain ⟨rfl, rfl, rfl, rfl⟩ : h = H₀ w.params ∧ gs = gs₀ ∧ d = d₀ ∧ k = k₀ := by simpa using e'
  have z := hs w.params
  injection z with z1 z
  injection z with z2 z3
  obtain ⟨s', r, l1, l2, l3⟩ := hr w os
  have t : topFrom treeTable p w N ⟨H₀ w.params, gs, d, k, os⟩ = some s' := by
    unfold topFrom
    dsimp only
    rw [z1, z2, z3, r]
    show (match staticsOk (importedModules p.main.body) (H₀ w.params) s'.heap && namesBound p s'.heap && gensDone s' && laidKept (H₀ w.params) s'.heap with | true => _ | false => _) = _
    rw [l1]
  unfold openEnds
  rw [e]
  show (topFrom treeTable p w N _).map _ = _
  rw [t]
  exact congrArg some (Prod.ext l2 l3)
theorem looks_of {w : World} {s : Shared} {b : Bool} {x y} (h : looks w s = (b, x, y)) : (staticsOk mods (boot_heap w.params) s.heap && namesBound pw s.heap && gensDone s && laidKept (boot_heap w.params) s.heap) = b ∧ openSeen q loose mods Xq true s = x ∧ Kas.map s.heap.get? = y := by
  unfold looks at h
  injection h with h1 h
  injection h with h2 h3
  exact ⟨h1, h2, h3⟩
theorem left : LeftO pw q loose Xq (fun s => Kas.map s.heap.get?) (fun w => (K w.params).map fun p => some p.2) 3000 :=
  left_of opens0 size0 fun w os => by
    obtain ⟨s', hr, hl⟩ := Option.map_eq_some_iff.mp (ran w os)
    have r := runG_of hr
    rw [sT_abs] at r
    exact ⟨s'.abs, r, looks_of hl⟩

/-! H2 -/
theorem fa_eq {mg : Str → Option Value} {fa : Addr} (e : mg (Str.ofString "law") = some (.ref 384)) (h : mg (Str.ofString "law") = some (.ref fa)) : fa = 384 := by
  rw [e] at h; injection h with h; injection h with h; exact h.symm
set_option maxHeartbeats 4000000 in
theorem holds_of (walk : ∀ (w : World) (s : Shared) (l : Addr) (vs : Array Value) (ns : List Int), Base w s.heap → s.heap.IsList l vs → IntsAre vs.toList ns → ns.length ≤ 63 →
    wpAny (model pw w) callerA (call (.ref 384) [.ref l]) (fun v s' => v = .bool true ∧ Ext [] s s') (fun _ _ => False) s) : PySem.Challenge.rw_nz0368_01.Holds := by
  o_law
  rename_i said'
  refine holds_open (q := q) (loose := loose) (Xt := Xq) (XP := XL q []) (YP := InK K) (N := 3000) left (InK.of fun _ => by kernel_rfl) InK.keeps (fun s e => xl_of s (Bool.and_eq_true_iff.mp e).1) XL.keeps (by rfl) (by rfl) (by rfl)
    (fun s e => recFacts_of (Bool.and_eq_true_iff.mp e).2) (by rfl) said' (by decide +kernel) ⟨rfl, rfl, rfl, rfl, rfl, by decide +kernel⟩ ?hw ?hc
  case hw => exact ⟨[.list []], by decide +kernel, by decide +kernel⟩
  case hc =>
    intro w s₀ s₁ mg mb G Y fa o pm cd doc dV kV ho hd hcd hD hmg hg args vals as hpre hlay hrd hwl hlo
    wrow_args hpre hlay hrd hwl hlo
    have hI := ‹IntsAre _ _›
    have hb : Base w s₁.heap := ⟨Y, ⟨mg, G.T.g⟩, ⟨mb, G.T.b, fun x hx => G.T.builtins x hx⟩, G.T.nolimit⟩
    obtain rfl := fa_eq (mg_of hb.k G.T.g (by kernel_rfl)) hmg
    refine wpAny_mono (walk _ _ _ _ _ hb (by assumption) hI (by omega)) (fun v s' h => ?_) fun _ _ h => h.elim
    obtain ⟨rfl, x⟩ := h
    obtain ⟨⟨h', tk, rfl⟩, k⟩ := x
    refine GoodW.toG ⟨.inl ⟨_, .bool true, [], rfl, fun _ => rfl, ReadsW.bool _, by kernel_rfl, fun _ => ⟨List.nodup_nil, fun _ q => nomatch q⟩⟩, fun b o e => k b o (fun q => nomatch q) e, rfl, hg⟩

end Mine
set_option hygiene false
local macro_rules | `(tactic| lsm_bools) => `(tactic| first | with_reducible exact lk0 | with_reducible exact lk1 (by kernel_rfl) | with_reducible exact lk2 (by kernel_rfl) | with_reducible exact lk3 (by kernel_rfl) | with_reducible exact lk4 (by kernel_rfl) | with_reducible exact lk5 (by kernel_rfl) | with_reducible exact lk6 (by kernel_rfl) | with_reducible exact lk7 (by kernel_rfl) | with_reducible exact lk8 (by kernel_rfl) | with_reducible exact lk9 (by kernel_rfl) | with_reducible exact lk10 (by kernel_rfl) | with_reducible exact lk11 (by kernel_rfl) | with_reducible exact lk12 (by kernel_rfl) | with_reducible exact lk13 (by kernel_rfl) | with_reducible exact lk14 (by kernel_rfl) | with_reducible exact lk15 (by kernel_rfl) | with_reducible exact lk16 (by kernel_rfl) | with_reducible exact lk17 (by kernel_rfl) | with_reducible exact lk18 (by kernel_rfl) | with_reducible exact lk19 (by kernel_rfl) | with_reducible exact lk20 (by kernel_rfl) | with_reducible exact lk21 (by kernel_rfl) | with_reducible exact lk22 (by kernel_rfl) | with_reducible exact lk23 (by kernel_rfl) | with_reducible exact lk24 (by kernel_rfl) | with_reducible exact lk25 (by kernel_rfl) | with_reducible exact lk26 (by kernel_rfl) | with_reducible exact lk27 (by kernel_rfl) | with_reducible exact lk28 (by kernel_rfl) | with_reducible exact lk29 (by kernel_rfl) | with_reducible exact lk30 (by kernel_rfl))
local macro_rules | `(tactic| kat_tups) => `(tactic| first | with_reducible exact pr0 | with_reducible exact pr1 (by kernel_rfl) | with_reducible exact pr2 (by kernel_rfl) | with_reducible exact pr3 (by kernel_rfl) | with_reducible exact pr4 (by kernel_rfl) | with_reducible exact pr5 (by kernel_rfl) | with_reducible exact pr6 (by kernel_rfl) | with_reducible exact pr7 (by kernel_rfl) | with_reducible exact pr8 (by kernel_rfl) | with_reducible exact pr9 (by kernel_rfl) | with_reducible exact pr10 (by kernel_rfl) | with_reducible exact pr11 (by kernel_rfl) | with_reducible exact pr12 (by kernel_rfl) | with_reducible exact puE | with_reducible exact pu1e (by kernel_rfl) | with_reducible exact pu2e (by kernel_rfl) | with_reducible exact pu3e (by kernel_rfl) | with_reducible exact pu4e (by kernel_rfl) | with_reducible exact pu5e (by kernel_rfl) | with_reducible exact pu6e (by kernel_rfl) | with_reducible exact pu7e (by kernel_rfl) | with_reducible exact pu8e (by kernel_rfl) | with_reducible exact pu9e (by kernel_rfl) | with_reducible exact pu10e (by kernel_rfl) | with_reducible exact pu11e (by kernel_rfl) | with_reducible exact pu12e (by kernel_rfl))
local macro_rules | `(tactic| kct_strs) => `(tactic| first
  | (with_reducible refine gdEv ?_; first
    | (with_reducible refine gdName ?_; first | (with_reducible refine gdLoc (by kernel_rfl) ?_; with_reducible refine nmL (by assumption) (by lsm_bools) ?_) | (with_reducible refine gdCell (by kernel_rfl) ?_; with_reducible refine nmC (by assumption) (by lsm_bools) ?_) | with_reducible refine g_MAX_32 (by assumption) (by assumption) ?_ | with_reducible refine g_MAX_64 (by assumption) (by assumption) ?_ | with_reducible refine g_SAFE (by assumption) (by assumption) ?_ | with_reducible refine g_LEASE (by assumption) (by assumption) ?_ | with_reducible refine g_MSG_READ_INDEX (by assumption) (by assumption) ?_ | with_reducible refine g_ENTRY_NORMAL (by assumption) (by assumption) ?_ | with_reducible refine g_VOTE_PENDING (by assumption) (by assumption) ?_ | with_reducible refine g_VOTE_LOST (by assumption) (by assumption) ?_ | with_reducible refine g_VOTE_WON (by assumption) (by assumption) ?_ | with_reducible refine g_put_fixed32 (by assumption) (by assumption) ?_ | with_reducible refine g_put_fixed64 (by assumption) (by assumption) ?_ | with_reducible refine g_read_context (by assumption) (by assumption) ?_ | with_reducible refine g_ReadStatus (by assumption) (by assumption) ?_ | with_reducible refine g_ReadOnly (by assumption) (by assumption) ?_ | with_reducible refine g_rising (by assumption) (by assumption) ?_ | with_reducible refine g_Entry (by assumption) (by assumption) ?_ | with_reducible refine g_Message (by assumption) (by assumption) ?_ | with_reducible refine g_majority_vote (by assumption) (by assumption) ?_ | with_reducible refine g_joint_vote (by assumption) (by assumption) ?_ | with_reducible refine g_Config (by assumption) (by assumption) ?_ | with_reducible refine g_law_draw (by assumption) (by assumption) ?_ | with_reducible refine g_law_ids (by assumption) (by assumption) ?_ | with_reducible refine g_law_wins (by assumption) (by assumption) ?_ | with_reducible refine g_law_request (by assumption) (by assumption) ?_ | with_reducible refine g_law_heard (by assumption) (by assumption) ?_ | with_reducible refine g_law_gone (by assumption) (by assumption) ?_ | with_reducible refine b_bytes (by assumption) (by assumption) ?_ | with_reducible refine b_len (by assumption) (by assumption) ?_ | with_reducible refine b_sorted (by assumption) (by assumption) ?_ | with_reducible refine b_range (by assumption) (by assumption) ?_ | with_reducible refine b_tuple (by assumption) (by assumption) ?_ | with_reducible refine b_all (by assumption) (by assumption) ?_)
    | (with_reducible refine gdCall ?_; first | with_reducible refine mcall ?_ | with_reducible refine callE ?_)
    | with_reducible refine cInt fun _ _ => ?_ | with_reducible refine xCmp ?_ | with_reducible refine wpAny_BinOp ?_ | with_reducible refine cBool ?_ | with_reducible refine cNone ?_ | with_reducible refine cBytes fun _ _ => ?_ | with_reducible refine UnaryOp_ ?_ | with_reducible refine Tuple_ ?_ | with_reducible refine List_ ?_ | with_reducible refine IfExp_ ?_ | with_reducible refine Subscript_ ?_ | with_reducible refine xAtt ?_)
  | (with_reducible refine gdCW ?_; first | with_reducible refine cwT ?_ | with_reducible refine cwBf ?_ | with_reducible refine cwB1 ?_ | (with_reducible refine cwKf (by kernel_rfl) ?_) | (with_reducible refine cwK1 (by kernel_rfl) ?_) | (with_reducible refine cwM0 (Fm.bz (by assumption) (by assumption)) (by kernel_rfl) ?_))
  | with_reducible refine argC ?_ | with_reducible refine argN ?_
  | (with_reducible refine gdExec ?_; first | with_reducible refine sAtt ?_ | with_reducible refine sAsn ?_ | with_reducible refine sIf ?_ | with_reducible refine sAugA ?_ | with_reducible refine sSub ?_ | with_reducible refine sAug (by assumption) (by lsm_bools) ?_ | with_reducible refine sRet ?_ | with_reducible refine sExp ?_)
  | with_reducible refine wpAny_execs_cons ?_ | with_reducible refine wpAny_execs_nil ?_
  | (with_reducible refine gdIsT ?_; first | with_reducible refine tCmp ?_ | with_reducible refine isTrue_or ?_ | with_reducible refine isTrue_or_nil ?_ | with_reducible refine isTrue_and ?_ | with_reducible refine isTrue_and_nil ?_ | with_reducible refine isTrue_not ?_ | with_reducible refine tName ?_ | with_reducible refine tCall ?_ | with_reducible refine tSub ?_)
  | (with_reducible refine gdBin ?_; first | with_reducible refine bAdd fun _ _ => ?_ | with_reducible refine bSub fun _ _ => ?_ | with_reducible refine bMul (IntMulOk.of_left (by decide)) fun _ _ => ?_ | with_reducible refine bDiv (by decide) (by decide) fun _ _ => ?_ | with_reducible refine bMod (by decide) fun _ _ => ?_ | with_reducible refine bAnd fun _ _ => ?_ | with_reducible refine bShr (by decide) fun _ _ => ?_)
  | (with_reducible refine gdCmp ?_; first | with_reducible refine cLt ?_ | with_reducible refine cGt ?_ | with_reducible refine cGe ?_ | with_reducible refine cEq ?_ | with_reducible refine cNe ?_ | with_reducible refine nnNone ?_)
  | with_reducible refine trB ?_ | with_reducible refine iAdd fun _ _ => ?_ | with_reducible refine uNeg fun _ _ => ?_
  | (with_reducible refine gdIte ?_; first | with_reducible refine iteT ?_ | with_reducible refine iteF ?_ | with_reducible refine iteT1 ?_ | with_reducible refine iteF1 ?_ | with_reducible refine iteT2 ?_ | with_reducible refine iteF2 ?_)
  | (with_reducible refine gdGM ?_; first | with_reducible refine m_erow (by assumption) (by assumption) (by assumption) ?_ | with_reducible refine m_mrow (by assumption) (by assumption) (by assumption) ?_ | with_reducible refine m_vote (by assumption) (by assumption) (by assumption) ?_ | with_reducible refine m_add (by assumption) (by assumption) (by assumption) ?_ | with_reducible refine m_ack (by assumption) (by assumption) (by assumption) ?_ | with_reducible refine m_advance (by assumption) (by assumption) (by assumption) ?_ | with_reducible refine m_last (by assumption) (by assumption) (by assumption) ?_ | with_reducible refine m_rorow (by assumption) (by assumption) (by assumption) ?_)
  | (with_reducible refine gdGA ?_; first | with_reducible refine getF (by assumption) (by assumption) (by assumption) (by lsm_bools) fun _ => ?_ | with_reducible refine getZ (by assumption) (by assumption) (by assumption) (by lsm_bools) fun _ => ?_)
  | (with_reducible refine And.intro (Fm.kin (by assumption) (by assumption)) ?_)
  )
local macro_rules | `(tactic| kba_ints) => `(tactic| repeat kct_strs)
local macro_rules | `(tactic| kp_flats) => `(tactic| (with_reducible refine setF (by assumption) (by assumption) (by assumption) (by kat_tups) (by assumption) (by assumption) fun _ _ _ _ _ => ?_))
local macro_rules | `(tactic| walk2) => `(tactic| repeat (first | kct_strs | with_reducible refine stoL (by assumption) (by assumption) fun _ _ _ _ => ?_))
set_option hygiene true
namespace Mine

/-! B4 -/
/-! ## what kind of goal it is -/
section
variable {prog : Program} {w : World} {A : Around} {E : Value → Shared → Prop} {s : Shared} {env : Env}
theorem gdEv {e : Expr} {Q : Value → Shared → Prop} (h : wpAny (model prog w) A (eval e env) Q E s) : wpAny (model prog w) A (eval e env) Q E s := h
theorem gdName {x : Str} {p : Pos} {Q : Value → Shared → Prop} (h : wpAny (model prog w) A (eval (.Name x p) env) Q E s) : wpAny (model prog w) A (eval (.Name x p) env) Q E s := h
theorem gdLoc {x : Str} {p : Pos} {Q : Value → Shared → Prop} (hl : env.kindOf x = some .local) (h : wpAny (model prog w) A (eval (.Name x p) env) Q E s) : wpAny (model prog w) A (eval (.Name x p) env) Q E s := h
theorem gdCell {x : Str} {p : Pos} {Q : Value → Shared → Prop} (hl : env.kindOf x = some .cell) (h : wpAny (model prog w) A (eval (.Name x p) env) Q E s) : wpAny (model prog w) A (eval (.Name x p) env) Q E s := h
theorem gdCall {f : Expr} {as : List Expr} {ks : List Keyword} {p : Pos} {Q : Value → Shared → Prop} (h : wpAny (model prog w) A (eval (.Call f as ks p) env) Q E s) : wpAny (model prog w) A (eval (.Call f as ks p) env) Q E s := h
theorem gdExec {st : Stmt} {Q : Flow → Shared → Prop} (h : wpAny (model prog w) A (exec st env) Q E s) : wpAny (model prog w) A (exec st env) Q E s := h
theorem gdIsT {e : Expr} {t : Sem Value} {Q : Bool → Shared → Prop} (h : wpAny (model prog w) A (isTrue e env t) Q E s) : wpAny (model prog w) A (isTrue e env t) Q E s := h
theorem gdBin {op : Operator} {a b : Value} {Q : Value → Shared → Prop} (h : wpAny (model prog w) A (binaryOp op a b) Q E s) : wpAny (model prog w) A (binaryOp op a b) Q E s := h
theorem gdCmp {op : CmpOp} {a b : Value} {Q : Value → Shared → Prop} (h : wpAny (model prog w) A (compareOp op a b) Q E s) : wpAny (model prog w) A (compareOp op a b) Q E s := h
theorem gdIte {c : Prop} [Decidable c] {a b : Prop} (h : if c then a else b) : if c then a else b := h
theorem gdGM {v : Value} {x : Str} {pl : Sem Bool} {Q : Value × List Value → Shared → Prop} (h : wpAny (model prog w) A (getMethod v x pl) Q E s) : wpAny (model prog w) A (getMethod v x pl) Q E s := h
theorem gdCW {pos f first as ks} {Q : Value → Shared → Prop} (h : wpAny (model prog w) A (callWith pos f first as ks) Q E s) : wpAny (model prog w) A (callWith pos f first as ks) Q E s := h
theorem gdGA {v : Value} {x : Str} {b : Bool} {Q : Value → Shared → Prop} (h : wpAny (model prog w) A (getAttr v x b) Q E s) : wpAny (model prog w) A (getAttr v x b) Q E s := h
end
/-! ## instances and their own tables -/
noncomputable def EsAre : List DictEntry → List (Str × Value) → Prop
  | [], [] => True
  | e :: es, p :: l => (∃ t, e.key = .str p.1 t) ∧ e.val = p.2 ∧ EsAre es l
  | _, _ => False
theorem EsAre.len : ∀ {es : List DictEntry} {l : List (Str × Value)}, EsAre es l → es.length = l.length
  | [], [], _ => rfl
  | _ :: _, _ :: _, h => by rw [List.length_cons, List.length_cons, EsAre.len h.2.2]
theorem EsAre.noRef : ∀ {es : List DictEntry} {l : List (Str × Value)}, EsAre es l → es.any (·.refKey) = false
  | [], [], _ => rfl
  | e :: _, _ :: _, ⟨⟨t, hk⟩, _, h⟩ => by
    rw [List.any_cons, EsAre.noRef h, Bool.or_false]
    unfold DictEntry.refKey; rw [hk]
theorem isStr_str (x y : Str) (t : Tok) : (Value.str y t).isStr x = decide (x = y) := by
  show (y == x) = _
  by_cases h : x = y
  · subst h; simp
  · have : ¬ y = x := fun e => h e.symm
    simp [h, this]
theorem EsAre.get : ∀ {es : List DictEntry} {l : List (Str × Value)} {x : Str} {v : Value}, EsAre es l → look l x = some v → getL x es = some (some v)
  | [], [], _, _, _, h => nomatch h
  | e :: es, p :: l, x, v, ⟨⟨t, hk⟩, hv, h⟩, hl => by
    unfold look at hl
    unfold getL
    rw [List.find?_cons, hk, isStr_str]
    by_cases c : x = p.1
    · rw [if_pos c] at hl
      rw [decide_eq_true c]
      show some (some e.val) = _
      rw [hv, hl]
    · rw [if_neg c] at hl
      rw [decide_eq_false c]
      have := EsAre.get h hl
      unfold getL at this
      rw [List.any_cons, show e.refKey = false by unfold DictEntry.refKey; rw [hk], Bool.false_or]
      exact this
theorem EsAre.getNone : ∀ {es : List DictEntry} {l : List (Str × Value)} {x : Str}, EsAre es l → (l.any fun p => p.1 == x) = false → getL x es = some none
  | [], [], _, _, _ => rfl
  | e :: es, p :: l, x, ⟨⟨t, hk⟩, hv, h⟩, hl => by
    rw [List.any_cons, Bool.or_eq_false_iff] at hl
    have := EsAre.getNone h hl.2
    unfold getL at this ⊢
    rw [List.find?_cons, hk, isStr_str, decide_eq_false (fun c => by rw [c, beq_self_eq_true] at hl; cases hl.1), List.any_cons, show e.refKey = false by unfold DictEntry.refKey; rw [hk], Bool.false_or]
    exact this
theorem EsAre.put {hsh : Int} {x : Str} {v : Value} {t : Tok} : ∀ {es : List DictEntry} {l : List (Str × Value)}, EsAre es l → EsAre (putL x hsh (.str x t) v es) (put x v l)
  | [], [], _ => ⟨⟨t, rfl⟩, rfl, trivial⟩
  | e :: es, (y, u) :: l, ⟨⟨t', hk⟩, hv, h⟩ => by
    show EsAre (if e.key.isStr x then _ else _) (if y = x then _ else _)
    rw [hk, isStr_str]
    by_cases c : x = y
    · rw [decide_eq_true c, if_pos rfl, if_pos c.symm]
      exact ⟨⟨t', by rw [c]⟩, rfl, h⟩
    · rw [decide_eq_false c, if_neg Bool.false_ne_true, if_neg (fun q => c q.symm)]
      exact ⟨⟨t', hk⟩, hv, EsAre.put h⟩
/-- the table at dx is a dict of strs, just l -/
noncomputable def Fd (h : Heap) (dx : Addr) (l : List (Str × Value)) : Prop := ∃ es n, h.get? dx = some (dictOf es n) ∧ EsAre es l
theorem Fd.keep {h h' : Heap} {a : Addr} {l : List (Str × Value)} (n : Fd h a l) (k : ∀ o, h.get? a = some o → h'.get? a = some o) : Fd h' a l := let ⟨es, m, e, q⟩ := n; ⟨es, m, k _ e, q⟩
theorem Fd.has {h : Heap} {a : Addr} {l : List (Str × Value)} (n : Fd h a l) : ∃ o, h.get? a = some o := let ⟨_, _, e, _⟩ := n; ⟨_, e⟩
/-- an object of class C with its table -/
structure Inst (h : Heap) (x C dx : Addr) (l : List (Str × Value)) : Prop where
  at_ : h.get? x = some (instObj C dx)
  tab : Fd h dx l
theorem Inst.keep {h h' : Heap} {x C dx : Addr} {l : List (Str × Value)} (n : Inst h x C dx l) (k : ∀ o, h.get? x = some o → h'.get? x = some o) (kd : ∀ o, h.get? dx = some o → h'.get? dx = some o) : Inst h' x C dx l := ⟨k _ n.at_, n.tab.keep kd⟩
theorem Inst.sub {h h' : Heap} {x C dx : Addr} {l : List (Str × Value)} (n : Inst h x C dx l) (k : Sub h h') : Inst h' x C dx l := n.keep (k x) (k dx)
section
variable {prog : Program} {w : World} {A : Around} {E : Value → Shared → Prop} {s : Shared} {tk : Nat} {x C dx : Addr} {l l' : List (Str × Value)} {name : Str} {v : Value}
theorem getI {expr : Bool} {Q : Value → Shared → Prop} (hb : Base w s.heap) (I : Inst s.heap x C dx l) (hl : look l name = some v) (h : ∀ tk', Q v (St s tk'))
    (hv : handedIn v = true := by kernel_rfl) (h1 : findIn (K w.params) (.ref C) "__getattribute__" = some (some (.builtin "object.__getattribute__")) := by kernel_rfl) (h2 : hasDictIn (K w.params) C = true := by kernel_rfl) (h3 : findIn (K w.params) (.ref C) name = some none := by kernel_rfl) :
    wpAny (model prog w) A (getAttr (.ref x) name expr) Q E (St s tk) := by
  obtain ⟨hx, es, n, hd, he⟩ := I
  have I' : InstAt s.heap x (instObj C dx) C (some (dictOf es n)) := InstAt.mk hx rfl rfl hd
  have hg : lookIn name (dictOf es n) = some (some v) := he.get hl
  exact get_value (s := St s tk) hb.k I' h1 (findObj_own h2 h3 rfl hg) hv (h _)
theorem setI {Q : Unit → Shared → Prop} (hb : Base w s.heap) (I : Inst s.heap x C dx l) (hp : put name v l = l') (hz : l.length ≤ 900) (h : ∀ s' tk', Ext [dx] s s' → Fd s'.heap dx l' → Q () (St s' tk'))
    (h1 : findIn (K w.params) (.ref C) "__setattr__" = some (some (.builtin "object.__setattr__")) := by kernel_rfl) (h2 : plainOver (K w.params) C = true := by kernel_rfl) (h3 : takerIn (K w.params) C name = some none := by kernel_rfl) (h4 : (clsIn (K w.params) C).any (·.hasDict) = true := by kernel_rfl) :
    wpAny (model prog w) A (setAttr (.ref x) name v) Q E (St s tk) := by
  subst hp
  obtain ⟨hx, es, n, hd, he⟩ := I
  have I' : InstAt s.heap x (instObj C dx) C (some (dictOf es n)) := InstAt.mk hx rfl rfl hd
  refine set_plain (s := St s tk) hb.k I' h1 (osa_open (s := St s (tk + 1)) hb.k I' h2 h3 fun b => ?_)
  obtain ⟨cd, hc, hdict⟩ := any_some h4
  refine wpAny_bind (wpAny_pure (wpAny_bind (wpAny_bind (wpAny_loadPart hx (wpAny_bind (Looks.here (s := St s (tk + 1)) (looks_clsIn hb.k hc) ?_))))))
  rw [hdict]
  refine wpAny_pure (a := some dx) (wpAny_bind (wpAny_pure (wpAny_bind ?_)))
  unfold nsSet
  refine wpAny_bind (wpAny_bind (wpAny_askSetting (wpAny_pure (wpAny_bind (wpAny_mkText (wpAny_bind (wpAny_loadPart hd ?_)))))))
  have hno : es.toArray.any (·.refKey) = false := by rw [← Array.any_toList]; exact he.noRef
  dsimp only
  rw [aRefKeyMayBeTheName_at, hno, Bool.and_false]
  have hf : (dictOf (putL name (PyData.keyHash w.params name) (.str name (tk + 1)) v es) (putN name es n)).isFreed = false := rfl
  refine wpAny_updatePart hd ?_
  have hd' := Heap.get?_update_self (Obj.putName name (PyData.keyHash w.params name) (.str name (tk + 1)) v) hd (by rw [putName_dict]; rfl)
  rw [putName_dict] at hd'
  have he' : EsAre (putL name (PyData.keyHash w.params name) (.str name (tk + 1)) v es) (put name v l) := he.put
  have hlen : (put name v l).length ≤ 901 := by
    have : ∀ l : List (Str × Value), (put name v l).length ≤ l.length + 1 := by
      intro l
      induction l with
      | nil => exact Nat.le_refl _
      | cons p l ih =>
        obtain ⟨y, u⟩ := p
        unfold put
        split
        · simp
        · simpa using ih
    exact Nat.le_trans (this l) (Nat.succ_le_succ hz)
  refine wpAny_bind (wpAny_lookBehind hd' (pastItsLine_dict (by rw [List.size_toArray, sizeLine_eq, he'.len]; omega)) ?_)
  refine wpAny_pure ?_
  exact h { s with heap := s.heap.update dx (Obj.putName name (PyData.keyHash w.params name) (.str name (tk + 1)) v), toks := tk + 1 + 1 } (tk + 1 + 1) (Ext.of_but (Heap.SameBut.update ..)) ⟨_, _, hd', he'⟩
theorem mthI {f : Addr} {pl : Sem Bool} {Q : Value × List Value → Shared → Prop} (hb : Base w s.heap) (I : Inst s.heap x C dx l) (hn : (l.any fun p => p.1 == name) = false) (h : Q (.ref f, [.ref x]) (St s tk))
    (hf : findIn (K w.params) (.ref C) name = some (some (.ref f)) := by kernel_rfl) (h1 : findIn (K w.params) (.ref C) "__getattribute__" = some (some (.builtin "object.__getattribute__")) := by kernel_rfl) (h2 : findIn (K w.params) (.ref C) "__getattr__" = some none := by kernel_rfl) (ht : typeIn (K w.params) (.ref f) = some (.type "function") := by kernel_rfl) :
    wpAny (model prog w) A (getMethod (.ref x) name pl) Q E (St s tk) := by
  obtain ⟨hx, es, n, hd, he⟩ := I
  have I' : InstAt s.heap x (instObj C dx) C (some (dictOf es n)) := InstAt.mk hx rfl rfl hd
  refine method_fn (s := St s tk) hb.k I' h1 h2 hf ht ?_ h
  unfold shadowIn
  show (lookIn name (dictOf es n)).map (·.isSome) = some false
  rw [show lookIn name (dictOf es n) = some none from he.getNone hn]; rfl
end

/-! B5 -/
/-! ## a class called -/
section
variable {prog : Program} {w : World} {A : Around} {E : Value → Shared → Prop} {s : Shared} {tk : Nat} {d : Nat}
theorem mkC {C fI : Addr} {vals : List Value} {Q : Value → Shared → Prop} (hb : Base w s.heap) (hA : Lv d A)
    (h : ∀ x dx s' tk' A', Lv (d + 1) A' → Ext [] s s' → s.heap.get? x = none → s.heap.get? dx = none → Inst s'.heap x C dx [] → codeAny (model prog w) A' (.call (.ref fI) ⟨.ref x :: vals, []⟩) (fun r s'' => match r with | .ok (.ret v) => v = .none ∧ Q (.ref x) s'' | _ => False) (St s' tk'))
    (hm : makesIn (K w.params) C = true := by kernel_rfl) (hi : findIn (K w.params) (.ref C) "__init__" = some (some (.ref fI)) := by kernel_rfl) (hf : typeIn (K w.params) (.ref fI) = some (.type "function") := by kernel_rfl) :
    wpAny (model prog w) A (call (.ref C) vals) Q E (St s tk) := by
  refine wpAny_call ?_
  refine make_core (makes_of hb.k hm) (looks_findIn hb.k hi) (fun self => bind_fn hb.k self hf) (.inl rfl) ?_
  have k : Sub s.heap ((s.heap.push emptyDict).push (instObj C s.heap.objs.size)) := fun b o e => Heap.get?_push_of_some _ (Heap.get?_push_of_some _ e)
  have hx : ((s.heap.push emptyDict).push (instObj C s.heap.objs.size)).get? (s.heap.objs.size + 1) = some (instObj C s.heap.objs.size) := by
    have := Heap.get?_push_size (s.heap.push emptyDict) (o := instObj C s.heap.objs.size) rfl
    rwa [Heap.size_push] at this
  have hd : ((s.heap.push emptyDict).push (instObj C s.heap.objs.size)).get? s.heap.objs.size = some emptyDict := Heap.get?_push_of_some _ (Heap.get?_push_size _ rfl)
  have := h (s.heap.objs.size + 1) s.heap.objs.size { s with heap := (s.heap.push emptyDict).push (instObj C s.heap.objs.size), toks := tk } tk _ (hA.make C vals) (Ext.of_heap k) (Heap.get?_none_of_le (Nat.le_succ _)) (Heap.get?_none_of_le (Nat.le_refl _)) ⟨hx, [], 0, hd, trivial⟩
  refine codeAny_mono this fun r s' z => ?_
  rcases r with e | (v | _ | _ | _) <;> first | exact z | exact z.elim
end
/-! ## iterators -/
section
variable {prog : Program} {w : World} {A : Around} {E : Value → Shared → Prop} {s : Shared} {tk : Nat} {d : Nat} {env : Env}
theorem itL {a : Addr} {vs : List Value} {Q : Value → Shared → Prop} (hl : s.heap.PlainList a vs.toArray)
    (h : ∀ I s' tk', Ext [] s s' → s.heap.get? I = none → s'.heap.IsListIter I a 0 → Q (.ref I) (St s' tk')) : wpAny (model prog w) A (pyIter (.ref a)) Q E (St s tk) :=
  wpAny_pyIter_list (s := St s tk) hl.isList (h s.heap.objs.size { s with heap := _, toks := tk } tk (Ext.of_heap fun a o e => Heap.get?_push_of_some _ e) (Heap.get?_none_of_le (Nat.le_refl _)) ⟨_, Heap.get?_push_size _ rfl, rfl, rfl⟩)
theorem rng1 {n : Int} {t : Tok} {Q : Value → Shared → Prop} (h : ∀ r s' tk' t1 t2, Ext [] s s' → s.heap.get? r = none → IsRange s'.heap r 0 n 1 t1 t t2 → Q (.ref r) (St s' tk')) :
    wpAny (model prog w) A (call (.type "range") [.int n t]) Q E (St s tk) :=
  call_range_1 (s := St s tk) (h s.heap.objs.size { s with heap := _, toks := tk + 1 + 1 } (tk + 1 + 1) _ _ (Ext.of_heap fun a o e => Heap.get?_push_of_some _ e) (Heap.get?_none_of_le (Nat.le_refl _)) (Heap.get?_push_size _ rfl))
theorem rng2 {a b : Int} {t u : Tok} {Q : Value → Shared → Prop} (h : ∀ r s' tk' t2, Ext [] s s' → s.heap.get? r = none → IsRange s'.heap r a b 1 t u t2 → Q (.ref r) (St s' tk')) :
    wpAny (model prog w) A (call (.type "range") [.int a t, .int b u]) Q E (St s tk) :=
  call_range_2 (s := St s tk) (h s.heap.objs.size { s with heap := _, toks := tk + 1 } (tk + 1) _ (Ext.of_heap fun a o e => Heap.get?_push_of_some _ e) (Heap.get?_none_of_le (Nat.le_refl _)) (Heap.get?_push_size _ rfl))
theorem itR {r : Addr} {a b : Int} {t u v : Tok} {Q : Value → Shared → Prop} (hr : IsRange s.heap r a b 1 t u v) (ha : 0 ≤ a) (ha' : a ≤ 1000000) (hb : 0 ≤ b) (hb' : b ≤ 1000000)
    (h : ∀ I s' tk', Ext [] s s' → s.heap.get? I = none → IsRangeIter s'.heap I a ((b - a).toNat : Int) 1 → Q (.ref I) (St s' tk')) : wpAny (model prog w) A (pyIter (.ref r)) Q E (St s tk) := by
  refine wpAny_pyIter_range (s := St s tk) hr (small_one (by omega) (by omega) (by omega) (by omega)) ?_
  have e : Builtin.Range.rangeSize a b 1 = ((b - a).toNat : Int) := by rw [rangeSize_one]; split <;> omega
  rw [e]
  exact h s.heap.objs.size { s with heap := _, toks := tk } tk (Ext.of_heap fun a o e => Heap.get?_push_of_some _ e) (Heap.get?_none_of_le (Nat.le_refl _)) (Heap.get?_push_size _ rfl)
/-- what a loop walks over -/
noncomputable def Go (prog : Program) (w : World) (A : Around) (target : Expr) (I : Addr) (P : Nat → Value → Prop) (SI : Nat → Heap → Prop) : Prop :=
  ∀ i v s (Q : Unit → Shared → Prop) (E : Value → Shared → Prop), P i v → SI (i + 1) s.heap → Q () s → wpAny (model prog w) A (letOwnedTupleGo target (.ref I) v) Q E s
theorem goName {x : Str} {p : Pos} {I : Addr} {P : Nat → Value → Prop} {SI : Nat → Heap → Prop} : Go prog w A (.Name x p) I P SI := fun i v s Q E _ _ h => wpAny_of_eq (rfl : letOwnedTupleGo (.Name x p) (.ref I) v = pure ()) h
theorem goTup {elts : List Expr} {k : Nat} {p : Pos} {I a : Addr} {P : Nat → Value → Prop} {vs : Array Value} (hP : ∀ i v, P i v → ∃ T, v = .ref T) : Go prog w A (.Tuple elts k p) I P (fun i h => h.IsListIter I a i ∧ h.IsList a vs) := fun i v s Q E hv hs h => by
  obtain ⟨T, rfl⟩ := hP i v hv
  exact wpAny_letOwnedTupleGo_listiter hs.1 h
/-! ## for -/
theorem sFor {target iter : Expr} {body : List Stmt} {pos : Pos} {Q : Flow → Shared → Prop}
    (h : wpAny (model prog w) A (eval iter env) (fun x s₁ => wpAny (model prog w) A (pyIter x) (fun it s₂ => codeAny (model prog w) A (.forLoop target it body [] env) (fun r s' => match r with | .ok f => Q f s' | .error _ => False) s₂) (fun _ _ => False) s₁) (fun _ _ => False) (St s tk))
    (hs : ∀ x, foldedSetIterable iter env x = pure x := by intro _; kernel_rfl) :
    wpAny (model prog w) A (exec (.For target iter body [] pos) env) Q (fun _ _ => False) (St s tk) := by
  refine wpAny_For (wpAny_mono h (fun x s₁ h₁ => wpAny_mono h₁ (fun it s₂ h₂ => codeAny_mono h₂ fun r s' z => ?_) fun _ _ f => f.elim) fun _ _ f => f.elim) hs
  cases r with
  | ok f => exact z
  | error e => exact z.elim
theorem forW {target : Expr} {body : List Stmt} {I : Addr} {fp : List Addr} {n : Nat} {P : Nat → Value → Prop} {SI : Nat → Heap → Prop} {R : Result → Shared → Prop} (W : Walks prog w A I fp [I] n P SI) (go : Go prog w A target I P SI) (J : Nat → Shared → Prop)
    (hJ : ∀ i s s', J i s → Ext [I] s s' → J i s') (h0 : J 0 s) (hst : SI 0 s.heap)
    (step : ∀ i v s₁ tk₁, i < n → P i v → J i s₁ → SI (i + 1) s₁.heap → wpAny (model prog w) A (assign target env v) (fun _ s₂ => wpAny (model prog w) A (execs body env)
      (fun f s₃ => match f with
        | .next | .cont => ∃ s' tk', s₃ = St s' tk' ∧ J (i + 1) s' ∧ ∀ b ∈ fp, ∀ o, s₁.heap.get? b = some o → s'.heap.get? b = some o
        | .brk => R (.ok .next) s₃
        | .ret v => R (.ok (.ret v)) s₃) (fun _ _ => False) s₂) (fun _ _ => False) (St s₁ tk₁))
    (done : ∀ s' tk', J n s' → R (.ok .next) (St s' tk')) :
    codeAny (model prog w) A (.forLoop target (.ref I) body [] env) R (St s tk) := by
  refine codeAny_forLoop_any (fun k s' => ∃ i s₁ tk₁, s' = St s₁ tk₁ ∧ k = n - i ∧ i ≤ n ∧ J i s₁ ∧ SI i s₁.heap) ?_ n ⟨0, s, tk, rfl, rfl, Nat.zero_le _, h0, hst⟩
  rintro k s' ⟨i, s₁, tk₁, rfl, rfl, hi, hj, hs⟩
  by_cases hlt : i < n
  · refine W.item i _ _ _ hlt hs fun v h' tk' hP hs' hk => ?_
    have x : Ext [I] s₁ { s₁ with heap := h', toks := tk' } := ⟨⟨h', tk', rfl⟩, hk⟩
    refine go i v _ _ _ hP hs' ?_
    refine wpAny_mono (step i v { s₁ with heap := h', toks := tk' } tk' hlt hP (hJ _ _ _ hj x) hs') (fun _ s₂ h₂ => wpAny_mono h₂ (fun f s₃ h₃ => ?_) fun _ _ f => f.elim) fun _ _ f => f.elim
    have nx : (∃ s' tk'', s₃ = St s' tk'' ∧ J (i + 1) s' ∧ ∀ b ∈ fp, ∀ o, h'.get? b = some o → s'.heap.get? b = some o) → ∃ m, m < n - i ∧ ∃ i s₁ tk₁, s₃ = St s₁ tk₁ ∧ m = n - i ∧ i ≤ n ∧ J i s₁ ∧ SI i s₁.heap := by
      rintro ⟨s', tk'', rfl, hj', hf⟩
      exact ⟨n - (i + 1), by omega, i + 1, s', tk'', rfl, rfl, hlt, hj', W.frame _ _ _ hs' hf⟩
    cases f with
    | next => exact nx h₃
    | cont => exact nx h₃
    | brk => exact h₃
    | ret v => exact h₃
  · have hin : i = n := by omega
    subst hin
    refine W.done _ _ _ hs fun h' tk' hk => ?_
    exact wpAny_execs_nil (done { s₁ with heap := h', toks := tk' } tk' (hJ _ _ _ hj ⟨⟨h', tk', rfl⟩, hk⟩))
end
end Mine
namespace Mine
/-! ## comprehensions -/
/-- what is new from s to s' stands in z -/
noncomputable def New (s s' : Shared) (z : Heap) : Prop := ∀ a o, s.heap.get? a = none → s'.heap.get? a = some o → z.get? a = some o
section
variable {prog : Program} {w : World} {A : Around} {E : Value → Shared → Prop} {s : Shared} {tk : Nat} {d : Nat} {env : Env}
/-- what a turn asks before it takes its value -/
noncomputable def tests (ifs : List Expr) (cenv : Env) : Sem Bool := match ifs with
  | [c] => isTrue c cenv (eval c cenv)
  | _ => pure true
noncomputable abbrev Body (prog : Program) (w : World) (A : Around) (elt target : Expr) (ifs : List Expr) (cenv : Env) (v : Value) (Qb : Option Value → Shared → Prop) (s : Shared) : Prop :=
  wpAny (model prog w) A (assign target cenv v) (fun _ s₂ => wpAny (model prog w) A (tests ifs cenv)
    (fun ok s₃ => if ok = true then wpAny (model prog w) A (eval elt cenv) (fun y s₄ => Qb (some y) s₄) (fun _ _ => False) s₃ else Qb none s₃) (fun _ _ => False) s₂) (fun _ _ => False) s
/-- the loop of a comprehension, whatever its target -/
noncomputable def CompLoop (prog : Program) (w : World) (A : Around) (elt target iter : Expr) (ifs : List Expr) (scope : Scope) (pos : Pos) (I acc : Addr) (cenv : Env) : Prop :=
  ∀ (R : Result → Shared → Prop) (Inv : Nat → Shared → Prop), (∀ n s, Inv n s → wpAny (model prog w) A (pyNext (.ref I)) (fun r s₁ => match r with
      | none => R (.ok .next) s₁
      | some v => wpAny (model prog w) A (letOwnedTupleGo target (.ref I) v) (fun _ s₁ => Body prog w A elt target ifs cenv v (fun oy s₄ => match oy with
          | some y => wpAny (model prog w) A (call (.builtin "list.append") [.ref acc, y]) (fun _ s₅ => ∃ m, m < n ∧ Inv m s₅) (fun _ _ => False) s₄
          | none => ∃ m, m < n ∧ Inv m s₄) s₁) (fun _ _ => False) s₁) (fun _ _ => False) s) →
    ∀ n s, Inv n s → codeAny (model prog w) A (.compLoop (.ListComp elt [⟨target, iter, ifs, 0⟩] scope pos) 0 (.ref I) (.ref acc) cenv) R s
theorem pure_inv {α β : Type} {a : α} {t : Sem β} {Q' : β → Shared → Prop} {E E' : Value → Shared → Prop} {s : Shared} (h : wpAny (model prog w) A (pure a : Sem α) (fun _ s => wpAny (model prog w) A t Q' E' s) E s) : wpAny (model prog w) A t Q' E' s := fun Γ p hΓ => by
  have := h Γ p hΓ
  rw [Sem.wp_pure'] at this
  exact this Γ p hΓ
theorem pure_inv_if {β : Type} {t : Sem β} {Q' : β → Shared → Prop} {E E' : Value → Shared → Prop} {C : Shared → Prop} {s : Shared} (h : wpAny (model prog w) A (pure true) (fun ok s => if ok = true then wpAny (model prog w) A t Q' E' s else C s) E s) : wpAny (model prog w) A t Q' E' s := fun Γ p hΓ => by
  have := h Γ p hΓ
  rw [Sem.wp_pure', if_pos rfl] at this
  exact this Γ p hΓ
theorem loopName {elt iter : Expr} {x : Str} {p : Pos} {scope : Scope} {pos : Pos} {I acc : Addr} {cenv : Env} : CompLoop prog w A elt (.Name x p) iter [] scope pos I acc cenv := by
  intro R Inv turn n s hI
  refine codeAny_compLoop_tests Inv (fun n s hI => ?_) n hI
  refine wpAny_mono (turn n s hI) (fun r s₁ h₁ => ?_) fun _ _ f => f.elim
  cases r with
  | none => exact h₁
  | some v =>
    refine wpAny_mono (pure_inv h₁) (fun _ s₂ h₂ => ?_) fun _ _ f => f.elim
    refine wpAny_tests_nil ?_
    rw [if_pos rfl]
    exact wpAny_mono (pure_inv_if h₂) (fun y s₄ h₄ => wpAny_mono h₄ (fun _ s₅ h₅ => h₅) fun _ _ f => f.elim) fun _ _ f => f.elim
theorem loopTest {elt target iter c : Expr} {scope : Scope} {pos : Pos} {I acc : Addr} {cenv : Env} : CompLoop prog w A elt target iter [c] scope pos I acc cenv := by
  intro R Inv turn n s hI
  refine kct_loop Inv (fun n s hI => ?_) n hI
  refine wpAny_mono (turn n s hI) (fun r s₁ h₁ => ?_) fun _ _ f => f.elim
  cases r with
  | none => exact h₁
  | some v =>
    refine wpAny_mono h₁ (fun _ s₁ h₂ => ?_) fun _ _ f => f.elim
    refine wpAny_mono h₂ (fun _ s₂ h₂ => ?_) fun _ _ f => f.elim
    refine wpAny_mono h₂ (fun ok s₃ h₃ => ?_) fun _ _ f => f.elim
    cases ok with
    | false => exact h₃
    | true => exact wpAny_mono h₃ (fun y s₄ h₄ => wpAny_mono h₄ (fun _ s₅ h₅ => h₅) fun _ _ f => f.elim) fun _ _ f => f.elim
end

/-! B6 -/
section
variable {prog : Program} {w : World} {A : Around} {E : Value → Shared → Prop} {s : Shared} {tk : Nat} {d : Nat} {env : Env}
theorem compRun {elt target iter : Expr} {ifs : List Expr} {scope : Scope} {cl : List (Str × Addr)} {pos : Pos} {I : Addr} {fp : List Addr} {n : Nat} {P : Nat → Value → Prop} {SI : Nat → Heap → Prop} {RR : Value → Addr → Result → Shared → Prop}
    (W : Walks prog w A I fp [I] n P SI) (hsz : n ≤ 16777216) (go : Go prog w A target I P SI) (cLoop : ∀ I acc cenv, CompLoop prog w A elt target iter ifs scope pos I acc cenv)
    (hcell : ∀ y ∈ scope.names, y.2 ≠ .cell) (hkind : scope.kind = .function) (hst : SI 0 s.heap) (hSI : ∀ i h, SI i h → ∃ o, h.get? I = some o) (hfp : ∀ b ∈ fp, ∃ o, s.heap.get? b = some o)
    (J : Nat → Heap → List Value → Prop) (hJ : ∀ i z z' ys, J i z ys → Sub z z' → J i z' ys) (h0 : J 0 (hideAll s.heap [I]) [])
    (step : ∀ i v C s₁ tk₁ z ys Qb, i < n → P i v → J i z ys → Sub z s₁.heap → Ext [I] s s₁ → s.heap.get? C = none → Nm s₁.heap C [] →
      (∀ oy s₄ tk₄, Ext [C] s₁ s₄ → Nm s₄.heap C [] → (∀ z', Sub z z' → New s₁ s₄ z' → J (i + 1) z' (ys ++ oy.toList)) → Qb oy (St s₄ tk₄)) → Body prog w A elt target ifs (compEnvC scope cl C env) v Qb (St s₁ tk₁))
    (done : ∀ D C s' tk' ys, Ext [I] s s' → s.heap.get? D = none → s.heap.get? C = none → C ≠ D → Nm s'.heap C [] → s'.heap.PlainList D ys.toArray → ys.length ≤ n → (∃ z, J n z ys ∧ Sub z s'.heap ∧ z.get? C = none) → RR (.ref D) C (.ok .next) (St s' tk')) :
    wpAny (model prog w) A (newList []) (fun acc s₃ => wpAny (model prog w) A (newFunctionEnv scope env.globals cl [] env.qual none .none (some env)) (fun cenv s₄ =>
      codeAny (model prog w) A (.compStart (.ListComp elt [⟨target, iter, ifs, 0⟩] scope pos) 0 (.ref I) acc { cenv with scope := relabel scope env }) (RR acc cenv.locals) s₄) E s₃) E (St s tk) := by
  refine newL (le_line rfl) fun D s₂ tk₂ x₂ hD hl => ?_
  refine wpAny_newFunctionEnv hcell (by intro y hy; simp at hy) (fun h₁ hns₁ hsb₁ => ?_) hkind
  generalize hC' : (St s₂ tk₂).heap.objs.size = C at hns₁ hsb₁ ⊢
  have hC2 : s₂.heap.get? C = none := Heap.get?_none_of_le (Nat.le_of_eq hC')
  have hCs : s.heap.get? C = none := none_of_ext x₂ (fun h => nomatch h) hC2
  have hCD : C ≠ D := by obtain ⟨m, ho⟩ := hl; exact ne_ns hC2 ho
  have x₃ : Ext [] s₂ { s₂ with heap := h₁, toks := tk₂ + 0 } := Ext.of_heap fun a o e => hsb₁.extBut a o (Ne.symm (ne_ns hC2 e)) (Heap.get?_push_of_some _ e)
  have x : Ext [] s { s₂ with heap := h₁, toks := tk₂ + 0 } := x₂.trans x₃
  obtain ⟨oI, hoI⟩ := hSI 0 _ hst
  have hIC : I ≠ C := Ne.symm (ne_ns hCs hoI)
  have hID : I ≠ D := Ne.symm (ne_ns hD hoI)
  have hCf : C ∉ fp := fun h => by obtain ⟨o, ho⟩ := hfp C h; rw [hCs] at ho; cases ho
  have hDf : D ∉ fp := fun h => by obtain ⟨o, ho⟩ := hfp D h; rw [hD] at ho; cases ho
  have hNm : Nm h₁ C [] := ⟨_, hns₁, fun _ _ e => nomatch e⟩
  have st₀ : SI 0 h₁ := W.frame 0 _ _ hst fun b _ o e => x.keep b o (fun h => nomatch h) e
  have loop : codeAny (model prog w) A (.compLoop (.ListComp elt [⟨target, iter, ifs, 0⟩] scope pos) 0 (.ref I) (.ref D) (compEnvC scope cl C env)) (RR (.ref D) C) (St { s₂ with heap := h₁, toks := tk₂ + 0 } (tk₂ + 0)) := by
    refine cLoop I D (compEnvC scope cl C env) _ (fun k s' => ∃ i s₁ tk₁ ys z, s' = St s₁ tk₁ ∧ k = n - i ∧ i ≤ n ∧ SI i s₁.heap ∧ s₁.heap.PlainList D ys.toArray ∧ ys.length ≤ i ∧ Nm s₁.heap C [] ∧ J i z ys ∧ Sub z s₁.heap ∧ (∀ a ∈ [I, C, D], z.get? a = none) ∧ Ext [I] s s₁) ?_ n _
      ⟨0, _, _, [], hideAll (hideAll s.heap [I]) [C, D], rfl, rfl, Nat.zero_le _, st₀, hl.at fun o e => x₃.keep D o (fun h => nomatch h) e, Nat.zero_le _, hNm, ?_, ?_, ?_, x.any⟩
    · rintro k s' ⟨i, s₁, tk₁, ys, z, rfl, rfl, hi, hs, hpl, hlen, hn, hj, hz, hoff, hx⟩
      have hx' : Ext [I] s s₁ := hx
      by_cases hlt : i < n
      · refine W.item i _ _ _ hlt hs fun v h' tk' hP hs' hk => ?_
        have y : Ext [I] s₁ { s₁ with heap := h', toks := tk' } := ⟨⟨h', tk', rfl⟩, hk⟩
        have hzI : Sub z h' := fun a o e => hk a o (fun q => by rw [hoff a (by simp only [List.mem_cons, List.not_mem_nil, or_false] at q ⊢; exact .inl q)] at e; cases e) (hz a o e)
        have hnC : Nm h' C [] := hn.keep fun o e => hk C o (fun q => hIC (List.mem_singleton.mp q).symm) e
        have hplD : h'.PlainList D ys.toArray := hpl.at fun o e => hk D o (fun q => hID (List.mem_singleton.mp q).symm) e
        obtain ⟨oC, hoC⟩ := hnC.has
        obtain ⟨nD, hoD⟩ := id hplD
        have hoI' := hSI _ _ hs'
        refine go i v _ _ _ hP hs' ?_
        refine step i v C { s₁ with heap := h', toks := tk' } tk' z ys _ hlt hP hj hzI (hx'.trans y) hCs hnC fun oy s₄ tk₄ e₄ n4 hJ₄ => ?_
        obtain ⟨oI', hoI'⟩ := hoI'
        have hout : ∀ a ∈ [I, C, D], (∃ o, h'.get? a = some o) := fun a ha => by
          simp only [List.mem_cons, List.not_mem_nil, or_false] at ha
          rcases ha with rfl | rfl | rfl
          · exact ⟨_, hoI'⟩
          · exact ⟨_, hoC⟩
          · exact ⟨_, hoD⟩
        have hz4 : Sub z s₄.heap := fun a o e => e₄.keep a o (fun q => by rw [hoff a (by simp only [List.mem_cons, List.not_mem_nil, or_false] at q ⊢; exact .inr (.inl q))] at e; cases e) (hzI a o e)
        have j4 : J (i + 1) (hideAll s₄.heap [I, C, D]) (ys ++ oy.toList) := by
          refine hJ₄ _ (fun a o e => hideAll_get _ (hz4 a o e) fun q => by rw [hoff a q] at e; cases e) fun a o hn e => hideAll_get _ e fun q => by obtain ⟨o', ho'⟩ := hout a q; rw [ho'] at hn; cases hn
        have hsub4 : Sub (hideAll s₄.heap [I, C, D]) s₄.heap := fun a o e => of_hideAll _ e
        have hoff4 : ∀ a ∈ [I, C, D], (hideAll s₄.heap [I, C, D]).get? a = none := fun a q => hideAll_none _ q
        have st4 : SI (i + 1) s₄.heap := W.frame _ _ _ hs' fun b hb o e => e₄.keep b o (fun q => hCf ((List.mem_singleton.mp q) ▸ hb)) e
        have pl4 : s₄.heap.PlainList D ys.toArray := hplD.at fun o e => e₄.keep D o (fun q => hCD (List.mem_singleton.mp q).symm) e
        have ex4 : Ext [I] s s₄ := (hx'.trans y).fresh e₄ fun a q => .inr ((List.mem_singleton.mp q) ▸ hCs)
        cases oy with
        | none =>
          refine ⟨n - (i + 1), by omega, i + 1, s₄, tk₄, ys, _, rfl, rfl, hlt, st4, pl4, Nat.le_succ_of_le hlen, n4, ?_, hsub4, hoff4, ex4⟩
          simpa using j4
        | some u =>
          refine lAppend pl4 (le_line' (by omega)) fun s₅ tk₅ e₅ pl5 => ?_
          refine ⟨n - (i + 1), by omega, i + 1, s₅, tk₅, ys ++ [u], _, rfl, rfl, hlt, W.frame _ _ _ st4 fun b hb o e => e₅.keep b o (fun q => hDf ((List.mem_singleton.mp q) ▸ hb)) e, pl5, by rw [List.length_append]; exact Nat.succ_le_succ hlen,
            n4.keep fun o e => e₅.keep C o (fun q => hCD (List.mem_singleton.mp q)) e, ?_, fun a o e => e₅.keep a o (fun q => by rw [hoff4 a (by simp only [List.mem_cons, List.not_mem_nil, or_false] at q ⊢; exact .inr (.inr q))] at e; cases e) (hsub4 a o e), hoff4, ex4.fresh e₅ fun a q => .inr ((List.mem_singleton.mp q) ▸ hD)⟩
          exact j4
      · have hin : i = n := by omega
        subst hin
        refine W.done _ _ _ hs fun h' tk' hk => ?_
        have y : Ext [I] s₁ { s₁ with heap := h', toks := tk' } := ⟨⟨h', tk', rfl⟩, hk⟩
        exact done D C { s₁ with heap := h', toks := tk' } tk' ys (hx'.trans y) hD hCs hCD (hn.keep fun o e => hk C o (fun q => hIC (List.mem_singleton.mp q).symm) e) (hpl.at fun o e => hk D o (fun q => hID (List.mem_singleton.mp q).symm) e) hlen
          ⟨z, hj, fun a o e => hk a o (fun q => by rw [hoff a (by simp only [List.mem_cons, List.not_mem_nil, or_false] at q ⊢; exact .inl q)] at e; cases e) (hz a o e), hoff C (by simp)⟩
    · refine hJ _ _ _ _ h0 fun a o e => hideAll_get _ e fun q => ?_
      have := of_hideAll _ e
      simp only [List.mem_cons, List.not_mem_nil, or_false] at q
      rcases q with rfl | rfl
      · rw [hCs] at this; cases this
      · rw [hD] at this; cases this
    · exact fun a o e => x.keep a o (fun h => nomatch h) (of_hideAll _ (of_hideAll _ e))
    · intro a q
      simp only [List.mem_cons, List.not_mem_nil, or_false] at q
      rcases q with rfl | rfl | rfl
      · cases e : (hideAll (hideAll s.heap [a]) [C, D]).get? a with
        | none => rfl
        | some o => have := of_hideAll _ e; rw [hideAll_none _ (by simp)] at this; cases this
      · exact hideAll_none _ (by simp)
      · exact hideAll_none _ (by simp)
  exact codeAny_compStart_list loop (W.self 0 _ _ _ st₀ loop)
/-- what is left to show of a comprehension, once its iterator stands -/
noncomputable abbrev CompGoal (prog : Program) (w : World) (A : Around) (E : Value → Shared → Prop) (env : Env) (elt target iter : Expr) (ifs : List Expr) (scope : Scope) (cl : List (Str × Addr)) (pos : Pos) (RR : Value → Addr → Result → Shared → Prop) (it : Value) (s : Shared) : Prop :=
  wpAny (model prog w) A (newList []) (fun acc s₃ => wpAny (model prog w) A (newFunctionEnv scope env.globals cl [] env.qual none .none (some env)) (fun cenv s₄ =>
      codeAny (model prog w) A (.compStart (.ListComp elt [⟨target, iter, ifs, 0⟩] scope pos) 0 it acc { cenv with scope := relabel scope env }) (RR acc cenv.locals) s₄) E s₃) E s
theorem compE {elt target iter : Expr} {ifs : List Expr} {scope : Scope} {pos : Pos} {Q : Value → Shared → Prop} (cl : List (Str × Addr)) (hclos : closureFor scope env = pure cl)
    (h : wpAny (model prog w) A (eval iter env) (fun x s₁ => wpAny (model prog w) A (pyIter x) (fun it s₂ => CompGoal prog w A E env elt target iter ifs scope cl pos (fun acc C => compPost (model prog w) A E none Q acc C) it s₂) E s₁) E (St s tk))
    (hkind : scope.kind = .function := by kernel_rfl) (hnames : ∀ y ∈ scope.names, y.2 = .local → scope.names.lookup y.1 = some .local := by decide)
    (hs : ∀ x, foldedSetIterable iter env x = pure x := by intro _; kernel_rfl) : wpAny (model prog w) A (eval (.ListComp elt [⟨target, iter, ifs, 0⟩] scope pos) env) Q E (St s tk) := by
  rw [eval_ListComp]
  exact wpAny_comprehension_free (use := none) rfl hs hclos hkind hnames h
theorem Bz.iter {w : World} {M : List Addr} {s₀ s s' : Shared} {env : Env} {l cl : List (Str × Value)} {I : Addr} (F : Fm M s₀ env l cl s) (hb : Bz w M s₀) (hI : s.heap.get? I = none) (e : Ext [] s s') : Bz w [I] s' :=
  ⟨s.heap, F.bz hb, e.sub, fun a q => (List.mem_singleton.mp q) ▸ hI⟩
/-- a comprehension with a name as its target; s is its state when its iterator stands -/
theorem compN {elt iter : Expr} {x : Str} {p : Pos} {ifs : List Expr} {scope : Scope} {cl : List (Str × Addr)} {ccl : List (Str × Value)} {pos : Pos} {I : Addr} {fp : List Addr} {n : Nat} {P : Nat → Value → Prop} {SI : Nat → Heap → Prop} {RR : Value → Addr → Result → Shared → Prop}
    (hb : Bz w [I] s) (W : Walks prog w A I fp [I] n P SI) (hsz : n ≤ 16777216) (cLoop : ∀ I acc cenv, CompLoop prog w A elt (.Name x p) iter ifs scope pos I acc cenv)
    (hst : SI 0 s.heap) (hSI : ∀ i h, SI i h → ∃ o, h.get? I = some o) (hfp : ∀ b ∈ fp, ∃ o, s.heap.get? b = some o)
    (hcc : ∀ n c, cl.lookup n = some c → c ≠ I ∧ ∃ o, s.heap.IsCell c o ∧ ∀ v, look ccl n = some v → o = some v)
    (J : Nat → Heap → List Value → Prop) (hJ : ∀ i z z' ys, J i z ys → Sub z z' → J i z' ys) (h0 : J 0 (hideAll s.heap [I]) [])
    (step : ∀ i v C s₀ s₁ tk₁ z ys (Qb : Option Value → Shared → Prop), i < n → P i v → J i z ys → Sub z s₀.heap → Ext [I] s s₀ → Bz w [C] s₀ → Fm [C] s₀ (compEnvC scope cl C env) [(x, v)] ccl s₁ → s.heap.get? C = none →
      (∀ oy s₄ tk₄, Fm [C] s₀ (compEnvC scope cl C env) [(x, v)] ccl s₄ → (∀ z', Sub z z' → New s₀ s₄ z' → J (i + 1) z' (ys ++ oy.toList)) → Qb oy (St s₄ tk₄)) →
      wpAny (model prog w) A (tests ifs (compEnvC scope cl C env)) (fun ok s₃ => if ok = true then wpAny (model prog w) A (eval elt (compEnvC scope cl C env)) (fun y s₄ => Qb (some y) s₄) (fun _ _ => False) s₃ else Qb none s₃) (fun _ _ => False) (St s₁ tk₁))
    (done : ∀ D C s' tk' ys, Ext [I] s s' → s.heap.get? D = none → s.heap.get? C = none → C ≠ D → Nm s'.heap C [] → s'.heap.PlainList D ys.toArray → ys.length ≤ n → (∃ z, J n z ys ∧ Sub z s'.heap ∧ z.get? C = none) → RR (.ref D) C (.ok .next) (St s' tk'))
    (hcell : ∀ y ∈ scope.names, y.2 ≠ .cell := by decide) (hkind : scope.kind = .function := by kernel_rfl) (hx : ∀ C, (compEnvC scope cl C env).kindOf x = some .local := by intro _; kernel_rfl) (hk : ∀ C, (compEnvC scope cl C env).scope.kind = .function := by intro _; kernel_rfl) :
    CompGoal prog w A E env elt (.Name x p) iter ifs scope cl pos RR (.ref I) (St s tk) := by
  refine compRun W hsz goName cLoop hcell hkind hst hSI hfp J hJ h0 (fun i v C s₁ tk₁ z ys Qb hi hP hj hz hx₁ hC hn k => ?_) done
  have hcc' : ∀ m c, (compEnvC scope cl C env).cells.lookup m = some c → c ≠ C ∧ ∃ o, s₁.heap.IsCell c o ∧ ∀ v, look ccl m = some v → o = some v := fun m c e => by
    obtain ⟨hcI, o, ⟨oc, ho, hd⟩, q⟩ := hcc m c e
    exact ⟨Ne.symm (ne_ns hC ho), o, ⟨oc, hx₁.keep c oc (fun q => hcI (List.mem_singleton.mp q)) ho, hd⟩, q⟩
  have F : Fm [C] s₁ (compEnvC scope cl C env) [] ccl s₁ := ⟨Ext.refl _ _, hn, fun m c e => (hcc' m c e).2⟩
  refine wpAny_assign_Name (stoLo F (.inl (List.mem_singleton.mpr rfl)) (fun m c e => (hcc' m c e).1) (fun s₂ tk₂ e₂ F₂ => ?_) (hk C) (hx C))
  refine step i v C s₁ s₂ tk₂ z ys Qb hi hP hj hz hx₁ ?_ F₂ hC fun oy s₄ tk₄ F₄ hj₄ => k oy s₄ tk₄ F₄.ext (F₄.ns.less fun _ _ e => nomatch e) hj₄
  obtain ⟨zb, b1, b2, b3⟩ := hb
  refine ⟨zb, b1, fun a o e => hx₁.keep a o (fun q => by rw [b3 a q] at e; cases e) (b2 a o e), fun a q => ?_⟩
  rw [List.mem_singleton.mp q]
  cases e : zb.get? C with
  | none => rfl
  | some o => rw [b2 C o e] at hC; cases hC
/-- the end of a comprehension that is not stored at once -/
theorem compPost_of {Q : Value → Shared → Prop} {D C : Addr} {s' : Shared} {tk' : Nat} (hn : Nm s'.heap C []) (h : ∀ h', Heap.SameBut C s'.heap h' → Q (.ref D) (St { s' with heap := h' } tk')) :
    compPost (model prog w) A E none Q (.ref D) C (.ok .next) (St s' tk') := let ⟨m, n, _⟩ := hn; ⟨m, n, fun h' hs => h h' hs⟩
theorem tst0 {elt : Expr} {cenv : Env} {Qb : Option Value → Shared → Prop} (h : wpAny (model prog w) A (eval elt cenv) (fun y s₄ => Qb (some y) s₄) (fun _ _ => False) s) :
    wpAny (model prog w) A (tests [] cenv) (fun ok s₃ => if ok = true then wpAny (model prog w) A (eval elt cenv) (fun y s₄ => Qb (some y) s₄) (fun _ _ => False) s₃ else Qb none s₃) (fun _ _ => False) s := wpAny_pure (a := true) (by rw [if_pos rfl]; exact h)
theorem tst1 {c elt : Expr} {cenv : Env} {Qb : Option Value → Shared → Prop} (h : wpAny (model prog w) A (isTrue c cenv (eval c cenv)) (fun ok s₃ => if ok = true then wpAny (model prog w) A (eval elt cenv) (fun y s₄ => Qb (some y) s₄) (fun _ _ => False) s₃ else Qb none s₃) (fun _ _ => False) s) :
    wpAny (model prog w) A (tests [c] cenv) (fun ok s₃ => if ok = true then wpAny (model prog w) A (eval elt cenv) (fun y s₄ => Qb (some y) s₄) (fun _ _ => False) s₃ else Qb none s₃) (fun _ _ => False) s := h
/-- a comprehension with a name as its target, from the state ahead of its iterator on -/
theorem compIter {M : List Addr} {s₀ s' : Shared} {tk' : Nat} {l lc : List (Str × Value)} {elt iter : Expr} {x : Str} {p : Pos} {ifs : List Expr} {scope : Scope} {cl : List (Str × Addr)} {ccl : List (Str × Value)} {pos : Pos} {I : Addr} {fp : List Addr} {n : Nat} {P : Nat → Value → Prop} {SI : Nat → Heap → Prop} {Q : Value → Shared → Prop}
    (F : Fm M s₀ env l lc s) (hM : ∀ b ∈ M, ∃ o, s.heap.get? b = some o) (hb : Bz w M s₀) (e : Ext [] s s') (hI : s.heap.get? I = none) (W : Walks prog w A I fp [I] n P SI) (hsz : n ≤ 16777216) (cLoop : ∀ I acc cenv, CompLoop prog w A elt (.Name x p) iter ifs scope pos I acc cenv)
    (hst : SI 0 s'.heap) (hSI : ∀ i h, SI i h → ∃ o, h.get? I = some o) (hfp : ∀ b ∈ fp, ∃ o, s'.heap.get? b = some o)
    (hcc : ∀ n c, cl.lookup n = some c → ∃ o, s.heap.IsCell c o ∧ ∀ v, look ccl n = some v → o = some v)
    (J : Nat → Heap → List Value → Prop) (hJ : ∀ i z z' ys, J i z ys → Sub z z' → J i z' ys) (h0 : ∀ z, J 0 z [])
    (step : ∀ i v C s₂ s₁ tk₁ z ys (Qb : Option Value → Shared → Prop), i < n → P i v → J i z ys → Sub z s₂.heap → Ext [] s s₂ → Bz w [C] s₂ → Fm [C] s₂ (compEnvC scope cl C env) [(x, v)] ccl s₁ → Sub s.heap s₁.heap →
      (∀ oy s₄ tk₄, Fm [C] s₂ (compEnvC scope cl C env) [(x, v)] ccl s₄ → (∀ z', Sub z z' → New s₂ s₄ z' → J (i + 1) z' (ys ++ oy.toList)) → Qb oy (St s₄ tk₄)) →
      wpAny (model prog w) A (tests ifs (compEnvC scope cl C env)) (fun ok s₃ => if ok = true then wpAny (model prog w) A (eval elt (compEnvC scope cl C env)) (fun y s₄ => Qb (some y) s₄) (fun _ _ => False) s₃ else Qb none s₃) (fun _ _ => False) (St s₁ tk₁))
    (done : ∀ D s'' tk'' ys, Ext [] s s'' → Fm M s₀ env l lc s'' → s.heap.get? D = none → s''.heap.PlainList D ys.toArray → ys.length ≤ n → J n s''.heap ys → Q (.ref D) (St s'' tk''))
    (hcell : ∀ y ∈ scope.names, y.2 ≠ .cell := by decide) (hkind : scope.kind = .function := by kernel_rfl) (hx : ∀ C, (compEnvC scope cl C env).kindOf x = some .local := by intro _; kernel_rfl) (hk : ∀ C, (compEnvC scope cl C env).scope.kind = .function := by intro _; kernel_rfl) :
    CompGoal prog w A E env elt (.Name x p) iter ifs scope cl pos (fun acc C => compPost (model prog w) A E none Q acc C) (.ref I) (St s' tk') := by
  refine compN (Bz.iter F hb hI e) W hsz cLoop hst hSI hfp (fun n c h => ?_) J hJ (h0 _) (fun i v C s₂ s₁ tk₁ z ys Qb hi hP hj hz hx₁ hb₁ F₁ hC k => step i v C s₂ s₁ tk₁ z ys Qb hi hP hj hz (e.fresh hx₁ fun a q => .inr ((List.mem_singleton.mp q) ▸ hI)) hb₁ F₁ (fun a o q => F₁.ext.keep a o (fun r => by rw [← List.mem_singleton.mp r, e.sub a o q] at hC; cases hC) ((e.fresh hx₁ fun a q => .inr ((List.mem_singleton.mp q) ▸ hI)).sub a o q)) k)
    (fun D C s₂ tk₂ ys x₂ hD hC hCD hn hl hlen hz => compPost_of hn fun h' hs => ?_) hcell hkind hx hk
  · obtain ⟨o, ⟨oc, ho, hd⟩, q⟩ := hcc n c h
    exact ⟨Ne.symm (ne_ns hI ho), o, ⟨oc, e.sub _ _ ho, hd⟩, q⟩
  · obtain ⟨z, hj, hzs, hzC⟩ := hz
    have y : Ext [C] s₂ { s₂ with heap := h', toks := tk₂ } := Ext.of_but hs
    have hCs : s.heap.get? C = none := none_of_ext e (fun q => nomatch q) hC
    have x : Ext [] s { s₂ with heap := h', toks := tk₂ } := (e.fresh x₂ fun a q => .inr ((List.mem_singleton.mp q) ▸ hI)).fresh y fun a q => .inr ((List.mem_singleton.mp q) ▸ hCs)
    refine done D { s₂ with heap := h', toks := tk₂ } tk₂ ys x (F.step0 x) (none_of_ext e (fun q => nomatch q) hD) (hl.at fun o q => y.keep D o (fun r => hCD (List.mem_singleton.mp r).symm) q) hlen (hJ _ _ _ _ hj fun a o q => y.keep a o (fun r => ?_) (hzs a o q))
    rw [List.mem_singleton.mp r, hzC] at q; cases q
theorem compList {M : List Addr} {s₀ : Shared} {l lc : List (Str × Value)} {elt iter : Expr} {x : Str} {p : Pos} {ifs : List Expr} {scope : Scope} {cl : List (Str × Addr)} {ccl : List (Str × Value)} {pos : Pos} {a : Addr} {vs : List Value} {Q : Value → Shared → Prop}
    (F : Fm M s₀ env l lc s) (hM : ∀ b ∈ M, ∃ o, s.heap.get? b = some o) (hb : Bz w M s₀) (hA : Lv d A) (hl : s.heap.PlainList a vs.toArray) (hsz : vs.length ≤ 16777216) (cLoop : ∀ I acc cenv, CompLoop prog w A elt (.Name x p) iter ifs scope pos I acc cenv)
    (hcc : ∀ n c, cl.lookup n = some c → ∃ o, s.heap.IsCell c o ∧ ∀ v, look ccl n = some v → o = some v)
    (J : Nat → Heap → List Value → Prop) (hJ : ∀ i z z' ys, J i z ys → Sub z z' → J i z' ys) (h0 : ∀ z, J 0 z [])
    (step : ∀ i v C s₂ s₁ tk₁ z ys (Qb : Option Value → Shared → Prop), vs[i]? = some v → J i z ys → Sub z s₂.heap → Ext [] s s₂ → Bz w [C] s₂ → Fm [C] s₂ (compEnvC scope cl C env) [(x, v)] ccl s₁ → Sub s.heap s₁.heap →
      (∀ oy s₄ tk₄, Fm [C] s₂ (compEnvC scope cl C env) [(x, v)] ccl s₄ → (∀ z', Sub z z' → New s₂ s₄ z' → J (i + 1) z' (ys ++ oy.toList)) → Qb oy (St s₄ tk₄)) →
      wpAny (model prog w) A (tests ifs (compEnvC scope cl C env)) (fun ok s₃ => if ok = true then wpAny (model prog w) A (eval elt (compEnvC scope cl C env)) (fun y s₄ => Qb (some y) s₄) (fun _ _ => False) s₃ else Qb none s₃) (fun _ _ => False) (St s₁ tk₁))
    (done : ∀ D s'' tk'' ys, Ext [] s s'' → Fm M s₀ env l lc s'' → s.heap.get? D = none → s''.heap.PlainList D ys.toArray → ys.length ≤ vs.length → J vs.length s''.heap ys → Q (.ref D) (St s'' tk''))
    (hcell : ∀ y ∈ scope.names, y.2 ≠ .cell := by decide) (hkind : scope.kind = .function := by kernel_rfl) (hx : ∀ C, (compEnvC scope cl C env).kindOf x = some .local := by intro _; kernel_rfl) (hk : ∀ C, (compEnvC scope cl C env).scope.kind = .function := by intro _; kernel_rfl) :
    wpAny (model prog w) A (pyIter (.ref a)) (fun it s₂ => CompGoal prog w A E env elt (.Name x p) iter ifs scope cl pos (fun acc C => compPost (model prog w) A E none Q acc C) it s₂) E (St s tk) := by
  refine itL hl fun I s' tk' e hI hit => ?_
  obtain ⟨nl, hol⟩ := id hl
  have hne : a ≠ I := Ne.symm (ne_ns hI hol)
  have hl' : s'.heap.PlainList a vs.toArray := hl.at fun o q => e.sub _ _ q
  have hn : vs.toArray.size = vs.length := List.size_toArray ..
  refine compIter F hM hb e hI (Walks.list hA.1 I a hne vs.toArray) (by rw [hn]; exact hsz) cLoop ⟨hit, hl'.isList⟩ (fun i h q => ?_) (fun b q => ?_) hcc J hJ h0 (fun i v C s₂ s₁ tk₁ z ys Qb hi hP hj hz hx₁ hb₁ F₁ hS k => step i v C s₂ s₁ tk₁ z ys Qb (by simpa using hP) hj hz hx₁ hb₁ F₁ hS k) (by rw [hn]; exact done) hcell hkind hx hk
  · obtain ⟨⟨o, ho, _⟩, _⟩ := q; exact ⟨o, ho⟩
  · simp only [List.mem_cons, List.not_mem_nil, or_false] at q
    rcases q with rfl | rfl
    · obtain ⟨o, ho, _⟩ := hit; exact ⟨o, ho⟩
    · obtain ⟨m, ho⟩ := hl'; exact ⟨_, ho⟩
theorem compRange {M : List Addr} {s₀ : Shared} {l lc : List (Str × Value)} {elt iter : Expr} {x : Str} {p : Pos} {ifs : List Expr} {scope : Scope} {cl : List (Str × Addr)} {ccl : List (Str × Value)} {pos : Pos} {r : Addr} {a b : Int} {t u v : Tok} {Q : Value → Shared → Prop}
    (F : Fm M s₀ env l lc s) (hM : ∀ b ∈ M, ∃ o, s.heap.get? b = some o) (hb : Bz w M s₀) (hA : Lv d A) (hr : IsRange s.heap r a b 1 t u v) (ha : 0 ≤ a) (ha' : a ≤ 1000000) (hbb : 0 ≤ b) (hb' : b ≤ 1000000) (cLoop : ∀ I acc cenv, CompLoop prog w A elt (.Name x p) iter ifs scope pos I acc cenv)
    (hcc : ∀ n c, cl.lookup n = some c → ∃ o, s.heap.IsCell c o ∧ ∀ v, look ccl n = some v → o = some v)
    (J : Nat → Heap → List Value → Prop) (hJ : ∀ i z z' ys, J i z ys → Sub z z' → J i z' ys) (h0 : ∀ z, J 0 z [])
    (step : ∀ i t C s₂ s₁ tk₁ z ys (Qb : Option Value → Shared → Prop), i < (b - a).toNat → J i z ys → Sub z s₂.heap → Ext [] s s₂ → Bz w [C] s₂ → Fm [C] s₂ (compEnvC scope cl C env) [(x, .int (a + i) t)] ccl s₁ → Sub s.heap s₁.heap →
      (∀ oy s₄ tk₄, Fm [C] s₂ (compEnvC scope cl C env) [(x, .int (a + i) t)] ccl s₄ → (∀ z', Sub z z' → New s₂ s₄ z' → J (i + 1) z' (ys ++ oy.toList)) → Qb oy (St s₄ tk₄)) →
      wpAny (model prog w) A (tests ifs (compEnvC scope cl C env)) (fun ok s₃ => if ok = true then wpAny (model prog w) A (eval elt (compEnvC scope cl C env)) (fun y s₄ => Qb (some y) s₄) (fun _ _ => False) s₃ else Qb none s₃) (fun _ _ => False) (St s₁ tk₁))
    (done : ∀ D s'' tk'' ys, Ext [] s s'' → Fm M s₀ env l lc s'' → s.heap.get? D = none → s''.heap.PlainList D ys.toArray → ys.length ≤ (b - a).toNat → J (b - a).toNat s''.heap ys → Q (.ref D) (St s'' tk''))
    (hcell : ∀ y ∈ scope.names, y.2 ≠ .cell := by decide) (hkind : scope.kind = .function := by kernel_rfl) (hx : ∀ C, (compEnvC scope cl C env).kindOf x = some .local := by intro _; kernel_rfl) (hk : ∀ C, (compEnvC scope cl C env).scope.kind = .function := by intro _; kernel_rfl) :
    wpAny (model prog w) A (pyIter (.ref r)) (fun it s₂ => CompGoal prog w A E env elt (.Name x p) iter ifs scope cl pos (fun acc C => compPost (model prog w) A E none Q acc C) it s₂) E (St s tk) := by
  refine itR hr ha ha' hbb hb' fun I s' tk' e hI hit => ?_
  refine compIter F hM hb e hI (Walks.range hA.1 I a 1 (b - a).toNat) (by omega) cLoop (by simpa using hit) (fun i h q => ⟨_, q⟩) (fun b q => ?_) hcc J hJ h0 (fun i v C s₂ s₁ tk₁ z ys Qb hi hP hj hz hx₁ hb₁ F₁ hS k => ?_) done hcell hkind hx hk
  · rw [List.mem_singleton.mp q]; exact ⟨_, hit⟩
  · obtain ⟨t, rfl⟩ := hP
    rw [Int.mul_one] at F₁ k
    exact step i t C s₂ s₁ tk₁ z ys Qb hi hj hz hx₁ hb₁ F₁ hS k
end

/-! B7 -/
/-! ## data -/
inductive PV where
  | int (i : Int) | bytes (b : Array UInt8) | none | bool (b : Bool) | tup (l : List PV)
noncomputable def P2 {α β : Type} (R : α → β → Prop) : List α → List β → Prop
  | [], [] => True
  | a :: l, b :: m => R a b ∧ P2 R l m
  | _, _ => False
theorem P2.len {α β : Type} {R : α → β → Prop} : ∀ {l : List α} {m : List β}, P2 R l m → l.length = m.length
  | [], [], _ => rfl
  | _ :: _, _ :: _, h => by rw [List.length_cons, List.length_cons, P2.len h.2]
theorem P2.mono {α β : Type} {R S : α → β → Prop} (k : ∀ a b, R a b → S a b) : ∀ {l : List α} {m : List β}, P2 R l m → P2 S l m
  | [], [], _ => trivial
  | _ :: _, _ :: _, h => ⟨k _ _ h.1, P2.mono k h.2⟩
theorem P2.append {α β : Type} {R : α → β → Prop} : ∀ {l l' : List α} {m m' : List β}, P2 R l m → P2 R l' m' → P2 R (l ++ l') (m ++ m')
  | [], _, [], _, _, h => h
  | _ :: _, _, _ :: _, _, h, h' => ⟨h.1, P2.append h.2 h'⟩
theorem P2.snoc {α β : Type} {R : α → β → Prop} {l : List α} {m : List β} {a : α} {b : β} (h : P2 R l m) (r : R a b) : P2 R (l ++ [a]) (m ++ [b]) := h.append ⟨r, trivial⟩
theorem P2.get {α β : Type} {R : α → β → Prop} : ∀ {l : List α} {m : List β} {i : Nat} {b : β}, P2 R l m → m[i]? = some b → ∃ a, l[i]? = some a ∧ R a b
  | [], [], _, _, _, h => by simp at h
  | a :: _, c :: _, 0, b, h, e => ⟨a, rfl, by simp at e; rw [← e]; exact h.1⟩
  | _ :: _, _ :: _, i + 1, b, h, e => by
    obtain ⟨x, hx, r⟩ := P2.get h.2 (by simpa using e)
    exact ⟨x, by simpa using hx, r⟩
theorem P2.get' {α β : Type} {R : α → β → Prop} : ∀ {l : List α} {m : List β} {i : Nat} {a : α}, P2 R l m → l[i]? = some a → ∃ b, m[i]? = some b ∧ R a b
  | [], [], _, _, _, h => by simp at h
  | c :: _, b :: _, 0, a, h, e => ⟨b, rfl, by simp at e; rw [← e]; exact h.1⟩
  | _ :: _, _ :: _, i + 1, a, h, e => by
    obtain ⟨x, hx, r⟩ := P2.get' h.2 (by simpa using e)
    exact ⟨x, by simpa using hx, r⟩
theorem P2.take {α β : Type} {R : α → β → Prop} : ∀ (k : Nat) {l : List α} {m : List β}, P2 R l m → P2 R (l.take k) (m.take k)
  | 0, _, _, _ => trivial
  | _ + 1, [], [], _ => trivial
  | k + 1, _ :: _, _ :: _, h => ⟨h.1, P2.take k h.2⟩
theorem P2.drop {α β : Type} {R : α → β → Prop} : ∀ (k : Nat) {l : List α} {m : List β}, P2 R l m → P2 R (l.drop k) (m.drop k)
  | 0, _, _, h => h
  | _ + 1, [], [], _ => trivial
  | k + 1, _ :: _, _ :: _, h => P2.drop k h.2
noncomputable def IsAtom (v : Value) : PV → Prop
  | .int i => ∃ t, v = .int i t
  | .bytes b => ∃ t, v = .bytes b t
  | .none => v = .none
  | .bool b => v = .bool b
  | .tup _ => False
/-- v is the datum p in z, nested n deep at most -/
noncomputable def Is (z : Heap) : Nat → Value → PV → Prop
  | 0, v, p => IsAtom v p
  | n + 1, v, p => match p with
    | .tup l => ∃ a vs, v = .ref a ∧ z.IsTuple a (vs : List Value).toArray ∧ P2 (Is z n) vs l
    | p => IsAtom v p
theorem Is.sub {z z' : Heap} (k : Sub z z') : ∀ {n : Nat} {v : Value} {p : PV}, Is z n v p → Is z' n v p
  | 0, _, _, h => h
  | n + 1, v, .tup l, ⟨a, vs, e, ⟨o, ho, r⟩, h⟩ => ⟨a, vs, e, ⟨o, k _ _ ho, r⟩, h.mono fun _ _ q => Is.sub k q⟩
  | n + 1, _, .int _, h => h
  | n + 1, _, .bytes _, h => h
  | n + 1, _, .none, h => h
  | n + 1, _, .bool _, h => h
theorem isInt {z : Heap} {n : Nat} {i : Int} {t : Tok} : Is z n (.int i t) (.int i) := by cases n <;> exact ⟨t, rfl⟩
theorem isBytes {z : Heap} {n : Nat} {b : Array UInt8} {t : Tok} : Is z n (.bytes b t) (.bytes b) := by cases n <;> exact ⟨t, rfl⟩
theorem isNone {z : Heap} {n : Nat} : Is z n .none .none := by cases n <;> rfl
theorem isBool {z : Heap} {n : Nat} {b : Bool} : Is z n (.bool b) (.bool b) := by cases n <;> rfl
theorem isTup {z : Heap} {n : Nat} {a : Addr} {vs : List Value} {l : List PV} (h : z.get? a = some { cls := .type "tuple", data := .seq vs.toArray }) (hs : P2 (Is z n) vs l) : Is z (n + 1) (.ref a) (.tup l) := ⟨a, vs, rfl, ⟨_, h, rfl, 0, rfl⟩, hs⟩
/-- a datum that is new from s to s' -/
noncomputable def Fresh (s s' : Shared) (n : Nat) (v : Value) (p : PV) : Prop := ∀ z, New s s' z → Is z n v p
section
open PySem.SeqAt
theorem eqBytes {A : Around} {s : Shared} {b : Array UInt8} {t u : Tok} : EqAt A s (.bytes b t) (.bytes b u) true := fun prog w E Q h => PySem.W.eqBool_bytes (by rw [decide_eq_true rfl]; exact h)
theorem neBytes {A : Around} {s : Shared} {b c : Array UInt8} {t u : Tok} (hn : b ≠ c) : EqAt A s (.bytes b t) (.bytes c u) false := fun prog w E Q h => PySem.W.eqBool_bytes (by rw [decide_eq_false fun q => hn (Array.toList_inj.mp q)]; exact h)
theorem all_true (n : Nat) : (List.range n).all (fun _ => true) = true := by rw [List.all_eq_true]; intros; rfl
theorem eqIs : ∀ {n : Nat} {A : Around} {s : Shared} {v u : Value} {p : PV}, A.units + n < cLine → Is s.heap n v p → Is s.heap n u p → EqAt A s v u true := by
  have atom : ∀ {A : Around} {s : Shared} {v u : Value} {p : PV}, IsAtom v p → IsAtom u p → EqAt A s v u true := by
    intro A s v u p h h'
    cases p with
    | int i => obtain ⟨t, rfl⟩ := h; obtain ⟨t', rfl⟩ := h'; have := EqAt.int_int (A := A) (s := s) i t i t'; rwa [beq_self_eq_true] at this
    | bytes b => obtain ⟨t, rfl⟩ := h; obtain ⟨t', rfl⟩ := h'; exact eqBytes
    | none => cases h; cases h'; exact EqAt.same _
    | bool b => cases h; cases h'; exact EqAt.same _
    | tup l => exact h.elim
  intro n
  induction n with
  | zero => intro A s v u p _ h h'; exact atom h h'
  | succ n ih =>
    intro A s v u p hu h h'
    cases p with
    | tup l =>
      obtain ⟨a, vs, rfl, ht, hp⟩ := h
      obtain ⟨b, us, rfl, ht', hp'⟩ := h'
      by_cases hab : a = b
      · subst hab; exact EqAt.same _
      · have hsz : vs.toArray.size = us.toArray.size := by rw [List.size_toArray, List.size_toArray, hp.len, hp'.len]
        have := RcAt.tuples (A := A) (s := s) (e := fun _ => true) ht ht' (by omega) fun j h1 h2 => by
          have e1 : vs[j]? = some vs.toArray[j] := by simp
          have e2 : us[j]? = some us.toArray[j] := by simp
          obtain ⟨q, hq, r⟩ := hp.get' e1
          obtain ⟨q', hq', r'⟩ := hp'.get' e2
          rw [hq] at hq'; cases hq'
          exact ih (by rw [Around.in1_units]; omega) r r'
        rw [all_true, hsz, beq_self_eq_true] at this
        exact EqAt.of_refs hab this
    | int i => exact atom (p := .int i) h h'
    | bytes b => exact atom (p := .bytes b) h h'
    | none => exact atom (p := .none) h h'
    | bool b => exact atom (p := .bool b) h h'
section
variable {prog : Program} {w : World} {A : Around} {E : Value → Shared → Prop} {s : Shared} {tk : Nat} {d : Nat} {Q : Value → Shared → Prop}
theorem elts {n : Nat} {vs us : List Value} {ps : List PV} (hu : A.units + n < cLine) (h : P2 (Is s.heap n) vs ps) (h' : P2 (Is s.heap n) us ps) : ∀ j (h1 : j < vs.toArray.size) (h2 : j < us.toArray.size), EqAt A (St s tk) vs.toArray[j] us.toArray[j] true := by
  intro j h1 h2
  have e1 : vs[j]? = some vs.toArray[j] := by simp
  have e2 : us[j]? = some us.toArray[j] := by simp
  obtain ⟨q, hq, r⟩ := h.get' e1
  obtain ⟨q', hq', r'⟩ := h'.get' e2
  rw [hq] at hq'; cases hq'
  exact eqIs hu r r'
theorem lNe {n : Nat} {a b : Addr} {vs us : List Value} {ps : List PV} (hA : Lv d A) (hd : d < 800) (hn : n < 100) (hl : s.heap.PlainList a vs.toArray) (hl' : s.heap.PlainList b us.toArray) (h : P2 (Is s.heap n) vs ps) (h' : P2 (Is s.heap n) us ps) (k : Q (.bool false) (St s tk)) :
    wpAny (model prog w) A (compareOp .NotEq (.ref a) (.ref b)) Q E (St s tk) := by
  have hu := hA.2.2
  have hc : cLine = 9900 := rfl
  have hsz : vs.toArray.size = us.toArray.size := by rw [List.size_toArray, List.size_toArray, h.len, h'.len]
  refine RcNeAt.lists (s := St s tk) (e := fun _ => true) hl.isList hl'.isList hsz (by omega) (elts (by rw [Around.in1_units]; omega) h h') prog w E Q ?_
  rw [all_true]; exact k
theorem lEq {n : Nat} {a b : Addr} {vs us : List Value} {ps : List PV} (hA : Lv d A) (hd : d < 800) (hn : n < 100) (hl : s.heap.PlainList a vs.toArray) (hl' : s.heap.PlainList b us.toArray) (h : P2 (Is s.heap n) vs ps) (h' : P2 (Is s.heap n) us ps) (k : Q (.bool true) (St s tk)) :
    wpAny (model prog w) A (compareOp .Eq (.ref a) (.ref b)) Q E (St s tk) := by
  have hu := hA.2.2
  have hc : cLine = 9900 := rfl
  have hsz : vs.toArray.size = us.toArray.size := by rw [List.size_toArray, List.size_toArray, h.len, h'.len]
  refine RcAt.lists (s := St s tk) (e := fun _ => true) hl.isList hl'.isList hsz (by omega) (elts (by rw [Around.in1_units]; omega) h h') prog w E Q ?_
  rw [all_true]; exact k
theorem tNe {n : Nat} {v u : Value} {p : List PV} (hA : Lv d A) (hd : d < 800) (hn : n < 100) (h : Is s.heap (n + 1) v (.tup p)) (h' : Is s.heap (n + 1) u (.tup p)) (k : Q (.bool false) (St s tk)) :
    wpAny (model prog w) A (compareOp .NotEq v u) Q E (St s tk) := by
  have hu := hA.2.2
  have hc : cLine = 9900 := rfl
  obtain ⟨a, vs, rfl, ht, hp⟩ := h
  obtain ⟨b, us, rfl, ht', hp'⟩ := h'
  have hsz : vs.toArray.size = us.toArray.size := by rw [List.size_toArray, List.size_toArray, hp.len, hp'.len]
  refine RcNeAt.tuples (s := St s tk) (e := fun _ => true) ht ht' (by omega) (elts (by rw [Around.in1_units]; omega) hp hp') prog w E Q ?_
  rw [all_true, hsz, beq_self_eq_true]; exact k
theorem tEq {n : Nat} {v u : Value} {p : List PV} (hA : Lv d A) (hd : d < 800) (hn : n < 100) (h : Is s.heap (n + 1) v (.tup p)) (h' : Is s.heap (n + 1) u (.tup p)) (k : Q (.bool true) (St s tk)) :
    wpAny (model prog w) A (compareOp .Eq v u) Q E (St s tk) := by
  have hu := hA.2.2
  have hc : cLine = 9900 := rfl
  obtain ⟨a, vs, rfl, ht, hp⟩ := h
  obtain ⟨b, us, rfl, ht', hp'⟩ := h'
  have hsz : vs.toArray.size = us.toArray.size := by rw [List.size_toArray, List.size_toArray, hp.len, hp'.len]
  refine RcAt.tuples (s := St s tk) (e := fun _ => true) ht ht' (by omega) (elts (by rw [Around.in1_units]; omega) hp hp') prog w E Q ?_
  rw [all_true, hsz, beq_self_eq_true]; exact k
/-- membership in a list -/
theorem any_of {β : Type} {R : Value → β → Prop} {eqv : β → Bool} (e : Value → Bool) (he : ∀ y p, R y p → e y = eqv p) : ∀ {vs : List Value} {ps : List β}, P2 R vs ps → vs.any e = ps.any eqv
  | [], [], _ => rfl
  | v :: vs, p :: ps, h => by rw [List.any_cons, List.any_cons, he v p h.1, any_of e he h.2]
open Classical in
theorem lIn {β : Type} {R : Value → β → Prop} {eqv : β → Bool} {a : Addr} {vs : List Value} {ps : List β} {x : Value} (hl : s.heap.PlainList a vs.toArray) (h : P2 R vs ps) (hfun : ∀ y p q, R y p → R y q → eqv p = eqv q) (he : ∀ y p, R y p → EqAt A.in1 (St s tk) y x (eqv p))
    (k : Q (.bool (ps.any eqv)) (St s tk)) : wpAny (model prog w) A (compareOp .In x (.ref a)) Q E (St s tk) := by
  have hex : ∀ y, y ∈ vs.toArray → ∃ p, R y p := fun y hy => by
    obtain ⟨i, hi, e⟩ := List.mem_iff_getElem.mp (by simpa using hy)
    obtain ⟨p, _, r⟩ := h.get' (i := i) (a := y) (by rw [← e]; exact List.getElem?_eq_getElem hi)
    exact ⟨p, r⟩
  let e : Value → Bool := fun y => if h : ∃ p, R y p then eqv (choose h) else false
  have he' : ∀ y p, R y p → e y = eqv p := fun y p r => by
    have hx : ∃ p, R y p := ⟨p, r⟩
    show (if h : ∃ p, R y p then eqv (choose h) else false) = _
    rw [dif_pos hx]; exact hfun y _ _ (choose_spec hx) r
  refine in_listAt (s := St s tk) e hl.isList (fun y hy => ?_) ?_
  · obtain ⟨p, r⟩ := hex y hy
    rw [he' y p r]; exact he y p r
  · have : vs.toArray.any e = ps.any eqv := by rw [List.any_toArray]; exact any_of e he' h
    rw [this]; exact k
open Classical in
theorem lNotIn {β : Type} {R : Value → β → Prop} {eqv : β → Bool} {a : Addr} {vs : List Value} {ps : List β} {x : Value} (hl : s.heap.PlainList a vs.toArray) (h : P2 R vs ps) (hfun : ∀ y p q, R y p → R y q → eqv p = eqv q) (he : ∀ y p, R y p → EqAt A.in1 (St s tk) y x (eqv p))
    (k : Q (.bool (!ps.any eqv)) (St s tk)) : wpAny (model prog w) A (compareOp .NotIn x (.ref a)) Q E (St s tk) := by
  have hex : ∀ y, y ∈ vs.toArray → ∃ p, R y p := fun y hy => by
    obtain ⟨i, hi, e⟩ := List.mem_iff_getElem.mp (by simpa using hy)
    obtain ⟨p, _, r⟩ := h.get' (i := i) (a := y) (by rw [← e]; exact List.getElem?_eq_getElem hi)
    exact ⟨p, r⟩
  let e : Value → Bool := fun y => if h : ∃ p, R y p then eqv (choose h) else false
  have he' : ∀ y p, R y p → e y = eqv p := fun y p r => by
    have hx : ∃ p, R y p := ⟨p, r⟩
    show (if h : ∃ p, R y p then eqv (choose h) else false) = _
    rw [dif_pos hx]; exact hfun y _ _ (choose_spec hx) r
  refine notIn_listAt (s := St s tk) e hl.isList (fun y hy => ?_) ?_
  · obtain ⟨p, r⟩ := hex y hy
    rw [he' y p r]; exact he y p r
  · have : vs.toArray.any e = ps.any eqv := by rw [List.any_toArray]; exact any_of e he' h
    rw [this]; exact k
/-! ## sorted -/
noncomputable def IsI (v : Value) (n : Int) : Prop := ∃ t, v = .int n t
theorem IntsAre.of2 : ∀ {vs : List Value} {ns : List Int}, P2 IsI vs ns → IntsAre vs ns
  | [], [], _ => .nil
  | _ :: _, _ :: _, ⟨⟨t, e⟩, h⟩ => e ▸ .cons _ t (IntsAre.of2 h)
theorem IntsAre.to2 : ∀ {vs : List Value} {ns : List Int}, IntsAre vs ns → P2 IsI vs ns
  | _, _, .nil => trivial
  | _, _, .cons n t h => ⟨⟨t, rfl⟩, IntsAre.to2 h⟩
theorem srtL {a : Addr} {vs : List Value} {ns : List Int} (hl : s.heap.PlainList a vs.toArray) (hi : P2 IsI vs ns) (h64 : vs.length < 64)
    (k : ∀ D s' tk' out ns', Ext [] s s' → s.heap.get? D = none → s'.heap.PlainList D (out : List Value).toArray → P2 IsI out ns' → ns'.Perm ns → ns'.Pairwise (· ≤ ·) → Q (.ref D) (St s' tk')) :
    wpAny (model prog w) A (call (.builtin "sorted") [.ref a]) Q E (St s tk) := by
  refine sorted_ints (s := St s tk) hl.isList (IntsAre.of2 hi) h64 fun out ns' h1 h2 h3 => ?_
  obtain ⟨e, he⟩ := sortedAll_at s.heap vs out
  exact k _ { s with heap := sortedAll s.heap vs out, toks := tk } tk out.toList ns' (Ext.of_heap fun b o q => sortedAll_old q) (Heap.get?_none_of_le (Nat.le_succ _)) ⟨e, by rw [Array.toArray_toList]; exact he⟩ (IntsAre.to2 h1) h2 h3
theorem srtD {a : Addr} {kvs : List (Int × Value)} (hA : Lv d A) (hm : s.heap.DictOf (intKind prog w) a kvs) (hsys : (a == sysModules) = false) (h64 : kvs.length < 64)
    (k : ∀ D s' tk' out ns', Ext [] s s' → s.heap.get? D = none → s'.heap.PlainList D (out : List Value).toArray → P2 IsI out ns' → ns'.Perm (kvs.map (·.1)) → ns'.Pairwise (· ≤ ·) → Q (.ref D) (St s' tk')) :
    wpAny (model prog w) A (call (.builtin "sorted") [.ref a]) Q E (St s tk) := by
  obtain ⟨ep, hat⟩ := hm.dictAt
  refine Calls.call_function_entry kind_sorted plain_sorted entry_sorted (args_sorted1 _) ?_
  unfold Builtin.«sorted»
  refine wpAny_bind (m := checkCount "sorted" 1 1 _) (wpAny_pure ?_)
  refine wpAny_bind (kdu_collect (s := St s tk) (A := A.in1) (kdl_dict hsys) hA.1 hat (le_line' (by omega)) fun h' tk' acc hk hacc => ?_)
  have hl : acc.toList.length = kvs.length := by rw [Array.length_toList]; exact hacc.1
  have hi : P2 IsI acc.toList (kvs.map (·.1)) := by
    have : ∀ (l : List Value) (m : List (Int × Value)), l.length = m.length → (∀ (j : Nat) v, l[j]? = some v → ∃ q x, m[j]? = some (q, x) ∧ Value.isInt q v = true) → P2 IsI l (m.map (·.1)) := by
      intro l
      induction l with
      | nil => intro m e _; cases m with | nil => trivial | cons _ _ => cases e
      | cons v l ih =>
        intro m e q
        cases m with
        | nil => cases e
        | cons p m =>
          refine ⟨?_, ih m (by simpa using e) fun j u hu => by simpa using q (j + 1) u (by simpa using hu)⟩
          obtain ⟨n, x, h1, h2⟩ := q 0 v rfl
          obtain ⟨t, rfl⟩ := Value.isInt_shape h2
          simp at h1
          exact ⟨t, by rw [h1]⟩
    refine this _ _ hl fun j v e => ?_
    obtain ⟨q, x, h1, h2⟩ := hacc.2 j v (by rw [← Array.getElem?_toList]; exact e)
    exact ⟨q, x, h1, h2⟩
  refine wpAny_bind (wpAny_newList ?_ (by rw [hl]; exact le_line' (by omega)))
  generalize hD : h'.objs.size = D
  have hDn : s.heap.get? D = none := by
    cases e : s.heap.get? D with
    | none => rfl
    | some o => exact absurd (Heap.lt_size (hk _ _ e)) (by rw [hD]; exact Nat.lt_irrefl _)
  have ho : (h'.push (seqObj "list" acc.toList.toArray 0)).get? D = some (seqObj "list" acc.toList.toArray 0) := hD ▸ Heap.get?_push_size _ rfl
  show wpAny _ _ _ _ _ { s with heap := h'.push (seqObj "list" acc.toList.toArray 0), toks := tk' }
  refine wpAny_bind (wpAny_holding (wpAny_call_entry slot_list_sort ⟨_, ho, rfl⟩ entry_list_sort (list_sort_tree (s := { s with heap := h'.push (seqObj "list" acc.toList.toArray 0), toks := tk' }) ho (IntsAre.of2 hi) (by omega) fun out ns' a1 a2 a3 => ⟨_, rfl, ?_⟩) (args_list_sort _)))
  obtain ⟨e, he⟩ := sortedHeap_at (vs := acc.toList) (out := out) ho
  refine wpAny_pure ⟨_, rfl, ?_⟩
  refine k D { s with heap := sortedHeap (h'.push (seqObj "list" acc.toList.toArray 0)) D acc.toList out, toks := tk' } tk' out.toList ns' (Ext.of_heap fun b o q => ?_) hDn ⟨e, by rw [Array.toArray_toList]; exact he⟩ (IntsAre.to2 a1) a2 a3
  have q' := hk _ _ q
  have hlt : b < h'.objs.size := Heap.lt_size q'
  rw [sortedHeap_old (by rw [← hD]; exact Nat.ne_of_lt hlt) (by rw [Heap.size_push]; exact Nat.lt_succ_of_lt hlt)]
  exact Heap.get?_push_of_some _ q'
end
end

/-! B8 -/
/-! ## fewer names -/
noncomputable def Has (l : List (Str × Value)) : List (Str × Value) → Prop
  | [] => True
  | p :: r => look l p.1 = some p.2 ∧ Has l r
theorem Has.look {l : List (Str × Value)} : ∀ {l' : List (Str × Value)} {x : Str} {v : Value}, Has l l' → look l' x = some v → Mine.look l x = some v
  | [], _, _, _, e => nomatch e
  | p :: r, x, v, h, e => by
    unfold Mine.look at e
    by_cases c : x = p.1
    · rw [if_pos c] at e; injection e with e; subst e c; exact h.1
    · rw [if_neg c] at e; exact h.2.look e
theorem Fm.to {M : List Addr} {s₀ s : Shared} {env : Env} {l l' cl : List (Str × Value)} (F : Fm M s₀ env l cl s) (h : Has l l') : Fm M s₀ env l' cl s := F.less (fun _ _ e => h.look e) fun _ _ e => e
theorem Fm.step1 {M : List Addr} {s₀ s s' : Shared} {env : Env} {l cl : List (Str × Value)} {a : Addr} (F : Fm M s₀ env l cl s) (x : Ext [a] s s') (ho : OffOwn env a) (hm : Offs M s₀ a) : Fm M s₀ env l cl s' :=
  F.step x fun b hb => by rw [List.mem_singleton.mp hb]; exact ⟨ho, hm⟩
theorem Inst.new {s s' : Shared} {z : Heap} {x C dx : Addr} {l : List (Str × Value)} (I : Inst s'.heap x C dx l) (hx : s.heap.get? x = none) (hd : s.heap.get? dx = none) (hz : New s s' z) : Inst z x C dx l := ⟨hz _ _ hx I.at_, let ⟨es, n, e, r⟩ := I.tab; ⟨es, n, hz _ _ hd e, r⟩⟩
theorem plNew {s s' : Shared} {z : Heap} {a : Addr} {vs : Array Value} (h : s'.heap.PlainList a vs) (ha : s.heap.get? a = none) (hz : New s s' z) : z.PlainList a vs := let ⟨n, e⟩ := h; ⟨n, hz _ _ ha e⟩
/-! ## tuples stay -/
noncomputable def NoT (h : Heap) (a : Addr) : Prop := ∀ vs, ¬ h.IsTuple a vs
theorem Is.upto {z z' : Heap} : ∀ {n : Nat} {v : Value} {p : PV}, (∀ a vs, z.IsTuple a vs → z'.IsTuple a vs) → Is z n v p → Is z' n v p
  | 0, _, _, _, h => h
  | n + 1, v, .tup l, k, ⟨a, vs, e, ht, h⟩ => ⟨a, vs, e, k _ _ ht, h.mono fun _ _ q => Is.upto k q⟩
  | n + 1, _, .int _, _, h => h
  | n + 1, _, .bytes _, _, h => h
  | n + 1, _, .none, _, h => h
  | n + 1, _, .bool _, _, h => h
theorem Ext.tups {N : List Addr} {s s' : Shared} (x : Ext N s s') (hn : ∀ a ∈ N, NoT s.heap a) : ∀ a vs, s.heap.IsTuple a vs → s'.heap.IsTuple a vs := fun a vs h => by
  obtain ⟨o, ho, r⟩ := id h
  exact ⟨o, x.keep a o (fun m => hn a m vs h) ho, r⟩
theorem NoT.none {h : Heap} {a : Addr} (e : h.get? a = none) : NoT h a := fun vs ⟨o, ho, _⟩ => by rw [e] at ho; cases ho
theorem NoT.list {h : Heap} {a : Addr} {vs : Array Value} (l : h.PlainList a vs) : NoT h a := fun us ⟨o, ho, hc, _⟩ => by
  obtain ⟨n, e⟩ := l
  rw [e] at ho; injection ho with ho; subst ho; injection hc with hc; exact absurd hc (by decide)
theorem NoT.dat {h : Heap} {a : Addr} {o : Obj} {es : Array DictEntry} {n : Nat} (e : h.get? a = some o) (hd : o.data = .dict es n) : NoT h a := fun us ⟨o', ho, _, m, hs⟩ => by
  rw [e] at ho; injection ho with ho; subst ho; rw [hd] at hs; cases hs
theorem NoT.nm {h : Heap} {a : Addr} {l : List (Str × Value)} (n : Nm h a l) : NoT h a := let ⟨_, ⟨_, _, _, ho, hd, _⟩, _⟩ := n; NoT.dat ho hd
theorem NoT.fd {h : Heap} {a : Addr} {l : List (Str × Value)} (n : Fd h a l) : NoT h a := let ⟨_, _, e, _⟩ := n; NoT.dat e rfl
theorem NoT.dict {prog : Program} {w : World} {α : Type} [DecidableEq α] {knd : KeyKind prog w α} {h : Heap} {a : Addr} {kvs : List (α × Value)} (l : h.DictOf knd a kvs) : NoT h a := let ⟨_, _, _, ho, _, hd, _⟩ := l; NoT.dat ho hd
theorem NoT.one {h : Heap} {a : Addr} (n : NoT h a) : ∀ b ∈ [a], NoT h b := fun b q => (List.mem_singleton.mp q) ▸ n
theorem Fm.noT {M : List Addr} {s₀ s : Shared} {env : Env} {l cl : List (Str × Value)} (F : Fm M s₀ env l cl s) : ∀ b ∈ [env.locals], NoT s.heap b := (NoT.nm F.ns).one
theorem ne_pl_fd {h : Heap} {a b : Addr} {vs : Array Value} {l : List (Str × Value)} (x : h.PlainList a vs) (y : Fd h b l) : a ≠ b := fun e => by
  obtain ⟨n, e1⟩ := x; obtain ⟨es, m, e2, _⟩ := y
  rw [e, e2] at e1; have q := congrArg Obj.data (Option.some.inj e1); cases q
theorem ne_pl_dict {prog : Program} {w : World} {α : Type} [DecidableEq α] {knd : KeyKind prog w α} {kvs : List (α × Value)} {h : Heap} {a b : Addr} {vs : Array Value} (x : h.PlainList a vs) (y : h.DictOf knd b kvs) : a ≠ b := fun e => by
  obtain ⟨n, e1⟩ := x; obtain ⟨o, es, m, e2, _, hd, _⟩ := y
  rw [e, e2] at e1; injection e1 with e1; subst e1; cases hd
section
variable {prog : Program} {w : World} {A : Around} {E : Value → Shared → Prop} {s s₀ : Shared} {tk : Nat} {M : List Addr} {env : Env} {l cl li li' : List (Str × Value)} {x C dx : Addr} {name : Str} {v : Value}
theorem Inst.ne {h : Heap} {x C dx : Addr} {l : List (Str × Value)} (I : Inst h x C dx l) : x ≠ dx := by
  obtain ⟨h1, es, n, h2, _⟩ := I
  intro e
  rw [← e, h1] at h2
  cases h2
theorem getF {expr : Bool} {Q : Value → Shared → Prop} (F : Fm M s₀ env l cl s) (hb : Bz w M s₀) (I : Inst s.heap x C dx li) (hl : look li name = some v) (h : ∀ tk', Q v (St s tk'))
    (hv : handedIn v = true := by kernel_rfl) (h1 : findIn (K w.params) (.ref C) "__getattribute__" = some (some (.builtin "object.__getattribute__")) := by kernel_rfl) (h2 : hasDictIn (K w.params) C = true := by kernel_rfl) (h3 : findIn (K w.params) (.ref C) name = some none := by kernel_rfl) :
    wpAny (model prog w) A (getAttr (.ref x) name expr) Q E (St s tk) := getI (F.bz hb) I hl h hv h1 h2 h3
/-- an attribute of an object that stood at the beginning and is not turned -/
theorem getF0 {expr : Bool} {Q : Value → Shared → Prop} (F : Fm M s₀ env l cl s) (hb : Bz w M s₀) (I : Inst s₀.heap x C dx li) (hl : look li name = some v) (hx : x ∉ M) (hdx : dx ∉ M) (h : ∀ tk', Q v (St s tk'))
    (hv : handedIn v = true := by kernel_rfl) (h1 : findIn (K w.params) (.ref C) "__getattribute__" = some (some (.builtin "object.__getattribute__")) := by kernel_rfl) (h2 : hasDictIn (K w.params) C = true := by kernel_rfl) (h3 : findIn (K w.params) (.ref C) name = some none := by kernel_rfl) :
    wpAny (model prog w) A (getAttr (.ref x) name expr) Q E (St s tk) := getI (F.bz hb) (I.keep (fun o e => F.ext.keep x o hx e) fun o e => F.ext.keep dx o hdx e) hl h hv h1 h2 h3
theorem getZ {expr : Bool} {Q : Value → Shared → Prop} (F : Fm [] s₀ env l cl s) (hb : Bz w [] s₀) (I : Inst s₀.heap x C dx li) (hl : look li name = some v) (h : ∀ tk', Q v (St s tk'))
    (hv : handedIn v = true := by kernel_rfl) (h1 : findIn (K w.params) (.ref C) "__getattribute__" = some (some (.builtin "object.__getattribute__")) := by kernel_rfl) (h2 : hasDictIn (K w.params) C = true := by kernel_rfl) (h3 : findIn (K w.params) (.ref C) name = some none := by kernel_rfl) :
    wpAny (model prog w) A (getAttr (.ref x) name expr) Q E (St s tk) := getI (F.bz hb) (I.sub F.sub) hl h hv h1 h2 h3
theorem setF {Q : Unit → Shared → Prop} (F : Fm M s₀ env l cl s) (hb : Bz w M s₀) (I : Inst s.heap x C dx li) (hp : put name v li = li') (hO : OffOwn env dx) (hM : Offs M s₀ dx) (h : ∀ s' tk', Ext [dx] s s' → Fm M s₀ env l cl s' → Inst s'.heap x C dx li' → Q () (St s' tk'))
    (hz : li.length ≤ 900 := by exact Nat.le_of_ble_eq_true rfl) (h1 : findIn (K w.params) (.ref C) "__setattr__" = some (some (.builtin "object.__setattr__")) := by kernel_rfl) (h2 : plainOver (K w.params) C = true := by kernel_rfl) (h3 : takerIn (K w.params) C name = some none := by kernel_rfl) (h4 : (clsIn (K w.params) C).any (·.hasDict) = true := by kernel_rfl) :
    wpAny (model prog w) A (setAttr (.ref x) name v) Q E (St s tk) :=
  setI (F.bz hb) I hp hz (fun s' tk' e hd => h s' tk' e (F.step e fun a q => (List.mem_singleton.mp q) ▸ ⟨hO, hM⟩) ⟨e.get I.at_ (fun q => I.ne (List.mem_singleton.mp q)), hd⟩) h1 h2 h3 h4
theorem Bz.newM {w : World} {s s' : Shared} {d : Addr} (hb : Base w s.heap) (e : Ext [] s s') (h : s.heap.get? d = none) : Bz w [d] s' := ⟨s.heap, hb, e.sub, fun a q => (List.mem_singleton.mp q) ▸ h⟩
theorem Inst.has {h : Heap} (I : Inst h x C dx li) : ∃ o, h.get? dx = some o := I.tab.has
theorem m_erow {pl : Sem Bool} {Q : Value × List Value → Shared → Prop} (F : Fm M s₀ env l cl s) (hb : Bz w M s₀) (I : Inst s.heap x 208 dx li) (h : Q (.ref 184, [.ref x]) (St s tk)) (hn : (li.any fun p => p.1 == Str.ofString "row") = false := by kernel_rfl) :
    wpAny (model prog w) A (getMethod (.ref x) (Str.ofString "row") pl) Q E (St s tk) := mthI (F.bz hb) I hn h
theorem m_mrow {pl : Sem Bool} {Q : Value × List Value → Shared → Prop} (F : Fm M s₀ env l cl s) (hb : Bz w M s₀) (I : Inst s.heap x 241 dx li) (h : Q (.ref 231, [.ref x]) (St s tk)) (hn : (li.any fun p => p.1 == Str.ofString "row") = false := by kernel_rfl) :
    wpAny (model prog w) A (getMethod (.ref x) (Str.ofString "row") pl) Q E (St s tk) := mthI (F.bz hb) I hn h
theorem m_vote {pl : Sem Bool} {Q : Value × List Value → Shared → Prop} (F : Fm M s₀ env l cl s) (hb : Bz w M s₀) (I : Inst s.heap x 339 dx li) (h : Q (.ref 322, [.ref x]) (St s tk)) (hn : (li.any fun p => p.1 == Str.ofString "vote") = false := by kernel_rfl) :
    wpAny (model prog w) A (getMethod (.ref x) (Str.ofString "vote") pl) Q E (St s tk) := mthI (F.bz hb) I hn h
theorem m_add {pl : Sem Bool} {Q : Value × List Value → Shared → Prop} (F : Fm M s₀ env l cl s) (hb : Bz w M s₀) (I : Inst s.heap x 152 dx li) (h : Q (.ref 121, [.ref x]) (St s tk)) (hn : (li.any fun p => p.1 == Str.ofString "add") = false := by kernel_rfl) :
    wpAny (model prog w) A (getMethod (.ref x) (Str.ofString "add") pl) Q E (St s tk) := mthI (F.bz hb) I hn h
theorem m_ack {pl : Sem Bool} {Q : Value × List Value → Shared → Prop} (F : Fm M s₀ env l cl s) (hb : Bz w M s₀) (I : Inst s.heap x 152 dx li) (h : Q (.ref 128, [.ref x]) (St s tk)) (hn : (li.any fun p => p.1 == Str.ofString "ack") = false := by kernel_rfl) :
    wpAny (model prog w) A (getMethod (.ref x) (Str.ofString "ack") pl) Q E (St s tk) := mthI (F.bz hb) I hn h
theorem m_advance {pl : Sem Bool} {Q : Value × List Value → Shared → Prop} (F : Fm M s₀ env l cl s) (hb : Bz w M s₀) (I : Inst s.heap x 152 dx li) (h : Q (.ref 135, [.ref x]) (St s tk)) (hn : (li.any fun p => p.1 == Str.ofString "advance") = false := by kernel_rfl) :
    wpAny (model prog w) A (getMethod (.ref x) (Str.ofString "advance") pl) Q E (St s tk) := mthI (F.bz hb) I hn h
theorem m_last {pl : Sem Bool} {Q : Value × List Value → Shared → Prop} (F : Fm M s₀ env l cl s) (hb : Bz w M s₀) (I : Inst s.heap x 152 dx li) (h : Q (.ref 142, [.ref x]) (St s tk)) (hn : (li.any fun p => p.1 == Str.ofString "last_context") = false := by kernel_rfl) :
    wpAny (model prog w) A (getMethod (.ref x) (Str.ofString "last_context") pl) Q E (St s tk) := mthI (F.bz hb) I hn h
theorem m_rorow {pl : Sem Bool} {Q : Value × List Value → Shared → Prop} (F : Fm M s₀ env l cl s) (hb : Bz w M s₀) (I : Inst s.heap x 152 dx li) (h : Q (.ref 149, [.ref x]) (St s tk)) (hn : (li.any fun p => p.1 == Str.ofString "row") = false := by kernel_rfl) :
    wpAny (model prog w) A (getMethod (.ref x) (Str.ofString "row") pl) Q E (St s tk) := mthI (F.bz hb) I hn h
/-- a loop over a list -/
theorem forList {target : Expr} {body : List Stmt} {a : Addr} {vs : List Value} {d : Nat} {R : Result → Shared → Prop} (hA : Lv d A) (hl : s.heap.PlainList a vs.toArray)
    (go : ∀ I, Go prog w A target I (fun i v => vs.toArray[i]? = some v) (fun i h => h.IsListIter I a i ∧ h.IsList a vs.toArray)) (J : Addr → Nat → Shared → Prop)
    (hJ : ∀ I, s.heap.get? I = none → ∀ i s₁ s₂, J I i s₁ → Ext [I] s₁ s₂ → J I i s₂) (h0 : ∀ I s', Ext [] s s' → s.heap.get? I = none → J I 0 s')
    (step : ∀ I i v s₁ tk₁, s.heap.get? I = none → vs[i]? = some v → (∃ o, s₁.heap.get? I = some o ∧ o.cls = .type "list_iterator") → J I i s₁ → wpAny (model prog w) A (assign target env v) (fun _ s₂ => wpAny (model prog w) A (execs body env)
      (fun f s₃ => match f with
        | .next | .cont => ∃ s' tk', s₃ = St s' tk' ∧ J I (i + 1) s' ∧ ∃ N, Ext N s₁ s' ∧ I ∉ N ∧ a ∉ N
        | .brk => R (.ok .next) s₃
        | .ret v => R (.ok (.ret v)) s₃) (fun _ _ => False) s₂) (fun _ _ => False) (St s₁ tk₁))
    (done : ∀ I s' tk', s.heap.get? I = none → J I vs.length s' → R (.ok .next) (St s' tk')) :
    wpAny (model prog w) A (pyIter (.ref a)) (fun it s₂ => codeAny (model prog w) A (.forLoop target it body [] env) R s₂) E (St s tk) := by
  refine itL hl fun I s' tk' e hI hit => ?_
  have hne : a ≠ I := let ⟨_, q⟩ := hl; Ne.symm (ne_ns hI q)
  have hl' : s'.heap.PlainList a vs.toArray := hl.at fun o q => e.sub _ _ q
  refine forW (Walks.list hA.1 I a hne vs.toArray) (go I) (J I) (hJ I hI) (h0 I s' e hI) ⟨hit, hl'.isList⟩ (fun i v s₁ tk₁ hi hv hj hs => ?_) fun s'' tk'' hj => done I s'' tk'' hI (by simpa using hj)
  refine wpAny_mono (step I i v s₁ tk₁ hI (by simpa using hv) (let ⟨o, ho, hc, _⟩ := hs.1; ⟨o, ho, hc⟩) hj) (fun _ s₂ h₂ => wpAny_mono h₂ (fun f s₃ h₃ => ?_) fun _ _ q => q) fun _ _ q => q
  have nx : (∃ s' tk', s₃ = St s' tk' ∧ J I (i + 1) s' ∧ ∃ N, Ext N s₁ s' ∧ I ∉ N ∧ a ∉ N) → ∃ s' tk', s₃ = St s' tk' ∧ J I (i + 1) s' ∧ ∀ b ∈ [I, a], ∀ o, s₁.heap.get? b = some o → s'.heap.get? b = some o := by
    rintro ⟨s', tk', rfl, hj', N, x, h1, h2⟩
    refine ⟨s', tk', rfl, hj', fun b hb o ho => x.keep b o (fun r => ?_) ho⟩
    simp only [List.mem_cons, List.not_mem_nil, or_false] at hb
    rcases hb with rfl | rfl
    · exact h1 r
    · exact h2 r
  cases f with
  | next => exact nx h₃
  | cont => exact nx h₃
  | brk => exact h₃
  | ret v => exact h₃
theorem NoT.iter {h : Heap} {I : Addr} (hi : ∃ o, h.get? I = some o ∧ o.cls = .type "list_iterator") : NoT h I := fun vs ⟨o, ho, hc, _⟩ => by
  obtain ⟨o', ho', hc'⟩ := hi
  rw [ho] at ho'; injection ho' with ho'; subst ho'; rw [hc] at hc'; injection hc' with hc'; exact absurd hc' (by decide)
theorem Is.hide {h : Heap} {M : List Addr} {n : Nat} {v : Value} {p : PV} (x : Is h n v p) (hn : ∀ a ∈ M, NoT h a) : Is (hideAll h M) n v p :=
  x.upto fun a vs ht => let ⟨o, ho, r⟩ := ht; ⟨o, hideAll_get _ ho fun m => hn a m vs ht, r⟩
theorem hideSub {h : Heap} {M : List Addr} : Sub (hideAll h M) h := fun a o e => of_hideAll _ e
theorem hideExt {M N : List Addr} {s s' : Shared} (x : Ext N s s') (hN : ∀ a ∈ N, a ∈ M ∨ s.heap.get? a = none) : Sub (hideAll s.heap M) (hideAll s'.heap M) := fun a o e => by
  by_cases c : a ∈ M
  · rw [hideAll_none _ c] at e; cases e
  · have e' := of_hideAll _ e
    refine hideAll_get _ (x.keep a o (fun m => ?_) e') c
    rcases hN a m with h | h
    · exact c h
    · rw [h] at e'; cases e'
theorem Fm.iter (F : Fm M s₀ env l cl s) {I : Addr} {s₁ s₂ : Shared} {l' : List (Str × Value)} (hM : ∀ b ∈ M, ∃ o, s.heap.get? b = some o) (hI : s.heap.get? I = none) (F₁ : Fm M s₀ env l' cl s₁) (x : Ext [I] s₁ s₂) : Fm M s₀ env l' cl s₂ :=
  F₁.step x fun b hb => (List.mem_singleton.mp hb) ▸ F.offs hI hM
theorem dctSub {α : Type} [DecidableEq α] {knd : KeyKind prog w α} {z z' : Heap} {a : Addr} {kvs : List (α × Value)} (h : z.DictOf knd a kvs) (k : ∀ o, z.get? a = some o → z'.get? a = some o) : z'.DictOf knd a kvs := let ⟨o, es, ep, ho, r⟩ := h; ⟨o, es, ep, k o ho, r⟩
theorem notin1 {a b : Addr} (h : a ≠ b) : a ∉ [b] := fun q => h (List.mem_singleton.mp q)
end

/-! C1 -/
section
variable {prog : Program} {w : World} {A : Around} {E : Value → Shared → Prop} {s : Shared} {tk : Nat} {d : Nat}
/-- the four octets of n -/
noncomputable def b4 (n : Int) : Array UInt8 := byteArr [n % 256, n / 256 % 256, n / 65536 % 256, n / 16777216]
theorem put32 {n : Int} {t : Tok} {Q : Value → Shared → Prop} (hb : Base w s.heap) (hA : Lv d A) (hd : d < 800) (h0 : 0 ≤ n) (h1 : n ≤ 4294967295)
    (h : ∀ s' tk' t', Ext [] s s' → Q (.bytes (b4 n) t') (St s' tk')) :
    wpAny (model prog w) A (call (.ref 65) [.int n t]) Q E (St s tk) := by
  refine callF (st := stAt 8) (bs := [("n", .int n t)]) (ll := [("n", .int n t)]) (cl := []) hb hA (by omega) (by rfl) (by kernel_rfl) (by kernel_rfl) (by kernel_rfl) (by kernel_rfl) (by kernel_rfl) (fun s₁ tk₁ A₁ hA₁ O F => ?_)
  with_reducible refine exB (st := ?st) (rest := ?rest) ?e ?_
  case e => exact rfl
  have hz := Bz.of hb
  kba_ints
  rw [decide_eq_false (by omega)]
  kba_ints
  rw [decide_eq_false (by omega)]
  kba_ints
  simp only [bitAnd_m8]
  with_reducible refine newL (le_line rfl) fun D s₂ tk₂ e₂ hD hl => argN ?_
  with_reducible refine call_bytes_ints (ns := [n % 256, n / 256 % 256, n / 65536 % 256, n / 16777216]) hl.isList (.cons _ _ (.cons _ _ (.cons _ _ (.cons _ _ .nil)))) ?_ (le_line rfl) hA₁.h ?_
  · intro k hk
    simp only [List.mem_cons, List.not_mem_nil, or_false] at hk
    omega
  · intro h' t' k hk
    exact h { s₂ with heap := h', toks := k } _ _ (F.ext.trans (e₂.trans (Ext.of_heap hk)))
/-- the eight octets of a number below 2^32 -/
noncomputable def b8 (n : Int) : Array UInt8 := b4 n ++ b4 0
theorem b4_size (n : Int) : (b4 n).size = 4 := rfl
theorem b8_size (n : Int) : (b8 n).size = 8 := by unfold b8; rw [Array.size_append]; rfl
theorem bitAnd_m32 {n : Int} (h0 : 0 ≤ n) (h1 : n ≤ 4294967295) : Builtin.bitAnd n 4294967295 = n := by
  have := kbt_mask n 32
  have e : (2 : Int) ^ 32 = 4294967296 := by decide
  rw [e] at this
  rw [show (4294967295 : Int) = 4294967296 - 1 by decide, this]
  omega
theorem shr_32 {n : Int} (h0 : 0 ≤ n) (h1 : n ≤ 4294967295) : n / 2 ^ Int.toNat 32 = 0 := by
  have : (2 : Int) ^ Int.toNat 32 = 4294967296 := by decide
  rw [this]; omega
theorem put64 {n : Int} {t : Tok} {Q : Value → Shared → Prop} (hb : Base w s.heap) (hA : Lv d A) (hd : d < 700) (h0 : 0 ≤ n) (h1 : n ≤ 4294967295)
    (h : ∀ s' tk' t', Ext [] s s' → Q (.bytes (b8 n) t') (St s' tk')) :
    wpAny (model prog w) A (call (.ref 72) [.int n t]) Q E (St s tk) := by
  refine callF (st := stAt 9) (bs := [("n", .int n t)]) (ll := [("n", .int n t)]) (cl := []) hb hA (by omega) (by rfl) (by kernel_rfl) (by kernel_rfl) (by kernel_rfl) (by kernel_rfl) (by kernel_rfl) (fun s₁ tk₁ A₁ hA₁ O F => ?_)
  with_reducible refine exB (st := ?st) (rest := ?rest) ?e ?_
  case e => exact rfl
  have hz := Bz.of hb
  kba_ints
  rw [decide_eq_false (by omega)]
  kba_ints
  rw [decide_eq_false (by omega)]
  kba_ints
  rw [bitAnd_m32 h0 h1]
  with_reducible refine put32 (F.bz hz) hA₁ (by omega) h0 h1 fun s₂ tk₂ t₂ e₂ => ?_
  have F₂ := F.step0 e₂
  clear F e₂
  kba_ints
  rw [shr_32 h0 h1]
  with_reducible refine put32 (F₂.bz hz) hA₁ (by omega) (by decide) (by decide) fun s₃ tk₃ t₃ e₃ => ?_
  with_reducible refine yAdd (by rw [b4_size, b4_size]; decide) fun t₄ tk₄ => ?_
  exact h _ _ _ (F₂.step0 e₃).ext
end

/-! C2 -/
section
variable {prog : Program} {w : World} {A : Around} {E : Value → Shared → Prop} {s : Shared} {tk : Nat} {d : Nat}
theorem entryInit {x dx : Addr} {a b c e : Value} {R : Result → Shared → Prop} (hz : Bz w [dx] s) (hA : Lv d A) (hd : d < 700) (I : Inst s.heap x 208 dx [])
    (h : ∀ s' tk', Ext [dx] s s' → Inst s'.heap x 208 dx [("term", a), ("index", b), ("kind", c), ("data", e)] → R (.ok (.ret .none)) (St s' tk')) :
    codeAny (model prog w) A (.call (.ref 177) ⟨[.ref x, a, b, c, e], []⟩) R (St s tk) := by
  have hb := hz.base
  refine callC (st := stIn 20 0) (bs := [("self", .ref x), ("term", a), ("index", b), ("kind", c), ("data", e)]) (ll := [("data", e), ("kind", c), ("index", b), ("term", a), ("self", .ref x)]) (cl := []) hb hA (by omega) (by rfl) (by kernel_rfl) (by kernel_rfl) (by kernel_rfl) (by kernel_rfl) (by kernel_rfl) (fun s₁ tk₁ A₁ hA₁ O F => ?_)
  with_reducible refine exB (st := ?st) (rest := ?rest) ?e ?_
  case e => exact rfl
  have F := F.mono (N := [dx]) (fun _ h => nomatch h)
  have I := I.sub ‹Fm [] _ _ _ _ _›.sub
  have hO : OffOwn (fenv (stIn 20 0) "Entry.__init__" (.str "raftkeep.messages" 395) (.ref 176) s.heap.objs.size 177) dx := by obtain ⟨o, ho⟩ := ‹Inst s.heap x 208 dx []›.has; exact O.not ho
  have hM : Offs [dx] s dx := .inl (List.mem_singleton.mpr rfl)
  kba_ints
  kp_flats
  kba_ints
  kp_flats
  kba_ints
  kp_flats
  kba_ints
  with_reducible refine setF (by assumption) (by assumption) (by assumption) (by kat_tups) (by assumption) (by assumption) fun s' tk' _ F I => ?_
  kba_ints
  exact h s' tk' F.ext I
theorem mkEntry {a b c e : Value} {Q : Value → Shared → Prop} (hb : Base w s.heap) (hA : Lv d A) (hd : d < 600)
    (h : ∀ x dx s' tk', Ext [] s s' → s.heap.get? x = none → s.heap.get? dx = none → Inst s'.heap x 208 dx [("term", a), ("index", b), ("kind", c), ("data", e)] → Q (.ref x) (St s' tk')) :
    wpAny (model prog w) A (call (.ref 208) [a, b, c, e]) Q E (St s tk) := by
  refine mkC (fI := 177) hb hA fun x dx s' tk' A' hA' e hx hdx I => ?_
  refine entryInit (Bz.newM hb e hdx) hA' (by omega) I fun s'' tk'' e' I' => ⟨rfl, h x dx s'' tk'' ?_ hx hdx I'⟩
  exact e.fresh e' fun a q => .inr ((List.mem_singleton.mp q) ▸ hdx)
theorem messageInit {x dx : Addr} {a b c e : Value} {R : Result → Shared → Prop} (hz : Bz w [dx] s) (hA : Lv d A) (hd : d < 700) (I : Inst s.heap x 241 dx [])
    (h : ∀ el s' tk' t1 t2 t3 t4 t5, Ext [dx] s s' → s.heap.get? el = none → s'.heap.PlainList el ([] : List Value).toArray →
      Inst s'.heap x 241 dx [("kind", a), ("to", b), ("frm", c), ("term", e), ("log_term", .int 0 t1), ("index", .int 0 t2), ("entries", .ref el), ("commit", .int 0 t3), ("snapshot", .none), ("reject", .bool false), ("reject_hint", .int 0 t4), ("context", .bytes #[] t5)] → R (.ok (.ret .none)) (St s' tk')) :
    codeAny (model prog w) A (.call (.ref 226) ⟨[.ref x, a, b, c, e], []⟩) R (St s tk) := by
  have hb := hz.base
  refine callC (st := stIn 21 0) (bs := [("self", .ref x), ("kind", a), ("to", b), ("frm", c), ("term", e)]) (ll := [("term", e), ("frm", c), ("to", b), ("kind", a), ("self", .ref x)]) (cl := []) hb hA (by omega) (by rfl) (by kernel_rfl) (by kernel_rfl) (by kernel_rfl) (by kernel_rfl) (by kernel_rfl) (fun s₁ tk₁ A₁ hA₁ O F => ?_)
  with_reducible refine exB (st := ?st) (rest := ?rest) ?e ?_
  case e => exact rfl
  have F := F.mono (N := [dx]) (fun _ h => nomatch h)
  have I := I.sub ‹Fm [] _ _ _ _ _›.sub
  have hO : OffOwn (fenv (stIn 21 0) "Message.__init__" (.str "raftkeep.messages" 395) (.ref 225) s.heap.objs.size 226) dx := by obtain ⟨o, ho⟩ := ‹Inst s.heap x 241 dx []›.has; exact O.not ho
  have hM : Offs [dx] s dx := .inl (List.mem_singleton.mpr rfl)
  kba_ints
  kp_flats
  kba_ints
  kp_flats
  kba_ints
  kp_flats
  kba_ints
  kp_flats
  kba_ints
  kp_flats
  kba_ints
  with_reducible refine setF (by assumption) (by assumption) (by assumption) (by kat_tups) (by assumption) (by assumption) fun s' tk' _ F I => ?_
  kba_ints
  with_reducible refine newL (le_line rfl) fun el s₃ tk₃ e₃ hel hl₃ => ?_
  have hel₀ : s.heap.get? el = none := none_of_ext F.ext (fun q => by obtain ⟨o, ho⟩ := I.has; rw [← List.mem_singleton.mp q, hel] at ho; cases ho) hel
  have hne : el ∉ [dx] := fun q => by obtain ⟨o, ho⟩ := I.has; rw [← List.mem_singleton.mp q, hel] at ho; cases ho
  have F := F.step0 e₃
  have I := I.sub e₃.sub
  kba_ints
  with_reducible refine setF (by assumption) (by assumption) (by assumption) (by kat_tups) (by assumption) (by assumption) fun s₄ tk₄ e₄ F I => ?_
  have hl := hl₃.at fun o q => e₄.keep el o hne q
  kba_ints
  with_reducible refine setF (by assumption) (by assumption) (by assumption) (by kat_tups) (by assumption) (by assumption) fun s₄ tk₄ e₄ F I => ?_
  have hl := hl.at fun o q => e₄.keep el o hne q
  kba_ints
  with_reducible refine setF (by assumption) (by assumption) (by assumption) (by kat_tups) (by assumption) (by assumption) fun s₄ tk₄ e₄ F I => ?_
  have hl := hl.at fun o q => e₄.keep el o hne q
  kba_ints
  with_reducible refine setF (by assumption) (by assumption) (by assumption) (by kat_tups) (by assumption) (by assumption) fun s₄ tk₄ e₄ F I => ?_
  have hl := hl.at fun o q => e₄.keep el o hne q
  kba_ints
  with_reducible refine setF (by assumption) (by assumption) (by assumption) (by kat_tups) (by assumption) (by assumption) fun s₄ tk₄ e₄ F I => ?_
  have hl := hl.at fun o q => e₄.keep el o hne q
  kba_ints
  with_reducible refine setF (by assumption) (by assumption) (by assumption) (by kat_tups) (by assumption) (by assumption) fun s₄ tk₄ e₄ F I => ?_
  have hl := hl.at fun o q => e₄.keep el o hne q
  kba_ints
  exact h el s₄ tk₄ _ _ _ _ _ F.ext hel₀ hl I
theorem mkMessage {a b c e : Value} {Q : Value → Shared → Prop} (hb : Base w s.heap) (hA : Lv d A) (hd : d < 600)
    (h : ∀ x dx el s' tk' t1 t2 t3 t4 t5, Ext [] s s' → s.heap.get? x = none → s.heap.get? dx = none → s.heap.get? el = none → s'.heap.PlainList el ([] : List Value).toArray →
      Inst s'.heap x 241 dx [("kind", a), ("to", b), ("frm", c), ("term", e), ("log_term", .int 0 t1), ("index", .int 0 t2), ("entries", .ref el), ("commit", .int 0 t3), ("snapshot", .none), ("reject", .bool false), ("reject_hint", .int 0 t4), ("context", .bytes #[] t5)] → Q (.ref x) (St s' tk')) :
    wpAny (model prog w) A (call (.ref 241) [a, b, c, e]) Q E (St s tk) := by
  refine mkC (fI := 226) hb hA fun x dx s' tk' A' hA' e hx hdx I => ?_
  refine messageInit (Bz.newM hb e hdx) hA' (by omega) I fun el s'' tk'' t1 t2 t3 t4 t5 e' hel hl I' => ⟨rfl, h x dx el s'' tk'' t1 t2 t3 t4 t5 ?_ hx hdx (none_of_ext e (fun q => nomatch q) hel) hl I'⟩
  exact e.fresh e' fun a q => .inr ((List.mem_singleton.mp q) ▸ hdx)
end

/-! C3 -/
section
variable {prog : Program} {w : World} {A : Around} {E : Value → Shared → Prop} {s : Shared} {tk : Nat} {d : Nat}
theorem plSub {z z' : Heap} {a : Addr} {vs : List Value} (h : z.PlainList a vs.toArray) (k : Sub z z') : z'.PlainList a vs.toArray := h.at fun o q => k _ _ q
theorem plExt {M : List Addr} {s s' : Shared} {a : Addr} {vs : List Value} (h : s.heap.PlainList a vs.toArray) (x : Ext M s s') (hn : a ∉ M) : s'.heap.PlainList a vs.toArray := h.at fun o q => x.keep a o hn q
theorem leB {a b : Nat} (h : Nat.ble a b = true) : a ≤ b := Nat.le_of_ble_eq_true h
theorem Fresh.of_tup {s s' : Shared} {n : Nat} {D : Addr} {vs : List Value} {ps : List PV} (hD : s.heap.get? D = none) (ho : s'.heap.get? D = some { cls := .type "tuple", data := .seq vs.toArray }) (h : ∀ z, New s s' z → P2 (Is z n) vs ps) : Fresh s s' (n + 1) (.ref D) (.tup ps) :=
  fun z hz => isTup (hz D _ hD ho) (h z hz)
theorem New.pre {s s' s'' : Shared} {z : Heap} (x : Ext [] s s') (h : New s s'' z) : New s' s'' z := fun a o e q => h a o (none_of_ext x (fun h => nomatch h) e) q
theorem New.post {s s' s'' : Shared} {z : Heap} (x : Ext [] s' s'') (h : New s s'' z) : New s s' z := fun a o e q => h a o e (x.sub a o q)
theorem New.frame {scope : Scope} {cl : List (Str × Addr)} {env : Env} {C : Addr} {l ccl : List (Str × Value)} {s₂ s₃ s₄ : Shared} {z : Heap} (F : Fm [C] s₂ (compEnvC scope cl C env) l ccl s₃) (h : New s₂ s₄ z) : New s₃ s₄ z := fun a o e q =>
  h a o (none_of_ext F.ext (fun m => by obtain ⟨o', ho'⟩ := F.ns.has; rw [List.mem_singleton.mp m] at e; exact absurd (e.symm.trans ho') (fun x => by cases x)) e) q
theorem take_snoc {α : Type} {l : List α} {i : Nat} {x : α} (h : l[i]? = some x) : l.take (i + 1) = l.take i ++ [x] := by rw [List.take_add_one, h]; rfl
noncomputable def EntAt (z : Heap) (e : Addr) (dat : Array UInt8) : Prop := ∃ dx u0 u1 u2 u3, Inst z e 208 dx [("term", .int 0 u0), ("index", .int 0 u1), ("kind", .int 0 u2), ("data", .bytes dat u3)]
theorem EntAt.sub {z z' : Heap} {e : Addr} {dat : Array UInt8} (k : Sub z z') (h : EntAt z e dat) : EntAt z' e dat := let ⟨dx, a, b, c, f, I⟩ := h; ⟨dx, a, b, c, f, I.sub k⟩
noncomputable def entPV (dat : Array UInt8) : PV := .tup [.int 0, .int 0, .int 0, .bytes dat]
/-- Entry.row -/
theorem entryRow {x : Addr} {dat : Array UInt8} {Q : Value → Shared → Prop} (hb : Base w s.heap) (hA : Lv d A) (hd : d < 600) (X : EntAt s.heap x dat)
    (h : ∀ v s' tk', Ext [] s s' → Fresh s s' 1 v (entPV dat) → Q v (St s' tk')) :
    wpAny (model prog w) A (call (.ref 184) [.ref x]) Q E (St s tk) := by
  obtain ⟨dx, u0, u1, u2, u3, I⟩ := X
  refine callF (st := stIn 20 1) (bs := [("self", .ref x)]) (ll := [("self", .ref x)]) (cl := []) hb hA (by omega) (by rfl) (by kernel_rfl) (by kernel_rfl) (by kernel_rfl) (by kernel_rfl) (by kernel_rfl) (fun s₁ tk₁ A₁ hA₁ O F => ?_)
  with_reducible refine exB (st := ?st) (rest := ?rest) ?e ?_
  case e => exact rfl
  have hz := Bz.of hb
  kba_ints
  with_reducible refine newT (le_line rfl) fun D s₂ tk₂ e₂ hD ho => ?_
  exact h _ s₂ tk₂ (F.step0 e₂).ext (Fresh.of_tup (none_of_ext F.ext (fun q => nomatch q) hD) ho fun z hz => ⟨isInt, isInt, isInt, isBytes, trivial⟩)
noncomputable def beside : Array UInt8 := "beside".toUTF8.data
/-- a message as the law makes one -/
noncomputable def MsgAt (z : Heap) (m : Addr) (frm : Int) (dat : Array UInt8) (var : Bool) : Prop :=
  ∃ dx el t0 t1 t2 t3 t4 t5 t6 t7 tc, Inst z m 241 dx [("kind", .int 15 t0), ("to", .int 1 t1), ("frm", .int frm t2), ("term", .int 0 t3), ("log_term", .int 0 t4), ("index", .int 0 t5), ("entries", .ref el), ("commit", .int 0 t6), ("snapshot", .none), ("reject", .bool false), ("reject_hint", .int 0 t7), ("context", .bytes (if var then beside else dat) tc)] ∧
    if var then ∃ e, z.PlainList el ([.ref e] : List Value).toArray ∧ EntAt z e dat else z.PlainList el ([] : List Value).toArray
theorem MsgAt.sub {z z' : Heap} {m : Addr} {frm : Int} {dat : Array UInt8} {var : Bool} (k : Sub z z') (h : MsgAt z m frm dat var) : MsgAt z' m frm dat var := by
  obtain ⟨dx, el, t0, t1, t2, t3, t4, t5, t6, t7, tc, I, h⟩ := h
  refine ⟨dx, el, t0, t1, t2, t3, t4, t5, t6, t7, tc, I.sub k, ?_⟩
  cases var with
  | true => obtain ⟨e, hl, he⟩ := h; exact ⟨e, hl.at fun o q => k _ _ q, he.sub k⟩
  | false => exact PySem.Heap.PlainList.at h fun o q => k _ _ q
noncomputable def rowPV (frm : Int) (dat : Array UInt8) (var : Bool) : PV :=
  .tup [.int 15, .int 1, .int frm, .int 0, .int 0, .int 0, .tup (if var then [entPV dat] else []), .int 0, .none, .bool false, .int 0, .bytes (if var then beside else dat)]
/-- read_context -/
theorem readContext {m : Addr} {frm : Int} {dat : Array UInt8} {var : Bool} {Q : Value → Shared → Prop} (hb : Base w s.heap) (hA : Lv d A) (hd : d < 600) (X : MsgAt s.heap m frm dat var)
    (h : ∀ t s' tk', Ext [] s s' → Q (.bytes dat t) (St s' tk')) : wpAny (model prog w) A (call (.ref 79) [.ref m]) Q E (St s tk) := by
  obtain ⟨dx, el, t0, t1, t2, t3, t4, t5, t6, t7, tc, I, hv⟩ := X
  refine callF (st := stAt 13) (bs := [("message", .ref m)]) (ll := [("message", .ref m)]) (cl := []) hb hA (by omega) (by rfl) (by kernel_rfl) (by kernel_rfl) (by kernel_rfl) (by kernel_rfl) (by kernel_rfl) (fun s₁ tk₁ A₁ hA₁ O F => ?_)
  with_reducible refine exB (st := ?st) (rest := ?rest) ?e ?_
  case e => exact rfl
  have hz := Bz.of hb
  kba_ints
  cases var with
  | true =>
    rw [if_pos rfl] at hv
    obtain ⟨e, hl, dx', u0, u1, u2, u3, I'⟩ := hv
    with_reducible refine lLen (plSub hl F.sub) (leB rfl) fun _ _ => ?_
    kba_ints
    rw [decide_eq_true (by simp)]
    kba_ints
    with_reducible refine lItem (plSub hl F.sub) (by decide) rfl (by decide) ?_
    kba_ints
    exact h _ _ _ F.ext
  | false =>
    rw [if_neg Bool.false_ne_true] at hv I
    with_reducible refine lLen (plSub hv F.sub) (leB rfl) fun _ _ => ?_
    kba_ints
    rw [decide_eq_false (by simp)]
    kba_ints
    exact h _ _ _ F.ext
/-- Message.row -/
theorem messageRow {m : Addr} {frm : Int} {dat : Array UInt8} {var : Bool} {Q : Value → Shared → Prop} (hb : Base w s.heap) (hA : Lv d A) (hd : d < 500) (X : MsgAt s.heap m frm dat var)
    (h : ∀ v s' tk', Ext [] s s' → Is s'.heap 3 v (rowPV frm dat var) → Q v (St s' tk')) : wpAny (model prog w) A (call (.ref 231) [.ref m]) Q E (St s tk) := by
  obtain ⟨dx, el, t0, t1, t2, t3, t4, t5, t6, t7, tc, I, hv⟩ := X
  have hvs : ∃ vs, s.heap.PlainList el (vs : List Value).toArray ∧ P2 (fun v p => ∃ e, v = .ref e ∧ EntAt s.heap e dat ∧ p = entPV dat) vs (if var then [entPV dat] else []) := by
    cases var with
    | true => obtain ⟨e, hl, he⟩ := hv; exact ⟨_, hl, ⟨e, rfl, he, rfl⟩, trivial⟩
    | false => exact ⟨[], hv, trivial⟩
  clear hv
  obtain ⟨vs, hl, hvs⟩ := hvs
  have hlen : vs.length ≤ 1 := by rw [hvs.len]; cases var <;> simp
  refine callF (st := stIn 21 1) (bs := [("self", .ref m)]) (ll := [("self", .ref m)]) (cl := []) hb hA (by omega) (by rfl) (by kernel_rfl) (by kernel_rfl) (by kernel_rfl) (by kernel_rfl) (by kernel_rfl) (fun s₁ tk₁ A₁ hA₁ O F => ?_)
  with_reducible refine exB (st := ?st) (rest := ?rest) ?e ?_
  case e => exact rfl
  have hz := Bz.of hb
  kba_ints
  with_reducible refine compE [] (by kernel_rfl) ?_
  kba_ints
  refine compList F (fun _ h => nomatch h) hz hA₁ (plSub hl F.sub) (by omega) (fun _ _ _ => loopName) (ccl := []) (fun _ _ h => nomatch h) (fun i z ys => P2 (Is z 1) ys ((if var then [entPV dat] else []).take i)) (fun i z z' ys hj hs => hj.mono fun _ _ q => q.sub hs) (fun z => trivial) (fun i v C s₂ s₃ tk₃ z ys Qb hi hj hz₂ hx₂ hb₂ F₂ hS k => tst0 ?_) (fun D s₂ tk₂ ys e₂ F₂ hD hl₂ hlen₂ hj => ?_)
  · obtain ⟨p, hp, e, rfl, he, rfl⟩ := hvs.get' hi
    have he := (he.sub F.sub).sub hS
    obtain ⟨dx', u0, u1, u2, u3, I'⟩ := id he
    kba_ints
    refine entryRow (F₂.bz hb₂) hA₁ (by omega) he fun v s₄ tk₄ e₄ fr => k (some v) s₄ tk₄ (F₂.step0 e₄) fun z' hz' hn' => ?_
    rw [take_snoc hp]
    exact (hj.mono fun _ _ q => q.sub hz').snoc (fr z' (New.frame F₂ hn'))
  · rw [List.take_of_length_le (by rw [hvs.len]; exact Nat.le_refl _)] at hj
    kba_ints
    with_reducible refine lTup hl₂ (by rw [sizeLine_eq]; omega) fun T s₃ tk₃ e₃ hT hoT => ?_
    have F₃ := F.step0 (e₂.trans e₃)
    with_reducible refine stoL F₃ O fun s₄ tk₄ e₄ F₄ => ?_
    kba_ints
    with_reducible refine stoL F₄ O fun s₅ tk₅ e₅ F₅ => ?_
    kba_ints
    with_reducible refine newT (le_line rfl) fun D₂ s₆ tk₆ e₆ hD₂ hoD => ?_
    have hu : ∀ a vs, s₃.heap.IsTuple a vs → s₆.heap.IsTuple a vs := fun a vs q => e₆.tups (fun _ h => nomatch h) a vs (e₅.tups F₄.noT a vs (e₄.tups F₃.noT a vs q))
    refine h _ s₆ tk₆ (F₅.ext.trans e₆) (isTup hoD ⟨isInt, isInt, isInt, isInt, isInt, isInt, ?_, isInt, isNone, isBool, isInt, isBytes, trivial⟩)
    exact ⟨T, ys, rfl, hu _ _ ⟨_, hoT, rfl, 0, rfl⟩, hj.mono fun _ _ q => (q.sub e₃.sub).upto hu⟩
end

/-! C4 -/
section
variable {prog : Program} {w : World} {A : Around} {E : Value → Shared → Prop} {s : Shared} {tk : Nat} {d : Nat}
/-- a list of ints -/
noncomputable def LI (h : Heap) (a : Addr) (ns : List Int) : Prop := ∃ vs : List Value, h.PlainList a vs.toArray ∧ P2 IsI vs ns
theorem LI.sub {z z' : Heap} {a : Addr} {ns : List Int} (k : Sub z z') (h : LI z a ns) : LI z' a ns := let ⟨vs, p, q⟩ := h; ⟨vs, plSub p k, q⟩
theorem LI.ext {M : List Addr} {s s' : Shared} {a : Addr} {ns : List Int} (h : LI s.heap a ns) (x : Ext M s s') (hn : a ∉ M) : LI s'.heap a ns := let ⟨vs, p, q⟩ := h; ⟨vs, plExt p x hn, q⟩
theorem LI.len {h : Heap} {a : Addr} {ns : List Int} (l : LI h a ns) : ∃ vs : List Value, h.PlainList a vs.toArray ∧ vs.length = ns.length ∧ P2 IsI vs ns := let ⟨vs, p, q⟩ := l; ⟨vs, p, q.len, q⟩
noncomputable def drawV (ns : List Int) (i : Nat) : Int := ns.getD (i % ns.length) 0 + 7919 * ((i / ns.length : Nat) : Int)
theorem lawDraw {a : Addr} {ns : List Int} {i : Nat} {t : Tok} {Q : Value → Shared → Prop} (hb : Base w s.heap) (hA : Lv d A) (hd : d < 600) (hl : LI s.heap a ns) (h0 : ns ≠ []) (hsz : ns.length ≤ 1000000)
    (h : ∀ t s' tk', Ext [] s s' → Q (.int (drawV ns i) t) (St s' tk')) : wpAny (model prog w) A (call (.ref 350) [.ref a, .int i t]) Q E (St s tk) := by
  obtain ⟨vs, hp, hlen, hi⟩ := hl.len
  refine callF (st := stAt 30) (bs := [("nums", .ref a), ("i", .int i t)]) (ll := [("i", .int i t), ("nums", .ref a)]) (cl := []) hb hA (by omega) (by rfl) (by kernel_rfl) (by kernel_rfl) (by kernel_rfl) (by kernel_rfl) (by kernel_rfl) (fun s₁ tk₁ A₁ hA₁ O F => ?_)
  with_reducible refine exB (st := ?st) (rest := ?rest) ?e ?_
  case e => exact rfl
  have hz := Bz.of hb
  have hpos : 0 < ns.length := List.length_pos_iff.mpr h0
  kba_ints
  with_reducible refine lLen (plSub hp F.sub) (by omega) fun _ _ => ?_
  rw [hlen]
  with_reducible refine bMod (by omega) fun _ _ => ?_
  have e : ((i : Int) % (ns.length : Int)) = ((i % ns.length : Nat) : Int) := by omega
  rw [e]
  have hlt : i % ns.length < ns.length := Nat.mod_lt _ hpos
  obtain ⟨x, hx, t', rfl⟩ := hi.get (i := i % ns.length) (List.getElem?_eq_getElem hlt)
  with_reducible refine lItem (plSub hp F.sub) (by omega) (by rw [Int.toNat_natCast]; exact hx) (by omega) ?_
  kba_ints
  with_reducible refine lLen (plSub hp F.sub) (by omega) fun _ _ => ?_
  rw [hlen]
  with_reducible refine bDiv (by omega) (by omega) fun _ _ => ?_
  kba_ints
  have ev : ns[i % ns.length] + 7919 * ((i : Int) / (ns.length : Int)) = drawV ns i := by
    unfold drawV
    rw [List.getD_eq_getElem?_getD, List.getElem?_eq_getElem hlt]
    rfl
  rw [ev]
  exact h _ _ _ F.ext
end

/-! C5 -/
section
variable {prog : Program} {w : World} {A : Around} {E : Value → Shared → Prop} {s : Shared} {tk : Nat} {d : Nat}
noncomputable def dataOf (y : Int) : Array UInt8 := byteArr [65 + y / 3 % 3]
theorem lawRequest {y : Int} {t : Tok} {Q : Value → Shared → Prop} (hb : Base w s.heap) (hA : Lv d A) (hd : d < 500) (h0 : 0 ≤ y)
    (h : ∀ T m tt s' tk', Ext [] s s' → s'.heap.get? T = some { cls := .type "tuple", data := .seq ([.ref m, .bytes (dataOf y) tt] : List Value).toArray } → (∀ z, New s s' z → MsgAt z m (2 + y % 3) (dataOf y) (y / 9 % 2 == 0)) → Q (.ref T) (St s' tk')) :
    wpAny (model prog w) A (call (.ref 367) [.int y t]) Q E (St s tk) := by
  refine callF (st := stAt 33) (bs := [("y", .int y t)]) (ll := [("y", .int y t)]) (cl := []) hb hA (by omega) (by rfl) (by kernel_rfl) (by kernel_rfl) (by kernel_rfl) (by kernel_rfl) (by kernel_rfl) (fun s₁ tk₁ A₁ hA₁ O F => ?_)
  with_reducible refine exB (st := ?st) (rest := ?rest) ?e ?_
  case e => exact rfl
  have hz := Bz.of hb
  kba_ints
  refine mkMessage (F.bz hz) hA₁ (by omega) fun m dx el s₂ tk₂ t1 t2 t3 t4 t5 e₂ hm hdx hel hl I => ?_
  have hO := F.new hdx
  have hm₀ := none_of_ext F.ext (fun q => nomatch q) hm
  have hdx₀ := none_of_ext F.ext (fun q => nomatch q) hdx
  have hel₀ := none_of_ext F.ext (fun q => nomatch q) hel
  have hM : Offs [] s dx := .inr (none_of_ext F.ext (fun q => nomatch q) hdx)
  with_reducible refine stoL (F.step0 e₂) O fun s₃ tk₃ e₃ F₃ => ?_
  have I₃ := I.keep (fun o q => e₃.keep m o (fun r => (F.new hm).1 (List.mem_singleton.mp r)) q) (fun o q => e₃.keep dx o (fun r => hO.1 (List.mem_singleton.mp r)) q)
  have hl₃ := plExt hl e₃ fun r => (F.new hel).1 (List.mem_singleton.mp r)
  clear I hl
  kba_ints
  with_reducible refine newL (le_line rfl) fun L s₄ tk₄ e₄ hL hl₄ => argN ?_
  with_reducible refine call_bytes_ints (ns := [65 + y / 3 % 3]) hl₄.isList (.cons _ _ .nil) ?_ (le_line rfl) hA₁.h ?_
  · intro k hk
    simp only [List.mem_cons, List.not_mem_nil, or_false] at hk
    omega
  intro h' tt tk₅ hk
  have e₅ : Ext [] s₃ { s₄ with heap := h', toks := tk₅ } := e₄.trans (Ext.of_heap hk)
  generalize ({ s₄ with heap := h', toks := tk₅ } : Shared) = s₅ at e₅ ⊢
  have F₅ := F₃.step0 e₅
  have I₅ := I₃.sub e₅.sub
  with_reducible refine stoL F₅ O fun s₆ tk₆ e₆ F₆ => ?_
  have I₆ := I₅.keep (fun o q => e₆.keep m o (fun r => (F.new hm).1 (List.mem_singleton.mp r)) q) (fun o q => e₆.keep dx o (fun r => hO.1 (List.mem_singleton.mp r)) q)
  have hl₆ := plExt (plSub hl₃ e₅.sub) e₆ fun r => (F.new hel).1 (List.mem_singleton.mp r)
  clear I₅ I₃ hl₃ e₂ e₃ e₄ e₅ e₆ F₃ F₅
  have hdat : byteArr [65 + y / 3 % 3] = dataOf y := rfl
  rw [hdat] at F₆
  have hne : el ∉ [dx] := fun r => ne_pl_fd hl₆ I₆.tab (List.mem_singleton.mp r)
  kba_ints
  cases hv : (y / 9 % 2 == (0 : Int))
  · rw [hv] at h
    kba_ints
    with_reducible refine setF F₆ hz I₆ (by kat_tups) hO hM fun s₇ tk₇ e₇ F₇ I₇ => ?_
    kba_ints
    with_reducible refine newT (le_line rfl) fun T s₈ tk₈ e₈ hT hoT => ?_
    exact h T m tt s₈ tk₈ (F₇.ext.trans e₈) hoT fun z hz => ⟨dx, el, _, _, _, _, _, _, _, _, _, (I₇.sub e₈.sub).new hm₀ hdx₀ hz, plNew (plSub (plExt hl₆ e₇ hne) e₈.sub) hel₀ hz⟩
  · rw [hv] at h
    kba_ints
    refine mkEntry (F₆.bz hz) hA₁ (by omega) fun e de s₇ tk₇ e₇ he hde Ie => ?_
    have he₀ := none_of_ext F₆.ext (fun q => nomatch q) he
    have hde₀ := none_of_ext F₆.ext (fun q => nomatch q) hde
    have F₇ := F₆.step0 e₇
    have I₇ := I₆.sub e₇.sub
    kba_ints
    with_reducible refine newL (le_line rfl) fun N s₈ tk₈ e₈ hN hN₈ => ?_
    have hN₀ := none_of_ext F₇.ext (fun q => nomatch q) hN
    have F₈ := F₇.step0 e₈
    have I₈ := I₇.sub e₈.sub
    have Ie₈ := Ie.sub e₈.sub
    have hne₈ := ne_pl_fd hN₈ I₈.tab
    have hed : e ≠ dx := fun r => by obtain ⟨es, n, ho, _⟩ := I₈.tab; rw [← r, Ie₈.at_] at ho; have q := congrArg Obj.data (Option.some.inj ho); cases q
    have hded : de ≠ dx := fun r => by obtain ⟨o, ho⟩ := I₆.has; rw [← r, hde] at ho; cases ho
    clear F₇ I₇ Ie
    kba_ints
    with_reducible refine setF F₈ hz I₈ (by kat_tups) hO hM fun s₉ tk₉ e₉ F₉ I₉ => ?_
    have Ie₉ := Ie₈.keep (fun o q => e₉.keep e o (fun r => hed (List.mem_singleton.mp r)) q) (fun o q => e₉.keep de o (fun r => hded (List.mem_singleton.mp r)) q)
    have hN₉ := plExt hN₈ e₉ fun r => hne₈ (List.mem_singleton.mp r)
    clear F₈ I₈ Ie₈
    kba_ints
    with_reducible refine setF F₉ hz I₉ (by kat_tups) hO hM fun s₁₀ tk₁₀ e₁₀ F₁₀ I₁₀ => ?_
    have Ie₁₀ := Ie₉.keep (fun o q => e₁₀.keep e o (fun r => hed (List.mem_singleton.mp r)) q) (fun o q => e₁₀.keep de o (fun r => hded (List.mem_singleton.mp r)) q)
    have hN₁₀ := plExt hN₉ e₁₀ fun r => hne₈ (List.mem_singleton.mp r)
    clear F₉ I₉ Ie₉
    kba_ints
    with_reducible refine newT (le_line rfl) fun T s₁₁ tk₁₁ e₁₁ hT hoT => ?_
    exact h T m tt s₁₁ tk₁₁ (F₁₀.ext.trans e₁₁) hoT fun z hz => ⟨dx, N, _, _, _, _, _, _, _, _, _, (I₁₀.sub e₁₁.sub).new hm₀ hdx₀ hz, e, plNew (plSub hN₁₀ e₁₁.sub) hN₀ hz, de, _, _, _, _, (Ie₁₀.sub e₁₁.sub).new he₀ hde₀ hz⟩
end

/-! C6 -/
section
variable {prog : Program} {w : World} {A : Around} {E : Value → Shared → Prop} {s : Shared} {tk : Nat} {d : Nat}
theorem pow_le3 {k : Nat} (h : k ≤ 3) : (2 : Int) ^ k ≤ 8 := by
  obtain rfl | rfl | rfl | rfl : k = 0 ∨ k = 1 ∨ k = 2 ∨ k = 3 := by omega
  all_goals decide
noncomputable def bitOf (n j : Int) : Bool := n / 2 ^ (j - 1).toNat % 2 == 1
noncomputable def idsV (n : Int) : List Int := ([1, 2, 3, 4] : List Int).filter (bitOf n)
theorem lawIds {n : Int} {t : Tok} {Q : Value → Shared → Prop} (hb : Base w s.heap) (hA : Lv d A) (hd : d < 600)
    (h : ∀ D s' tk', Ext [] s s' → s.heap.get? D = none → LI s'.heap D (idsV n) → Q (.ref D) (St s' tk')) :
    wpAny (model prog w) A (call (.ref 355) [.int n t]) Q E (St s tk) := by
  refine callF (st := stAt 31) (bs := [("drawn", .int n t)]) (ll := []) (cl := [("drawn", .int n t)]) hb hA (by omega) (by rfl) (by kernel_rfl) (by kernel_rfl) (by kernel_rfl) (by kernel_rfl) (by kernel_rfl) (fun s₁ tk₁ A₁ hA₁ O F => ?_)
  with_reducible refine exB (st := ?st) (rest := ?rest) ?e ?_
  case e => exact rfl
  have hz := Bz.of hb
  kba_ints
  with_reducible refine compE [(Str.ofString "drawn", s.heap.objs.size + 1)] (by kernel_rfl) ?_
  kba_ints
  with_reducible refine rng2 fun r s₂ tk₂ t2 e₂ hr hR => ?_
  have F₂ := F.step0 e₂
  refine compRange F₂ (fun _ h => nomatch h) hz hA₁ hR (by decide) (by decide) (by decide) (by decide) (fun _ _ _ => loopTest) (ccl := [(Str.ofString "drawn", .int n t)]) (F₂.cellsOf (by kernel_rfl)) (fun i z ys => P2 IsI ys ((([1, 2, 3, 4] : List Int).take i).filter (bitOf n))) (fun i z z' ys hj hs => hj) (fun z => trivial) (fun i t C s₃ s₄ tk₄ z ys Qb hi hj hz₃ hx₃ hb₃ F₄ hS k => tst1 ?_) (fun D s₃ tk₃ ys e₃ F₃ hD hl₃ hlen₃ hj => ?_)
  · kba_ints
    have hi4 : i < 4 := hi
    have hk3 : (1 + (i : Int) - 1).toNat ≤ 3 := by omega
    have hp1 : 0 < (2 : Int) ^ (1 + (i : Int) - 1).toNat := Int.pow_pos (by decide)
    have hp2 : (2 : Int) ^ (1 + (i : Int) - 1).toNat < 1073741824 := Int.lt_of_le_of_lt (pow_le3 hk3) (by decide)
    with_reducible refine bPow (by omega) (by omega) (by decide) fun _ _ => ?_
    with_reducible refine bDiv hp1 hp2 fun _ _ => ?_
    kba_ints
    have hx : ([1, 2, 3, 4] : List Int)[i]? = some (1 + (i : Int)) := by
      obtain rfl | rfl | rfl | rfl : i = 0 ∨ i = 1 ∨ i = 2 ∨ i = 3 := by omega
      all_goals rfl
    have hbit : (n / 2 ^ (1 + (i : Int) - 1).toNat % 2 == 1) = bitOf n (1 + i) := rfl
    rw [hbit]
    cases hq : bitOf n (1 + i)
    · rw [if_neg Bool.false_ne_true]
      refine k none s₄ _ F₄ fun z' hz' hn' => ?_
      rw [take_snoc hx, List.filter_append, List.filter_cons, hq]
      simpa using hj
    · rw [if_pos rfl]
      kba_ints
      refine k (some _) s₄ _ F₄ fun z' hz' hn' => ?_
      rw [take_snoc hx, List.filter_append, List.filter_cons, hq]
      exact hj.snoc ⟨_, rfl⟩
  · kba_ints
    refine h D s₃ tk₃ (F₂.ext.trans e₃) (none_of_ext F₂.ext (fun q => nomatch q) hD) ⟨ys, hl₃, hj⟩
end

/-! C7 -/
section
variable {prog : Program} {w : World} {A : Around} {E : Value → Shared → Prop} {s : Shared} {tk : Nat} {d : Nat}
theorem risingAt {a : Addr} {ns : List Int} {Q : Value → Shared → Prop} (hb : Base w s.heap) (hA : Lv d A) (hd : d < 600) (hl : LI s.heap a ns) (hsz : ns.length < 64) (hs : ns.Pairwise (· < ·))
    (h : ∀ D s' tk', Ext [] s s' → s.heap.get? D = none → LI s'.heap D ns → Q (.ref D) (St s' tk')) :
    wpAny (model prog w) A (call (.ref 163) [.ref a]) Q E (St s tk) := by
  obtain ⟨vs, hp, hlen, hi⟩ := hl.len
  refine callF (st := stAt 19) (bs := [("ids", .ref a)]) (ll := [("ids", .ref a)]) (cl := []) hb hA (by omega) (by rfl) (by kernel_rfl) (by kernel_rfl) (by kernel_rfl) (by kernel_rfl) (by kernel_rfl) (fun s₁ tk₁ A₁ hA₁ O F => ?_)
  with_reducible refine exB (st := ?st) (rest := ?rest) ?e ?_
  case e => exact rfl
  have hz := Bz.of hb
  kba_ints
  with_reducible refine newL (le_line rfl) fun o s₂ tk₂ e₂ ho hl₂ => ?_
  have hO := F.new ho
  have hoM : Offs [] s o := .inr (none_of_ext F.ext (fun q => nomatch q) ho)
  have F₂ := F.step0 e₂
  with_reducible refine stoL F₂ O fun s₃ tk₃ e₃ F₃ => ?_
  have hl₃ := plExt hl₂ e₃ fun r => hO.1 (List.mem_singleton.mp r)
  kba_ints
  with_reducible refine sFor ?_
  kba_ints
  with_reducible refine srtL (plSub hp F₃.sub) hi (by omega) fun D s₄ tk₄ os ns' e₄ hD hl₄ hi₄ hperm hsort => ?_
  obtain rfl : ns' = ns := hperm.eq_of_pairwise (le := (· ≤ ·)) (fun a b _ _ h1 h2 => Int.le_antisymm h1 h2) hsort (hs.imp fun q => Int.le_of_lt q)
  have F₄ := F₃.step0 e₄
  have ho₄ := plSub hl₃ e₄.sub
  clear F₂ e₂ e₃ hperm hsort F hi hp e₄
  with_reducible refine itL hl₄ fun I s₅ tk₅ e₅ hI hit => ?_
  have F₅ := F₄.step0 e₅
  have ho₅ := plSub ho₄ e₅.sub
  have hl₅ := plSub hl₄ e₅.sub
  have hIo : o ≠ I := let ⟨_, q⟩ := ho₄; Ne.symm (ne_ns hI q)
  have hID : D ≠ I := let ⟨_, q⟩ := hl₄; Ne.symm (ne_ns hI q)
  have hIO := F₄.new hI
  have hIM : Offs [] s I := .inr (none_of_ext F₄.ext (fun q => nomatch q) hI)
  have hoD : o ≠ D := let ⟨_, q⟩ := hl₃; Ne.symm (ne_ns hD q)
  refine forW (Walks.list hA₁.1 I D hID os.toArray) goName (fun i s' => Fm [] s (fenv (stAt 19) "rising" (.str "raftkeep.messages" 395) (.ref 162) s.heap.objs.size 163) [("out", .ref o), ("ids", .ref a)] [] s' ∧ s'.heap.PlainList o (os.take i).toArray ∧ s'.heap.PlainList D os.toArray) ?_ ⟨F₅, ho₅, hl₅⟩ ⟨hit, hl₅.isList⟩ (fun i v s₆ tk₆ hi hv hJ hit' => ?_) fun s₆ tk₆ hJ => ?_
  · rintro i s₁ s₂ ⟨F, p, q⟩ x
    exact ⟨F.step x fun b hb => (List.mem_singleton.mp hb) ▸ ⟨hIO, hIM⟩, plExt p x fun r => hIo (List.mem_singleton.mp r), plExt q x fun r => hID (List.mem_singleton.mp r)⟩
  · obtain ⟨F₆, ho₆, hl₆⟩ := hJ
    refine wpAny_assign_Name ?_
    with_reducible refine stoL F₆ O fun s₇ tk₇ e₇ F₇ => ?_
    have ho₇ := plExt ho₆ e₇ fun r => hO.1 (List.mem_singleton.mp r)
    have hl₇ := plExt hl₆ e₇ fun r => (F₃.new hD).1 (List.mem_singleton.mp r)
    have hin : i < ns'.length := by rw [← hi₄.len]; simpa using hi
    obtain ⟨x, hx, tx, rfl⟩ := hi₄.get (List.getElem?_eq_getElem hin)
    have hv' : os[i]? = some v := by simpa using hv
    rw [hx] at hv'
    cases hv'
    have fin : ∀ {Q : Value → Shared → Prop} {tk₇ : Nat}, (∀ s'' tk', (Fm [] s (fenv (stAt 19) "rising" (.str "raftkeep.messages" 395) (.ref 162) s.heap.objs.size 163) [("out", .ref o), ("ids", .ref a)] [] s'' ∧ s''.heap.PlainList o (os.take (i + 1)).toArray ∧ s''.heap.PlainList D os.toArray) ∧ (∀ b ∈ [I, D], ∀ o', s₆.heap.get? b = some o' → s''.heap.get? b = some o') → Q .none (St s'' tk')) →
        wpAny (model prog w) A₁ (call (.builtin "list.append") [.ref o, .int ns'[i] tx]) Q (fun _ _ => False) (St s₇ tk₇) := by
      intro Q tk₇ k
      refine lAppend ho₇ (by rw [sizeLine_eq, List.length_take]; omega) fun s₈ tk₈ e₈ ho₈ => ?_
      have F₈ := F₇.step e₈ fun b hb => (List.mem_singleton.mp hb) ▸ ⟨hO, hoM⟩
      refine k s₈ tk₈ ⟨⟨F₈.to ⟨by lsm_bools, by lsm_bools, trivial⟩, by rw [take_snoc hx]; exact ho₈, plExt hl₇ e₈ fun r => hoD (List.mem_singleton.mp r).symm⟩, fun b hb o' ho' => ?_⟩
      refine e₈.keep b o' (fun r => ?_) (e₇.keep b o' (fun r => ?_) ho')
      · have := List.mem_singleton.mp r
        simp only [List.mem_cons, List.not_mem_nil, or_false] at hb
        rcases hb with rfl | rfl
        · exact hIo this.symm
        · exact hoD this.symm
      · have := List.mem_singleton.mp r
        simp only [List.mem_cons, List.not_mem_nil, or_false] at hb
        rcases hb with rfl | rfl
        · exact hIO.1 this
        · exact (F₃.new hD).1 this
    kba_ints
    with_reducible refine lTru ho₇ (by rw [List.length_take]; omega) fun _ => ?_
    rcases Nat.eq_zero_or_pos i with h0 | h0
    · have e0 : (os.take i).isEmpty = true := by rw [h0]; rfl
      rw [e0]
      kba_ints
      with_reducible refine mAppend ho₇ ?_
      kba_ints
      refine fin fun s₈ tk₈ hJ => ?_
      kba_ints
      exact ⟨s₈, tk₈, rfl, hJ⟩
    · have e0 : (os.take i).isEmpty = false := by
        cases q : (os.take i).isEmpty with
        | false => rfl
        | true => exact absurd (congrArg List.length (List.isEmpty_iff.mp q)) (by rw [List.length_take, List.length_nil]; have := hi₄.len; omega)
      rw [e0]
      kba_ints
      have hprev : i - 1 < ns'.length := by omega
      obtain ⟨y, hy, ty, rfl⟩ := hi₄.get (List.getElem?_eq_getElem hprev)
      with_reducible refine lLast (x := .int ns'[i - 1] ty) ho₇ (by rw [List.getLast?_eq_getElem?, List.length_take, List.getElem?_take]; have := hi₄.len; rw [if_pos (by omega), show min i os.length - 1 = i - 1 by omega]; exact hy) ?_
      kba_ints
      have hne : (ns'[i - 1] != ns'[i]) = true := by
        have := List.pairwise_iff_getElem.mp hs (i - 1) i hprev hin (by omega)
        simp only [bne_iff_ne, ne_eq]; omega
      rw [hne]
      kba_ints
      with_reducible refine mAppend ho₇ ?_
      kba_ints
      refine fin fun s₈ tk₈ hJ => ?_
      kba_ints
      exact ⟨s₈, tk₈, rfl, hJ⟩
  · obtain ⟨F₆, ho₆, hl₆⟩ := hJ
    rw [show os.toArray.size = os.length by simp, List.take_of_length_le (Nat.le_refl _)] at ho₆
    kba_ints
    exact h o s₆ _ F₆.ext (none_of_ext (Ext.refl s []) (fun q => nomatch q) (hoM.resolve_left fun q => nomatch q)) ⟨os, ho₆, hi₄⟩
end

/-! C8 -/
section
variable {prog : Program} {w : World} {A : Around} {E : Value → Shared → Prop} {s : Shared} {tk : Nat} {d : Nat}
/-- ids in rising order -/
noncomputable def RI (h : Heap) (a : Addr) (ns : List Int) : Prop := LI h a ns ∧ ns.length < 64 ∧ ns.Pairwise (· < ·)
theorem RI.sub {z z' : Heap} {a : Addr} {ns : List Int} (k : Sub z z') (h : RI z a ns) : RI z' a ns := ⟨h.1.sub k, h.2⟩
theorem RI.ext {M : List Addr} {s s' : Shared} {a : Addr} {ns : List Int} (h : RI s.heap a ns) (x : Ext M s s') (hn : a ∉ M) : RI s'.heap a ns := ⟨h.1.ext x hn, h.2⟩
theorem risingR {a : Addr} {ns : List Int} {Q : Value → Shared → Prop} (hb : Base w s.heap) (hA : Lv d A) (hd : d < 600) (hl : RI s.heap a ns)
    (h : ∀ D s' tk', Ext [] s s' → s.heap.get? D = none → LI s'.heap D ns → Q (.ref D) (St s' tk')) : wpAny (model prog w) A (call (.ref 163) [.ref a]) Q E (St s tk) := risingAt hb hA hd hl.1 hl.2.1 hl.2.2 h
/-- a configuration -/
noncomputable def ConfAt (z : Heap) (x : Addr) (n1 n2 : List Int) : Prop := ∃ dx v1 v2 v3 v4, Inst z x 339 dx [("voters", .ref v1), ("outgoing", .ref v2), ("learners", .ref v3), ("learners_next", .ref v4), ("auto_leave", .bool false)] ∧ LI z v1 n1 ∧ LI z v2 n2
theorem ConfAt.sub {z z' : Heap} {x : Addr} {n1 n2 : List Int} (k : Sub z z') (h : ConfAt z x n1 n2) : ConfAt z' x n1 n2 := let ⟨dx, a, b, c, e, I, l1, l2⟩ := h; ⟨dx, a, b, c, e, I.sub k, l1.sub k, l2.sub k⟩
theorem LI.ne_fd {h : Heap} {a b : Addr} {ns : List Int} {l : List (Str × Value)} (x : LI h a ns) (y : Fd h b l) : a ∉ [b] := let ⟨_, p, _⟩ := x; notin1 (ne_pl_fd p y)
/-- a configuration, all of it new -/
noncomputable def ConfNew (h z : Heap) (x : Addr) (n1 n2 : List Int) : Prop := ∃ dx v1 v2 v3 v4, Inst z x 339 dx [("voters", .ref v1), ("outgoing", .ref v2), ("learners", .ref v3), ("learners_next", .ref v4), ("auto_leave", .bool false)] ∧ LI z v1 n1 ∧ LI z v2 n2 ∧ h.get? x = none ∧ h.get? dx = none ∧ h.get? v1 = none ∧ h.get? v2 = none
theorem ConfNew.at {h h' z : Heap} {x : Addr} {n1 n2 : List Int} (c : ConfNew h h' x n1 n2) (k : ∀ a, h.get? a = none → ∀ o, h'.get? a = some o → z.get? a = some o) : ConfAt z x n1 n2 :=
  let ⟨dx, v1, v2, v3, v4, I, ⟨w1, p1, i1⟩, ⟨w2, p2, i2⟩, nx, nd, n1, n2⟩ := c
  ⟨dx, v1, v2, v3, v4, I.keep (k x nx) (k dx nd), ⟨w1, p1.at (k v1 n1), i1⟩, ⟨w2, p2.at (k v2 n2), i2⟩⟩
theorem configInit {x dx a1 a2 a3 a4 : Addr} {n1 n2 n3 n4 : List Int} {R : Result → Shared → Prop} (hz : Bz w [dx] s) (hA : Lv d A) (hd : d < 500) (I : Inst s.heap x 339 dx []) (l1 : RI s.heap a1 n1) (l2 : RI s.heap a2 n2) (l3 : RI s.heap a3 n3) (l4 : RI s.heap a4 n4)
    (h : ∀ v1 v2 v3 v4 s' tk', Ext [dx] s s' → s.heap.get? v1 = none → s.heap.get? v2 = none → Inst s'.heap x 339 dx [("voters", .ref v1), ("outgoing", .ref v2), ("learners", .ref v3), ("learners_next", .ref v4), ("auto_leave", .bool false)] → LI s'.heap v1 n1 → LI s'.heap v2 n2 → R (.ok (.ret .none)) (St s' tk')) :
    codeAny (model prog w) A (.call (.ref 273) ⟨[.ref x, .ref a1, .ref a2, .ref a3, .ref a4, .bool false], []⟩) R (St s tk) := by
  have hb := hz.base
  refine callC (st := stIn 28 0) (bs := [("self", .ref x), ("voters", .ref a1), ("outgoing", .ref a2), ("learners", .ref a3), ("learners_next", .ref a4), ("auto_leave", .bool false)]) (ll := [("auto_leave", .bool false), ("learners_next", .ref a4), ("learners", .ref a3), ("outgoing", .ref a2), ("voters", .ref a1), ("self", .ref x)]) (cl := []) hb hA (by omega) (by rfl) (by kernel_rfl) (by kernel_rfl) (by kernel_rfl) (by kernel_rfl) (by kernel_rfl) (fun s₁ tk₁ A₁ hA₁ O F => ?_)
  with_reducible refine exB (st := ?st) (rest := ?rest) ?e ?_
  case e => exact rfl
  have F0 := F
  have F := F.mono (N := [dx]) (fun _ h => nomatch h)
  have I := I.sub F0.sub
  have hO : OffOwn (fenv (stIn 28 0) "Config.__init__" (.str "raftkeep.quorum" 529) (.ref 272) s.heap.objs.size 273) dx := by obtain ⟨o, ho⟩ := ‹Inst s.heap x 339 dx []›.has; exact O.not ho
  have hM : Offs [dx] s dx := .inl (List.mem_singleton.mpr rfl)
  have m1 := l1.1.ne_fd ‹Inst s.heap x 339 dx []›.tab
  have m2 := l2.1.ne_fd ‹Inst s.heap x 339 dx []›.tab
  have m3 := l3.1.ne_fd ‹Inst s.heap x 339 dx []›.tab
  have m4 := l4.1.ne_fd ‹Inst s.heap x 339 dx []›.tab
  clear F0
  kba_ints
  refine risingR (F.bz hz) hA₁ (by omega) (l1.ext F.ext m1) fun v1 s₂ tk₂ e₂ q1 k1 => ?_
  have q1 : s.heap.get? v1 = none := none_of_ext F.ext (fun r => by obtain ⟨o, ho⟩ := I.has; rw [← List.mem_singleton.mp r, q1] at ho; cases ho) q1
  have F := F.step0 e₂
  have I := I.sub e₂.sub
  kba_ints
  have d1 := k1.ne_fd I.tab
  with_reducible refine setF (by assumption) (by assumption) (by assumption) (by kat_tups) (by assumption) (by assumption) fun s₃ tk₃ e₃ F I => ?_
  have k1 := k1.ext e₃ d1
  kba_ints
  refine risingR (F.bz hz) hA₁ (by omega) (l2.ext F.ext m2) fun v2 s₄ tk₄ e₄ q2 k2 => ?_
  have q2 : s.heap.get? v2 = none := none_of_ext F.ext (fun r => by obtain ⟨o, ho⟩ := I.has; rw [← List.mem_singleton.mp r, q2] at ho; cases ho) q2
  have F := F.step0 e₄
  have I := I.sub e₄.sub
  have k1 := k1.sub e₄.sub
  kba_ints
  have d2 := k2.ne_fd I.tab
  with_reducible refine setF (by assumption) (by assumption) (by assumption) (by kat_tups) (by assumption) (by assumption) fun s₅ tk₅ e₅ F I => ?_
  have k1 := k1.ext e₅ d1
  have k2 := k2.ext e₅ d2
  kba_ints
  refine risingR (F.bz hz) hA₁ (by omega) (l3.ext F.ext m3) fun v3 s₆ tk₆ e₆ _ k3 => ?_
  have F := F.step0 e₆
  have I := I.sub e₆.sub
  have k1 := k1.sub e₆.sub
  have k2 := k2.sub e₆.sub
  kba_ints
  with_reducible refine setF (by assumption) (by assumption) (by assumption) (by kat_tups) (by assumption) (by assumption) fun s₇ tk₇ e₇ F I => ?_
  have k1 := k1.ext e₇ d1
  have k2 := k2.ext e₇ d2
  kba_ints
  refine risingR (F.bz hz) hA₁ (by omega) (l4.ext F.ext m4) fun v4 s₈ tk₈ e₈ _ k4 => ?_
  have F := F.step0 e₈
  have I := I.sub e₈.sub
  have k1 := k1.sub e₈.sub
  have k2 := k2.sub e₈.sub
  kba_ints
  with_reducible refine setF (by assumption) (by assumption) (by assumption) (by kat_tups) (by assumption) (by assumption) fun s₉ tk₉ e₉ F I => ?_
  have k1 := k1.ext e₉ d1
  have k2 := k2.ext e₉ d2
  kba_ints
  with_reducible refine setF (by assumption) (by assumption) (by assumption) (by kat_tups) (by assumption) (by assumption) fun s₁₀ tk₁₀ e₁₀ F I => ?_
  have k1 := k1.ext e₁₀ d1
  have k2 := k2.ext e₁₀ d2
  kba_ints
  exact h v1 v2 v3 v4 s₁₀ tk₁₀ F.ext q1 q2 I k1 k2
theorem mkConfig {a1 a2 a3 a4 : Addr} {n1 n2 n3 n4 : List Int} {Q : Value → Shared → Prop} (hb : Base w s.heap) (hA : Lv d A) (hd : d < 400) (l1 : RI s.heap a1 n1) (l2 : RI s.heap a2 n2) (l3 : RI s.heap a3 n3) (l4 : RI s.heap a4 n4)
    (h : ∀ x s' tk', Ext [] s s' → ConfNew s.heap s'.heap x n1 n2 → Q (.ref x) (St s' tk')) :
    wpAny (model prog w) A (call (.ref 339) [.ref a1, .ref a2, .ref a3, .ref a4, .bool false]) Q E (St s tk) := by
  refine mkC (fI := 273) hb hA fun x dx s' tk' A' hA' e hx hdx I => ?_
  refine configInit (Bz.newM hb e hdx) hA' (by omega) I (l1.sub e.sub) (l2.sub e.sub) (l3.sub e.sub) (l4.sub e.sub) fun v1 v2 v3 v4 s'' tk'' e' q1 q2 I' k1 k2 => ⟨rfl, h x s'' tk'' (e.fresh e' fun a q => .inr ((List.mem_singleton.mp q) ▸ hdx)) ⟨dx, v1, v2, v3, v4, I', k1, k2, hx, hdx, none_of_ext e (fun q => nomatch q) q1, none_of_ext e (fun q => nomatch q) q2⟩⟩
end

/-! C9 -/
section
variable {prog : Program} {w : World} {A : Around} {E : Value → Shared → Prop} {s : Shared} {tk : Nat} {d : Nat}
noncomputable def tv (ks : List Int) : List (Int × Value) := ks.map fun k => (k, .bool true)
theorem valueAt_tv {ks : List Int} {n : Int} : valueAt (tv ks) n = if n ∈ ks then some (.bool true) else none := by
  unfold tv valueAt
  induction ks with
  | nil => rfl
  | cons k ks ih =>
    rw [List.map_cons, List.find?_cons]
    by_cases h : k = n
    · subst h; simp
    · rw [decide_eq_false h]
      simp only [List.mem_cons]
      rw [ih]
      have : ¬ n = k := fun e => h e.symm
      simp [this]
/-- a dict of votes that are all granted -/
noncomputable def VA (prog : Program) (w : World) (h : Heap) (a : Addr) (ks : List Int) : Prop := h.DictOf (intKind prog w) a (tv ks) ∧ (a == sysModules) = false
theorem VA.sub {z z' : Heap} {a : Addr} {ks : List Int} (k : Sub z z') (h : VA prog w z a ks) : VA prog w z' a ks := ⟨dctSub h.1 (k a), h.2⟩
noncomputable def gotV (ns ks : List Int) : Nat := (ns.filter fun n => decide (n ∈ ks)).length
noncomputable def majV (ns ks : List Int) : Bool := ns.isEmpty || decide (ns.length < 2 * gotV ns ks)
theorem gotV_le (ns ks : List Int) : gotV ns ks ≤ ns.length := List.length_filter_le ..
theorem gotV_snoc (ns ks : List Int) (n : Int) : gotV (ns ++ [n]) ks = gotV ns ks + if n ∈ ks then 1 else 0 := by
  unfold gotV
  rw [List.filter_append, List.length_append, List.filter_cons]
  by_cases h : n ∈ ks <;> simp [h]
theorem majority {a dv : Addr} {ns ks : List Int} {Q : Value → Shared → Prop} (hb : Base w s.heap) (hA : Lv d A) (hd : d < 600) (hl : LI s.heap a ns) (hsz : ns.length < 64) (hv : VA prog w s.heap dv ks)
    (h : ∀ t s' tk', Ext [] s s' → Q (.int (if majV ns ks then 3 else 1) t) (St s' tk')) :
    wpAny (model prog w) A (call (.ref 252) [.ref a, .ref dv]) Q E (St s tk) := by
  obtain ⟨vs, hp, hlen, hi⟩ := hl.len
  refine callF (st := stAt 26) (bs := [("ids", .ref a), ("votes", .ref dv)]) (ll := [("votes", .ref dv), ("ids", .ref a)]) (cl := []) hb hA (by omega) (by rfl) (by kernel_rfl) (by kernel_rfl) (by kernel_rfl) (by kernel_rfl) (by kernel_rfl) (fun s₁ tk₁ A₁ hA₁ O F => ?_)
  with_reducible refine exB (st := ?st) (rest := ?rest) ?e ?_
  case e => exact rfl
  have hz := Bz.of hb
  have haO := let ⟨_, q⟩ := hp; O.not q
  kba_ints
  with_reducible refine lTru (plSub hp F.sub) (by omega) fun _ => ?_
  cases he : vs.isEmpty
  · kba_ints
    with_reducible refine stoL F O fun s₂ tk₂ e₂ F₂ => ?_
    kba_ints
    with_reducible refine stoL F₂ O fun s₃ tk₃ e₃ F₃ => ?_
    kba_ints
    with_reducible refine sFor ?_
    kba_ints
    refine forList hA₁ (plSub hp F₃.sub) (fun _ => goName) (fun I i s' => ∃ t1 t2 m g, Fm [] s (fenv (stAt 26) "majority_vote" (.str "raftkeep.quorum" 529) (.ref 251) s.heap.objs.size 252) [("missing", .int m t1), ("granted", .int g t2), ("votes", .ref dv), ("ids", .ref a)] [] s' ∧ m = i - gotV (ns.take i) ks ∧ g = gotV (ns.take i) ks)
      ?_ ?_ ?_ ?_
    · rintro I hI i s₁ s₂ ⟨t1, t2, m, g, F₁, r⟩ x
      exact ⟨t1, t2, m, g, F₃.iter (fun _ q => nomatch q) hI F₁ x, r⟩
    · intro I s₄ e₄ hI
      exact ⟨_, _, _, _, F₃.step0 e₄, rfl, rfl⟩
    · rintro I i v s₄ tk₄ hI hvi _ ⟨t1, t2, m, g, F₄, hm', hg'⟩
      refine wpAny_assign_Name ?_
      with_reducible refine stoL F₄ O fun s₅ tk₅ e₅ F₅ => ?_
      kba_ints
      have hin : i < ns.length := by rw [← hlen]; exact (List.getElem?_eq_some_iff.mp hvi).1
      obtain ⟨n, hn, tn, rfl⟩ := hi.get' hvi
      have hstep : gotV (ns.take (i + 1)) ks = gotV (ns.take i) ks + if n ∈ ks then 1 else 0 := by rw [take_snoc hn, gotV_snoc]
      obtain ⟨hv1, hv2⟩ := hv.sub F₅.sub
      with_reducible refine dNotIn (knd := intKind prog w) (k := n) (kvs := tv ks) (by simp [intKind, Value.isInt]) hv2 hv1 fun _ => ?_
      rw [valueAt_tv]
      by_cases hk : n ∈ ks
      · rw [if_pos hk] at hstep ⊢
        rw [show (!(some (Value.bool true)).isSome) = false from rfl]
        kba_ints
        with_reducible refine dItem (knd := intKind prog w) (k := n) (kvs := tv ks) (v := .bool true) (by simp [intKind, Value.isInt]) hv1 (by rw [valueAt_tv, if_pos hk]) fun _ => ?_
        kba_ints
        with_reducible refine stoL F₅ O fun s₆ tk₆ e₆ F₆ => ?_
        kba_ints
        refine ⟨s₆, _, rfl, ⟨_, _, _, _, F₆.to ⟨by lsm_bools, by lsm_bools, by lsm_bools, by lsm_bools, trivial⟩, by omega, by omega⟩, _, e₅.trans e₆, notin1 (F₃.new hI).1, notin1 haO.1⟩
      · rw [if_neg hk] at hstep ⊢
        rw [show (!(none : Option Value).isSome) = true from rfl]
        kba_ints
        with_reducible refine stoL F₅ O fun s₆ tk₆ e₆ F₆ => ?_
        kba_ints
        refine ⟨s₆, _, rfl, ⟨_, _, _, _, F₆.to ⟨by lsm_bools, by lsm_bools, by lsm_bools, by lsm_bools, trivial⟩, by omega, by omega⟩, _, e₅.trans e₆, notin1 (F₃.new hI).1, notin1 haO.1⟩
    · rintro I s₄ tk₄ hI ⟨t1, t2, m, g, F₄, hm', hg'⟩
      rw [List.take_of_length_le (by omega)] at hm' hg'
      subst hm' hg'
      kba_ints
      with_reducible refine lLen (plSub hp F₄.sub) (by omega) fun _ _ => ?_
      rw [hlen]
      kba_ints
      with_reducible refine stoL F₄ O fun s₅ tk₅ e₅ F₅ => ?_
      have hemp : ns.isEmpty = false := by
        cases q : ns.isEmpty with
        | false => rfl
        | true => rw [List.isEmpty_iff.mp q] at hlen; rw [List.length_eq_zero_iff.mp hlen] at he; cases he
      have hpos : 0 < ns.length := List.length_pos_iff.mpr fun q => by rw [q] at hemp; cases hemp
      have hle := gotV_le ns ks
      kba_ints
      by_cases hg : ns.length < 2 * gotV ns ks
      · have hm : majV ns ks = true := by unfold majV; rw [decide_eq_true hg, Bool.or_true]
        rw [hm] at h
        rw [decide_eq_true (by omega)]
        kba_ints
        exact h _ _ _ F₅.ext
      · have hm : majV ns ks = false := by unfold majV; rw [decide_eq_false hg, hemp]; rfl
        rw [hm] at h
        rw [decide_eq_false (by omega)]
        kba_ints
        rw [decide_eq_true (by omega)]
        kba_ints
        exact h _ _ _ F₅.ext
  · have hm : majV ns ks = true := by
      have : ns = [] := List.length_eq_zero_iff.mp (by rw [← hlen, List.isEmpty_iff.mp he]; rfl)
      rw [this]; rfl
    rw [hm] at h
    kba_ints
    exact h _ _ _ F.ext
end

/-! C10 -/
section
variable {prog : Program} {w : World} {A : Around} {E : Value → Shared → Prop} {s : Shared} {tk : Nat} {d : Nat}
noncomputable def vv (b : Bool) : Int := if b then 3 else 1
theorem jointVote {a b dv : Addr} {n1 n2 ks : List Int} {Q : Value → Shared → Prop} (hb : Base w s.heap) (hA : Lv d A) (hd : d < 500) (h1 : LI s.heap a n1) (z1 : n1.length < 64) (h2 : LI s.heap b n2) (z2 : n2.length < 64) (hv : VA prog w s.heap dv ks)
    (h : ∀ t s' tk', Ext [] s s' → Q (.int (vv (majV n1 ks && majV n2 ks)) t) (St s' tk')) :
    wpAny (model prog w) A (call (.ref 259) [.ref a, .ref b, .ref dv]) Q E (St s tk) := by
  refine callF (st := stAt 27) (bs := [("a", .ref a), ("b", .ref b), ("votes", .ref dv)]) (ll := [("votes", .ref dv), ("b", .ref b), ("a", .ref a)]) (cl := []) hb hA (by omega) (by rfl) (by kernel_rfl) (by kernel_rfl) (by kernel_rfl) (by kernel_rfl) (by kernel_rfl) (fun s₁ tk₁ A₁ hA₁ O F => ?_)
  with_reducible refine exB (st := ?st) (rest := ?rest) ?e ?_
  case e => exact rfl
  have hz := Bz.of hb
  kba_ints
  refine majority (F.bz hz) hA₁ (by omega) (h1.sub F.sub) z1 (hv.sub F.sub) fun t1 s₂ tk₂ e₂ => ?_
  have hl : (if majV n1 ks then (3 : Int) else 1) = vv (majV n1 ks) := rfl
  rw [hl]
  have F₂ := F.step0 e₂
  with_reducible refine stoL F₂ O fun s₃ tk₃ e₃ F₃ => ?_
  kba_ints
  refine majority (F₃.bz hz) hA₁ (by omega) (h2.sub F₃.sub) z2 (hv.sub F₃.sub) fun t2 s₄ tk₄ e₄ => ?_
  have hr : (if majV n2 ks then (3 : Int) else 1) = vv (majV n2 ks) := rfl
  rw [hr]
  have F₄ := F₃.step0 e₄
  with_reducible refine stoL F₄ O fun s₅ tk₅ e₅ F₅ => ?_
  kba_ints
  cases hx : majV n1 ks <;> cases hy : majV n2 ks
  · rw [show (vv false == vv false) = true from rfl]
    rw [hx, hy] at h F₅
    kba_ints
    exact h _ _ _ F₅.ext
  · rw [show (vv false == vv true) = false from rfl]
    rw [hx, hy] at h F₅
    kba_ints
    rw [show (vv false == 2) = false from rfl]
    kba_ints
    rw [show (vv true == 2) = false from rfl]
    kba_ints
    exact h _ _ _ F₅.ext
  · rw [show (vv true == vv false) = false from rfl]
    rw [hx, hy] at h F₅
    kba_ints
    rw [show (vv true == 2) = false from rfl]
    kba_ints
    rw [show (vv false == 2) = false from rfl]
    kba_ints
    exact h _ _ _ F₅.ext
  · rw [show (vv true == vv true) = true from rfl]
    rw [hx, hy] at h F₅
    kba_ints
    exact h _ _ _ F₅.ext
theorem configVote {x dv : Addr} {n1 n2 ks : List Int} {Q : Value → Shared → Prop} (hb : Base w s.heap) (hA : Lv d A) (hd : d < 400) (C : ConfAt s.heap x n1 n2) (z1 : n1.length < 64) (z2 : n2.length < 64) (hv : VA prog w s.heap dv ks)
    (h : ∀ t s' tk', Ext [] s s' → Q (.int (vv (majV n1 ks && majV n2 ks)) t) (St s' tk')) :
    wpAny (model prog w) A (call (.ref 322) [.ref x, .ref dv]) Q E (St s tk) := by
  obtain ⟨dx, v1, v2, v3, v4, I, l1, l2⟩ := C
  refine callF (st := stIn 28 7) (bs := [("self", .ref x), ("votes", .ref dv)]) (ll := [("votes", .ref dv), ("self", .ref x)]) (cl := []) hb hA (by omega) (by rfl) (by kernel_rfl) (by kernel_rfl) (by kernel_rfl) (by kernel_rfl) (by kernel_rfl) (fun s₁ tk₁ A₁ hA₁ O F => ?_)
  with_reducible refine exB (st := ?st) (rest := ?rest) ?e ?_
  case e => exact rfl
  have hz := Bz.of hb
  kba_ints
  refine jointVote (F.bz hz) hA₁ (by omega) (l1.sub F.sub) z1 (l2.sub F.sub) z2 (hv.sub F.sub) fun t s₂ tk₂ e₂ => ?_
  exact h _ _ _ (F.step0 e₂).ext
end

/-! B9 -/
section
variable {prog : Program} {w : World} {A : Around} {E : Value → Shared → Prop} {s s₀ : Shared} {tk : Nat} {M : List Addr} {env : Env} {l cl : List (Str × Value)} {d : Nat}
theorem slFrom {lower : Expr} {p : Pos} {Q : Value → Shared → Prop} (h : wpAny (model prog w) A (eval lower env) (fun l s₁ => ∀ sl s₂ tk₂, Ext [] s₁ s₂ → s₁.heap.get? sl = none → s₂.heap.IsSliceOf sl l .none .none → Q (.ref sl) (St s₂ tk₂)) E (St s tk)) :
    wpAny (model prog w) A (eval (.Slice (some lower) none none p) env) Q E (St s tk) :=
  wpAny_Slice (wpAny_mono h (fun l s₁ h₁ => wpAny_pure (wpAny_pure (h₁ s₁.heap.objs.size { s₁ with heap := _ } s₁.toks (Ext.of_heap (s := s₁) (tk := s₁.toks) fun a o e => Heap.get?_push_of_some _ e) (Heap.get?_none_of_le (Nat.le_refl _)) (Heap.IsSliceOf.new ..)))) fun _ _ q => q)
theorem slUpto {upper : Expr} {p : Pos} {Q : Value → Shared → Prop} (h : wpAny (model prog w) A (eval upper env) (fun u s₁ => ∀ sl s₂ tk₂, Ext [] s₁ s₂ → s₁.heap.get? sl = none → s₂.heap.IsSliceOf sl .none u .none → Q (.ref sl) (St s₂ tk₂)) E (St s tk)) :
    wpAny (model prog w) A (eval (.Slice none (some upper) none p) env) Q E (St s tk) :=
  wpAny_Slice (wpAny_pure (wpAny_mono h (fun u s₁ h₁ => wpAny_pure (h₁ s₁.heap.objs.size { s₁ with heap := _ } s₁.toks (Ext.of_heap (s := s₁) (tk := s₁.toks) fun a o e => Heap.get?_push_of_some _ e) (Heap.get?_none_of_le (Nat.le_refl _)) (Heap.IsSliceOf.new ..))) fun _ _ q => q))
/-- a while -/
theorem sWhile {test : Expr} {body : List Stmt} {pos : Pos} {Q : Flow → Shared → Prop} (J : Nat → Shared → Prop) (n : Nat) (h0 : J n s)
    (turn : ∀ n s₁ tk₁, J n s₁ → wpAny (model prog w) A (isTrue test env (eval test env)) (fun b s₂ => if b = true then wpAny (model prog w) A (execs body env)
      (fun f s₃ => match f with
        | .next | .cont => ∃ m s' tk', m < n ∧ s₃ = St s' tk' ∧ J m s'
        | .brk => Q .next s₃
        | .ret v => Q (.ret v) s₃) (fun _ _ => False) s₂ else Q .next s₂) (fun _ _ => False) (St s₁ tk₁)) :
    wpAny (model prog w) A (exec (.While test body [] pos) env) Q (fun _ _ => False) (St s tk) := by
  refine wpAny_While (codeAny_whileLoop (fun n s' => ∃ s₁ tk₁, s' = St s₁ tk₁ ∧ J n s₁) ?_ n ⟨s, tk, rfl, h0⟩)
  rintro n s' ⟨s₁, tk₁, rfl, hj⟩
  refine wpAny_mono (turn n s₁ tk₁ hj) (fun b s₂ h₂ => ?_) fun _ _ q => q.elim
  cases b with
  | false => exact wpAny_execs_nil h₂
  | true =>
    rw [if_pos rfl] at h₂ ⊢
    refine wpAny_mono h₂ (fun f s₃ h₃ => ?_) fun _ _ q => q.elim
    have nx : (∃ m s' tk', m < n ∧ s₃ = St s' tk' ∧ J m s') → ∃ m, m < n ∧ ∃ s₁ tk₁, s₃ = St s₁ tk₁ ∧ J m s₁ := fun ⟨m, s', tk', h1, h2, h3⟩ => ⟨m, h1, s', tk', h2, h3⟩
    cases f with
    | next => exact nx h₃
    | cont => exact nx h₃
    | brk => exact h₃
    | ret v => exact h₃
theorem sAugA {o value : Expr} {attr : Str} {tpos pos : Pos} {op : Operator} {Q : Flow → Shared → Prop}
    (h : wpAny (model prog w) A (eval o env) (fun ov s₁ => wpAny (model prog w) A (getAttr ov attr true) (fun old s₂ => wpAny (model prog w) A (eval value env) (fun v s₃ => wpAny (model prog w) A (inplaceOp op old v) (fun new s₄ =>
            wpAny (model prog w) A (setAttr ov attr new) (fun _ => Q .next) E s₄) E s₃) E s₂) E s₁) E (St s tk)) :
    wpAny (model prog w) A (exec (.AugAssign (.Attribute o attr tpos) op value pos) env) Q E (St s tk) := wpAny_AugAssign_AttributeAny h
/-- a loop over a range -/
theorem forRange {x : Str} {p : Pos} {body : List Stmt} {r : Addr} {a b : Int} {t u v : Tok} {R : Result → Shared → Prop} (hA : Lv d A) (hr : IsRange s.heap r a b 1 t u v) (ha : 0 ≤ a) (ha' : a ≤ 1000000) (hb : 0 ≤ b) (hb' : b ≤ 1000000) (J : Addr → Nat → Shared → Prop)
    (hJ : ∀ I, s.heap.get? I = none → ∀ i s₁ s₂, J I i s₁ → Ext [I] s₁ s₂ → J I i s₂) (h0 : ∀ I s', Ext [] s s' → s.heap.get? I = none → J I 0 s')
    (step : ∀ I i t s₁ tk₁, s.heap.get? I = none → i < (b - a).toNat → J I i s₁ → wpAny (model prog w) A (storeName env x (.int (a + i) t)) (fun _ s₂ => wpAny (model prog w) A (execs body env)
      (fun f s₃ => match f with
        | .next | .cont => ∃ s' tk', s₃ = St s' tk' ∧ J I (i + 1) s' ∧ ∃ N, Ext N s₁ s' ∧ I ∉ N
        | .brk => R (.ok .next) s₃
        | .ret v => R (.ok (.ret v)) s₃) (fun _ _ => False) s₂) (fun _ _ => False) (St s₁ tk₁))
    (done : ∀ I s' tk', s.heap.get? I = none → J I (b - a).toNat s' → R (.ok .next) (St s' tk')) :
    wpAny (model prog w) A (pyIter (.ref r)) (fun it s₂ => codeAny (model prog w) A (.forLoop (.Name x p) it body [] env) R s₂) E (St s tk) := by
  refine itR hr ha ha' hb hb' fun I s' tk' e hI hit => ?_
  refine forW (Walks.range hA.1 I a 1 (b - a).toNat) goName (J I) (hJ I hI) (h0 I s' e hI) (by simpa using hit) (fun i v s₁ tk₁ hi hv hj hs => ?_) fun s'' tk'' hj => done I s'' tk'' hI hj
  obtain ⟨t, rfl⟩ := hv
  rw [Int.mul_one]
  refine wpAny_assign_Name (wpAny_mono (step I i t s₁ tk₁ hI hi hj) (fun _ s₂ h₂ => wpAny_mono h₂ (fun f s₃ h₃ => ?_) fun _ _ q => q) fun _ _ q => q)
  have nx : (∃ s' tk', s₃ = St s' tk' ∧ J I (i + 1) s' ∧ ∃ N, Ext N s₁ s' ∧ I ∉ N) → ∃ s' tk', s₃ = St s' tk' ∧ J I (i + 1) s' ∧ ∀ b ∈ [I], ∀ o, s₁.heap.get? b = some o → s'.heap.get? b = some o := by
    rintro ⟨s', tk', rfl, hj', N, x, h1⟩
    exact ⟨s', tk', rfl, hj', fun b hb o ho => x.keep b o (fun r => h1 ((List.mem_singleton.mp hb) ▸ r)) ho⟩
  cases f with
  | next => exact nx h₃
  | cont => exact nx h₃
  | brk => exact h₃
  | ret v => exact h₃
/-- two names at once -/
theorem asg2o {a b : Str} {pa pb tp : Pos} {kk : Nat} {T : Addr} {x y : Value} {Q : Unit → Shared → Prop} (F : Fm M s₀ env l cl s) (hA : Lv d A) (ho : Offs M s₀ env.locals) (hne : ∀ n c, env.cells.lookup n = some c → c ≠ env.locals) (ht : s.heap.IsTuple T #[x, y])
    (h : ∀ s' tk', Ext [env.locals] s s' → Fm M s₀ env ((b, y) :: (a, x) :: l) cl s' → Q () (St s' tk'))
    (hk : env.scope.kind = .function := by kernel_rfl) (h1 : env.kindOf a = some .local := by kernel_rfl) (h2 : env.kindOf b = some .local := by kernel_rfl) :
    wpAny (model prog w) A (assign (.Tuple [.Name a pa, .Name b pb] kk tp) env (.ref T)) Q E (St s tk) := by
  obtain ⟨m, n, q⟩ := F.ns
  refine kcp_assign (s := St s tk) hA.1 ht h1 h2 (by rw [hk]; rfl) n fun h' tk' hn hs => ?_
  have x' : Ext [env.locals] s { s with heap := h', toks := tk' } := ⟨⟨h', tk', rfl⟩, fun c o hc e => hs c o (fun r => hc (List.mem_singleton.mpr r)) e⟩
  refine h { s with heap := h', toks := tk' } tk' x' ⟨F.ext.fresh x' fun c hc => (List.mem_singleton.mp hc) ▸ ho, ⟨_, hn, fun z u e => ?_⟩, fun n c hc => ?_⟩
  · have e1 := look_sh e
    show (if z = b then some y else if z = a then some x else m z) = some u
    by_cases c : z = b
    · rw [if_pos c] at e1 ⊢; exact e1
    · rw [if_neg c] at e1 ⊢
      have e2 := look_sh e1
      by_cases c' : z = a
      · rw [if_pos c'] at e2 ⊢; exact e2
      · rw [if_neg c'] at e2 ⊢; exact q _ _ e2
  · obtain ⟨o, ⟨oc, ho', hd⟩, z⟩ := F.cell n c hc
    exact ⟨o, ⟨oc, x'.keep c oc (notin1 (hne n c hc)) ho', hd⟩, z⟩
theorem asg2 {a b : Str} {pa pb tp : Pos} {kk : Nat} {T : Addr} {x y : Value} {Q : Unit → Shared → Prop} (F : Fm M s₀ env l cl s) (O : Own s₀ env) (hA : Lv d A) (ht : s.heap.IsTuple T #[x, y])
    (h : ∀ s' tk', Ext [env.locals] s s' → Fm M s₀ env ((b, y) :: (a, x) :: l) cl s' → Q () (St s' tk'))
    (hk : env.scope.kind = .function := by kernel_rfl) (h1 : env.kindOf a = some .local := by kernel_rfl) (h2 : env.kindOf b = some .local := by kernel_rfl) :
    wpAny (model prog w) A (assign (.Tuple [.Name a pa, .Name b pb] kk tp) env (.ref T)) Q E (St s tk) := asg2o F hA (.inr O.loc) (fun n c hc => O.ne hc) ht h hk h1 h2
/-- a comprehension over a list of pairs, with one test -/
theorem compPairs {lc : List (Str × Value)} {elt iter c : Expr} {xa xb : Str} {pa pb tp : Pos} {kk : Nat} {scope : Scope} {cl : List (Str × Addr)} {ccl : List (Str × Value)} {pos : Pos} {a : Addr} {vs : List Value} {Q : Value → Shared → Prop}
    (F : Fm M s₀ env l lc s) (hM : ∀ b ∈ M, ∃ o, s.heap.get? b = some o) (hb : Bz w M s₀) (hA : Lv d A) (hl : s.heap.PlainList a vs.toArray) (hsz : vs.length ≤ 16777216)
    (hv : ∀ (i : Nat) (v : Value), vs[i]? = some v → ∃ T x y, v = .ref T ∧ s.heap.IsTuple T #[x, y])
    (hcc : ∀ n c, cl.lookup n = some c → ∃ o, s.heap.IsCell c o ∧ ∀ v, look ccl n = some v → o = some v)
    (J : Nat → Heap → List Value → Prop) (hJ : ∀ i z z' ys, J i z ys → Sub z z' → J i z' ys) (h0 : ∀ z, J 0 z [])
    (step : ∀ (i : Nat) T x y C s₂ s₁ tk₁ z ys (Qb : Option Value → Shared → Prop), vs[i]? = some (.ref T) → s.heap.IsTuple T #[x, y] → J i z ys → Sub z s₂.heap → Ext [] s s₂ → Bz w [C] s₂ → Fm [C] s₂ (compEnvC scope cl C env) [(xb, y), (xa, x)] ccl s₁ → Sub s.heap s₁.heap →
      (∀ oy s₄ tk₄, Fm [C] s₂ (compEnvC scope cl C env) [(xb, y), (xa, x)] ccl s₄ → (∀ z', Sub z z' → New s₂ s₄ z' → J (i + 1) z' (ys ++ oy.toList)) → Qb oy (St s₄ tk₄)) →
      wpAny (model prog w) A (isTrue c (compEnvC scope cl C env) (eval c (compEnvC scope cl C env))) (fun ok s₃ => if ok = true then wpAny (model prog w) A (eval elt (compEnvC scope cl C env)) (fun y s₄ => Qb (some y) s₄) (fun _ _ => False) s₃ else Qb none s₃) (fun _ _ => False) (St s₁ tk₁))
    (done : ∀ D s'' tk'' ys, Ext [] s s'' → Fm M s₀ env l lc s'' → s.heap.get? D = none → s''.heap.PlainList D ys.toArray → ys.length ≤ vs.length → J vs.length s''.heap ys → Q (.ref D) (St s'' tk''))
    (hcell : ∀ y ∈ scope.names, y.2 ≠ .cell := by decide) (hkind : scope.kind = .function := by kernel_rfl) (ha : ∀ C, (compEnvC scope cl C env).kindOf xa = some .local := by intro _; kernel_rfl) (hxb : ∀ C, (compEnvC scope cl C env).kindOf xb = some .local := by intro _; kernel_rfl) (hk : ∀ C, (compEnvC scope cl C env).scope.kind = .function := by intro _; kernel_rfl) :
    wpAny (model prog w) A (pyIter (.ref a)) (fun it s₂ => CompGoal prog w A E env elt (.Tuple [.Name xa pa, .Name xb pb] kk tp) iter [c] scope cl pos (fun acc C => compPost (model prog w) A E none Q acc C) it s₂) E (St s tk) := by
  refine itL hl fun I s' tk' e hI hit => ?_
  obtain ⟨nl, hol⟩ := id hl
  have hne : a ≠ I := Ne.symm (ne_ns hI hol)
  have hl' : s'.heap.PlainList a vs.toArray := hl.at fun o q => e.sub _ _ q
  have hn : vs.toArray.size = vs.length := List.size_toArray ..
  have hbI := Bz.iter F hb hI e
  refine compRun (s := s') (Walks.list hA.1 I a hne vs.toArray) (by rw [hn]; exact hsz) (goTup (fun i v hP => ?_)) (fun _ _ _ => loopTest) hcell hkind ⟨hit, hl'.isList⟩ (fun i h q => ?_) (fun b q => ?_) J hJ (h0 _) (fun i v C s₁ tk₁ z ys Qb hi hP hj hz hx₁ hC hnC k => ?_) fun D C s₂ tk₂ ys x₂ hD hC hCD hnC hlD hlen hz => compPost_of hnC fun h' hs => ?_
  · obtain ⟨T, x, y, r, _⟩ := hv i v (by simpa using hP); exact ⟨T, r⟩
  · obtain ⟨⟨o, ho, _⟩, _⟩ := q; exact ⟨o, ho⟩
  · simp only [List.mem_cons, List.not_mem_nil, or_false] at q
    rcases q with rfl | rfl
    · obtain ⟨o, ho, _⟩ := hit; exact ⟨o, ho⟩
    · obtain ⟨m, ho⟩ := hl'; exact ⟨_, ho⟩
  · have hcc' : ∀ m c, (compEnvC scope cl C env).cells.lookup m = some c → c ≠ C ∧ ∃ o, s₁.heap.IsCell c o ∧ ∀ v, look ccl m = some v → o = some v := fun m c q => by
      obtain ⟨o, ⟨oc, ho, hd⟩, r⟩ := hcc m c q
      have hc' := e.sub _ _ ho
      exact ⟨Ne.symm (ne_ns hC hc'), o, ⟨oc, hx₁.keep c oc (notin1 (Ne.symm (ne_ns hI ho))) hc', hd⟩, r⟩
    have F₁ : Fm [C] s₁ (compEnvC scope cl C env) [] ccl s₁ := ⟨Ext.refl _ _, hnC, fun m c q => (hcc' m c q).2⟩
    have xs : Ext [] s s₁ := e.fresh hx₁ fun a q => .inr ((List.mem_singleton.mp q) ▸ hI)
    obtain ⟨T, x, y, rfl, hT⟩ := hv i v (by simpa using hP)
    have hT₁ : s₁.heap.IsTuple T #[x, y] := let ⟨o, ho, r⟩ := hT; ⟨o, xs.sub _ _ ho, r⟩
    refine asg2o F₁ hA (.inl (List.mem_singleton.mpr rfl)) (fun m c q => (hcc' m c q).1) hT₁ (fun s₂ tk₂ e₂ F₂ => ?_) (hk C) (ha C) (hxb C)
    have hCs : s.heap.get? C = none := none_of_ext e (fun q => nomatch q) hC
    refine step i T x y C s₁ s₂ tk₂ z ys Qb (by simpa using hP) hT hj hz xs ?_ F₂ (fun a o q => F₂.ext.keep a o (notin1 (Ne.symm (ne_ns hCs q))) (xs.sub a o q)) fun oy s₄ tk₄ F₄ hj₄ => k oy s₄ tk₄ F₄.ext (F₄.ns.less fun _ _ q => nomatch q) hj₄
    obtain ⟨zb, b1, b2, b3⟩ := hbI
    refine ⟨zb, b1, fun a o q => hx₁.keep a o (fun r => by rw [b3 a r] at q; cases q) (b2 a o q), fun a q => ?_⟩
    rw [List.mem_singleton.mp q]
    cases q' : zb.get? C with
    | none => rfl
    | some o => rw [b2 C o q'] at hC; cases hC
  · obtain ⟨z, hj, hzs, hzC⟩ := hz
    have y : Ext [C] s₂ { s₂ with heap := h', toks := tk₂ } := Ext.of_but hs
    have hCs : s.heap.get? C = none := none_of_ext e (fun q => nomatch q) hC
    have x : Ext [] s { s₂ with heap := h', toks := tk₂ } := (e.fresh x₂ fun a q => .inr ((List.mem_singleton.mp q) ▸ hI)).fresh y fun a q => .inr ((List.mem_singleton.mp q) ▸ hCs)
    have hj' : J vs.toArray.size h' ys := hJ _ _ _ _ hj fun a o q => y.keep a o (fun r => by rw [List.mem_singleton.mp r, hzC] at q; cases q) (hzs a o q)
    rw [hn] at hj' hlen
    exact done D { s₂ with heap := h', toks := tk₂ } tk₂ ys x (F.step0 x) (none_of_ext e (fun q => nomatch q) hD) (hlD.at fun o q => y.keep D o (fun r => hCD (List.mem_singleton.mp r).symm) q) hlen hj'
end

/-! C11 -/
section
variable {prog : Program} {w : World} {A : Around} {E : Value → Shared → Prop} {s : Shared} {tk : Nat} {d : Nat}
noncomputable abbrev Pr (h : Heap) (v : Value) (p : Int × Int) : Prop := Is h 1 v (.tup [.int p.1, .int p.2])
/-- a list of pairs of ints -/
noncomputable def SA (h : Heap) (a : Addr) (S : List (Int × Int)) : Prop := ∃ vs : List Value, h.PlainList a vs.toArray ∧ P2 (Pr h) vs S
theorem SA.sub {z z' : Heap} {a : Addr} {S : List (Int × Int)} (k : Sub z z') (h : SA z a S) : SA z' a S := let ⟨vs, p, q⟩ := h; ⟨vs, plSub p k, q.mono fun _ _ r => r.sub k⟩
theorem SA.ext {M : List Addr} {s s' : Shared} {a : Addr} {S : List (Int × Int)} (h : SA s.heap a S) (x : Ext M s s') (hn : a ∉ M) (ht : ∀ b ∈ M, NoT s.heap b) : SA s'.heap a S := let ⟨vs, p, q⟩ := h; ⟨vs, plExt p x hn, q.mono fun _ _ r => r.upto (x.tups ht)⟩
theorem Pr.open {h : Heap} {v : Value} {p : Int × Int} (x : Pr h v p) : ∃ T t u, v = .ref T ∧ h.IsTuple T #[.int p.1 t, .int p.2 u] := by
  obtain ⟨T, vs, rfl, ht, hp⟩ := x
  match vs, hp with
  | [a, b], ⟨⟨t, e1⟩, ⟨u, e2⟩, _⟩ => subst e1 e2; exact ⟨T, t, u, rfl, ht⟩
  | [], h => exact h.elim
  | [_], h => exact h.2.elim
  | _ :: _ :: _ :: _, h => exact h.2.2.elim
noncomputable def heardL (S : List (Int × Int)) (r : Int) : List Int := (S.filter fun p => p.1 == r).map (·.2)
noncomputable def sortV (l : List Int) : List Int := l.mergeSort fun a b => decide (a ≤ b)
theorem sortV_unique {l l' : List Int} (hp : l'.Perm l) (hs : l'.Pairwise (· ≤ ·)) : l' = sortV l := by
  refine List.Perm.eq_of_pairwise (le := (· ≤ ·)) (fun a b _ _ h1 h2 => Int.le_antisymm h1 h2) hs ?_ (hp.trans (List.mergeSort_perm _ _).symm)
  have := List.pairwise_mergeSort (le := fun a b : Int => decide (a ≤ b)) (fun a b c h1 h2 => by simp at *; omega) (fun a b => by simp; omega) l
  exact this.imp fun h => by simpa using h
theorem sortV_perm (l : List Int) : (sortV l).Perm l := List.mergeSort_perm _ _
noncomputable def heardV (S : List (Int × Int)) (r : Int) : List Int := sortV (heardL S r)
theorem heardL_len (S : List (Int × Int)) (r : Int) : (heardL S r).length ≤ S.length := by
  unfold heardL; rw [List.length_map]; exact List.length_filter_le ..
theorem lawHeard {a : Addr} {S : List (Int × Int)} {r : Int} {t : Tok} {Q : Value → Shared → Prop} (hb : Base w s.heap) (hA : Lv d A) (hd : d < 600) (hl : SA s.heap a S) (hsz : S.length < 64)
    (h : ∀ D s' tk', Ext [] s s' → s.heap.get? D = none → LI s'.heap D (heardV S r) → Q (.ref D) (St s' tk')) :
    wpAny (model prog w) A (call (.ref 372) [.ref a, .int r t]) Q E (St s tk) := by
  obtain ⟨vs, hp, hvs⟩ := hl
  have hlen := hvs.len
  refine callF (st := stAt 34) (bs := [("said", .ref a), ("r", .int r t)]) (ll := [("said", .ref a)]) (cl := [("r", .int r t)]) hb hA (by omega) (by rfl) (by kernel_rfl) (by kernel_rfl) (by kernel_rfl) (by kernel_rfl) (by kernel_rfl) (fun s₁ tk₁ A₁ hA₁ O F => ?_)
  with_reducible refine exB (st := ?st) (rest := ?rest) ?e ?_
  case e => exact rfl
  have hz := Bz.of hb
  kba_ints
  with_reducible refine compE [(Str.ofString "r", s.heap.objs.size + 1)] (by kernel_rfl) ?_
  kba_ints
  have hvs₁ := hvs.mono fun _ _ q => q.sub F.sub
  refine compPairs F (fun _ h => nomatch h) hz hA₁ (plSub hp F.sub) (by omega) (fun i v hv => ?_) (F.cellsOf (by kernel_rfl)) (ccl := [(Str.ofString "r", .int r t)]) (fun i z ys => P2 IsI ys (heardL (S.take i) r)) (fun i z z' ys hj hs => hj) (fun z => trivial) (fun i T x y C s₂ s₃ tk₃ z ys Qb hi hT hj hz₂ hx₂ hb₂ F₂ hS k => ?_) (fun D s₂ tk₂ ys e₂ F₂ hD hl₂ hlen₂ hj => ?_)
  · obtain ⟨p, _, q⟩ := hvs₁.get' hv
    obtain ⟨T, t, u, e, ht⟩ := Pr.open q
    exact ⟨T, _, _, e, ht⟩
  · obtain ⟨p, hpS, q⟩ := hvs₁.get' hi
    obtain ⟨T', t', u', e, ht'⟩ := Pr.open q
    cases e
    obtain ⟨rfl, rfl⟩ : x = .int p.1 t' ∧ y = .int p.2 u' := by
      obtain ⟨o, ho, _, n, hd⟩ := hT
      obtain ⟨o', ho', _, n', hd'⟩ := ht'
      rw [ho] at ho'; injection ho' with ho'; subst ho'
      rw [hd] at hd'
      injection hd' with hd' _
      have := congrArg Array.toList hd'
      simp at this
      exact this
    kba_ints
    cases hq : (p.1 == r)
    · rw [if_neg Bool.false_ne_true]
      refine k none s₃ _ F₂ fun z' hz' hn' => ?_
      unfold heardL
      rw [take_snoc hpS, List.filter_append, List.filter_cons, hq]
      simpa [heardL] using hj
    · rw [if_pos rfl]
      kba_ints
      refine k (some _) s₃ _ F₂ fun z' hz' hn' => ?_
      unfold heardL
      rw [take_snoc hpS, List.filter_append, List.filter_cons, hq, List.map_append]
      exact P2.snoc hj ⟨_, rfl⟩
  · rw [List.take_of_length_le (by omega)] at hj
    kba_ints
    with_reducible refine srtL hl₂ hj (by omega) fun D₃ s₃ tk₃ os ns' e₃ hD₃ hl₃ hi₃ hperm hsort => ?_
    obtain rfl := sortV_unique hperm hsort
    exact h D₃ s₃ _ (F₂.ext.trans e₃) (none_of_ext F₂.ext (fun q => nomatch q) hD₃) ⟨os, hl₃, hi₃⟩
end

/-! C12 -/
section
variable {prog : Program} {w : World} {A : Around} {E : Value → Shared → Prop} {s : Shared} {tk : Nat} {d : Nat}
noncomputable abbrev IsB (v : Value) (b : Bool) : Prop := v = .bool b
theorem range_all (bs : List Bool) : (List.range bs.length).all (fun i => bs.getD i true) = bs.all id := by
  rw [Bool.eq_iff_iff, List.all_eq_true, List.all_eq_true]
  constructor
  · intro h b hb
    obtain ⟨i, hi, e⟩ := List.mem_iff_getElem.mp hb
    have := h i (List.mem_range.mpr hi)
    rw [List.getD_eq_getElem?_getD, List.getElem?_eq_getElem hi] at this
    rw [← e]; exact this
  · intro h i hi
    have hi := List.mem_range.mp hi
    rw [List.getD_eq_getElem?_getD, List.getElem?_eq_getElem hi]
    exact h _ (List.getElem_mem hi)
theorem lAll {a : Addr} {vs : List Value} {bs : List Bool} {Q : Value → Shared → Prop} (hA : Lv d A) (hl : s.heap.PlainList a vs.toArray) (hb : P2 IsB vs bs) (h : ∀ s' tk', Ext [] s s' → Q (.bool (bs.all id)) (St s' tk')) :
    wpAny (model prog w) A (call (.builtin "all") [.ref a]) Q E (St s tk) := by
  refine call_all_walk (itL hl fun I s' tk' e hI hit => ?_)
  have hne : a ≠ I := let ⟨_, q⟩ := hl; Ne.symm (ne_ns hI q)
  have hl' : s'.heap.PlainList a vs.toArray := hl.at fun o q => e.sub _ _ q
  refine ⟨I, _, _, _, _, _, fun i => bs.getD i true, rfl, Walks.list (A := A.in1) hA.1 I a hne vs.toArray, ⟨hit, hl'.isList⟩, ?_, fun h' tk₂ hk => ?_⟩
  · intro i v s₂ Q E hv k
    obtain ⟨b, hbi, rfl⟩ := hb.get' (i := i) (a := v) (by simpa using hv)
    refine wpAny_truthy_bool ?_
    dsimp only at k
    rw [List.getD_eq_getElem?_getD, hbi] at k
    exact k
  · have hn : vs.toArray.size = bs.length := by rw [List.size_toArray, hb.len]
    rw [hn, range_all]
    exact h { s' with heap := h', toks := tk₂ } tk₂ (e.fresh (⟨⟨h', tk₂, rfl⟩, hk⟩ : Ext [I] s' { s' with heap := h', toks := tk₂ }) fun c q => .inr ((List.mem_singleton.mp q) ▸ hI))
/-- a list of lists of ints -/
noncomputable abbrev IsL (h : Heap) (v : Value) (ns : List Int) : Prop := ∃ a, v = .ref a ∧ LI h a ns
noncomputable def HA (h : Heap) (a : Addr) (H : List (List Int)) : Prop := ∃ vs : List Value, h.PlainList a vs.toArray ∧ P2 (IsL h) vs H
theorem HA.sub {z z' : Heap} {a : Addr} {H : List (List Int)} (k : Sub z z') (h : HA z a H) : HA z' a H := let ⟨vs, p, q⟩ := h; ⟨vs, plSub p k, q.mono fun _ _ ⟨b, e, r⟩ => ⟨b, e, r.sub k⟩⟩
noncomputable def winV (who ns : List Int) : Bool := decide (ns.length < 2 * gotV ns who)
noncomputable def winsV (H : List (List Int)) (who : List Int) : Bool := (H.map (winV who)).all id
theorem any_mem {who : List Int} {n : Int} : (who.any fun p => p == n) = decide (n ∈ who) := by
  rw [Bool.eq_iff_iff, List.any_eq_true, decide_eq_true_eq]
  constructor
  · rintro ⟨x, hx, e⟩; rw [← eq_of_beq e]; exact hx
  · intro h; exact ⟨n, h, beq_self_eq_true n⟩
theorem lawWins {ha wa : Addr} {H : List (List Int)} {who : List Int} {Q : Value → Shared → Prop} (hb : Base w s.heap) (hA : Lv d A) (hd : d < 600) (hh : HA s.heap ha H) (hH : H.length < 64) (hH' : ∀ ns ∈ H, ns.length < 64) (hw : LI s.heap wa who) (hwl : who.length < 64)
    (h : ∀ s' tk', Ext [] s s' → Q (.bool (winsV H who)) (St s' tk')) :
    wpAny (model prog w) A (call (.ref 360) [.ref ha, .ref wa]) Q E (St s tk) := by
  obtain ⟨vs, hp, hvs⟩ := hh
  have hlen := hvs.len
  refine callF (st := stAt 32) (bs := [("halves", .ref ha), ("who", .ref wa)]) (ll := [("halves", .ref ha)]) (cl := [("who", .ref wa)]) hb hA (by omega) (by rfl) (by kernel_rfl) (by kernel_rfl) (by kernel_rfl) (by kernel_rfl) (by kernel_rfl) (fun s₁ tk₁ A₁ hA₁ O F => ?_)
  with_reducible refine exB (st := ?st) (rest := ?rest) ?e ?_
  case e => exact rfl
  have hz := Bz.of hb
  kba_ints
  with_reducible refine compE [(Str.ofString "who", s.heap.objs.size + 1)] (by kernel_rfl) ?_
  kba_ints
  refine compList F (fun _ h => nomatch h) hz hA₁ (plSub hp F.sub) (by omega) (fun _ _ _ => loopName) (F.cellsOf (by kernel_rfl)) (ccl := [(Str.ofString "who", .ref wa)]) (fun i z ys => P2 IsB ys ((H.take i).map (winV who))) (fun i z z' ys hj hs => hj) (fun z => trivial) (fun i v C s₂ s₃ tk₃ z ys Qb hi hj hz₂ hx₂ hb₂ F₂ hS k => tst0 ?_) (fun D s₂ tk₂ ys e₂ F₂ hD hl₂ hlen₂ hj => ?_)
  · obtain ⟨ns, hns, a, rfl, hl⟩ := hvs.get' hi
    have hnsl : ns.length < 64 := hH' ns (List.mem_of_getElem? hns)
    have hl₃ := (hl.sub F.sub).sub hS
    have hw₃ := (hw.sub F.sub).sub hS
    obtain ⟨us, hus, hul, hui⟩ := hl₃.len
    kba_ints
    with_reducible refine compE [(Str.ofString "who", s.heap.objs.size + 1)] (by kernel_rfl) ?_
    kba_ints
    have hCs : ∀ b ∈ [C], ∃ o, s₃.heap.get? b = some o := fun b q => (List.mem_singleton.mp q) ▸ F₂.ns.has
    refine compList F₂ hCs hb₂ hA₁ hus (by omega) (fun _ _ _ => loopTest) (F₂.cellsOf (by kernel_rfl)) (ccl := [(Str.ofString "who", .ref wa)]) (fun i z ys => P2 IsI ys ((ns.take i).filter fun n => decide (n ∈ who))) (fun i z z' ys hj hs => hj) (fun z => trivial) (fun j v C' s₄ s₅ tk₅ z' ys' Qb' hj' hjj hz₄ hx₄ hb₄ F₄ hS₄ k' => tst1 ?_) (fun D' s₄ tk₄ ys' e₄ F₄ hD' hl₄ hlen₄ hjj => ?_)
    · obtain ⟨n, hn, tn, rfl⟩ := hui.get' hj'
      obtain ⟨ws, hws, hwi⟩ := hw₃.sub hS₄
      kba_ints
      with_reducible refine lIn (R := IsI) (eqv := fun p => p == n) hws hwi (fun y p q h1 h2 => ?_) (fun y p h1 => ?_) ?_
      · obtain ⟨t, rfl⟩ := h1; obtain ⟨t', e⟩ := h2; cases e; rfl
      · obtain ⟨t, rfl⟩ := h1; exact PySem.SeqAt.EqAt.int_int p t n tn
      rw [any_mem]
      kba_ints
      cases hq : decide (n ∈ who)
      · rw [if_neg Bool.false_ne_true]
        refine k' none s₅ _ F₄ fun z'' hz'' hn'' => ?_
        rw [take_snoc hn, List.filter_append, List.filter_cons, hq]
        simpa using hjj
      · rw [if_pos rfl]
        kba_ints
        refine k' (some _) s₅ _ F₄ fun z'' hz'' hn'' => ?_
        rw [take_snoc hn, List.filter_append, List.filter_cons, hq]
        exact hjj.snoc ⟨_, rfl⟩
    · rw [List.take_of_length_le (by omega)] at hjj
      kba_ints
      with_reducible refine lLen hl₄ (by omega) fun _ _ => ?_
      kba_ints
      with_reducible refine lLen (plSub hus e₄.sub) (by omega) fun _ _ => ?_
      kba_ints
      refine k (some _) s₄ _ F₄ fun z' hz' hn' => ?_
      rw [take_snoc hns, List.map_append]
      refine P2.snoc hj ?_
      show Value.bool _ = .bool (winV who ns)
      unfold winV gotV
      rw [hul, hjj.len]
      congr 1
      rw [decide_eq_decide]
      omega
  · rw [List.take_of_length_le (by omega)] at hj
    kba_ints
    with_reducible refine lAll hA₁ hl₂ hj fun s₃ tk₃ e₃ => ?_
    exact h _ _ (F₂.ext.trans e₃)
end

/-! C13 -/
section
variable {prog : Program} {w : World} {A : Around} {E : Value → Shared → Prop} {s : Shared} {tk : Nat} {d : Nat}
noncomputable def okV (H : List (List Int)) (S : List (Int × Int)) (hs : List Int) (r : Nat) : Bool := decide ((r : Int) ∈ hs) || winsV H (heardV S r)
noncomputable def goneV (H : List (List Int)) (S : List (Int × Int)) (hs : List Int) : Nat → Nat
  | 0 => 0
  | n + 1 => if okV H S hs n then n + 1 else goneV H S hs n
theorem lawGone {ha sa la : Addr} {H : List (List Int)} {S : List (Int × Int)} {hs : List Int} {c : Nat} {t : Tok} {Q : Value → Shared → Prop} (hb : Base w s.heap) (hA : Lv d A) (hd : d < 500) (hh : HA s.heap ha H) (hH : H.length < 64) (hH' : ∀ ns ∈ H, ns.length < 64)
    (hS : SA s.heap sa S) (hSl : S.length < 64) (hl : LI s.heap la hs) (hc : c ≤ 1000)
    (h : ∀ t s' tk', Ext [] s s' → Q (.int (goneV H S hs c) t) (St s' tk')) :
    wpAny (model prog w) A (call (.ref 379) [.ref ha, .ref sa, .ref la, .int c t]) Q E (St s tk) := by
  refine callF (st := stAt 35) (bs := [("halves", .ref ha), ("said", .ref sa), ("hands", .ref la), ("count", .int c t)]) (ll := [("count", .int c t), ("hands", .ref la), ("said", .ref sa), ("halves", .ref ha)]) (cl := []) hb hA (by omega) (by rfl) (by kernel_rfl) (by kernel_rfl) (by kernel_rfl) (by kernel_rfl) (by kernel_rfl) (fun s₁ tk₁ A₁ hA₁ O F => ?_)
  with_reducible refine exB (st := ?st) (rest := ?rest) ?e ?_
  case e => exact rfl
  have hz := Bz.of hb
  kba_ints
  with_reducible refine sFor ?_
  kba_ints
  with_reducible refine rng1 fun r s₂ tk₂ t1 t2 e₂ hr hR => ?_
  have F₂ := F.step0 e₂
  refine forRange hA₁ hR (by decide) (by decide) (by omega) (by omega) (fun I i s' => Fm [] s (fenv (stAt 35) "_law_gone" (.str "law_nz0368_01" 662) (.ref 378) s.heap.objs.size 379) [("count", .int c t), ("hands", .ref la), ("said", .ref sa), ("halves", .ref ha)] [] s' ∧ goneV H S hs c = goneV H S hs (c - i)) ?_ ?_ ?_ ?_
  · rintro I hI i s₁ s₂ ⟨F₁, q⟩ x
    exact ⟨F₂.iter (fun _ q => nomatch q) hI F₁ x, q⟩
  · intro I s₃ e₃ hI
    exact ⟨F₂.step0 e₃, rfl⟩
  · rintro I i ti s₃ tk₃ hI hi ⟨F₃, hg⟩
    have hi' : i < c := by omega
    with_reducible refine stoL F₃ O fun s₄ tk₄ e₄ F₄ => ?_
    kba_ints
    have er : (c : Int) - 1 - (0 + i) = ((c - i - 1 : Nat) : Int) := by omega
    rw [er]
    with_reducible refine stoL F₄ O fun s₅ tk₅ e₅ F₅ => ?_
    kba_ints
    obtain ⟨ws, hws, hwi⟩ := hl.sub F₅.sub
    with_reducible refine lIn (R := IsI) (eqv := fun p => p == ((c - i - 1 : Nat) : Int)) hws hwi (fun y p q h1 h2 => ?_) (fun y p h1 => ?_) ?_
    · obtain ⟨t, rfl⟩ := h1; obtain ⟨t', e⟩ := h2; cases e; rfl
    · obtain ⟨t', rfl⟩ := h1; exact PySem.SeqAt.EqAt.int_int p t' _ _
    rw [any_mem]
    have hstep : goneV H S hs (c - i) = if okV H S hs (c - i - 1) then c - i - 1 + 1 else goneV H S hs (c - i - 1) := by
      conv => lhs; rw [show c - i = c - i - 1 + 1 by omega]
      rfl
    cases hq : decide (((c - i - 1 : Nat) : Int) ∈ hs)
    · kba_ints
      refine lawHeard (F₅.bz hz) hA₁ (by omega) (hS.sub F₅.sub) hSl fun D s₆ tk₆ e₆ hD hwho => ?_
      have F₆ := F₅.step0 e₆
      kba_ints
      refine lawWins (F₆.bz hz) hA₁ (by omega) (hh.sub F₆.sub) hH hH' hwho ?_ fun s₇ tk₇ e₇ => ?_
      · have := heardL_len S ((c - i - 1 : Nat) : Int)
        rw [heardV, (sortV_perm _).length_eq]; omega
      have F₇ := F₆.step0 e₇
      kba_ints
      cases hw : winsV H (heardV S ((c - i - 1 : Nat) : Int))
      · kba_ints
        rw [show okV H S hs (c - i - 1) = false by unfold okV; rw [hq, hw]; rfl, if_neg Bool.false_ne_true] at hstep
        refine ⟨s₇, _, rfl, ⟨F₇.to ⟨by lsm_bools, by lsm_bools, by lsm_bools, by lsm_bools, trivial⟩, ?_⟩, [_], (e₄.trans e₅).trans (e₆.any.trans e₇.any), notin1 (F₂.new hI).1⟩
        rw [hg, hstep]
        congr 1
      · kba_ints
        rw [show okV H S hs (c - i - 1) = true by unfold okV; rw [hq, hw]; rfl, if_pos rfl] at hstep
        have := h
        rw [hg, hstep] at this
        exact this _ _ _ F₇.ext
    · kba_ints
      rw [show okV H S hs (c - i - 1) = true by unfold okV; rw [hq]; rfl, if_pos rfl] at hstep
      have := h
      rw [hg, hstep] at this
      exact this _ _ _ F₅.ext
  · rintro I s₃ tk₃ hI ⟨F₃, hg⟩
    kba_ints
    rw [show c - ((c : Int) - 0).toNat = 0 by omega] at hg
    have := h
    rw [hg] at this
    exact this _ _ _ F₃.ext
end

/-! C14 -/
section
variable {prog : Program} {w : World} {A : Around} {E : Value → Shared → Prop} {s : Shared} {tk : Nat} {d : Nat}
theorem statusInit {x dx : Addr} {a b : Value} {R : Result → Shared → Prop} (hz : Bz w [dx] s) (hA : Lv d A) (hd : d < 700) (I : Inst s.heap x 96 dx [])
    (h : ∀ k s' tk', Ext [dx] s s' → s.heap.get? k = none → s'.heap.DictOf (intKind prog w) k [] → (k == sysModules) = false → Inst s'.heap x 96 dx [("index", a), ("message", b), ("acks", .ref k)] → R (.ok (.ret .none)) (St s' tk')) :
    codeAny (model prog w) A (.call (.ref 93) ⟨[.ref x, a, b], []⟩) R (St s tk) := by
  have hb := hz.base
  refine callC (st := stIn 14 0) (bs := [("self", .ref x), ("index", a), ("message", b)]) (ll := [("message", b), ("index", a), ("self", .ref x)]) (cl := []) hb hA (by omega) (by rfl) (by kernel_rfl) (by kernel_rfl) (by kernel_rfl) (by kernel_rfl) (by kernel_rfl) (fun s₁ tk₁ A₁ hA₁ O F => ?_)
  with_reducible refine exB (st := ?st) (rest := ?rest) ?e ?_
  case e => exact rfl
  have F := F.mono (N := [dx]) (fun _ h => nomatch h)
  have I := I.sub ‹Fm [] _ _ _ _ _›.sub
  have hO : OffOwn (fenv (stIn 14 0) "ReadStatus.__init__" (.str "raftkeep.tracker" 268) (.ref 92) s.heap.objs.size 93) dx := by obtain ⟨o, ho⟩ := ‹Inst s.heap x 96 dx []›.has; exact O.not ho
  have hM : Offs [dx] s dx := .inl (List.mem_singleton.mpr rfl)
  kba_ints
  kp_flats
  kba_ints
  with_reducible refine setF (by assumption) (by assumption) (by assumption) (by kat_tups) (by assumption) (by assumption) fun s₂ tk₂ _ F I => ?_
  kba_ints
  with_reducible refine newD (knd := intKind prog w) (F.bz hz) fun k s₃ tk₃ e₃ hk hks hdk => ?_
  have hk₀ : s.heap.get? k = none := none_of_ext F.ext (fun q => by obtain ⟨o, ho⟩ := I.has; rw [← List.mem_singleton.mp q, hk] at ho; cases ho) hk
  have hne : k ∉ [dx] := fun q => by obtain ⟨o, ho⟩ := I.has; rw [← List.mem_singleton.mp q, hk] at ho; cases ho
  have F := F.step0 e₃
  have I := I.sub e₃.sub
  kba_ints
  with_reducible refine setF (by assumption) (by assumption) (by assumption) (by kat_tups) (by assumption) (by assumption) fun s₄ tk₄ e₄ F I => ?_
  kba_ints
  exact h k s₄ _ F.ext hk₀ (dctSub hdk fun o q => e₄.keep k o hne q) hks I
theorem mkStatus {a b : Value} {Q : Value → Shared → Prop} (hb : Base w s.heap) (hA : Lv d A) (hd : d < 600)
    (h : ∀ x dx k s' tk', Ext [] s s' → s.heap.get? x = none → s.heap.get? dx = none → s.heap.get? k = none → s'.heap.DictOf (intKind prog w) k [] → (k == sysModules) = false → x ≠ k → dx ≠ k → Inst s'.heap x 96 dx [("index", a), ("message", b), ("acks", .ref k)] → Q (.ref x) (St s' tk')) :
    wpAny (model prog w) A (call (.ref 96) [a, b]) Q E (St s tk) := by
  refine mkC (fI := 93) hb hA fun x dx s' tk' A' hA' e hx hdx I => ?_
  refine statusInit (Bz.newM hb e hdx) hA' (by omega) I fun k s'' tk'' e' hk hdk hks I' => ⟨rfl, h x dx k s'' tk'' ?_ hx hdx (none_of_ext e (fun q => nomatch q) hk) hdk hks (Ne.symm (ne_ns hk I.at_)) (let ⟨_, q⟩ := I.has; Ne.symm (ne_ns hk q)) I'⟩
  exact e.fresh e' fun a q => .inr ((List.mem_singleton.mp q) ▸ hdx)
theorem roInit {x dx : Addr} {a : Value} {R : Result → Shared → Prop} (hz : Bz w [dx] s) (hA : Lv d A) (hd : d < 700) (I : Inst s.heap x 152 dx [])
    (h : ∀ p q t s' tk', Ext [dx] s s' → s.heap.get? p = none → s.heap.get? q = none → s'.heap.DictOf (bytesKind prog w) p [] → (p == sysModules) = false → s'.heap.PlainList q ([] : List Value).toArray → Inst s'.heap x 152 dx [("option", a), ("serial", .int 0 t), ("pending", .ref p), ("queue", .ref q)] → R (.ok (.ret .none)) (St s' tk')) :
    codeAny (model prog w) A (.call (.ref 114) ⟨[.ref x, a], []⟩) R (St s tk) := by
  have hb := hz.base
  refine callC (st := stIn 15 0) (bs := [("self", .ref x), ("option", a)]) (ll := [("option", a), ("self", .ref x)]) (cl := []) hb hA (by omega) (by rfl) (by kernel_rfl) (by kernel_rfl) (by kernel_rfl) (by kernel_rfl) (by kernel_rfl) (fun s₁ tk₁ A₁ hA₁ O F => ?_)
  with_reducible refine exB (st := ?st) (rest := ?rest) ?e ?_
  case e => exact rfl
  have F := F.mono (N := [dx]) (fun _ h => nomatch h)
  have I := I.sub ‹Fm [] _ _ _ _ _›.sub
  have hO : OffOwn (fenv (stIn 15 0) "ReadOnly.__init__" (.str "raftkeep.tracker" 268) (.ref 113) s.heap.objs.size 114) dx := by obtain ⟨o, ho⟩ := ‹Inst s.heap x 152 dx []›.has; exact O.not ho
  have hM : Offs [dx] s dx := .inl (List.mem_singleton.mpr rfl)
  kba_ints
  kp_flats
  kba_ints
  with_reducible refine setF (by assumption) (by assumption) (by assumption) (by kat_tups) (by assumption) (by assumption) fun s₂ tk₂ _ F I => ?_
  kba_ints
  with_reducible refine newD (knd := bytesKind prog w) (F.bz hz) fun k s₃ tk₃ e₃ hk hks hdk => ?_
  have hk₀ : s.heap.get? k = none := none_of_ext F.ext (fun q => by obtain ⟨o, ho⟩ := I.has; rw [← List.mem_singleton.mp q, hk] at ho; cases ho) hk
  have hne : k ∉ [dx] := fun q => by obtain ⟨o, ho⟩ := I.has; rw [← List.mem_singleton.mp q, hk] at ho; cases ho
  have F := F.step0 e₃
  have I := I.sub e₃.sub
  kba_ints
  with_reducible refine setF (by assumption) (by assumption) (by assumption) (by kat_tups) (by assumption) (by assumption) fun s₄ tk₄ e₄ F I => ?_
  have hdk := dctSub hdk fun o q => e₄.keep k o hne q
  kba_ints
  with_reducible refine newL (le_line rfl) fun q s₅ tk₅ e₅ hq hl₅ => ?_
  have hq₀ : s.heap.get? q = none := none_of_ext F.ext (fun r => by obtain ⟨o, ho⟩ := I.has; rw [← List.mem_singleton.mp r, hq] at ho; cases ho) hq
  have hne' : q ∉ [dx] := fun r => by obtain ⟨o, ho⟩ := I.has; rw [← List.mem_singleton.mp r, hq] at ho; cases ho
  have F := F.step0 e₅
  have I := I.sub e₅.sub
  have hdk := dctSub hdk fun o q => e₅.sub k o q
  kba_ints
  with_reducible refine setF (by assumption) (by assumption) (by assumption) (by kat_tups) (by assumption) (by assumption) fun s₆ tk₆ e₆ F I => ?_
  kba_ints
  exact h k q _ s₆ _ F.ext hk₀ hq₀ (dctSub hdk fun o q => e₆.keep k o hne q) hks (plExt hl₅ e₆ hne') I
theorem mkReadOnly {a : Value} {Q : Value → Shared → Prop} (hb : Base w s.heap) (hA : Lv d A) (hd : d < 600)
    (h : ∀ x dx p q t s' tk', Ext [] s s' → s.heap.get? x = none → s.heap.get? dx = none → s.heap.get? p = none → s.heap.get? q = none → s'.heap.DictOf (bytesKind prog w) p [] → (p == sysModules) = false → s'.heap.PlainList q ([] : List Value).toArray → x ≠ p → x ≠ q → dx ≠ p → dx ≠ q → Inst s'.heap x 152 dx [("option", a), ("serial", .int 0 t), ("pending", .ref p), ("queue", .ref q)] → Q (.ref x) (St s' tk')) :
    wpAny (model prog w) A (call (.ref 152) [a]) Q E (St s tk) := by
  refine mkC (fI := 114) hb hA fun x dx s' tk' A' hA' e hx hdx I => ?_
  refine roInit (Bz.newM hb e hdx) hA' (by omega) I fun p q t s'' tk'' e' hp hq hdp hps hlq I' => ⟨rfl, h x dx p q t s'' tk'' ?_ hx hdx (none_of_ext e (fun q => nomatch q) hp) (none_of_ext e (fun q => nomatch q) hq) hdp hps hlq (Ne.symm (ne_ns hp I.at_)) (Ne.symm (ne_ns hq I.at_)) (let ⟨_, q⟩ := I.has; Ne.symm (ne_ns hp q)) (let ⟨_, r⟩ := I.has; Ne.symm (ne_ns hq r)) I'⟩
  exact e.fresh e' fun a q => .inr ((List.mem_singleton.mp q) ▸ hdx)
end

/-! C15 -/
section
variable {prog : Program} {w : World} {A : Around} {E : Value → Shared → Prop} {s : Shared} {tk : Nat} {d : Nat}
theorem Sub.ext {z : Heap} {N : List Addr} {s s' : Shared} (hz : Sub z s.heap) (e : Ext N s s') (off : ∀ a ∈ N, z.get? a = none) : Sub z s'.heap := fun a o q => e.keep a o (fun m => by rw [off a m] at q; cases q) (hz a o q)
theorem off1 {z : Heap} {a : Addr} (h : z.get? a = none) : ∀ b ∈ [a], z.get? b = none := fun b q => (List.mem_singleton.mp q) ▸ h
structure Req where
  idx : Int
  frm : Int
  dat : Array UInt8
  var : Bool
structure WR where
  name : Array UInt8
  req : Req
  acks : List Int
  st : Addr
  k : Addr
noncomputable abbrev IsN (v : Value) (x : WR) : Prop := ∃ t, v = .bytes x.name t
noncomputable def StAt (z : Heap) (x : WR) : Prop := ∃ ds m t0, Inst z x.st 96 ds [("index", .int x.req.idx t0), ("message", .ref m), ("acks", .ref x.k)] ∧ MsgAt z m x.req.frm x.req.dat x.req.var
theorem StAt.sub {z z' : Heap} {x : WR} (k : Sub z z') (h : StAt z x) : StAt z' x := let ⟨ds, m, t, I, M⟩ := h; ⟨ds, m, t, I.sub k, M.sub k⟩
noncomputable def pkv (W : List WR) : List (List UInt8 × Value) := W.map fun x => (x.name.toList, .ref x.st)
noncomputable def nms (W : List WR) : List (Array UInt8) := W.map (·.name)
structure RO (prog : Program) (w : World) (z h : Heap) (ro rot pend qu : Addr) (op ser : Int) (W : List WR) : Prop where
  head : z.get? ro = some (instObj 152 rot)
  tab : ∃ t0 t1, Fd h rot [("option", .int op t0), ("serial", .int ser t1), ("pending", .ref pend), ("queue", .ref qu)]
  queue : ∃ vs : List Value, h.PlainList qu vs.toArray ∧ P2 IsN vs W
  pen : h.DictOf (bytesKind prog w) pend (pkv W)
  sys : (pend == sysModules) = false
  sts : ∀ x ∈ W, StAt z x
  votes : ∀ x ∈ W, VA prog w h x.k x.acks
  nd : (nms W).Nodup
  len : W.length < 64
  al : ∀ x ∈ W, x.acks.length < 64
  off : ∀ a ∈ rot :: pend :: qu :: W.map (·.k), z.get? a = none
  apart : (rot :: pend :: qu :: W.map (·.k)).Nodup
theorem RO.inst {z h : Heap} {ro rot pend qu : Addr} {op ser : Int} {W : List WR} (X : RO prog w z h ro rot pend qu op ser W) (hz : Sub z h) : ∃ t0 t1, Inst h ro 152 rot [("option", .int op t0), ("serial", .int ser t1), ("pending", .ref pend), ("queue", .ref qu)] := let ⟨t0, t1, T⟩ := X.tab; ⟨t0, t1, hz _ _ X.head, T⟩
theorem bkey (b : Array UInt8) (t : Tok) : (bytesKind prog w).is b.toList (.bytes b t) = true := by simp [bytesKind, PySem.W.isBytes]
theorem valueAt_pkv {W : List WR} {nm : Array UInt8} : valueAt (pkv W) nm.toList = (W.find? fun x => decide (x.name = nm)).map fun x => .ref x.st := by
  unfold valueAt pkv
  induction W with
  | nil => rfl
  | cons x W ih =>
    rw [List.map_cons, List.find?_cons, List.find?_cons]
    by_cases h : x.name = nm
    · simp [h]
    · have h' : ¬ x.name.toList = nm.toList := fun e => h (Array.toList_inj.mp e)
      simp only [h, h', decide_false]
      exact ih
noncomputable def lastV (W : List WR) : Array UInt8 := (W.getLast?.map (·.name)).getD #[]
theorem lastContext {z : Heap} {ro rot pend qu : Addr} {op ser : Int} {W : List WR} {Q : Value → Shared → Prop} (hb : Base w s.heap) (hA : Lv d A) (hd : d < 600) (X : RO prog w z s.heap ro rot pend qu op ser W) (hz : Sub z s.heap)
    (h : ∀ t s' tk', Ext [] s s' → Q (.bytes (lastV W) t) (St s' tk')) : wpAny (model prog w) A (call (.ref 142) [.ref ro]) Q E (St s tk) := by
  obtain ⟨t0, t1, I⟩ := X.inst hz
  obtain ⟨vs, hl, hvs⟩ := X.queue
  have hlen := hvs.len
  have hW := X.len
  refine callF (st := stIn 15 4) (bs := [("self", .ref ro)]) (ll := [("self", .ref ro)]) (cl := []) hb hA (by omega) (by rfl) (by kernel_rfl) (by kernel_rfl) (by kernel_rfl) (by kernel_rfl) (by kernel_rfl) (fun s₁ tk₁ A₁ hA₁ O F => ?_)
  with_reducible refine exB (st := ?st) (rest := ?rest) ?e ?_
  case e => exact rfl
  have hz := Bz.of hb
  kba_ints
  with_reducible refine lLen (plSub hl F.sub) (by omega) fun _ _ => ?_
  kba_ints
  cases hq : W.getLast? with
  | none =>
    have h0 : W = [] := List.getLast?_eq_none_iff.mp hq
    have hv0 : ((vs.length : Int) == 0) = true := by rw [hlen, h0]; rfl
    rw [hv0]
    kba_ints
    have := h
    unfold lastV at this
    rw [hq] at this
    exact this _ _ _ F.ext
  | some x =>
    have hne : W ≠ [] := fun e => by rw [e] at hq; cases hq
    have hpos := List.length_pos_iff.mpr hne
    have hv0 : ((vs.length : Int) == 0) = false := by rw [beq_eq_false_iff_ne]; omega
    rw [hv0]
    kba_ints
    obtain ⟨v, hv, t, rfl⟩ := hvs.get (i := W.length - 1) (b := x) (by rw [← hq, List.getLast?_eq_getElem?])
    with_reducible refine lLast (x := .bytes x.name t) (plSub hl F.sub) (by rw [List.getLast?_eq_getElem?, hlen]; exact hv) ?_
    have := h
    unfold lastV at this
    rw [hq] at this
    exact this _ _ _ F.ext
end

/-! C16 -/
section
variable {prog : Program} {w : World} {A : Around} {E : Value → Shared → Prop} {s : Shared} {tk : Nat} {d : Nat} {z : Heap} {ro rot pend qu : Addr} {op ser : Int} {W : List WR} {Q : Value → Shared → Prop}
noncomputable def addA (l : List Int) (f : Int) : List Int := if f ∈ l then l else l ++ [f]
theorem stored_tv {ks : List Int} {f : Int} : stored (tv ks) f (.bool true) = tv (addA ks f) := by
  unfold stored addA tv
  have ha : ((ks.map fun k => (k, Value.bool true)).any fun kv => decide (kv.1 = f)) = decide (f ∈ ks) := by
    rw [Bool.eq_iff_iff, List.any_eq_true, decide_eq_true_eq]
    constructor
    · rintro ⟨p, hp, e⟩
      obtain ⟨k, hk, rfl⟩ := List.mem_map.mp hp
      rw [← of_decide_eq_true e]; exact hk
    · intro h; exact ⟨_, List.mem_map.mpr ⟨f, h, rfl⟩, by simp⟩
  rw [ha]
  by_cases h : f ∈ ks
  · rw [if_pos (decide_eq_true h), if_pos h, List.map_map]
    refine List.map_congr_left fun k _ => ?_
    show (if k = f then (k, Value.bool true) else (k, Value.bool true)) = _
    split <;> rfl
  · rw [if_neg (by simpa using h), if_neg h, List.map_append]; rfl
theorem find_split {nm : Array UInt8} : ∀ {W : List WR} {x : WR}, (W.find? fun x => decide (x.name = nm)) = some x → ∃ W1 W2, W = W1 ++ x :: W2 ∧ x.name = nm
  | y :: W, x, h => by
    rw [List.find?_cons] at h
    by_cases c : y.name = nm
    · simp only [c, decide_true] at h
      injection h with h; subst h
      exact ⟨[], W, rfl, c⟩
    · simp only [c, decide_false] at h
      obtain ⟨W1, W2, e, n⟩ := find_split h
      exact ⟨y :: W1, W2, by rw [e]; rfl, n⟩
theorem find_none {nm : Array UInt8} {W : List WR} (h : (W.find? fun x => decide (x.name = nm)) = none) : nm ∉ nms W := fun m => by
  obtain ⟨x, hx, e⟩ := List.mem_map.mp m
  have := List.find?_eq_none.mp h x hx
  exact this (decide_eq_true e)
theorem roAck {f : Int} {tf : Tok} {nm : Array UInt8} {t : Tok} (hm : Bz w (W.map (·.k)) s) (hA : Lv d A) (hd : d < 600) (X : RO prog w z s.heap ro rot pend qu op ser W) (hsub : Sub z s.heap)
    (h1 : nm ∉ nms W → ∀ D s' tk', Ext [] s s' → s.heap.get? D = none → VA prog w s'.heap D [] → Q (.ref D) (St s' tk'))
    (h2 : ∀ W1 x W2, W = W1 ++ x :: W2 → x.name = nm → ∀ s' tk', Ext [x.k] s s' → VA prog w s'.heap x.k (addA x.acks f) → Q (.ref x.k) (St s' tk')) :
    wpAny (model prog w) A (call (.ref 128) [.ref ro, .int f tf, .bytes nm t]) Q E (St s tk) := by
  have hb := hm.base
  obtain ⟨t0, t1, I⟩ := X.inst hsub
  refine callF (st := stIn 15 2) (bs := [("self", .ref ro), ("frm", .int f tf), ("name", .bytes nm t)]) (ll := [("name", .bytes nm t), ("frm", .int f tf), ("self", .ref ro)]) (cl := []) hb hA (by omega) (by rfl) (by kernel_rfl) (by kernel_rfl) (by kernel_rfl) (by kernel_rfl) (by kernel_rfl) (fun s₁ tk₁ A₁ hA₁ O F => ?_)
  with_reducible refine exB (st := ?st) (rest := ?rest) ?e ?_
  case e => exact rfl
  have hz := Bz.of hb
  have hpen := dctSub X.pen (F.sub pend)
  kba_ints
  with_reducible refine dNotIn (knd := bytesKind prog w) (k := nm.toList) (kvs := pkv W) (bkey nm t) X.sys hpen fun _ => ?_
  rw [valueAt_pkv]
  cases hf : (W.find? fun x => decide (x.name = nm)) with
  | none =>
    rw [show (!(Option.map (fun x => Value.ref x.st) (none : Option WR)).isSome) = true from rfl]
    kba_ints
    with_reducible refine newD (knd := intKind prog w) (F.bz hz) fun D s₂ tk₂ e₂ hD hDs hdD => ?_
    exact h1 (find_none hf) D s₂ _ (F.ext.trans e₂) (none_of_ext F.ext (fun q => nomatch q) hD) ⟨hdD, hDs⟩
  | some x =>
    obtain ⟨W1, W2, hW, hnm⟩ := find_split hf
    have hxW : x ∈ W := by rw [hW]; simp
    have hva : valueAt (pkv W) nm.toList = some (.ref x.st) := by rw [valueAt_pkv, hf]; rfl
    rw [show (!(Option.map (fun x => Value.ref x.st) (some x)).isSome) = false from rfl]
    kba_ints
    with_reducible refine dItem (knd := bytesKind prog w) (k := nm.toList) (kvs := pkv W) (v := .ref x.st) (bkey nm t) hpen hva fun _ => ?_
    with_reducible refine stoL F O fun s₂ tk₂ e₂ F₂ => ?_
    have Fk := F₂.mono (N := W.map (·.k)) fun _ q => nomatch q
    obtain ⟨ds, m, tx, Ix, Mx⟩ := X.sts x hxW
    have Ix := (Ix.sub hsub).sub F₂.sub
    obtain ⟨va1, va2⟩ := (X.votes x hxW)
    kba_ints
    have hva1 := dctSub va1 (F₂.sub x.k)
    with_reducible refine dSet (knd := intKind prog w) (intKind_is _ _ _ _) hva1 (by have := X.al x hxW; rw [sizeLine_eq]; unfold tv; rw [List.length_map]; omega) fun s₃ tk₃ e₃ hd₃ => ?_
    rw [stored_tv] at hd₃
    have hkm : x.k ∈ W.map (·.k) := List.mem_map.mpr ⟨x, hxW, rfl⟩
    have hkO : OffOwn (fenv (stIn 15 2) "ReadOnly.ack" (.str "raftkeep.tracker" 268) (.ref 127) s.heap.objs.size 128) x.k := let ⟨_, _, _, q, _⟩ := va1; O.not q
    have F₃ := Fk.step e₃ fun b hb => (List.mem_singleton.mp hb) ▸ ⟨hkO, .inl hkm⟩
    have hkz := X.off x.k (by simp only [List.mem_cons]; exact .inr (.inr (.inr hkm)))
    have hz₃ : Sub z s₃.heap := (hsub.trans F₂.sub).ext e₃ (off1 hkz)
    obtain ⟨ds', m', tx', Ix', _⟩ := X.sts x hxW
    have Ix' := Ix'.sub hz₃
    have ex : Ext [x.k] s s₃ := F₂.ext.any.trans e₃
    clear Ix F F₂ Fk
    kba_ints
    exact h2 W1 x W2 hW hnm s₃ _ ex ⟨hd₃, va2⟩
theorem RO.acked {W1 W2 : List WR} {x : WR} {ks : List Int} {s' : Shared} (X : RO prog w z s.heap ro rot pend qu op ser (W1 ++ x :: W2)) (e : Ext [x.k] s s') (hv : VA prog w s'.heap x.k ks) (hk : ks.length < 64) :
    RO prog w z s'.heap ro rot pend qu op ser (W1 ++ { x with acks := ks } :: W2) := by
  have hap := X.apart
  rw [List.map_append, List.map_cons] at hap
  have hks : (W1 ++ { x with acks := ks } :: W2).map (·.k) = (W1 ++ x :: W2).map (·.k) := by rw [List.map_append, List.map_append, List.map_cons, List.map_cons]
  have hkm : x.k ∈ (W1 ++ x :: W2).map (·.k) := by rw [List.map_append, List.map_cons]; simp
  have n1 : rot ∉ [x.k] := notin1 fun q => by have := (List.nodup_cons.mp X.apart).1; rw [q] at this; exact this (by simp only [List.mem_cons]; exact .inr (.inr hkm))
  have n2 : pend ∉ [x.k] := notin1 fun q => by have := (List.nodup_cons.mp (List.nodup_cons.mp X.apart).2).1; rw [q] at this; exact this (by simp only [List.mem_cons]; exact .inr hkm)
  have n3 : qu ∉ [x.k] := notin1 fun q => by have := (List.nodup_cons.mp (List.nodup_cons.mp (List.nodup_cons.mp X.apart).2).2).1; rw [q] at this; exact this hkm
  have ndk := (List.nodup_cons.mp (List.nodup_cons.mp (List.nodup_cons.mp X.apart).2).2).2
  obtain ⟨t0, t1, T⟩ := X.tab
  obtain ⟨vs, hl, hvs⟩ := X.queue
  refine ⟨X.head, ⟨t0, t1, T.keep fun o q => e.keep rot o n1 q⟩, ⟨vs, plExt hl e n3, ?_⟩, ?_, X.sys, fun y hy => ?_, fun y hy => ?_, ?_, ?_, fun y hy => ?_, ?_, ?_⟩
  · have : ∀ {vs : List Value} {A B : List WR} {x y : WR}, x.name = y.name → P2 IsN vs (A ++ x :: B) → P2 IsN vs (A ++ y :: B) := by
      intro vs A B x y hn
      induction A generalizing vs with
      | nil => intro h; cases vs with
        | nil => exact h.elim
        | cons v vs => exact ⟨let ⟨t, q⟩ := h.1; ⟨t, by rw [← hn]; exact q⟩, h.2⟩
      | cons a A ih => intro h; cases vs with
        | nil => exact h.elim
        | cons v vs => exact ⟨h.1, ih h.2⟩
    exact this (x := x) (y := { x with acks := ks }) rfl hvs
  · have : pkv (W1 ++ { x with acks := ks } :: W2) = pkv (W1 ++ x :: W2) := by unfold pkv; rw [List.map_append, List.map_append, List.map_cons, List.map_cons]
    rw [this]
    exact dctSub X.pen fun o q => e.keep pend o n2 q
  · rcases List.mem_append.mp hy with h | h
    · exact X.sts y (List.mem_append.mpr (.inl h))
    · rcases List.mem_cons.mp h with rfl | h
      · exact X.sts x (by simp)
      · exact X.sts y (List.mem_append.mpr (.inr (List.mem_cons_of_mem _ h)))
  · have other : ∀ y, y ∈ W1 ++ x :: W2 → y.k ≠ x.k → VA prog w s'.heap y.k y.acks := fun y hy hn => let ⟨v1, v2⟩ := X.votes y hy; ⟨dctSub v1 fun o q => e.keep y.k o (notin1 hn) q, v2⟩
    rw [List.map_append, List.map_cons] at ndk
    have nd := List.nodup_append.mp ndk
    have nc := List.nodup_cons.mp nd.2.1
    rcases List.mem_append.mp hy with h | h
    · exact other y (List.mem_append.mpr (.inl h)) fun q => nd.2.2 y.k (List.mem_map.mpr ⟨y, h, rfl⟩) x.k List.mem_cons_self q
    · rcases List.mem_cons.mp h with rfl | h
      · exact hv
      · exact other y (List.mem_append.mpr (.inr (List.mem_cons_of_mem _ h))) fun q => nc.1 (q ▸ List.mem_map.mpr ⟨y, h, rfl⟩)
  · have := X.nd
    unfold nms at this ⊢
    rw [List.map_append, List.map_cons] at this ⊢
    exact this
  · have := X.len
    rw [List.length_append, List.length_cons] at this ⊢
    exact this
  · rcases List.mem_append.mp hy with h | h
    · exact X.al y (List.mem_append.mpr (.inl h))
    · rcases List.mem_cons.mp h with rfl | h
      · exact hk
      · exact X.al y (List.mem_append.mpr (.inr (List.mem_cons_of_mem _ h)))
  · rw [hks]; exact X.off
  · rw [hks]; exact X.apart
end

/-! C17 -/
section
variable {prog : Program} {w : World} {A : Around} {E : Value → Shared → Prop} {s : Shared} {tk : Nat} {d : Nat} {z : Heap} {ro rot pend qu : Addr} {op ser : Int} {W : List WR} {Q : Value → Shared → Prop}
theorem stored_pkv {x : WR} (h : x.name ∉ nms W) : stored (pkv W) x.name.toList (.ref x.st) = pkv (W ++ [x]) := by
  unfold stored
  have : ((pkv W).any fun kv => decide (kv.1 = x.name.toList)) = false := by
    rw [Bool.eq_false_iff]
    intro q
    obtain ⟨p, hp, e⟩ := List.any_eq_true.mp q
    obtain ⟨y, hy, rfl⟩ := List.mem_map.mp hp
    exact h (List.mem_map.mpr ⟨y, hy, Array.toList_inj.mp (of_decide_eq_true e)⟩)
  rw [this, if_neg Bool.false_ne_true]
  unfold pkv
  rw [List.map_append]; rfl
theorem roAdd {idx : Int} {ti : Tok} {m : Addr} (hm : Bz w [rot, pend, qu] s) (hA : Lv d A) (hd : d < 500) (X : RO prog w z s.heap ro rot pend qu op ser W) (hsub : Sub z s.heap) (h0 : 0 ≤ ser) (h1 : ser + 1 ≤ 4294967295) (hnew : b8 (ser + 1) ∉ nms W)
    (h : ∀ (st ds k : Addr) (t0 t1 t2 t3 t4 : Tok) (vs : List Value) (s' : Shared) (tk' : Nat), Ext [rot, pend, qu] s s' → s.heap.get? st = none → s.heap.get? ds = none → s.heap.get? k = none → st ≠ k → ds ≠ k → VA prog w s'.heap k [] →
      Inst s'.heap st 96 ds [("index", .int idx t0), ("message", .ref m), ("acks", .ref k)] → Fd s'.heap rot [("option", .int op t1), ("serial", .int (ser + 1) t2), ("pending", .ref pend), ("queue", .ref qu)] →
      P2 IsN vs W → s'.heap.PlainList qu (vs ++ [Value.bytes (b8 (ser + 1)) t3]).toArray → s'.heap.DictOf (bytesKind prog w) pend (pkv W ++ [((b8 (ser + 1)).toList, .ref st)]) → Q (.bytes (b8 (ser + 1)) t4) (St s' tk')) :
    wpAny (model prog w) A (call (.ref 121) [.ref ro, .int idx ti, .ref m]) Q E (St s tk) := by
  have hb := hm.base
  obtain ⟨t0, t1, I⟩ := X.inst hsub
  obtain ⟨vs, hl, hvs⟩ := X.queue
  have hlen := hvs.len
  have hW := X.len
  have hpen := X.pen
  have n1 : rot ≠ pend := fun q => (List.nodup_cons.mp X.apart).1 (by rw [q]; simp)
  have n2 : rot ≠ qu := fun q => (List.nodup_cons.mp X.apart).1 (by rw [q]; simp)
  have n3 : pend ≠ qu := fun q => (List.nodup_cons.mp (List.nodup_cons.mp X.apart).2).1 (by rw [q]; simp)
  have nrp : ro ≠ pend := fun r => by have := X.off pend (by simp); rw [← r, X.head] at this; cases this
  refine callF (st := stIn 15 1) (bs := [("self", .ref ro), ("index", .int idx ti), ("message", .ref m)]) (ll := [("message", .ref m), ("index", .int idx ti), ("self", .ref ro)]) (cl := []) hb hA (by omega) (by rfl) (by kernel_rfl) (by kernel_rfl) (by kernel_rfl) (by kernel_rfl) (by kernel_rfl) (fun s₁ tk₁ A₁ hA₁ O F => ?_)
  with_reducible refine exB (st := ?st) (rest := ?rest) ?e ?_
  case e => exact rfl
  have oro := O.not (hsub _ _ X.head)
  have o1 := let ⟨_, q⟩ := I.has; O.not q
  have o2 := let ⟨_, _, _, q, _⟩ := hpen; O.not q
  have o3 := let ⟨_, q⟩ := hl; O.not q
  have F0 := F
  have F := F.mono (N := [rot, pend, qu]) fun _ q => nomatch q
  have I := I.sub F0.sub
  have hl := plSub hl F0.sub
  have hpen := dctSub hpen (F0.sub pend)
  have m1 : Offs [rot, pend, qu] s rot := .inl (by simp)
  have m2 : Offs [rot, pend, qu] s pend := .inl (by simp)
  have m3 : Offs [rot, pend, qu] s qu := .inl (by simp)
  have hex : ∀ b ∈ [rot, pend, qu], ∃ o, s.heap.get? b = some o := by
    intro b hb'
    simp only [List.mem_cons, List.not_mem_nil, or_false] at hb'
    rcases hb' with rfl | rfl | rfl
    · exact (‹Inst s.heap ro 152 _ _›).has
    · obtain ⟨o, _, _, q, _⟩ := X.pen; exact ⟨o, q⟩
    · obtain ⟨_, q⟩ := ‹s.heap.PlainList _ vs.toArray›; exact ⟨_, q⟩
  clear F0
  kba_ints
  with_reducible refine setF F hm I (by kat_tups) o1 m1 fun s₂ tk₂ e₂ F₂ I₂ => ?_
  have hl := plExt hl e₂ (notin1 (Ne.symm n2))
  have hpen := dctSub hpen fun o q => e₂.keep pend o (notin1 (Ne.symm n1)) q
  clear I F
  kba_ints
  refine put64 (F₂.bz hm) hA₁ (by omega) (by omega) h1 fun s₃ tk₃ t₃ e₃ => ?_
  have F₃ := F₂.step0 e₃
  with_reducible refine stoL F₃ O fun s₄ tk₄ e₄ F₄ => ?_
  have I₄ := (I₂.sub e₃.sub).keep (fun o q => e₄.keep ro o (notin1 oro.1) q) (fun o q => e₄.keep rot o (notin1 o1.1) q)
  have hl₄ := plExt (plSub hl e₃.sub) e₄ (notin1 o3.1)
  have hpen₄ := dctSub (dctSub hpen (e₃.sub pend)) fun o q => e₄.keep pend o (notin1 o2.1) q
  clear I₂ hl hpen F₂ F₃ e₂ e₃ e₄
  kba_ints
  refine mkStatus (F₄.bz hm) hA₁ (by omega) fun st ds k s₅ tk₅ e₅ hst hds hk hdk hks nk1 nk2 Is => ?_
  have F₅ := F₄.step0 e₅
  have I₅ := I₄.sub e₅.sub
  have hl₅ := plSub hl₄ e₅.sub
  have hpen₅ := dctSub hpen₄ (e₅.sub pend)
  have old : ∀ a o, s.heap.get? a = some o → ∃ o', s₄.heap.get? a = some o' := fun a o q => by
    by_cases c : a ∈ [rot, pend, qu]
    · simp only [List.mem_cons, List.not_mem_nil, or_false] at c
      rcases c with rfl | rfl | rfl
      · exact I₄.has
      · obtain ⟨o, _, _, q, _⟩ := hpen₄; exact ⟨o, q⟩
      · obtain ⟨_, q⟩ := hl₄; exact ⟨_, q⟩
    · exact ⟨o, F₄.ext.keep a o c q⟩
  have fresh : ∀ a, s₄.heap.get? a = none → s.heap.get? a = none := fun a q => by
    cases c : s.heap.get? a with
    | none => rfl
    | some o => obtain ⟨o', e⟩ := old a o c; rw [q] at e; cases e
  have nin : ∀ a, s₄.heap.get? a = none → a ≠ rot ∧ a ≠ pend ∧ a ≠ qu := fun a q => by
    refine ⟨fun r => ?_, fun r => ?_, fun r => ?_⟩
    · obtain ⟨o, e⟩ := I₄.has; rw [r, e] at q; cases q
    · obtain ⟨o, _, _, e, _⟩ := hpen₄; rw [r, e] at q; cases q
    · obtain ⟨_, e⟩ := hl₄; rw [r, e] at q; cases q
  clear I₄ hl₄ hpen₄ F₄
  kba_ints
  with_reducible refine dSet (knd := bytesKind prog w) (k := (b8 (ser + 1)).toList) (bkey _ _) hpen₅ (by rw [sizeLine_eq]; unfold pkv; rw [List.length_map]; omega) fun s₆ tk₆ e₆ hpen₆ => ?_
  have F₆ := F₅.step1 e₆ o2 m2
  have I₆ := I₅.keep (fun o q => e₆.keep ro o (notin1 nrp) q) (fun o q => e₆.keep rot o (notin1 n1) q)
  have hl₆ := plExt hl₅ e₆ (notin1 (Ne.symm n3))
  have Is₆ := Is.keep (fun o q => e₆.keep st o (notin1 (nin st hst).2.1) q) (fun o q => e₆.keep ds o (notin1 (nin ds hds).2.1) q)
  have hdk₆ := dctSub hdk fun o q => e₆.keep k o (notin1 (nin k hk).2.1) q
  clear F₅ I₅ hl₅ hpen₅ Is hdk
  kba_ints
  with_reducible refine mAppend hl₆ ?_
  kba_ints
  with_reducible refine lAppend hl₆ (by rw [sizeLine_eq]; omega) fun s₇ tk₇ e₇ hl₇ => ?_
  have F₇ := F₆.step1 e₇ o3 m3
  have T₇ := I₆.tab.keep fun o q => e₇.keep rot o (notin1 n2) q
  have hpen₇ := dctSub hpen₆ fun o q => e₇.keep pend o (notin1 n3) q
  have Is₇ := Is₆.keep (fun o q => e₇.keep st o (notin1 (nin st hst).2.2) q) (fun o q => e₇.keep ds o (notin1 (nin ds hds).2.2) q)
  have hdk₇ := dctSub hdk₆ fun o q => e₇.keep k o (notin1 (nin k hk).2.2) q
  clear F₆
  kba_ints
  rw [show stored (pkv W) (b8 (ser + 1)).toList (.ref st) = pkv W ++ [((b8 (ser + 1)).toList, .ref st)] from stored_pkv (x := ⟨b8 (ser + 1), ⟨0, 0, #[], false⟩, [], st, k⟩) hnew |>.trans (by unfold pkv; rw [List.map_append]; rfl)] at hpen₇
  exact h st ds k _ _ _ _ _ vs s₇ _ F₇.ext (fresh st hst) (fresh ds hds) (fresh k hk) nk1 nk2 ⟨hdk₇, hks⟩ Is₇ T₇ hvs hl₇ hpen₇
end

/-! C18 -/
section
variable {prog : Program} {w : World} {A : Around} {E : Value → Shared → Prop} {s : Shared} {tk : Nat} {d : Nat} {z : Heap} {ro rot pend qu : Addr} {op ser : Int} {W : List WR} {Q : Value → Shared → Prop}
theorem RO.added {z' h h' : Heap} {ser' : Int} {x : WR} {vs : List Value} {t1 t2 t3 : Tok} (X : RO prog w z h ro rot pend qu op ser W) (hz : Sub z z') (T : Fd h' rot [("option", .int op t1), ("serial", .int ser' t2), ("pending", .ref pend), ("queue", .ref qu)])
    (hvs : P2 IsN vs W) (hl : h'.PlainList qu (vs ++ [Value.bytes x.name t3]).toArray) (hp : h'.DictOf (bytesKind prog w) pend (pkv W ++ [(x.name.toList, .ref x.st)])) (hx : StAt z' x) (hv : VA prog w h' x.k x.acks) (hvo : ∀ y ∈ W, VA prog w h' y.k y.acks)
    (hn : x.name ∉ nms W) (hlen : W.length + 1 < 64) (hal : x.acks.length < 64) (off : ∀ a ∈ rot :: pend :: qu :: x.k :: W.map (·.k), z'.get? a = none) (hk : x.k ∉ rot :: pend :: qu :: W.map (·.k)) : RO prog w z' h' ro rot pend qu op ser' (W ++ [x]) := by
  have hmk : (W ++ [x]).map (·.k) = W.map (·.k) ++ [x.k] := by rw [List.map_append]; rfl
  refine ⟨hz _ _ X.head, ⟨t1, t2, T⟩, ⟨_, hl, hvs.snoc ⟨t3, rfl⟩⟩, ?_, X.sys, fun y hy => ?_, fun y hy => ?_, ?_, ?_, fun y hy => ?_, ?_, ?_⟩
  · rw [show pkv (W ++ [x]) = pkv W ++ [(x.name.toList, .ref x.st)] by unfold pkv; rw [List.map_append]; rfl]; exact hp
  · rcases List.mem_append.mp hy with h | h
    · exact (X.sts y h).sub hz
    · rw [List.mem_singleton.mp h]; exact hx
  · rcases List.mem_append.mp hy with h | h
    · exact hvo y h
    · rw [List.mem_singleton.mp h]; exact hv
  · unfold nms at hn ⊢
    rw [List.map_append]
    refine List.nodup_append.mpr ⟨X.nd, List.nodup_cons.mpr ⟨by simp, List.nodup_nil⟩, fun a ha b hb e => ?_⟩
    rw [show b = x.name by simpa using hb] at e
    exact hn (e ▸ ha)
  · rw [List.length_append]; exact hlen
  · rcases List.mem_append.mp hy with h | h
    · exact X.al y h
    · rw [List.mem_singleton.mp h]; exact hal
  · rw [hmk]
    intro a ha
    refine off a ?_
    simp only [List.mem_cons, List.mem_append, List.not_mem_nil, or_false] at ha ⊢
    rcases ha with h | h | h | h | h
    · exact .inl h
    · exact .inr (.inl h)
    · exact .inr (.inr (.inl h))
    · exact .inr (.inr (.inr (.inr h)))
    · exact .inr (.inr (.inr (.inl h)))
  · rw [hmk, show rot :: pend :: qu :: (W.map (·.k) ++ [x.k]) = (rot :: pend :: qu :: W.map (·.k)) ++ [x.k] from rfl]
    refine List.nodup_append.mpr ⟨X.apart, List.nodup_cons.mpr ⟨by simp, List.nodup_nil⟩, fun a ha b hb e => ?_⟩
    rw [show b = x.k by simpa using hb] at e
    exact hk (e ▸ ha)
/-- what is let go: a pair (index, message) -/
noncomputable def LetAt (z h : Heap) (v : Value) (x : WR) : Prop := ∃ T m t, v = .ref T ∧ h.IsTuple T #[.int x.req.idx t, .ref m] ∧ MsgAt z m x.req.frm x.req.dat x.req.var
theorem LetAt.up {z h h' : Heap} (hu : ∀ a vs, h.IsTuple a vs → h'.IsTuple a vs) {v : Value} {x : WR} (l : LetAt z h v x) : LetAt z h' v x := let ⟨T, m, t, e, ht, M⟩ := l; ⟨T, m, t, e, hu _ _ ht, M⟩
theorem without_pkv {x : WR} (h : x.name ∉ nms W) : without (pkv (x :: W)) x.name.toList = pkv W := by
  have e : pkv (x :: W) = (x.name.toList, .ref x.st) :: pkv W := rfl
  rw [e]
  have : without ((x.name.toList, Value.ref x.st) :: pkv W) x.name.toList = without (pkv W) x.name.toList := by
    unfold without
    rw [List.filter_cons, if_neg (by simp)]
  rw [this]
  refine without_of_not_mem _ _ fun q => h ?_
  obtain ⟨p, hp, e⟩ := List.mem_map.mp q
  obtain ⟨y, hy, rfl⟩ := List.mem_map.mp hp
  exact List.mem_map.mpr ⟨y, hy, Array.toList_inj.mp e⟩
theorem roAdvance {nm : Array UInt8} {t : Tok} (hm : Bz w [rot, pend] s) (hA : Lv d A) (hd : d < 600) (X : RO prog w z s.heap ro rot pend qu op ser W) (hsub : Sub z s.heap)
    (h1 : nm ∉ nms W → ∀ D s' tk', Ext [] s s' → s.heap.get? D = none → s'.heap.PlainList D ([] : List Value).toArray → Q (.ref D) (St s' tk'))
    (h2 : ∀ W1 x W2, W = W1 ++ x :: W2 → x.name = nm → ∀ (D q' : Addr) (us vs' : List Value) (t0 t1 : Tok) (s' : Shared) (tk' : Nat), Ext [rot, pend] s s' → s.heap.get? D = none → s.heap.get? q' = none → D ≠ q' → s'.heap.PlainList D us.toArray → P2 (LetAt z s'.heap) us (W1 ++ [x]) →
      Fd s'.heap rot [("option", .int op t0), ("serial", .int ser t1), ("pending", .ref pend), ("queue", .ref q')] → s'.heap.DictOf (bytesKind prog w) pend (pkv W2) → s'.heap.PlainList q' vs'.toArray → P2 IsN vs' W2 → Q (.ref D) (St s' tk')) :
    wpAny (model prog w) A (call (.ref 135) [.ref ro, .bytes nm t]) Q E (St s tk) := by
  have hb := hm.base
  obtain ⟨t0, t1, I⟩ := X.inst hsub
  obtain ⟨vs, hl, hvs⟩ := X.queue
  have hlen := hvs.len
  have hW := X.len
  have n1 : rot ≠ pend := fun q => (List.nodup_cons.mp X.apart).1 (by rw [q]; simp)
  have n2 : rot ≠ qu := fun q => (List.nodup_cons.mp X.apart).1 (by rw [q]; simp)
  have n3 : pend ≠ qu := fun q => (List.nodup_cons.mp (List.nodup_cons.mp X.apart).2).1 (by rw [q]; simp)
  have nrp : ro ≠ pend := fun r => by have := X.off pend (by simp); rw [← r, X.head] at this; cases this
  refine callF (st := stIn 15 3) (bs := [("self", .ref ro), ("name", .bytes nm t)]) (ll := [("name", .bytes nm t), ("self", .ref ro)]) (cl := []) hb hA (by omega) (by rfl) (by kernel_rfl) (by kernel_rfl) (by kernel_rfl) (by kernel_rfl) (by kernel_rfl) (fun s₁ tk₁ A₁ hA₁ O F => ?_)
  with_reducible refine exB (st := ?st) (rest := ?rest) ?e ?_
  case e => exact rfl
  have hz := Bz.of hb
  have hpen := dctSub X.pen (F.sub pend)
  kba_ints
  with_reducible refine dNotIn (knd := bytesKind prog w) (k := nm.toList) (kvs := pkv W) (bkey nm t) X.sys hpen fun _ => ?_
  rw [valueAt_pkv]
  cases hf : (W.find? fun x => decide (x.name = nm)) with
  | none =>
    rw [show (!(Option.map (fun x => Value.ref x.st) (none : Option WR)).isSome) = true from rfl]
    kba_ints
    with_reducible refine newL (le_line rfl) fun D s₂ tk₂ e₂ hD hl₂ => ?_
    exact h1 (find_none hf) D s₂ _ (F.ext.trans e₂) (none_of_ext F.ext (fun q => nomatch q) hD) hl₂
  | some x =>
    obtain ⟨W1, W2, hW', hnm⟩ := find_split hf
    rw [show (!(Option.map (fun x => Value.ref x.st) (some x)).isSome) = false from rfl]
    have h2 := h2 W1 x W2 hW' hnm
    have oro := O.not (hsub _ _ X.head)
    have o1 := let ⟨_, q⟩ := I.has; O.not q
    have o2 := let ⟨_, _, _, q, _⟩ := X.pen; O.not q
    have o3 := let ⟨_, q⟩ := hl; O.not q
    have m1 : Offs [rot, pend] s rot := .inl (by simp)
    have m2 : Offs [rot, pend] s pend := .inl (by simp)
    kba_ints
    with_reducible refine newL (le_line rfl) fun o s₂ tk₂ e₂ ho ho₂ => ?_
    have hO := F.new ho
    have ho₀ : s.heap.get? o = none := none_of_ext F.ext (fun q => nomatch q) ho
    have hoM : Offs [rot, pend] s o := .inr ho₀
    have F₂ := F.step0 e₂
    with_reducible refine stoL F₂ O fun s₃ tk₃ e₃ F₃ => ?_
    have ho₃ := plExt ho₂ e₃ (notin1 hO.1)
    kba_ints
    with_reducible refine stoL F₃ O fun s₄ tk₄ e₄ F₄ => ?_
    have ho₄ := plExt ho₃ e₄ (notin1 hO.1)
    kba_ints
    with_reducible refine stoL F₄ O fun s₅ tk₅ e₅ F₅ => ?_
    have ho₅ := plExt ho₄ e₅ (notin1 hO.1)
    have Fk := F₅.mono (N := [rot, pend]) fun _ q => nomatch q
    have I₅ := I.sub F₅.sub
    have hl₅ := plSub hl F₅.sub
    have hpen₅ := dctSub X.pen (F₅.sub pend)
    kba_ints
    have nor : o ≠ rot := let ⟨_, q⟩ := I.has; ne_ns ho₀ q
    have nop : o ≠ pend := let ⟨_, _, _, q, _⟩ := X.pen; ne_ns ho₀ q
    have noq : o ≠ qu := let ⟨_, q⟩ := hl; ne_ns ho₀ q
    have nro : o ≠ ro := ne_ns ho₀ (hsub _ _ X.head)
    have zrot := X.off rot (by simp)
    have zpend := X.off pend (by simp)
    have zo : z.get? o = none := by
      cases q : z.get? o with
      | none => rfl
      | some ob => rw [hsub _ _ q] at ho₀; cases ho₀
    have hlW : W.length = W1.length + 1 + W2.length := by rw [hW', List.length_append, List.length_cons]; omega
    have hW2 : W = (W1 ++ [x]) ++ W2 := by rw [hW', List.append_assoc]; rfl
    have hdrop : W.drop (W1.length + 1) = W2 := by rw [hW2]; exact List.drop_left' (by simp)
    have htake : W.take (W1.length + 1) = W1 ++ [x] := by rw [hW2]; exact List.take_left' (by simp)
    with_reducible refine sWhile (fun n s' => ∃ i b t', i ≤ W1.length + 1 ∧ n = W1.length + 1 - i ∧ b = decide (i = W1.length + 1) ∧ Fm [rot, pend] s (fenv (stIn 15 3) "ReadOnly.advance" (.str "raftkeep.tracker" 268) (.ref 134) s.heap.objs.size 135) [("found", .bool b), ("taken", .int (i : Nat) t'), ("out", .ref o), ("name", .bytes nm t), ("self", .ref ro)] [] s' ∧
      Inst s'.heap ro 152 rot [("option", .int op t0), ("serial", .int ser t1), ("pending", .ref pend), ("queue", .ref qu)] ∧ s'.heap.PlainList qu vs.toArray ∧ s'.heap.DictOf (bytesKind prog w) pend (pkv (W.drop i)) ∧ (∃ us : List Value, s'.heap.PlainList o us.toArray ∧ P2 (LetAt z s'.heap) us (W.take i)) ∧ Sub z s'.heap) (W1.length + 1) ?_ ?_
    · exact ⟨0, false, _, Nat.zero_le _, rfl, rfl, Fk, I₅, hl₅, hpen₅, ⟨[], ho₅, trivial⟩, hsub.trans F₅.sub⟩
    · rintro n s₆ tk₆ ⟨i, b, t', hi, hn, hbd, F₆, I₆, hl₆, hpen₆, ⟨us, ho₆, hus⟩, hz₆⟩
      by_cases hend : i = W1.length + 1
      · rw [hbd, decide_eq_true hend] at F₆
        rw [hend] at hpen₆ hus F₆
        rw [hdrop] at hpen₆
        rw [htake] at hus
        kba_ints
        with_reducible refine slFrom ?_
        kba_ints
        intro sl s₇ tk₇ e₇ hsl₀ hsl
        have F₇ := F₆.step0 (s' := s₇) e₇.st
        with_reducible refine lFrom (k := W1.length + 1) (vs := vs) (plSub hl₆ e₇.st.sub) (by rw [sizeLine_eq]; omega) hsl fun q' s₈ tk₈ e₈ hq' hl₈ => ?_
        have F₈ := F₇.step0 e₈
        have I₈ := (I₆.sub e₇.st.sub).sub e₈.sub
        kba_ints
        with_reducible refine setF F₈ hm I₈ (by kat_tups) o1 m1 fun s₉ tk₉ e₉ F₉ I₉ => ?_
        kba_ints
        have I₇ := I₆.sub e₇.st.sub
        have hpen₇ := dctSub hpen₆ (e₇.st.sub pend)
        have hq'r : q' ≠ rot := let ⟨_, q⟩ := I₇.has; ne_ns hq' q
        have hq'p : q' ≠ pend := let ⟨_, _, _, q, _⟩ := hpen₇; ne_ns hq' q
        have hu : ∀ a vs, s₆.heap.IsTuple a vs → s₉.heap.IsTuple a vs := fun a vs q => e₉.tups (NoT.fd I₈.tab).one a vs (e₈.tups (fun _ h => nomatch h) a vs (e₇.st.tups (fun _ h => nomatch h) a vs q))
        refine h2 o q' us (vs.drop (W1.length + 1)) t0 t1 s₉ _ F₉.ext ho₀ (none_of_ext F₇.ext (fun m => ?_) hq') (let ⟨_, q⟩ := plSub ho₆ e₇.st.sub; Ne.symm (ne_ns hq' q)) (plExt (plSub (plSub ho₆ e₇.st.sub) e₈.sub) e₉ (notin1 nor)) (hus.mono fun _ _ q => q.up hu) I₉.tab
          (dctSub (dctSub hpen₇ (e₈.sub pend)) fun o q => e₉.keep pend o (notin1 (Ne.symm n1)) q) (plExt hl₈ e₉ (notin1 hq'r)) ?_
        · simp only [List.mem_cons, List.not_mem_nil, or_false] at m
          exact m.elim hq'r hq'p
        · rw [← hdrop]; exact hvs.drop _
      · rw [hbd, decide_eq_false hend] at F₆
        have hiW : i < W.length := by omega
        obtain ⟨y, hy⟩ : ∃ y, W[i]? = some y := ⟨_, List.getElem?_eq_getElem hiW⟩
        obtain ⟨v, hv, ty, rfl⟩ := hvs.get hy
        have hdr : W.drop i = y :: W.drop (i + 1) := by
          rw [List.drop_eq_getElem_cons hiW]
          rw [List.getElem?_eq_getElem hiW] at hy
          injection hy with hy
          rw [hy]
        kba_ints
        with_reducible refine lItem (x := .bytes y.name ty) hl₆ (by omega) (by rw [Int.toNat_natCast]; exact hv) (by omega) ?_
        with_reducible refine stoL F₆ O fun s₇ tk₇ e₇ F₇ => ?_
        have I₇ := I₆.keep (fun o q => e₇.keep ro o (notin1 oro.1) q) (fun o q => e₇.keep rot o (notin1 o1.1) q)
        have hl₇ := plExt hl₆ e₇ (notin1 o3.1)
        have hpen₇ := dctSub hpen₆ fun o q => e₇.keep pend o (notin1 o2.1) q
        have ho₇ := plExt ho₆ e₇ (notin1 hO.1)
        have hus₇ := hus.mono fun _ _ q => q.up (e₇.tups F₆.noT)
        kba_ints
        rw [show (i : Int) + 1 = ((i + 1 : Nat) : Int) by omega]
        with_reducible refine stoL F₇ O fun s₈ tk₈ e₈ F₈ => ?_
        have I₈ := I₇.keep (fun o q => e₈.keep ro o (notin1 oro.1) q) (fun o q => e₈.keep rot o (notin1 o1.1) q)
        have hl₈ := plExt hl₇ e₈ (notin1 o3.1)
        have hpen₈ := dctSub hpen₇ fun o q => e₈.keep pend o (notin1 o2.1) q
        have ho₈ := plExt ho₇ e₈ (notin1 hO.1)
        have hus₈ := hus₇.mono fun _ _ q => q.up (e₈.tups F₇.noT)
        clear I₆ I₇ hl₆ hl₇ hpen₆ hpen₇ ho₆ ho₇ hus hus₇
        kba_ints
        rw [hdr] at hpen₈
        have hyn : y.name ∉ nms (W.drop (i + 1)) := by
          have := X.nd
          rw [show W = W.take i ++ y :: W.drop (i + 1) by rw [← hdr, List.take_append_drop]] at this
          unfold nms at this
          rw [List.map_append, List.map_cons] at this
          exact (List.nodup_cons.mp (List.nodup_append.mp this).2.1).1
        with_reducible refine mPop hpen₈ ?_
        kba_ints
        have hvy : valueAt (pkv (y :: W.drop (i + 1))) y.name.toList = some (.ref y.st) := by rw [valueAt_pkv, List.find?_cons, decide_eq_true rfl]; rfl
        with_reducible refine dPop (knd := bytesKind prog w) (k := y.name.toList) (v := .ref y.st) (bkey _ _) rfl hpen₈ (by rw [sizeLine_eq]; unfold pkv; rw [List.length_map, List.length_cons, List.length_drop]; omega) hvy fun s₉ tk₉ e₉ hpen₉ => ?_
        rw [without_pkv hyn] at hpen₉
        have F₉ := F₈.step1 e₉ o2 m2
        have I₉ := I₈.keep (fun o q => e₉.keep ro o (notin1 nrp) q) (fun o q => e₉.keep rot o (notin1 n1) q)
        have hl₉ := plExt hl₈ e₉ (notin1 (Ne.symm n3))
        have ho₉ := plExt ho₈ e₉ (notin1 nop)
        have hus₉ := hus₈.mono fun _ _ q => q.up (e₉.tups (NoT.dict hpen₈).one)
        have zloc : z.get? (fenv (stIn 15 3) "ReadOnly.advance" (.str "raftkeep.tracker" 268) (.ref 134) s.heap.objs.size 135).locals = none := by
          cases q : z.get? (fenv (stIn 15 3) "ReadOnly.advance" (.str "raftkeep.tracker" 268) (.ref 134) s.heap.objs.size 135).locals with
          | none => rfl
          | some ob => have := hsub _ _ q; rw [O.loc] at this; cases this
        have hz₉ := ((hz₆.ext e₇ (off1 zloc)).ext e₈ (off1 zloc)).ext e₉ (off1 zpend)
        with_reducible refine stoL F₉ O fun s₁₀ tk₁₀ e₁₀ F₁₀ => ?_
        have I₁₀ := I₉.keep (fun o q => e₁₀.keep ro o (notin1 oro.1) q) (fun o q => e₁₀.keep rot o (notin1 o1.1) q)
        have hl₁₀ := plExt hl₉ e₁₀ (notin1 o3.1)
        have hpen₁₀ := dctSub hpen₉ fun o q => e₁₀.keep pend o (notin1 o2.1) q
        have ho₁₀ := plExt ho₉ e₁₀ (notin1 hO.1)
        have hus₁₀ := hus₉.mono fun _ _ q => q.up (e₁₀.tups F₉.noT)
        have hz₁₀ := hz₉.ext e₁₀ (off1 zloc)
        clear I₈ I₉ hl₈ hl₉ hpen₈ hpen₉ ho₈ ho₉ hus₈ hus₉ F₆ F₇ F₈ F₉
        have hyW : y ∈ W := List.mem_of_getElem? hy
        obtain ⟨ds, m, tx, Iy, My⟩ := X.sts y hyW
        have Iy₁₀ := Iy.sub hz₁₀
        kba_ints
        with_reducible refine mAppend ho₁₀ ?_
        kba_ints
        with_reducible refine newT (le_line rfl) fun T s₁₁ tk₁₁ e₁₁ hT hoT => ?_
        have F₁₁ := F₁₀.step0 e₁₁
        have ho₁₁ := plSub ho₁₀ e₁₁.sub
        have hulen : us.length ≤ 64 := by have := hus₁₀.len; rw [List.length_take] at this; omega
        kba_ints
        with_reducible refine lAppend ho₁₁ (by rw [sizeLine_eq]; omega) fun s₁₂ tk₁₂ e₁₂ ho₁₂ => ?_
        have F₁₂ := F₁₁.step1 e₁₂ hO hoM
        kba_ints
        with_reducible refine yEq ?_
        with_reducible refine stoL F₁₂ O fun s₁₃ tk₁₃ e₁₃ F₁₃ => ?_
        kba_ints
        have nTo : T ≠ o := let ⟨_, q⟩ := ho₁₀; ne_ns hT q
        have I₁₃ := (((I₁₀.sub e₁₁.sub).keep (fun o' q => e₁₂.keep ro o' (notin1 (Ne.symm nro)) q) (fun o' q => e₁₂.keep rot o' (notin1 (Ne.symm nor)) q))).keep (fun o q => e₁₃.keep ro o (notin1 oro.1) q) (fun o q => e₁₃.keep rot o (notin1 o1.1) q)
        have hl₁₃ := plExt (plExt (plSub hl₁₀ e₁₁.sub) e₁₂ (notin1 (Ne.symm noq))) e₁₃ (notin1 o3.1)
        have hpen₁₃ := dctSub (dctSub (dctSub hpen₁₀ (e₁₁.sub pend)) fun o' q => e₁₂.keep pend o' (notin1 (Ne.symm nop)) q) fun o q => e₁₃.keep pend o (notin1 o2.1) q
        have ho₁₃ := plExt ho₁₂ e₁₃ (notin1 hO.1)
        have hz₁₃ := ((hz₁₀.trans e₁₁.sub).ext e₁₂ (off1 zo)).ext e₁₃ (off1 zloc)
        have hu : ∀ a vs, s₁₁.heap.IsTuple a vs → s₁₃.heap.IsTuple a vs := fun a vs q => e₁₃.tups F₁₂.noT a vs (e₁₂.tups (NoT.list ho₁₁).one a vs q)
        have hus₁₃ := hus₁₀.mono fun _ _ q => (q.up (e₁₁.tups fun _ h => nomatch h)).up hu
        have hlast : LetAt z s₁₃.heap (.ref T) y := ⟨T, m, _, rfl, hu _ _ ⟨_, hoT, rfl, 0, rfl⟩, My⟩
        have hxi : W[W1.length]? = some x := by rw [hW']; simp
        have hb' : (y.name.toList == nm.toList) = decide (i + 1 = W1.length + 1) := by
          rw [Bool.eq_iff_iff, beq_iff_eq, decide_eq_true_eq, Array.toList_inj]
          constructor
          · intro e
            have hnd := X.nd
            have e1 : (nms W)[i]? = some nm := by unfold nms; rw [List.getElem?_map, hy, ← e]; rfl
            have e2 : (nms W)[W1.length]? = some nm := by unfold nms; rw [List.getElem?_map, hxi, ← hnm]; rfl
            have := (List.getElem?_inj (by unfold nms; rw [List.length_map]; omega) hnd).mp (e1.trans e2.symm)
            omega
          · intro e
            have : i = W1.length := by omega
            rw [this, hxi] at hy
            injection hy with hy
            rw [← hy, hnm]
        refine ⟨W1.length + 1 - (i + 1), s₁₃, _, by omega, rfl, i + 1, _, _, by omega, rfl, hb', F₁₃.to ⟨by lsm_bools, by lsm_bools, by lsm_bools, by lsm_bools, by lsm_bools, trivial⟩, I₁₃, hl₁₃, hpen₁₃, ⟨us ++ [.ref T], ho₁₃, ?_⟩, hz₁₃⟩
        rw [take_snoc hy]
        exact hus₁₃.snoc hlast
end

/-! C19 -/
section
variable {prog : Program} {w : World} {A : Around} {E : Value → Shared → Prop} {s : Shared} {tk : Nat} {d : Nat} {z : Heap} {ro rot pend qu : Addr} {op ser : Int} {W : List WR} {Q : Value → Shared → Prop}
noncomputable def rowP (x : WR) : PV := .tup [.bytes x.name, .int x.req.idx, .bytes x.req.dat, .tup ((sortV x.acks).map .int)]
noncomputable def roPV (op ser : Int) (W : List WR) : PV := .tup [.int op, .int ser, .tup (W.map rowP)]
theorem ints_is {z : Heap} {n : Nat} : ∀ {vs : List Value} {ns : List Int}, P2 IsI vs ns → P2 (Is z n) vs (ns.map .int)
  | [], [], _ => trivial
  | _ :: _, _ :: _, ⟨⟨t, e⟩, h⟩ => ⟨by rw [e]; exact isInt, ints_is h⟩
theorem tv_fst (ks : List Int) : (tv ks).map (·.1) = ks := by
  unfold tv; rw [List.map_map]; exact List.map_id' _
theorem find_mem : ∀ {W : List WR} {y : WR}, (nms W).Nodup → y ∈ W → (W.find? fun x => decide (x.name = y.name)) = some y
  | x :: W, y, hn, hy => by
    rw [List.find?_cons]
    rcases List.mem_cons.mp hy with rfl | h
    · rw [decide_eq_true rfl]
    · have hc := List.nodup_cons.mp (show (x.name :: nms W).Nodup from hn)
      have : ¬ x.name = y.name := fun e => hc.1 (e ▸ List.mem_map.mpr ⟨y, h, rfl⟩)
      rw [decide_eq_false this]
      exact find_mem hc.2 h
theorem roRow (hb : Base w s.heap) (hA : Lv d A) (hd : d < 500) (X : RO prog w z s.heap ro rot pend qu op ser W) (hsub : Sub z s.heap)
    (h : ∀ v s' tk', Ext [] s s' → Is s'.heap 4 v (roPV op ser W) → Q v (St s' tk')) :
    wpAny (model prog w) A (call (.ref 149) [.ref ro]) Q E (St s tk) := by
  obtain ⟨t0, t1, I⟩ := X.inst hsub
  obtain ⟨vs, hl, hvs⟩ := X.queue
  have hlen := hvs.len
  have hW := X.len
  refine callF (st := stIn 15 5) (bs := [("self", .ref ro)]) (ll := [("self", .ref ro)]) (cl := []) hb hA (by omega) (by rfl) (by kernel_rfl) (by kernel_rfl) (by kernel_rfl) (by kernel_rfl) (by kernel_rfl) (fun s₁ tk₁ A₁ hA₁ O F => ?_)
  with_reducible refine exB (st := ?st) (rest := ?rest) ?e ?_
  case e => exact rfl
  have hz := Bz.of hb
  kba_ints
  with_reducible refine newL (le_line rfl) fun o s₂ tk₂ e₂ ho ho₂ => ?_
  have hO := F.new ho
  have ho₀ : s.heap.get? o = none := none_of_ext F.ext (fun q => nomatch q) ho
  have hoM : Offs [] s o := .inr ho₀
  have noq : o ≠ qu := let ⟨_, q⟩ := hl; ne_ns ho₀ q
  have F₂ := F.step0 e₂
  with_reducible refine stoL F₂ O fun s₃ tk₃ e₃ F₃ => ?_
  have ho₃ := plExt ho₂ e₃ (notin1 hO.1)
  kba_ints
  with_reducible refine sFor ?_
  kba_ints
  refine forList hA₁ (plSub hl F₃.sub) (fun _ => goName) (fun I i s' => Fm [] s (fenv (stIn 15 5) "ReadOnly.row" (.str "raftkeep.tracker" 268) (.ref 148) s.heap.objs.size 149) [("out", .ref o), ("self", .ref ro)] [] s' ∧
      ∃ us : List Value, s'.heap.PlainList o us.toArray ∧ P2 (Is (hideAll s'.heap [I]) 2) us ((W.take i).map rowP)) ?_ ?_ ?_ ?_
  · rintro I' hI i s₁ s₂ ⟨F₁, us, hu, hus⟩ x
    have hoI : o ≠ I' := let ⟨_, q⟩ := ho₃; Ne.symm (ne_ns hI q)
    exact ⟨F₃.iter (fun _ q => nomatch q) hI F₁ x, us, plExt hu x (notin1 hoI), hus.mono fun _ _ q => q.sub (hideExt x fun a m => .inl m)⟩
  · intro I' s₄ e₄ hI
    exact ⟨F₃.step0 e₄, [], plSub ho₃ e₄.sub, trivial⟩
  · rintro I' i v s₄ tk₄ hI hvi hit ⟨F₄, us, ho₄, hus⟩
    have hoI : o ≠ I' := let ⟨_, q⟩ := ho₃; Ne.symm (ne_ns hI q)
    obtain ⟨y, hy, ty, rfl⟩ := hvs.get' hvi
    have hyW : y ∈ W := List.mem_of_getElem? hy
    have hIO := F₃.new hI
    refine wpAny_assign_Name ?_
    with_reducible refine stoL F₄ O fun s₅ tk₅ e₅ F₅ => ?_
    have hpen₅ := dctSub X.pen (F₅.sub pend)
    have hva : valueAt (pkv W) y.name.toList = some (.ref y.st) := by
      rw [valueAt_pkv, find_mem X.nd hyW]; rfl
    kba_ints
    with_reducible refine dItem (knd := bytesKind prog w) (k := y.name.toList) (kvs := pkv W) (v := .ref y.st) (bkey _ _) hpen₅ hva fun _ => ?_
    with_reducible refine stoL F₅ O fun s₆ tk₆ e₆ F₆ => ?_
    obtain ⟨ds, m, tx, Iy, My⟩ := X.sts y hyW
    have Iy := Iy.sub hsub
    have My := My.sub hsub
    have ho₆ := plExt (plExt ho₄ e₅ (notin1 hO.1)) e₆ (notin1 hO.1)
    kba_ints
    with_reducible refine mAppend ho₆ ?_
    kba_ints
    refine readContext (F₆.bz hz) hA₁ (by omega) (My.sub F₆.sub) fun t2 s₇ tk₇ e₇ => ?_
    have F₇ := F₆.step0 e₇
    kba_ints
    obtain ⟨v1, v2⟩ := X.votes y hyW
    have v1₇ := dctSub v1 (F₇.sub y.k)
    with_reducible refine srtD hA₁ v1₇ v2 (by have := X.al y hyW; unfold tv; rw [List.length_map]; exact this) fun D s₈ tk₈ os ns' e₈ hD hl₈ hi₈ hperm hsort => ?_
    rw [tv_fst] at hperm
    obtain rfl := sortV_unique hperm hsort
    have F₈ := F₇.step0 e₈
    kba_ints
    with_reducible refine lTup hl₈ (by have h1 := hi₈.len; have h2 := (sortV_perm y.acks).length_eq; have := X.al y hyW; rw [sizeLine_eq]; omega) fun T s₉ tk₉ e₉ hT hoT => ?_
    have F₉ := F₈.step0 e₉
    kba_ints
    with_reducible refine newT (le_line rfl) fun T₂ s₁₀ tk₁₀ e₁₀ hT₂ hoT₂ => ?_
    have F₁₀ := F₉.step0 e₁₀
    have ho₁₀ := plSub (plSub (plSub (plSub ho₆ e₇.sub) e₈.sub) e₉.sub) e₁₀.sub
    kba_ints
    have hul : us.length < 64 := by have := hus.len; rw [List.length_map, List.length_take] at this; omega
    with_reducible refine lAppend ho₁₀ (by rw [sizeLine_eq]; omega) fun s₁₁ tk₁₁ e₁₁ ho₁₁ => ?_
    have F₁₁ := F₁₀.step1 e₁₁ hO hoM
    kba_ints
    have oL : ∀ a, OffOwn (fenv (stIn 15 5) "ReadOnly.row" (.str "raftkeep.tracker" 268) (.ref 148) s.heap.objs.size 149) a → a ∉ [(fenv (stIn 15 5) "ReadOnly.row" (.str "raftkeep.tracker" 268) (.ref 148) s.heap.objs.size 149).locals] := fun a h => notin1 h.1
    have hIn : I' ∉ [o] := notin1 (Ne.symm hoI)
    have e46 := (e₅.trans e₆)
    have hit₁₁ : ∃ ob, s₁₁.heap.get? I' = some ob ∧ ob.cls = .type "list_iterator" := let ⟨ob, h1, h2⟩ := hit; ⟨ob, e₁₁.keep I' ob hIn (((((e₇.trans e₈).trans e₉).trans e₁₀)).sub I' ob (e46.keep I' ob (oL I' hIO) h1)), h2⟩
    have hx : Ext [o, (fenv (stIn 15 5) "ReadOnly.row" (.str "raftkeep.tracker" 268) (.ref 148) s.heap.objs.size 149).locals] s₄ s₁₁ := ((e46.mono fun a m => List.mem_cons_of_mem _ m).trans (((e₇.trans e₈).trans e₉).trans e₁₀).any).trans (e₁₁.mono fun a m => by rw [List.mem_singleton.mp m]; exact List.mem_cons_self)
    have hNoT : ∀ a ∈ [o, (fenv (stIn 15 5) "ReadOnly.row" (.str "raftkeep.tracker" 268) (.ref 148) s.heap.objs.size 149).locals], NoT s₄.heap a := fun a m => by
      simp only [List.mem_cons, List.not_mem_nil, or_false] at m
      rcases m with rfl | rfl
      · exact NoT.list ho₄
      · exact NoT.nm F₄.ns
    refine ⟨s₁₁, _, rfl, ⟨F₁₁.to ⟨by lsm_bools, by lsm_bools, trivial⟩, us ++ [.ref T₂], ho₁₁, ?_⟩, _, hx, fun m => ?_, fun m => ?_⟩
    · rw [take_snoc hy, List.map_append]
      refine P2.snoc (hus.mono fun _ _ q => ((q.sub hideSub).upto (hx.tups hNoT)).hide (NoT.iter hit₁₁).one) ?_
      refine Is.hide ?_ (NoT.iter hit₁₁).one
      have hoT₁₀ := e₁₀.sub _ _ hoT
      have nTo : T ≠ o := let ⟨_, q⟩ := ho₆; ne_ns (none_of_ext (e₇.trans e₈) (fun q => nomatch q) hT) q
      have nT₂o : T₂ ≠ o := let ⟨_, q⟩ := ho₆; ne_ns (none_of_ext ((e₇.trans e₈).trans e₉) (fun q => nomatch q) hT₂) q
      refine isTup (e₁₁.keep _ _ (notin1 nT₂o) hoT₂) ⟨isBytes, isInt, isBytes, ?_, trivial⟩
      exact isTup (e₁₁.keep _ _ (notin1 nTo) hoT₁₀) (ints_is hi₈)
    · simp only [List.mem_cons, List.not_mem_nil, or_false] at m
      rcases m with h | h
      · exact hoI h.symm
      · exact hIO.1 h
    · simp only [List.mem_cons, List.not_mem_nil, or_false] at m
      rcases m with h | h
      · exact noq h.symm
      · exact (let ⟨_, q⟩ := hl; O.not q : OffOwn _ qu).1 h
  · rintro I' s₄ tk₄ hI ⟨F₄, us, ho₄, hus⟩
    rw [List.take_of_length_le (by omega)] at hus
    kba_ints
    with_reducible refine lTup ho₄ (by rw [sizeLine_eq]; have := hus.len; rw [List.length_map] at this; omega) fun T s₅ tk₅ e₅ hT hoT => ?_
    have F₅ := F₄.step0 e₅
    kba_ints
    with_reducible refine newT (le_line rfl) fun T₂ s₆ tk₆ e₆ hT₂ hoT₂ => ?_
    refine h _ s₆ _ (F₅.ext.trans e₆) (isTup hoT₂ ⟨isInt, isInt, ?_, trivial⟩)
    exact isTup (e₆.sub _ _ hoT) (hus.mono fun _ _ q => (q.sub hideSub).sub (e₅.sub.trans e₆.sub))
end

/-! C20 -/
section
variable {prog : Program} {w : World} {A : Around} {E : Value → Shared → Prop} {s s₀ s' : Shared} {tk : Nat} {d : Nat} {z : Heap} {ro rot pend qu : Addr} {op ser : Int} {W : List WR} {Q : Value → Shared → Prop} {env : Env}
theorem RO.keep {h h' : Heap} (X : RO prog w z h ro rot pend qu op ser W) (k : ∀ a ∈ rot :: pend :: qu :: W.map (·.k), ∀ o, h.get? a = some o → h'.get? a = some o) : RO prog w z h' ro rot pend qu op ser W := by
  have kk : ∀ x ∈ W, x.k ∈ rot :: pend :: qu :: W.map (·.k) := fun x hx => List.mem_cons_of_mem _ (List.mem_cons_of_mem _ (List.mem_cons_of_mem _ (List.mem_map.mpr ⟨x, hx, rfl⟩)))
  exact ⟨X.head, let ⟨t0, t1, T⟩ := X.tab; ⟨t0, t1, T.keep (k rot (by simp))⟩, let ⟨vs, l, p⟩ := X.queue; ⟨vs, l.at (k qu (by simp)), p⟩, dctSub X.pen (k pend (by simp)), X.sys, X.sts,
    fun x hx => let ⟨a, b⟩ := X.votes x hx; ⟨dctSub a (k x.k (kk x hx)), b⟩, X.nd, X.len, X.al, X.off, X.apart⟩
theorem RO.grow {h z' : Heap} (X : RO prog w z h ro rot pend qu op ser W) (hz : Sub z z') (off : ∀ a ∈ rot :: pend :: qu :: W.map (·.k), z'.get? a = none) : RO prog w z' h ro rot pend qu op ser W :=
  ⟨hz _ _ X.head, X.tab, X.queue, X.pen, X.sys, fun x hx => (X.sts x hx).sub hz, X.votes, X.nd, X.len, X.al, off, X.apart⟩
theorem RO.advanced {W1 W2 : List WR} {x : WR} {h' : Heap} {q' : Addr} {vs' : List Value} {t0 t1 : Tok} (X : RO prog w z s.heap ro rot pend qu op ser (W1 ++ x :: W2)) (T : Fd h' rot [("option", .int op t0), ("serial", .int ser t1), ("pending", .ref pend), ("queue", .ref q')])
    (hp : h'.DictOf (bytesKind prog w) pend (pkv W2)) (hl : h'.PlainList q' vs'.toArray) (hvs : P2 IsN vs' W2) (hv : ∀ y ∈ W2, VA prog w h' y.k y.acks) (hq : z.get? q' = none) (hn : q' ∉ rot :: pend :: W2.map (·.k)) :
    RO prog w z h' ro rot pend q' op ser W2 := by
  have hm : ∀ y ∈ W2, y ∈ W1 ++ x :: W2 := fun y hy => List.mem_append.mpr (.inr (List.mem_cons_of_mem _ hy))
  have hk : ∀ a ∈ W2.map (·.k), a ∈ (W1 ++ x :: W2).map (·.k) := fun a ha => let ⟨y, hy, e⟩ := List.mem_map.mp ha; List.mem_map.mpr ⟨y, hm y hy, e⟩
  have ap := X.apart
  have ap1 := List.nodup_cons.mp ap
  have ap2 := List.nodup_cons.mp ap1.2
  have ap3 := List.nodup_cons.mp ap2.2
  have ap4 : (W2.map (·.k)).Nodup := by
    have := ap3.2
    rw [List.map_append, List.map_cons] at this
    exact (List.nodup_cons.mp (List.nodup_append.mp this).2.1).2
  simp only [List.mem_cons, not_or] at hn ap1 ap2
  refine ⟨X.head, ⟨t0, t1, T⟩, ⟨vs', hl, hvs⟩, hp, X.sys, fun y hy => X.sts y (hm y hy), hv, ?_, ?_, fun y hy => X.al y (hm y hy), fun a ha => ?_, ?_⟩
  · have := X.nd
    unfold nms at this ⊢
    rw [List.map_append, List.map_cons] at this
    exact (List.nodup_cons.mp (List.nodup_append.mp this).2.1).2
  · have := X.len
    rw [List.length_append, List.length_cons] at this; omega
  · simp only [List.mem_cons] at ha
    rcases ha with rfl | rfl | rfl | ha
    · exact X.off a (by simp)
    · exact X.off a (by simp)
    · exact hq
    · exact X.off a (by simp only [List.mem_cons]; exact .inr (.inr (.inr (hk a ha))))
  · refine List.nodup_cons.mpr ⟨?_, List.nodup_cons.mpr ⟨?_, List.nodup_cons.mpr ⟨hn.2.2, ap4⟩⟩⟩
    · simp only [List.mem_cons, not_or]
      exact ⟨ap1.1.1, fun e => hn.1 e.symm, fun m => ap1.1.2.2 (hk _ m)⟩
    · simp only [List.mem_cons, not_or]
      exact ⟨fun e => hn.2.1 e.symm, fun m => ap2.1.2 (hk _ m)⟩
/-- all that turns -/
noncomputable abbrev muts (ls : List (Addr × List Value)) (rot pend qu : Addr) (W : List WR) : List Addr := ls.map (·.1) ++ rot :: pend :: qu :: W.map (·.k)
structure Lw (prog : Program) (w : World) (s₀ : Shared) (env : Env) (z : Heap) (s : Shared) (ls : List (Addr × List Value)) (ro rot pend qu : Addr) (op ser : Int) (W : List WR) : Prop where
  sub : Sub z s.heap
  lists : ∀ p ∈ ls, s.heap.PlainList p.1 p.2.toArray
  ro_ : RO prog w z s.heap ro rot pend qu op ser W
  off : ∀ a ∈ muts ls rot pend qu W, z.get? a = none ∧ OffOwn env a ∧ s₀.heap.get? a = none
  loc : ∀ a ∈ own env, z.get? a = none
  nd : (muts ls rot pend qu W).Nodup
variable {ls l1 l2 : List (Addr × List Value)}
theorem Lw.ext {N : List Addr} (L : Lw prog w s₀ env z s ls ro rot pend qu op ser W) (e : Ext N s s') (hN : ∀ a ∈ N, z.get? a = none ∧ a ∉ muts ls rot pend qu W) : Lw prog w s₀ env z s' ls ro rot pend qu op ser W :=
  ⟨L.sub.ext e fun a m => (hN a m).1, fun p hp => plExt (L.lists p hp) e fun m => (hN _ m).2 (List.mem_append.mpr (.inl (List.mem_map.mpr ⟨p, hp, rfl⟩))),
    L.ro_.keep fun a ha o q => e.keep a o (fun m => (hN a m).2 (List.mem_append.mpr (.inr ha))) q, L.off, L.loc, L.nd⟩
theorem Lw.step0 (L : Lw prog w s₀ env z s ls ro rot pend qu op ser W) (e : Ext [] s s') : Lw prog w s₀ env z s' ls ro rot pend qu op ser W := L.ext e fun _ m => nomatch m
theorem OffOwn.notin {a b : Addr} (h : OffOwn env a) (hb : b ∈ own env) (ha : (env.cells.map (·.1)).Nodup) : a ≠ b := by
  rcases List.mem_cons.mp hb with rfl | hb
  · exact h.1
  · obtain ⟨⟨n, c⟩, hp, rfl⟩ := List.mem_map.mp hb
    refine h.2 n c ?_
    have : ∀ {l : List (Str × Addr)}, (l.map (·.1)).Nodup → (n, c) ∈ l → l.lookup n = some c := by
      intro l
      induction l with
      | nil => intro _ h; cases h
      | cons p l ih =>
        intro hn hm
        obtain ⟨n', c'⟩ := p
        have hc := List.nodup_cons.mp hn
        rcases List.mem_cons.mp hm with e | hm
        · injection e with e1 e2; subst e1 e2; simp [List.lookup]
        · have hne : (n == n') = false := by
            rw [beq_eq_false_iff_ne]
            intro e
            exact hc.1 (e ▸ List.mem_map.mpr ⟨_, hm, rfl⟩)
          rw [List.lookup_cons, hne]
          exact ih hc.2 hm
    exact this ha hp
theorem Lw.sto (L : Lw prog w s₀ env z s ls ro rot pend qu op ser W) {a : Addr} (ha : a ∈ own env) (hc : (env.cells.map (·.1)).Nodup) (e : Ext [a] s s') : Lw prog w s₀ env z s' ls ro rot pend qu op ser W :=
  L.ext e fun b m => by
    rw [List.mem_singleton.mp m]
    exact ⟨L.loc a ha, fun q => (L.off a q).2.1.notin ha hc rfl⟩
theorem Lw.loc1 (L : Lw prog w s₀ env z s ls ro rot pend qu op ser W) (hc : (env.cells.map (·.1)).Nodup) (e : Ext [env.locals] s s') : Lw prog w s₀ env z s' ls ro rot pend qu op ser W := L.sto List.mem_cons_self hc e
/-- one of the lists turns -/
theorem Lw.app {a : Addr} {vs vs' : List Value} (L : Lw prog w s₀ env z s (l1 ++ (a, vs) :: l2) ro rot pend qu op ser W) (e : Ext [a] s s') (h : s'.heap.PlainList a vs'.toArray) : Lw prog w s₀ env z s' (l1 ++ (a, vs') :: l2) ro rot pend qu op ser W := by
  have hm : muts (l1 ++ (a, vs') :: l2) rot pend qu W = muts (l1 ++ (a, vs) :: l2) rot pend qu W := by simp [muts]
  have hnd := L.nd
  have ham : a ∈ muts (l1 ++ (a, vs) :: l2) rot pend qu W := by simp [muts]
  have hnd1 : ((l1.map (·.1)) ++ a :: (l2.map (·.1) ++ (rot :: pend :: qu :: W.map (·.k)))).Nodup := by simpa [muts] using hnd
  have hap := List.nodup_append.mp hnd1
  have hac := List.nodup_cons.mp hap.2.1
  refine ⟨L.sub.ext e (off1 (L.off a ham).1), fun p hp => ?_, L.ro_.keep fun b hb o q => e.keep b o (notin1 fun r => ?_) q, by rw [hm]; exact L.off, L.loc, by rw [hm]; exact hnd⟩
  · rcases List.mem_append.mp hp with hp1 | hp1
    · exact plExt (L.lists p (List.mem_append.mpr (.inl hp1))) e (notin1 fun r => hap.2.2 p.1 (List.mem_map.mpr ⟨p, hp1, rfl⟩) a List.mem_cons_self r)
    · rcases List.mem_cons.mp hp1 with rfl | hp2
      · exact h
      · exact plExt (L.lists p (List.mem_append.mpr (.inr (List.mem_cons_of_mem _ hp2)))) e (notin1 fun r => hac.1 (r ▸ List.mem_append.mpr (.inl (List.mem_map.mpr ⟨p, hp2, rfl⟩))))
  · exact hac.1 (r ▸ List.mem_append.mpr (.inr hb))
/-- more stands still -/
theorem Lw.grow {z' : Heap} (L : Lw prog w s₀ env z s ls ro rot pend qu op ser W) (hz : Sub z z') (hs : Sub z' s.heap) (off : ∀ a ∈ muts ls rot pend qu W, z'.get? a = none) (loc : ∀ a ∈ own env, z'.get? a = none) : Lw prog w s₀ env z' s ls ro rot pend qu op ser W :=
  ⟨hs, L.lists, L.ro_.grow hz fun a ha => off a (List.mem_append.mpr (.inr ha)), fun a ha => ⟨off a ha, (L.off a ha).2⟩, loc, L.nd⟩
noncomputable def full (env : Env) (s : Shared) (ls : List (Addr × List Value)) (rot pend qu : Addr) (W : List WR) : Heap := hideAll s.heap (muts ls rot pend qu W ++ own env)
theorem Lw.full (L : Lw prog w s₀ env z s ls ro rot pend qu op ser W) : Sub z (full env s ls rot pend qu W) ∧ Lw prog w s₀ env (full env s ls rot pend qu W) s ls ro rot pend qu op ser W := by
  have hz : Sub z (Mine.full env s ls rot pend qu W) := fun a o q => hideAll_get _ (L.sub a o q) fun m => by
    rcases List.mem_append.mp m with h | h
    · rw [(L.off a h).1] at q; cases q
    · rw [L.loc a h] at q; cases q
  exact ⟨hz, L.grow hz hideSub (fun a ha => hideAll_none _ (List.mem_append.mpr (.inl ha))) fun a ha => hideAll_none _ (List.mem_append.mpr (.inr ha))⟩
/-- what is new stands still -/
theorem full_new (L : Lw prog w s₀ env z s ls ro rot pend qu op ser W) (F : ∃ o, s.heap.get? env.locals = some o) {a : Addr} {o : Obj} (h : s.heap.get? a = some o) (hn : a ∉ muts ls rot pend qu W) (ho : a ∉ own env) : (full env s ls rot pend qu W).get? a = some o :=
  hideAll_get _ h fun m => (List.mem_append.mp m).elim hn ho
end

/-! C21 -/
/-- the law's own frame -/
noncomputable abbrev lenv (n : Nat) : Env := fenv (stAt 36) "law" (.str "law_nz0368_01" 662) (.ref 383) n 384
theorem lenv_cells (n : Nat) : (lenv n).cells = [(Str.ofString "said", n + 4), (Str.ofString "marks", n + 3), (Str.ofString "asked", n + 2), (Str.ofString "names", n + 1)] := by kernel_rfl
theorem lcn (n : Nat) : ((lenv n).cells.map (·.1)).Nodup := by rw [lenv_cells]; simp only [List.map_cons, List.map_nil]; decide
/-- the statements of the law, and of its loop -/
noncomputable def lst (i : Nat) : Stmt := (dBody (stAt 36)).getD i (.Pass default)
noncomputable def lbody : List Stmt := match (dBody (stAt 36)).find? fun st => match st with | .For .. => true | _ => false with
  | some (.For _ _ b _ _) => b
  | _ => []
noncomputable def lbs (i : Nat) : Stmt := lbody.getD i (.Pass default)
section
noncomputable def nmv (born : Int) (j : Nat) : Array UInt8 := b8 (born + (j + 1 : Nat))
noncomputable def sig (x : WR) : Array UInt8 × Req × List Int := (x.name, x.req, x.acks)
noncomputable def wrow (born : Int) (S : List (Int × Int)) (p : Req × Nat) : Array UInt8 × Req × List Int := (nmv born p.2, p.1, heardL S p.2)
noncomputable def wall (born : Int) (reqs : List Req) (S : List (Int × Int)) : List (Array UInt8 × Req × List Int) := reqs.zipIdx.map (wrow born S)
noncomputable def askedP (r : Req) : PV := .tup [.int r.idx, rowPV r.frm r.dat r.var]
structure LV where
  reqs : List Req
  said : List (Int × Int)
  hands : List Int
  gone : Nat
structure Fx where
  nl : Addr
  hl : Addr
  cf : Addr
  ro : Addr
  ns : List Int
  H : List (List Int)
  h1 : List Int
  h2 : List Int
  op : Int
  born : Int
  tb : Tok
  to_ : Tok
  keep : List (Addr × Obj)
structure FxOk (x : Fx) : Prop where
  ns0 : x.ns ≠ []
  nsl : x.ns.length ≤ 12
  nsp : ∀ n ∈ x.ns, 0 ≤ n
  hH : x.H = if x.h2 = [] then [x.h1] else [x.h1, x.h2]
  h1n : x.h1 ≠ []
  l1 : x.h1.length < 64
  l2 : x.h2.length < 64
  b0 : 0 ≤ x.born
  b1 : x.born ≤ 100000
structure Good (H : List (List Int)) (v : LV) : Prop where
  gle : v.gone ≤ v.reqs.length
  open_ : ∀ r, v.gone ≤ r → r < v.reqs.length → okV H v.said v.hands r = false
  top : v.gone = 0 ∨ okV H v.said v.hands (v.gone - 1) = true
  sr : ∀ p ∈ v.said, ∃ j : Nat, p.1 = j ∧ j < v.reqs.length
  hr : ∀ h ∈ v.hands, ∃ j : Nat, h = j ∧ j < v.reqs.length
structure Dt where
  z : Heap
  an : Addr
  aa : Addr
  am : Addr
  as_ : Addr
  ah : Addr
  af : Addr
  rot : Addr
  pend : Addr
  qu : Addr
  vn : List Value
  va : List Value
  vm : List Value
  vs : List Value
  vh : List Value
  vf : List Value
  W : List WR
  v : LV
  gf : Nat
noncomputable def Dt.ls (D : Dt) : List (Addr × List Value) := [(D.an, D.vn), (D.aa, D.va), (D.am, D.vm), (D.as_, D.vs), (D.ah, D.vh), (D.af, D.vf)]
noncomputable abbrev Dt.mu (D : Dt) : List Addr := muts D.ls D.rot D.pend D.qu D.W
noncomputable abbrev IsNm (born : Int) (x : Value) (j : Nat) : Prop := ∃ t, x = .bytes (nmv born j) t
noncomputable abbrev IsDt (x : Value) (r : Req) : Prop := ∃ t, x = .bytes r.dat t
structure At (prog : Program) (w : World) (s₀ : Shared) (env : Env) (x : Fx) (D : Dt) (s : Shared) : Prop where
  L : Lw prog w s₀ env D.z s D.ls x.ro D.rot D.pend D.qu x.op (x.born + D.v.reqs.length) D.W
  fn : LI D.z x.nl x.ns
  fh : HA D.z x.hl x.H
  fc : ConfAt D.z x.cf x.h1 x.h2
  n : P2 (IsNm x.born) D.vn (List.range D.v.reqs.length)
  a : P2 (Is D.z 4) D.va (D.v.reqs.map askedP)
  m : P2 IsDt D.vm D.v.reqs
  s : P2 (Pr D.z) D.vs D.v.said
  h : P2 IsI D.vh D.v.hands
  f : P2 (Is D.z 4) D.vf ((D.v.reqs.take D.gf).map askedP)
  w : D.W.map sig = (wall x.born D.v.reqs D.v.said).drop D.v.gone
  ex : ∀ p ∈ x.keep, D.z.get? p.1 = some p.2
variable {prog : Program} {w : World} {s₀ s s' : Shared} {env : Env} {x : Fx} {D : Dt} {l cl : List (Str × Value)}
theorem At.ext {N : List Addr} (a : At prog w s₀ env x D s) (e : Ext N s s') (hN : ∀ b ∈ N, D.z.get? b = none ∧ b ∉ D.mu) : At prog w s₀ env x D s' := { a with L := a.L.ext e hN }
theorem At.step0 (a : At prog w s₀ env x D s) (e : Ext [] s s') : At prog w s₀ env x D s' := { a with L := a.L.step0 e }
theorem At.sto (a : At prog w s₀ env x D s) {b : Addr} (hb : b ∈ own env) (hc : (env.cells.map (·.1)).Nodup) (e : Ext [b] s s') : At prog w s₀ env x D s' := { a with L := a.L.sto hb hc e }
theorem At.loc {n : Nat} (a : At prog w s₀ (lenv n) x D s) (e : Ext [(lenv n).locals] s s') : At prog w s₀ (lenv n) x D s' := a.sto List.mem_cons_self (lcn n) e
theorem At.grow {z' : Heap} (a : At prog w s₀ env x D s) (L : Lw prog w s₀ env z' s D.ls x.ro D.rot D.pend D.qu x.op (x.born + D.v.reqs.length) D.W) (k : Sub D.z z') : At prog w s₀ env x { D with z := z' } s :=
  { L := L, fn := a.fn.sub k, fh := a.fh.sub k, fc := a.fc.sub k, n := a.n, a := a.a.mono fun _ _ q => q.sub k, m := a.m, s := a.s.mono fun _ _ q => q.sub k, h := a.h, f := a.f.mono fun _ _ q => q.sub k, w := a.w, ex := fun p hp => k _ _ (a.ex p hp) }
/-- all that stands still now -/
noncomputable def Dt.z1 (D : Dt) (env : Env) (s : Shared) : Heap := full env s D.ls D.rot D.pend D.qu D.W
theorem At.full (a : At prog w s₀ env x D s) : At prog w s₀ env x { D with z := D.z1 env s } s := a.grow a.L.full.2 a.L.full.1
theorem At.bz {N : List Addr} (a : At prog w s₀ env x D s) (F : Fm [] s₀ env l cl s) (hb : Base w s₀.heap) (hN : ∀ b ∈ N, b ∈ D.mu) : Bz w N s := ⟨s₀.heap, hb, F.sub, fun b m => (a.L.off b (hN b m)).2.2⟩
theorem At.fm {N : List Addr} (a : At prog w s₀ env x D s) (F : Fm [] s₀ env l cl s) (e : Ext N s s') (hN : ∀ b ∈ N, b ∈ D.mu) : Fm [] s₀ env l cl s' := F.step e fun b m => ⟨(a.L.off b (hN b m)).2.1, .inr (a.L.off b (hN b m)).2.2⟩
theorem At.sub (a : At prog w s₀ env x D s) : Sub D.z s.heap := a.L.sub
theorem At.pl (a : At prog w s₀ env x D s) {p : Addr × List Value} (hp : p ∈ D.ls) : s.heap.PlainList p.1 p.2.toArray := a.L.lists p hp
theorem At.pn (a : At prog w s₀ env x D s) : s.heap.PlainList D.an D.vn.toArray := a.pl (p := (D.an, D.vn)) (by simp [Dt.ls])
theorem At.pa (a : At prog w s₀ env x D s) : s.heap.PlainList D.aa D.va.toArray := a.pl (p := (D.aa, D.va)) (by simp [Dt.ls])
theorem At.pm (a : At prog w s₀ env x D s) : s.heap.PlainList D.am D.vm.toArray := a.pl (p := (D.am, D.vm)) (by simp [Dt.ls])
theorem At.ps (a : At prog w s₀ env x D s) : s.heap.PlainList D.as_ D.vs.toArray := a.pl (p := (D.as_, D.vs)) (by simp [Dt.ls])
theorem At.ph (a : At prog w s₀ env x D s) : s.heap.PlainList D.ah D.vh.toArray := a.pl (p := (D.ah, D.vh)) (by simp [Dt.ls])
theorem At.pf (a : At prog w s₀ env x D s) : s.heap.PlainList D.af D.vf.toArray := a.pl (p := (D.af, D.vf)) (by simp [Dt.ls])
end

/-! C22 -/
section
variable {prog : Program} {w : World} {A : Around} {E : Value → Shared → Prop} {s s₀ s' : Shared} {tk : Nat} {d : Nat} {z : Heap} {ro rot pend qu : Addr} {op ser : Int} {W : List WR} {Q : Value → Shared → Prop} {env : Env} {ls l1 l2 : List (Addr × List Value)} {l cl : List (Str × Value)} {N : List Addr}
theorem lookup_of_mem {l : List (Str × Addr)} {n : Str} {c : Addr} (hn : (l.map (·.1)).Nodup) (hm : (n, c) ∈ l) : l.lookup n = some c := by
  induction l with
  | nil => cases hm
  | cons p l ih =>
    obtain ⟨n', c'⟩ := p
    have hc := List.nodup_cons.mp hn
    rcases List.mem_cons.mp hm with e | hm
    · injection e with e1 e2; subst e1 e2; simp [List.lookup]
    · have hne : (n == n') = false := by
        rw [beq_eq_false_iff_ne]
        intro e
        exact hc.1 (e ▸ List.mem_map.mpr ⟨_, hm, rfl⟩)
      rw [List.lookup_cons, hne]
      exact ih hc.2 hm
theorem Fm.has (F : Fm N s₀ env l cl s) (hc : (env.cells.map (·.1)).Nodup) : ∀ a ∈ own env, (∃ o, s.heap.get? a = some o) ∧ NoT s.heap a := fun a ha => by
  rcases List.mem_cons.mp ha with rfl | ha
  · exact ⟨F.ns.has, NoT.nm F.ns⟩
  · obtain ⟨⟨n, c⟩, hp, rfl⟩ := List.mem_map.mp ha
    obtain ⟨v, ⟨o, ho, hd⟩, _⟩ := F.cell n c (lookup_of_mem hc hp)
    exact ⟨⟨o, ho⟩, fun vs ⟨o', ho', _, m, hs⟩ => by rw [ho] at ho'; injection ho' with ho'; subst ho'; rw [hd] at hs; cases hs⟩
theorem Lw.has (L : Lw prog w s₀ env z s ls ro rot pend qu op ser W) : ∀ a ∈ muts ls rot pend qu W, (∃ o, s.heap.get? a = some o) ∧ NoT s.heap a := fun a ha => by
  rcases List.mem_append.mp ha with h | h
  · obtain ⟨p, hp, rfl⟩ := List.mem_map.mp h
    exact ⟨let ⟨_, q⟩ := L.lists p hp; ⟨_, q⟩, NoT.list (L.lists p hp)⟩
  · simp only [List.mem_cons] at h
    rcases h with rfl | rfl | rfl | h
    · obtain ⟨t0, t1, T⟩ := L.ro_.tab; exact ⟨T.has, NoT.fd T⟩
    · exact ⟨let ⟨o, _, _, q, _⟩ := L.ro_.pen; ⟨o, q⟩, NoT.dict L.ro_.pen⟩
    · obtain ⟨vs, q, _⟩ := L.ro_.queue; exact ⟨let ⟨_, r⟩ := q; ⟨_, r⟩, NoT.list q⟩
    · obtain ⟨x, hx, rfl⟩ := List.mem_map.mp h
      exact ⟨let ⟨⟨o, _, _, q, _⟩, _⟩ := L.ro_.votes x hx; ⟨o, q⟩, NoT.dict (L.ro_.votes x hx).1⟩
/-- a datum stands still -/
theorem Lw.is (L : Lw prog w s₀ env z s ls ro rot pend qu op ser W) (F : Fm N s₀ env l cl s) (hc : (env.cells.map (·.1)).Nodup) {n : Nat} {v : Value} {p : PV} (h : Is s.heap n v p) : Is (Mine.full env s ls rot pend qu W) n v p :=
  h.hide fun a m => (List.mem_append.mp m).elim (fun h => (L.has a h).2) fun h => (F.has hc a h).2
/-- what is new stands still -/
theorem Lw.new (L : Lw prog w s₀ env z s ls ro rot pend qu op ser W) (F : Fm N s₀ env l cl s) (hc : (env.cells.map (·.1)).Nodup) : New s s' (Mine.full env s' ls rot pend qu W) := fun a o e q =>
  hideAll_get _ q fun m => (List.mem_append.mp m).elim (fun h => by obtain ⟨⟨o', ho'⟩, _⟩ := L.has a h; rw [e] at ho'; cases ho') fun h => by obtain ⟨⟨o', ho'⟩, _⟩ := F.has hc a h; rw [e] at ho'; cases ho'
theorem Lw.bz (L : Lw prog w s₀ env z s ls ro rot pend qu op ser W) (F : Fm [] s₀ env l cl s) (hb : Base w s₀.heap) (hN : ∀ b ∈ N, b ∈ muts ls rot pend qu W) : Bz w N s := ⟨s₀.heap, hb, F.sub, fun b m => (L.off b (hN b m)).2.2⟩
theorem Lw.fm (L : Lw prog w s₀ env z s ls ro rot pend qu op ser W) (F : Fm [] s₀ env l cl s) (e : Ext N s s') (hN : ∀ b ∈ N, b ∈ muts ls rot pend qu W) : Fm [] s₀ env l cl s' := F.step e fun b m => ⟨(L.off b (hN b m)).2.1, .inr (L.off b (hN b m)).2.2⟩
theorem Lw.fm1 {a : Addr} (L : Lw prog w s₀ env z s ls ro rot pend qu op ser W) (F : Fm [] s₀ env l cl s) (e : Ext [a] s s') (hN : a ∈ muts ls rot pend qu W) : Fm [] s₀ env l cl s' := L.fm F e fun b m => (List.mem_singleton.mp m) ▸ hN
theorem mu3 {a : Addr} (h : a ∈ [rot, pend, qu]) : a ∈ muts ls rot pend qu W := by
  refine List.mem_append.mpr (.inr ?_)
  simp only [List.mem_cons, List.not_mem_nil, or_false] at h ⊢
  rcases h with h | h | h
  · exact .inl h
  · exact .inr (.inl h)
  · exact .inr (.inr (.inl h))
theorem muk {x : WR} (hx : x ∈ W) : x.k ∈ muts ls rot pend qu W := List.mem_append.mpr (.inr (List.mem_cons_of_mem _ (List.mem_cons_of_mem _ (List.mem_cons_of_mem _ (List.mem_map.mpr ⟨x, hx, rfl⟩)))))
/-- a read has come -/
theorem Lw.added (L : Lw prog w s₀ env z s ls ro rot pend qu op ser W) (F : Fm [] s₀ env l cl s) (hc : (env.cells.map (·.1)).Nodup) (e : Ext [rot, pend, qu] s s') {x : WR} {ds m : Addr} {t0 t1 t2 t3 : Tok} {vs : List Value} (hxa : x.acks = [])
    (hst : s.heap.get? x.st = none) (hds : s.heap.get? ds = none) (hk : s.heap.get? x.k = none) (n1 : x.st ≠ x.k) (n2 : ds ≠ x.k) (hv : VA prog w s'.heap x.k []) (I : Inst s'.heap x.st 96 ds [("index", .int x.req.idx t0), ("message", .ref m), ("acks", .ref x.k)]) (hM : MsgAt z m x.req.frm x.req.dat x.req.var)
    (T : Fd s'.heap rot [("option", .int op t1), ("serial", .int (ser + 1) t2), ("pending", .ref pend), ("queue", .ref qu)]) (hvs : P2 IsN vs W) (hl : s'.heap.PlainList qu (vs ++ [Value.bytes x.name t3]).toArray) (hp : s'.heap.DictOf (bytesKind prog w) pend (pkv W ++ [(x.name.toList, .ref x.st)]))
    (hn : x.name ∉ nms W) (hlen : W.length + 1 < 64) :
    Sub z (Mine.full env s' ls rot pend qu (W ++ [x])) ∧ Lw prog w s₀ env (Mine.full env s' ls rot pend qu (W ++ [x])) s' ls ro rot pend qu op (ser + 1) (W ++ [x]) ∧ Fm [] s₀ env l cl s' := by
  have F' := L.fm F e fun b m => mu3 m
  have hmu : ∀ a, a ∈ muts ls rot pend qu (W ++ [x]) ↔ a ∈ muts ls rot pend qu W ∨ a = x.k := fun a => by
    simp only [muts, List.map_append, List.map_cons, List.map_nil, List.mem_append, List.mem_cons, List.not_mem_nil, or_false]
    constructor
    · rintro (h | h | h | h | h | h)
      · exact .inl (.inl h)
      · exact .inl (.inr (.inl h))
      · exact .inl (.inr (.inr (.inl h)))
      · exact .inl (.inr (.inr (.inr (.inl h))))
      · exact .inl (.inr (.inr (.inr (.inr h))))
      · exact .inr h
    · rintro ((h | h | h | h | h) | h)
      · exact .inl h
      · exact .inr (.inl h)
      · exact .inr (.inr (.inl h))
      · exact .inr (.inr (.inr (.inl h)))
      · exact .inr (.inr (.inr (.inr (.inl h))))
      · exact .inr (.inr (.inr (.inr (.inr h))))
  have hkmu : x.k ∉ muts ls rot pend qu W := fun h => by obtain ⟨⟨o, ho⟩, _⟩ := L.has _ h; rw [hk] at ho; cases ho
  have hkown : OffOwn env x.k := F.new hk
  have hkz : z.get? x.k = none := by
    cases q : z.get? x.k with
    | none => rfl
    | some o => rw [L.sub _ _ q] at hk; cases hk
  have hkin : ∃ o, s'.heap.get? x.k = some o := let ⟨⟨o, _, _, q, _⟩, _⟩ := hv; ⟨o, q⟩
  have zs' : Sub z s'.heap := L.sub.ext e fun a m => (L.off a (mu3 m)).1
  have hz : Sub z (Mine.full env s' ls rot pend qu (W ++ [x])) := fun a o q => hideAll_get _ (zs' a o q) fun m => by
    rcases List.mem_append.mp m with h | h
    · rcases (hmu a).mp h with h | rfl
      · rw [(L.off a h).1] at q; cases q
      · rw [hkz] at q; cases q
    · rw [L.loc a h] at q; cases q
  have newz : ∀ a o, s.heap.get? a = none → a ≠ x.k → s'.heap.get? a = some o → (Mine.full env s' ls rot pend qu (W ++ [x])).get? a = some o := fun a o hn hne q => hideAll_get _ q fun m => by
    rcases List.mem_append.mp m with h | h
    · rcases (hmu a).mp h with h | h
      · obtain ⟨⟨o', ho'⟩, _⟩ := L.has _ h; rw [hn] at ho'; cases ho'
      · exact hne h
    · obtain ⟨⟨o', ho'⟩, _⟩ := F.has hc a h; rw [hn] at ho'; cases ho'
  have hoff : ∀ a ∈ muts ls rot pend qu (W ++ [x]), (Mine.full env s' ls rot pend qu (W ++ [x])).get? a = none := fun a ha => hideAll_none _ (List.mem_append.mpr (.inl ha))
  have mem3 : ∀ a ∈ rot :: pend :: qu :: x.k :: W.map (·.k), a ∈ muts ls rot pend qu (W ++ [x]) := fun a ha => (hmu a).mpr <| by
    simp only [List.mem_cons] at ha
    rcases ha with h | h | h | h | h
    · exact .inl (mu3 (by simp [h]))
    · exact .inl (mu3 (by simp [h]))
    · exact .inl (mu3 (by simp [h]))
    · exact .inr h
    · obtain ⟨y, hy, rfl⟩ := List.mem_map.mp h; exact .inl (muk hy)
  have hvo : ∀ y ∈ W, VA prog w s'.heap y.k y.acks := fun y hy => by
    obtain ⟨a, b⟩ := L.ro_.votes y hy
    refine ⟨dctSub a fun o q => e.keep y.k o (fun m => ?_) q, b⟩
    have ap := L.ro_.apart
    have hy' : y.k ∈ W.map (·.k) := List.mem_map.mpr ⟨y, hy, rfl⟩
    simp only [List.mem_cons, List.not_mem_nil, or_false] at m
    rcases m with h | h | h
    · exact (List.nodup_cons.mp ap).1 (by rw [← h]; simp only [List.mem_cons]; exact .inr (.inr hy'))
    · exact (List.nodup_cons.mp (List.nodup_cons.mp ap).2).1 (by rw [← h]; simp only [List.mem_cons]; exact .inr hy')
    · exact (List.nodup_cons.mp (List.nodup_cons.mp (List.nodup_cons.mp ap).2).2).1 (by rw [← h]; exact hy')
  have St : StAt (Mine.full env s' ls rot pend qu (W ++ [x])) x := by
    refine ⟨ds, m, t0, ⟨newz _ _ hst n1 I.at_, ?_⟩, hM.sub hz⟩
    obtain ⟨es, n, q, r⟩ := I.tab
    exact ⟨es, n, newz _ _ hds n2 q, r⟩
  refine ⟨hz, ⟨hideSub, fun p hp => plExt (L.lists p hp) e fun m => ?_, L.ro_.added hz T hvs hl hp St (by rw [hxa]; exact hv) hvo hn hlen (by rw [hxa]; decide) (fun a ha => hoff a (mem3 a ha)) (fun h => hkmu (List.mem_append.mpr (.inr h))), fun a ha => ⟨hoff a ha, ?_⟩, fun a ha => hideAll_none _ (List.mem_append.mpr (.inr ha)), ?_⟩, F'⟩
  · have hap := List.nodup_append.mp L.nd
    refine hap.2.2 p.1 (List.mem_map.mpr ⟨p, hp, rfl⟩) p.1 ?_ rfl
    simp only [List.mem_cons, List.not_mem_nil, or_false] at m ⊢
    rcases m with h | h | h
    · exact .inl h
    · exact .inr (.inl h)
    · exact .inr (.inr (.inl h))
  · rcases (hmu a).mp ha with h | rfl
    · exact (L.off a h).2
    · exact ⟨hkown, none_of_ext F.ext (fun q => nomatch q) hk⟩
  · rw [show muts ls rot pend qu (W ++ [x]) = muts ls rot pend qu W ++ [x.k] by simp [muts]]
    refine List.nodup_append.mpr ⟨L.nd, List.nodup_cons.mpr ⟨by simp, List.nodup_nil⟩, fun a ha b hb e => ?_⟩
    rw [show b = x.k by simpa using hb] at e
    exact hkmu (e ▸ ha)
/-- an answer has come -/
theorem Lw.acked {W1 W2 : List WR} {x : WR} {ks : List Int} (L : Lw prog w s₀ env z s ls ro rot pend qu op ser (W1 ++ x :: W2)) (F : Fm [] s₀ env l cl s) (e : Ext [x.k] s s') (hv : VA prog w s'.heap x.k ks) (hk : ks.length < 64) :
    Lw prog w s₀ env z s' ls ro rot pend qu op ser (W1 ++ { x with acks := ks } :: W2) ∧ Fm [] s₀ env l cl s' := by
  have hm : muts ls rot pend qu (W1 ++ { x with acks := ks } :: W2) = muts ls rot pend qu (W1 ++ x :: W2) := by simp [muts]
  have hxm : x.k ∈ muts ls rot pend qu (W1 ++ x :: W2) := muk (by simp)
  have hap := List.nodup_append.mp L.nd
  refine ⟨⟨L.sub.ext e (off1 (L.off _ hxm).1), fun p hp => plExt (L.lists p hp) e (notin1 fun r => ?_), L.ro_.acked e hv hk, by rw [hm]; exact L.off, L.loc, by rw [hm]; exact L.nd⟩, L.fm1 F e hxm⟩
  exact hap.2.2 p.1 (List.mem_map.mpr ⟨p, hp, rfl⟩) x.k (List.mem_cons_of_mem _ (List.mem_cons_of_mem _ (List.mem_cons_of_mem _ (List.mem_map.mpr ⟨x, by simp, rfl⟩)))) r
end

/-! C23 -/
section
variable {prog : Program} {w : World} {A : Around} {E : Value → Shared → Prop} {s s₀ s' : Shared} {tk : Nat} {d : Nat} {z : Heap} {ro rot pend qu : Addr} {op ser : Int} {W : List WR} {Q : Value → Shared → Prop} {env : Env} {ls l1 l2 : List (Addr × List Value)} {l cl : List (Str × Value)} {N : List Addr}
/-- reads have been let go -/
theorem Lw.advanced {W1 W2 : List WR} {x : WR} {q' : Addr} {vs' : List Value} {t0 t1 : Tok} (L : Lw prog w s₀ env z s ls ro rot pend qu op ser (W1 ++ x :: W2)) (F : Fm [] s₀ env l cl s) (e : Ext [rot, pend] s s') (hq : s.heap.get? q' = none)
    (T : Fd s'.heap rot [("option", .int op t0), ("serial", .int ser t1), ("pending", .ref pend), ("queue", .ref q')]) (hp : s'.heap.DictOf (bytesKind prog w) pend (pkv W2)) (hl : s'.heap.PlainList q' vs'.toArray) (hvs : P2 IsN vs' W2) :
    Lw prog w s₀ env z s' ls ro rot pend q' op ser W2 ∧ Fm [] s₀ env l cl s' := by
  have hm2 : ∀ a ∈ ([rot, pend] : List Addr), a ∈ muts ls rot pend qu (W1 ++ x :: W2) := fun a m => mu3 (by simp only [List.mem_cons, List.not_mem_nil, or_false] at m ⊢; exact m.elim .inl fun h => .inr (.inl h))
  have F' := L.fm F e hm2
  have hsub : ∀ a ∈ muts ls rot pend q' W2, a = q' ∨ a ∈ muts ls rot pend qu (W1 ++ x :: W2) := fun a ha => by
    simp only [muts, List.map_append, List.map_cons, List.mem_append, List.mem_cons] at ha ⊢
    rcases ha with h | h | h | h | h
    · exact .inr (.inl h)
    · exact .inr (.inr (.inl h))
    · exact .inr (.inr (.inr (.inl h)))
    · exact .inl h
    · exact .inr (.inr (.inr (.inr (.inr (.inr (.inr h))))))
  have hqm : q' ∉ muts ls rot pend qu (W1 ++ x :: W2) := fun h => by obtain ⟨⟨o, ho⟩, _⟩ := L.has _ h; rw [hq] at ho; cases ho
  have hqz : z.get? q' = none := by
    cases q : z.get? q' with
    | none => rfl
    | some o => rw [L.sub _ _ q] at hq; cases hq
  have ap := L.ro_.apart
  have hv : ∀ y ∈ W2, VA prog w s'.heap y.k y.acks := fun y hy => by
    have hy' : y ∈ W1 ++ x :: W2 := List.mem_append.mpr (.inr (List.mem_cons_of_mem _ hy))
    obtain ⟨a, b⟩ := L.ro_.votes y hy'
    have hyk : y.k ∈ (W1 ++ x :: W2).map (·.k) := List.mem_map.mpr ⟨y, hy', rfl⟩
    refine ⟨dctSub a fun o q => e.keep y.k o (fun m => ?_) q, b⟩
    simp only [List.mem_cons, List.not_mem_nil, or_false] at m
    rcases m with h | h
    · exact (List.nodup_cons.mp ap).1 (by rw [← h]; simp only [List.mem_cons]; exact .inr (.inr hyk))
    · exact (List.nodup_cons.mp (List.nodup_cons.mp ap).2).1 (by rw [← h]; simp only [List.mem_cons]; exact .inr hyk)
  have hnd := L.nd
  have hap := List.nodup_append.mp hnd
  have hk2 : ∀ a ∈ W2.map (·.k), a ∈ (W1 ++ x :: W2).map (·.k) := fun a ha => by rw [List.map_append, List.map_cons]; exact List.mem_append.mpr (.inr (List.mem_cons_of_mem _ ha))
  have X := L.ro_.advanced T hp hl hvs hv hqz fun h => hqm <| by
    refine List.mem_append.mpr (.inr ?_)
    simp only [List.mem_cons] at h ⊢
    rcases h with h | h | h
    · exact .inl h
    · exact .inr (.inl h)
    · exact .inr (.inr (.inr (hk2 _ h)))
  refine ⟨⟨L.sub.ext e fun a m => (L.off a (hm2 a m)).1, fun p hp => plExt (L.lists p hp) e fun m => ?_, X, fun a ha => ?_, L.loc, ?_⟩, F'⟩
  · refine hap.2.2 p.1 (List.mem_map.mpr ⟨p, hp, rfl⟩) p.1 ?_ rfl
    simp only [List.mem_cons, List.not_mem_nil, or_false] at m ⊢
    exact m.elim .inl fun h => .inr (.inl h)
  · rcases hsub a ha with rfl | h
    · exact ⟨hqz, F.new hq, none_of_ext F.ext (fun q => nomatch q) hq⟩
    · exact L.off a h
  · refine List.nodup_append.mpr ⟨hap.1, X.apart, fun a ha b hb e => ?_⟩
    subst e
    simp only [List.mem_cons] at hb
    rcases hb with h | h | h | h
    · exact hap.2.2 a ha a (by rw [h]; simp) rfl
    · exact hap.2.2 a ha a (by rw [h]; simp) rfl
    · exact hqm (h ▸ List.mem_append.mpr (.inl ha))
    · exact hap.2.2 a ha a (List.mem_cons_of_mem _ (List.mem_cons_of_mem _ (List.mem_cons_of_mem _ (hk2 _ h)))) rfl
end

/-! C24 -/
section
variable {prog : Program} {w : World} {A : Around} {E : Value → Shared → Prop} {s s₀ s' : Shared} {tk : Nat} {d n : Nat} {Q : Value → Shared → Prop} {x : Fx} {D : Dt}
theorem sTup {env : Env} {elts : List Expr} {k : Nat} {tpos pos : Pos} {value : Expr} {Q : Flow → Shared → Prop} (h : wpAny (model prog w) A (eval value env) (fun v s₁ => wpAny (model prog w) A (assign (.Tuple elts k tpos) env v) (fun _ => Q .next) E s₁) E (St s tk))
    (hs : swapsWithSole [.Tuple elts k tpos] value pos.line env = pure false := by kernel_rfl) (hw : swappedStores [.Tuple elts k tpos] value env = pure none := by kernel_rfl) : wpAny (model prog w) A (exec (.Assign [.Tuple elts k tpos] value pos) env) Q E (St s tk) := Assign_Tuple h hs hw
theorem exIf {env : Env} {st : Stmt} {a : Expr} {b c : List Stmt} {p : Pos} {Q : Flow → Shared → Prop} (e : st = .If a b c p) (h : wpAny (model prog w) A (exec (.If a b c p) env) Q E (St s tk)) : wpAny (model prog w) A (exec st env) Q E (St s tk) := e ▸ h
noncomputable abbrev Bl (x : Fx) (ah af : Addr) (g : Nat) (tg : Tok) : List (Str × Value) := [("gone", .int g tg), ("free", .ref af), ("hands", .ref ah), ("born", .int x.born x.tb), ("ro", .ref x.ro), ("option", .int x.op x.to_), ("conf", .ref x.cf), ("halves", .ref x.hl), ("nums", .ref x.nl)]
noncomputable abbrev CL (an aa am as_ : Addr) : List (Str × Value) := [("said", .ref as_), ("marks", .ref am), ("asked", .ref aa), ("names", .ref an)]
noncomputable def reqOf (y : Int) : Req := ⟨y / 18 % 5, 2 + y % 3, dataOf y, y / 9 % 2 == 0⟩
noncomputable abbrev Dt.lv (D : Dt) (vn va vm vs vh vf : List Value) : List (Addr × List Value) := [(D.an, vn), (D.aa, va), (D.am, vm), (D.as_, vs), (D.ah, vh), (D.af, vf)]
section
variable {vn va vm vs vh vf v' : List Value} {z : Heap} {ro rot pend qu : Addr} {op ser : Int} {W : List WR} {env : Env}
theorem appN (L : Lw prog w s₀ env z s (D.lv vn va vm vs vh vf) ro rot pend qu op ser W) (e : Ext [D.an] s s') (h : s'.heap.PlainList D.an v'.toArray) : Lw prog w s₀ env z s' (D.lv v' va vm vs vh vf) ro rot pend qu op ser W := Lw.app (l1 := []) L e h
theorem appA (L : Lw prog w s₀ env z s (D.lv vn va vm vs vh vf) ro rot pend qu op ser W) (e : Ext [D.aa] s s') (h : s'.heap.PlainList D.aa v'.toArray) : Lw prog w s₀ env z s' (D.lv vn v' vm vs vh vf) ro rot pend qu op ser W := Lw.app (l1 := [(D.an, vn)]) L e h
theorem appM (L : Lw prog w s₀ env z s (D.lv vn va vm vs vh vf) ro rot pend qu op ser W) (e : Ext [D.am] s s') (h : s'.heap.PlainList D.am v'.toArray) : Lw prog w s₀ env z s' (D.lv vn va v' vs vh vf) ro rot pend qu op ser W := Lw.app (l1 := [(D.an, vn), (D.aa, va)]) L e h
theorem appS (L : Lw prog w s₀ env z s (D.lv vn va vm vs vh vf) ro rot pend qu op ser W) (e : Ext [D.as_] s s') (h : s'.heap.PlainList D.as_ v'.toArray) : Lw prog w s₀ env z s' (D.lv vn va vm v' vh vf) ro rot pend qu op ser W := Lw.app (l1 := [(D.an, vn), (D.aa, va), (D.am, vm)]) L e h
theorem appH (L : Lw prog w s₀ env z s (D.lv vn va vm vs vh vf) ro rot pend qu op ser W) (e : Ext [D.ah] s s') (h : s'.heap.PlainList D.ah v'.toArray) : Lw prog w s₀ env z s' (D.lv vn va vm vs v' vf) ro rot pend qu op ser W := Lw.app (l1 := [(D.an, vn), (D.aa, va), (D.am, vm), (D.as_, vs)]) L e h
theorem appF (L : Lw prog w s₀ env z s (D.lv vn va vm vs vh vf) ro rot pend qu op ser W) (e : Ext [D.af] s s') (h : s'.heap.PlainList D.af v'.toArray) : Lw prog w s₀ env z s' (D.lv vn va vm vs vh v') ro rot pend qu op ser W := Lw.app (l1 := [(D.an, vn), (D.aa, va), (D.am, vm), (D.as_, vs), (D.ah, vh)]) L e h
theorem Lw.pn (L : Lw prog w s₀ env z s (D.lv vn va vm vs vh vf) ro rot pend qu op ser W) : s.heap.PlainList D.an vn.toArray := L.lists (D.an, vn) (by simp)
theorem Lw.pa (L : Lw prog w s₀ env z s (D.lv vn va vm vs vh vf) ro rot pend qu op ser W) : s.heap.PlainList D.aa va.toArray := L.lists (D.aa, va) (by simp)
theorem Lw.pm (L : Lw prog w s₀ env z s (D.lv vn va vm vs vh vf) ro rot pend qu op ser W) : s.heap.PlainList D.am vm.toArray := L.lists (D.am, vm) (by simp)
theorem Lw.ps (L : Lw prog w s₀ env z s (D.lv vn va vm vs vh vf) ro rot pend qu op ser W) : s.heap.PlainList D.as_ vs.toArray := L.lists (D.as_, vs) (by simp)
theorem Lw.ph (L : Lw prog w s₀ env z s (D.lv vn va vm vs vh vf) ro rot pend qu op ser W) : s.heap.PlainList D.ah vh.toArray := L.lists (D.ah, vh) (by simp)
theorem Lw.pf (L : Lw prog w s₀ env z s (D.lv vn va vm vs vh vf) ro rot pend qu op ser W) : s.heap.PlainList D.af vf.toArray := L.lists (D.af, vf) (by simp)
theorem mulN : D.an ∈ muts (D.lv vn va vm vs vh vf) rot pend qu W := by simp [muts]
theorem mulA : D.aa ∈ muts (D.lv vn va vm vs vh vf) rot pend qu W := by simp [muts]
theorem mulM : D.am ∈ muts (D.lv vn va vm vs vh vf) rot pend qu W := by simp [muts]
theorem mulS : D.as_ ∈ muts (D.lv vn va vm vs vh vf) rot pend qu W := by simp [muts]
theorem mulH : D.ah ∈ muts (D.lv vn va vm vs vh vf) rot pend qu W := by simp [muts]
theorem mulF : D.af ∈ muts (D.lv vn va vm vs vh vf) rot pend qu W := by simp [muts]
end
theorem byte_eq {a b : Int} (ha : 0 ≤ a) (ha' : a < 256) (hb : 0 ≤ b) (hb' : b < 256) (h : UInt8.ofNat a.toNat = UInt8.ofNat b.toNat) : a = b := by
  have := congrArg UInt8.toNat h
  rw [UInt8.toNat_ofNat', UInt8.toNat_ofNat'] at this
  omega
theorem b8_inj {a b : Int} (ha : 0 ≤ a) (ha' : a < 4294967296) (hb : 0 ≤ b) (hb' : b < 4294967296) (h : b8 a = b8 b) : a = b := by
  unfold b8 at h
  have h1 : b4 a = b4 b := Array.append_inj_left h rfl
  unfold b4 byteArr at h1
  have h2 := congrArg Array.toList h1
  simp only [List.map_cons, List.map_nil, List.cons.injEq, and_true] at h2
  obtain ⟨e1, e2, e3, e4⟩ := h2
  have e1 := byte_eq (by omega) (by omega) (by omega) (by omega) e1
  have e2 := byte_eq (by omega) (by omega) (by omega) (by omega) e2
  have e3 := byte_eq (by omega) (by omega) (by omega) (by omega) e3
  have e4 := byte_eq (by omega) (by omega) (by omega) (by omega) e4
  omega
theorem eqName {A : Around} {s : Shared} {born : Int} {b : Array UInt8} {t : Tok} {y : Value} {p : Nat} (h : IsNm born y p) : PySem.SeqAt.EqAt A s y (.bytes b t) (decide (nmv born p = b)) := by
  obtain ⟨t', rfl⟩ := h
  by_cases c : nmv born p = b
  · rw [decide_eq_true c, c]; exact eqBytes
  · rw [decide_eq_false c]; exact neBytes c
theorem nmv_eq {born : Int} {j : Nat} : nmv born j = b8 (born + (j : Int) + 1) := by
  unfold nmv
  rw [show born + ((j + 1 : Nat) : Int) = born + (j : Int) + 1 by omega]
theorem wall_len {born : Int} {reqs : List Req} {S : List (Int × Int)} : (wall born reqs S).length = reqs.length := by unfold wall; rw [List.length_map, List.length_zipIdx]
theorem wall_snoc {born : Int} {reqs : List Req} {r : Req} {S : List (Int × Int)} : wall born (reqs ++ [r]) S = wall born reqs S ++ [wrow born S (r, reqs.length)] := by
  unfold wall
  rw [List.zipIdx_append, List.map_append]
  simp
theorem w_names {x : Fx} {D : Dt} (h : D.W.map sig = (wall x.born D.v.reqs D.v.said).drop D.v.gone) : ∀ nm ∈ nms D.W, ∃ j, j < D.v.reqs.length ∧ nm = nmv x.born j := by
  intro nm hn
  obtain ⟨y, hy, rfl⟩ := List.mem_map.mp hn
  have : sig y ∈ (wall x.born D.v.reqs D.v.said).drop D.v.gone := h ▸ List.mem_map.mpr ⟨y, hy, rfl⟩
  have := List.mem_of_mem_drop this
  obtain ⟨⟨r, j⟩, hp, e⟩ := List.mem_map.mp this
  have hj := List.snd_lt_of_mem_zipIdx hp
  refine ⟨j, by simpa using hj, ?_⟩
  exact (congrArg (·.1) e).symm
theorem phAdd {y : Int} {ty tw tg : Tok} {wv rv iv : Value} {g : Nat} (ok : FxOk x) (hb : Base w s₀.heap) (O : Own s₀ (lenv n)) (hA : Lv d A) (hd : d < 320) (a : At prog w s₀ (lenv n) x D s) (h0 : 0 ≤ y) (hlen : D.v.reqs.length < 12) (hgf : D.gf ≤ D.v.reqs.length) (hg : Good x.H D.v)
    (F : Fm [] s₀ (lenv n) (("who", wv) :: ("r", rv) :: ("y", .int y ty) :: ("way", .int 0 tw) :: ("i", iv) :: Bl x D.ah D.af g tg) (CL D.an D.aa D.am D.as_) s) :
    wpAny (model prog w) A (exec (lbs 6) (lenv n)) (fun f s' => f = .next ∧ ∃ (D' : Dt) (s'' : Shared) (tk' : Nat) (t1 t2 : Tok), s' = St s'' tk' ∧ At prog w s₀ (lenv n) x D' s'' ∧ Fm [] s₀ (lenv n) (("who", .int 1 t1) :: ("r", .int (D.v.reqs.length : Nat) t2) :: ("way", .int 0 tw) :: ("i", iv) :: Bl x D'.ah D'.af g tg) (CL D'.an D'.aa D'.am D'.as_) s'' ∧
      D'.v = { D.v with reqs := D.v.reqs ++ [reqOf y] } ∧ D'.gf = D.gf) (fun _ _ => False) (St s tk) := by
  refine exIf (a := ?a) (b := ?b) (c := ?c) (p := ?p) ?e ?_
  case e => exact rfl
  have hz := Bz.of hb
  have hc := lcn n
  have L : Lw prog w s₀ (lenv n) D.z s (D.lv D.vn D.va D.vm D.vs D.vh D.vf) x.ro D.rot D.pend D.qu x.op (x.born + D.v.reqs.length) D.W := a.L
  kba_ints
  rw [show ((0 : Int) == 0) = true from rfl]
  kba_ints
  with_reducible refine sTup ?_
  kba_ints
  refine lawRequest (F.bz hz) hA (by omega) h0 fun T m tt s₂ tk₂ e₂ hT hM => ?_
  have hMz := hM _ (L.new F hc)
  obtain ⟨z₂, k₂, L₂, hMz⟩ : ∃ z₂, Sub D.z z₂ ∧ Lw prog w s₀ (lenv n) z₂ s₂ _ x.ro D.rot D.pend D.qu x.op _ D.W ∧ MsgAt z₂ m (2 + y % 3) (dataOf y) (y / 9 % 2 == 0) := ⟨_, (L.step0 e₂).full.1, (L.step0 e₂).full.2, hMz⟩
  have hTt : s₂.heap.IsTuple T #[.ref m, .bytes (dataOf y) tt] := ⟨_, hT, rfl, 0, rfl⟩
  with_reducible refine asg2 (F.step0 e₂) O hA hTt fun s₃ tk₃ e₃ F₃ => ?_
  have L₃ := L₂.loc1 hc e₃
  obtain ⟨t0, t1, I₃⟩ := L₃.ro_.inst L₃.sub
  kba_ints
  have hnew : b8 (x.born + D.v.reqs.length + 1) ∉ nms D.W := fun h => by
    obtain ⟨j, hj, e⟩ := w_names a.w _ h
    have := b8_inj (by have := ok.b0; omega) (by have := ok.b1; omega) (by have := ok.b0; omega) (by have := ok.b1; omega) e
    omega
  have hWl : D.W.length + 1 < 64 := by
    have := congrArg List.length a.w
    rw [List.length_map, List.length_drop] at this
    unfold wall at this
    rw [List.length_map, List.length_zipIdx] at this
    omega
  refine roAdd (L₃.bz F₃ hb fun b h => mu3 h) hA (by omega) L₃.ro_ L₃.sub (by have := ok.b0; omega) (by have := ok.b1; omega) hnew fun st ds k t0' t1' t2' t3' t4' vs₄ s₄ tk₄ e₄ hst hds hk nk1 nk2 hv4 I4 T4 hvs4 hl4 hp4 => ?_
  obtain ⟨z₄, k₄, L₄, F₄⟩ : ∃ z₄, Sub z₂ z₄ ∧ Lw prog w s₀ (lenv n) z₄ s₄ _ x.ro D.rot D.pend D.qu x.op _ _ ∧ _ := ⟨_, L₃.added F₃ hc e₄ (x := ⟨b8 (x.born + D.v.reqs.length + 1), reqOf y, [], st, k⟩) rfl hst hds hk nk1 nk2 hv4 I4 hMz T4 hvs4 hl4 hp4 hnew hWl⟩
  with_reducible refine stoL F₄ O fun s₅ tk₅ e₅ F₅ => ?_
  have L₅ := L₄.loc1 hc e₅
  clear L₃ L₂ F₃ F₄ F I₃ I4 T4 hl4 hp4 hv4
  kba_ints
  have hnin : (List.range D.v.reqs.length).any (fun j => decide (nmv x.born j = b8 (x.born + D.v.reqs.length + 1))) = false := by
    rw [List.any_eq_false]
    intro j hj h
    have hj := List.mem_range.mp hj
    have := b8_inj (by have := ok.b0; omega) (by have := ok.b1; omega) (by have := ok.b0; omega) (by have := ok.b1; omega) (of_decide_eq_true h)
    omega
  have hcp : ∀ (y : Value) (p q : Nat), IsNm x.born y p → IsNm x.born y q → decide (nmv x.born p = b8 (x.born + D.v.reqs.length + 1)) = decide (nmv x.born q = b8 (x.born + D.v.reqs.length + 1)) := fun y p q h1 h2 => by
    obtain ⟨t, rfl⟩ := h1
    obtain ⟨t', e⟩ := h2
    injection e with e _
    rw [e]
  with_reducible refine lIn (R := IsNm x.born) (eqv := fun j => decide (nmv x.born j = b8 (x.born + D.v.reqs.length + 1))) L₅.pn a.n hcp (fun y p h1 => eqName h1) ?_
  rw [hnin]
  kba_ints
  with_reducible refine yLen (by rw [b8_size]; decide) fun _ _ => ?_
  rw [b8_size]
  kba_ints
  rw [show (((8 : Nat) : Int) == 0) = false from rfl]
  kba_ints
  have hvnl : D.vn.length = D.v.reqs.length := by rw [a.n.len, List.length_range]
  have hval : D.va.length = D.v.reqs.length := by rw [a.a.len, List.length_map]
  have hvml := a.m.len
  with_reducible refine mAppend L₅.pn ?_
  kba_ints
  with_reducible refine lAppend L₅.pn (by rw [sizeLine_eq]; omega) fun s₆ tk₆ e₆ h₆ => ?_
  have L₆ := appN L₅ e₆ h₆
  have F₆ := L₅.fm1 F₅ e₆ mulN
  obtain ⟨dx, el, q0, q1, q2, q3, q4, q5, q6, q7, qc, I₆, _⟩ := (hMz.sub k₄).sub L₆.sub
  clear F₅ L₅ L₄
  kba_ints
  with_reducible refine mAppend L₆.pa ?_
  kba_ints
  refine messageRow (F₆.bz hz) hA (by omega) ((hMz.sub k₄).sub L₆.sub) fun v s₇ tk₇ e₇ hv => ?_
  have F₇ := F₆.step0 e₇
  kba_ints
  with_reducible refine newT (le_line rfl) fun T₈ s₈ tk₈ e₈ hT₈ hoT₈ => ?_
  have F₈ := F₇.step0 e₈
  have L₈' := (L₆.step0 e₇).step0 e₈
  have hrow : Is s₈.heap 4 (.ref T₈) (askedP (reqOf y)) := isTup hoT₈ ⟨isInt, hv.sub e₈.sub, trivial⟩
  have hrowz := L₈'.is F₈ hc hrow
  obtain ⟨z₈, k₈, L₈, hrowz⟩ : ∃ z₈, Sub _ z₈ ∧ Lw prog w s₀ (lenv n) z₈ s₈ _ x.ro D.rot D.pend D.qu x.op _ _ ∧ Is z₈ 4 (.ref T₈) (askedP (reqOf y)) := ⟨_, L₈'.full.1, L₈'.full.2, hrowz⟩
  clear L₈' L₆ F₆ F₇ I₆ e₇ e₈
  kba_ints
  with_reducible refine lAppend L₈.pa (by rw [sizeLine_eq]; omega) fun s₉ tk₉ e₉ h₉ => ?_
  have L₉ := appA L₈ e₉ h₉
  have F₉ := L₈.fm1 F₈ e₉ mulA
  clear L₈ F₈
  kba_ints
  with_reducible refine mAppend L₉.pm ?_
  kba_ints
  with_reducible refine lAppend L₉.pm (by rw [sizeLine_eq]; omega) fun s₁₀ tk₁₀ e₁₀ h₁₀ => ?_
  have L₁₀ := appM L₉ e₁₀ h₁₀
  have F₁₀ := L₉.fm1 F₉ e₁₀ mulM
  clear L₉ F₉
  kba_ints
  with_reducible refine lLen L₁₀.pn (by rw [List.length_append]; simp only [List.length_cons, List.length_nil]; omega) fun _ _ => ?_
  kba_ints
  rw [show ((D.vn ++ [Value.bytes (b8 (x.born + D.v.reqs.length + 1)) t4']).length : Int) - 1 = ((D.v.reqs.length : Nat) : Int) by rw [List.length_append]; simp only [List.length_cons, List.length_nil]; omega]
  with_reducible refine stoL F₁₀ O fun s₁₁ tk₁₁ e₁₁ F₁₁ => ?_
  have L₁₁ := L₁₀.loc1 hc e₁₁
  kba_ints
  with_reducible refine stoL F₁₁ O fun s₁₂ tk₁₂ e₁₂ F₁₂ => ?_
  have L₁₂ := L₁₁.loc1 hc e₁₂
  kba_ints
  have kz := (k₂.trans k₄).trans k₈
  have F' : Fm [] s₀ (lenv n) (("who", .int 1 _) :: ("r", .int (D.v.reqs.length : Nat) _) :: ("way", .int 0 tw) :: ("i", iv) :: Bl x D.ah D.af g tg) (CL D.an D.aa D.am D.as_) s₁₂ := F₁₂.to ⟨by lsm_bools, by lsm_bools, by lsm_bools, by lsm_bools, by lsm_bools, by lsm_bools, by lsm_bools, by lsm_bools, by lsm_bools, by lsm_bools, by lsm_bools, by lsm_bools, by lsm_bools, trivial⟩
  refine ⟨rfl, ⟨z₈, D.an, D.aa, D.am, D.as_, D.ah, D.af, D.rot, D.pend, D.qu, D.vn ++ [.bytes (b8 (x.born + D.v.reqs.length + 1)) t4'], D.va ++ [.ref T₈], D.vm ++ [.bytes (dataOf y) tt], D.vs, D.vh, D.vf, D.W ++ [⟨b8 (x.born + D.v.reqs.length + 1), reqOf y, [], st, k⟩], { D.v with reqs := D.v.reqs ++ [reqOf y] }, D.gf⟩, s₁₂, _, _, _, rfl, ?_, F', rfl, rfl⟩
  refine { L := ?_, fn := a.fn.sub kz, fh := a.fh.sub kz, fc := a.fc.sub kz, n := ?_, a := ?_, m := ?_, s := a.s.mono fun _ _ q => q.sub kz, h := a.h, f := ?_, w := ?_, ex := fun p hp => kz _ _ (a.ex p hp) }
  · rw [show (({ D.v with reqs := D.v.reqs ++ [reqOf y] } : LV).reqs.length : Int) = D.v.reqs.length + 1 by simp, ← Int.add_assoc]
    exact L₁₂
  · show P2 (IsNm x.born) _ (List.range (D.v.reqs ++ [reqOf y]).length)
    rw [List.length_append]
    show P2 (IsNm x.born) _ (List.range (D.v.reqs.length + 1))
    rw [List.range_succ]
    exact a.n.snoc ⟨t4', by rw [nmv_eq]⟩
  · show P2 _ _ ((D.v.reqs ++ [reqOf y]).map askedP)
    rw [List.map_append]
    exact (a.a.mono fun _ _ q => q.sub kz).snoc hrowz
  · exact a.m.snoc ⟨tt, rfl⟩
  · show P2 _ _ (((D.v.reqs ++ [reqOf y]).take D.gf).map askedP)
    rw [List.take_append_of_le_length hgf]
    exact a.f.mono fun _ _ q => q.sub kz
  · show (D.W ++ [_]).map sig = (wall x.born (D.v.reqs ++ [reqOf y]) D.v.said).drop D.v.gone
    rw [wall_snoc, List.drop_append_of_le_length (by rw [wall_len]; exact hg.gle), ← a.w, List.map_append]
    have h0 : heardL D.v.said (D.v.reqs.length : Nat) = [] := by
      unfold heardL
      rw [List.filter_eq_nil_iff.mpr, List.map_nil]
      intro p hp h
      obtain ⟨j, hj, hl⟩ := hg.sr p hp
      have := of_decide_eq_true (by simpa using h : decide (p.1 = ((D.v.reqs.length : Nat) : Int)) = true)
      omega
    show _ ++ [sig _] = _ ++ [_]
    unfold sig wrow
    rw [h0, nmv_eq]
end

/-! C25 -/
section
variable {prog : Program} {w : World} {A : Around} {E : Value → Shared → Prop} {s s₀ s' : Shared} {tk : Nat} {d n : Nat} {Q : Value → Shared → Prop} {x : Fx} {D : Dt}
noncomputable def noname : Array UInt8 := ([110, 111, 32, 115, 117, 99, 104, 32, 114, 111, 117, 110, 100] : List UInt8).toArray
noncomputable def nameOf (born : Int) (r : Int) : Array UInt8 := if 0 ≤ r then nmv born r.toNat else noname
theorem phName {r : Int} {tn tr tg : Tok} {wv yv iv : Value} {g : Nat} (hA : Lv d A) (hb : Base w s₀.heap) (O : Own s₀ (lenv n)) (a : At prog w s₀ (lenv n) x D s) (hr : r < D.v.reqs.length)  (hlen : D.v.reqs.length ≤ 12)
    (F : Fm [] s₀ (lenv n) (("name", .bytes noname tn) :: ("who", wv) :: ("r", .int r tr) :: ("way", yv) :: ("i", iv) :: Bl x D.ah D.af g tg) (CL D.an D.aa D.am D.as_) s) :
    wpAny (model prog w) A (exec (lbs 8) (lenv n)) (fun f s' => f = .next ∧ ∃ (s'' : Shared) (tk' : Nat) (t1 : Tok), s' = St s'' tk' ∧ At prog w s₀ (lenv n) x D s'' ∧
      Fm [] s₀ (lenv n) (("name", .bytes (nameOf x.born r) t1) :: ("who", wv) :: ("r", .int r tr) :: ("way", yv) :: ("i", iv) :: Bl x D.ah D.af g tg) (CL D.an D.aa D.am D.as_) s'') (fun _ _ => False) (St s tk) := by
  refine exIf (a := ?a) (b := ?b) (c := ?c) (p := ?p) ?e ?_
  case e => exact rfl
  have hz := Bz.of hb
  kba_ints
  by_cases h0 : 0 ≤ r
  · rw [decide_eq_true h0]
    kba_ints
    have hj : r.toNat < D.v.reqs.length := by omega
    obtain ⟨v, hv, t, rfl⟩ := a.n.get (i := r.toNat) (b := r.toNat) (by rw [List.getElem?_range hj])
    with_reducible refine lItem a.pn h0 hv (by omega) ?_
    have e : nmv x.born r.toNat = nameOf x.born r := by unfold nameOf; rw [if_pos h0]
    rw [e]
    with_reducible refine stoL F O fun s₂ tk₂ e₂ F₂ => ?_
    kba_ints
    exact ⟨rfl, s₂, _, t, rfl, a.loc e₂, F₂.to ⟨by lsm_bools, by lsm_bools, by lsm_bools, by lsm_bools, by lsm_bools, by lsm_bools, by lsm_bools, by lsm_bools, by lsm_bools, by lsm_bools, by lsm_bools, by lsm_bools, by lsm_bools, by lsm_bools, trivial⟩⟩
  · rw [decide_eq_false h0]
    kba_ints
    have e : noname = nameOf x.born r := by unfold nameOf; rw [if_neg h0]
    rw [e] at F
    exact ⟨rfl, s, _, tn, rfl, a, F⟩
theorem phSkip {way : Int} {ty tw tg : Tok} {wv rv iv yv : Value} {g : Nat} (hw : way ≠ 0) (hb : Base w s₀.heap)
    (F : Fm [] s₀ (lenv n) (("who", wv) :: ("r", rv) :: ("y", yv) :: ("way", .int way tw) :: ("i", iv) :: Bl x D.ah D.af g tg) (CL D.an D.aa D.am D.as_) s) {Q : Flow → Shared → Prop} (h : ∀ tk', Q .next (St s tk')) :
    wpAny (model prog w) A (exec (lbs 6) (lenv n)) Q (fun _ _ => False) (St s tk) := by
  refine exIf (a := ?a) (b := ?b) (c := ?c) (p := ?p) ?e ?_
  case e => exact rfl
  have hz := Bz.of hb
  kba_ints
  rw [show (way == 0) = false from beq_eq_false_iff_ne.mpr hw]
  kba_ints
  exact h _
end

/-! C26 -/
section
variable {prog : Program} {w : World} {A : Around} {E : Value → Shared → Prop} {s s₀ s' : Shared} {tk : Nat} {d n : Nat} {Q : Value → Shared → Prop} {x : Fx} {D : Dt} {l cl : List (Str × Value)} {env : Env}
noncomputable def LetZ (z : Heap) (a : Addr) (us : List Value) (rs : List Req) : Prop := z.PlainList a us.toArray ∧ P2 (fun v r => ∃ T m t, v = .ref T ∧ z.IsTuple T #[.int r.idx t, .ref m] ∧ MsgAt z m r.frm r.dat r.var) us rs
theorem LetZ.sub {z z' : Heap} {a : Addr} {us : List Value} {rs : List Req} (k : Sub z z') (h : LetZ z a us rs) : LetZ z' a us rs :=
  ⟨plSub h.1 k, h.2.mono fun _ _ ⟨T, m, t, e, ⟨o, ho, r⟩, M⟩ => ⟨T, m, t, e, ⟨o, k _ _ ho, r⟩, M.sub k⟩⟩
theorem wall_get {born : Int} {reqs : List Req} {S : List (Int × Int)} {j : Nat} : (wall born reqs S)[j]? = reqs[j]?.map fun r => (nmv born j, r, heardL S j) := by
  unfold wall
  rw [List.getElem?_map, List.getElem?_zipIdx, Option.map_map]
  cases reqs[j]? with
  | none => rfl
  | some r => simp [wrow]
theorem wall_req {born : Int} {reqs : List Req} {S : List (Int × Int)} : (wall born reqs S).map (·.2.1) = reqs := by
  apply List.ext_getElem?
  intro j
  rw [List.getElem?_map, wall_get, Option.map_map]
  cases reqs[j]? <;> rfl
theorem w_reqs (h : D.W.map sig = (wall x.born D.v.reqs D.v.said).drop D.v.gone) : D.W.map (·.req) = D.v.reqs.drop D.v.gone := by
  have := congrArg (fun l => l.map (fun p : Array UInt8 × Req × List Int => p.2.1)) h
  rw [List.map_map, List.map_drop, wall_req] at this
  exact this
theorem nameOf_size {born r : Int} (h : 0 ≤ r) : (nameOf born r).size = 8 := by unfold nameOf; rw [if_pos h]; exact b8_size _
theorem name_at (ok : FxOk x) (h : D.W.map sig = (wall x.born D.v.reqs D.v.said).drop D.v.gone) (hlen : D.v.reqs.length ≤ 12) {r : Int} (hr : r < D.v.reqs.length) {W1 W2 : List WR} {y : WR} (hW : D.W = W1 ++ y :: W2) (hy : y.name = nameOf x.born r) : r = (D.v.gone + W1.length : Nat) := by
  have hi : D.W[W1.length]? = some y := by rw [hW]; simp
  have h1 : (D.W.map sig)[W1.length]? = some (sig y) := by rw [List.getElem?_map, hi]; rfl
  rw [h, List.getElem?_drop, wall_get] at h1
  obtain ⟨rq, hrq, e⟩ := Option.map_eq_some_iff.mp h1
  have hlt := (List.getElem?_eq_some_iff.mp hrq).1
  have hn : nmv x.born (D.v.gone + W1.length) = nameOf x.born r := (congrArg (·.1) e).trans hy
  by_cases h0 : 0 ≤ r
  · unfold nameOf at hn
    rw [if_pos h0] at hn
    have := b8_inj (by have := ok.b0; omega) (by have := ok.b1; omega) (by have := ok.b0; omega) (by have := ok.b1; omega) hn
    omega
  · unfold nameOf at hn
    rw [if_neg h0] at hn
    have := congrArg Array.size hn
    rw [show (nmv x.born (D.v.gone + W1.length)).size = 8 from b8_size _] at this
    exact absurd this (by decide)
theorem name_in (h : D.W.map sig = (wall x.born D.v.reqs D.v.said).drop D.v.gone) {r : Int} (hr : r < D.v.reqs.length) (h0 : 0 ≤ r) (hg : D.v.gone ≤ r.toNat) : nameOf x.born r ∈ nms D.W := by
  have hlt : r.toNat < D.v.reqs.length := by omega
  have h1 : ((wall x.born D.v.reqs D.v.said).drop D.v.gone)[r.toNat - D.v.gone]? = some (nmv x.born r.toNat, D.v.reqs[r.toNat], heardL D.v.said r.toNat) := by
    rw [List.getElem?_drop, wall_get, show D.v.gone + (r.toNat - D.v.gone) = r.toNat by omega, List.getElem?_eq_getElem hlt]; rfl
  rw [← h, List.getElem?_map] at h1
  obtain ⟨y, hy, e⟩ := Option.map_eq_some_iff.mp h1
  refine List.mem_map.mpr ⟨y, List.mem_of_getElem? hy, ?_⟩
  unfold nameOf
  rw [if_pos h0]
  exact congrArg (·.1) e
noncomputable def advG (v : LV) (r : Int) : Nat := if 0 ≤ r ∧ v.gone ≤ r.toNat then r.toNat + 1 else v.gone
theorem advAt {r : Int} {t : Tok} (ok : FxOk x) (hb : Base w s₀.heap) (hA : Lv d A) (hd : d < 400) (hc : (env.cells.map (·.1)).Nodup) (a : At prog w s₀ env x D s) (F : Fm [] s₀ env l cl s) (hlen : D.v.reqs.length ≤ 12) (hr : r < D.v.reqs.length)
    (h : ∀ z' q' W' p us s' tk', Sub D.z z' → At prog w s₀ env x { D with z := z', qu := q', W := W', v := { D.v with gone := advG D.v r } } s' → Fm [] s₀ env l cl s' → LetZ z' p us ((D.v.reqs.drop D.v.gone).take (advG D.v r - D.v.gone)) → Q (.ref p) (St s' tk')) :
    wpAny (model prog w) A (call (.ref 135) [.ref x.ro, .bytes (nameOf x.born r) t]) Q E (St s tk) := by
  have L := a.L
  refine roAdvance (L.bz F hb fun b m => mu3 (by simp only [List.mem_cons, List.not_mem_nil, or_false] at m ⊢; exact m.elim .inl fun h => .inr (.inl h))) hA (by omega) L.ro_ L.sub (fun hno p s₂ tk₂ e₂ hp hl => ?_) (fun W1 y W2 hW hy p q' us vs' t0 t1 s₂ tk₂ e₂ hp hq' hpq hl hus T hpen hlq hvs => ?_)
  · have hg : advG D.v r = D.v.gone := by
      unfold advG
      rw [if_neg]
      rintro ⟨h0, hg⟩
      exact hno (name_in a.w hr h0 hg)
    have a₂ := a.step0 e₂
    have F₂ := F.step0 e₂
    obtain ⟨z', k, a', hn⟩ : ∃ z', Sub D.z z' ∧ At prog w s₀ env x { D with z := z' } s₂ ∧ New s s₂ z' := ⟨_, a₂.L.full.1, a₂.full, L.new F hc⟩
    have := h z' D.qu D.W p [] s₂ tk₂ k
    rw [hg] at this
    refine this a' F₂ ⟨plNew hl hp hn, ?_⟩
    rw [Nat.sub_self, List.take_zero]; trivial
  · have hrW := name_at ok a.w hlen hr hW hy
    have hL : D.W.length = D.v.reqs.length - D.v.gone := by
      have := congrArg List.length (w_reqs a.w)
      rwa [List.length_map, List.length_drop] at this
    have hWl : D.W.length = W1.length + 1 + W2.length := by rw [hW, List.length_append, List.length_cons]; omega
    have hg : advG D.v r = D.v.gone + (W1.length + 1) := by
      unfold advG
      rw [if_pos (by omega)]
      omega
    have L' : Lw prog w s₀ env D.z s D.ls x.ro D.rot D.pend D.qu x.op (x.born + D.v.reqs.length) (W1 ++ y :: W2) := hW ▸ L
    obtain ⟨L₂, F₂⟩ := L'.advanced F e₂ hq' T hpen hlq hvs
    obtain ⟨z', k, L₃, hn, hnt⟩ : ∃ z', Sub D.z z' ∧ Lw prog w s₀ env z' s₂ D.ls x.ro D.rot D.pend q' x.op (x.born + D.v.reqs.length) W2 ∧ z'.PlainList p us.toArray ∧ ∀ b vs, s₂.heap.IsTuple b vs → z'.IsTuple b vs := by
      refine ⟨_, L₂.full.1, L₂.full.2, ?_, fun b vs ht => ?_⟩
      · obtain ⟨nn, ho⟩ := hl
        refine ⟨nn, hideAll_get _ ho fun m => ?_⟩
        rcases List.mem_append.mp m with h | h
        · have : p = q' ∨ p ∈ muts D.ls D.rot D.pend D.qu (W1 ++ y :: W2) := by
            simp only [muts, List.map_append, List.map_cons, List.mem_append, List.mem_cons] at h ⊢
            rcases h with h | h | h | h | h
            · exact .inr (.inl h)
            · exact .inr (.inr (.inl h))
            · exact .inr (.inr (.inr (.inl h)))
            · exact .inl h
            · exact .inr (.inr (.inr (.inr (.inr (.inr (.inr h))))))
          rcases this with h | h
          · exact hpq h
          · obtain ⟨⟨o', ho'⟩, _⟩ := L'.has _ h; rw [hp] at ho'; cases ho'
        · obtain ⟨⟨o', ho'⟩, _⟩ := F.has hc _ h; rw [hp] at ho'; cases ho'
      · obtain ⟨o, ho, r⟩ := id ht
        exact ⟨o, hideAll_get _ ho fun m => (List.mem_append.mp m).elim (fun h => (L₂.has b h).2 vs ht) fun h => (F₂.has hc b h).2 vs ht, r⟩
    have := h z' q' W2 p us s₂ tk₂ k
    rw [hg] at this
    refine this { L := L₃, fn := a.fn.sub k, fh := a.fh.sub k, fc := a.fc.sub k, n := a.n, a := a.a.mono fun _ _ q => q.sub k, m := a.m, s := a.s.mono fun _ _ q => q.sub k, h := a.h, f := a.f.mono fun _ _ q => q.sub k, w := ?_, ex := fun p hp => k _ _ (a.ex p hp) } F₂ ⟨hn, ?_⟩
    · show W2.map sig = (wall x.born D.v.reqs D.v.said).drop (D.v.gone + (W1.length + 1))
      rw [← List.drop_drop, ← a.w, hW, show W1 ++ y :: W2 = (W1 ++ [y]) ++ W2 by rw [List.append_assoc]; rfl, List.map_append]
      exact (List.drop_left' (by simp)).symm
    · rw [Nat.add_sub_cancel_left, ← w_reqs a.w, hW, show W1 ++ y :: W2 = (W1 ++ [y]) ++ W2 by rw [List.append_assoc]; rfl, List.map_append, List.take_left' (by simp)]
      have : ∀ {us : List Value} {Ws : List WR}, P2 (LetAt D.z s₂.heap) us Ws → P2 (fun v (r : Req) => ∃ T m t, v = .ref T ∧ z'.IsTuple T #[.int r.idx t, .ref m] ∧ MsgAt z' m r.frm r.dat r.var) us (Ws.map (·.req)) := by
        intro us
        induction us with
        | nil => intro Ws h; cases Ws with
          | nil => trivial
          | cons _ _ => exact h.elim
        | cons u us ih => intro Ws h; cases Ws with
          | nil => exact h.elim
          | cons y Ws =>
            obtain ⟨⟨T, m, t, e, ht, M⟩, h2⟩ := h
            exact ⟨⟨T, m, t, e, hnt _ _ ht, M.sub k⟩, ih h2⟩
      exact this hus
end

/-! C27 -/
section
variable {prog : Program} {w : World} {A : Around} {E : Value → Shared → Prop} {s s₀ s' : Shared} {tk : Nat} {d n : Nat} {Q : Value → Shared → Prop} {x : Fx} {D : Dt} {l cl : List (Str × Value)} {env : Env}
noncomputable def handV (v : LV) (r : Int) : LV := { v with hands := if 0 ≤ r then v.hands ++ [r] else v.hands, gone := advG v r }
noncomputable def saidV (S : List (Int × Int)) (r who : Int) : List (Int × Int) := if 0 ≤ r ∧ (r, who) ∉ S then S ++ [(r, who)] else S
noncomputable def ansV (H : List (List Int)) (v : LV) (r who : Int) : LV :=
  { v with said := saidV v.said r who, gone := if 0 ≤ r ∧ v.gone ≤ r.toNat ∧ winsV H (heardV (saidV v.said r who) r) = true then r.toNat + 1 else v.gone }
theorem phHand {r : Int} {tn tr tw tg : Tok} {wv iv : Value} {g : Nat} {l0 : Addr} (ok : FxOk x) (hA : Lv d A) (hd : d < 400) (hb : Base w s₀.heap) (O : Own s₀ (lenv n)) (a : At prog w s₀ (lenv n) x D s) (hr : r < D.v.reqs.length) (hlen : D.v.reqs.length ≤ 12) (hhl : D.v.hands.length ≤ 12)
    (F : Fm [] s₀ (lenv n) (("let", .ref l0) :: ("name", .bytes (nameOf x.born r) tn) :: ("who", wv) :: ("r", .int r tr) :: ("way", .int 4 tw) :: ("i", iv) :: Bl x D.ah D.af g tg) (CL D.an D.aa D.am D.as_) s) :
    wpAny (model prog w) A (exec (lbs 10) (lenv n)) (fun f s' => f = .next ∧ ∃ (D' : Dt) (p : Addr) (us : List Value) (s'' : Shared) (tk' : Nat), s' = St s'' tk' ∧ At prog w s₀ (lenv n) x D' s'' ∧
      Fm [] s₀ (lenv n) (("let", .ref p) :: ("i", iv) :: Bl x D'.ah D'.af g tg) (CL D'.an D'.aa D'.am D'.as_) s'' ∧ LetZ D'.z p us ((D.v.reqs.drop D.v.gone).take (D'.v.gone - D.v.gone)) ∧ D'.v = handV D.v r ∧ D'.gf = D.gf) (fun _ _ => False) (St s tk) := by
  refine exIf (a := ?a) (b := ?b) (c := ?c) (p := ?p) ?e ?_
  case e => exact rfl
  have hz := Bz.of hb
  have hc := lcn n
  kba_ints
  rw [show ((4 : Int) == 4) = true from rfl]
  kba_ints
  by_cases h0 : 0 ≤ r
  · rw [decide_eq_true h0]
    kba_ints
    have hhv := a.h.len
    with_reducible refine mAppend a.ph ?_
    kba_ints
    with_reducible refine lAppend a.ph (by rw [sizeLine_eq]; omega) fun s₂ tk₂ e₂ h₂ => ?_
    have F₂ := a.L.fm1 F e₂ (mulH (D := D))
    have L₂ := appH (D := D) a.L e₂ h₂
    have a₂ : At prog w s₀ (lenv n) x { D with vh := D.vh ++ [.int r tr], v := { D.v with hands := D.v.hands ++ [r] } } s₂ :=
      { L := L₂, fn := a.fn, fh := a.fh, fc := a.fc, n := a.n, a := a.a, m := a.m, s := a.s, h := a.h.snoc ⟨_, rfl⟩, f := a.f, w := a.w, ex := a.ex }
    obtain ⟨t0, t1, I₂⟩ := L₂.ro_.inst L₂.sub
    kba_ints
    refine advAt ok hb hA hd hc a₂ F₂ hlen hr fun z' q' W' p us s₃ tk₃ k a₃ F₃ lz => ?_
    with_reducible refine stoL F₃ O fun s₄ tk₄ e₄ F₄ => ?_
    kba_ints
    have a₄ := a₃.loc e₄
    refine ⟨rfl, _, p, us, s₄, _, rfl, a₄, F₄.to ⟨by lsm_bools, by lsm_bools, by lsm_bools, by lsm_bools, by lsm_bools, by lsm_bools, by lsm_bools, by lsm_bools, by lsm_bools, by lsm_bools, by lsm_bools, trivial⟩, lz, ?_, rfl⟩
    show LV.mk _ _ _ _ = _
    unfold handV
    rw [if_pos h0]
    rfl
  · rw [decide_eq_false h0]
    obtain ⟨t0, t1, I₂⟩ := a.L.ro_.inst a.sub
    kba_ints
    refine advAt ok hb hA hd hc a F hlen hr fun z' q' W' p us s₃ tk₃ k a₃ F₃ lz => ?_
    with_reducible refine stoL F₃ O fun s₄ tk₄ e₄ F₄ => ?_
    kba_ints
    have a₄ := a₃.loc e₄
    refine ⟨rfl, _, p, us, s₄, _, rfl, a₄, F₄.to ⟨by lsm_bools, by lsm_bools, by lsm_bools, by lsm_bools, by lsm_bools, by lsm_bools, by lsm_bools, by lsm_bools, by lsm_bools, by lsm_bools, by lsm_bools, trivial⟩, lz, ?_, rfl⟩
    show LV.mk _ _ _ _ = _
    unfold handV
    rw [if_neg h0]
end

/-! C28 -/
section
variable {prog : Program} {w : World} {A : Around} {E : Value → Shared → Prop} {s s₀ s' : Shared} {tk : Nat} {d n : Nat} {Q : Value → Shared → Prop} {x : Fx} {D : Dt} {l cl : List (Str × Value)} {env : Env}
noncomputable def lels (i : Nat) : Stmt := (match lbs 10 with | .If _ _ c _ => c | _ => []).getD i (.Pass default)
theorem eqPr {y : Value} {p : Int × Int} {T : Addr} {r who : Int} {tr tw : Tok} (hA : Lv d A) (hd : d < 800) (hy : Pr s.heap y p) (hT : s.heap.IsTuple T #[.int r tr, .int who tw]) : PySem.SeqAt.EqAt A.in1 (St s tk) y (.ref T) (p.1 == r && p.2 == who) := by
  obtain ⟨T', t, u, rfl, ht⟩ := Pr.open hy
  by_cases hTT : T' = T
  · subst hTT
    obtain ⟨o, ho, _, m, hd1⟩ := ht
    obtain ⟨o', ho', _, m', hd2⟩ := hT
    rw [ho] at ho'; injection ho' with ho'; subst ho'
    rw [hd1] at hd2
    injection hd2 with hd2 _
    have := congrArg Array.toList hd2
    simp at this
    rw [show (p.1 == r && p.2 == who) = true by simp [this.1.1, this.2.1]]
    exact PySem.SeqAt.EqAt.same _
  · have hu := hA.2.2
    have hcl : cLine = 9900 := rfl
    have := PySem.SeqAt.RcAt.tuples (A := A.in1) (s := St s tk) (e := fun j => if j = 0 then p.1 == r else p.2 == who) ht hT (by rw [Around.in1_units]; omega) fun j h1 h2 => by
      match j, h1, h2 with
      | 0, _, _ => exact PySem.SeqAt.EqAt.int_int p.1 t r tr
      | 1, _, _ => exact PySem.SeqAt.EqAt.int_int p.2 u who tw
      | j + 2, h1, _ => exact absurd h1 (by simp)
    have e : ((List.range (min (#[Value.int p.1 t, Value.int p.2 u] : Array Value).size (#[Value.int r tr, Value.int who tw] : Array Value).size)).all (fun j => if j = 0 then p.1 == r else p.2 == who) && (#[Value.int p.1 t, Value.int p.2 u] : Array Value).size == (#[Value.int r tr, Value.int who tw] : Array Value).size) = (p.1 == r && p.2 == who) := by
      show ((List.range 2).all _ && true) = _
      simp [List.range_succ]
    rw [e] at this
    exact PySem.SeqAt.EqAt.of_refs hTT this
theorem any_pair {S : List (Int × Int)} {r who : Int} : (S.any fun p => p.1 == r && p.2 == who) = decide ((r, who) ∈ S) := by
  rw [Bool.eq_iff_iff, List.any_eq_true, decide_eq_true_eq]
  constructor
  · rintro ⟨⟨a, b⟩, hp, e⟩
    rw [Bool.and_eq_true, beq_iff_eq, beq_iff_eq] at e
    obtain ⟨e1, e2⟩ := e
    dsimp only at e1 e2
    rw [← e1, ← e2]; exact hp
  · intro h; exact ⟨_, h, by simp⟩
theorem phSaid {r who : Int} {tn tr tg twh : Tok} {lv iv : Value} {g : Nat} {nm : Array UInt8} (hA : Lv d A) (hd : d < 400) (hb : Base w s₀.heap) (O : Own s₀ (lenv n)) (a : At prog w s₀ (lenv n) x D s) (hsl : D.v.said.length ≤ 12) {wv : Value}
    (F : Fm [] s₀ (lenv n) (("let", lv) :: ("name", .bytes nm tn) :: ("who", .int who twh) :: ("r", .int r tr) :: ("way", wv) :: ("i", iv) :: Bl x D.ah D.af g tg) (CL D.an D.aa D.am D.as_) s) :
    wpAny (model prog w) A (exec (lels 0) (lenv n)) (fun f s' => f = .next ∧ ∃ (z' : Heap) (vs' : List Value) (s'' : Shared) (tk' : Nat), s' = St s'' tk' ∧ Sub D.z z' ∧ Lw prog w s₀ (lenv n) z' s'' (D.lv D.vn D.va D.vm vs' D.vh D.vf) x.ro D.rot D.pend D.qu x.op (x.born + D.v.reqs.length) D.W ∧
      Fm [] s₀ (lenv n) (("let", lv) :: ("name", .bytes nm tn) :: ("who", .int who twh) :: ("r", .int r tr) :: ("way", wv) :: ("i", iv) :: Bl x D.ah D.af g tg) (CL D.an D.aa D.am D.as_) s'' ∧ P2 (Pr z') vs' (saidV D.v.said r who)) (fun _ _ => False) (St s tk) := by
  refine exIf (a := ?a) (b := ?b) (c := ?c) (p := ?p) ?e ?_
  case e => exact rfl
  have hz := Bz.of hb
  have hc := lcn n
  kba_ints
  by_cases h0 : 0 ≤ r
  · rw [decide_eq_true h0]
    kba_ints
    with_reducible refine newT (le_line rfl) fun T s₂ tk₂ e₂ hT hoT => ?_
    have hTt : s₂.heap.IsTuple T #[.int r tr, .int who twh] := ⟨_, hoT, rfl, 0, rfl⟩
    have F₂ := F.step0 e₂
    have a₂ := a.step0 e₂
    kba_ints
    have hps : P2 (Pr s₂.heap) D.vs D.v.said := a₂.s.mono fun _ _ q => q.sub a₂.sub
    with_reducible refine lNotIn (R := Pr s₂.heap) (eqv := fun p => p.1 == r && p.2 == who) a₂.ps hps ?_ (fun y p h1 => eqPr hA (by omega) h1 hTt) ?_
    · intro y p q h1 h2
      obtain ⟨T1, t1, u1, rfl, ht1⟩ := Pr.open h1
      obtain ⟨T2, t2, u2, e, ht2⟩ := Pr.open h2
      cases e
      obtain ⟨o, ho, _, m, hd1⟩ := ht1
      obtain ⟨o', ho', _, m', hd2⟩ := ht2
      rw [ho] at ho'; injection ho' with ho'; subst ho'
      rw [hd1] at hd2
      injection hd2 with hd2 _
      have := congrArg Array.toList hd2
      simp at this
      rw [this.1.1, this.2.1]
    rw [any_pair]
    by_cases hin : (r, who) ∈ D.v.said
    · rw [decide_eq_true hin]
      kba_ints
      have e : saidV D.v.said r who = D.v.said := by unfold saidV; rw [if_neg (by simp [hin])]
      exact ⟨rfl, D.z, D.vs, s₂, _, rfl, Sub.refl _, a₂.L, F₂, by rw [e]; exact a₂.s⟩
    · rw [decide_eq_false hin]
      kba_ints
      with_reducible refine mAppend a₂.ps ?_
      kba_ints
      with_reducible refine newT (le_line rfl) fun T₃ s₃ tk₃ e₃ hT₃ hoT₃ => ?_
      have F₃ := F₂.step0 e₃
      have L₃' := a₂.L.step0 e₃
      have hpr : Is s₃.heap 1 (.ref T₃) (.tup [.int r, .int who]) := isTup hoT₃ ⟨isInt, isInt, trivial⟩
      obtain ⟨z', k, L₃, hprz⟩ : ∃ z', Sub D.z z' ∧ Lw prog w s₀ (lenv n) z' s₃ (D.lv D.vn D.va D.vm D.vs D.vh D.vf) x.ro D.rot D.pend D.qu x.op (x.born + D.v.reqs.length) D.W ∧ Is z' 1 (.ref T₃) (.tup [.int r, .int who]) := ⟨_, L₃'.full.1, L₃'.full.2, L₃'.is F₃ hc hpr⟩
      have hvl := a.s.len
      kba_ints
      with_reducible refine lAppend L₃.ps (by rw [sizeLine_eq]; omega) fun s₄ tk₄ e₄ h₄ => ?_
      have F₄ := L₃.fm1 F₃ e₄ (mulS (D := D))
      have L₄ := appS L₃ e₄ h₄
      kba_ints
      have e : saidV D.v.said r who = D.v.said ++ [(r, who)] := by unfold saidV; rw [if_pos ⟨h0, hin⟩]
      exact ⟨rfl, z', _, s₄, _, rfl, k, L₄, F₄, by rw [e]; exact (a.s.mono fun _ _ q => q.sub k).snoc hprz⟩
  · rw [decide_eq_false h0]
    kba_ints
    have e : saidV D.v.said r who = D.v.said := by unfold saidV; rw [if_neg (by simp [h0])]
    exact ⟨rfl, D.z, D.vs, s, _, rfl, Sub.refl _, a.L, F, by rw [e]; exact a.s⟩
end

/-! C29 -/
section
theorem mem_heardL {S : List (Int × Int)} {r who : Int} : who ∈ heardL S r ↔ (r, who) ∈ S := by
  unfold heardL
  rw [List.mem_map]
  constructor
  · rintro ⟨⟨a, b⟩, hp, rfl⟩
    obtain ⟨h1, h2⟩ := List.mem_filter.mp hp
    have : a = r := by simpa using h2
    rw [← this]; exact h1
  · intro h; exact ⟨(r, who), List.mem_filter.mpr ⟨h, by simp⟩, rfl⟩
theorem heardL_saidV {S : List (Int × Int)} {r who : Int} (h0 : 0 ≤ r) : heardL (saidV S r who) r = addA (heardL S r) who := by
  unfold saidV addA
  by_cases h : (r, who) ∈ S
  · rw [if_neg (by simp [h]), if_pos (mem_heardL.mpr h)]
  · rw [if_pos ⟨h0, h⟩, if_neg fun q => h (mem_heardL.mp q)]
    unfold heardL
    rw [List.filter_append, List.map_append]
    simp
theorem heardL_saidV_ne {S : List (Int × Int)} {r who j : Int} (h : j ≠ r ∨ r < 0) : heardL (saidV S r who) j = heardL S j := by
  unfold saidV
  split
  · next hc =>
    have hne : j ≠ r := h.resolve_right (by omega)
    unfold heardL
    rw [List.filter_append, List.map_append]
    have : ((r, who).1 == j) = false := by rw [beq_eq_false_iff_ne]; exact fun e => hne e.symm
    rw [List.filter_cons, this]
    simp
  · rfl
theorem gotV_congr {ns ks ks' : List Int} (h : ∀ n, n ∈ ks ↔ n ∈ ks') : gotV ns ks = gotV ns ks' := by
  unfold gotV
  congr 1
  exact List.filter_congr fun n _ => by rw [decide_eq_decide]; exact h n
theorem gotV_sort {ns ks : List Int} : gotV ns (sortV ks) = gotV ns ks := gotV_congr fun n => (sortV_perm ks).mem_iff
theorem majV_ne {ns ks : List Int} (h : ns ≠ []) : majV ns ks = winV ks ns := by
  unfold majV winV
  rw [show ns.isEmpty = false by cases ns with | nil => exact absurd rfl h | cons _ _ => rfl, Bool.false_or]
theorem majV_nil {ns : List Int} (h : ns ≠ []) : majV ns [] = false := by
  rw [majV_ne h]
  have h0 : gotV ns [] = 0 := by unfold gotV; rw [List.filter_eq_nil_iff.mpr (fun a _ q => by simp at q)]; rfl
  unfold winV
  rw [h0]
  simp
theorem vote_wins {x : Fx} (ok : FxOk x) {ks : List Int} : (majV x.h1 ks && majV x.h2 ks) = winsV x.H (sortV ks) := by
  have hs : ∀ ns, winV (sortV ks) ns = winV ks ns := fun ns => by unfold winV; rw [gotV_sort]
  unfold winsV
  rw [ok.hH, majV_ne ok.h1n]
  by_cases h : x.h2 = []
  · rw [if_pos h, h]
    simp [hs, majV]
  · rw [if_neg h, majV_ne h]
    simp [hs]
theorem addA_len {l : List Int} {f : Int} : (addA l f).length ≤ l.length + 1 := by
  unfold addA; split <;> simp
theorem acked_w {born : Int} {reqs : List Req} {S : List (Int × Int)} {r who : Int} {g : Nat} {W1 W2 : List WR} {y : WR} (h : (W1 ++ y :: W2).map sig = (wall born reqs S).drop g) (hr : r = ((g + W1.length : Nat) : Int)) :
    y.acks = heardL S r ∧ (W1 ++ { y with acks := addA y.acks who } :: W2).map sig = (wall born reqs (saidV S r who)).drop g := by
  have hget : ∀ i, ((W1 ++ y :: W2).map sig)[i]? = reqs[g + i]?.map fun q => (nmv born (g + i), q, heardL S (g + i : Nat)) := fun i => by rw [h, List.getElem?_drop, wall_get]
  have hy : y.acks = heardL S r := by
    have := hget W1.length
    rw [List.getElem?_map, show (W1 ++ y :: W2)[W1.length]? = some y by simp] at this
    obtain ⟨q, _, e⟩ := Option.map_eq_some_iff.mp this.symm
    rw [hr]
    exact (congrArg (·.2.2) e).symm
  refine ⟨hy, ?_⟩
  apply List.ext_getElem?
  intro i
  rw [List.getElem?_drop, wall_get]
  have hi := hget i
  by_cases c : i = W1.length
  · subst c
    rw [List.getElem?_map, show (W1 ++ { y with acks := addA y.acks who } :: W2)[W1.length]? = some { y with acks := addA y.acks who } by simp]
    rw [List.getElem?_map, show (W1 ++ y :: W2)[W1.length]? = some y by simp] at hi
    obtain ⟨q, hq, e⟩ := Option.map_eq_some_iff.mp hi.symm
    rw [hq]
    have e1 := congrArg (·.1) e
    have e2 := congrArg (·.2.1) e
    show some (sig _) = some _
    unfold sig at e1 e2 ⊢
    dsimp only at e1 e2 ⊢
    rw [← e1, ← e2, ← hr, heardL_saidV (by omega), hy]
  · have hne : (((g + i : Nat) : Int) ≠ r) := by omega
    rw [heardL_saidV_ne (.inl hne), ← hi, List.getElem?_map, List.getElem?_map]
    congr 1
    rcases Nat.lt_or_gt_of_ne c with c | c
    · rw [List.getElem?_append_left c, List.getElem?_append_left c]
    · obtain ⟨k, hk⟩ : ∃ k, i = W1.length + (k + 1) := ⟨i - W1.length - 1, by omega⟩
      rw [hk, List.getElem?_append_right (by omega), List.getElem?_append_right (by omega), Nat.add_sub_cancel_left]
      rfl
theorem same_w {born : Int} {reqs : List Req} {S : List (Int × Int)} {r who : Int} {g : Nat} (h : r < g) : (wall born reqs (saidV S r who)).drop g = (wall born reqs S).drop g := by
  apply List.ext_getElem?
  intro i
  rw [List.getElem?_drop, List.getElem?_drop, wall_get, wall_get, heardL_saidV_ne (by omega)]
end

/-! C30 -/
section
variable {prog : Program} {w : World} {A : Around} {E : Value → Shared → Prop} {s s₀ s' : Shared} {tk : Nat} {d n : Nat} {Q : Value → Shared → Prop} {x : Fx} {D : Dt} {l cl : List (Str × Value)} {env : Env}
theorem phAns {r who way : Int} {tn tr tw tg twh : Tok} {iv : Value} {g : Nat} {l0 : Addr} (ok : FxOk x) (hA : Lv d A) (hd : d < 320) (hb : Base w s₀.heap) (O : Own s₀ (lenv n)) (a : At prog w s₀ (lenv n) x D s) (hr : r < D.v.reqs.length) (hlen : D.v.reqs.length ≤ 12) (hsl : D.v.said.length ≤ 12) (hway : way ≠ 4)
    (hgl : D.v.gone = g) (hl0 : LetZ D.z l0 [] [])
    (F : Fm [] s₀ (lenv n) (("let", .ref l0) :: ("name", .bytes (nameOf x.born r) tn) :: ("who", .int who twh) :: ("r", .int r tr) :: ("way", .int way tw) :: ("i", iv) :: Bl x D.ah D.af g tg) (CL D.an D.aa D.am D.as_) s) :
    wpAny (model prog w) A (exec (lbs 10) (lenv n)) (fun f s' => f = .next ∧ ∃ (D' : Dt) (p : Addr) (us : List Value) (s'' : Shared) (tk' : Nat), s' = St s'' tk' ∧ At prog w s₀ (lenv n) x D' s'' ∧
      Fm [] s₀ (lenv n) (("let", .ref p) :: ("i", iv) :: Bl x D'.ah D'.af g tg) (CL D'.an D'.aa D'.am D'.as_) s'' ∧ LetZ D'.z p us ((D.v.reqs.drop D.v.gone).take (D'.v.gone - D.v.gone)) ∧ D'.v = ansV x.H D.v r who ∧ D'.gf = D.gf) (fun _ _ => False) (St s tk) := by
  refine exIf (a := ?a) (b := ?b) (c := ?c) (p := ?p) ?e ?_
  case e => exact rfl
  have hz := Bz.of hb
  have hc := lcn n
  kba_ints
  rw [show (way == 4) = false from beq_eq_false_iff_ne.mpr hway]
  with_reducible refine iteF ?_
  with_reducible refine wpAny_execs_cons ?_
  refine wpAny_mono (phSaid hA (by omega) hb O a hsl F) (fun f s' hm => ?_) fun _ _ h => h.elim
  obtain ⟨rfl, z₁, vs₁, s₁, tk₁, rfl, k₁, L₁, F₁, hs₁⟩ := hm
  have hSl : (saidV D.v.said r who).length ≤ 13 := by
    unfold saidV; split
    · rw [List.length_append]; simp only [List.length_cons, List.length_nil]; omega
    · omega
  obtain ⟨t0, t1, I₁⟩ := L₁.ro_.inst L₁.sub
  kba_ints
  refine roAck (L₁.bz F₁ hb fun b m => List.mem_append.mpr (.inr (List.mem_cons_of_mem _ (List.mem_cons_of_mem _ (List.mem_cons_of_mem _ m))))) hA (by omega) L₁.ro_ L₁.sub (fun hno p s₂ tk₂ e₂ hp hv => ?_) (fun W1 y W2 hW hy s₂ tk₂ e₂ hv => ?_)
  · have hrg : r < D.v.gone := by
      apply Int.not_le.mp
      intro hge
      exact hno (name_in a.w hr (by omega) (by omega))
    have F₂ := F₁.step0 e₂
    have L₂ := L₁.step0 e₂
    with_reducible refine stoL F₂ O fun s₃ tk₃ e₃ F₃ => ?_
    have L₃ := L₂.loc1 hc e₃
    have hpO : OffOwn (lenv n) p := F₁.new hp
    obtain ⟨hv1, hv2⟩ := hv
    have hd3 := dctSub hv1 fun o q => e₃.keep p o (notin1 hpO.1) q
    kba_ints
    with_reducible refine srtD (kvs := tv []) hA hd3 hv2 (by decide) fun D₄ s₄ tk₄ os ns' e₄ hD₄ hl₄ hi₄ hperm hsort => ?_
    obtain rfl : ns' = [] := List.Perm.eq_nil hperm
    have F₄ := F₃.step0 e₄
    kba_ints
    rw [show decide ((g : Int) ≤ r) = false from decide_eq_false (by omega)]
    kba_ints
    with_reducible refine newL (le_line rfl) fun D₅ s₅ tk₅ e₅ hD₅ hl₅ => ?_
    have F₅ := F₄.step0 e₅
    have hnil : P2 (Is s₅.heap 0) ([] : List Value) ([] : List PV) := trivial
    with_reducible refine lNe (n := 0) (ps := []) hA (by omega) (by omega) (plSub hl₄ e₅.sub) hl₅ (ints_is (z := s₅.heap) hi₄) hnil ?_
    kba_ints
    have L₅ := (L₃.step0 e₄).step0 e₅
    obtain ⟨dxc, c1, c2, c3, c4, Ic, _⟩ := (a.fc.sub k₁).sub L₅.sub
    with_reducible refine m_vote F₅ hz Ic ?_
    kba_ints
    refine configVote (F₅.bz hz) hA (by omega) ((a.fc.sub k₁).sub L₅.sub) ok.l1 ok.l2 ⟨dctSub hd3 fun o q => (e₄.trans e₅).sub p o q, hv2⟩ fun t₆ s₆ tk₆ e₆ => ?_
    have F₆ := F₅.step0 e₆
    have L₆ := L₅.step0 e₆
    kba_ints
    rw [show (vv (majV x.h1 [] && majV x.h2 []) == 3) = false by rw [majV_nil ok.h1n]; rfl]
    kba_ints
    have a₆ : At prog w s₀ (lenv n) x { D with z := z₁, vs := vs₁, v := { D.v with said := saidV D.v.said r who } } s₆ :=
      { L := L₆, fn := a.fn.sub k₁, fh := a.fh.sub k₁, fc := a.fc.sub k₁, n := a.n, a := a.a.mono fun _ _ q => q.sub k₁, m := a.m, s := hs₁, h := a.h, f := a.f.mono fun _ _ q => q.sub k₁, w := by rw [a.w]; exact (same_w hrg).symm, ex := fun p hp => k₁ _ _ (a.ex p hp) }
    refine ⟨rfl, _, l0, [], s₆, _, rfl, a₆, F₆.to ⟨by lsm_bools, by lsm_bools, by lsm_bools, by lsm_bools, by lsm_bools, by lsm_bools, by lsm_bools, by lsm_bools, by lsm_bools, by lsm_bools, by lsm_bools, trivial⟩, ?_, ?_, rfl⟩
    · show LetZ z₁ l0 [] ((D.v.reqs.drop D.v.gone).take (D.v.gone - D.v.gone))
      rw [Nat.sub_self, List.take_zero]
      exact hl0.sub k₁
    · show LV.mk _ _ _ _ = _
      unfold ansV
      rw [if_neg (by omega)]
  · have hW' := hW
    have hrW := name_at ok a.w hlen hr hW hy
    have hyl := L₁.ro_.al y (by rw [hW]; simp)
    obtain ⟨hya, hwn⟩ := acked_w (who := who) (hW ▸ a.w) hrW
    rw [hW] at L₁
    have hal : (addA y.acks who).length < 64 := by
      have h1 := addA_len (l := y.acks) (f := who)
      have h2 := heardL_len D.v.said r
      rw [← hya] at h2
      omega
    obtain ⟨L₂, F₂⟩ := L₁.acked F₁ e₂ hv hal
    with_reducible refine stoL F₂ O fun s₃ tk₃ e₃ F₃ => ?_
    have L₃ := L₂.loc1 hc e₃
    have a₃ : At prog w s₀ (lenv n) x { D with z := z₁, vs := vs₁, W := W1 ++ { y with acks := addA y.acks who } :: W2, v := { D.v with said := saidV D.v.said r who } } s₃ :=
      { L := L₃, fn := a.fn.sub k₁, fh := a.fh.sub k₁, fc := a.fc.sub k₁, n := a.n, a := a.a.mono fun _ _ q => q.sub k₁, m := a.m, s := hs₁, h := a.h, f := a.f.mono fun _ _ q => q.sub k₁, w := hwn, ex := fun p hp => k₁ _ _ (a.ex p hp) }
    have hya' : addA y.acks who = heardL (saidV D.v.said r who) r := by rw [hya, heardL_saidV (by omega)]
    obtain ⟨hv1, hv2⟩ := L₃.ro_.votes { y with acks := addA y.acks who } (by simp)
    dsimp only at hv1 hv2
    rw [hya'] at hv1 hal
    kba_ints
    with_reducible refine srtD (kvs := tv (heardL (saidV D.v.said r who) r)) hA hv1 hv2 (by unfold tv; rw [List.length_map]; exact hal) fun D₄ s₄ tk₄ os ns' e₄ hD₄ hl₄ hi₄ hperm hsort => ?_
    rw [tv_fst] at hperm
    have hns : ns' = heardV (saidV D.v.said r who) r := sortV_unique hperm hsort
    have F₄ := F₃.step0 e₄
    have a₄ := a₃.step0 e₄
    kba_ints
    rw [show decide ((g : Int) ≤ r) = true from decide_eq_true (by omega)]
    kba_ints
    refine lawHeard (F₄.bz hz) hA (by omega) (S := saidV D.v.said r who) ⟨vs₁, a₄.ps, hs₁.mono fun _ _ q => q.sub a₄.sub⟩ (by omega) fun D₅ s₅ tk₅ e₅ hD₅ hl₅ => ?_
    obtain ⟨os₅, hl₅, hi₅⟩ := hl₅
    have F₅ := F₄.step0 e₅
    have a₅ := a₄.step0 e₅
    rw [hns] at hi₄
    with_reducible refine lNe (n := 0) (ps := (heardV (saidV D.v.said r who) r).map .int) hA (by omega) (by omega) (plSub hl₄ e₅.sub) hl₅ (ints_is (z := s₅.heap) hi₄) (ints_is (z := s₅.heap) hi₅) ?_
    kba_ints
    obtain ⟨dxc, c1, c2, c3, c4, Ic, _⟩ := a₅.fc.sub a₅.sub
    with_reducible refine m_vote F₅ hz Ic ?_
    kba_ints
    refine configVote (F₅.bz hz) hA (by omega) (a₅.fc.sub a₅.sub) ok.l1 ok.l2 ⟨dctSub hv1 fun o q => (e₄.trans e₅).sub y.k o q, hv2⟩ fun t₆ s₆ tk₆ e₆ => ?_
    have F₆ := F₅.step0 e₆
    have a₆ := a₅.step0 e₆
    kba_ints
    rw [vote_wins ok]
    have hwv : winsV x.H (sortV (heardL (saidV D.v.said r who) r)) = winsV x.H (heardV (saidV D.v.said r who) r) := rfl
    rw [hwv]
    cases hwin : winsV x.H (heardV (saidV D.v.said r who) r)
    · rw [show (vv false == 3) = false from rfl]
      kba_ints
      refine ⟨rfl, _, l0, [], s₆, _, rfl, a₆, F₆.to ⟨by lsm_bools, by lsm_bools, by lsm_bools, by lsm_bools, by lsm_bools, by lsm_bools, by lsm_bools, by lsm_bools, by lsm_bools, by lsm_bools, by lsm_bools, trivial⟩, ?_, ?_, rfl⟩
      · show LetZ z₁ l0 [] ((D.v.reqs.drop D.v.gone).take (D.v.gone - D.v.gone))
        rw [Nat.sub_self, List.take_zero]
        exact hl0.sub k₁
      · show LV.mk _ _ _ _ = _
        unfold ansV
        rw [hwin, if_neg (by simp)]
    · rw [show (vv true == 3) = true from rfl]
      obtain ⟨t0', t1', I₆⟩ := a₆.L.ro_.inst a₆.sub
      kba_ints
      refine advAt ok hb hA (by omega) hc a₆ F₆ hlen hr fun z' q' W' p us s₇ tk₇ k a₇ F₇ lz => ?_
      with_reducible refine stoL F₇ O fun s₈ tk₈ e₈ F₈ => ?_
      kba_ints
      have a₈ := a₇.loc e₈
      refine ⟨rfl, _, p, us, s₈, _, rfl, a₈, F₈.to ⟨by lsm_bools, by lsm_bools, by lsm_bools, by lsm_bools, by lsm_bools, by lsm_bools, by lsm_bools, by lsm_bools, by lsm_bools, by lsm_bools, by lsm_bools, trivial⟩, lz, ?_, rfl⟩
      show LV.mk _ _ _ _ = _
      unfold ansV advG
      dsimp only
      rw [hwin, if_pos (by omega), if_pos ⟨by omega, by omega, rfl⟩]
end

/-! C31 -/
section
variable {prog : Program} {w : World} {A : Around} {E : Value → Shared → Prop} {s s₀ s' : Shared} {tk : Nat} {d n : Nat} {Q : Value → Shared → Prop} {x : Fx} {D : Dt} {l cl : List (Str × Value)} {env : Env}
theorem exFor {env : Env} {st : Stmt} {a b : Expr} {c : List Stmt} {p : Pos} {Q : Flow → Shared → Prop} (e : st = .For a b c [] p) (h : wpAny (model prog w) A (exec (.For a b c [] p) env) Q E (St s tk)) : wpAny (model prog w) A (exec st env) Q E (St s tk) := e ▸ h
theorem hideNone {h : Heap} {M : List Addr} {b : Addr} (e : h.get? b = none) : (hideAll h M).get? b = none := by
  cases q : (hideAll h M).get? b with
  | none => rfl
  | some o => rw [of_hideAll _ q] at e; cases e
theorem lz_get {z : Heap} {p : Addr} {us : List Value} {rs : List Req} (h : LetZ z p us rs) {i : Nat} {v : Value} (hv : us[i]? = some v) : ∃ r T m t, rs[i]? = some r ∧ v = .ref T ∧ z.IsTuple T #[.int r.idx t, .ref m] ∧ MsgAt z m r.frm r.dat r.var := by
  obtain ⟨r, hr, T, m, t, e, ht, M⟩ := h.2.get' hv
  exact ⟨r, T, m, t, hr, e, ht, M⟩
theorem phFree {tg : Tok} {iv : Value} {g : Nat} {p : Addr} {us : List Value} {rs : List Req} (hA : Lv d A) (hd : d < 320) (hb : Base w s₀.heap) (O : Own s₀ (lenv n)) (a : At prog w s₀ (lenv n) x D s) (hlz : LetZ D.z p us rs) (hrl : rs.length ≤ 12) (hgl : D.gf ≤ 12)
    (hrs : ∀ i r, rs[i]? = some r → D.v.reqs[D.gf + i]? = some r)
    (F : Fm [] s₀ (lenv n) (("let", .ref p) :: ("i", iv) :: Bl x D.ah D.af g tg) (CL D.an D.aa D.am D.as_) s) :
    wpAny (model prog w) A (exec (lbs 11) (lenv n)) (fun f s' => f = .next ∧ ∃ (z' : Heap) (vf' : List Value) (s'' : Shared) (tk' : Nat), s' = St s'' tk' ∧ At prog w s₀ (lenv n) x { D with z := z', vf := vf', gf := D.gf + rs.length } s'' ∧
      Fm [] s₀ (lenv n) (("i", iv) :: Bl x D.ah D.af g tg) (CL D.an D.aa D.am D.as_) s'') (fun _ _ => False) (St s tk) := by
  refine exFor (a := ?a) (b := ?b) (c := ?c) (p := ?p) ?e ?_
  case e => exact rfl
  have hz := Bz.of hb
  have hc := lcn n
  have hul := hlz.2.len
  with_reducible refine sFor ?_
  kba_ints
  have pz : ∃ o, D.z.get? p = some o := let ⟨_, q⟩ := hlz.1; ⟨_, q⟩
  refine forList hA (plSub hlz.1 a.sub) (fun I => goTup fun i v hv => ?_) (fun I i s' => ∃ z' vf', z'.get? I = none ∧ Sub D.z z' ∧ At prog w s₀ (lenv n) x { D with z := z', vf := vf', gf := D.gf + i } s' ∧
      Fm [] s₀ (lenv n) (("let", .ref p) :: ("i", iv) :: Bl x D.ah D.af g tg) (CL D.an D.aa D.am D.as_) s') ?_ ?_ ?_ ?_
  · obtain ⟨r, T, m, t, _, e, _⟩ := lz_get hlz (i := i) (v := v) (by simpa using hv); exact ⟨T, e⟩
  · rintro I hI i s₁ s₂ ⟨z', vf', hzI, k, a₁, F₁⟩ e
    have hIm : I ∉ D.mu := fun m => by obtain ⟨⟨o, ho⟩, _⟩ := a.L.has I m; rw [hI] at ho; cases ho
    refine ⟨z', vf', hzI, k, a₁.ext e fun b m => ?_, F.iter (fun _ q => nomatch q) hI F₁ e⟩
    rw [List.mem_singleton.mp m]
    exact ⟨hzI, hIm⟩
  · intro I s₁ e hI
    refine ⟨D.z, D.vf, ?_, Sub.refl _, a.step0 e, F.step0 e⟩
    cases q : D.z.get? I with
    | none => rfl
    | some o => rw [a.sub _ _ q] at hI; cases hI
  · rintro I i v s₁ tk₁ hI hv hit ⟨z', vf', hzI, k, a₁, F₁⟩
    obtain ⟨r, T, m, t, hri, rfl, hT, M⟩ := lz_get hlz hv
    have hT₁ : s₁.heap.IsTuple T #[.int r.idx t, .ref m] := let ⟨o, ho, q⟩ := hT; ⟨o, a₁.sub _ _ (k _ _ ho), q⟩
    have hIm : I ∉ D.mu := fun m => by obtain ⟨⟨o, ho⟩, _⟩ := a.L.has I m; rw [hI] at ho; cases ho
    have hIO := F.new hI
    with_reducible refine asg2 F₁ O hA hT₁ fun s₂ tk₂ e₂ F₂ => ?_
    have a₂ := a₁.loc e₂
    have M₂ := (M.sub k).sub a₂.sub
    obtain ⟨dx, el, q0, q1, q2, q3, q4, q5, q6, q7, qc, I₂, _⟩ := id M₂
    kba_ints
    with_reducible refine mAppend a₂.pf ?_
    kba_ints
    refine messageRow (F₂.bz hz) hA (by omega) M₂ fun v s₃ tk₃ e₃ hvr => ?_
    have F₃ := F₂.step0 e₃
    kba_ints
    with_reducible refine newT (le_line rfl) fun T₄ s₄ tk₄ e₄ hT₄ hoT₄ => ?_
    have F₄ := F₃.step0 e₄
    have a₄ := (a₂.step0 e₃).step0 e₄
    have hrow : Is s₄.heap 4 (.ref T₄) (askedP r) := isTup hoT₄ ⟨isInt, hvr.sub e₄.sub, trivial⟩
    have L₄ : Lw prog w s₀ (lenv n) z' s₄ (D.lv D.vn D.va D.vm D.vs D.vh vf') x.ro D.rot D.pend D.qu x.op (x.born + D.v.reqs.length) D.W := a₄.L
    have hrowz := L₄.is F₄ hc hrow
    have hit₄ : ∃ ob, s₄.heap.get? I = some ob ∧ ob.cls = .type "list_iterator" := let ⟨ob, h1, h2⟩ := hit; ⟨ob, (e₃.trans e₄).sub I ob (e₂.keep I ob (notin1 hIO.1) h1), h2⟩
    obtain ⟨z₄, k₄, hz₄I, hs₄, hoff, hloc, hrz⟩ : ∃ z₄, Sub z' z₄ ∧ z₄.get? I = none ∧ Sub z₄ s₄.heap ∧ (∀ b ∈ muts (D.lv D.vn D.va D.vm D.vs D.vh vf') D.rot D.pend D.qu D.W, z₄.get? b = none) ∧ (∀ b ∈ own (lenv n), z₄.get? b = none) ∧ Is z₄ 4 (.ref T₄) (askedP r) := by
      obtain ⟨f1, f2⟩ := L₄.full
      refine ⟨hideAll _ [I], fun b o q => hideAll_get _ (f1 b o q) (notin1 fun e => by rw [e, hzI] at q; cases q), hideAll_none _ (by simp), hideSub.trans f2.sub, fun b hb => ?_, fun b hb => ?_, hrowz.hide (NoT.one ?_)⟩
      · exact hideNone (f2.off b hb).1
      · exact hideNone (f2.loc b hb)
      · intro vs ht
        exact NoT.iter hit₄ vs (let ⟨o, ho, q⟩ := ht; ⟨o, hideSub _ _ ho, q⟩)
    have a₄' := a₄.grow (z' := z₄) (L₄.grow k₄ hs₄ hoff hloc) k₄
    have hfl := a₄.f.len
    have hfl' : vf'.length ≤ 24 := by
      have h1 : vf'.length = _ := hfl
      rw [h1, List.length_map, List.length_take]
      have : i < rs.length := (List.getElem?_eq_some_iff.mp hri).1
      show min (D.gf + i) _ ≤ 24
      omega
    kba_ints
    with_reducible refine lAppend a₄'.pf (by rw [sizeLine_eq]; show vf'.length ≤ _; omega) fun s₅ tk₅ e₅ h₅ => ?_
    have F₅ := a₄'.L.fm1 F₄ e₅ (mulF (D := D))
    have L₅ := appF (D := D) a₄'.L e₅ h₅
    kba_ints
    have a₅ : At prog w s₀ (lenv n) x { D with z := z₄, vf := vf' ++ [.ref T₄], gf := D.gf + (i + 1) } s₅ :=
      { L := L₅, fn := a₄'.fn, fh := a₄'.fh, fc := a₄'.fc, n := a₄'.n, a := a₄'.a, m := a₄'.m, s := a₄'.s, h := a₄'.h, w := a₄'.w, ex := a₄'.ex, f := by
          show P2 _ _ ((D.v.reqs.take (D.gf + (i + 1))).map askedP)
          rw [← Nat.add_assoc, take_snoc (hrs i r hri), List.map_append]
          exact a₄'.f.snoc hrz }
    have hpa : p ∉ [D.af, (lenv n).locals] := fun m => by
      obtain ⟨o, ho⟩ := pz
      simp only [List.mem_cons, List.not_mem_nil, or_false] at m
      rcases m with h | h
      · have := (a.L.off D.af (mulF (D := D))).1; rw [← h, ho] at this; cases this
      · have := a.L.loc (lenv n).locals List.mem_cons_self; rw [← h, ho] at this; cases this
    have hIa : I ∉ [D.af, (lenv n).locals] := fun m => by
      simp only [List.mem_cons, List.not_mem_nil, or_false] at m
      rcases m with h | h
      · exact hIm (h ▸ mulF (D := D))
      · exact hIO.1 h
    refine ⟨s₅, _, rfl, ⟨z₄, vf' ++ [.ref T₄], hz₄I, k.trans k₄, a₅, F₅.to ⟨by lsm_bools, by lsm_bools, by lsm_bools, by lsm_bools, by lsm_bools, by lsm_bools, by lsm_bools, by lsm_bools, by lsm_bools, by lsm_bools, by lsm_bools, trivial⟩⟩, _,
      ((e₂.mono fun b m => List.mem_cons_of_mem _ m).trans (e₃.trans e₄).any).trans (e₅.mono fun b m => by rw [List.mem_singleton.mp m]; exact List.mem_cons_self), hIa, hpa⟩
  · rintro I s₁ tk₁ hI ⟨z', vf', hzI, k, a₁, F₁⟩
    rw [hul] at a₁
    kba_ints
    exact ⟨rfl, z', vf', s₁, _, rfl, a₁, F₁.to ⟨by lsm_bools, by lsm_bools, by lsm_bools, by lsm_bools, by lsm_bools, by lsm_bools, by lsm_bools, by lsm_bools, by lsm_bools, by lsm_bools, trivial⟩⟩
end

/-! C32 -/
section
variable {prog : Program} {w : World} {A : Around} {E : Value → Shared → Prop} {s s₀ s' : Shared} {tk : Nat} {d n : Nat} {x : Fx} {D : Dt} {l cl : List (Str × Value)} {env : Env}
theorem exAsn {env : Env} {st : Stmt} {a : List Expr} {b : Expr} {p : Pos} {Q : Flow → Shared → Prop} (e : st = .Assign a b p) (h : wpAny (model prog w) A (exec (.Assign a b p) env) Q E (St s tk)) : wpAny (model prog w) A (exec st env) Q E (St s tk) := e ▸ h
theorem phGone {tg : Tok} {iv : Value} {g : Nat} (ok : FxOk x) (hA : Lv d A) (hd : d < 320) (hb : Base w s₀.heap) (O : Own s₀ (lenv n)) (a : At prog w s₀ (lenv n) x D s) (hlen : D.v.reqs.length ≤ 12) (hsl : D.v.said.length ≤ 13)
    (hgv : goneV x.H D.v.said D.v.hands D.v.reqs.length = D.v.gone)
    (F : Fm [] s₀ (lenv n) (("i", iv) :: Bl x D.ah D.af g tg) (CL D.an D.aa D.am D.as_) s) :
    wpAny (model prog w) A (exec (lbs 12) (lenv n)) (fun f s' => f = .next ∧ ∃ (t' : Tok) (s'' : Shared) (tk' : Nat), s' = St s'' tk' ∧ At prog w s₀ (lenv n) x D s'' ∧
      Fm [] s₀ (lenv n) (("i", iv) :: Bl x D.ah D.af D.v.gone t') (CL D.an D.aa D.am D.as_) s'') (fun _ _ => False) (St s tk) := by
  refine exAsn (a := ?a) (b := ?b) (p := ?p) ?e ?_
  case e => exact rfl
  have hz := Bz.of hb
  have hnl : D.vn.length = D.v.reqs.length := by rw [a.n.len, List.length_range]
  kba_ints
  with_reducible refine lLen a.pn (by omega) fun _ _ => ?_
  rw [hnl]
  kba_ints
  have hHl : x.H.length < 64 := by rw [ok.hH]; split <;> simp
  have hH' : ∀ ns ∈ x.H, ns.length < 64 := fun ns h => by
    rw [ok.hH] at h
    split at h
    · rw [List.mem_singleton.mp h]; exact ok.l1
    · simp only [List.mem_cons, List.not_mem_nil, or_false] at h
      rcases h with rfl | rfl
      · exact ok.l1
      · exact ok.l2
  refine lawGone (F.bz hz) hA (by omega) (a.fh.sub a.sub) hHl hH' (S := D.v.said) ⟨D.vs, a.ps, a.s.mono fun _ _ q => q.sub a.sub⟩ (by omega) (hs := D.v.hands) ⟨D.vh, a.ph, a.h⟩ (by omega) fun t₂ s₂ tk₂ e₂ => ?_
  rw [hgv]
  have F₂ := F.step0 e₂
  have a₂ := a.step0 e₂
  with_reducible refine stoL F₂ O fun s₃ tk₃ e₃ F₃ => ?_
  kba_ints
  exact ⟨rfl, t₂, s₃, _, rfl, a₂.loc e₃, F₃.to ⟨by lsm_bools, by lsm_bools, by lsm_bools, by lsm_bools, by lsm_bools, by lsm_bools, by lsm_bools, by lsm_bools, by lsm_bools, by lsm_bools, trivial⟩⟩
theorem phFreed {tg : Tok} {iv : Value} (hA : Lv d A) (hd : d < 320) (hb : Base w s₀.heap) (O : Own s₀ (lenv n)) (a : At prog w s₀ (lenv n) x D s) (hgf : D.gf = D.v.gone) (hlen : D.v.reqs.length ≤ 12)
    (F : Fm [] s₀ (lenv n) (("i", iv) :: Bl x D.ah D.af D.v.gone tg) (CL D.an D.aa D.am D.as_) s) :
    wpAny (model prog w) A (exec (lbs 13) (lenv n)) (fun f s' => f = .next ∧ ∃ (s'' : Shared) (tk' : Nat), s' = St s'' tk' ∧ At prog w s₀ (lenv n) x D s'' ∧
      Fm [] s₀ (lenv n) (("i", iv) :: Bl x D.ah D.af D.v.gone tg) (CL D.an D.aa D.am D.as_) s'') (fun _ _ => False) (St s tk) := by
  refine exIf (a := ?a) (b := ?b) (c := ?c) (p := ?p) ?e ?_
  case e => exact rfl
  have hz := Bz.of hb
  have hal : D.va.length = D.v.reqs.length := by rw [a.a.len, List.length_map]
  kba_ints
  with_reducible refine slUpto ?_
  kba_ints
  intro sl s₂ tk₂ e₂ hsl₀ hsl
  have F₂ := F.step0 (s' := s₂) e₂.st
  have a₂ := a.step0 (s' := s₂) e₂.st
  have hpa := a₂.pa.isList
  with_reducible refine lUpto (k := D.v.gone) (vs := D.va) hpa (by rw [sizeLine_eq]; omega) hsl fun q' s₃ tk₃ e₃ hq' hl₃ => ?_
  have F₃ := F₂.step0 e₃
  have a₃ := a₂.step0 e₃
  have h1 : P2 (Is s₃.heap 4) D.vf ((D.v.reqs.take D.v.gone).map askedP) := by rw [← hgf]; exact a₃.f.mono fun _ _ q => q.sub a₃.sub
  have h2 : P2 (Is s₃.heap 4) (D.va.take D.v.gone) ((D.v.reqs.take D.v.gone).map askedP) := by
    rw [List.map_take]
    exact (a₃.a.mono fun _ _ q => q.sub a₃.sub).take _
  with_reducible refine lNe (n := 4) hA (by omega) (by omega) a₃.pf hl₃ h1 h2 ?_
  kba_ints
  exact ⟨rfl, s₃, _, rfl, a₃, F₃⟩
theorem phLast {tg : Tok} {iv : Value} (hA : Lv d A) (hd : d < 320) (hb : Base w s₀.heap) (O : Own s₀ (lenv n)) (a : At prog w s₀ (lenv n) x D s) (hlen : D.v.reqs.length ≤ 12) (hpos : 0 < D.v.reqs.length) (hgl : D.v.gone ≤ D.v.reqs.length) {wv : Value}
    (F : Fm [] s₀ (lenv n) (("waiting", wv) :: ("i", iv) :: Bl x D.ah D.af D.v.gone tg) (CL D.an D.aa D.am D.as_) s) :
    wpAny (model prog w) A (exec (lbs 16) (lenv n)) (fun f s' => f = .next ∧ ∃ (s'' : Shared) (tk' : Nat), s' = St s'' tk' ∧ At prog w s₀ (lenv n) x D s'' ∧
      Fm [] s₀ (lenv n) (("waiting", wv) :: ("i", iv) :: Bl x D.ah D.af D.v.gone tg) (CL D.an D.aa D.am D.as_) s'') (fun _ _ => False) (St s tk) := by
  refine exIf (a := ?a) (b := ?b) (c := ?c) (p := ?p) ?e ?_
  case e => exact rfl
  have hz := Bz.of hb
  have hnl : D.vn.length = D.v.reqs.length := by rw [a.n.len, List.length_range]
  obtain ⟨t0, t1, I⟩ := a.L.ro_.inst a.sub
  have hWl : D.W.length = D.v.reqs.length - D.v.gone := by
    have := congrArg List.length (w_reqs a.w)
    rwa [List.length_map, List.length_drop] at this
  kba_ints
  refine lastContext (F.bz hz) hA (by omega) a.L.ro_ a.sub fun t₂ s₂ tk₂ e₂ => ?_
  have F₂ := F.step0 e₂
  have a₂ := a.step0 e₂
  kba_ints
  with_reducible refine lLen a₂.pn (by omega) fun _ _ => ?_
  rw [hnl]
  kba_ints
  by_cases hg : D.v.gone < D.v.reqs.length
  · rw [decide_eq_true (by omega)]
    kba_ints
    obtain ⟨v, hv, t, rfl⟩ := a.n.get (i := D.v.reqs.length - 1) (b := D.v.reqs.length - 1) (by rw [List.getElem?_range (by omega)])
    with_reducible refine lLast (x := .bytes (nmv x.born (D.v.reqs.length - 1)) t) a₂.pn (by rw [List.getLast?_eq_getElem?, hnl]; exact hv) ?_
    have e : lastV D.W = nmv x.born (D.v.reqs.length - 1) := by
      have h1 : (D.W.map sig)[D.W.length - 1]? = (wall x.born D.v.reqs D.v.said)[D.v.reqs.length - 1]? := by rw [a.w, List.getElem?_drop, hWl]; congr 1; omega
      rw [wall_get, List.getElem?_eq_getElem (show D.v.reqs.length - 1 < D.v.reqs.length by omega), List.getElem?_map] at h1
      obtain ⟨y, hy, e⟩ := Option.map_eq_some_iff.mp h1
      unfold lastV
      rw [List.getLast?_eq_getElem?, hy]
      exact congrArg (·.1) e
    rw [e]
    with_reducible refine yNe ?_
    rw [show ((nmv x.born (D.v.reqs.length - 1)).toList != (nmv x.born (D.v.reqs.length - 1)).toList) = false by simp]
    kba_ints
    exact ⟨rfl, s₂, _, rfl, a₂, F₂⟩
  · rw [decide_eq_false (by omega)]
    kba_ints
    have e : lastV D.W = #[] := by
      have : D.W = [] := List.length_eq_zero_iff.mp (by omega)
      rw [this]; rfl
    rw [e]
    with_reducible refine yNe ?_
    rw [show ((#[] : Array UInt8).toList != (([] : List UInt8).toArray).toList) = false from rfl]
    kba_ints
    exact ⟨rfl, s₂, _, rfl, a₂, F₂⟩
end

/-! C33 -/
section
variable {prog : Program} {w : World} {A : Around} {E : Value → Shared → Prop} {s s₀ s' : Shared} {tk : Nat} {d n : Nat} {x : Fx} {D : Dt} {l cl : List (Str × Value)} {env : Env}
theorem tItem0 {value slice : Expr} {T : Addr} {v0 : Value} {rest : List Value} {u : Tok} {Q : Value → Shared → Prop} (ht : s.heap.IsTuple T (v0 :: rest).toArray) (h : Q v0 (St s tk)) (hs : subscripted slice false (.ref T) (.int 0 u) = operate [.ref T, .int 0 u] (getItem (.ref T) (.int 0 u)) := by with_unfolding_all rfl) : wpAny (model prog w) A (subscriptTail value slice (.ref T) (.int 0 u)) Q E (St s tk) :=
  item_tupleT (s := St s tk) (l := v0 :: rest) (j := 0) ht (by decide) (by decide) (by unfold seqIndex?; simp) rfl h hs
theorem asked_open {h : Heap} {v : Value} {r : Req} (x : Is h 4 v (askedP r)) : ∃ T t u, v = .ref T ∧ h.IsTuple T (.int r.idx t :: [u]).toArray := by
  obtain ⟨T, vs, rfl, ht, hp⟩ := x
  match vs, hp with
  | [a, b], ⟨⟨t, e1⟩, _, _⟩ => subst e1; exact ⟨T, t, b, rfl, ht⟩
  | [], h => exact h.elim
  | [_], h => exact h.2.elim
  | _ :: _ :: _ :: _, h => exact h.2.2.elim
theorem phWait {tg : Tok} {iv : Value} (hA : Lv d A) (hd : d < 320) (hb : Base w s₀.heap) (O : Own s₀ (lenv n)) (a : At prog w s₀ (lenv n) x D s) (hlen : D.v.reqs.length ≤ 12) (hsl : D.v.said.length ≤ 13) (hgl : D.v.gone ≤ D.v.reqs.length)
    (F : Fm [] s₀ (lenv n) (("i", iv) :: Bl x D.ah D.af D.v.gone tg) (CL D.an D.aa D.am D.as_) s) :
    wpAny (model prog w) A (exec (lbs 14) (lenv n)) (fun f s' => f = .next ∧ ∃ (T : Addr) (z' : Heap) (s'' : Shared) (tk' : Nat), s' = St s'' tk' ∧ At prog w s₀ (lenv n) x { D with z := z' } s'' ∧ Is z' 3 (.ref T) (.tup (D.W.map rowP)) ∧
      Fm [] s₀ (lenv n) (("waiting", .ref T) :: ("i", iv) :: Bl x D.ah D.af D.v.gone tg) (CL D.an D.aa D.am D.as_) s'') (fun _ _ => False) (St s tk) := by
  refine exAsn (a := ?a) (b := ?b) (p := ?p) ?e ?_
  case e => exact rfl
  have hz := Bz.of hb
  have hc := lcn n
  have hnl : D.vn.length = D.v.reqs.length := by rw [a.n.len, List.length_range]
  have hWl : D.W.length = D.v.reqs.length - D.v.gone := by
    have := congrArg List.length (w_reqs a.w)
    rwa [List.length_map, List.length_drop] at this
  kba_ints
  with_reducible refine compE [(Str.ofString "said", n + 4), (Str.ofString "names", n + 1), (Str.ofString "marks", n + 3), (Str.ofString "asked", n + 2)] (by kernel_rfl) ?_
  kba_ints
  with_reducible refine lLen a.pn (by omega) fun _ _ => ?_
  rw [hnl]
  kba_ints
  with_reducible refine rng2 fun r s₂ tk₂ t2 e₂ hr hR => ?_
  have F₂ := F.step0 e₂
  have a₂ := a.step0 e₂
  refine compRange F₂ (fun _ h => nomatch h) hz hA hR (by omega) (by omega) (by omega) (by omega) (fun _ _ _ => loopName) (ccl := CL D.an D.aa D.am D.as_) (fun nm c h => ?_) (fun i z ys => P2 (Is z 2) ys ((D.W.map rowP).take i)) (fun i z z' ys hj hs => hj.mono fun _ _ q => q.sub hs) (fun z => trivial) (fun i t C s₃ s₄ tk₄ z ys Qb hi hj hz₃ hx₃ hb₃ F₄ hS k => tst0 ?_) (fun Dl s₃ tk₃ ys e₃ F₃ hDl hl₃ hlen₃ hj => ?_)
  · refine F₂.cell nm c (lookup_of_mem hc ?_)
    rw [lenv_cells]
    have := mem_of_lookup h
    simp only [List.mem_cons, List.not_mem_nil, or_false] at this ⊢
    rcases this with h | h | h | h
    · exact .inl h
    · exact .inr (.inr (.inr h))
    · exact .inr (.inl h)
    · exact .inr (.inr (.inl h))
  · have hij : D.v.gone + i < D.v.reqs.length := by omega
    rw [show (D.v.gone : Int) + (i : Int) = ((D.v.gone + i : Nat) : Int) by omega] at F₄ k
    obtain ⟨vN, hvN, tN, rfl⟩ := a.n.get (i := D.v.gone + i) (b := D.v.gone + i) (by rw [List.getElem?_range hij])
    obtain ⟨rq, hrq⟩ : ∃ rq, D.v.reqs[D.v.gone + i]? = some rq := ⟨_, List.getElem?_eq_getElem hij⟩
    obtain ⟨vA, hvA, hA4⟩ := a.a.get (i := D.v.gone + i) (b := askedP rq) (by rw [List.getElem?_map, hrq]; rfl)
    obtain ⟨vM, hvM, tM, rfl⟩ := a.m.get hrq
    have sz : Sub D.z s₄.heap := a₂.sub.trans hS
    obtain ⟨T, ti, u, rfl, hT⟩ := asked_open (hA4.sub sz)
    have hin : ((D.v.gone + i : Nat) : Int).toNat = D.v.gone + i := Int.toNat_natCast _
    kba_ints
    with_reducible refine lItem (x := .bytes (nmv x.born (D.v.gone + i)) tN) (plSub a₂.pn hS) (by omega) (by rw [hin]; exact hvN) (by omega) ?_
    kba_ints
    with_reducible refine lItem (x := .ref T) (plSub a₂.pa hS) (by omega) (by rw [hin]; exact hvA) (by omega) ?_
    kba_ints
    with_reducible refine tItem0 hT ?_
    kba_ints
    with_reducible refine lItem (x := .bytes rq.dat tM) (plSub a₂.pm hS) (by omega) (by rw [hin]; exact hvM) (by omega) ?_
    kba_ints
    refine lawHeard (F₄.bz hb₃) hA (by omega) (S := D.v.said) ⟨D.vs, plSub a₂.ps hS, a.s.mono fun _ _ q => q.sub sz⟩ (by omega) fun D₅ s₅ tk₅ e₅ hD₅ hl₅ => ?_
    obtain ⟨os, hl₅, hi₅⟩ := hl₅
    have F₅ := F₄.step0 e₅
    kba_ints
    have hosl : os.length ≤ 13 := by
      have h1 := hi₅.len
      have h2 := (sortV_perm (heardL D.v.said (D.v.gone + i : Nat))).length_eq
      have h3 := heardL_len D.v.said (D.v.gone + i : Nat)
      unfold heardV at h1
      omega
    with_reducible refine lTup hl₅ (by rw [sizeLine_eq]; omega) fun T₆ s₆ tk₆ e₆ hT₆ hoT₆ => ?_
    have F₆ := F₅.step0 e₆
    kba_ints
    with_reducible refine newT (le_line rfl) fun T₇ s₇ tk₇ e₇ hT₇ hoT₇ => ?_
    have F₇ := F₆.step0 e₇
    refine k (some _) s₇ _ F₇ fun z' hz' hn' => ?_
    have hnew := New.frame F₄ hn'
    have hrow : (D.W.map rowP)[i]? = some (.tup [.bytes (nmv x.born (D.v.gone + i)), .int rq.idx, .bytes rq.dat, .tup ((heardV D.v.said (D.v.gone + i : Nat)).map .int)]) := by
      have h1 : (D.W.map sig)[i]? = (wall x.born D.v.reqs D.v.said)[D.v.gone + i]? := by rw [a.w, List.getElem?_drop]
      rw [wall_get, hrq, List.getElem?_map] at h1
      obtain ⟨y, hy, e⟩ := Option.map_eq_some_iff.mp h1
      rw [List.getElem?_map, hy]
      have e1 := congrArg (·.1) e
      have e2 := congrArg (·.2.1) e
      have e3 := congrArg (·.2.2) e
      unfold sig at e1 e2 e3
      dsimp only at e1 e2 e3
      show some (rowP y) = _
      unfold rowP heardV
      rw [e1, e2, e3]
    rw [take_snoc hrow]
    refine (hj.mono fun _ _ q => q.sub hz').snoc (isTup (hnew T₇ _ ?_ hoT₇) ⟨isBytes, isInt, isBytes, ?_, trivial⟩)
    · exact none_of_ext (e₅.trans e₆) (fun q => nomatch q) hT₇
    · exact isTup (hnew T₆ _ (none_of_ext e₅ (fun q => nomatch q) hT₆) (e₇.sub _ _ hoT₆)) (ints_is hi₅)
  · have a₃ := a₂.step0 e₃
    rw [List.take_of_length_le (by rw [List.length_map]; omega)] at hj
    kba_ints
    with_reducible refine lTup hl₃ (by rw [sizeLine_eq]; omega) fun T s₄ tk₄ e₄ hT hoT => ?_
    have F₄ := F₃.step0 e₄
    have a₄ := a₃.step0 e₄
    have hw : Is s₄.heap 3 (.ref T) (.tup (D.W.map rowP)) := isTup hoT (hj.mono fun _ _ q => q.sub e₄.sub)
    have hwz := a₄.L.is F₄ hc hw
    obtain ⟨z', a', hwz⟩ : ∃ z', At prog w s₀ (lenv n) x { D with z := z' } s₄ ∧ Is z' 3 (.ref T) (.tup (D.W.map rowP)) := ⟨_, a₄.full, hwz⟩
    with_reducible refine stoL F₄ O fun s₅ tk₅ e₅ F₅ => ?_
    kba_ints
    exact ⟨rfl, T, z', s₅, _, rfl, a'.loc e₅, hwz, F₅⟩
theorem phRow {tg : Tok} {iv : Value} {T : Addr} (hA : Lv d A) (hd : d < 320) (hb : Base w s₀.heap) (O : Own s₀ (lenv n)) (a : At prog w s₀ (lenv n) x D s) (hlen : D.v.reqs.length ≤ 12) (hw : Is D.z 3 (.ref T) (.tup (D.W.map rowP)))
    (F : Fm [] s₀ (lenv n) (("waiting", .ref T) :: ("i", iv) :: Bl x D.ah D.af D.v.gone tg) (CL D.an D.aa D.am D.as_) s) :
    wpAny (model prog w) A (exec (lbs 15) (lenv n)) (fun f s' => f = .next ∧ ∃ (s'' : Shared) (tk' : Nat), s' = St s'' tk' ∧ At prog w s₀ (lenv n) x D s'' ∧
      Fm [] s₀ (lenv n) (("waiting", .ref T) :: ("i", iv) :: Bl x D.ah D.af D.v.gone tg) (CL D.an D.aa D.am D.as_) s'') (fun _ _ => False) (St s tk) := by
  refine exIf (a := ?a) (b := ?b) (c := ?c) (p := ?p) ?e ?_
  case e => exact rfl
  have hz := Bz.of hb
  have hnl : D.vn.length = D.v.reqs.length := by rw [a.n.len, List.length_range]
  obtain ⟨t0, t1, I⟩ := a.L.ro_.inst a.sub
  kba_ints
  refine roRow (F.bz hz) hA (by omega) a.L.ro_ a.sub fun v s₂ tk₂ e₂ hv => ?_
  have F₂ := F.step0 e₂
  have a₂ := a.step0 e₂
  kba_ints
  with_reducible refine lLen a₂.pn (by omega) fun _ _ => ?_
  rw [hnl]
  kba_ints
  with_reducible refine newT (le_line rfl) fun T₃ s₃ tk₃ e₃ hT₃ hoT₃ => ?_
  have a₃ := a₂.step0 e₃
  have h1 : Is s₃.heap (3 + 1) v (.tup [.int x.op, .int (x.born + D.v.reqs.length), .tup (D.W.map rowP)]) := hv.sub e₃.sub
  have h2 : Is s₃.heap (3 + 1) (.ref T₃) (.tup [.int x.op, .int (x.born + D.v.reqs.length), .tup (D.W.map rowP)]) := isTup hoT₃ ⟨isInt, isInt, hw.sub a₃.sub, trivial⟩
  with_reducible refine tNe (n := 3) hA (by omega) (by omega) h1 h2 ?_
  kba_ints
  exact ⟨rfl, s₃, _, rfl, a₃, F₂.step0 e₃⟩
end

/-! C34 -/
section
theorem goneV_eq {H : List (List Int)} {S : List (Int × Int)} {hs : List Int} {g : Nat} : ∀ {c : Nat}, g ≤ c → (∀ r, g ≤ r → r < c → okV H S hs r = false) → (g = 0 ∨ okV H S hs (g - 1) = true) → goneV H S hs c = g
  | 0, hg, _, _ => by simp [goneV]; omega
  | c + 1, hg, h1, h2 => by
    unfold goneV
    by_cases e : g = c + 1
    · have : okV H S hs c = true := by
        rcases h2 with h | h
        · omega
        · rw [e] at h; exact h
      rw [this, if_pos rfl, e]
    · rw [h1 c (by omega) (by omega), if_neg Bool.false_ne_true]
      exact goneV_eq (by omega) (fun r a b => h1 r a (by omega)) h2
theorem goneV_good {H : List (List Int)} {v : LV} (g : Good H v) : goneV H v.said v.hands v.reqs.length = v.gone := goneV_eq g.gle g.open_ g.top
theorem gotV_mono {ns ks ks' : List Int} (h : ∀ n, n ∈ ks → n ∈ ks') : gotV ns ks ≤ gotV ns ks' := by
  unfold gotV
  induction ns with
  | nil => exact Nat.le_refl _
  | cons n ns ih =>
    rw [List.filter_cons, List.filter_cons]
    by_cases c : n ∈ ks
    · rw [if_pos (decide_eq_true c), if_pos (decide_eq_true (h n c)), List.length_cons, List.length_cons]
      exact Nat.succ_le_succ ih
    · rw [if_neg (by simpa using c)]
      split
      · rw [List.length_cons]; exact Nat.le_succ_of_le ih
      · exact ih
theorem winsV_mono {H : List (List Int)} {ks ks' : List Int} (h : ∀ n, n ∈ ks → n ∈ ks') (hw : winsV H ks = true) : winsV H ks' = true := by
  unfold winsV at hw ⊢
  rw [List.all_eq_true] at hw ⊢
  intro b hb
  obtain ⟨ns, hns, rfl⟩ := List.mem_map.mp hb
  have := hw _ (List.mem_map.mpr ⟨ns, hns, rfl⟩)
  unfold winV at this ⊢
  have h1 : ns.length < 2 * gotV ns ks := of_decide_eq_true this
  exact decide_eq_true (Nat.lt_of_lt_of_le h1 (Nat.mul_le_mul_left 2 (gotV_mono h)))
theorem heardV_mono {S : List (Int × Int)} {r who j : Int} : ∀ n, n ∈ heardV S j → n ∈ heardV (saidV S r who) j := fun n h => by
  unfold heardV at h ⊢
  rw [(sortV_perm _).mem_iff, mem_heardL] at h ⊢
  unfold saidV
  split
  · exact List.mem_append.mpr (.inl h)
  · exact h
theorem good_hand {H : List (List Int)} {v : LV} {r : Int} (g : Good H v) (hr : r < v.reqs.length) : Good H (handV v r) ∧ v.gone ≤ (handV v r).gone := by
  by_cases h0 : 0 ≤ r
  · have hok : ∀ j : Nat, okV H v.said (v.hands ++ [r]) j = (okV H v.said v.hands j || decide ((j : Int) = r)) := fun j => by
      unfold okV
      rw [Bool.eq_iff_iff]
      simp [List.mem_append]
      constructor
      · rintro ((h | h) | h)
        · exact .inl (.inl h)
        · exact .inr h
        · exact .inl (.inr h)
      · rintro ((h | h) | h)
        · exact .inl (.inl h)
        · exact .inr h
        · exact .inl (.inr h)
    have e : handV v r = { v with hands := v.hands ++ [r], gone := advG v r } := by unfold handV; rw [if_pos h0]
    rw [e]
    have hgr : advG v r = (if v.gone ≤ r.toNat then r.toNat + 1 else v.gone) := by unfold advG; simp [h0]
    have gle := g.gle
    refine ⟨⟨?_, fun j h1 h2 => ?_, ?_, g.sr, fun h hh => ?_⟩, ?_⟩
    · show advG v r ≤ v.reqs.length
      rw [hgr]; split <;> omega
    · show okV H v.said (v.hands ++ [r]) j = false
      have h1 : advG v r ≤ j := h1
      rw [hgr] at h1
      rw [hok, g.open_ j (by split at h1 <;> omega) h2, Bool.false_or, decide_eq_false_iff_not]
      split at h1 <;> omega
    · show advG v r = 0 ∨ okV H v.said (v.hands ++ [r]) (advG v r - 1) = true
      rw [hok, hgr]
      split
      · right
        rw [show decide (((r.toNat + 1 - 1 : Nat) : Int) = r) = true from decide_eq_true (by omega), Bool.or_true]
      · rcases g.top with h | h
        · exact .inl h
        · right; rw [h]; rfl
    · rcases List.mem_append.mp hh with h | h
      · exact g.hr _ h
      · exact ⟨r.toNat, by rw [List.mem_singleton.mp h]; omega, show r.toNat < v.reqs.length by omega⟩
    · show v.gone ≤ advG v r
      rw [hgr]; split <;> omega
  · have e : handV v r = v := by
      unfold handV advG
      rw [if_neg h0, if_neg (by omega)]
    rw [e]
    exact ⟨g, Nat.le_refl _⟩
theorem good_ans {H : List (List Int)} {v : LV} {r who : Int} (g : Good H v) (hr : r < v.reqs.length) : Good H (ansV H v r who) ∧ v.gone ≤ (ansV H v r who).gone := by
  have gle := g.gle
  have hgg : (ansV H v r who).gone = if 0 ≤ r ∧ v.gone ≤ r.toNat ∧ winsV H (heardV (saidV v.said r who) r) = true then r.toNat + 1 else v.gone := rfl
  have hne : ∀ j : Nat, (j : Int) ≠ r → okV H (saidV v.said r who) v.hands j = okV H v.said v.hands j := fun j h => by
    unfold okV heardV
    rw [heardL_saidV_ne (.inl h)]
  have hge : v.gone ≤ (ansV H v r who).gone := by rw [hgg]; split <;> omega
  refine ⟨⟨?_, fun j h1 h2 => ?_, ?_, fun p hp => ?_, g.hr⟩, hge⟩
  · show (ansV H v r who).gone ≤ v.reqs.length
    rw [hgg]; split <;> omega
  · show okV H (saidV v.said r who) v.hands j = false
    have hold := g.open_ j (Nat.le_trans hge h1) h2
    by_cases hj : (j : Int) = r
    · have h1' : (ansV H v r who).gone ≤ j := h1
      have hw : winsV H (heardV (saidV v.said r who) r) = false := by
        cases hw : winsV H (heardV (saidV v.said r who) r) with
        | false => rfl
        | true =>
          rw [hgg, if_pos ⟨by omega, by omega, hw⟩] at h1'
          omega
      unfold okV at hold ⊢
      rw [Bool.or_eq_false_iff] at hold ⊢
      exact ⟨hold.1, by rw [hj]; exact hw⟩
    · rw [hne j hj]; exact hold
  · show (ansV H v r who).gone = 0 ∨ okV H (saidV v.said r who) v.hands ((ansV H v r who).gone - 1) = true
    rw [hgg]
    split
    · next c =>
      right
      unfold okV
      rw [show ((r.toNat + 1 - 1 : Nat) : Int) = r by omega, c.2.2, Bool.or_true]
    · rcases g.top with h | h
      · exact .inl h
      · right
        unfold okV at h ⊢
        rw [Bool.or_eq_true] at h ⊢
        exact h.imp id fun h => winsV_mono heardV_mono h
  · have hp' : p ∈ saidV v.said r who := hp
    unfold saidV at hp'
    split at hp'
    · next c =>
      rcases List.mem_append.mp hp' with h | h
      · exact g.sr p h
      · rw [List.mem_singleton.mp h]
        exact ⟨r.toNat, by show r = _; omega, show r.toNat < v.reqs.length by omega⟩
    · exact g.sr p hp'
theorem sort_nil : sortV [] = [] := List.Perm.eq_nil (sortV_perm [])
theorem good_add {H : List (List Int)} {v : LV} {q : Req} (g : Good H v) (hH : winsV H [] = false) : Good H { v with reqs := v.reqs ++ [q] } := by
  refine ⟨?_, fun r h1 h2 => ?_, g.top, fun p hp => ?_, fun h hh => ?_⟩
  · show v.gone ≤ (v.reqs ++ [q]).length
    rw [List.length_append]; exact Nat.le_trans g.gle (Nat.le_add_right ..)
  · show okV H v.said v.hands r = false
    have h2' : r < v.reqs.length + 1 := by simpa using h2
    by_cases c : r < v.reqs.length
    · exact g.open_ r h1 c
    · have hr : r = v.reqs.length := by omega
      unfold okV
      rw [Bool.or_eq_false_iff]
      constructor
      · rw [decide_eq_false_iff_not]
        intro hm
        obtain ⟨j, e, hj⟩ := g.hr _ hm
        omega
      · have : heardL v.said r = [] := by
          unfold heardL
          rw [List.filter_eq_nil_iff.mpr, List.map_nil]
          intro p hp h
          obtain ⟨j, e, hj⟩ := g.sr p hp
          have : p.1 = r := by simpa using h
          omega
        unfold heardV
        rw [this, sort_nil]
        exact hH
  · obtain ⟨j, e, hj⟩ := g.sr p hp
    exact ⟨j, e, by show j < (v.reqs ++ [q]).length; rw [List.length_append]; omega⟩
  · obtain ⟨j, e, hj⟩ := g.hr h hh
    exact ⟨j, e, by show j < (v.reqs ++ [q]).length; rw [List.length_append]; omega⟩
theorem wins_nil {x : Fx} (ok : FxOk x) : winsV x.H [] = false := by
  have := vote_wins ok (ks := [])
  rw [majV_nil ok.h1n, Bool.false_and, sort_nil] at this
  exact this.symm
end

/-! C35 -/
section
variable {prog : Program} {w : World} {A : Around} {E : Value → Shared → Prop} {s s₀ s' : Shared} {tk : Nat} {d n : Nat} {x : Fx} {D : Dt} {l cl : List (Str × Value)} {env : Env}
noncomputable def stepV (H : List (List Int)) (v : LV) (way r who : Int) : LV := if way = 4 then handV v r else ansV H v r who
theorem good_step {H : List (List Int)} {v : LV} {way r who : Int} (g : Good H v) (hr : r < v.reqs.length) : Good H (stepV H v way r who) ∧ v.gone ≤ (stepV H v way r who).gone := by
  unfold stepV; split
  · exact good_hand g hr
  · exact good_ans g hr
theorem stepV_reqs {H : List (List Int)} {v : LV} {way r who : Int} : (stepV H v way r who).reqs = v.reqs := by unfold stepV; split <;> rfl
theorem stepV_said {H : List (List Int)} {v : LV} {way r who : Int} : (stepV H v way r who).said.length ≤ v.said.length + 1 := by
  unfold stepV; split
  · show v.said.length ≤ _; omega
  · show (saidV v.said r who).length ≤ _
    unfold saidV; split
    · rw [List.length_append]; exact Nat.le_refl _
    · omega
theorem stepV_hands {H : List (List Int)} {v : LV} {way r who : Int} : (stepV H v way r who).hands.length ≤ v.hands.length + 1 := by
  unfold stepV; split
  · show (if 0 ≤ r then v.hands ++ [r] else v.hands).length ≤ _
    split
    · rw [List.length_append]; exact Nat.le_refl _
    · omega
  · show v.hands.length ≤ _; omega
theorem mono_next {env : Env} {st : Stmt} {R : Shared → Prop} {Q : Flow → Shared → Prop} (h : wpAny (model prog w) A (exec st env) (fun f s' => f = .next ∧ R s') (fun _ _ => False) (St s tk)) (k : ∀ s', R s' → Q .next s') : wpAny (model prog w) A (exec st env) Q (fun _ _ => False) (St s tk) :=
  wpAny_mono h (fun f s' ⟨e, r⟩ => e ▸ k s' r) fun _ _ h => h
theorem turnTail {r who way : Int} {tr tw tg twh : Tok} {iv : Value} {g : Nat} (ok : FxOk x) (hA : Lv d A) (hd : d < 320) (hb : Base w s₀.heap) (O : Own s₀ (lenv n)) (a : At prog w s₀ (lenv n) x D s) (G : Good x.H D.v) (hgf : D.gf = D.v.gone) (hg : D.v.gone = g)
    (hr : r < D.v.reqs.length) (hpos : 0 < D.v.reqs.length) (hlen : D.v.reqs.length ≤ 12) (hsl : D.v.said.length ≤ 12) (hhl : D.v.hands.length ≤ 12)
    (F : Fm [] s₀ (lenv n) (("who", .int who twh) :: ("r", .int r tr) :: ("way", .int way tw) :: ("i", iv) :: Bl x D.ah D.af g tg) (CL D.an D.aa D.am D.as_) s) :
    wpAny (model prog w) A (execs (lbody.drop 7) (lenv n)) (fun f s' => f = .next ∧ ∃ (D' : Dt) (t' : Tok) (s'' : Shared) (tk' : Nat), s' = St s'' tk' ∧ At prog w s₀ (lenv n) x D' s'' ∧ D'.v = stepV x.H D.v way r who ∧ D'.gf = D'.v.gone ∧
      Fm [] s₀ (lenv n) (("i", iv) :: Bl x D'.ah D'.af D'.v.gone t') (CL D'.an D'.aa D'.am D'.as_) s'') (fun _ _ => False) (St s tk) := by
  with_reducible refine exB (st := ?st) (rest := ?rest) ?e ?_
  case e => exact rfl
  have hz := Bz.of hb
  have hc := lcn n
  kba_ints
  have hno : (([110, 111, 32, 115, 117, 99, 104, 32, 114, 111, 117, 110, 100] : List UInt8).toArray) = noname := rfl
  rw [hno]
  with_reducible refine stoL F O fun s₁ tk₁ e₁ F₁ => ?_
  have a₁ := a.loc e₁
  with_reducible refine wpAny_execs_cons ?_
  refine mono_next (phName hA hb O a₁ hr hlen F₁) fun s' h => ?_
  obtain ⟨s₂, tk₂, t₂, rfl, a₂, F₂⟩ := h
  kba_ints
  with_reducible refine newL (le_line rfl) fun l0 s₃ tk₃ e₃ hl0 hl₃ => ?_
  have F₃ := F₂.step0 e₃
  obtain ⟨z₃, k₃, a₃, hlz⟩ : ∃ z₃, Sub D.z z₃ ∧ At prog w s₀ (lenv n) x { D with z := z₃ } s₃ ∧ LetZ z₃ l0 [] [] := ⟨_, (a₂.step0 e₃).L.full.1, (a₂.step0 e₃).full, plNew hl₃ hl0 (a₂.L.new F₂ hc), trivial⟩
  with_reducible refine stoL F₃ O fun s₄ tk₄ e₄ F₄ => ?_
  have a₄ := a₃.loc e₄
  with_reducible refine wpAny_execs_cons ?_
  have ph : wpAny (model prog w) A (exec (lbs 10) (lenv n)) (fun f s' => f = .next ∧ ∃ (D' : Dt) (p : Addr) (us : List Value) (s'' : Shared) (tk' : Nat), s' = St s'' tk' ∧ At prog w s₀ (lenv n) x D' s'' ∧
      Fm [] s₀ (lenv n) (("let", .ref p) :: ("i", iv) :: Bl x D'.ah D'.af g tg) (CL D'.an D'.aa D'.am D'.as_) s'' ∧ LetZ D'.z p us ((D.v.reqs.drop D.v.gone).take (D'.v.gone - D.v.gone)) ∧ D'.v = stepV x.H D.v way r who ∧ D'.gf = D.gf) (fun _ _ => False) (St s₄ tk₄) := by
    by_cases hw : way = 4
    · subst hw
      unfold stepV
      rw [if_pos rfl]
      exact phHand (D := { D with z := z₃ }) ok hA (by omega) hb O a₄ hr hlen hhl F₄
    · unfold stepV
      rw [if_neg hw]
      exact phAns (D := { D with z := z₃ }) ok hA (by omega) hb O a₄ hr hlen hsl hw hg hlz F₄
  refine mono_next ph fun s' h => ?_
  clear ph F₄ a₄ a₃ F₃ F₂ a₂ F₁ a₁
  obtain ⟨D₅, p, us, s₅, tk₅, rfl, a₅, F₅, hlz₅, hv₅, hgf₅⟩ := h
  obtain ⟨G', hge⟩ := good_step (way := way) (who := who) G hr
  rw [← hv₅] at G' hge
  have hreq : D₅.v.reqs = D.v.reqs := by rw [hv₅]; exact stepV_reqs
  have hsl₅ : D₅.v.said.length ≤ 13 := by have := stepV_said (H := x.H) (v := D.v) (way := way) (r := r) (who := who); rw [← hv₅] at this; omega
  have hlen₅ : D₅.v.reqs.length ≤ 12 := by rw [hreq]; exact hlen
  have gle := G'.gle
  have hrl : ((D.v.reqs.drop D.v.gone).take (D₅.v.gone - D.v.gone)).length = D₅.v.gone - D.v.gone := by
    rw [List.length_take, List.length_drop]
    rw [hreq] at gle
    omega
  with_reducible refine wpAny_execs_cons ?_
  refine mono_next (phFree hA (by omega) hb O a₅ hlz₅ (by omega) (by have := G.gle; omega) (fun i q hq => ?_) F₅) fun s' h => ?_
  · rw [List.getElem?_take] at hq
    split at hq
    · rw [List.getElem?_drop] at hq
      rw [hreq, hgf₅, hgf]; exact hq
    · cases hq
  obtain ⟨z₆, vf₆, s₆, tk₆, rfl, a₆, F₆⟩ := h
  rw [hrl, show D₅.gf + (D₅.v.gone - D.v.gone) = D₅.v.gone by omega] at a₆
  with_reducible refine wpAny_execs_cons ?_
  refine mono_next (phGone ok hA (by omega) hb O a₆ hlen₅ hsl₅ (goneV_good G') F₆) fun s' h => ?_
  obtain ⟨t₇, s₇, tk₇, rfl, a₇, F₇⟩ := h
  with_reducible refine wpAny_execs_cons ?_
  refine mono_next (phFreed hA (by omega) hb O a₇ rfl hlen₅ F₇) fun s' h => ?_
  obtain ⟨s₈, tk₈, rfl, a₈, F₈⟩ := h
  with_reducible refine wpAny_execs_cons ?_
  refine mono_next (phWait hA (by omega) hb O a₈ hlen₅ hsl₅ gle F₈) fun s' h => ?_
  obtain ⟨T, z₉, s₉, tk₉, rfl, a₉, hw₉, F₉⟩ := h
  with_reducible refine wpAny_execs_cons ?_
  refine mono_next (phRow hA (by omega) hb O a₉ hlen₅ hw₉ F₉) fun s' h => ?_
  obtain ⟨s₁₀, tk₁₀, rfl, a₁₀, F₁₀⟩ := h
  with_reducible refine wpAny_execs_cons ?_
  refine mono_next (phLast hA (by omega) hb O a₁₀ hlen₅ (by show 0 < D₅.v.reqs.length; rw [hreq]; exact hpos) gle F₁₀) fun s' h => ?_
  obtain ⟨s₁₁, tk₁₁, rfl, a₁₁, F₁₁⟩ := h
  kba_ints
  exact ⟨rfl, _, t₇, s₁₁, _, rfl, a₁₁, hv₅, rfl, F₁₁.to ⟨by lsm_bools, by lsm_bools, by lsm_bools, by lsm_bools, by lsm_bools, by lsm_bools, by lsm_bools, by lsm_bools, by lsm_bools, by lsm_bools, trivial⟩⟩
end

/-! C36 -/
section
variable {prog : Program} {w : World} {A : Around} {E : Value → Shared → Prop} {s s₀ s' : Shared} {tk : Nat} {d n : Nat} {x : Fx} {D : Dt} {l cl : List (Str × Value)} {env : Env}
theorem phWay {w0 : Int} {t ti tg : Tok} {yv : Value} {i : Nat} {g : Nat} (hb : Base w s₀.heap) (O : Own s₀ (lenv n)) (a : At prog w s₀ (lenv n) x D s)
    (F : Fm [] s₀ (lenv n) (("y", yv) :: ("way", .int w0 t) :: ("i", .int i ti) :: Bl x D.ah D.af g tg) (CL D.an D.aa D.am D.as_) s) :
    wpAny (model prog w) A (exec (lbs 3) (lenv n)) (fun f s' => f = .next ∧ ∃ (t' : Tok) (s'' : Shared) (tk' : Nat), s' = St s'' tk' ∧ At prog w s₀ (lenv n) x D s'' ∧
      Fm [] s₀ (lenv n) (("y", yv) :: ("way", .int (if i = 1 then 0 else w0) t') :: ("i", .int i ti) :: Bl x D.ah D.af g tg) (CL D.an D.aa D.am D.as_) s'') (fun _ _ => False) (St s tk) := by
  refine exIf (a := ?a) (b := ?b) (c := ?c) (p := ?p) ?e ?_
  case e => exact rfl
  have hz := Bz.of hb
  kba_ints
  by_cases hi : i = 1
  · rw [show ((i : Int) == 1) = true by rw [beq_iff_eq]; omega]
    kba_ints
    with_reducible refine stoL F O fun s₂ tk₂ e₂ F₂ => ?_
    kba_ints
    rw [if_pos hi]
    exact ⟨rfl, _, s₂, _, rfl, a.loc e₂, F₂.to ⟨by lsm_bools, by lsm_bools, by lsm_bools, by lsm_bools, by lsm_bools, by lsm_bools, by lsm_bools, by lsm_bools, by lsm_bools, by lsm_bools, by lsm_bools, by lsm_bools, trivial⟩⟩
  · rw [show ((i : Int) == 1) = false by rw [beq_eq_false_iff_ne]; omega]
    kba_ints
    rw [if_neg hi]
    exact ⟨rfl, t, s, _, rfl, a, F⟩
theorem drawV_nonneg {ns : List Int} {i : Nat} (h : ∀ n ∈ ns, 0 ≤ n) : 0 ≤ drawV ns i := by
  unfold drawV
  have h1 : 0 ≤ ns.getD (i % ns.length) 0 := by
    rw [List.getD_eq_getElem?_getD]
    cases q : ns[i % ns.length]? with
    | none => exact Int.le_refl _
    | some v => exact h v (List.mem_of_getElem? q)
  generalize i / ns.length = q
  omega
theorem turn {i : Nat} {ti tg : Tok} (ok : FxOk x) (hA : Lv d A) (hd : d < 310) (hb : Base w s₀.heap) (O : Own s₀ (lenv n)) (a : At prog w s₀ (lenv n) x D s) (G : Good x.H D.v) (hgf : D.gf = D.v.gone) (hpos : i ≠ 1 → 0 < D.v.reqs.length)
    (hlen : D.v.reqs.length ≤ 11) (hsl : D.v.said.length ≤ 11) (hhl : D.v.hands.length ≤ 11)
    (F : Fm [] s₀ (lenv n) (("i", .int i ti) :: Bl x D.ah D.af D.v.gone tg) (CL D.an D.aa D.am D.as_) s) :
    wpAny (model prog w) A (execs lbody (lenv n)) (fun f s' => f = .next ∧ ∃ (D' : Dt) (t' : Tok) (s'' : Shared) (tk' : Nat), s' = St s'' tk' ∧ At prog w s₀ (lenv n) x D' s'' ∧ Good x.H D'.v ∧ D'.gf = D'.v.gone ∧ 0 < D'.v.reqs.length ∧ D'.v.reqs.length ≤ D.v.reqs.length + 1 ∧
      D'.v.said.length ≤ D.v.said.length + 1 ∧ D'.v.hands.length ≤ D.v.hands.length + 1 ∧ Fm [] s₀ (lenv n) (("i", .int i ti) :: Bl x D'.ah D'.af D'.v.gone t') (CL D'.an D'.aa D'.am D'.as_) s'') (fun _ _ => False) (St s tk) := by
  with_reducible refine exB (st := ?st) (rest := ?rest) ?e ?_
  case e => exact rfl
  have hz := Bz.of hb
  have hc := lcn n
  have hnl : D.vn.length = D.v.reqs.length := by rw [a.n.len, List.length_range]
  kba_ints
  refine lawDraw (F.bz hz) hA (by omega) (a.fn.sub a.sub) ok.ns0 (by have := ok.nsl; omega) fun t₁ s₁ tk₁ e₁ => ?_
  have hdv := drawV_nonneg (i := i) ok.nsp
  generalize drawV x.ns i = dv at hdv
  have a₁ := a.step0 e₁
  with_reducible refine stoL (F.step0 e₁) O fun s₂ tk₂ e₂ F₂ => ?_
  have a₂ := a₁.loc e₂
  kba_ints
  with_reducible refine stoL F₂ O fun s₃ tk₃ e₃ F₃ => ?_
  have a₃ := a₂.loc e₃
  kba_ints
  with_reducible refine stoL F₃ O fun s₄ tk₄ e₄ F₄ => ?_
  have a₄ := a₃.loc e₄
  have F₄' := F₄.to (l' := ("y", .int (dv / 5) _) :: ("way", .int (dv % 5) _) :: ("i", .int i ti) :: Bl x D.ah D.af D.v.gone tg) ⟨by lsm_bools, by lsm_bools, by lsm_bools, by lsm_bools, by lsm_bools, by lsm_bools, by lsm_bools, by lsm_bools, by lsm_bools, by lsm_bools, by lsm_bools, by lsm_bools, trivial⟩
  with_reducible refine wpAny_execs_cons ?_
  refine mono_next (phWay hb O a₄ F₄') fun s' h => ?_
  clear F₂ F₃ F₄ F₄' a₁ a₂ a₃ a₄
  obtain ⟨tw, s₅, tk₅, rfl, a₅, F₅⟩ := h
  generalize hway : (if i = 1 then (0 : Int) else dv % 5) = way at F₅
  kba_ints
  with_reducible refine lLen a₅.pn (by omega) fun _ _ => ?_
  rw [hnl]
  kba_ints
  with_reducible refine stoL F₅ O fun s₆ tk₆ e₆ F₆ => ?_
  have a₆ := a₅.loc e₆
  kba_ints
  with_reducible refine stoL F₆ O fun s₇ tk₇ e₇ F₇ => ?_
  have a₇ := a₆.loc e₇
  clear F₅ F₆ a₅ a₆
  with_reducible refine wpAny_execs_cons ?_
  by_cases hw : way = 0
  · subst hw
    refine mono_next (phAdd ok hb O hA (by omega) a₇ (by omega) (by omega) (by rw [hgf]; exact G.gle) G F₇) fun s' h => ?_
    obtain ⟨D', s₈, tk₈, t8, t9, rfl, a₈, F₈, hv, hgf'⟩ := h
    have G' : Good x.H D'.v := by rw [hv]; exact good_add G (wins_nil ok)
    have hl' : D'.v.reqs.length = D.v.reqs.length + 1 := by rw [hv]; simp
    have hg' : D'.v.gone = D.v.gone := by rw [hv]
    have hs' : D'.v.said = D.v.said := by rw [hv]
    have hh' : D'.v.hands = D.v.hands := by rw [hv]
    refine wpAny_mono (turnTail (g := D.v.gone) ok hA (by omega) hb O a₈ G' (by rw [hgf', hgf, hg']) hg' (by omega) (by omega) (by omega) (by rw [hs']; omega) (by rw [hh']; omega) F₈) (fun f s' h => ?_) fun _ _ h => h
    obtain ⟨rfl, D'', t', s₉, tk₉, rfl, a₉, hv₉, hg₉, F₉⟩ := h
    refine ⟨rfl, D'', t', s₉, tk₉, rfl, a₉, ?_, hg₉, ?_, ?_, ?_, ?_, F₉⟩
    · rw [hv₉]; exact (good_step G' (by omega)).1
    · rw [hv₉, stepV_reqs]; omega
    · rw [hv₉, stepV_reqs]; omega
    · rw [hv₉, ← hs']; exact stepV_said
    · rw [hv₉, ← hh']; exact stepV_hands
  · refine phSkip (ty := ti) hw hb F₇ fun tk₈ => ?_
    have hi : i ≠ 1 := fun e => hw (by rw [← hway, if_pos e])
    have hp := hpos hi
    have F₇' := F₇.to (l' := ("who", _) :: ("r", _) :: ("way", .int way tw) :: ("i", .int i ti) :: Bl x D.ah D.af D.v.gone tg) ⟨by lsm_bools, by lsm_bools, by lsm_bools, by lsm_bools, by lsm_bools, by lsm_bools, by lsm_bools, by lsm_bools, by lsm_bools, by lsm_bools, by lsm_bools, by lsm_bools, by lsm_bools, trivial⟩
    refine wpAny_mono (turnTail (g := D.v.gone) ok hA (by omega) hb O a₇ G hgf rfl (by omega) hp (by omega) (by omega) (by omega) F₇') (fun f s' h => ?_) fun _ _ h => h
    obtain ⟨rfl, D'', t', s₉, tk₉, rfl, a₉, hv₉, hg₉, F₉⟩ := h
    refine ⟨rfl, D'', t', s₉, tk₉, rfl, a₉, ?_, hg₉, ?_, ?_, ?_, ?_, F₉⟩
    · rw [hv₉]; exact (good_step G (by omega)).1
    · rw [hv₉, stepV_reqs]; omega
    · rw [hv₉, stepV_reqs]; omega
    · rw [hv₉]; exact stepV_said
    · rw [hv₉]; exact stepV_hands
end

/-! C37a -/
section
variable {prog : Program} {w : World} {s s₀ s' : Shared} {tk : Nat} {d n : Nat} {x : Fx} {D : Dt} {env : Env} {z : Heap} {I : Addr}
/-- at I stands an iterator over a range, or nothing -/
noncomputable def NoI (z : Heap) (I : Addr) : Prop := ∀ o, z.get? I = some o → o.cls = .type "range_iterator"
theorem getH {a : Addr} {o : Obj} (h : z.get? a = some o) (hI : NoI z I) (hc : o.cls ≠ .type "range_iterator") : (hideAll z [I]).get? a = some o :=
  hideAll_get _ h fun m => hc (hI o ((List.mem_singleton.mp m) ▸ h))
theorem plH {a : Addr} {vs : Array Value} (h : z.PlainList a vs) (hI : NoI z I) : (hideAll z [I]).PlainList a vs := let ⟨n, e⟩ := h; ⟨n, getH e hI (fun q => by injection q with q; exact absurd q (by decide))⟩
theorem instH {a C dx : Addr} {l : List (Str × Value)} (h : Inst z a C dx l) (hI : NoI z I) : Inst (hideAll z [I]) a C dx l :=
  ⟨getH h.at_ hI (fun q => by cases q), let ⟨es, n, e, r⟩ := h.tab; ⟨es, n, getH e hI (fun q => by injection q with q; exact absurd q (by decide)), r⟩⟩
theorem isH {n : Nat} {v : Value} {p : PV} (h : Is z n v p) (hI : NoI z I) : Is (hideAll z [I]) n v p := h.hide (NoT.one fun vs ⟨o, ho, hc, _⟩ => by rw [hI o ho] at hc; injection hc with hc; exact absurd hc (by decide))
theorem liH {a : Addr} {ns : List Int} (h : LI z a ns) (hI : NoI z I) : LI (hideAll z [I]) a ns := let ⟨vs, p, q⟩ := h; ⟨vs, plH p hI, q⟩
theorem msgH {m : Addr} {frm : Int} {dat : Array UInt8} {var : Bool} (h : MsgAt z m frm dat var) (hI : NoI z I) : MsgAt (hideAll z [I]) m frm dat var := by
  obtain ⟨dx, el, t0, t1, t2, t3, t4, t5, t6, t7, tc, I', h⟩ := h
  refine ⟨dx, el, t0, t1, t2, t3, t4, t5, t6, t7, tc, instH I' hI, ?_⟩
  cases var with
  | true => obtain ⟨e, hl, dx', u0, u1, u2, u3, Ie⟩ := h; exact ⟨e, plH hl hI, dx', u0, u1, u2, u3, instH Ie hI⟩
  | false => exact plH h hI
theorem stH {y : WR} (h : StAt z y) (hI : NoI z I) : StAt (hideAll z [I]) y := let ⟨ds, m, t, Is', M⟩ := h; ⟨ds, m, t, instH Is' hI, msgH M hI⟩
theorem hideNone' {b : Addr} (e : z.get? b = none) : (hideAll z [I]).get? b = none := hideNone e
theorem At.hide (a : At prog w s₀ env x D s) (hI : NoI D.z I) (ks : List (Addr × Obj)) (hk : ks = []) : At prog w s₀ env { x with keep := ks } { D with z := hideAll D.z [I] } s := by
  subst hk
  have R := a.L.ro_
  have R' : RO prog w (hideAll D.z [I]) s.heap x.ro D.rot D.pend D.qu x.op (x.born + D.v.reqs.length) D.W := ⟨getH R.head hI (fun q => by cases q), R.tab, R.queue, R.pen, R.sys, fun y hy => stH (R.sts y hy) hI, R.votes, R.nd, R.len, R.al, fun b hb => hideNone (R.off b hb), R.apart⟩
  have L' : Lw prog w s₀ env (hideAll D.z [I]) s D.ls x.ro D.rot D.pend D.qu x.op (x.born + D.v.reqs.length) D.W := ⟨hideSub.trans a.L.sub, a.L.lists, R', fun b hb => ⟨hideNone (a.L.off b hb).1, (a.L.off b hb).2⟩, fun b hb => hideNone (a.L.loc b hb), a.L.nd⟩
  refine { L := L', fn := liH a.fn hI, fh := ?_, fc := ?_, n := a.n, a := a.a.mono (fun _ _ q => isH q hI), m := a.m, s := a.s.mono (fun _ _ q => isH q hI), h := a.h, f := a.f.mono (fun _ _ q => isH q hI), w := a.w, ex := fun p hp => nomatch hp }
  · obtain ⟨vs, p, q⟩ := a.fh
    exact ⟨vs, plH p hI, q.mono fun _ _ ⟨b, e, r⟩ => ⟨b, e, liH r hI⟩⟩
  · obtain ⟨dx, v1, v2, v3, v4, I', l1, l2⟩ := a.fc
    exact ⟨dx, v1, v2, v3, v4, instH I' hI, liH l1 hI, liH l2 hI⟩
/-- what keep names -/
theorem At.kept (a : At prog w s₀ env x D s) {ks : List (Addr × Obj)} (h : ∀ p ∈ ks, D.z.get? p.1 = some p.2) : At prog w s₀ env { x with keep := ks } D s :=
  { L := a.L, fn := a.fn, fh := a.fh, fc := a.fc, n := a.n, a := a.a, m := a.m, s := a.s, h := a.h, f := a.f, w := a.w, ex := h }
theorem FxOk.keep {ks : List (Addr × Obj)} (ok : FxOk x) : FxOk { x with keep := ks } := ⟨ok.ns0, ok.nsl, ok.nsp, ok.hH, ok.h1n, ok.l1, ok.l2, ok.b0, ok.b1⟩
variable {A : Around} {E : Value → Shared → Prop}
theorem forRange2 {x : Str} {p : Pos} {body : List Stmt} {r : Addr} {a b : Int} {t u v : Tok} {R : Result → Shared → Prop} (hA : Lv d A) (hr : IsRange s.heap r a b 1 t u v) (ha : 0 ≤ a) (ha' : a ≤ 1000000) (hb : 0 ≤ b) (hb' : b ≤ 1000000) (J : Addr → Nat → Shared → Prop)
    (hJ : ∀ I, s.heap.get? I = none → ∀ i s₁ s₂, J I i s₁ → Ext [I] s₁ s₂ → J I i s₂) (h0 : ∀ I s', Ext [] s s' → s.heap.get? I = none → J I 0 s')
    (step : ∀ I i t s₁ tk₁, s.heap.get? I = none → i < (b - a).toNat → (∃ o, s₁.heap.get? I = some o ∧ o.cls = .type "range_iterator") → J I i s₁ → wpAny (model prog w) A (storeName env x (.int (a + i) t)) (fun _ s₂ => wpAny (model prog w) A (execs body env)
      (fun f s₃ => match f with
        | .next | .cont => ∃ s' tk', s₃ = St s' tk' ∧ J I (i + 1) s' ∧ ∀ o, s₁.heap.get? I = some o → s'.heap.get? I = some o
        | .brk => R (.ok .next) s₃
        | .ret v => R (.ok (.ret v)) s₃) (fun _ _ => False) s₂) (fun _ _ => False) (St s₁ tk₁))
    (done : ∀ I s' tk', s.heap.get? I = none → J I (b - a).toNat s' → R (.ok .next) (St s' tk')) :
    wpAny (model prog w) A (pyIter (.ref r)) (fun it s₂ => codeAny (model prog w) A (.forLoop (.Name x p) it body [] env) R s₂) E (St s tk) := by
  refine itR hr ha ha' hb hb' fun I s' tk' e hI hit => ?_
  refine forW (Walks.range hA.1 I a 1 (b - a).toNat) goName (J I) (hJ I hI) (h0 I s' e hI) (by simpa using hit) (fun i v s₁ tk₁ hi hv hj hs => ?_) fun s'' tk'' hj => done I s'' tk'' hI hj
  obtain ⟨t, rfl⟩ := hv
  rw [Int.mul_one]
  refine wpAny_assign_Name (wpAny_mono (step I i t s₁ tk₁ hI hi ⟨_, hs, rfl⟩ hj) (fun _ s₂ h₂ => wpAny_mono h₂ (fun f s₃ h₃ => ?_) fun _ _ q => q) fun _ _ q => q)
  have nx : (∃ s' tk', s₃ = St s' tk' ∧ J I (i + 1) s' ∧ ∀ o, s₁.heap.get? I = some o → s'.heap.get? I = some o) → ∃ s' tk', s₃ = St s' tk' ∧ J I (i + 1) s' ∧ ∀ b ∈ [I], ∀ o, s₁.heap.get? b = some o → s'.heap.get? b = some o := by
    rintro ⟨s', tk', rfl, hj', h1⟩
    exact ⟨s', tk', rfl, hj', fun b hb o ho => by rw [List.mem_singleton.mp hb] at ho ⊢; exact h1 o ho⟩
  cases f with
  | next => exact nx h₃
  | cont => exact nx h₃
  | brk => exact h₃
  | ret v => exact h₃
end

/-! C37 -/
section
variable {prog : Program} {w : World} {A : Around} {E : Value → Shared → Prop} {s s₀ s' : Shared} {tk : Nat} {d n : Nat} {x : Fx} {D : Dt} {l cl : List (Str × Value)} {env : Env}
theorem lawLoop {tg : Tok} (ok : FxOk x) (hA : Lv d A) (hd : d < 310) (hb : Base w s₀.heap) (O : Own s₀ (lenv n)) (a : At prog w s₀ (lenv n) x D s) (hkp : x.keep = []) (G : Good x.H D.v) (hgf : D.gf = D.v.gone) (h0 : D.v.reqs.length = 0) (h1 : D.v.said.length = 0) (h2 : D.v.hands.length = 0)
    (F : Fm [] s₀ (lenv n) (Bl x D.ah D.af D.v.gone tg) (CL D.an D.aa D.am D.as_) s) :
    wpAny (model prog w) A (exec (lst 18) (lenv n)) (fun f s' => f = .next ∧ ∃ (D' : Dt) (t' : Tok) (s'' : Shared) (tk' : Nat), s' = St s'' tk' ∧ At prog w s₀ (lenv n) x D' s'' ∧ Good x.H D'.v ∧ D'.gf = D'.v.gone ∧ 0 < D'.v.reqs.length ∧ D'.v.reqs.length ≤ 11 ∧ D'.v.said.length ≤ 11 ∧
      Fm [] s₀ (lenv n) (Bl x D'.ah D'.af D'.v.gone t') (CL D'.an D'.aa D'.am D'.as_) s'') (fun _ _ => False) (St s tk) := by
  refine exFor (a := ?a) (b := ?b) (c := ?c) (p := ?p) ?e ?_
  case e => exact rfl
  have hz := Bz.of hb
  have hc := lcn n
  with_reducible refine sFor ?_
  kba_ints
  with_reducible refine rng2 fun r s₂ tk₂ t2 e₂ hr hR => ?_
  have F₂ := F.step0 e₂
  have a₂ := a.step0 e₂
  refine forRange2 hA hR (by decide) (by decide) (by decide) (by decide) (fun I i s' => ∃ (D' : Dt) (t' : Tok), D'.z.get? I = none ∧ I ∉ D'.mu ∧ At prog w s₀ (lenv n) x D' s' ∧ Good x.H D'.v ∧ D'.gf = D'.v.gone ∧ (i ≠ 0 → 0 < D'.v.reqs.length) ∧ D'.v.reqs.length ≤ i ∧ D'.v.said.length ≤ i ∧ D'.v.hands.length ≤ i ∧
      Fm [] s₀ (lenv n) (Bl x D'.ah D'.af D'.v.gone t') (CL D'.an D'.aa D'.am D'.as_) s') ?_ ?_ ?_ ?_
  · rintro I hI i s₁ s₃ ⟨D', t', hzI, hIm, a₁, G₁, g1, g2, g3, g4, g5, F₁⟩ e
    refine ⟨D', t', hzI, hIm, a₁.ext e fun b m => ?_, G₁, g1, g2, g3, g4, g5, F₁.step e fun b m => ?_⟩
    · rw [List.mem_singleton.mp m]; exact ⟨hzI, hIm⟩
    · rw [List.mem_singleton.mp m]; exact F₂.offs0 hI
  · intro I s₁ e hI
    refine ⟨D, tg, ?_, ?_, a₂.step0 e, G, hgf, fun h => absurd rfl h, by omega, by omega, by omega, F₂.step0 e⟩
    · cases q : D.z.get? I with
      | none => rfl
      | some o => rw [a₂.sub _ _ q] at hI; cases hI
    · intro m; obtain ⟨⟨o, ho⟩, _⟩ := a₂.L.has I m; rw [hI] at ho; cases ho
  · rintro I i t s₁ tk₁ hI hi ⟨oI, hoI, hcI⟩ ⟨D', t', hzI, hIm, a₁, G₁, g1, g2, g3, g4, g5, F₁⟩
    rw [show (1 : Int) + (i : Int) = ((i + 1 : Nat) : Int) by omega]
    have hIO : OffOwn (lenv n) I := F₂.new hI
    with_reducible refine stoL F₁ O fun s₃ tk₃ e₃ F₃ => ?_
    have a₃ := a₁.loc e₃
    have hi' : i < 10 + 1 := by omega
    have hoI₃ : s₃.heap.get? I = some oI := e₃.keep I oI (notin1 hIO.1) hoI
    have hIown : I ∉ own (lenv n) := fun m => hIO.notin m (lcn n) rfl
    obtain ⟨z', a₄, hz'⟩ : ∃ z', At prog w s₀ (lenv n) x { D' with z := z' } s₃ ∧ z'.get? I = some oI := ⟨_, a₃.full, full_new a₃.L F₃.ns.has hoI₃ hIm hIown⟩
    have a₅ := a₄.kept (ks := [(I, oI)]) fun p hp => by rw [List.mem_singleton.mp hp]; exact hz'
    refine wpAny_mono (turn (x := { x with keep := [(I, oI)] }) (D := { D' with z := z' }) (i := i + 1) ok.keep hA hd hb O a₅ G₁ g1 (fun h => g2 (by omega)) (by show D'.v.reqs.length ≤ 11; omega) (by show D'.v.said.length ≤ 11; omega) (by show D'.v.hands.length ≤ 11; omega) F₃) (fun f s' h => ?_) fun _ _ h => h
    obtain ⟨rfl, D'', t'', s₆, tk₆, rfl, a₆, G₆, k1, k2, k3, k4, k5, F₆⟩ := h
    have hI₆ : D''.z.get? I = some oI := a₆.ex (I, oI) (by simp)
    have hI₆' : s₆.heap.get? I = some oI := a₆.sub _ _ hI₆
    have hm₆ : I ∉ D''.mu := fun m => by have := (a₆.L.off I m).1; rw [hI₆] at this; cases this
    have a₇ := a₆.hide (I := I) (fun o q => by rw [hI₆] at q; injection q with q; rw [← q]; exact hcI) x.keep hkp
    have k3 : D''.v.reqs.length ≤ D'.v.reqs.length + 1 := k3
    have k4 : D''.v.said.length ≤ D'.v.said.length + 1 := k4
    have k5 : D''.v.hands.length ≤ D'.v.hands.length + 1 := k5
    refine ⟨s₆, _, rfl, ⟨{ D'' with z := hideAll D''.z [I] }, t'', hideAll_none _ (by simp), hm₆, a₇, G₆, k1, fun _ => k2, by show D''.v.reqs.length ≤ i + 1; omega, by show D''.v.said.length ≤ i + 1; omega, by show D''.v.hands.length ≤ i + 1; omega, F₆.to ⟨by lsm_bools, by lsm_bools, by lsm_bools, by lsm_bools, by lsm_bools, by lsm_bools, by lsm_bools, by lsm_bools, by lsm_bools, trivial⟩⟩, fun o ho => ?_⟩
    rw [hoI] at ho; injection ho with ho; rw [← ho]; exact hI₆'
  · rintro I s₁ tk₁ hI ⟨D', t', hzI, hIm, a₁, G₁, g1, g2, g3, g4, g5, F₁⟩
    kba_ints
    exact ⟨rfl, D', t', s₁, _, rfl, a₁, G₁, g1, g2 (by decide), by simpa using g3, by simpa using g4, F₁⟩
end

/-! C38 -/
section
variable {prog : Program} {w : World} {A : Around} {E : Value → Shared → Prop} {s s₀ s' : Shared} {tk : Nat} {d n : Nat} {Q : Value → Shared → Prop} {x : Fx} {D : Dt} {l cl : List (Str × Value)} {env : Env}
theorem endFree {tg : Tok} {g : Nat} (ok : FxOk x) (hA : Lv d A) (hd : d < 320) (hb : Base w s₀.heap) (O : Own s₀ (lenv n)) (a : At prog w s₀ (lenv n) x D s) (G : Good x.H D.v) (hgf : D.gf = D.v.gone) (hpos : 0 < D.v.reqs.length) (hlen : D.v.reqs.length ≤ 12)
    (F : Fm [] s₀ (lenv n) (Bl x D.ah D.af g tg) (CL D.an D.aa D.am D.as_) s) :
    wpAny (model prog w) A (exec (lst 19) (lenv n)) (fun f s' => f = .next ∧ ∃ (D' : Dt) (s'' : Shared) (tk' : Nat), s' = St s'' tk' ∧ At prog w s₀ (lenv n) x D' s'' ∧ D'.v.reqs = D.v.reqs ∧ D'.v.gone = D.v.reqs.length ∧ D'.gf = D.v.reqs.length ∧
      Fm [] s₀ (lenv n) (Bl x D'.ah D'.af g tg) (CL D'.an D'.aa D'.am D'.as_) s'') (fun _ _ => False) (St s tk) := by
  refine exFor (a := ?a) (b := ?b) (c := ?c) (p := ?p) ?e ?_
  case e => exact rfl
  have hz := Bz.of hb
  have hc := lcn n
  have hnl : D.vn.length = D.v.reqs.length := by rw [a.n.len, List.length_range]
  have gle := G.gle
  obtain ⟨t0, t1, I0⟩ := a.L.ro_.inst a.sub
  with_reducible refine sFor ?_
  kba_ints
  obtain ⟨v, hv, t, rfl⟩ := a.n.get (i := D.v.reqs.length - 1) (b := D.v.reqs.length - 1) (by rw [List.getElem?_range (by omega)])
  with_reducible refine lLast (x := .bytes (nmv x.born (D.v.reqs.length - 1)) t) a.pn (by rw [List.getLast?_eq_getElem?, hnl]; exact hv) ?_
  kba_ints
  have hnm : nmv x.born (D.v.reqs.length - 1) = nameOf x.born ((D.v.reqs.length - 1 : Nat) : Int) := by unfold nameOf; rw [if_pos (by omega), Int.toNat_natCast]
  rw [hnm]
  refine advAt ok hb hA (by omega) hc a F hlen (by omega) fun z1 q1 W1 p us s1 tk1 k1 a1 F1 hlz => ?_
  have hadv : advG D.v ((D.v.reqs.length - 1 : Nat) : Int) = D.v.reqs.length := by unfold advG; rw [Int.toNat_natCast]; split <;> omega
  rw [hadv] at a1 hlz
  generalize hrs' : (D.v.reqs.drop D.v.gone).take (D.v.reqs.length - D.v.gone) = rs at hlz
  have hrl : rs.length ≤ 12 := by rw [← hrs', List.length_take, List.length_drop]; omega
  have hrle : rs.length = D.v.reqs.length - D.v.gone := by rw [← hrs', List.length_take, List.length_drop]; omega
  have hrs : ∀ i r, rs[i]? = some r → D.v.reqs[D.gf + i]? = some r := fun i r hq => by
    rw [← hrs', List.getElem?_take] at hq
    split at hq
    · rw [List.getElem?_drop] at hq
      rw [hgf]; exact hq
    · cases hq
  have hul := hlz.2.len
  have hgl : D.gf ≤ 12 := by omega
  have hv1 : (D.v.reqs.length : Nat) = D.v.reqs.length := rfl
  obtain ⟨D1, hD1⟩ : ∃ D1 : Dt, D1 = { D with z := z1, qu := q1, W := W1, v := { D.v with gone := D.v.reqs.length } } := ⟨_, rfl⟩
  have a1' : At prog w s₀ (lenv n) x D1 s1 := by rw [hD1]; exact a1
  have F1' : Fm [] s₀ (lenv n) (Bl x D1.ah D1.af g tg) (CL D1.an D1.aa D1.am D1.as_) s1 := by rw [hD1]; exact F1
  have hlz : LetZ D1.z p us rs := by rw [hD1]; exact hlz
  have hrs : ∀ i r, rs[i]? = some r → D1.v.reqs[D1.gf + i]? = some r := by rw [hD1]; exact hrs
  have hgl : D1.gf ≤ 12 := by rw [hD1]; exact hgl
  have pz : ∃ o, D1.z.get? p = some o := let ⟨_, q⟩ := hlz.1; ⟨_, q⟩
  refine forList hA (plSub hlz.1 a1'.sub) (fun I => goTup fun i v hv => ?_) (fun I i s' => ∃ z' vf', z'.get? I = none ∧ Sub D1.z z' ∧ At prog w s₀ (lenv n) x { D1 with z := z', vf := vf', gf := D1.gf + i } s' ∧
      Fm [] s₀ (lenv n) (Bl x D1.ah D1.af g tg) (CL D1.an D1.aa D1.am D1.as_) s') ?_ ?_ ?_ ?_
  · obtain ⟨r, T, m, t, _, e, _⟩ := lz_get hlz (i := i) (v := v) (by simpa using hv); exact ⟨T, e⟩
  · rintro I hI i s₁ s₂ ⟨z', vf', hzI, k, a₁, F₁⟩ e
    have hIm : I ∉ D1.mu := fun m => by obtain ⟨⟨o, ho⟩, _⟩ := a1'.L.has I m; rw [hI] at ho; cases ho
    refine ⟨z', vf', hzI, k, a₁.ext e fun b m => ?_, F1'.iter (fun _ q => nomatch q) hI F₁ e⟩
    rw [List.mem_singleton.mp m]
    exact ⟨hzI, hIm⟩
  · intro I s₁ e hI
    refine ⟨D1.z, D1.vf, ?_, Sub.refl _, a1'.step0 e, F1'.step0 e⟩
    cases q : D1.z.get? I with
    | none => rfl
    | some o => rw [a1'.sub _ _ q] at hI; cases hI
  · rintro I i v s₁ tk₁ hI hv hit ⟨z', vf', hzI, k, a₁, F₁⟩
    obtain ⟨r, T, m, t, hri, rfl, hT, M⟩ := lz_get hlz hv
    have hT₁ : s₁.heap.IsTuple T #[.int r.idx t, .ref m] := let ⟨o, ho, q⟩ := hT; ⟨o, a₁.sub _ _ (k _ _ ho), q⟩
    have hIm : I ∉ D1.mu := fun m => by obtain ⟨⟨o, ho⟩, _⟩ := a1'.L.has I m; rw [hI] at ho; cases ho
    have hIO := F1'.new hI
    with_reducible refine asg2 F₁ O hA hT₁ fun s₂ tk₂ e₂ F₂ => ?_
    have a₂ := a₁.loc e₂
    have M₂ := (M.sub k).sub a₂.sub
    obtain ⟨dx, el, q0, q1, q2, q3, q4, q5, q6, q7, qc, I₂, _⟩ := id M₂
    kba_ints
    with_reducible refine mAppend a₂.pf ?_
    kba_ints
    refine messageRow (F₂.bz hz) hA (by omega) M₂ fun v s₃ tk₃ e₃ hvr => ?_
    have F₃ := F₂.step0 e₃
    kba_ints
    with_reducible refine newT (le_line rfl) fun T₄ s₄ tk₄ e₄ hT₄ hoT₄ => ?_
    have F₄ := F₃.step0 e₄
    have a₄ := (a₂.step0 e₃).step0 e₄
    have hrow : Is s₄.heap 4 (.ref T₄) (askedP r) := isTup hoT₄ ⟨isInt, hvr.sub e₄.sub, trivial⟩
    have L₄ : Lw prog w s₀ (lenv n) z' s₄ (D1.lv D1.vn D1.va D1.vm D1.vs D1.vh vf') x.ro D1.rot D1.pend D1.qu x.op (x.born + D1.v.reqs.length) D1.W := a₄.L
    have hrowz := L₄.is F₄ hc hrow
    have hit₄ : ∃ ob, s₄.heap.get? I = some ob ∧ ob.cls = .type "list_iterator" := let ⟨ob, h1, h2⟩ := hit; ⟨ob, (e₃.trans e₄).sub I ob (e₂.keep I ob (notin1 hIO.1) h1), h2⟩
    obtain ⟨z₄, k₄, hz₄I, hs₄, hoff, hloc, hrz⟩ : ∃ z₄, Sub z' z₄ ∧ z₄.get? I = none ∧ Sub z₄ s₄.heap ∧ (∀ b ∈ muts (D1.lv D1.vn D1.va D1.vm D1.vs D1.vh vf') D1.rot D1.pend D1.qu D1.W, z₄.get? b = none) ∧ (∀ b ∈ own (lenv n), z₄.get? b = none) ∧ Is z₄ 4 (.ref T₄) (askedP r) := by
      obtain ⟨f1, f2⟩ := L₄.full
      refine ⟨hideAll _ [I], fun b o q => hideAll_get _ (f1 b o q) (notin1 fun e => by rw [e, hzI] at q; cases q), hideAll_none _ (by simp), hideSub.trans f2.sub, fun b hb => ?_, fun b hb => ?_, hrowz.hide (NoT.one ?_)⟩
      · exact hideNone (f2.off b hb).1
      · exact hideNone (f2.loc b hb)
      · intro vs ht
        exact NoT.iter hit₄ vs (let ⟨o, ho, q⟩ := ht; ⟨o, hideSub _ _ ho, q⟩)
    have a₄' := a₄.grow (z' := z₄) (L₄.grow k₄ hs₄ hoff hloc) k₄
    have hfl := a₄.f.len
    have hfl' : vf'.length ≤ 24 := by
      have h1 : vf'.length = _ := hfl
      rw [h1, List.length_map, List.length_take]
      have : i < rs.length := (List.getElem?_eq_some_iff.mp hri).1
      show min (D1.gf + i) _ ≤ 24
      omega
    kba_ints
    with_reducible refine lAppend a₄'.pf (by rw [sizeLine_eq]; show vf'.length ≤ _; omega) fun s₅ tk₅ e₅ h₅ => ?_
    have F₅ := a₄'.L.fm1 F₄ e₅ (mulF (D := D1))
    have L₅ := appF (D := D1) a₄'.L e₅ h₅
    kba_ints
    have a₅ : At prog w s₀ (lenv n) x { D1 with z := z₄, vf := vf' ++ [.ref T₄], gf := D1.gf + (i + 1) } s₅ :=
      { L := L₅, fn := a₄'.fn, fh := a₄'.fh, fc := a₄'.fc, n := a₄'.n, a := a₄'.a, m := a₄'.m, s := a₄'.s, h := a₄'.h, w := a₄'.w, ex := a₄'.ex, f := by
          show P2 _ _ ((D1.v.reqs.take (D1.gf + (i + 1))).map askedP)
          rw [← Nat.add_assoc, take_snoc (hrs i r hri), List.map_append]
          exact a₄'.f.snoc hrz }
    have hpa : p ∉ [D1.af, (lenv n).locals] := fun m => by
      obtain ⟨o, ho⟩ := pz
      simp only [List.mem_cons, List.not_mem_nil, or_false] at m
      rcases m with h | h
      · have := (a1'.L.off D1.af (mulF (D := D1))).1; rw [← h, ho] at this; cases this
      · have := a1'.L.loc (lenv n).locals List.mem_cons_self; rw [← h, ho] at this; cases this
    have hIa : I ∉ [D1.af, (lenv n).locals] := fun m => by
      simp only [List.mem_cons, List.not_mem_nil, or_false] at m
      rcases m with h | h
      · exact hIm (h ▸ mulF (D := D1))
      · exact hIO.1 h
    refine ⟨s₅, _, rfl, ⟨z₄, vf' ++ [.ref T₄], hz₄I, k.trans k₄, a₅, F₅.to ⟨by lsm_bools, by lsm_bools, by lsm_bools, by lsm_bools, by lsm_bools, by lsm_bools, by lsm_bools, by lsm_bools, by lsm_bools, trivial⟩⟩, _,
      ((e₂.mono fun b m => List.mem_cons_of_mem _ m).trans (e₃.trans e₄).any).trans (e₅.mono fun b m => by rw [List.mem_singleton.mp m]; exact List.mem_cons_self), hIa, hpa⟩
  · rintro I s₁ tk₁ hI ⟨z', vf', hzI, k, a₁, F₁⟩
    rw [hul] at a₁
    kba_ints
    have hgr : D1.gf + rs.length = D.v.reqs.length := by rw [hD1]; show D.gf + rs.length = _; omega
    have hD1v : D1.v = { D.v with gone := D.v.reqs.length } := by rw [hD1]
    rw [hgr] at a₁
    exact ⟨rfl, _, s₁, _, rfl, a₁, by rw [hD1v], by rw [hD1v], rfl, F₁⟩
end

/-! C39 -/
section
variable {prog : Program} {w : World} {A : Around} {E : Value → Shared → Prop} {s s₀ s' : Shared} {tk : Nat} {d n : Nat} {x : Fx} {D : Dt} {l cl : List (Str × Value)} {env : Env}
theorem exRet {env : Env} {st : Stmt} {a : Expr} {p : Pos} {Q : Flow → Shared → Prop} (e : st = .Return (some a) p) (h : wpAny (model prog w) A (exec (.Return (some a) p) env) Q E (St s tk)) : wpAny (model prog w) A (exec st env) Q E (St s tk) := e ▸ h
theorem vAnd {e₁ e₂ : Expr} {rest : List Expr} {pos : Pos} {Q : Value → Shared → Prop}
    (h : wpAny (model prog w) A (eval e₁ env) (fun v s₁ => wpAny (model prog w) A (truthy v) (fun c s₂ => if c = true then wpAny (model prog w) A (eval (.BoolOp .And (e₂ :: rest) pos) env) Q E s₂ else Q v s₂) E s₁) E (St s tk)) :
    wpAny (model prog w) A (eval (.BoolOp .And (e₁ :: e₂ :: rest) pos) env) Q E (St s tk) := BoolOp_and h
theorem vOne {op : BoolOp} {e : Expr} {pos : Pos} {Q : Value → Shared → Prop} (h : wpAny (model prog w) A (eval e env) Q E (St s tk)) : wpAny (model prog w) A (eval (.BoolOp op [e] pos) env) Q E (St s tk) := BoolOp_one h
theorem lawRet {tg : Tok} {g : Nat} (hA : Lv d A) (hd : d < 320) (hb : Base w s₀.heap) (O : Own s₀ (lenv n)) (a : At prog w s₀ (lenv n) x D s) (hlen : D.v.reqs.length ≤ 12) (hg : D.v.gone = D.v.reqs.length) (hgf : D.gf = D.v.reqs.length)
    (F : Fm [] s₀ (lenv n) (Bl x D.ah D.af g tg) (CL D.an D.aa D.am D.as_) s) :
    wpAny (model prog w) A (exec (lst 20) (lenv n)) (fun f s' => f = .ret (.bool true) ∧ Ext [] s₀ s') (fun _ _ => False) (St s tk) := by
  refine exRet (a := ?a) (p := ?p) ?e ?_
  case e => exact rfl
  have hz := Bz.of hb
  have hnl : D.vn.length = D.v.reqs.length := by rw [a.n.len, List.length_range]
  have hW : D.W = [] := by
    have := congrArg List.length (w_reqs a.w)
    rw [List.length_map, List.length_drop] at this
    exact List.length_eq_zero_iff.mp (by omega)
  with_reducible refine sRet ?_
  with_reducible refine vAnd ?_
  kba_ints
  have h1 : P2 (Is s.heap 4) D.vf (D.v.reqs.map askedP) := by
    have := a.f.mono (S := Is s.heap 4) fun _ _ q => q.sub a.sub
    rwa [hgf, List.take_of_length_le (Nat.le_refl _)] at this
  have h2 : P2 (Is s.heap 4) D.va (D.v.reqs.map askedP) := a.a.mono fun _ _ q => q.sub a.sub
  with_reducible refine lEq (n := 4) hA (by omega) (by omega) a.pf a.pa h1 h2 ?_
  kba_ints
  with_reducible refine vAnd ?_
  obtain ⟨t0, t1, I⟩ := a.L.ro_.inst a.sub
  kba_ints
  refine roRow (F.bz hz) hA (by omega) a.L.ro_ a.sub fun v s₂ tk₂ e₂ hv => ?_
  have F₂ := F.step0 e₂
  have a₂ := a.step0 e₂
  kba_ints
  with_reducible refine lLen a₂.pn (by omega) fun _ _ => ?_
  rw [hnl]
  kba_ints
  with_reducible refine newT (le_line rfl) fun T₃ s₃ tk₃ e₃ hT₃ hoT₃ => ?_
  have F₃ := F₂.step0 e₃
  have a₃ := a₂.step0 e₃
  kba_ints
  with_reducible refine newT (le_line rfl) fun T₄ s₄ tk₄ e₄ hT₄ hoT₄ => ?_
  have F₄ := F₃.step0 e₄
  have a₄ := a₃.step0 e₄
  have h3 : Is s₄.heap (3 + 1) v (.tup [.int x.op, .int (x.born + D.v.reqs.length), .tup (D.W.map rowP)]) := hv.sub (e₃.sub.trans e₄.sub)
  have h4 : Is s₄.heap (3 + 1) (.ref T₄) (.tup [.int x.op, .int (x.born + D.v.reqs.length), .tup (D.W.map rowP)]) := by
    rw [hW]
    exact isTup hoT₄ ⟨isInt, isInt, isTup (e₄.sub _ _ hoT₃) trivial, trivial⟩
  with_reducible refine tEq (n := 3) hA (by omega) (by omega) h3 h4 ?_
  kba_ints
  with_reducible refine vOne ?_
  obtain ⟨t0', t1', I₄⟩ := a₄.L.ro_.inst a₄.sub
  kba_ints
  refine lastContext (F₄.bz hz) hA (by omega) a₄.L.ro_ a₄.sub fun t₅ s₅ tk₅ e₅ => ?_
  have F₅ := F₄.step0 e₅
  have e : lastV D.W = #[] := by rw [hW]; rfl
  rw [e]
  kba_ints
  with_reducible refine yEq ?_
  rw [show ((#[] : Array UInt8).toList == (([] : List UInt8).toArray).toList) = true from rfl]
  kba_ints
  exact ⟨rfl, F₅.ext.st'⟩
end

/-! C40 -/
section
variable {prog : Program} {w : World} {A : Around} {E : Value → Shared → Prop} {s s₀ s' : Shared} {tk : Nat} {d n : Nat} {x : Fx} {D : Dt} {l cl : List (Str × Value)} {env : Env}
theorem compListR {M : List Addr} {lc : List (Str × Value)} {elt iter : Expr} {x : Str} {p : Pos} {ifs : List Expr} {scope : Scope} {cl : List (Str × Addr)} {ccl : List (Str × Value)} {pos : Pos} {a : Addr} {vs : List Value} {RR : Value → Addr → Result → Shared → Prop}
    (F : Fm M s₀ env l lc s) (hM : ∀ b ∈ M, ∃ o, s.heap.get? b = some o) (hb : Bz w M s₀) (hA : Lv d A) (hl : s.heap.PlainList a vs.toArray) (hsz : vs.length ≤ 16777216) (cLoop : ∀ I acc cenv, CompLoop prog w A elt (.Name x p) iter ifs scope pos I acc cenv)
    (hcc : ∀ n c, cl.lookup n = some c → ∃ o, s.heap.IsCell c o ∧ ∀ v, look ccl n = some v → o = some v)
    (J : Nat → List Value → Prop) (h0 : J 0 [])
    (step : ∀ (i : Nat) (v : Value) C s₂ s₁ tk₁ ys (Qb : Option Value → Shared → Prop), vs[i]? = some v → J i ys → Bz w [C] s₂ → Fm [C] s₂ (compEnvC scope cl C env) [(x, v)] ccl s₁ →
      (∀ oy s₄ tk₄, Fm [C] s₂ (compEnvC scope cl C env) [(x, v)] ccl s₄ → J (i + 1) (ys ++ oy.toList) → Qb oy (St s₄ tk₄)) →
      wpAny (model prog w) A (tests ifs (compEnvC scope cl C env)) (fun ok s₃ => if ok = true then wpAny (model prog w) A (eval elt (compEnvC scope cl C env)) (fun y s₄ => Qb (some y) s₄) (fun _ _ => False) s₃ else Qb none s₃) (fun _ _ => False) (St s₁ tk₁))
    (done : ∀ D C s'' tk'' ys, Ext [] s s'' → s.heap.get? D = none → s.heap.get? C = none → C ≠ D → Nm s''.heap C [] → s''.heap.PlainList D ys.toArray → J vs.length ys → RR (.ref D) C (.ok .next) (St s'' tk''))
    (hcell : ∀ y ∈ scope.names, y.2 ≠ .cell := by decide) (hkind : scope.kind = .function := by kernel_rfl) (hx : ∀ C, (compEnvC scope cl C env).kindOf x = some .local := by intro _; kernel_rfl) (hk : ∀ C, (compEnvC scope cl C env).scope.kind = .function := by intro _; kernel_rfl) :
    wpAny (model prog w) A (pyIter (.ref a)) (fun it s₂ => CompGoal prog w A E env elt (.Name x p) iter ifs scope cl pos RR it s₂) E (St s tk) := by
  refine itL hl fun I s' tk' e hI hit => ?_
  obtain ⟨nl, hol⟩ := id hl
  have hne : a ≠ I := Ne.symm (ne_ns hI hol)
  have hl' : s'.heap.PlainList a vs.toArray := hl.at fun o q => e.sub _ _ q
  have hn : vs.toArray.size = vs.length := List.size_toArray ..
  refine compN (Bz.iter F hb hI e) (Walks.list hA.1 I a hne vs.toArray) (by rw [hn]; exact hsz) cLoop ⟨hit, hl'.isList⟩ (fun i h q => ?_) (fun b q => ?_) (fun n c h => ?_) (fun i z ys => J i ys) (fun i z z' ys hj hs => hj) h0 (fun i v C s₂ s₁ tk₁ z ys Qb hi hP hj hz hx₁ hb₁ F₁ hC k => step i v C s₂ s₁ tk₁ ys Qb (by simpa using hP) hj hb₁ F₁ fun oy s₄ tk₄ F₄ hj₄ => k oy s₄ tk₄ F₄ fun _ _ _ => hj₄) (fun D C s₂ tk₂ ys x₂ hD hC hCD hnC hlD hlen hz => ?_) hcell hkind hx hk
  · obtain ⟨⟨o, ho, _⟩, _⟩ := q; exact ⟨o, ho⟩
  · simp only [List.mem_cons, List.not_mem_nil, or_false] at q
    rcases q with rfl | rfl
    · obtain ⟨o, ho, _⟩ := hit; exact ⟨o, ho⟩
    · obtain ⟨m, ho⟩ := hl'; exact ⟨_, ho⟩
  · obtain ⟨o, ⟨oc, ho, hd⟩, q⟩ := hcc n c h
    exact ⟨Ne.symm (ne_ns hI ho), o, ⟨oc, e.sub _ _ ho, hd⟩, q⟩
  · obtain ⟨z, hj, _, _⟩ := hz
    rw [hn] at hj
    exact done D C s₂ tk₂ ys (e.fresh x₂ fun a q => .inr ((List.mem_singleton.mp q) ▸ hI)) (none_of_ext e (fun q => nomatch q) hD) (none_of_ext e (fun q => nomatch q) hC) hCD hnC hlD hj
theorem compA {y x : Str} {py p : Pos} {elt iter : Expr} {ifs : List Expr} {scope : Scope} {pos spos : Pos} {Q : Flow → Shared → Prop} (cl : List (Str × Addr)) (hclos : closureFor scope env = pure cl)
    (h : wpAny (model prog w) A (eval iter env) (fun xv s₁ => wpAny (model prog w) A (pyIter xv) (fun it s₂ => CompGoal prog w A E env elt (.Name x p) iter ifs scope cl pos (fun acc C => compPost (model prog w) A E (some (assign (.Name y py) env)) (fun _ s' => Q .next s') acc C) it s₂) E s₁) E (St s tk))
    (hsw : swapsWith (.ListComp elt [⟨.Name x p, iter, ifs, 0⟩] scope pos) (some (.Name y py)) spos.line env = pure true := by kernel_rfl)
    (hkind : scope.kind = .function := by kernel_rfl) (hnames : ∀ y ∈ scope.names, y.2 = .local → scope.names.lookup y.1 = some .local := by decide)
    (hs : ∀ x, foldedSetIterable iter env x = pure x := by intro _; kernel_rfl) : wpAny (model prog w) A (exec (.Assign [.Name y py] (.ListComp elt [⟨.Name x p, iter, ifs, 0⟩] scope pos) spos) env) Q E (St s tk) := by
  rw [exec_Assign_Name_used _ _ _ _ hsw]
  refine wpAny_bind (wpAny_standAt (wpAny_bind ?_))
  show wpAny _ A (do let _ ← comprehension (.ListComp elt [⟨.Name x p, iter, ifs, 0⟩] scope pos) scope env _ (newList []) false (eval iter env) (some (assign (.Name y py) env))) _ _ _
  exact wpAny_bind (wpAny_mono (wpAny_comprehension_free (use := some (assign (.Name y py) env)) (Q := fun _ s' => Q .next s') rfl hs hclos hkind hnames h) (fun _ s' hq => wpAny_pure (wpAny_pure hq)) fun _ _ e => e)
noncomputable def numsV (ns : List Int) : List Int := (ns.take 12).map (· % 999983)
noncomputable def nums1 (ns : List Int) : List Int := if numsV ns = [] then [5] else numsV ns
/-- nums = [x % 999983 for x in script[:12]] -/
theorem lawNums {lst0 : Addr} {vs : List Value} {ns : List Int} (hb : Base w s₀.heap) (hA : Lv d A) (O : Own s₀ (lenv n)) (hl : s₀.heap.IsList lst0 vs.toArray) (hi : P2 IsI vs ns) (hlen : vs.length ≤ 63)
    (F : Fm [] s₀ (lenv n) [("script", .ref lst0)] [] s) :
    wpAny (model prog w) A (exec (lst 0) (lenv n)) (fun f s' => f = .next ∧ ∃ (a : Addr) (s'' : Shared) (tk' : Nat), s' = St s'' tk' ∧ LI s''.heap a (numsV ns) ∧ OffOwn (lenv n) a ∧ Fm [] s₀ (lenv n) [("nums", .ref a), ("script", .ref lst0)] [] s'') (fun _ _ => False) (St s tk) := by
  refine exAsn (a := ?a) (b := ?b) (p := ?p) ?e ?_
  case e => exact rfl
  have hz := Bz.of hb
  with_reducible refine compA [] (by kernel_rfl) ?_
  kba_ints
  with_reducible refine slUpto ?_
  kba_ints
  intro sl s₂ tk₂ e₂ hsl₀ hsl
  have F₂ := F.step0 (s' := s₂) e₂.st
  have hl₂ : s₂.heap.IsList lst0 vs.toArray := hl.at fun o q => F₂.sub _ _ q
  with_reducible refine lUpto (k := 12) (vs := vs) hl₂ (by rw [sizeLine_eq]; omega) hsl fun q' s₃ tk₃ e₃ hq' hl₃ => ?_
  have F₃ := F₂.step0 e₃
  have hi' := hi.take 12
  have hvl : (vs.take 12).length ≤ 12 := by rw [List.length_take]; omega
  refine compListR F₃ (fun _ h => nomatch h) hz hA hl₃ (by omega) (fun _ _ _ => loopName) (ccl := []) (fun _ _ h => nomatch h) (fun i ys => P2 IsI ys ((numsV ns).take i)) trivial (fun i v C s₄ s₅ tk₅ ys Qb hvi hj hb₄ F₅ k => tst0 ?_) (fun Dl C s₄ tk₄ ys e₄ hDl hC hCD hnC hl₄ hj => ?_)
  · obtain ⟨m, hm, t, rfl⟩ := hi'.get' hvi
    kba_ints
    refine k (some _) s₅ _ F₅ ?_
    rw [take_snoc (show (numsV ns)[i]? = some (m % 999983) by unfold numsV; rw [List.getElem?_map, hm]; rfl)]
    exact hj.snoc ⟨_, rfl⟩
  · rw [List.take_of_length_le (by unfold numsV; rw [List.length_map]; have := hi'.len; omega)] at hj
    have hDO : OffOwn (lenv n) Dl := F₃.new hDl
    have hCO : OffOwn (lenv n) C := F₃.new hC
    have F₄ := F₃.step0 e₄
    show wpAny _ A (assign (.Name _ _) (lenv n) (.ref Dl)) _ _ _
    refine wpAny_assign_Name (stoL F₄ O fun s₅ tk₅ e₅ F₅ => ?_)
    obtain ⟨m, hm, _⟩ := hnC
    refine ⟨m, hm.at' fun o e => e₅.keep _ o (notin1 hCO.1) e, fun h₃ hs₃ => ?_⟩
    have e₆ : Ext [C] s₅ { s₅ with heap := h₃, toks := tk₅ } := Ext.of_but hs₃
    have F₆ := F₅.step1 e₆ hCO (F₃.offs0 hC).2
    refine ⟨rfl, Dl, _, _, rfl, ⟨ys, plExt (plExt hl₄ e₅ (notin1 hDO.1)) e₆ (notin1 (Ne.symm hCD)), hj⟩, hDO, F₆⟩
end

/-! C41 -/
section
variable {prog : Program} {w : World} {A : Around} {E : Value → Shared → Prop} {s s₀ s' : Shared} {tk : Nat} {d n : Nat} {l cl : List (Str × Value)} {ns : List Int} {z : Heap} {ls : List (Addr × List Value)}
/-- what stands still, and the lists that turn, while the law begins -/
structure Bg (s₀ : Shared) (n : Nat) (z : Heap) (s : Shared) (ls : List (Addr × List Value)) : Prop where
  sub : Sub z s.heap
  lists : ∀ p ∈ ls, s.heap.PlainList p.1 p.2.toArray
  off : ∀ a ∈ ls.map (·.1), z.get? a = none ∧ OffOwn (lenv n) a ∧ s₀.heap.get? a = none
  loc : ∀ a ∈ own (lenv n), z.get? a = none
theorem OffOwn.nin {a : Addr} (h : OffOwn (lenv n) a) : a ∉ own (lenv n) := fun m => h.notin m (lcn n) rfl
theorem Bg.ext {N : List Addr} (b : Bg s₀ n z s ls) (e : Ext N s s') (hN : ∀ a ∈ N, a ∈ own (lenv n)) : Bg s₀ n z s' ls :=
  ⟨b.sub.ext e fun a m => b.loc a (hN a m), fun p hp => plExt (b.lists p hp) e fun m => (b.off p.1 (List.mem_map.mpr ⟨p, hp, rfl⟩)).2.1.nin (hN _ m), b.off, b.loc⟩
theorem Bg.step0 (b : Bg s₀ n z s ls) (e : Ext [] s s') : Bg s₀ n z s' ls := b.ext e fun _ m => nomatch m
theorem Bg.stl (b : Bg s₀ n z s ls) (e : Ext [(lenv n).locals] s s') : Bg s₀ n z s' ls := b.ext e fun a m => (List.mem_singleton.mp m) ▸ List.mem_cons_self
theorem Bg.none {a : Addr} (b : Bg s₀ n z s ls) (h : s.heap.get? a = none) : z.get? a = none := by
  cases q : z.get? a with
  | none => rfl
  | some o => rw [b.sub _ _ q] at h; cases h
theorem Bg.grow (b : Bg s₀ n z s ls) : ∃ z', Sub z z' ∧ Bg s₀ n z' s ls ∧ ∀ a o, a ∉ ls.map (·.1) → OffOwn (lenv n) a → s.heap.get? a = some o → z'.get? a = some o := by
  refine ⟨hideAll s.heap (ls.map (·.1) ++ own (lenv n)), fun a o q => hideAll_get _ (b.sub a o q) fun m => ?_, ⟨hideSub, b.lists, fun a m => ⟨hideAll_none _ (List.mem_append.mpr (.inl m)), (b.off a m).2⟩, fun a m => hideAll_none _ (List.mem_append.mpr (.inr m))⟩, fun a o h1 h2 q => hideAll_get _ q fun m => (List.mem_append.mp m).elim h1 h2.nin⟩
  rcases List.mem_append.mp m with h | h
  · rw [(b.off a h).1] at q; cases q
  · rw [b.loc a h] at q; cases q
theorem Bg.add {D : Addr} {vs : List Value} (b : Bg s₀ n z s ls) (F : Fm [] s₀ (lenv n) l cl s) (hD : s.heap.get? D = .none) (e : Ext [] s s') (hl : s'.heap.PlainList D vs.toArray) : Bg s₀ n z s' ((D, vs) :: ls) := by
  have b' := b.step0 e
  refine ⟨b'.sub, fun p hp => ?_, fun a m => ?_, b'.loc⟩
  · rcases List.mem_cons.mp hp with rfl | hp
    · exact hl
    · exact b'.lists p hp
  · rcases List.mem_cons.mp m with rfl | m
    · exact ⟨b.none hD, F.new hD, none_of_ext F.ext (fun q => nomatch q) hD⟩
    · exact b.off a m
theorem Bg.one {a : Addr} {vs vs' : List Value} (b : Bg s₀ n z s [(a, vs)]) (e : Ext [a] s s') (hl : s'.heap.PlainList a vs'.toArray) : Bg s₀ n z s' [(a, vs')] :=
  ⟨b.sub.ext e (off1 (b.off a List.mem_cons_self).1), fun p hp => (List.mem_singleton.mp hp) ▸ hl, b.off, b.loc⟩
theorem Bg.drop {p : Addr × List Value} (b : Bg s₀ n z s (p :: ls)) : Bg s₀ n z s ls := ⟨b.sub, fun q hq => b.lists q (List.mem_cons_of_mem _ hq), fun a m => b.off a (List.mem_cons_of_mem _ m), b.loc⟩
theorem LI.at' {h h' : Heap} {a : Addr} (x : LI h a ns) (k : ∀ o, h.get? a = some o → h'.get? a = some o) : LI h' a ns := let ⟨vs, p, q⟩ := x; ⟨vs, p.at k, q⟩
theorem LI.one {h : Heap} {a : Addr} {k : Int} {t : Tok} (hl : h.PlainList a [Value.int k t].toArray) : LI h a [k] := ⟨[.int k t], hl, ⟨t, rfl⟩, trivial⟩
theorem numsV_len : (numsV ns).length ≤ 12 := by unfold numsV; rw [List.length_map, List.length_take]; omega
/-- if len(nums) == 0: nums = [5] -/
theorem lawNums1 {a : Addr} (hb : Base w s₀.heap) (hA : Lv d A) (O : Own s₀ (lenv n)) (hl : LI s.heap a (numsV ns)) (ha : OffOwn (lenv n) a) (F : Fm [] s₀ (lenv n) (("nums", .ref a) :: l) [] s) :
    wpAny (model prog w) A (exec (lst 1) (lenv n)) (fun f s' => f = .next ∧ ∃ (z : Heap) (a' : Addr) (s'' : Shared) (tk' : Nat), s' = St s'' tk' ∧ Bg s₀ n z s'' [] ∧ LI z a' (nums1 ns) ∧ Fm [] s₀ (lenv n) [("nums", .ref a')] [] s'') (fun _ _ => False) (St s tk) := by
  refine exIf (a := ?a) (b := ?b) (c := ?c) (p := ?p) ?e ?_
  case e => exact rfl
  have hz := Bz.of hb
  obtain ⟨vs, hp, hlen, hi⟩ := hl.len
  have hn := numsV_len (ns := ns)
  have hB : ∀ {s : Shared} {l cl : List (Str × Value)}, Fm [] s₀ (lenv n) l cl s → Bg s₀ n s₀.heap s [] := fun F => ⟨F.sub, fun _ h => (nomatch h), fun _ h => (nomatch h), O.off⟩
  kba_ints
  with_reducible refine lLen hp (by omega) fun _ _ => ?_
  rw [hlen]
  kba_ints
  by_cases h0 : numsV ns = []
  · rw [show (((numsV ns).length : Int) == 0) = true by rw [h0]; rfl]
    kba_ints
    with_reducible refine newL (le_line rfl) fun D s₂ tk₂ e₂ hD hl₂ => ?_
    with_reducible refine stoL (F.step0 e₂) O fun s₃ tk₃ e₃ F₃ => ?_
    kba_ints
    have hDO := F.new hD
    obtain ⟨z, k, b, hz⟩ := (hB F₃).grow
    exact ⟨rfl, z, D, s₃, _, rfl, b, by unfold nums1; rw [if_pos h0]; exact ((LI.one hl₂).ext e₃ (notin1 hDO.1)).at' fun o q => hz D o (fun m => nomatch m) hDO q, F₃.to ⟨by lsm_bools, trivial⟩⟩
  · rw [show (((numsV ns).length : Int) == 0) = false from beq_eq_false_iff_ne.mpr (by have := List.length_pos_iff.mpr h0; omega)]
    kba_ints
    obtain ⟨z, k, b, hz⟩ := (hB F).grow
    exact ⟨rfl, z, a, s, _, rfl, b, by unfold nums1; rw [if_neg h0]; exact hl.at' fun o q => hz a o (fun m => nomatch m) ha q, F.to ⟨by lsm_bools, trivial⟩⟩
/-- x = nums[0] -/
theorem lawX {a : Addr} (hb : Base w s₀.heap) (hA : Lv d A) (O : Own s₀ (lenv n)) (b : Bg s₀ n z s []) (hl : LI z a ns) (h0 : ns ≠ []) (F : Fm [] s₀ (lenv n) [("nums", .ref a)] [] s) :
    wpAny (model prog w) A (exec (lst 2) (lenv n)) (fun f s' => f = .next ∧ ∃ (t : Tok) (s'' : Shared) (tk' : Nat), s' = St s'' tk' ∧ Bg s₀ n z s'' [] ∧ Fm [] s₀ (lenv n) [("x", .int (ns.headD 0) t), ("nums", .ref a)] [] s'') (fun _ _ => False) (St s tk) := by
  refine exAsn (a := ?a) (b := ?b) (p := ?p) ?e ?_
  case e => exact rfl
  have hz := Bz.of hb
  obtain ⟨vs, hp, hlen, hi⟩ := (hl.sub b.sub).len
  have hh : ns[0]? = some (ns.headD 0) := by
    cases ns with
    | nil => exact absurd rfl h0
    | cons k t => rfl
  obtain ⟨v, hv, t, rfl⟩ := hi.get hh
  have hv' : vs[(0 : Int).toNat]? = some (.int (ns.headD 0) t) := hv
  kba_ints
  with_reducible refine lItem hp (by decide) hv' (by decide) ?_
  with_reducible refine stoL F O fun s₃ tk₃ e₃ F₃ => ?_
  kba_ints
  exact ⟨rfl, t, s₃, _, rfl, b.stl e₃, F₃⟩
/-- halves = [_law_ids(1 + x % 15)] -/
theorem lawHalves {a : Addr} {k : Int} {t : Tok} (hb : Base w s₀.heap) (hA : Lv d A) (hd : d < 320) (O : Own s₀ (lenv n)) (b : Bg s₀ n z s []) (F : Fm [] s₀ (lenv n) [("x", .int k t), ("nums", .ref a)] [] s) :
    wpAny (model prog w) A (exec (lst 3) (lenv n)) (fun f s' => f = .next ∧ ∃ (z' : Heap) (hl h1 : Addr) (s'' : Shared) (tk' : Nat), s' = St s'' tk' ∧ Sub z z' ∧ Bg s₀ n z' s'' [(hl, [.ref h1])] ∧ LI z' h1 (idsV (1 + k % 15)) ∧ Fm [] s₀ (lenv n) [("halves", .ref hl), ("x", .int k t), ("nums", .ref a)] [] s'') (fun _ _ => False) (St s tk) := by
  refine exAsn (a := ?a) (b := ?b) (p := ?p) ?e ?_
  case e => exact rfl
  have hz := Bz.of hb
  kba_ints
  refine lawIds (F.bz hz) hA (by omega) fun h1 s₂ tk₂ e₂ hh l₁ => ?_
  have F₂ := F.step0 e₂
  obtain ⟨z', kz, b₂, hz'⟩ := (b.step0 e₂).grow
  have l₁ := l₁.at' (h' := z') fun o q => hz' h1 o (fun m => nomatch m) (F.new hh) q
  kba_ints
  with_reducible refine newL (le_line rfl) fun hl s₃ tk₃ e₃ hhl hl₃ => ?_
  have b₃ := b₂.add F₂ hhl e₃ hl₃
  with_reducible refine stoL (F₂.step0 e₃) O fun s₄ tk₄ e₄ F₄ => ?_
  kba_ints
  exact ⟨rfl, z', hl, h1, s₄, _, rfl, kz, b₃.stl e₄, l₁, F₄⟩
/-- going = [] -/
theorem lawGoing0 {a hl h1 : Addr} {k : Int} {t : Tok} (hb : Base w s₀.heap) (hA : Lv d A) (O : Own s₀ (lenv n)) (b : Bg s₀ n z s [(hl, [.ref h1])]) (F : Fm [] s₀ (lenv n) [("halves", .ref hl), ("x", .int k t), ("nums", .ref a)] [] s) :
    wpAny (model prog w) A (exec (lst 4) (lenv n)) (fun f s' => f = .next ∧ ∃ (z' : Heap) (g : Addr) (s'' : Shared) (tk' : Nat), s' = St s'' tk' ∧ Sub z z' ∧ Bg s₀ n z' s'' [(hl, [.ref h1])] ∧ LI z' g [] ∧ Fm [] s₀ (lenv n) [("going", .ref g), ("halves", .ref hl), ("x", .int k t), ("nums", .ref a)] [] s'') (fun _ _ => False) (St s tk) := by
  refine exAsn (a := ?a) (b := ?b) (p := ?p) ?e ?_
  case e => exact rfl
  have hz := Bz.of hb
  kba_ints
  with_reducible refine newL (le_line rfl) fun g s₂ tk₂ e₂ hg hl₂ => ?_
  have hne : g ∉ [(hl, [Value.ref h1])].map (·.1) := by
    obtain ⟨m, ho⟩ := b.lists (hl, [.ref h1]) (by simp)
    exact notin1 (ne_ns hg ho)
  obtain ⟨z', kz, b₂, hz'⟩ := (b.step0 e₂).grow
  have lg : LI z' g [] := LI.at' (h := s₂.heap) ⟨[], hl₂, trivial⟩ fun o q => hz' g o hne (F.new hg) q
  with_reducible refine stoL (F.step0 e₂) O fun s₃ tk₃ e₃ F₃ => ?_
  kba_ints
  exact ⟨rfl, z', g, s₃, _, rfl, kz, b₂.stl e₃, lg, F₃⟩
noncomputable def h2V (k : Int) : List Int := if k / 15 % 2 = 1 then idsV (1 + k / 30 % 15) else []
noncomputable def hsV (h1 h2 : List Int) : List (List Int) := if h2 = [] then [h1] else [h1, h2]
/-- if x // 15 % 2 == 1: going = _law_ids(1 + x // 30 % 15); halves.append(going) -/
theorem lawGoing {a hl h1 g : Addr} {i1 : List Int} {k : Int} {t : Tok} (hb : Base w s₀.heap) (hA : Lv d A) (hd : d < 320) (O : Own s₀ (lenv n)) (b : Bg s₀ n z s [(hl, [.ref h1])]) (l₁ : LI z h1 i1) (lg : LI z g []) (hne : k / 15 % 2 = 1 → idsV (1 + k / 30 % 15) ≠ [])
    (F : Fm [] s₀ (lenv n) [("going", .ref g), ("halves", .ref hl), ("x", .int k t), ("nums", .ref a)] [] s) :
    wpAny (model prog w) A (exec (lst 5) (lenv n)) (fun f s' => f = .next ∧ ∃ (z' : Heap) (g : Addr) (s'' : Shared) (tk' : Nat), s' = St s'' tk' ∧ Sub z z' ∧ Bg s₀ n z' s'' [] ∧ LI z' g (h2V k) ∧ HA z' hl (hsV i1 (h2V k)) ∧ Fm [] s₀ (lenv n) [("going", .ref g), ("halves", .ref hl), ("x", .int k t), ("nums", .ref a)] [] s'') (fun _ _ => False) (St s tk) := by
  refine exIf (a := ?a) (b := ?b) (c := ?c) (p := ?p) ?e ?_
  case e => exact rfl
  have hz := Bz.of hb
  have hlo := b.off hl (by simp)
  kba_ints
  by_cases h0 : k / 15 % 2 = 1
  · rw [show (k / 15 % 2 == 1) = true from beq_iff_eq.mpr h0]
    kba_ints
    refine lawIds (F.bz hz) hA (by omega) fun g' s₂ tk₂ e₂ hg l₂ => ?_
    have F₂ := F.step0 e₂
    have hne' : g' ∉ [(hl, [Value.ref h1])].map (·.1) := by
      obtain ⟨m, ho⟩ := b.lists (hl, [.ref h1]) (by simp)
      exact notin1 (ne_ns hg ho)
    obtain ⟨z₂, kz, b₂, hz₂⟩ := (b.step0 e₂).grow
    have l₂ := l₂.at' (h' := z₂) fun o q => hz₂ g' o hne' (F.new hg) q
    with_reducible refine stoL F₂ O fun s₃ tk₃ e₃ F₃ => ?_
    have b₃ := b₂.stl e₃
    have pl₃ := b₃.lists (hl, [.ref h1]) (by simp)
    kba_ints
    with_reducible refine mAppend pl₃ ?_
    kba_ints
    with_reducible refine lAppend pl₃ (le_line rfl) fun s₄ tk₄ e₄ hl₄ => ?_
    have b₄ := b₃.one e₄ hl₄
    have F₄ := F₃.step1 e₄ hlo.2.1 (.inr hlo.2.2)
    kba_ints
    obtain ⟨z₅, kz₅, b₅, hz₅⟩ := b₄.drop.grow
    have hv : h2V k = idsV (1 + k / 30 % 15) := if_pos h0
    have hH : HA z₅ hl (hsV i1 (h2V k)) := by
      rw [hv]
      unfold hsV
      rw [if_neg (hne h0)]
      obtain ⟨m, ho⟩ := hl₄
      exact ⟨[.ref h1, .ref g'], ⟨m, hz₅ hl _ (fun m => nomatch m) hlo.2.1 ho⟩, ⟨h1, rfl, (l₁.sub kz).sub kz₅⟩, ⟨g', rfl, l₂.sub kz₅⟩, trivial⟩
    exact ⟨rfl, z₅, g', s₄, _, rfl, fun a o q => kz₅ a o (kz a o q), b₅, by rw [hv]; exact l₂.sub kz₅, hH, F₄.to ⟨by lsm_bools, by lsm_bools, by lsm_bools, by lsm_bools, trivial⟩⟩
  · rw [show (k / 15 % 2 == 1) = false from beq_eq_false_iff_ne.mpr h0]
    kba_ints
    obtain ⟨z₅, kz₅, b₅, hz₅⟩ := b.drop.grow
    have hv : h2V k = [] := if_neg h0
    have hH : HA z₅ hl (hsV i1 (h2V k)) := by
      rw [hv]
      unfold hsV
      rw [if_pos rfl]
      obtain ⟨m, ho⟩ := b.lists (hl, [.ref h1]) (by simp)
      exact ⟨[.ref h1], ⟨m, hz₅ hl _ (fun m => nomatch m) hlo.2.1 ho⟩, ⟨h1, rfl, l₁.sub kz₅⟩, trivial⟩
    exact ⟨rfl, z₅, g, s, _, rfl, kz₅, b₅, by rw [hv]; exact lg.sub kz₅, hH, F⟩
end

/-! C42 -/
section
variable {prog : Program} {w : World} {A : Around} {E : Value → Shared → Prop} {s s₀ s' : Shared} {tk : Nat} {d n : Nat} {l cl : List (Str × Value)} {ns : List Int} {z : Heap} {ls : List (Addr × List Value)}
theorem idsV_ne {m : Int} (h1 : 1 ≤ m) (h2 : m ≤ 15) : idsV m ≠ [] := by
  obtain rfl | rfl | rfl | rfl | rfl | rfl | rfl | rfl | rfl | rfl | rfl | rfl | rfl | rfl | rfl : m = 1 ∨ m = 2 ∨ m = 3 ∨ m = 4 ∨ m = 5 ∨ m = 6 ∨ m = 7 ∨ m = 8 ∨ m = 9 ∨ m = 10 ∨ m = 11 ∨ m = 12 ∨ m = 13 ∨ m = 14 ∨ m = 15 := by omega
  all_goals decide +kernel
theorem idsV_ok {m : Int} : (idsV m).length < 64 ∧ (idsV m).Pairwise (· < ·) := by
  refine ⟨Nat.lt_of_le_of_lt (List.length_filter_le _ _) (by decide), List.Pairwise.filter _ (by decide)⟩
theorem h2V_ok {k : Int} : (h2V k).length < 64 ∧ (h2V k).Pairwise (· < ·) := by
  unfold h2V
  split
  · exact idsV_ok
  · exact ⟨by decide, .nil⟩
/-- conf = Config(halves[0], going, [], [], False) -/
theorem lawConf {a hl g : Addr} {i1 i2 : List Int} {k : Int} {t : Tok} (hb : Base w s₀.heap) (hA : Lv d A) (hd : d < 310) (O : Own s₀ (lenv n)) (b : Bg s₀ n z s []) (hH : HA z hl (hsV i1 i2)) (lg : LI z g i2) (o1 : i1.length < 64 ∧ i1.Pairwise (· < ·)) (o2 : i2.length < 64 ∧ i2.Pairwise (· < ·))
    (F : Fm [] s₀ (lenv n) [("going", .ref g), ("halves", .ref hl), ("x", .int k t), ("nums", .ref a)] [] s) :
    wpAny (model prog w) A (exec (lst 6) (lenv n)) (fun f s' => f = .next ∧ ∃ (z' : Heap) (cf : Addr) (s'' : Shared) (tk' : Nat), s' = St s'' tk' ∧ Sub z z' ∧ Bg s₀ n z' s'' [] ∧ ConfAt z' cf i1 i2 ∧ Fm [] s₀ (lenv n) [("conf", .ref cf), ("halves", .ref hl), ("x", .int k t), ("nums", .ref a)] [] s'') (fun _ _ => False) (St s tk) := by
  refine exAsn (a := ?a) (b := ?b) (p := ?p) ?e ?_
  case e => exact rfl
  have hz := Bz.of hb
  obtain ⟨vs, hp, hvs⟩ := hH
  have hh : (hsV i1 i2)[0]? = some i1 := by unfold hsV; split <;> rfl
  obtain ⟨v, hv, h1, rfl, l₁⟩ := hvs.get hh
  have hv' : vs[(0 : Int).toNat]? = some (.ref h1) := hv
  have pl := plSub hp b.sub
  kba_ints
  with_reducible refine lItem pl (by decide) hv' (by decide) ?_
  kba_ints
  with_reducible refine newL (le_line rfl) fun a3 s₂ tk₂ e₂ h3 hl₃ => ?_
  have F₂ := F.step0 e₂
  kba_ints
  with_reducible refine newL (le_line rfl) fun a4 s₃ tk₃ e₃ h4 hl₄ => ?_
  have F₃ := F₂.step0 e₃
  have b₃ := (b.step0 e₂).step0 e₃
  kba_ints
  have r1 : RI s₃.heap h1 i1 := ⟨l₁.sub b₃.sub, o1⟩
  have r2 : RI s₃.heap g i2 := ⟨lg.sub b₃.sub, o2⟩
  have r3 : RI s₃.heap a3 [] := ⟨⟨[], plSub hl₃ e₃.sub, trivial⟩, by decide, .nil⟩
  have r4 : RI s₃.heap a4 [] := ⟨⟨[], hl₄, trivial⟩, by decide, .nil⟩
  refine mkConfig (F₃.bz hz) hA (by omega) r1 r2 r3 r4 fun cf s₄ tk₄ e₄ hC => ?_
  have F₄ := F₃.step0 e₄
  obtain ⟨z', kz, b₄, hz'⟩ := (b₃.step0 e₄).grow
  have hC := hC.at (z := z') fun c hc o q => hz' c o (fun m => nomatch m) (F₃.new hc) q
  kba_ints
  with_reducible refine stoL F₄ O fun s₅ tk₅ e₅ F₅ => ?_
  kba_ints
  exact ⟨rfl, z', cf, s₅, _, rfl, kz, b₄.stl e₅, hC, F₅.to ⟨by lsm_bools, by lsm_bools, by lsm_bools, by lsm_bools, trivial⟩⟩
noncomputable def opV (k : Int) : Int := if k / 450 % 2 = 1 then 1 else 0
/-- option = [SAFE, LEASE][x // 450 % 2] -/
theorem lawOption {a hl cf : Addr} {k : Int} {t : Tok} (hb : Base w s₀.heap) (hA : Lv d A) (O : Own s₀ (lenv n)) (b : Bg s₀ n z s [])
    (F : Fm [] s₀ (lenv n) [("conf", .ref cf), ("halves", .ref hl), ("x", .int k t), ("nums", .ref a)] [] s) :
    wpAny (model prog w) A (exec (lst 7) (lenv n)) (fun f s' => f = .next ∧ ∃ (to_ : Tok) (s'' : Shared) (tk' : Nat), s' = St s'' tk' ∧ Bg s₀ n z s'' [] ∧ Fm [] s₀ (lenv n) [("option", .int (opV k) to_), ("conf", .ref cf), ("halves", .ref hl), ("x", .int k t), ("nums", .ref a)] [] s'') (fun _ _ => False) (St s tk) := by
  refine exAsn (a := ?a) (b := ?b) (p := ?p) ?e ?_
  case e => exact rfl
  have hz := Bz.of hb
  kba_ints
  with_reducible refine newL (le_line rfl) fun D s₂ tk₂ e₂ hD hl₂ => ?_
  have F₂ := F.step0 e₂
  kba_ints
  obtain ⟨to_, hx⟩ : ∃ to_, ([.int 0 270, .int 1 272] : List Value)[(k / 450 % 2).toNat]? = some (.int (opV k) to_) := by
    unfold opV
    rcases (by omega : k / 450 % 2 = 0 ∨ k / 450 % 2 = 1) with h | h
    · rw [h]; exact ⟨_, rfl⟩
    · rw [h]; exact ⟨_, rfl⟩
  with_reducible refine lItem hl₂ (by omega) hx (by omega) ?_
  with_reducible refine stoL F₂ O fun s₃ tk₃ e₃ F₃ => ?_
  kba_ints
  exact ⟨rfl, to_, s₃, _, rfl, (b.step0 e₂).stl e₃, F₃⟩
end

/-! C43 -/
section
variable {prog : Program} {w : World} {A : Around} {E : Value → Shared → Prop} {s s₀ s' : Shared} {tk : Nat} {d n : Nat} {l cl : List (Str × Value)} {ns : List Int} {z : Heap} {ls : List (Addr × List Value)} {op ser : Int} {ro rot pend qu : Addr}
/-- ro = ReadOnly(option) -/
theorem lawRo {a hl cf : Addr} {k : Int} {t to_ : Tok} (hb : Base w s₀.heap) (hA : Lv d A) (hd : d < 320) (O : Own s₀ (lenv n)) (b : Bg s₀ n z s [])
    (F : Fm [] s₀ (lenv n) [("option", .int op to_), ("conf", .ref cf), ("halves", .ref hl), ("x", .int k t), ("nums", .ref a)] [] s) :
    wpAny (model prog w) A (exec (lst 8) (lenv n)) (fun f s' => f = .next ∧ ∃ (z' : Heap) (ro rot pend qu : Addr) (s'' : Shared) (tk' : Nat), s' = St s'' tk' ∧ Sub z z' ∧ Lw prog w s₀ (lenv n) z' s'' [] ro rot pend qu op 0 [] ∧
      Fm [] s₀ (lenv n) [("ro", .ref ro), ("option", .int op to_), ("conf", .ref cf), ("halves", .ref hl), ("x", .int k t), ("nums", .ref a)] [] s'') (fun _ _ => False) (St s tk) := by
  refine exAsn (a := ?a) (b := ?b) (p := ?p) ?e ?_
  case e => exact rfl
  have hz := Bz.of hb
  kba_ints
  refine mkReadOnly (prog := prog) (F.bz hz) hA (by omega) fun x dx p q t0 s₂ tk₂ e₂ hx hdx hp hq hdp hps hlq hxp hxq hdp' hdq I => ?_
  have F₂ := F.step0 e₂
  have hqp : q ≠ p := ne_pl_dict hlq hdp
  have hm : muts [] dx p q [] = [dx, p, q] := rfl
  have hnone : ∀ c ∈ [dx, p, q], s.heap.get? c = none := by
    intro c hc
    simp only [List.mem_cons, List.not_mem_nil, or_false] at hc
    rcases hc with rfl | rfl | rfl <;> assumption
  have L : Lw prog w s₀ (lenv n) (hideAll s₂.heap ([dx, p, q] ++ own (lenv n))) s₂ [] x dx p q op 0 [] := by
    refine ⟨hideSub, fun _ h => (nomatch h), ⟨hideAll_get _ I.at_ fun m => ?_, ⟨to_, t0, I.tab⟩, ⟨[], hlq, trivial⟩, hdp, hps, fun _ h => (nomatch h), fun _ h => (nomatch h), List.nodup_nil, by decide, fun _ h => (nomatch h), fun c hc => hideAll_none _ (List.mem_append.mpr (.inl hc)), ?_⟩, fun c hc => ⟨hideAll_none _ (List.mem_append.mpr (.inl hc)), F.new (hnone c hc), none_of_ext F.ext (fun q => nomatch q) (hnone c hc)⟩, fun c hc => hideAll_none _ (List.mem_append.mpr (.inr hc)), ?_⟩
    · rcases List.mem_append.mp m with m | m
      · simp only [List.mem_cons, List.not_mem_nil, or_false] at m
        rcases m with h | h | h
        · exact I.ne h
        · exact hxp h
        · exact hxq h
      · exact (F.new hx).nin m
    · show [dx, p, q].Nodup
      simp [hdp', hdq, Ne.symm hqp]
    · show [dx, p, q].Nodup
      simp [hdp', hdq, Ne.symm hqp]
  have kz : Sub z (hideAll s₂.heap ([dx, p, q] ++ own (lenv n))) := fun c o h => hideAll_get _ (e₂.sub _ _ (b.sub _ _ h)) fun m => by
    rcases List.mem_append.mp m with m | m
    · have := b.none (hnone c m); rw [h] at this; cases this
    · have := b.loc c m; rw [h] at this; cases this
  kba_ints
  with_reducible refine stoL F₂ O fun s₃ tk₃ e₃ F₃ => ?_
  kba_ints
  exact ⟨rfl, _, x, dx, p, q, s₃, _, rfl, kz, L.loc1 (lcn n) e₃, F₃⟩
noncomputable def bornV (k : Int) : Int := if (k + k / 900) % 3 = 0 then 0 else if (k + k / 900) % 3 = 1 then 250 else 65531
/-- born = [0, 250, 65531][(x + x // 900) % 3] -/
theorem lawBorn {a hl cf : Addr} {k : Int} {t to_ : Tok} (hb : Base w s₀.heap) (hA : Lv d A) (O : Own s₀ (lenv n)) (L : Lw prog w s₀ (lenv n) z s [] ro rot pend qu op 0 [])
    (F : Fm [] s₀ (lenv n) [("ro", .ref ro), ("option", .int op to_), ("conf", .ref cf), ("halves", .ref hl), ("x", .int k t), ("nums", .ref a)] [] s) :
    wpAny (model prog w) A (exec (lst 9) (lenv n)) (fun f s' => f = .next ∧ ∃ (tb : Tok) (s'' : Shared) (tk' : Nat), s' = St s'' tk' ∧ Lw prog w s₀ (lenv n) z s'' [] ro rot pend qu op 0 [] ∧
      Fm [] s₀ (lenv n) [("born", .int (bornV k) tb), ("ro", .ref ro), ("option", .int op to_), ("conf", .ref cf), ("halves", .ref hl), ("nums", .ref a)] [] s'') (fun _ _ => False) (St s tk) := by
  refine exAsn (a := ?a) (b := ?b) (p := ?p) ?e ?_
  case e => exact rfl
  have hz := Bz.of hb
  kba_ints
  with_reducible refine newL (le_line rfl) fun D s₂ tk₂ e₂ hD hl₂ => ?_
  have F₂ := F.step0 e₂
  kba_ints
  have hx : ∀ t1 t2 t3 : Tok, ∃ tb, ([.int 0 t1, .int 250 t2, .int 65531 t3] : List Value)[((k + k / 900) % 3).toNat]? = some (.int (bornV k) tb) := by
    intro t1 t2 t3
    unfold bornV
    rcases (by omega : (k + k / 900) % 3 = 0 ∨ (k + k / 900) % 3 = 1 ∨ (k + k / 900) % 3 = 2) with h | h | h
    · rw [h]; exact ⟨_, rfl⟩
    · rw [h]; exact ⟨_, rfl⟩
    · rw [h]; exact ⟨_, rfl⟩
  obtain ⟨tb, hx⟩ := hx _ _ _
  with_reducible refine lItem hl₂ (by omega) hx (by omega) ?_
  with_reducible refine stoL F₂ O fun s₃ tk₃ e₃ F₃ => ?_
  kba_ints
  exact ⟨rfl, tb, s₃, _, rfl, (L.step0 e₂).loc1 (lcn n) e₃, F₃.to ⟨by lsm_bools, by lsm_bools, by lsm_bools, by lsm_bools, by lsm_bools, by lsm_bools, trivial⟩⟩
theorem Lw.serial {born : Int} {t0 t1 : Tok} (L : Lw prog w s₀ (lenv n) z s [] ro rot pend qu op ser []) (e : Ext [rot] s s') (T : Fd s'.heap rot [("option", .int op t0), ("serial", .int born t1), ("pending", .ref pend), ("queue", .ref qu)]) : Lw prog w s₀ (lenv n) z s' [] ro rot pend qu op born [] := by
  have X := L.ro_
  have ap := X.apart
  simp only [List.map_nil, List.nodup_cons, List.mem_cons, not_or, List.not_mem_nil, or_false] at ap
  obtain ⟨vs, hq, hvs⟩ := X.queue
  exact ⟨L.sub.ext e (off1 (L.off rot (by simp)).1), fun _ h => (nomatch h), ⟨X.head, ⟨t0, t1, T⟩, ⟨vs, plExt hq e (notin1 (Ne.symm ap.1.2)), hvs⟩, dctSub X.pen (fun o q => e.keep pend o (notin1 (Ne.symm ap.1.1)) q), X.sys, fun _ h => (nomatch h), fun _ h => (nomatch h), X.nd, X.len, fun _ h => (nomatch h), X.off, X.apart⟩, L.off, L.loc, L.nd⟩
/-- ro.serial = born -/
theorem lawSerial {a hl cf : Addr} {born : Int} {tb to_ : Tok} (hb : Base w s₀.heap) (hA : Lv d A) (O : Own s₀ (lenv n)) (L : Lw prog w s₀ (lenv n) z s [] ro rot pend qu op 0 [])
    (F : Fm [] s₀ (lenv n) [("born", .int born tb), ("ro", .ref ro), ("option", .int op to_), ("conf", .ref cf), ("halves", .ref hl), ("nums", .ref a)] [] s) :
    wpAny (model prog w) A (exec (lst 10) (lenv n)) (fun f s' => f = .next ∧ ∃ (s'' : Shared) (tk' : Nat), s' = St s'' tk' ∧ Lw prog w s₀ (lenv n) z s'' [] ro rot pend qu op born [] ∧
      Fm [] s₀ (lenv n) [("born", .int born tb), ("ro", .ref ro), ("option", .int op to_), ("conf", .ref cf), ("halves", .ref hl), ("nums", .ref a)] [] s'') (fun _ _ => False) (St s tk) := by
  refine exAsn (a := ?a) (b := ?b) (p := ?p) ?e ?_
  case e => exact rfl
  have hz := Bz.of hb
  obtain ⟨t0, t1, I⟩ := L.ro_.inst L.sub
  obtain ⟨_, hO, hM⟩ := L.off rot (by simp)
  have hM : Offs [] s₀ rot := .inr hM
  kba_ints
  kp_flats
  kba_ints
  refine ⟨rfl, _, _, rfl, L.serial (by assumption) (Inst.tab (by assumption)), by assumption⟩
end

/-! C44 -/
section
variable {prog : Program} {w : World} {A : Around} {E : Value → Shared → Prop} {s s₀ s' : Shared} {tk : Nat} {d n : Nat} {l cl : List (Str × Value)} {z : Heap} {ls : List (Addr × List Value)} {op ser : Int} {ro rot pend qu : Addr} {W : List WR}
theorem Lw.addL {D : Addr} {vs : List Value} (L : Lw prog w s₀ (lenv n) z s ls ro rot pend qu op ser W) (F : Fm [] s₀ (lenv n) l cl s) (hD : s.heap.get? D = none) (e : Ext [] s s') (hl : s'.heap.PlainList D vs.toArray) : Lw prog w s₀ (lenv n) z s' (ls ++ [(D, vs)]) ro rot pend qu op ser W := by
  have L' := L.step0 e
  have hm : muts (ls ++ [(D, vs)]) rot pend qu W = ls.map (·.1) ++ D :: (rot :: pend :: qu :: W.map (·.k)) := by simp [muts]
  have hDm : D ∉ muts ls rot pend qu W := fun m => by
    obtain ⟨⟨o, ho⟩, _⟩ := L.has D m
    rw [hD] at ho; cases ho
  refine ⟨L'.sub, fun p hp => ?_, L'.ro_, fun a m => ?_, L'.loc, ?_⟩
  · rcases List.mem_append.mp hp with hp | hp
    · exact L'.lists p hp
    · rw [List.mem_singleton.mp hp]; exact hl
  · rw [hm] at m
    by_cases h : a = D
    · subst h
      refine ⟨?_, F.new hD, none_of_ext F.ext (fun q => nomatch q) hD⟩
      cases q : z.get? a with
      | none => rfl
      | some o => rw [L.sub _ _ q] at hD; cases hD
    · refine L'.off a ?_
      rcases List.mem_append.mp m with m | m
      · exact List.mem_append.mpr (.inl m)
      · rcases List.mem_cons.mp m with m | m
        · exact absurd m h
        · exact List.mem_append.mpr (.inr m)
  · rw [hm]
    exact List.perm_middle.nodup_iff.mpr (List.nodup_cons.mpr ⟨hDm, L.nd⟩)
theorem lawLC {st : Stmt} (x : Str) {c : Addr} {py p2 p3 : Pos} (hb : Base w s₀.heap) (O : Own s₀ (lenv n)) (L : Lw prog w s₀ (lenv n) z s ls ro rot pend qu op ser W) (F : Fm [] s₀ (lenv n) l cl s)
    (e : st = .Assign [.Name x py] (.List [] p2) p3) (hsw : swapsWith (.List [] p2) (some (.Name x py)) p3.line (lenv n) = pure false) (hc : (lenv n).cells.lookup x = some c) (hl : (lenv n).kindOf x = some .cell) :
    wpAny (model prog w) A (exec st (lenv n)) (fun f s' => f = .next ∧ ∃ (D : Addr) (s'' : Shared) (tk' : Nat), s' = St s'' tk' ∧ Lw prog w s₀ (lenv n) z s'' (ls ++ [(D, [])]) ro rot pend qu op ser W ∧ Fm [] s₀ (lenv n) l ((x, .ref D) :: cl) s'') (fun _ _ => False) (St s tk) := by
  refine exAsn e ?_
  have hz := Bz.of hb
  with_reducible refine sAsn ?_ hsw
  kba_ints
  with_reducible refine newL (le_line rfl) fun D s₂ tk₂ e₂ hD hl₂ => ?_
  have L₂ := L.addL F hD e₂ hl₂
  refine stoC (F.step0 e₂) O (fun s₃ tk₃ e₃ F₃ => ?_) hc (by kernel_rfl) hl
  exact ⟨rfl, D, s₃, _, rfl, L₂.sto (List.mem_cons_of_mem _ (List.mem_map.mpr ⟨(x, c), mem_of_lookup hc, rfl⟩)) (lcn n) e₃, F₃⟩
theorem lawLL {st : Stmt} (x : Str) {py p2 p3 : Pos} (hb : Base w s₀.heap) (O : Own s₀ (lenv n)) (L : Lw prog w s₀ (lenv n) z s ls ro rot pend qu op ser W) (F : Fm [] s₀ (lenv n) l cl s)
    (e : st = .Assign [.Name x py] (.List [] p2) p3) (hsw : swapsWith (.List [] p2) (some (.Name x py)) p3.line (lenv n) = pure false) (hl : (lenv n).kindOf x = some .local) :
    wpAny (model prog w) A (exec st (lenv n)) (fun f s' => f = .next ∧ ∃ (D : Addr) (s'' : Shared) (tk' : Nat), s' = St s'' tk' ∧ Lw prog w s₀ (lenv n) z s'' (ls ++ [(D, [])]) ro rot pend qu op ser W ∧ Fm [] s₀ (lenv n) ((x, .ref D) :: l) cl s'') (fun _ _ => False) (St s tk) := by
  refine exAsn e ?_
  have hz := Bz.of hb
  with_reducible refine sAsn ?_ hsw
  kba_ints
  with_reducible refine newL (le_line rfl) fun D s₂ tk₂ e₂ hD hl₂ => ?_
  have L₂ := L.addL F hD e₂ hl₂
  refine stoL (F.step0 e₂) O (fun s₃ tk₃ e₃ F₃ => ?_) (by kernel_rfl) hl
  exact ⟨rfl, D, s₃, _, rfl, L₂.loc1 (lcn n) e₃, F₃⟩
/-- gone = 0 -/
theorem lawGone0 (hb : Base w s₀.heap) (O : Own s₀ (lenv n)) (L : Lw prog w s₀ (lenv n) z s ls ro rot pend qu op ser W) (F : Fm [] s₀ (lenv n) l cl s) :
    wpAny (model prog w) A (exec (lst 17) (lenv n)) (fun f s' => f = .next ∧ ∃ (tg : Tok) (s'' : Shared) (tk' : Nat), s' = St s'' tk' ∧ Lw prog w s₀ (lenv n) z s'' ls ro rot pend qu op ser W ∧ Fm [] s₀ (lenv n) (("gone", .int 0 tg) :: l) cl s'') (fun _ _ => False) (St s tk) := by
  refine exAsn (a := ?a) (b := ?b) (p := ?p) ?e ?_
  case e => exact rfl
  have hz := Bz.of hb
  kba_ints
  with_reducible refine stoL F O fun s₃ tk₃ e₃ F₃ => ?_
  kba_ints
  exact ⟨rfl, _, s₃, _, rfl, L.loc1 (lcn n) e₃, F₃⟩
end

/-! C45 -/
section
variable {prog : Program} {w : World} {A : Around} {s s₀ s' : Shared} {tk : Nat} {d n : Nat}
theorem lawBody : dBody (stAt 36) = [lst 0, lst 1, lst 2, lst 3, lst 4, lst 5, lst 6, lst 7, lst 8, lst 9, lst 10, lst 11, lst 12, lst 13, lst 14, lst 15, lst 16, lst 17, lst 18, lst 19, lst 20] := by kernel_rfl
theorem ints2 {vs : List Value} {ns : List Int} (h : IntsAre vs ns) : P2 IsI vs ns := by
  induction h with
  | nil => trivial
  | cons _ _ _ ih => exact ⟨⟨_, rfl⟩, ih⟩
theorem nums1_ne {ns : List Int} : nums1 ns ≠ [] := by
  unfold nums1
  split
  · exact List.cons_ne_nil _ _
  · assumption
theorem nums1_len {ns : List Int} : (nums1 ns).length ≤ 12 := by
  unfold nums1
  split
  · decide
  · exact numsV_len
theorem nums1_pos {ns : List Int} : ∀ n ∈ nums1 ns, 0 ≤ n := by
  unfold nums1
  split
  · intro n h; rw [List.mem_singleton.mp h]; decide
  · intro n h
    unfold numsV at h
    obtain ⟨m, _, rfl⟩ := List.mem_map.mp h
    exact Int.emod_nonneg _ (by decide)
theorem h2V_ne {k : Int} (h : k / 15 % 2 = 1) : idsV (1 + k / 30 % 15) ≠ [] := idsV_ne (by omega) (by omega)
theorem bornV_ok (k : Int) : 0 ≤ bornV k ∧ bornV k ≤ 100000 := by
  unfold bornV
  split
  · decide
  · split <;> decide
theorem walkLaw {l : Addr} {vs : List Value} {ns : List Int} (hb : Base w s.heap) (hA : Lv 301 A) (hl : s.heap.IsList l vs.toArray) (hi : P2 IsI vs ns) (hlen : vs.length ≤ 63) :
    wpAny (model prog w) A (call (.ref 384) [.ref l]) (fun v s' => v = .bool true ∧ Ext [] s s') (fun _ _ => False) (St s tk) := by
  refine callF (st := stAt 36) (qual := "law") (pm := .str "law_nz0368_01" 662) (cd := .ref 383) (bs := [("script", .ref l)]) (ll := [("script", .ref l)]) (cl := []) hb hA (by omega) (by rfl) (by kernel_rfl) (by kernel_rfl) (by kernel_rfl) (by kernel_rfl) (by kernel_rfl) (fun s₁ tk₁ A₁ hA₁ O F => ?_)
  rw [lawBody]
  generalize hn : s.heap.objs.size = n at O F ⊢
  with_reducible refine wpAny_execs_cons ?_
  refine mono_next (lawNums (n := n) (ns := ns) hb hA₁ O hl hi hlen F) fun s' h => ?_
  clear F
  obtain ⟨a, s₂, tk₂, rfl, l₂, ha, F⟩ := h
  with_reducible refine wpAny_execs_cons ?_
  refine mono_next (lawNums1 hb hA₁ O l₂ ha F) fun s' h => ?_
  clear F l₂ ha
  obtain ⟨z, a, s₃, tk₃, rfl, b, lz, F⟩ := h
  with_reducible refine wpAny_execs_cons ?_
  refine mono_next (lawX hb hA₁ O b lz nums1_ne F) fun s' h => ?_
  clear F b
  obtain ⟨t, s₄, tk₄, rfl, b, F⟩ := h
  generalize (nums1 ns).headD 0 = k at F
  with_reducible refine wpAny_execs_cons ?_
  refine mono_next (lawHalves hb hA₁ (by omega) O b F) fun s' h => ?_
  clear F b
  obtain ⟨z₁, hl, h1, s₅, tk₅, rfl, k₁, b, l₁, F⟩ := h
  have lz := lz.sub k₁
  with_reducible refine wpAny_execs_cons ?_
  refine mono_next (lawGoing0 hb hA₁ O b F) fun s' h => ?_
  clear F b
  obtain ⟨z₂, g, s₆, tk₆, rfl, k₂, b, lg, F⟩ := h
  have lz := lz.sub k₂
  have l₁ := l₁.sub k₂
  with_reducible refine wpAny_execs_cons ?_
  refine mono_next (lawGoing hb hA₁ (by omega) O b l₁ lg h2V_ne F) fun s' h => ?_
  clear F b lg
  obtain ⟨z₃, g, s₇, tk₇, rfl, k₃, b, lg, hH, F⟩ := h
  have lz := lz.sub k₃
  with_reducible refine wpAny_execs_cons ?_
  refine mono_next (lawConf hb hA₁ (by omega) O b hH lg idsV_ok h2V_ok F) fun s' h => ?_
  clear F b
  obtain ⟨z₄, cf, s₈, tk₈, rfl, k₄, b, hC, F⟩ := h
  have lz := lz.sub k₄
  have hH := hH.sub k₄
  with_reducible refine wpAny_execs_cons ?_
  refine mono_next (lawOption hb hA₁ O b F) fun s' h => ?_
  clear F b
  obtain ⟨to_, s₉, tk₉, rfl, b, F⟩ := h
  with_reducible refine wpAny_execs_cons ?_
  refine mono_next (lawRo hb hA₁ (by omega) O b F) fun s' h => ?_
  clear F b
  obtain ⟨z₅, ro, rot, pend, qu, s₁₀, tk₁₀, rfl, k₅, L, F⟩ := h
  have lz := lz.sub k₅
  have hH := hH.sub k₅
  have hC := hC.sub k₅
  with_reducible refine wpAny_execs_cons ?_
  refine mono_next (lawBorn hb hA₁ O L F) fun s' h => ?_
  clear F L
  obtain ⟨tb, s₁₁, tk₁₁, rfl, L, F⟩ := h
  with_reducible refine wpAny_execs_cons ?_
  refine mono_next (lawSerial hb hA₁ O L F) fun s' h => ?_
  clear F L
  obtain ⟨s₁₂, tk₁₂, rfl, L, F⟩ := h
  with_reducible refine wpAny_execs_cons ?_
  refine mono_next (lawLC (st := lst 11) "names" (c := n + 1) hb O L F rfl (by kernel_rfl) (by kernel_rfl) (by kernel_rfl)) fun s' h => ?_
  clear F L
  obtain ⟨an, s₁₃, tk₁₃, rfl, L, F⟩ := h
  with_reducible refine wpAny_execs_cons ?_
  refine mono_next (lawLC (st := lst 12) "asked" (c := n + 2) hb O L F rfl (by kernel_rfl) (by kernel_rfl) (by kernel_rfl)) fun s' h => ?_
  clear F L
  obtain ⟨aa, s₁₄, tk₁₄, rfl, L, F⟩ := h
  with_reducible refine wpAny_execs_cons ?_
  refine mono_next (lawLC (st := lst 13) "marks" (c := n + 3) hb O L F rfl (by kernel_rfl) (by kernel_rfl) (by kernel_rfl)) fun s' h => ?_
  clear F L
  obtain ⟨am, s₁₅, tk₁₅, rfl, L, F⟩ := h
  with_reducible refine wpAny_execs_cons ?_
  refine mono_next (lawLC (st := lst 14) "said" (c := n + 4) hb O L F rfl (by kernel_rfl) (by kernel_rfl) (by kernel_rfl)) fun s' h => ?_
  clear F L
  obtain ⟨as_, s₁₆, tk₁₆, rfl, L, F⟩ := h
  with_reducible refine wpAny_execs_cons ?_
  refine mono_next (lawLL (st := lst 15) "hands" hb O L F rfl (by kernel_rfl) (by kernel_rfl)) fun s' h => ?_
  clear F L
  obtain ⟨ah, s₁₇, tk₁₇, rfl, L, F⟩ := h
  with_reducible refine wpAny_execs_cons ?_
  refine mono_next (lawLL (st := lst 16) "free" hb O L F rfl (by kernel_rfl) (by kernel_rfl)) fun s' h => ?_
  clear F L
  obtain ⟨af, s₁₈, tk₁₈, rfl, L, F⟩ := h
  with_reducible refine wpAny_execs_cons ?_
  refine mono_next (lawGone0 hb O L F) fun s' h => ?_
  clear F L
  obtain ⟨tg, s₁₉, tk₁₉, rfl, L, F⟩ := h
  have ok : FxOk ⟨a, hl, cf, ro, nums1 ns, hsV (idsV (1 + k % 15)) (h2V k), idsV (1 + k % 15), h2V k, opV k, bornV k, tb, to_, []⟩ :=
    ⟨nums1_ne, nums1_len, nums1_pos, rfl, idsV_ne (by omega) (by omega), idsV_ok.1, h2V_ok.1, (bornV_ok k).1, (bornV_ok k).2⟩
  have at_ : At prog w s (lenv n) ⟨a, hl, cf, ro, nums1 ns, hsV (idsV (1 + k % 15)) (h2V k), idsV (1 + k % 15), h2V k, opV k, bornV k, tb, to_, []⟩ ⟨z₅, an, aa, am, as_, ah, af, rot, pend, qu, [], [], [], [], [], [], [], ⟨[], [], [], 0⟩, 0⟩ s₁₉ :=
    { L := by
        have e : bornV k + (([] : List Req).length : Int) = bornV k := by simp
        show Lw prog w s (lenv n) z₅ s₁₉ [(an, []), (aa, []), (am, []), (as_, []), (ah, []), (af, [])] ro rot pend qu (opV k) (bornV k + (([] : List Req).length : Int)) []
        rw [e]
        exact L
      fn := lz, fh := hH, fc := hC, n := trivial, a := trivial, m := trivial, s := trivial, h := trivial, f := trivial, w := rfl, ex := fun _ h => (nomatch h) }
  have G : Good (hsV (idsV (1 + k % 15)) (h2V k)) ⟨[], [], [], 0⟩ := ⟨Nat.le_refl _, fun r _ h => absurd h (Nat.not_lt_zero r), .inl rfl, fun _ h => (nomatch h), fun _ h => (nomatch h)⟩
  with_reducible refine wpAny_execs_cons ?_
  refine mono_next (lawLoop ok hA₁ (by omega) hb O at_ rfl G rfl rfl rfl rfl F) fun s' h => ?_
  clear F L at_ G
  obtain ⟨D', t', s₂₀, tk₂₀, rfl, at_, G, hgf, hp, hle, hsl, F⟩ := h
  with_reducible refine wpAny_execs_cons ?_
  refine mono_next (endFree ok hA₁ (by omega) hb O at_ G hgf hp (by omega) F) fun s' h => ?_
  clear F at_ G
  obtain ⟨D'', s₂₁, tk₂₁, rfl, at_, hr, hg, hgf', F⟩ := h
  with_reducible refine wpAny_execs_cons ?_
  refine wpAny_mono (lawRet hA₁ (by omega) hb O at_ (by rw [hr]; omega) (by rw [hr]; exact hg) (by rw [hr]; exact hgf') F) (fun f s' h => ?_) fun _ _ h => h
  obtain ⟨rfl, e⟩ := h
  exact ⟨rfl, e⟩
end
theorem walk (w : World) (s : Shared) (l : Addr) (vs : Array Value) (ns : List Int) (hb : Base w s.heap) (hl : s.heap.IsList l vs) (hi : IntsAre vs.toList ns) (hlen : ns.length ≤ 63) :
    wpAny (model pw w) callerA (call (.ref 384) [.ref l]) (fun v s' => v = .bool true ∧ Ext [] s s') (fun _ _ => False) s := by
  have hi' := ints2 hi
  refine toSt fun tk => walkLaw (vs := vs.toList) hb ?_ (by rwa [Array.toArray_toList]) hi' (by rw [hi'.len]; exact hlen)
  exact ⟨rfl, by decide, by decide⟩
end Mine
theorem PySem.Challenge.cw_nz0368_01_holds : PySem.Challenge.rw_nz0368_01.Holds :=
  Mine.holds_of Mine.walk
namespace Mine
end Mine
