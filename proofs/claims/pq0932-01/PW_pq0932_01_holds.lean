import PyProof.Rows.All
import Wide.All
import OpenK.AllK
import Wide.FinOn
import Lean
import PySem.Challenge.RW_pq0932_01
set_option linter.all false
set_option Elab.async false
set_option genSizeOf false

section
open PySem PySem.W PyProof.Rows
set_option Elab.async false
set_option maxRecDepth 1000000
set_option maxHeartbeats 0
namespace Mine
/-- the statements of the row's text -/
noncomputable def hd.st (i : Nat) : Stmt := (PySem.Challenge.pw_pq0932_01.main.body[i]?).getD (.Pass default)
noncomputable def hd.me (i j : Nat) : Stmt := match hd.st i with
  | .ClassDef _ _ _ b .. => (b[j]?).getD (.Pass default)
  | s => s
/-- a def's object -/
noncomputable def hd.fnO (s : Stmt) (q : Str) (dV mod cd : Value) : Obj := match s with
  | .FunctionDef n a b _ _ _ sc _ _ _ => ⟨.type "function", none, .func ⟨n, q, a, .stmts b, sc, 3, [], dV, .none, .none, mod, none, cd, .none, 0⟩, #[]⟩
  | _ => default
open hd PySem.Str in
/-- what the top leaves, as far as it is asked -/
noncomputable def hd.heap_39 : Params → Frag := fun P =>
  ⟨nat_lit 3, ⟨(.type "dict"), .none, (.dict (List.toArray [⟨(PyData.keyHash P (ofString "__name__")), (.str (ofString "__name__") 165), (.str (ofString "law_pq0932_01") 430)⟩, ⟨(PyData.keyHash P (ofString "__doc__")), (.str (ofString "__doc__") 166), .none⟩, ⟨(PyData.keyHash P (ofString "__package__")), (.str (ofString "__package__") 167), .none⟩, ⟨(PyData.keyHash P (ofString "__loader__")), (.str (ofString "__loader__") 168), (.builtin "__main__.__loader__#opaque")⟩, ⟨(PyData.keyHash P (ofString "__spec__")), (.str (ofString "__spec__") 169), .none⟩, ⟨(PyData.keyHash P (ofString "__annotations__")), (.str (ofString "__annotations__") 170), (.ref 6)⟩, ⟨(PyData.keyHash P (ofString "__builtins__")), (.str (ofString "__builtins__") 171), (.ref 4)⟩, ⟨(PyData.keyHash P (ofString "__file__")), (.str (ofString "__file__") 173), (.str (ofString "/claim/cut.py") 172)⟩, ⟨(PyData.keyHash P (ofString "__cached__")), (.str (ofString "__cached__") 174), .none⟩, ⟨(PyData.keyHash P (ofString "_wall")), (.str (ofString "_wall") 193), (.ref 21)⟩, ⟨(PyData.keyHash P (ofString "PostError")), (.str (ofString "PostError") 235), (.ref 46)⟩, ⟨(PyData.keyHash P (ofString "WordFault")), (.str (ofString "WordFault") 251), (.ref 59)⟩, ⟨(PyData.keyHash P (ofString "WireFault")), (.str (ofString "WireFault") 267), (.ref 71)⟩, ⟨(PyData.keyHash P (ofString "text_octets")), (.str (ofString "text_octets") 275), (.ref 78)⟩, ⟨(PyData.keyHash P (ofString "OPENING")), (.str (ofString "OPENING") 279), (.int 40 278)⟩, ⟨(PyData.keyHash P (ofString "CLOSING")), (.str (ofString "CLOSING") 281), (.int 41 280)⟩, ⟨(PyData.keyHash P (ofString "BLANK")), (.str (ofString "BLANK") 283), (.int 32 282)⟩, ⟨(PyData.keyHash P (ofString "MOST_NUMBER")), (.str (ofString "MOST_NUMBER") 285), (.int 20 284)⟩, ⟨(PyData.keyHash P (ofString "Node")), (.str (ofString "Node") 323), (.ref 102)⟩, ⟨(PyData.keyHash P (ofString "all_nodes")), (.str (ofString "all_nodes") 333), (.ref 113)⟩, ⟨(PyData.keyHash P (ofString "numbers_told")), (.str (ofString "numbers_told") 339), (.ref 118)⟩, ⟨(PyData.keyHash P (ofString "chain_of")), (.str (ofString "chain_of") 347), (.ref 125)⟩, ⟨(PyData.keyHash P (ofString "show_threads")), (.str (ofString "show_threads") 353), (.ref 130)⟩, ⟨(PyData.keyHash P (ofString "Frame")), (.str (ofString "Frame") 400), (.ref 161)⟩, ⟨(PyData.keyHash P (ofString "number_end")), (.str (ofString "number_end") 409), (.ref 172)⟩, ⟨(PyData.keyHash P (ofString "read_threads")), (.str (ofString "read_threads") 419), (.ref 179)⟩, ⟨(PyData.keyHash P (ofString "read_member")), (.str (ofString "read_member") 429), (.ref 186)⟩, ⟨(PyData.keyHash P (ofString "_law_odd")), (.str (ofString "_law_odd") 433), (.bytes (List.toArray [40, 41, 32, 48, 40, 41, 57, 9, 13, 10, 43, 45, 95, 49, 32]) 432)⟩, ⟨(PyData.keyHash P (ofString "_law_sack")), (.str (ofString "_law_sack") 439), (.ref 191)⟩, ⟨(PyData.keyHash P (ofString "_law_pull")), (.str (ofString "_law_pull") 448), (.ref 198)⟩, ⟨(PyData.keyHash P (ofString "_law_drawn")), (.str (ofString "_law_drawn") 460), (.ref 205)⟩, ⟨(PyData.keyHash P (ofString "_law_deep")), (.str (ofString "_law_deep") 471), (.ref 212)⟩, ⟨(PyData.keyHash P (ofString "_law_order")), (.str (ofString "_law_order") 480), (.ref 219)⟩, ⟨(PyData.keyHash P (ofString "_law_hidden")), (.str (ofString "_law_hidden") 490), (.ref 226)⟩, ⟨(PyData.keyHash P (ofString "_law_text")), (.str (ofString "_law_text") 496), (.ref 231)⟩, ⟨(PyData.keyHash P (ofString "_law_rows")), (.str (ofString "_law_rows") 506), (.ref 238)⟩, ⟨(PyData.keyHash P (ofString "_law_stop")), (.str (ofString "_law_stop") 518), (.ref 245)⟩, ⟨(PyData.keyHash P (ofString "_law_bent")), (.str (ofString "_law_bent") 529), (.ref 252)⟩, ⟨(PyData.keyHash P (ofString "_law_heard")), (.str (ofString "_law_heard") 536), (.ref 259)⟩, ⟨(PyData.keyHash P (ofString "_law_is_right")), (.str (ofString "_law_is_right") 545), (.ref 266)⟩, ⟨(PyData.keyHash P (ofString "law")), (.str (ofString "law") 551), (.ref 271)⟩]) 41), #[]⟩⟩ ::
  ⟨nat_lit 29, ⟨(.type "tuple"), .none, (.seq (List.toArray [(.int (Neg.neg 1) 209)]) 0), #[]⟩⟩ ::
  ⟨nat_lit 35, ⟨(.type "code"), .none, (.fields (List.toArray [(.str (ofString "__init__") 210), (.str (ofString "PostError.__init__") 211), (.str (ofString "/claim/cut.py") 212), (.int 7 0), (.int 3 0), (.int 0 0), (.int 0 0), (.int 3 0), (.ref 30), (.bool true), (.int 181 0), (.ref 31), .none, (.ref 32), (.ref 33), (.ref 34), (.int 216 0), (.int 7 0), (.str (ofString "/claim/cut.py") 217)])), #[]⟩⟩ ::
  ⟨nat_lit 36, fnO (me 2 0) (ofString "PostError.__init__") (.ref 29) (.str (ofString "postkeep.errors") 194) (.ref 35)⟩ ::
  ⟨nat_lit 45, ⟨(.type "dict"), .none, (.dict (List.toArray [⟨(PyData.keyHash P (ofString "__module__")), (.str (ofString "__module__") 203), (.str (ofString "postkeep.errors") 194)⟩, ⟨(PyData.keyHash P (ofString "__firstlineno__")), (.str (ofString "__firstlineno__") 207), (.int 5 206)⟩, ⟨(PyData.keyHash P (ofString "__init__")), (.str (ofString "__init__") 218), (.ref 36)⟩, ⟨(PyData.keyHash P (ofString "told")), (.str (ofString "told") 225), (.ref 43)⟩, ⟨(PyData.keyHash P (ofString "__static_attributes__")), (.str (ofString "__static_attributes__") 228), (.ref 44)⟩, ⟨(PyData.keyHash P (ofString "__weakref__")), (.str (ofString "__weakref__") 230), (.ref 47)⟩, ⟨(PyData.keyHash P (ofString "__doc__")), (.str (ofString "__doc__") 231), .none⟩]) 3), #[]⟩⟩ ::
  ⟨nat_lit 46, ⟨(.type "type"), .none, (.cls ⟨(ofString "PostError"), [(.type "Exception")], [(.ref 46), (.type "Exception"), (.type "BaseException"), (.type "object")], 45, (ofString "PostError"), true, [], [(.ref 59), (.ref 71)], false, .none, false⟩), (List.toArray [(.some (.ref 22)), .none, (.some (.str (ofString "PostError") 196)), (.some (.str (ofString "PostError") 204)), (.some (.builtin "Exception.__new__")), (.some (.bool true))])⟩⟩ ::
  ⟨nat_lit 58, ⟨(.type "dict"), .none, (.dict (List.toArray [⟨(PyData.keyHash P (ofString "__module__")), (.str (ofString "__module__") 243), (.str (ofString "postkeep.errors") 194)⟩, ⟨(PyData.keyHash P (ofString "__firstlineno__")), (.str (ofString "__firstlineno__") 247), (.int 14 246)⟩, ⟨(PyData.keyHash P (ofString "__static_attributes__")), (.str (ofString "__static_attributes__") 248), (.ref 57)⟩, ⟨(PyData.keyHash P (ofString "__doc__")), (.str (ofString "__doc__") 249), .none⟩]) 2), #[]⟩⟩ ::
  ⟨nat_lit 59, ⟨(.type "type"), .none, (.cls ⟨(ofString "WordFault"), [(.ref 46)], [(.ref 59), (.ref 46), (.type "Exception"), (.type "BaseException"), (.type "object")], 58, (ofString "WordFault"), true, [], [], false, .none, false⟩), (List.toArray [(.some (.ref 50)), .none, (.some (.str (ofString "WordFault") 236)), (.some (.str (ofString "WordFault") 244)), (.some (.builtin "Exception.__new__")), (.some (.bool true))])⟩⟩ ::
  ⟨nat_lit 70, ⟨(.type "dict"), .none, (.dict (List.toArray [⟨(PyData.keyHash P (ofString "__module__")), (.str (ofString "__module__") 259), (.str (ofString "postkeep.errors") 194)⟩, ⟨(PyData.keyHash P (ofString "__firstlineno__")), (.str (ofString "__firstlineno__") 263), (.int 16 262)⟩, ⟨(PyData.keyHash P (ofString "__static_attributes__")), (.str (ofString "__static_attributes__") 264), (.ref 69)⟩, ⟨(PyData.keyHash P (ofString "__doc__")), (.str (ofString "__doc__") 265), .none⟩]) 2), #[]⟩⟩ ::
  ⟨nat_lit 71, ⟨(.type "type"), .none, (.cls ⟨(ofString "WireFault"), [(.ref 46)], [(.ref 71), (.ref 46), (.type "Exception"), (.type "BaseException"), (.type "object")], 70, (ofString "WireFault"), true, [], [], false, .none, false⟩), (List.toArray [(.some (.ref 62)), .none, (.some (.str (ofString "WireFault") 252)), (.some (.str (ofString "WireFault") 260)), (.some (.builtin "Exception.__new__")), (.some (.bool true))])⟩⟩ ::
  ⟨nat_lit 77, ⟨(.type "code"), .none, (.fields (List.toArray [(.str (ofString "text_octets") 270), (.str (ofString "text_octets") 271), (.str (ofString "/claim/cut.py") 272), (.int 19 0), (.int 1 0), (.int 0 0), (.int 0 0), (.int 3 0), (.ref 74), (.bool true), (.int 181 0), (.ref 75), .none, .none, .none, (.ref 76), (.int 273 0), (.int 19 0), (.str (ofString "/claim/cut.py") 274)])), #[]⟩⟩ ::
  ⟨nat_lit 78, fnO (st 6) (ofString "text_octets") .none (.str (ofString "postkeep.octets") 268) (.ref 77)⟩ ::
  ⟨nat_lit 91, ⟨(.type "code"), .none, (.fields (List.toArray [(.str (ofString "__init__") 298), (.str (ofString "Node.__init__") 299), (.str (ofString "/claim/cut.py") 300), (.int 31 0), (.int 3 0), (.int 0 0), (.int 0 0), (.int 3 0), (.ref 86), (.bool true), (.int 181 0), (.ref 87), .none, (.ref 88), (.ref 89), (.ref 90), (.int 304 0), (.int 31 0), (.str (ofString "/claim/cut.py") 305)])), #[]⟩⟩ ::
  ⟨nat_lit 92, fnO (me 12 0) (ofString "Node.__init__") .none (.str (ofString "postkeep.threads") 276) (.ref 91)⟩ ::
  ⟨nat_lit 101, ⟨(.type "dict"), .none, (.dict (List.toArray [⟨(PyData.keyHash P (ofString "__module__")), (.str (ofString "__module__") 293), (.str (ofString "postkeep.threads") 276)⟩, ⟨(PyData.keyHash P (ofString "__firstlineno__")), (.str (ofString "__firstlineno__") 297), (.int 29 296)⟩, ⟨(PyData.keyHash P (ofString "__init__")), (.str (ofString "__init__") 306), (.ref 92)⟩, ⟨(PyData.keyHash P (ofString "told")), (.str (ofString "told") 313), (.ref 99)⟩, ⟨(PyData.keyHash P (ofString "__static_attributes__")), (.str (ofString "__static_attributes__") 316), (.ref 100)⟩, ⟨(PyData.keyHash P (ofString "__dict__")), (.str (ofString "__dict__") 318), (.ref 103)⟩, ⟨(PyData.keyHash P (ofString "__weakref__")), (.str (ofString "__weakref__") 320), (.ref 104)⟩, ⟨(PyData.keyHash P (ofString "__doc__")), (.str (ofString "__doc__") 321), .none⟩]) 4), #[]⟩⟩ ::
  ⟨nat_lit 102, ⟨(.type "type"), .none, (.cls ⟨(ofString "Node"), [(.type "object")], [(.ref 102), (.type "object")], 101, (ofString "Node"), true, [], [], false, .none, false⟩), (List.toArray [.none, .none, (.some (.str (ofString "Node") 286)), (.some (.str (ofString "Node") 294)), (.some (.builtin "object.__new__")), (.some (.bool true))])⟩⟩ ::
  ⟨nat_lit 112, ⟨(.type "code"), .none, (.fields (List.toArray [(.str (ofString "all_nodes") 324), (.str (ofString "all_nodes") 325), (.str (ofString "/claim/cut.py") 326), (.int 37 0), (.int 1 0), (.int 0 0), (.int 0 0), (.int 3 0), (.ref 107), (.bool true), (.int 181 0), (.ref 108), .none, (.ref 109), (.ref 110), (.ref 111), (.int 331 0), (.int 37 0), (.str (ofString "/claim/cut.py") 332)])), #[]⟩⟩ ::
  ⟨nat_lit 113, fnO (st 13) (ofString "all_nodes") .none (.str (ofString "postkeep.threads") 276) (.ref 112)⟩ ::
  ⟨nat_lit 117, ⟨(.type "code"), .none, (.fields (List.toArray [(.str (ofString "numbers_told") 334), (.str (ofString "numbers_told") 335), (.str (ofString "/claim/cut.py") 336), (.int 44 0), (.int 1 0), (.int 0 0), (.int 0 0), (.int 3 0), (.ref 114), (.bool true), (.int 181 0), (.ref 115), .none, .none, .none, (.ref 116), (.int 337 0), (.int 44 0), (.str (ofString "/claim/cut.py") 338)])), #[]⟩⟩ ::
  ⟨nat_lit 118, fnO (st 14) (ofString "numbers_told") .none (.str (ofString "postkeep.threads") 276) (.ref 117)⟩ ::
  ⟨nat_lit 124, ⟨(.type "code"), .none, (.fields (List.toArray [(.str (ofString "chain_of") 340), (.str (ofString "chain_of") 341), (.str (ofString "/claim/cut.py") 342), (.int 46 0), (.int 1 0), (.int 0 0), (.int 0 0), (.int 3 0), (.ref 119), (.bool true), (.int 181 0), (.ref 120), .none, (.ref 121), (.ref 122), (.ref 123), (.int 345 0), (.int 46 0), (.str (ofString "/claim/cut.py") 346)])), #[]⟩⟩ ::
  ⟨nat_lit 125, fnO (st 15) (ofString "chain_of") .none (.str (ofString "postkeep.threads") 276) (.ref 124)⟩ ::
  ⟨nat_lit 129, ⟨(.type "code"), .none, (.fields (List.toArray [(.str (ofString "show_threads") 348), (.str (ofString "show_threads") 349), (.str (ofString "/claim/cut.py") 350), (.int 52 0), (.int 1 0), (.int 0 0), (.int 0 0), (.int 3 0), (.ref 126), (.bool true), (.int 181 0), (.ref 127), .none, .none, .none, (.ref 128), (.int 351 0), (.int 52 0), (.str (ofString "/claim/cut.py") 352)])), #[]⟩⟩ ::
  ⟨nat_lit 130, fnO (st 16) (ofString "show_threads") .none (.str (ofString "postkeep.threads") 276) (.ref 129)⟩ ::
  ⟨nat_lit 143, ⟨(.type "code"), .none, (.fields (List.toArray [(.str (ofString "__init__") 366), (.str (ofString "Frame.__init__") 367), (.str (ofString "/claim/cut.py") 368), (.int 68 0), (.int 1 0), (.int 0 0), (.int 0 0), (.int 3 0), (.ref 138), (.bool true), (.int 181 0), (.ref 139), .none, (.ref 140), (.ref 141), (.ref 142), (.int 370 0), (.int 68 0), (.str (ofString "/claim/cut.py") 371)])), #[]⟩⟩ ::
  ⟨nat_lit 144, fnO (me 17 0) (ofString "Frame.__init__") .none (.str (ofString "postkeep.threads") 276) (.ref 143)⟩ ::
  ⟨nat_lit 150, ⟨(.type "code"), .none, (.fields (List.toArray [(.str (ofString "put_number") 373), (.str (ofString "Frame.put_number") 374), (.str (ofString "/claim/cut.py") 375), (.int 73 0), (.int 2 0), (.int 0 0), (.int 0 0), (.int 3 0), (.ref 145), (.bool true), (.int 181 0), (.ref 146), .none, (.ref 147), (.ref 148), (.ref 149), (.int 379 0), (.int 73 0), (.str (ofString "/claim/cut.py") 380)])), #[]⟩⟩ ::
  ⟨nat_lit 151, fnO (me 17 1) (ofString "Frame.put_number") .none (.str (ofString "postkeep.threads") 276) (.ref 150)⟩ ::
  ⟨nat_lit 157, ⟨(.type "code"), .none, (.fields (List.toArray [(.str (ofString "closed") 382), (.str (ofString "Frame.closed") 383), (.str (ofString "/claim/cut.py") 384), (.int 81 0), (.int 2 0), (.int 0 0), (.int 0 0), (.int 3 0), (.ref 152), (.bool true), (.int 181 0), (.ref 153), .none, (.ref 154), (.ref 155), (.ref 156), (.int 387 0), (.int 81 0), (.str (ofString "/claim/cut.py") 388)])), #[]⟩⟩ ::
  ⟨nat_lit 158, fnO (me 17 2) (ofString "Frame.closed") .none (.str (ofString "postkeep.threads") 276) (.ref 157)⟩ ::
  ⟨nat_lit 160, ⟨(.type "dict"), .none, (.dict (List.toArray [⟨(PyData.keyHash P (ofString "__module__")), (.str (ofString "__module__") 361), (.str (ofString "postkeep.threads") 276)⟩, ⟨(PyData.keyHash P (ofString "__firstlineno__")), (.str (ofString "__firstlineno__") 365), (.int 66 364)⟩, ⟨(PyData.keyHash P (ofString "__init__")), (.str (ofString "__init__") 372), (.ref 144)⟩, ⟨(PyData.keyHash P (ofString "put_number")), (.str (ofString "put_number") 381), (.ref 151)⟩, ⟨(PyData.keyHash P (ofString "closed")), (.str (ofString "closed") 389), (.ref 158)⟩, ⟨(PyData.keyHash P (ofString "__static_attributes__")), (.str (ofString "__static_attributes__") 393), (.ref 159)⟩, ⟨(PyData.keyHash P (ofString "__dict__")), (.str (ofString "__dict__") 395), (.ref 162)⟩, ⟨(PyData.keyHash P (ofString "__weakref__")), (.str (ofString "__weakref__") 397), (.ref 163)⟩, ⟨(PyData.keyHash P (ofString "__doc__")), (.str (ofString "__doc__") 398), .none⟩]) 4), #[]⟩⟩ ::
  ⟨nat_lit 161, ⟨(.type "type"), .none, (.cls ⟨(ofString "Frame"), [(.type "object")], [(.ref 161), (.type "object")], 160, (ofString "Frame"), true, [], [], false, .none, false⟩), (List.toArray [.none, .none, (.some (.str (ofString "Frame") 354)), (.some (.str (ofString "Frame") 362)), (.some (.builtin "object.__new__")), (.some (.bool true))])⟩⟩ ::
  ⟨nat_lit 171, ⟨(.type "code"), .none, (.fields (List.toArray [(.str (ofString "number_end") 401), (.str (ofString "number_end") 402), (.str (ofString "/claim/cut.py") 403), (.int 88 0), (.int 2 0), (.int 0 0), (.int 0 0), (.int 3 0), (.ref 166), (.bool true), (.int 181 0), (.ref 167), .none, (.ref 168), (.ref 169), (.ref 170), (.int 407 0), (.int 88 0), (.str (ofString "/claim/cut.py") 408)])), #[]⟩⟩ ::
  ⟨nat_lit 172, fnO (st 18) (ofString "number_end") .none (.str (ofString "postkeep.threads") 276) (.ref 171)⟩ ::
  ⟨nat_lit 178, ⟨(.type "code"), .none, (.fields (List.toArray [(.str (ofString "read_threads") 410), (.str (ofString "read_threads") 411), (.str (ofString "/claim/cut.py") 412), (.int 95 0), (.int 1 0), (.int 0 0), (.int 0 0), (.int 3 0), (.ref 173), (.bool true), (.int 181 0), (.ref 174), .none, (.ref 175), (.ref 176), (.ref 177), (.int 417 0), (.int 95 0), (.str (ofString "/claim/cut.py") 418)])), #[]⟩⟩ ::
  ⟨nat_lit 179, fnO (st 19) (ofString "read_threads") .none (.str (ofString "postkeep.threads") 276) (.ref 178)⟩ ::
  ⟨nat_lit 185, ⟨(.type "code"), .none, (.fields (List.toArray [(.str (ofString "read_member") 420), (.str (ofString "read_member") 421), (.str (ofString "/claim/cut.py") 422), (.int 113 0), (.int 3 0), (.int 0 0), (.int 0 0), (.int 3 0), (.ref 180), (.bool true), (.int 181 0), (.ref 181), .none, (.ref 182), (.ref 183), (.ref 184), (.int 427 0), (.int 113 0), (.str (ofString "/claim/cut.py") 428)])), #[]⟩⟩ ::
  ⟨nat_lit 186, fnO (st 20) (ofString "read_member") .none (.str (ofString "postkeep.threads") 276) (.ref 185)⟩ ::
  ⟨nat_lit 190, ⟨(.type "code"), .none, (.fields (List.toArray [(.str (ofString "_law_sack") 434), (.str (ofString "_law_sack") 435), (.str (ofString "/claim/cut.py") 436), (.int 129 0), (.int 1 0), (.int 0 0), (.int 0 0), (.int 3 0), (.ref 187), (.bool true), (.int 181 0), (.ref 188), .none, .none, .none, (.ref 189), (.int 437 0), (.int 129 0), (.str (ofString "/claim/cut.py") 438)])), #[]⟩⟩ ::
  ⟨nat_lit 191, fnO (st 23) (ofString "_law_sack") .none (.str (ofString "law_pq0932_01") 430) (.ref 190)⟩ ::
  ⟨nat_lit 197, ⟨(.type "code"), .none, (.fields (List.toArray [(.str (ofString "_law_pull") 440), (.str (ofString "_law_pull") 441), (.str (ofString "/claim/cut.py") 442), (.int 132 0), (.int 2 0), (.int 0 0), (.int 0 0), (.int 3 0), (.ref 192), (.bool true), (.int 181 0), (.ref 193), .none, (.ref 194), (.ref 195), (.ref 196), (.int 446 0), (.int 132 0), (.str (ofString "/claim/cut.py") 447)])), #[]⟩⟩ ::
  ⟨nat_lit 198, fnO (st 24) (ofString "_law_pull") .none (.str (ofString "law_pq0932_01") 430) (.ref 197)⟩ ::
  ⟨nat_lit 204, ⟨(.type "code"), .none, (.fields (List.toArray [(.str (ofString "_law_drawn") 449), (.str (ofString "_law_drawn") 450), (.str (ofString "/claim/cut.py") 451), (.int 141 0), (.int 1 0), (.int 0 0), (.int 0 0), (.int 3 0), (.ref 199), (.bool true), (.int 181 0), (.ref 200), .none, (.ref 201), (.ref 202), (.ref 203), (.int 458 0), (.int 141 0), (.str (ofString "/claim/cut.py") 459)])), #[]⟩⟩ ::
  ⟨nat_lit 205, fnO (st 25) (ofString "_law_drawn") .none (.str (ofString "law_pq0932_01") 430) (.ref 204)⟩ ::
  ⟨nat_lit 211, ⟨(.type "code"), .none, (.fields (List.toArray [(.str (ofString "_law_deep") 461), (.str (ofString "_law_deep") 462), (.str (ofString "/claim/cut.py") 463), (.int 149 0), (.int 1 0), (.int 0 0), (.int 0 0), (.int 3 0), (.ref 206), (.bool true), (.int 181 0), (.ref 207), .none, (.ref 208), (.ref 209), (.ref 210), (.int 469 0), (.int 149 0), (.str (ofString "/claim/cut.py") 470)])), #[]⟩⟩ ::
  ⟨nat_lit 212, fnO (st 26) (ofString "_law_deep") .none (.str (ofString "law_pq0932_01") 430) (.ref 211)⟩ ::
  ⟨nat_lit 218, ⟨(.type "code"), .none, (.fields (List.toArray [(.str (ofString "_law_order") 472), (.str (ofString "_law_order") 473), (.str (ofString "/claim/cut.py") 474), (.int 156 0), (.int 1 0), (.int 0 0), (.int 0 0), (.int 3 0), (.ref 213), (.bool true), (.int 181 0), (.ref 214), .none, (.ref 215), (.ref 216), (.ref 217), (.int 478 0), (.int 156 0), (.str (ofString "/claim/cut.py") 479)])), #[]⟩⟩ ::
  ⟨nat_lit 219, fnO (st 27) (ofString "_law_order") .none (.str (ofString "law_pq0932_01") 430) (.ref 218)⟩ ::
  ⟨nat_lit 225, ⟨(.type "code"), .none, (.fields (List.toArray [(.str (ofString "_law_hidden") 481), (.str (ofString "_law_hidden") 482), (.str (ofString "/claim/cut.py") 483), (.int 162 0), (.int 2 0), (.int 0 0), (.int 0 0), (.int 3 0), (.ref 220), (.bool true), (.int 181 0), (.ref 221), .none, (.ref 222), (.ref 223), (.ref 224), (.int 488 0), (.int 162 0), (.str (ofString "/claim/cut.py") 489)])), #[]⟩⟩ ::
  ⟨nat_lit 226, fnO (st 28) (ofString "_law_hidden") .none (.str (ofString "law_pq0932_01") 430) (.ref 225)⟩ ::
  ⟨nat_lit 230, ⟨(.type "code"), .none, (.fields (List.toArray [(.str (ofString "_law_text") 491), (.str (ofString "_law_text") 492), (.str (ofString "/claim/cut.py") 493), (.int 170 0), (.int 1 0), (.int 0 0), (.int 0 0), (.int 3 0), (.ref 227), (.bool true), (.int 181 0), (.ref 228), .none, .none, .none, (.ref 229), (.int 494 0), (.int 170 0), (.str (ofString "/claim/cut.py") 495)])), #[]⟩⟩ ::
  ⟨nat_lit 231, fnO (st 29) (ofString "_law_text") .none (.str (ofString "law_pq0932_01") 430) (.ref 230)⟩ ::
  ⟨nat_lit 237, ⟨(.type "code"), .none, (.fields (List.toArray [(.str (ofString "_law_rows") 497), (.str (ofString "_law_rows") 498), (.str (ofString "/claim/cut.py") 499), (.int 184 0), (.int 1 0), (.int 0 0), (.int 0 0), (.int 3 0), (.ref 232), (.bool true), (.int 181 0), (.ref 233), .none, (.ref 234), (.ref 235), (.ref 236), (.int 504 0), (.int 184 0), (.str (ofString "/claim/cut.py") 505)])), #[]⟩⟩ ::
  ⟨nat_lit 238, fnO (st 30) (ofString "_law_rows") .none (.str (ofString "law_pq0932_01") 430) (.ref 237)⟩ ::
  ⟨nat_lit 244, ⟨(.type "code"), .none, (.fields (List.toArray [(.str (ofString "_law_stop") 507), (.str (ofString "_law_stop") 508), (.str (ofString "/claim/cut.py") 509), (.int 191 0), (.int 1 0), (.int 0 0), (.int 0 0), (.int 3 0), (.ref 239), (.bool true), (.int 181 0), (.ref 240), .none, (.ref 241), (.ref 242), (.ref 243), (.int 516 0), (.int 191 0), (.str (ofString "/claim/cut.py") 517)])), #[]⟩⟩ ::
  ⟨nat_lit 245, fnO (st 31) (ofString "_law_stop") .none (.str (ofString "law_pq0932_01") 430) (.ref 244)⟩ ::
  ⟨nat_lit 251, ⟨(.type "code"), .none, (.fields (List.toArray [(.str (ofString "_law_bent") 519), (.str (ofString "_law_bent") 520), (.str (ofString "/claim/cut.py") 521), (.int 216 0), (.int 2 0), (.int 0 0), (.int 0 0), (.int 3 0), (.ref 246), (.bool true), (.int 181 0), (.ref 247), .none, (.ref 248), (.ref 249), (.ref 250), (.int 527 0), (.int 216 0), (.str (ofString "/claim/cut.py") 528)])), #[]⟩⟩ ::
  ⟨nat_lit 252, fnO (st 32) (ofString "_law_bent") .none (.str (ofString "law_pq0932_01") 430) (.ref 251)⟩ ::
  ⟨nat_lit 258, ⟨(.type "code"), .none, (.fields (List.toArray [(.str (ofString "_law_heard") 530), (.str (ofString "_law_heard") 531), (.str (ofString "/claim/cut.py") 532), (.int 220 0), (.int 1 0), (.int 0 0), (.int 0 0), (.int 3 0), (.ref 253), (.bool true), (.int 181 0), (.ref 254), .none, (.ref 255), (.ref 256), (.ref 257), (.int 534 0), (.int 220 0), (.str (ofString "/claim/cut.py") 535)])), #[]⟩⟩ ::
  ⟨nat_lit 259, fnO (st 33) (ofString "_law_heard") .none (.str (ofString "law_pq0932_01") 430) (.ref 258)⟩ ::
  ⟨nat_lit 265, ⟨(.type "code"), .none, (.fields (List.toArray [(.str (ofString "_law_is_right") 537), (.str (ofString "_law_is_right") 538), (.str (ofString "/claim/cut.py") 539), (.int 225 0), (.int 1 0), (.int 0 0), (.int 0 0), (.int 3 0), (.ref 260), (.bool true), (.int 181 0), (.ref 261), .none, (.ref 262), (.ref 263), (.ref 264), (.int 543 0), (.int 225 0), (.str (ofString "/claim/cut.py") 544)])), #[]⟩⟩ ::
  ⟨nat_lit 266, fnO (st 34) (ofString "_law_is_right") .none (.str (ofString "law_pq0932_01") 430) (.ref 265)⟩ ::
  ⟨nat_lit 270, ⟨(.type "code"), .none, (.fields (List.toArray [(.str (ofString "law") 546), (.str (ofString "law") 547), (.str (ofString "/claim/cut.py") 548), (.int 231 0), (.int 1 0), (.int 0 0), (.int 0 0), (.int 3 0), (.ref 267), (.bool true), (.int 181 0), (.ref 268), .none, .none, .none, (.ref 269), (.int 549 0), (.int 231 0), (.str (ofString "/claim/cut.py") 550)])), #[]⟩⟩ ::
  ⟨nat_lit 271, fnO (st 35) (ofString "law") .none (.str (ofString "law_pq0932_01") 430) (.ref 270)⟩ ::
  []

noncomputable def hd.view : Program := PySem.W.view PySem.Challenge.pw_pq0932_01 [0, 2, 3, 4, 6, 8, 9, 10, 11, 12, 13, 14, 15, 16, 17, 18, 19, 20, 22, 23, 24, 25, 26, 27, 28, 29, 30, 31, 32, 33, 34, 35]
def hd.as : List Addr := [3, 29, 35, 36, 45, 46, 58, 59, 70, 71, 77, 78, 91, 92, 101, 102, 112, 113, 117, 118, 124, 125, 129, 130, 143, 144, 150, 151, 157, 158, 160, 161, 171, 172, 178, 179, 185, 186, 190, 191, 197, 198, 204, 205, 211, 212, 218, 219, 225, 226, 230, 231, 237, 238, 244, 245, 251, 252, 258, 259, 265, 266, 270, 271]

theorem hd.and {a b : Bool} (h1 : a = true) (h2 : b = true) : (a && b) = true := by rw [h1, h2]; rfl
theorem hd.said : PySem.Challenge.rw_pq0932_01.wellSaid = true := by
  rw [PySem.W.Fast.te9446332074065402090]
  unfold PySem.W.Fast.tw9446332074065402090
  repeat' (with_reducible refine hd.and ?_ ?_)
  (unfold PySem.W.Fast.tw17960256430627541270; repeat' (with_reducible refine hd.and ?_ ?_))
  (unfold PySem.W.Fast.tw2436336058641802641; repeat' (with_reducible refine hd.and ?_ ?_))
  (unfold PySem.W.Fast.tw12908688711261696721; repeat' (with_reducible refine hd.and ?_ ?_))
  all_goals as_aux_lemma => kernel_rfl

section
open hd PySem.Str
noncomputable def hd.kv (P : Params) (s : String) (t : Nat) (v : Value) : DictEntry := ⟨PyData.keyHash P (ofString s), .str (ofString s) t, v⟩
noncomputable def hd.sv (s : String) (t : Nat) : Value := .str (ofString s) t
noncomputable def hd.fnN (s : Stmt) (q : Str) : Obj := match s with
  | .FunctionDef n a b _ _ _ sc _ _ _ => ⟨.none, none, .func ⟨n, q, a, .stmts b, sc, 0, [], .none, .none, .none, .none, none, .none, .none, 0⟩, #[]⟩
  | _ => default
noncomputable def hd.o43 (P : Params) : Obj := ⟨(.type "tuple"), .none, (.seq #[] 0), #[]⟩
noncomputable def hd.o44 (P : Params) : Obj := ⟨.none, .none, (.fields #[]), #[]⟩
noncomputable def hd.o45 (P : Params) : Obj := ⟨(.type "code"), .none, (.fields (List.toArray [(sv "<module>" 182), (sv "<module>" 183), (sv "/claim/cut.py" 184), (.int 1 0), (.int 0 0), (.int 0 0), (.int 0 0), (.int 0 0), (.ref 11), (.bool false), (.int 181 0), (.ref 12), .none, .none, .none, .none, (.int 185 0), (.int 1 0), (sv "/claim/cut.py" 186)])), #[]⟩
noncomputable def hd.o46 (P : Params) : Obj := ⟨(.type "frame"), .none, .plain, (List.toArray [(.some (.ref 13)), (.some (.ref 3)), (.some (.ref 3)), .none, (.some (sv "__main__" 164)), .none, (.some (.ref 0))])⟩
noncomputable def hd.o49 (P : Params) : Obj := ⟨.none, .none, (.dict (List.toArray [(kv P "type.__subclasses__.Exception.0" 232 (.int 46 0)), (kv P "type.__subclasses__.Exception.n" 233 (.int 1 0))]) 2), #[]⟩
noncomputable def hd.o50 (P : Params) : Obj := ⟨(.type "dict"), .none, (.dict (List.toArray [(kv P "__name__" 165 (sv "postkeep.errors" 194)), (kv P "__doc__" 166 .none), (kv P "__package__" 167 .none), (kv P "__loader__" 168 (.builtin "__main__.__loader__#opaque")), (kv P "__spec__" 169 .none), (kv P "__annotations__" 170 (.ref 6)), (kv P "__builtins__" 171 (.ref 4)), (kv P "__file__" 173 (sv "/claim/cut.py" 172)), (kv P "__cached__" 174 .none), (kv P "_wall" 193 (.ref 21)), (kv P "PostError" 235 (.ref 46))]) 11), #[]⟩
noncomputable def hd.o51 (P : Params) : Obj := ⟨.none, .none, (.fields (List.toArray [(.int 1 0), (.int 0 0), (.ref 20), (.int 5 0), (.int 0 0), (.ref 27)])), #[]⟩
noncomputable def hd.o54 (P : Params) : Obj := ⟨(.type "tuple"), .none, (.seq (List.toArray [(sv "k" 190)]) 0), #[]⟩
noncomputable def hd.o56 (P : Params) : Obj := fnN (st 0) (ofString "_wall")
noncomputable def hd.o57 (P : Params) : Obj := ⟨(.type "code"), .none, (.fields (List.toArray [(sv "_wall" 187), (sv "_wall" 188), (sv "/claim/cut.py" 189), (.int 1 0), (.int 1 0), (.int 0 0), (.int 0 0), (.int 3 0), (.ref 15), (.bool true), (.int 181 0), (.ref 16), .none, (.ref 17), (.ref 18), (.ref 19), (.int 191 0), (.int 1 0), (sv "/claim/cut.py" 192)])), #[]⟩
noncomputable def hd.o58 (P : Params) : Obj := fnO (st 0) (ofString "_wall") .none (.str (ofString "__main__") 164) (.ref 20)
noncomputable def hd.o59 (P : Params) : Obj := ⟨(.type "tuple"), .none, (.seq (List.toArray [(.type "Exception")]) 0), #[]⟩
noncomputable def hd.o60 (P : Params) : Obj := ⟨(.type "builtin_function_or_method"), .none, (.fields (List.toArray [(.builtin "type.__prepare__"), (.type "type")])), #[]⟩
noncomputable def hd.o61 (P : Params) : Obj := ⟨(.type "dict"), .none, (.dict (List.toArray [(kv P "__module__" 203 (sv "postkeep.errors" 194)), (kv P "__qualname__" 205 (sv "PostError" 204)), (kv P "__firstlineno__" 207 (.int 5 206)), (kv P "__init__" 218 (.ref 36)), (kv P "told" 225 (.ref 43)), (kv P "__static_attributes__" 228 (.ref 44))]) 6), #[]⟩
noncomputable def hd.o63 (P : Params) : Obj := ⟨.none, .none, (.fields (List.toArray [(.int 7 0), (.int 4 0), (.ref 35), (.int 12 0), (.int 4 0), (.ref 42)])), #[]⟩
noncomputable def hd.o64 (P : Params) : Obj := ⟨(.type "code"), .none, (.fields (List.toArray [(sv "PostError" 198), (sv "PostError" 199), (sv "/claim/cut.py" 200), (.int 5 0), (.int 0 0), (.int 0 0), (.int 0 0), (.int 0 0), (.ref 25), (.bool false), (.int 181 0), (.ref 26), .none, .none, .none, .none, (.int 201 0), (.int 5 0), (sv "/claim/cut.py" 202)])), #[]⟩
noncomputable def hd.o65 (P : Params) : Obj := ⟨(.type "frame"), .none, .plain, (List.toArray [(.some (.ref 27)), (.some (.ref 3)), (.some (.ref 24)), .none, (.some (sv "postkeep.errors" 194)), .none, (.some (.ref 0))])⟩
noncomputable def hd.o66 (P : Params) : Obj := ⟨(.type "tuple"), .none, (.seq (List.toArray [(.int (Neg.neg 1) 209)]) 0), #[]⟩
noncomputable def hd.o69 (P : Params) : Obj := ⟨(.type "tuple"), .none, (.seq (List.toArray [(sv "self" 213), (sv "what" 214), (sv "at" 215)]) 0), #[]⟩
noncomputable def hd.o71 (P : Params) : Obj := fnN (me 2 0) (ofString "PostError.__init__")
noncomputable def hd.o72 (P : Params) : Obj := ⟨(.type "code"), .none, (.fields (List.toArray [(sv "__init__" 210), (sv "PostError.__init__" 211), (sv "/claim/cut.py" 212), (.int 7 0), (.int 3 0), (.int 0 0), (.int 0 0), (.int 3 0), (.ref 30), (.bool true), (.int 181 0), (.ref 31), .none, (.ref 32), (.ref 33), (.ref 34), (.int 216 0), (.int 7 0), (sv "/claim/cut.py" 217)])), #[]⟩
noncomputable def hd.o73 (P : Params) : Obj := fnO (me 2 0) (ofString "PostError.__init__") (.ref 29) (.str (ofString "postkeep.errors") 194) (.ref 35)
noncomputable def hd.o76 (P : Params) : Obj := ⟨(.type "tuple"), .none, (.seq (List.toArray [(sv "self" 222)]) 0), #[]⟩
noncomputable def hd.o78 (P : Params) : Obj := fnN (me 2 1) (ofString "PostError.told")
noncomputable def hd.o79 (P : Params) : Obj := ⟨(.type "code"), .none, (.fields (List.toArray [(sv "told" 219), (sv "PostError.told" 220), (sv "/claim/cut.py" 221), (.int 12 0), (.int 1 0), (.int 0 0), (.int 0 0), (.int 3 0), (.ref 37), (.bool true), (.int 181 0), (.ref 38), .none, (.ref 39), (.ref 40), (.ref 41), (.int 223 0), (.int 12 0), (sv "/claim/cut.py" 224)])), #[]⟩
noncomputable def hd.o80 (P : Params) : Obj := fnO (me 2 1) (ofString "PostError.told") .none (.str (ofString "postkeep.errors") 194) (.ref 42)
noncomputable def hd.o81 (P : Params) : Obj := ⟨(.type "tuple"), .none, (.seq (List.toArray [(sv "at" 226), (sv "what" 227)]) 0), #[]⟩
noncomputable def hd.o82 (P : Params) : Obj := ⟨(.type "dict"), .none, (.dict (List.toArray [(kv P "__module__" 203 (sv "postkeep.errors" 194)), (kv P "__firstlineno__" 207 (.int 5 206)), (kv P "__init__" 218 (.ref 36)), (kv P "told" 225 (.ref 43)), (kv P "__static_attributes__" 228 (.ref 44)), (kv P "__weakref__" 230 (.ref 47)), (kv P "__doc__" 231 .none)]) 3), #[]⟩
noncomputable def hd.o83 (P : Params) : Obj := ⟨(.type "type"), .none, (.cls ⟨(ofString "PostError"), [(.type "Exception")], [(.ref 46), (.type "Exception"), (.type "BaseException"), (.type "object")], 45, (ofString "PostError"), true, [], [], false, .none, false⟩), (List.toArray [(.some (.ref 22)), .none, (.some (sv "PostError" 196)), (.some (sv "PostError" 204)), (.some (.builtin "Exception.__new__")), (.some (.bool true))])⟩
noncomputable def hd.o84 (P : Params) : Obj := ⟨(.type "getset_descriptor"), .none, (.fields (List.toArray [(sv "__weakref__" 229), (.ref 46), (.builtin "ExceptionGroup.__weakref__"), .none])), #[]⟩
noncomputable def hd.o85 (P : Params) : Obj := ⟨(.type "super"), .none, (.fields (List.toArray [(.ref 46), (.ref 46), (.ref 46)])), #[]⟩
noncomputable def hd.o86 (P : Params) : Obj := ⟨(.type "builtin_function_or_method"), .none, (.fields (List.toArray [(.builtin "object.__init_subclass__"), (.ref 46)])), #[]⟩
noncomputable def hd.o90 (P : Params) : Obj := ⟨(.type "tuple"), .none, (.seq (List.toArray [(.ref 46)]) 0), #[]⟩
noncomputable def hd.o92 (P : Params) : Obj := ⟨(.type "dict"), .none, (.dict (List.toArray [(kv P "__module__" 243 (sv "postkeep.errors" 194)), (kv P "__qualname__" 245 (sv "WordFault" 244)), (kv P "__firstlineno__" 247 (.int 14 246)), (kv P "__static_attributes__" 248 (.ref 57))]) 4), #[]⟩
noncomputable def hd.o95 (P : Params) : Obj := ⟨(.type "code"), .none, (.fields (List.toArray [(sv "WordFault" 238), (sv "WordFault" 239), (sv "/claim/cut.py" 240), (.int 14 0), (.int 0 0), (.int 0 0), (.int 0 0), (.int 0 0), (.ref 53), (.bool false), (.int 181 0), (.ref 54), .none, .none, .none, .none, (.int 241 0), (.int 14 0), (sv "/claim/cut.py" 242)])), #[]⟩
noncomputable def hd.o96 (P : Params) : Obj := ⟨(.type "frame"), .none, .plain, (List.toArray [(.some (.ref 55)), (.some (.ref 3)), (.some (.ref 52)), .none, (.some (sv "postkeep.errors" 194)), .none, (.some (.ref 0))])⟩
noncomputable def hd.o98 (P : Params) : Obj := ⟨(.type "dict"), .none, (.dict (List.toArray [(kv P "__module__" 243 (sv "postkeep.errors" 194)), (kv P "__firstlineno__" 247 (.int 14 246)), (kv P "__static_attributes__" 248 (.ref 57)), (kv P "__doc__" 249 .none)]) 2), #[]⟩
noncomputable def hd.o99 (P : Params) : Obj := ⟨(.type "type"), .none, (.cls ⟨(ofString "WordFault"), [(.ref 46)], [(.ref 59), (.ref 46), (.type "Exception"), (.type "BaseException"), (.type "object")], 58, (ofString "WordFault"), true, [], [], false, .none, false⟩), (List.toArray [(.some (.ref 50)), .none, (.some (sv "WordFault" 236)), (.some (sv "WordFault" 244)), (.some (.builtin "Exception.__new__")), (.some (.bool true))])⟩
noncomputable def hd.o100 (P : Params) : Obj := ⟨(.type "super"), .none, (.fields (List.toArray [(.ref 59), (.ref 59), (.ref 59)])), #[]⟩
noncomputable def hd.o101 (P : Params) : Obj := ⟨(.type "builtin_function_or_method"), .none, (.fields (List.toArray [(.builtin "object.__init_subclass__"), (.ref 59)])), #[]⟩
noncomputable def hd.o102 (P : Params) : Obj := ⟨(.type "dict"), .none, (.dict (List.toArray [(kv P "__name__" 165 (sv "postkeep.threads" 276)), (kv P "__doc__" 166 .none), (kv P "__package__" 167 .none), (kv P "__loader__" 168 (.builtin "__main__.__loader__#opaque")), (kv P "__spec__" 169 .none), (kv P "__annotations__" 170 (.ref 6)), (kv P "__builtins__" 171 (.ref 4)), (kv P "__file__" 173 (sv "/claim/cut.py" 172)), (kv P "__cached__" 174 .none), (kv P "_wall" 193 (.ref 21)), (kv P "PostError" 235 (.ref 46)), (kv P "WordFault" 251 (.ref 59)), (kv P "WireFault" 267 (.ref 71)), (kv P "text_octets" 275 (.ref 78)), (kv P "OPENING" 279 (.int 40 278)), (kv P "CLOSING" 281 (.int 41 280)), (kv P "BLANK" 283 (.int 32 282)), (kv P "MOST_NUMBER" 285 (.int 20 284))]) 18), #[]⟩
noncomputable def hd.o103 (P : Params) : Obj := ⟨.none, .none, (.fields (List.toArray [(.int 1 0), (.int 0 0), (.ref 20), (.int 5 0), (.int 0 0), (.ref 27), (.int 14 0), (.int 0 0), (.ref 55), (.int 16 0), (.int 0 0), (.ref 67), (.int 19 0), (.int 0 0), (.ref 77)])), #[]⟩
noncomputable def hd.o104 (P : Params) : Obj := ⟨(.type "type"), .none, (.cls ⟨(ofString "PostError"), [(.type "Exception")], [(.ref 46), (.type "Exception"), (.type "BaseException"), (.type "object")], 45, (ofString "PostError"), true, [], [(.ref 59), (.ref 71)], false, .none, false⟩), (List.toArray [(.some (.ref 22)), .none, (.some (sv "PostError" 196)), (.some (sv "PostError" 204)), (.some (.builtin "Exception.__new__")), (.some (.bool true))])⟩
noncomputable def hd.o107 (P : Params) : Obj := ⟨(.type "dict"), .none, (.dict (List.toArray [(kv P "__module__" 259 (sv "postkeep.errors" 194)), (kv P "__qualname__" 261 (sv "WireFault" 260)), (kv P "__firstlineno__" 263 (.int 16 262)), (kv P "__static_attributes__" 264 (.ref 69))]) 4), #[]⟩
noncomputable def hd.o110 (P : Params) : Obj := ⟨(.type "code"), .none, (.fields (List.toArray [(sv "WireFault" 254), (sv "WireFault" 255), (sv "/claim/cut.py" 256), (.int 16 0), (.int 0 0), (.int 0 0), (.int 0 0), (.int 0 0), (.ref 65), (.bool false), (.int 181 0), (.ref 66), .none, .none, .none, .none, (.int 257 0), (.int 16 0), (sv "/claim/cut.py" 258)])), #[]⟩
noncomputable def hd.o111 (P : Params) : Obj := ⟨(.type "frame"), .none, .plain, (List.toArray [(.some (.ref 67)), (.some (.ref 3)), (.some (.ref 64)), .none, (.some (sv "postkeep.errors" 194)), .none, (.some (.ref 0))])⟩
noncomputable def hd.o113 (P : Params) : Obj := ⟨(.type "dict"), .none, (.dict (List.toArray [(kv P "__module__" 259 (sv "postkeep.errors" 194)), (kv P "__firstlineno__" 263 (.int 16 262)), (kv P "__static_attributes__" 264 (.ref 69)), (kv P "__doc__" 265 .none)]) 2), #[]⟩
noncomputable def hd.o114 (P : Params) : Obj := ⟨(.type "type"), .none, (.cls ⟨(ofString "WireFault"), [(.ref 46)], [(.ref 71), (.ref 46), (.type "Exception"), (.type "BaseException"), (.type "object")], 70, (ofString "WireFault"), true, [], [], false, .none, false⟩), (List.toArray [(.some (.ref 62)), .none, (.some (sv "WireFault" 252)), (.some (sv "WireFault" 260)), (.some (.builtin "Exception.__new__")), (.some (.bool true))])⟩
noncomputable def hd.o115 (P : Params) : Obj := ⟨(.type "super"), .none, (.fields (List.toArray [(.ref 71), (.ref 71), (.ref 71)])), #[]⟩
noncomputable def hd.o116 (P : Params) : Obj := ⟨(.type "builtin_function_or_method"), .none, (.fields (List.toArray [(.builtin "object.__init_subclass__"), (.ref 71)])), #[]⟩
noncomputable def hd.o119 (P : Params) : Obj := fnN (st 6) (ofString "text_octets")
noncomputable def hd.o120 (P : Params) : Obj := ⟨(.type "code"), .none, (.fields (List.toArray [(sv "text_octets" 270), (sv "text_octets" 271), (sv "/claim/cut.py" 272), (.int 19 0), (.int 1 0), (.int 0 0), (.int 0 0), (.int 3 0), (.ref 74), (.bool true), (.int 181 0), (.ref 75), .none, .none, .none, (.ref 76), (.int 273 0), (.int 19 0), (sv "/claim/cut.py" 274)])), #[]⟩
noncomputable def hd.o121 (P : Params) : Obj := fnO (st 6) (ofString "text_octets") .none (.str (ofString "postkeep.octets") 268) (.ref 77)
noncomputable def hd.o122 (P : Params) : Obj := ⟨(.type "dict"), .none, (.dict (List.toArray [(kv P "__name__" 165 (sv "postkeep.threads" 276)), (kv P "__doc__" 166 .none), (kv P "__package__" 167 .none), (kv P "__loader__" 168 (.builtin "__main__.__loader__#opaque")), (kv P "__spec__" 169 .none), (kv P "__annotations__" 170 (.ref 6)), (kv P "__builtins__" 171 (.ref 4)), (kv P "__file__" 173 (sv "/claim/cut.py" 172)), (kv P "__cached__" 174 .none), (kv P "_wall" 193 (.ref 21)), (kv P "PostError" 235 (.ref 46)), (kv P "WordFault" 251 (.ref 59)), (kv P "WireFault" 267 (.ref 71)), (kv P "text_octets" 275 (.ref 78)), (kv P "OPENING" 279 (.int 40 278)), (kv P "CLOSING" 281 (.int 41 280)), (kv P "BLANK" 283 (.int 32 282)), (kv P "MOST_NUMBER" 285 (.int 20 284)), (kv P "Node" 323 (.ref 102)), (kv P "all_nodes" 333 (.ref 113)), (kv P "numbers_told" 339 (.ref 118)), (kv P "chain_of" 347 (.ref 125)), (kv P "show_threads" 353 (.ref 130))]) 23), #[]⟩
noncomputable def hd.o123 (P : Params) : Obj := ⟨.none, .none, (.fields (List.toArray [(.int 1 0), (.int 0 0), (.ref 20), (.int 5 0), (.int 0 0), (.ref 27), (.int 14 0), (.int 0 0), (.ref 55), (.int 16 0), (.int 0 0), (.ref 67), (.int 19 0), (.int 0 0), (.ref 77), (.int 29 0), (.int 0 0), (.ref 84), (.int 37 0), (.int 0 0), (.ref 112), (.int 44 0), (.int 0 0), (.ref 117), (.int 46 0), (.int 0 0), (.ref 124), (.int 52 0), (.int 0 0), (.ref 129)])), #[]⟩
noncomputable def hd.o126 (P : Params) : Obj := ⟨(.type "dict"), .none, (.dict (List.toArray [(kv P "__module__" 293 (sv "postkeep.threads" 276)), (kv P "__qualname__" 295 (sv "Node" 294)), (kv P "__firstlineno__" 297 (.int 29 296)), (kv P "__init__" 306 (.ref 92)), (kv P "told" 313 (.ref 99)), (kv P "__static_attributes__" 316 (.ref 100))]) 6), #[]⟩
noncomputable def hd.o128 (P : Params) : Obj := ⟨.none, .none, (.fields (List.toArray [(.int 31 0), (.int 4 0), (.ref 91), (.int 35 0), (.int 4 0), (.ref 98)])), #[]⟩
noncomputable def hd.o129 (P : Params) : Obj := ⟨(.type "code"), .none, (.fields (List.toArray [(sv "Node" 288), (sv "Node" 289), (sv "/claim/cut.py" 290), (.int 29 0), (.int 0 0), (.int 0 0), (.int 0 0), (.int 0 0), (.ref 82), (.bool false), (.int 181 0), (.ref 83), .none, .none, .none, .none, (.int 291 0), (.int 29 0), (sv "/claim/cut.py" 292)])), #[]⟩
noncomputable def hd.o130 (P : Params) : Obj := ⟨(.type "frame"), .none, .plain, (List.toArray [(.some (.ref 84)), (.some (.ref 3)), (.some (.ref 81)), .none, (.some (sv "postkeep.threads" 276)), .none, (.some (.ref 0))])⟩
noncomputable def hd.o133 (P : Params) : Obj := ⟨(.type "tuple"), .none, (.seq (List.toArray [(sv "self" 301), (sv "number" 302), (sv "kids" 303)]) 0), #[]⟩
noncomputable def hd.o135 (P : Params) : Obj := fnN (me 12 0) (ofString "Node.__init__")
noncomputable def hd.o136 (P : Params) : Obj := ⟨(.type "code"), .none, (.fields (List.toArray [(sv "__init__" 298), (sv "Node.__init__" 299), (sv "/claim/cut.py" 300), (.int 31 0), (.int 3 0), (.int 0 0), (.int 0 0), (.int 3 0), (.ref 86), (.bool true), (.int 181 0), (.ref 87), .none, (.ref 88), (.ref 89), (.ref 90), (.int 304 0), (.int 31 0), (sv "/claim/cut.py" 305)])), #[]⟩
noncomputable def hd.o137 (P : Params) : Obj := fnO (me 12 0) (ofString "Node.__init__") .none (.str (ofString "postkeep.threads") 276) (.ref 91)
noncomputable def hd.o140 (P : Params) : Obj := ⟨(.type "tuple"), .none, (.seq (List.toArray [(sv "self" 310)]) 0), #[]⟩
noncomputable def hd.o142 (P : Params) : Obj := fnN (me 12 1) (ofString "Node.told")
noncomputable def hd.o143 (P : Params) : Obj := ⟨(.type "code"), .none, (.fields (List.toArray [(sv "told" 307), (sv "Node.told" 308), (sv "/claim/cut.py" 309), (.int 35 0), (.int 1 0), (.int 0 0), (.int 0 0), (.int 3 0), (.ref 93), (.bool true), (.int 181 0), (.ref 94), .none, (.ref 95), (.ref 96), (.ref 97), (.int 311 0), (.int 35 0), (sv "/claim/cut.py" 312)])), #[]⟩
noncomputable def hd.o144 (P : Params) : Obj := fnO (me 12 1) (ofString "Node.told") .none (.str (ofString "postkeep.threads") 276) (.ref 98)
noncomputable def hd.o145 (P : Params) : Obj := ⟨(.type "tuple"), .none, (.seq (List.toArray [(sv "kids" 314), (sv "number" 315)]) 0), #[]⟩
noncomputable def hd.o146 (P : Params) : Obj := ⟨(.type "dict"), .none, (.dict (List.toArray [(kv P "__module__" 293 (sv "postkeep.threads" 276)), (kv P "__firstlineno__" 297 (.int 29 296)), (kv P "__init__" 306 (.ref 92)), (kv P "told" 313 (.ref 99)), (kv P "__static_attributes__" 316 (.ref 100)), (kv P "__dict__" 318 (.ref 103)), (kv P "__weakref__" 320 (.ref 104)), (kv P "__doc__" 321 .none)]) 4), #[]⟩
noncomputable def hd.o147 (P : Params) : Obj := ⟨(.type "type"), .none, (.cls ⟨(ofString "Node"), [(.type "object")], [(.ref 102), (.type "object")], 101, (ofString "Node"), true, [], [], false, .none, false⟩), (List.toArray [.none, .none, (.some (sv "Node" 286)), (.some (sv "Node" 294)), (.some (.builtin "object.__new__")), (.some (.bool true))])⟩
noncomputable def hd.o148 (P : Params) : Obj := ⟨(.type "getset_descriptor"), .none, (.fields (List.toArray [(sv "__dict__" 317), (.ref 102), (.builtin "function.__dict__"), (.builtin "function.__dict__#set")])), #[]⟩
noncomputable def hd.o149 (P : Params) : Obj := ⟨(.type "getset_descriptor"), .none, (.fields (List.toArray [(sv "__weakref__" 319), (.ref 102), (.builtin "ExceptionGroup.__weakref__"), .none])), #[]⟩
noncomputable def hd.o150 (P : Params) : Obj := ⟨(.type "super"), .none, (.fields (List.toArray [(.ref 102), (.ref 102), (.ref 102)])), #[]⟩
noncomputable def hd.o151 (P : Params) : Obj := ⟨(.type "builtin_function_or_method"), .none, (.fields (List.toArray [(.builtin "object.__init_subclass__"), (.ref 102)])), #[]⟩
noncomputable def hd.o154 (P : Params) : Obj := ⟨(.type "tuple"), .none, (.seq (List.toArray [(sv "nodes" 327), (sv "found" 328), (sv "todo" 329), (sv "node" 330)]) 0), #[]⟩
noncomputable def hd.o156 (P : Params) : Obj := fnN (st 13) (ofString "all_nodes")
noncomputable def hd.o157 (P : Params) : Obj := ⟨(.type "code"), .none, (.fields (List.toArray [(sv "all_nodes" 324), (sv "all_nodes" 325), (sv "/claim/cut.py" 326), (.int 37 0), (.int 1 0), (.int 0 0), (.int 0 0), (.int 3 0), (.ref 107), (.bool true), (.int 181 0), (.ref 108), .none, (.ref 109), (.ref 110), (.ref 111), (.int 331 0), (.int 37 0), (sv "/claim/cut.py" 332)])), #[]⟩
noncomputable def hd.o158 (P : Params) : Obj := fnO (st 13) (ofString "all_nodes") .none (.str (ofString "postkeep.threads") 276) (.ref 112)
noncomputable def hd.o161 (P : Params) : Obj := fnN (st 14) (ofString "numbers_told")
noncomputable def hd.o162 (P : Params) : Obj := ⟨(.type "code"), .none, (.fields (List.toArray [(sv "numbers_told" 334), (sv "numbers_told" 335), (sv "/claim/cut.py" 336), (.int 44 0), (.int 1 0), (.int 0 0), (.int 0 0), (.int 3 0), (.ref 114), (.bool true), (.int 181 0), (.ref 115), .none, .none, .none, (.ref 116), (.int 337 0), (.int 44 0), (sv "/claim/cut.py" 338)])), #[]⟩
noncomputable def hd.o163 (P : Params) : Obj := fnO (st 14) (ofString "numbers_told") .none (.str (ofString "postkeep.threads") 276) (.ref 117)
noncomputable def hd.o166 (P : Params) : Obj := ⟨(.type "tuple"), .none, (.seq (List.toArray [(sv "node" 343), (sv "numbers" 344)]) 0), #[]⟩
noncomputable def hd.o168 (P : Params) : Obj := fnN (st 15) (ofString "chain_of")
noncomputable def hd.o169 (P : Params) : Obj := ⟨(.type "code"), .none, (.fields (List.toArray [(sv "chain_of" 340), (sv "chain_of" 341), (sv "/claim/cut.py" 342), (.int 46 0), (.int 1 0), (.int 0 0), (.int 0 0), (.int 3 0), (.ref 119), (.bool true), (.int 181 0), (.ref 120), .none, (.ref 121), (.ref 122), (.ref 123), (.int 345 0), (.int 46 0), (sv "/claim/cut.py" 346)])), #[]⟩
noncomputable def hd.o170 (P : Params) : Obj := fnO (st 15) (ofString "chain_of") .none (.str (ofString "postkeep.threads") 276) (.ref 124)
noncomputable def hd.o173 (P : Params) : Obj := fnN (st 16) (ofString "show_threads")
noncomputable def hd.o174 (P : Params) : Obj := ⟨(.type "code"), .none, (.fields (List.toArray [(sv "show_threads" 348), (sv "show_threads" 349), (sv "/claim/cut.py" 350), (.int 52 0), (.int 1 0), (.int 0 0), (.int 0 0), (.int 3 0), (.ref 126), (.bool true), (.int 181 0), (.ref 127), .none, .none, .none, (.ref 128), (.int 351 0), (.int 52 0), (sv "/claim/cut.py" 352)])), #[]⟩
noncomputable def hd.o175 (P : Params) : Obj := fnO (st 16) (ofString "show_threads") .none (.str (ofString "postkeep.threads") 276) (.ref 129)
noncomputable def hd.o176 (P : Params) : Obj := ⟨(.type "dict"), .none, (.dict (List.toArray [(kv P "__name__" 165 (sv "law_pq0932_01" 430)), (kv P "__doc__" 166 .none), (kv P "__package__" 167 .none), (kv P "__loader__" 168 (.builtin "__main__.__loader__#opaque")), (kv P "__spec__" 169 .none), (kv P "__annotations__" 170 (.ref 6)), (kv P "__builtins__" 171 (.ref 4)), (kv P "__file__" 173 (sv "/claim/cut.py" 172)), (kv P "__cached__" 174 .none), (kv P "_wall" 193 (.ref 21)), (kv P "PostError" 235 (.ref 46)), (kv P "WordFault" 251 (.ref 59)), (kv P "WireFault" 267 (.ref 71)), (kv P "text_octets" 275 (.ref 78)), (kv P "OPENING" 279 (.int 40 278)), (kv P "CLOSING" 281 (.int 41 280)), (kv P "BLANK" 283 (.int 32 282)), (kv P "MOST_NUMBER" 285 (.int 20 284)), (kv P "Node" 323 (.ref 102)), (kv P "all_nodes" 333 (.ref 113)), (kv P "numbers_told" 339 (.ref 118)), (kv P "chain_of" 347 (.ref 125)), (kv P "show_threads" 353 (.ref 130)), (kv P "Frame" 400 (.ref 161)), (kv P "number_end" 409 (.ref 172)), (kv P "read_threads" 419 (.ref 179)), (kv P "read_member" 429 (.ref 186))]) 27), #[]⟩
noncomputable def hd.o177 (P : Params) : Obj := ⟨.none, .none, (.fields (List.toArray [(.int 1 0), (.int 0 0), (.ref 20), (.int 5 0), (.int 0 0), (.ref 27), (.int 14 0), (.int 0 0), (.ref 55), (.int 16 0), (.int 0 0), (.ref 67), (.int 19 0), (.int 0 0), (.ref 77), (.int 29 0), (.int 0 0), (.ref 84), (.int 37 0), (.int 0 0), (.ref 112), (.int 44 0), (.int 0 0), (.ref 117), (.int 46 0), (.int 0 0), (.ref 124), (.int 52 0), (.int 0 0), (.ref 129), (.int 66 0), (.int 0 0), (.ref 136), (.int 88 0), (.int 0 0), (.ref 171), (.int 95 0), (.int 0 0), (.ref 178), (.int 113 0), (.int 0 0), (.ref 185)])), #[]⟩
noncomputable def hd.o180 (P : Params) : Obj := ⟨(.type "dict"), .none, (.dict (List.toArray [(kv P "__module__" 361 (sv "postkeep.threads" 276)), (kv P "__qualname__" 363 (sv "Frame" 362)), (kv P "__firstlineno__" 365 (.int 66 364)), (kv P "__init__" 372 (.ref 144)), (kv P "put_number" 381 (.ref 151)), (kv P "closed" 389 (.ref 158)), (kv P "__static_attributes__" 393 (.ref 159))]) 7), #[]⟩
noncomputable def hd.o182 (P : Params) : Obj := ⟨.none, .none, (.fields (List.toArray [(.int 68 0), (.int 4 0), (.ref 143), (.int 73 0), (.int 4 0), (.ref 150), (.int 81 0), (.int 4 0), (.ref 157)])), #[]⟩
noncomputable def hd.o183 (P : Params) : Obj := ⟨(.type "code"), .none, (.fields (List.toArray [(sv "Frame" 356), (sv "Frame" 357), (sv "/claim/cut.py" 358), (.int 66 0), (.int 0 0), (.int 0 0), (.int 0 0), (.int 0 0), (.ref 134), (.bool false), (.int 181 0), (.ref 135), .none, .none, .none, .none, (.int 359 0), (.int 66 0), (sv "/claim/cut.py" 360)])), #[]⟩
noncomputable def hd.o184 (P : Params) : Obj := ⟨(.type "frame"), .none, .plain, (List.toArray [(.some (.ref 136)), (.some (.ref 3)), (.some (.ref 133)), .none, (.some (sv "postkeep.threads" 276)), .none, (.some (.ref 0))])⟩
noncomputable def hd.o187 (P : Params) : Obj := ⟨(.type "tuple"), .none, (.seq (List.toArray [(sv "self" 369)]) 0), #[]⟩
noncomputable def hd.o189 (P : Params) : Obj := fnN (me 17 0) (ofString "Frame.__init__")
noncomputable def hd.o190 (P : Params) : Obj := ⟨(.type "code"), .none, (.fields (List.toArray [(sv "__init__" 366), (sv "Frame.__init__" 367), (sv "/claim/cut.py" 368), (.int 68 0), (.int 1 0), (.int 0 0), (.int 0 0), (.int 3 0), (.ref 138), (.bool true), (.int 181 0), (.ref 139), .none, (.ref 140), (.ref 141), (.ref 142), (.int 370 0), (.int 68 0), (sv "/claim/cut.py" 371)])), #[]⟩
noncomputable def hd.o191 (P : Params) : Obj := fnO (me 17 0) (ofString "Frame.__init__") .none (.str (ofString "postkeep.threads") 276) (.ref 143)
noncomputable def hd.o194 (P : Params) : Obj := ⟨(.type "tuple"), .none, (.seq (List.toArray [(sv "self" 376), (sv "number" 377), (sv "node" 378)]) 0), #[]⟩
noncomputable def hd.o196 (P : Params) : Obj := fnN (me 17 1) (ofString "Frame.put_number")
noncomputable def hd.o197 (P : Params) : Obj := ⟨(.type "code"), .none, (.fields (List.toArray [(sv "put_number" 373), (sv "Frame.put_number" 374), (sv "/claim/cut.py" 375), (.int 73 0), (.int 2 0), (.int 0 0), (.int 0 0), (.int 3 0), (.ref 145), (.bool true), (.int 181 0), (.ref 146), .none, (.ref 147), (.ref 148), (.ref 149), (.int 379 0), (.int 73 0), (sv "/claim/cut.py" 380)])), #[]⟩
noncomputable def hd.o198 (P : Params) : Obj := fnO (me 17 1) (ofString "Frame.put_number") .none (.str (ofString "postkeep.threads") 276) (.ref 150)
noncomputable def hd.o201 (P : Params) : Obj := ⟨(.type "tuple"), .none, (.seq (List.toArray [(sv "self" 385), (sv "at" 386)]) 0), #[]⟩
noncomputable def hd.o203 (P : Params) : Obj := fnN (me 17 2) (ofString "Frame.closed")
noncomputable def hd.o204 (P : Params) : Obj := ⟨(.type "code"), .none, (.fields (List.toArray [(sv "closed" 382), (sv "Frame.closed" 383), (sv "/claim/cut.py" 384), (.int 81 0), (.int 2 0), (.int 0 0), (.int 0 0), (.int 3 0), (.ref 152), (.bool true), (.int 181 0), (.ref 153), .none, (.ref 154), (.ref 155), (.ref 156), (.int 387 0), (.int 81 0), (sv "/claim/cut.py" 388)])), #[]⟩
noncomputable def hd.o205 (P : Params) : Obj := fnO (me 17 2) (ofString "Frame.closed") .none (.str (ofString "postkeep.threads") 276) (.ref 157)
noncomputable def hd.o206 (P : Params) : Obj := ⟨(.type "tuple"), .none, (.seq (List.toArray [(sv "first" 390), (sv "inner" 391), (sv "last" 392)]) 0), #[]⟩
noncomputable def hd.o207 (P : Params) : Obj := ⟨(.type "dict"), .none, (.dict (List.toArray [(kv P "__module__" 361 (sv "postkeep.threads" 276)), (kv P "__firstlineno__" 365 (.int 66 364)), (kv P "__init__" 372 (.ref 144)), (kv P "put_number" 381 (.ref 151)), (kv P "closed" 389 (.ref 158)), (kv P "__static_attributes__" 393 (.ref 159)), (kv P "__dict__" 395 (.ref 162)), (kv P "__weakref__" 397 (.ref 163)), (kv P "__doc__" 398 .none)]) 4), #[]⟩
noncomputable def hd.o208 (P : Params) : Obj := ⟨(.type "type"), .none, (.cls ⟨(ofString "Frame"), [(.type "object")], [(.ref 161), (.type "object")], 160, (ofString "Frame"), true, [], [], false, .none, false⟩), (List.toArray [.none, .none, (.some (sv "Frame" 354)), (.some (sv "Frame" 362)), (.some (.builtin "object.__new__")), (.some (.bool true))])⟩
noncomputable def hd.o209 (P : Params) : Obj := ⟨(.type "getset_descriptor"), .none, (.fields (List.toArray [(sv "__dict__" 394), (.ref 161), (.builtin "function.__dict__"), (.builtin "function.__dict__#set")])), #[]⟩
noncomputable def hd.o210 (P : Params) : Obj := ⟨(.type "getset_descriptor"), .none, (.fields (List.toArray [(sv "__weakref__" 396), (.ref 161), (.builtin "ExceptionGroup.__weakref__"), .none])), #[]⟩
noncomputable def hd.o211 (P : Params) : Obj := ⟨(.type "super"), .none, (.fields (List.toArray [(.ref 161), (.ref 161), (.ref 161)])), #[]⟩
noncomputable def hd.o212 (P : Params) : Obj := ⟨(.type "builtin_function_or_method"), .none, (.fields (List.toArray [(.builtin "object.__init_subclass__"), (.ref 161)])), #[]⟩
noncomputable def hd.o215 (P : Params) : Obj := ⟨(.type "tuple"), .none, (.seq (List.toArray [(sv "octets" 404), (sv "at" 405), (sv "end" 406)]) 0), #[]⟩
noncomputable def hd.o217 (P : Params) : Obj := fnN (st 18) (ofString "number_end")
noncomputable def hd.o218 (P : Params) : Obj := ⟨(.type "code"), .none, (.fields (List.toArray [(sv "number_end" 401), (sv "number_end" 402), (sv "/claim/cut.py" 403), (.int 88 0), (.int 2 0), (.int 0 0), (.int 0 0), (.int 3 0), (.ref 166), (.bool true), (.int 181 0), (.ref 167), .none, (.ref 168), (.ref 169), (.ref 170), (.int 407 0), (.int 88 0), (sv "/claim/cut.py" 408)])), #[]⟩
noncomputable def hd.o219 (P : Params) : Obj := fnO (st 18) (ofString "number_end") .none (.str (ofString "postkeep.threads") 276) (.ref 171)
noncomputable def hd.o222 (P : Params) : Obj := ⟨(.type "tuple"), .none, (.seq (List.toArray [(sv "octets" 413), (sv "frames" 414), (sv "at" 415), (sv "frame" 416)]) 0), #[]⟩
noncomputable def hd.o224 (P : Params) : Obj := fnN (st 19) (ofString "read_threads")
noncomputable def hd.o225 (P : Params) : Obj := ⟨(.type "code"), .none, (.fields (List.toArray [(sv "read_threads" 410), (sv "read_threads" 411), (sv "/claim/cut.py" 412), (.int 95 0), (.int 1 0), (.int 0 0), (.int 0 0), (.int 3 0), (.ref 173), (.bool true), (.int 181 0), (.ref 174), .none, (.ref 175), (.ref 176), (.ref 177), (.int 417 0), (.int 95 0), (sv "/claim/cut.py" 418)])), #[]⟩
noncomputable def hd.o226 (P : Params) : Obj := fnO (st 19) (ofString "read_threads") .none (.str (ofString "postkeep.threads") 276) (.ref 178)
noncomputable def hd.o229 (P : Params) : Obj := ⟨(.type "tuple"), .none, (.seq (List.toArray [(sv "octets" 423), (sv "at" 424), (sv "frame" 425), (sv "end" 426)]) 0), #[]⟩
noncomputable def hd.o231 (P : Params) : Obj := fnN (st 20) (ofString "read_member")
noncomputable def hd.o232 (P : Params) : Obj := ⟨(.type "code"), .none, (.fields (List.toArray [(sv "read_member" 420), (sv "read_member" 421), (sv "/claim/cut.py" 422), (.int 113 0), (.int 3 0), (.int 0 0), (.int 0 0), (.int 3 0), (.ref 180), (.bool true), (.int 181 0), (.ref 181), .none, (.ref 182), (.ref 183), (.ref 184), (.int 427 0), (.int 113 0), (sv "/claim/cut.py" 428)])), #[]⟩
noncomputable def hd.o233 (P : Params) : Obj := fnO (st 20) (ofString "read_member") .none (.str (ofString "postkeep.threads") 276) (.ref 185)
noncomputable def hd.o238 (P : Params) : Obj := fnN (st 23) (ofString "_law_sack")
noncomputable def hd.o239 (P : Params) : Obj := ⟨(.type "code"), .none, (.fields (List.toArray [(sv "_law_sack" 434), (sv "_law_sack" 435), (sv "/claim/cut.py" 436), (.int 129 0), (.int 1 0), (.int 0 0), (.int 0 0), (.int 3 0), (.ref 187), (.bool true), (.int 181 0), (.ref 188), .none, .none, .none, (.ref 189), (.int 437 0), (.int 129 0), (sv "/claim/cut.py" 438)])), #[]⟩
noncomputable def hd.o240 (P : Params) : Obj := fnO (st 23) (ofString "_law_sack") .none (.str (ofString "law_pq0932_01") 430) (.ref 190)
noncomputable def hd.o243 (P : Params) : Obj := ⟨(.type "tuple"), .none, (.seq (List.toArray [(sv "sack" 443), (sv "most" 444), (sv "found" 445)]) 0), #[]⟩
noncomputable def hd.o245 (P : Params) : Obj := fnN (st 24) (ofString "_law_pull")
noncomputable def hd.o246 (P : Params) : Obj := ⟨(.type "code"), .none, (.fields (List.toArray [(sv "_law_pull" 440), (sv "_law_pull" 441), (sv "/claim/cut.py" 442), (.int 132 0), (.int 2 0), (.int 0 0), (.int 0 0), (.int 3 0), (.ref 192), (.bool true), (.int 181 0), (.ref 193), .none, (.ref 194), (.ref 195), (.ref 196), (.int 446 0), (.int 132 0), (sv "/claim/cut.py" 447)])), #[]⟩
noncomputable def hd.o247 (P : Params) : Obj := fnO (st 24) (ofString "_law_pull") .none (.str (ofString "law_pq0932_01") 430) (.ref 197)
noncomputable def hd.o250 (P : Params) : Obj := ⟨(.type "tuple"), .none, (.seq (List.toArray [(sv "sack" 452), (sv "found" 453), (sv "tops" 454), (sv "at" 455), (sv "spot" 456), (sv "tree" 457)]) 0), #[]⟩
noncomputable def hd.o252 (P : Params) : Obj := fnN (st 25) (ofString "_law_drawn")
noncomputable def hd.o253 (P : Params) : Obj := ⟨(.type "code"), .none, (.fields (List.toArray [(sv "_law_drawn" 449), (sv "_law_drawn" 450), (sv "/claim/cut.py" 451), (.int 141 0), (.int 1 0), (.int 0 0), (.int 0 0), (.int 3 0), (.ref 199), (.bool true), (.int 181 0), (.ref 200), .none, (.ref 201), (.ref 202), (.ref 203), (.int 458 0), (.int 141 0), (sv "/claim/cut.py" 459)])), #[]⟩
noncomputable def hd.o254 (P : Params) : Obj := fnO (st 25) (ofString "_law_drawn") .none (.str (ofString "law_pq0932_01") 430) (.ref 204)
noncomputable def hd.o257 (P : Params) : Obj := ⟨(.type "tuple"), .none, (.seq (List.toArray [(sv "sack" 464), (sv "tree" 465), (sv "at" 466), (sv "way" 467), (sv "beside" 468)]) 0), #[]⟩
noncomputable def hd.o259 (P : Params) : Obj := fnN (st 26) (ofString "_law_deep")
noncomputable def hd.o260 (P : Params) : Obj := ⟨(.type "code"), .none, (.fields (List.toArray [(sv "_law_deep" 461), (sv "_law_deep" 462), (sv "/claim/cut.py" 463), (.int 149 0), (.int 1 0), (.int 0 0), (.int 0 0), (.int 3 0), (.ref 206), (.bool true), (.int 181 0), (.ref 207), .none, (.ref 208), (.ref 209), (.ref 210), (.int 469 0), (.int 149 0), (sv "/claim/cut.py" 470)])), #[]⟩
noncomputable def hd.o261 (P : Params) : Obj := fnO (st 26) (ofString "_law_deep") .none (.str (ofString "law_pq0932_01") 430) (.ref 211)
noncomputable def hd.o264 (P : Params) : Obj := ⟨(.type "tuple"), .none, (.seq (List.toArray [(sv "forest" 475), (sv "found" 476), (sv "todo" 477)]) 0), #[]⟩
noncomputable def hd.o266 (P : Params) : Obj := fnN (st 27) (ofString "_law_order")
noncomputable def hd.o267 (P : Params) : Obj := ⟨(.type "code"), .none, (.fields (List.toArray [(sv "_law_order" 472), (sv "_law_order" 473), (sv "/claim/cut.py" 474), (.int 156 0), (.int 1 0), (.int 0 0), (.int 0 0), (.int 3 0), (.ref 213), (.bool true), (.int 181 0), (.ref 214), .none, (.ref 215), (.ref 216), (.ref 217), (.int 478 0), (.int 156 0), (sv "/claim/cut.py" 479)])), #[]⟩
noncomputable def hd.o268 (P : Params) : Obj := fnO (st 27) (ofString "_law_order") .none (.str (ofString "law_pq0932_01") 430) (.ref 218)
noncomputable def hd.o271 (P : Params) : Obj := ⟨(.type "tuple"), .none, (.seq (List.toArray [(sv "sack" 484), (sv "forest" 485), (sv "tree" 486), (sv "lap" 487)]) 0), #[]⟩
noncomputable def hd.o273 (P : Params) : Obj := fnN (st 28) (ofString "_law_hidden")
noncomputable def hd.o274 (P : Params) : Obj := ⟨(.type "code"), .none, (.fields (List.toArray [(sv "_law_hidden" 481), (sv "_law_hidden" 482), (sv "/claim/cut.py" 483), (.int 162 0), (.int 2 0), (.int 0 0), (.int 0 0), (.int 3 0), (.ref 220), (.bool true), (.int 181 0), (.ref 221), .none, (.ref 222), (.ref 223), (.ref 224), (.int 488 0), (.int 162 0), (sv "/claim/cut.py" 489)])), #[]⟩
noncomputable def hd.o275 (P : Params) : Obj := fnO (st 28) (ofString "_law_hidden") .none (.str (ofString "law_pq0932_01") 430) (.ref 225)
noncomputable def hd.o278 (P : Params) : Obj := fnN (st 29) (ofString "_law_text")
noncomputable def hd.o279 (P : Params) : Obj := ⟨(.type "code"), .none, (.fields (List.toArray [(sv "_law_text" 491), (sv "_law_text" 492), (sv "/claim/cut.py" 493), (.int 170 0), (.int 1 0), (.int 0 0), (.int 0 0), (.int 3 0), (.ref 227), (.bool true), (.int 181 0), (.ref 228), .none, .none, .none, (.ref 229), (.int 494 0), (.int 170 0), (sv "/claim/cut.py" 495)])), #[]⟩
noncomputable def hd.o280 (P : Params) : Obj := fnO (st 29) (ofString "_law_text") .none (.str (ofString "law_pq0932_01") 430) (.ref 230)
noncomputable def hd.o283 (P : Params) : Obj := ⟨(.type "tuple"), .none, (.seq (List.toArray [(sv "nodes" 500), (sv "found" 501), (sv "todo" 502), (sv "node" 503)]) 0), #[]⟩
noncomputable def hd.o285 (P : Params) : Obj := fnN (st 30) (ofString "_law_rows")
noncomputable def hd.o286 (P : Params) : Obj := ⟨(.type "code"), .none, (.fields (List.toArray [(sv "_law_rows" 497), (sv "_law_rows" 498), (sv "/claim/cut.py" 499), (.int 184 0), (.int 1 0), (.int 0 0), (.int 0 0), (.int 3 0), (.ref 232), (.bool true), (.int 181 0), (.ref 233), .none, (.ref 234), (.ref 235), (.ref 236), (.int 504 0), (.int 184 0), (sv "/claim/cut.py" 505)])), #[]⟩
noncomputable def hd.o287 (P : Params) : Obj := fnO (st 30) (ofString "_law_rows") .none (.str (ofString "law_pq0932_01") 430) (.ref 237)
noncomputable def hd.o290 (P : Params) : Obj := ⟨(.type "tuple"), .none, (.seq (List.toArray [(sv "octets" 510), (sv "line" 511), (sv "at" 512), (sv "sign" 513), (sv "state" 514), (sv "count" 515)]) 0), #[]⟩
noncomputable def hd.o292 (P : Params) : Obj := fnN (st 31) (ofString "_law_stop")
noncomputable def hd.o293 (P : Params) : Obj := ⟨(.type "code"), .none, (.fields (List.toArray [(sv "_law_stop" 507), (sv "_law_stop" 508), (sv "/claim/cut.py" 509), (.int 191 0), (.int 1 0), (.int 0 0), (.int 0 0), (.int 3 0), (.ref 239), (.bool true), (.int 181 0), (.ref 240), .none, (.ref 241), (.ref 242), (.ref 243), (.int 516 0), (.int 191 0), (sv "/claim/cut.py" 517)])), #[]⟩
noncomputable def hd.o294 (P : Params) : Obj := fnO (st 31) (ofString "_law_stop") .none (.str (ofString "law_pq0932_01") 430) (.ref 244)
noncomputable def hd.o297 (P : Params) : Obj := ⟨(.type "tuple"), .none, (.seq (List.toArray [(sv "sack" 522), (sv "octets" 523), (sv "at" 524), (sv "way" 525), (sv "sign" 526)]) 0), #[]⟩
noncomputable def hd.o299 (P : Params) : Obj := fnN (st 32) (ofString "_law_bent")
noncomputable def hd.o300 (P : Params) : Obj := ⟨(.type "code"), .none, (.fields (List.toArray [(sv "_law_bent" 519), (sv "_law_bent" 520), (sv "/claim/cut.py" 521), (.int 216 0), (.int 2 0), (.int 0 0), (.int 0 0), (.int 3 0), (.ref 246), (.bool true), (.int 181 0), (.ref 247), .none, (.ref 248), (.ref 249), (.ref 250), (.int 527 0), (.int 216 0), (sv "/claim/cut.py" 528)])), #[]⟩
noncomputable def hd.o301 (P : Params) : Obj := fnO (st 32) (ofString "_law_bent") .none (.str (ofString "law_pq0932_01") 430) (.ref 251)
noncomputable def hd.o304 (P : Params) : Obj := ⟨(.type "tuple"), .none, (.seq (List.toArray [(sv "octets" 533)]) 0), #[]⟩
noncomputable def hd.o306 (P : Params) : Obj := fnN (st 33) (ofString "_law_heard")
noncomputable def hd.o307 (P : Params) : Obj := ⟨(.type "code"), .none, (.fields (List.toArray [(sv "_law_heard" 530), (sv "_law_heard" 531), (sv "/claim/cut.py" 532), (.int 220 0), (.int 1 0), (.int 0 0), (.int 0 0), (.int 3 0), (.ref 253), (.bool true), (.int 181 0), (.ref 254), .none, (.ref 255), (.ref 256), (.ref 257), (.int 534 0), (.int 220 0), (sv "/claim/cut.py" 535)])), #[]⟩
noncomputable def hd.o308 (P : Params) : Obj := fnO (st 33) (ofString "_law_heard") .none (.str (ofString "law_pq0932_01") 430) (.ref 258)
noncomputable def hd.o311 (P : Params) : Obj := ⟨(.type "tuple"), .none, (.seq (List.toArray [(sv "octets" 540), (sv "nodes" 541), (sv "fault" 542)]) 0), #[]⟩
noncomputable def hd.o313 (P : Params) : Obj := fnN (st 34) (ofString "_law_is_right")
noncomputable def hd.o314 (P : Params) : Obj := ⟨(.type "code"), .none, (.fields (List.toArray [(sv "_law_is_right" 537), (sv "_law_is_right" 538), (sv "/claim/cut.py" 539), (.int 225 0), (.int 1 0), (.int 0 0), (.int 0 0), (.int 3 0), (.ref 260), (.bool true), (.int 181 0), (.ref 261), .none, (.ref 262), (.ref 263), (.ref 264), (.int 543 0), (.int 225 0), (sv "/claim/cut.py" 544)])), #[]⟩
noncomputable def hd.o315 (P : Params) : Obj := fnO (st 34) (ofString "_law_is_right") .none (.str (ofString "law_pq0932_01") 430) (.ref 265)
noncomputable def hd.o316 (P : Params) : Obj := ⟨(.type "dict"), .none, (.dict (List.toArray [(kv P "__name__" 165 (sv "law_pq0932_01" 430)), (kv P "__doc__" 166 .none), (kv P "__package__" 167 .none), (kv P "__loader__" 168 (.builtin "__main__.__loader__#opaque")), (kv P "__spec__" 169 .none), (kv P "__annotations__" 170 (.ref 6)), (kv P "__builtins__" 171 (.ref 4)), (kv P "__file__" 173 (sv "/claim/cut.py" 172)), (kv P "__cached__" 174 .none), (kv P "_wall" 193 (.ref 21)), (kv P "PostError" 235 (.ref 46)), (kv P "WordFault" 251 (.ref 59)), (kv P "WireFault" 267 (.ref 71)), (kv P "text_octets" 275 (.ref 78)), (kv P "OPENING" 279 (.int 40 278)), (kv P "CLOSING" 281 (.int 41 280)), (kv P "BLANK" 283 (.int 32 282)), (kv P "MOST_NUMBER" 285 (.int 20 284)), (kv P "Node" 323 (.ref 102)), (kv P "all_nodes" 333 (.ref 113)), (kv P "numbers_told" 339 (.ref 118)), (kv P "chain_of" 347 (.ref 125)), (kv P "show_threads" 353 (.ref 130)), (kv P "Frame" 400 (.ref 161)), (kv P "number_end" 409 (.ref 172)), (kv P "read_threads" 419 (.ref 179)), (kv P "read_member" 429 (.ref 186)), (kv P "_law_odd" 433 (.bytes (List.toArray [40, 41, 32, 48, 40, 41, 57, 9, 13, 10, 43, 45, 95, 49, 32]) 432)), (kv P "_law_sack" 439 (.ref 191)), (kv P "_law_pull" 448 (.ref 198)), (kv P "_law_drawn" 460 (.ref 205)), (kv P "_law_deep" 471 (.ref 212)), (kv P "_law_order" 480 (.ref 219)), (kv P "_law_hidden" 490 (.ref 226)), (kv P "_law_text" 496 (.ref 231)), (kv P "_law_rows" 506 (.ref 238)), (kv P "_law_stop" 518 (.ref 245)), (kv P "_law_bent" 529 (.ref 252)), (kv P "_law_heard" 536 (.ref 259)), (kv P "_law_is_right" 545 (.ref 266)), (kv P "law" 551 (.ref 271))]) 41), #[]⟩
noncomputable def hd.o317 (P : Params) : Obj := ⟨.none, .none, (.fields (List.toArray [(.int 1 0), (.int 0 0), (.ref 20), (.int 5 0), (.int 0 0), (.ref 27), (.int 14 0), (.int 0 0), (.ref 55), (.int 16 0), (.int 0 0), (.ref 67), (.int 19 0), (.int 0 0), (.ref 77), (.int 29 0), (.int 0 0), (.ref 84), (.int 37 0), (.int 0 0), (.ref 112), (.int 44 0), (.int 0 0), (.ref 117), (.int 46 0), (.int 0 0), (.ref 124), (.int 52 0), (.int 0 0), (.ref 129), (.int 66 0), (.int 0 0), (.ref 136), (.int 88 0), (.int 0 0), (.ref 171), (.int 95 0), (.int 0 0), (.ref 178), (.int 113 0), (.int 0 0), (.ref 185), (.int 129 0), (.int 0 0), (.ref 190), (.int 132 0), (.int 0 0), (.ref 197), (.int 141 0), (.int 0 0), (.ref 204), (.int 149 0), (.int 0 0), (.ref 211), (.int 156 0), (.int 0 0), (.ref 218), (.int 162 0), (.int 0 0), (.ref 225), (.int 170 0), (.int 0 0), (.ref 230), (.int 184 0), (.int 0 0), (.ref 237), (.int 191 0), (.int 0 0), (.ref 244), (.int 216 0), (.int 0 0), (.ref 251), (.int 220 0), (.int 0 0), (.ref 258), (.int 225 0), (.int 0 0), (.ref 265), (.int 231 0), (.int 0 0), (.ref 270)])), #[]⟩
noncomputable def hd.o320 (P : Params) : Obj := fnN (st 35) (ofString "law")
noncomputable def hd.o321 (P : Params) : Obj := ⟨(.type "code"), .none, (.fields (List.toArray [(sv "law" 546), (sv "law" 547), (sv "/claim/cut.py" 548), (.int 231 0), (.int 1 0), (.int 0 0), (.int 0 0), (.int 3 0), (.ref 267), (.bool true), (.int 181 0), (.ref 268), .none, .none, .none, (.ref 269), (.int 549 0), (.int 231 0), (sv "/claim/cut.py" 550)])), #[]⟩
noncomputable def hd.o322 (P : Params) : Obj := fnO (st 35) (ofString "law") .none (.str (ofString "law_pq0932_01") 430) (.ref 270)
noncomputable def hd.tree_47 (P : Params) : BT := (.node (boot_o_0 P) (.node (boot_o_1 P) (.node (boot_o_3 P) (.node (boot_o_7 P) .nil .nil) (.node (hd.o43 P) .nil .nil)) (.node (boot_o_5 P) (.node (boot_o_9 P) .nil .nil) (.node (hd.o45 P) .nil .nil))) (.node (boot_o_2 P) (.node (boot_o_4 P) (.node (boot_o_8 P) .nil .nil) (.node (hd.o44 P) .nil .nil)) (.node (boot_o_6 P) (.node (boot_o_10 P) .nil .nil) (.node (hd.o46 P) .nil .nil))))
noncomputable def hd.tree_86 (P : Params) : BT := (.node (boot_o_0 P) (.node (boot_o_1 P) (.node (hd.o50 P) (.node (boot_o_7 P) (.node (hd.o43 P) (.node (hd.o44 P) .nil .nil) (.node (hd.o84 P) .nil .nil)) (.node (hd.o60 P) (.node (hd.o76 P) .nil .nil) .nil)) (.node (hd.o43 P) (.node (hd.o56 P) (.node (hd.o72 P) .nil .nil) .nil) (.node (hd.o64 P) (.node (hd.o80 P) .nil .nil) .nil))) (.node (boot_o_5 P) (.node (boot_o_9 P) (.node (hd.o54 P) (.node (hd.o43 P) .nil .nil) (.node (hd.o86 P) .nil .nil)) (.node (hd.o43 P) (.node (hd.o78 P) .nil .nil) .nil)) (.node (hd.o45 P) (.node (hd.o58 P) (.node (hd.o43 P) .nil .nil) .nil) (.node (hd.o66 P) (.node (hd.o82 P) .nil .nil) .nil)))) (.node (hd.o49 P) (.node (boot_o_4 P) (.node (boot_o_8 P) (.node (hd.o44 P) (.node (hd.o69 P) .nil .nil) (.node (hd.o85 P) .nil .nil)) (.node (hd.o61 P) (.node (hd.o43 P) .nil .nil) .nil)) (.node (hd.o51 P) (.node (hd.o57 P) (.node (hd.o73 P) .nil .nil) .nil) (.node (hd.o65 P) (.node (hd.o81 P) .nil .nil) .nil))) (.node (boot_o_6 P) (.node (boot_o_10 P) (.node (hd.o43 P) (.node (hd.o71 P) .nil .nil) .nil) (.node (hd.o63 P) (.node (hd.o79 P) .nil .nil) .nil)) (.node (hd.o46 P) (.node (hd.o59 P) (.node (hd.o44 P) .nil .nil) .nil) (.node (hd.o43 P) (.node (hd.o83 P) .nil .nil) .nil)))))
noncomputable def hd.tree_121 (P : Params) : BT := (.node (boot_o_0 P) (.node (boot_o_1 P) (.node (hd.o102 P) (.node (boot_o_7 P) (.node (hd.o43 P) (.node (hd.o44 P) (.node (hd.o60 P) .nil .nil) .nil) (.node (hd.o84 P) .nil .nil)) (.node (hd.o60 P) (.node (hd.o76 P) (.node (hd.o114 P) .nil .nil) .nil) (.node (hd.o95 P) .nil .nil))) (.node (hd.o43 P) (.node (hd.o56 P) (.node (hd.o72 P) (.node (hd.o110 P) .nil .nil) .nil) (.node (hd.o60 P) .nil .nil)) (.node (hd.o64 P) (.node (hd.o80 P) (.node (hd.o44 P) .nil .nil) .nil) (.node (hd.o99 P) .nil .nil)))) (.node (boot_o_5 P) (.node (boot_o_9 P) (.node (hd.o54 P) (.node (hd.o43 P) (.node (hd.o43 P) .nil .nil) .nil) (.node (hd.o86 P) .nil .nil)) (.node (hd.o43 P) (.node (hd.o78 P) (.node (hd.o116 P) .nil .nil) .nil) (.node (hd.o43 P) .nil .nil))) (.node (hd.o45 P) (.node (hd.o58 P) (.node (hd.o43 P) (.node (hd.o43 P) .nil .nil) .nil) (.node (hd.o43 P) .nil .nil)) (.node (hd.o66 P) (.node (hd.o82 P) (.node (hd.o120 P) .nil .nil) .nil) (.node (hd.o101 P) .nil .nil))))) (.node (hd.o49 P) (.node (boot_o_4 P) (.node (boot_o_8 P) (.node (hd.o44 P) (.node (hd.o69 P) (.node (hd.o107 P) .nil .nil) .nil) (.node (hd.o85 P) .nil .nil)) (.node (hd.o61 P) (.node (hd.o43 P) (.node (hd.o115 P) .nil .nil) .nil) (.node (hd.o96 P) .nil .nil))) (.node (hd.o103 P) (.node (hd.o57 P) (.node (hd.o73 P) (.node (hd.o111 P) .nil .nil) .nil) (.node (hd.o92 P) .nil .nil)) (.node (hd.o65 P) (.node (hd.o81 P) (.node (hd.o119 P) .nil .nil) .nil) (.node (hd.o100 P) .nil .nil)))) (.node (boot_o_6 P) (.node (boot_o_10 P) (.node (hd.o43 P) (.node (hd.o71 P) (.node (hd.o44 P) .nil .nil) .nil) (.node (hd.o90 P) .nil .nil)) (.node (hd.o63 P) (.node (hd.o79 P) (.node (hd.o43 P) .nil .nil) .nil) (.node (hd.o98 P) .nil .nil))) (.node (hd.o46 P) (.node (hd.o59 P) (.node (hd.o44 P) (.node (hd.o113 P) .nil .nil) .nil) (.node (hd.o44 P) .nil .nil)) (.node (hd.o43 P) (.node (hd.o104 P) (.node (hd.o121 P) .nil .nil) .nil) (.node (hd.o90 P) .nil .nil))))))
noncomputable def hd.tree_175 (P : Params) : BT := (.node (boot_o_0 P) (.node (boot_o_1 P) (.node (hd.o122 P) (.node (boot_o_7 P) (.node (hd.o43 P) (.node (hd.o44 P) (.node (hd.o60 P) (.node (hd.o44 P) .nil .nil) .nil) (.node (hd.o140 P) .nil .nil)) (.node (hd.o84 P) (.node (hd.o43 P) .nil .nil) (.node (hd.o156 P) .nil .nil))) (.node (hd.o60 P) (.node (hd.o76 P) (.node (hd.o114 P) .nil .nil) (.node (hd.o148 P) .nil .nil)) (.node (hd.o95 P) (.node (hd.o44 P) .nil .nil) (.node (hd.o43 P) .nil .nil)))) (.node (hd.o43 P) (.node (hd.o56 P) (.node (hd.o72 P) (.node (hd.o110 P) .nil .nil) (.node (hd.o144 P) .nil .nil)) (.node (hd.o60 P) (.node (hd.o128 P) .nil .nil) (.node (hd.o44 P) .nil .nil))) (.node (hd.o64 P) (.node (hd.o80 P) (.node (hd.o44 P) .nil .nil) (.node (hd.o43 P) .nil .nil)) (.node (hd.o99 P) (.node (hd.o136 P) .nil .nil) (.node (hd.o168 P) .nil .nil))))) (.node (boot_o_5 P) (.node (boot_o_9 P) (.node (hd.o54 P) (.node (hd.o43 P) (.node (hd.o43 P) (.node (hd.o174 P) .nil .nil) .nil) (.node (hd.o142 P) .nil .nil)) (.node (hd.o86 P) (.node (hd.o126 P) .nil .nil) (.node (hd.o158 P) .nil .nil))) (.node (hd.o43 P) (.node (hd.o78 P) (.node (hd.o116 P) .nil .nil) (.node (hd.o150 P) .nil .nil)) (.node (hd.o43 P) (.node (hd.o43 P) .nil .nil) (.node (hd.o166 P) .nil .nil)))) (.node (hd.o45 P) (.node (hd.o58 P) (.node (hd.o43 P) (.node (hd.o43 P) .nil .nil) (.node (hd.o146 P) .nil .nil)) (.node (hd.o43 P) (.node (hd.o130 P) .nil .nil) (.node (hd.o162 P) .nil .nil))) (.node (hd.o66 P) (.node (hd.o82 P) (.node (hd.o120 P) .nil .nil) (.node (hd.o154 P) .nil .nil)) (.node (hd.o101 P) (.node (hd.o43 P) .nil .nil) (.node (hd.o170 P) .nil .nil)))))) (.node (hd.o49 P) (.node (boot_o_4 P) (.node (boot_o_8 P) (.node (hd.o44 P) (.node (hd.o69 P) (.node (hd.o107 P) (.node (hd.o173 P) .nil .nil) .nil) (.node (hd.o43 P) .nil .nil)) (.node (hd.o85 P) (.node (hd.o60 P) .nil .nil) (.node (hd.o157 P) .nil .nil))) (.node (hd.o61 P) (.node (hd.o43 P) (.node (hd.o115 P) .nil .nil) (.node (hd.o149 P) .nil .nil)) (.node (hd.o96 P) (.node (hd.o133 P) .nil .nil) (.node (hd.o44 P) .nil .nil)))) (.node (hd.o123 P) (.node (hd.o57 P) (.node (hd.o73 P) (.node (hd.o111 P) .nil .nil) (.node (hd.o145 P) .nil .nil)) (.node (hd.o92 P) (.node (hd.o129 P) .nil .nil) (.node (hd.o161 P) .nil .nil))) (.node (hd.o65 P) (.node (hd.o81 P) (.node (hd.o119 P) .nil .nil) (.node (hd.o44 P) .nil .nil)) (.node (hd.o100 P) (.node (hd.o137 P) .nil .nil) (.node (hd.o169 P) .nil .nil))))) (.node (boot_o_6 P) (.node (boot_o_10 P) (.node (hd.o43 P) (.node (hd.o71 P) (.node (hd.o44 P) (.node (hd.o175 P) .nil .nil) .nil) (.node (hd.o143 P) .nil .nil)) (.node (hd.o90 P) (.node (hd.o43 P) .nil .nil) (.node (hd.o43 P) .nil .nil))) (.node (hd.o63 P) (.node (hd.o79 P) (.node (hd.o43 P) .nil .nil) (.node (hd.o151 P) .nil .nil)) (.node (hd.o98 P) (.node (hd.o135 P) .nil .nil) (.node (hd.o43 P) .nil .nil)))) (.node (hd.o46 P) (.node (hd.o59 P) (.node (hd.o44 P) (.node (hd.o113 P) .nil .nil) (.node (hd.o147 P) .nil .nil)) (.node (hd.o44 P) (.node (hd.o43 P) .nil .nil) (.node (hd.o163 P) .nil .nil))) (.node (hd.o43 P) (.node (hd.o104 P) (.node (hd.o121 P) .nil .nil) (.node (hd.o43 P) .nil .nil)) (.node (hd.o90 P) (.node (hd.o44 P) .nil .nil) (.node (hd.o43 P) .nil .nil)))))))
noncomputable def hd.tree_233 (P : Params) : BT := (.node (boot_o_0 P) (.node (boot_o_1 P) (.node (hd.o176 P) (.node (boot_o_7 P) (.node (hd.o43 P) (.node (hd.o44 P) (.node (hd.o60 P) (.node (hd.o44 P) .nil .nil) .nil) (.node (hd.o140 P) (.node (hd.o206 P) .nil .nil) .nil)) (.node (hd.o84 P) (.node (hd.o43 P) (.node (hd.o190 P) .nil .nil) .nil) (.node (hd.o156 P) (.node (hd.o222 P) .nil .nil) .nil))) (.node (hd.o60 P) (.node (hd.o76 P) (.node (hd.o114 P) (.node (hd.o182 P) .nil .nil) .nil) (.node (hd.o148 P) (.node (hd.o44 P) .nil .nil) .nil)) (.node (hd.o95 P) (.node (hd.o44 P) (.node (hd.o198 P) .nil .nil) .nil) (.node (hd.o43 P) (.node (hd.o43 P) .nil .nil) .nil)))) (.node (hd.o43 P) (.node (hd.o56 P) (.node (hd.o72 P) (.node (hd.o110 P) (.node (hd.o43 P) .nil .nil) .nil) (.node (hd.o144 P) (.node (hd.o210 P) .nil .nil) .nil)) (.node (hd.o60 P) (.node (hd.o128 P) (.node (hd.o194 P) .nil .nil) .nil) (.node (hd.o44 P) (.node (hd.o226 P) .nil .nil) .nil))) (.node (hd.o64 P) (.node (hd.o80 P) (.node (hd.o44 P) (.node (hd.o44 P) .nil .nil) .nil) (.node (hd.o43 P) (.node (hd.o218 P) .nil .nil) .nil)) (.node (hd.o99 P) (.node (hd.o136 P) (.node (hd.o43 P) .nil .nil) .nil) (.node (hd.o168 P) .nil .nil))))) (.node (boot_o_5 P) (.node (boot_o_9 P) (.node (hd.o54 P) (.node (hd.o43 P) (.node (hd.o43 P) (.node (hd.o174 P) .nil .nil) .nil) (.node (hd.o142 P) (.node (hd.o208 P) .nil .nil) .nil)) (.node (hd.o86 P) (.node (hd.o126 P) (.node (hd.o43 P) .nil .nil) .nil) (.node (hd.o158 P) (.node (hd.o224 P) .nil .nil) .nil))) (.node (hd.o43 P) (.node (hd.o78 P) (.node (hd.o116 P) (.node (hd.o184 P) .nil .nil) .nil) (.node (hd.o150 P) (.node (hd.o43 P) .nil .nil) .nil)) (.node (hd.o43 P) (.node (hd.o43 P) (.node (hd.o44 P) .nil .nil) .nil) (.node (hd.o166 P) (.node (hd.o232 P) .nil .nil) .nil)))) (.node (hd.o45 P) (.node (hd.o58 P) (.node (hd.o43 P) (.node (hd.o43 P) (.node (hd.o180 P) .nil .nil) .nil) (.node (hd.o146 P) (.node (hd.o212 P) .nil .nil) .nil)) (.node (hd.o43 P) (.node (hd.o130 P) (.node (hd.o196 P) .nil .nil) .nil) (.node (hd.o162 P) (.node (hd.o44 P) .nil .nil) .nil))) (.node (hd.o66 P) (.node (hd.o82 P) (.node (hd.o120 P) (.node (hd.o43 P) .nil .nil) .nil) (.node (hd.o154 P) (.node (hd.o43 P) .nil .nil) .nil)) (.node (hd.o101 P) (.node (hd.o43 P) (.node (hd.o204 P) .nil .nil) .nil) (.node (hd.o170 P) .nil .nil)))))) (.node (hd.o49 P) (.node (boot_o_4 P) (.node (boot_o_8 P) (.node (hd.o44 P) (.node (hd.o69 P) (.node (hd.o107 P) (.node (hd.o173 P) .nil .nil) .nil) (.node (hd.o43 P) (.node (hd.o207 P) .nil .nil) .nil)) (.node (hd.o85 P) (.node (hd.o60 P) (.node (hd.o191 P) .nil .nil) .nil) (.node (hd.o157 P) (.node (hd.o43 P) .nil .nil) .nil))) (.node (hd.o61 P) (.node (hd.o43 P) (.node (hd.o115 P) (.node (hd.o183 P) .nil .nil) .nil) (.node (hd.o149 P) (.node (hd.o215 P) .nil .nil) .nil)) (.node (hd.o96 P) (.node (hd.o133 P) (.node (hd.o43 P) .nil .nil) .nil) (.node (hd.o44 P) (.node (hd.o231 P) .nil .nil) .nil)))) (.node (hd.o177 P) (.node (hd.o57 P) (.node (hd.o73 P) (.node (hd.o111 P) (.node (hd.o60 P) .nil .nil) .nil) (.node (hd.o145 P) (.node (hd.o211 P) .nil .nil) .nil)) (.node (hd.o92 P) (.node (hd.o129 P) (.node (hd.o43 P) .nil .nil) .nil) (.node (hd.o161 P) (.node (hd.o43 P) .nil .nil) .nil))) (.node (hd.o65 P) (.node (hd.o81 P) (.node (hd.o119 P) (.node (hd.o187 P) .nil .nil) .nil) (.node (hd.o44 P) (.node (hd.o219 P) .nil .nil) .nil)) (.node (hd.o100 P) (.node (hd.o137 P) (.node (hd.o203 P) .nil .nil) .nil) (.node (hd.o169 P) .nil .nil))))) (.node (boot_o_6 P) (.node (boot_o_10 P) (.node (hd.o43 P) (.node (hd.o71 P) (.node (hd.o44 P) (.node (hd.o175 P) .nil .nil) .nil) (.node (hd.o143 P) (.node (hd.o209 P) .nil .nil) .nil)) (.node (hd.o90 P) (.node (hd.o43 P) (.node (hd.o44 P) .nil .nil) .nil) (.node (hd.o43 P) (.node (hd.o225 P) .nil .nil) .nil))) (.node (hd.o63 P) (.node (hd.o79 P) (.node (hd.o43 P) (.node (hd.o43 P) .nil .nil) .nil) (.node (hd.o151 P) (.node (hd.o217 P) .nil .nil) .nil)) (.node (hd.o98 P) (.node (hd.o135 P) (.node (hd.o201 P) .nil .nil) .nil) (.node (hd.o43 P) (.node (hd.o233 P) .nil .nil) .nil)))) (.node (hd.o46 P) (.node (hd.o59 P) (.node (hd.o44 P) (.node (hd.o113 P) (.node (hd.o43 P) .nil .nil) .nil) (.node (hd.o147 P) (.node (hd.o43 P) .nil .nil) .nil)) (.node (hd.o44 P) (.node (hd.o43 P) (.node (hd.o197 P) .nil .nil) .nil) (.node (hd.o163 P) (.node (hd.o229 P) .nil .nil) .nil))) (.node (hd.o43 P) (.node (hd.o104 P) (.node (hd.o121 P) (.node (hd.o189 P) .nil .nil) .nil) (.node (hd.o43 P) (.node (hd.o44 P) .nil .nil) .nil)) (.node (hd.o90 P) (.node (hd.o44 P) (.node (hd.o205 P) .nil .nil) .nil) (.node (hd.o43 P) .nil .nil)))))))
noncomputable def hd.tree_322 (P : Params) : BT := (.node (boot_o_0 P) (.node (boot_o_1 P) (.node (hd.o316 P) (.node (boot_o_7 P) (.node (hd.o43 P) (.node (hd.o44 P) (.node (hd.o60 P) (.node (hd.o44 P) (.node (hd.o304 P) .nil .nil) .nil) (.node (hd.o240 P) .nil .nil)) (.node (hd.o140 P) (.node (hd.o206 P) .nil .nil) (.node (hd.o43 P) .nil .nil))) (.node (hd.o84 P) (.node (hd.o43 P) (.node (hd.o190 P) (.node (hd.o322 P) .nil .nil) .nil) (.node (hd.o44 P) .nil .nil)) (.node (hd.o156 P) (.node (hd.o222 P) .nil .nil) (.node (hd.o43 P) .nil .nil)))) (.node (hd.o60 P) (.node (hd.o76 P) (.node (hd.o114 P) (.node (hd.o182 P) (.node (hd.o43 P) .nil .nil) .nil) (.node (hd.o43 P) .nil .nil)) (.node (hd.o148 P) (.node (hd.o44 P) .nil .nil) (.node (hd.o280 P) .nil .nil))) (.node (hd.o95 P) (.node (hd.o44 P) (.node (hd.o198 P) .nil .nil) (.node (hd.o264 P) .nil .nil)) (.node (hd.o43 P) (.node (hd.o43 P) .nil .nil) (.node (hd.o44 P) .nil .nil))))) (.node (hd.o43 P) (.node (hd.o56 P) (.node (hd.o72 P) (.node (hd.o110 P) (.node (hd.o43 P) (.node (hd.o308 P) .nil .nil) .nil) (.node (hd.o43 P) .nil .nil)) (.node (hd.o144 P) (.node (hd.o210 P) .nil .nil) (.node (hd.o43 P) .nil .nil))) (.node (hd.o60 P) (.node (hd.o128 P) (.node (hd.o194 P) .nil .nil) (.node (hd.o260 P) .nil .nil)) (.node (hd.o44 P) (.node (hd.o226 P) .nil .nil) (.node (hd.o292 P) .nil .nil)))) (.node (hd.o64 P) (.node (hd.o80 P) (.node (hd.o44 P) (.node (hd.o44 P) (.node (hd.o43 P) .nil .nil) .nil) (.node (hd.o252 P) .nil .nil)) (.node (hd.o43 P) (.node (hd.o218 P) .nil .nil) (.node (hd.o43 P) .nil .nil))) (.node (hd.o99 P) (.node (hd.o136 P) (.node (hd.o43 P) .nil .nil) (.node (hd.o268 P) .nil .nil)) (.node (hd.o168 P) (.node (hd.o43 P) .nil .nil) (.node (hd.o300 P) .nil .nil)))))) (.node (boot_o_5 P) (.node (boot_o_9 P) (.node (hd.o54 P) (.node (hd.o43 P) (.node (hd.o43 P) (.node (hd.o174 P) (.node (hd.o306 P) .nil .nil) .nil) (.node (hd.o44 P) .nil .nil)) (.node (hd.o142 P) (.node (hd.o208 P) .nil .nil) (.node (hd.o274 P) .nil .nil))) (.node (hd.o86 P) (.node (hd.o126 P) (.node (hd.o43 P) .nil .nil) (.node (hd.o43 P) .nil .nil)) (.node (hd.o158 P) (.node (hd.o224 P) .nil .nil) (.node (hd.o290 P) .nil .nil)))) (.node (hd.o43 P) (.node (hd.o78 P) (.node (hd.o116 P) (.node (hd.o184 P) (.node (hd.o314 P) .nil .nil) .nil) (.node (hd.o250 P) .nil .nil)) (.node (hd.o150 P) (.node (hd.o43 P) .nil .nil) (.node (hd.o44 P) .nil .nil))) (.node (hd.o43 P) (.node (hd.o43 P) (.node (hd.o44 P) .nil .nil) (.node (hd.o266 P) .nil .nil)) (.node (hd.o166 P) (.node (hd.o232 P) .nil .nil) (.node (hd.o43 P) .nil .nil))))) (.node (hd.o45 P) (.node (hd.o58 P) (.node (hd.o43 P) (.node (hd.o43 P) (.node (hd.o180 P) (.node (hd.o44 P) .nil .nil) .nil) (.node (hd.o246 P) .nil .nil)) (.node (hd.o146 P) (.node (hd.o212 P) .nil .nil) (.node (hd.o278 P) .nil .nil))) (.node (hd.o43 P) (.node (hd.o130 P) (.node (hd.o196 P) .nil .nil) (.node (hd.o43 P) .nil .nil)) (.node (hd.o162 P) (.node (hd.o44 P) .nil .nil) (.node (hd.o294 P) .nil .nil)))) (.node (hd.o66 P) (.node (hd.o82 P) (.node (hd.o120 P) (.node (hd.o43 P) (.node (hd.o320 P) .nil .nil) .nil) (.node (hd.o254 P) .nil .nil)) (.node (hd.o154 P) (.node (hd.o43 P) .nil .nil) (.node (hd.o286 P) .nil .nil))) (.node (hd.o101 P) (.node (hd.o43 P) (.node (hd.o204 P) .nil .nil) (.node (hd.o44 P) .nil .nil)) (.node (hd.o170 P) (.node (hd.o238 P) .nil .nil) (.node (hd.o43 P) .nil .nil))))))) (.node (hd.o49 P) (.node (boot_o_4 P) (.node (boot_o_8 P) (.node (hd.o44 P) (.node (hd.o69 P) (.node (hd.o107 P) (.node (hd.o173 P) (.node (hd.o43 P) .nil .nil) .nil) (.node (hd.o43 P) .nil .nil)) (.node (hd.o43 P) (.node (hd.o207 P) .nil .nil) (.node (hd.o273 P) .nil .nil))) (.node (hd.o85 P) (.node (hd.o60 P) (.node (hd.o191 P) .nil .nil) (.node (hd.o257 P) .nil .nil)) (.node (hd.o157 P) (.node (hd.o43 P) .nil .nil) (.node (hd.o44 P) .nil .nil)))) (.node (hd.o61 P) (.node (hd.o43 P) (.node (hd.o115 P) (.node (hd.o183 P) (.node (hd.o313 P) .nil .nil) .nil) (.node (hd.o44 P) .nil .nil)) (.node (hd.o149 P) (.node (hd.o215 P) .nil .nil) (.node (hd.o43 P) .nil .nil))) (.node (hd.o96 P) (.node (hd.o133 P) (.node (hd.o43 P) .nil .nil) (.node (hd.o43 P) .nil .nil)) (.node (hd.o44 P) (.node (hd.o231 P) .nil .nil) (.node (hd.o297 P) .nil .nil))))) (.node (hd.o317 P) (.node (hd.o57 P) (.node (hd.o73 P) (.node (hd.o111 P) (.node (hd.o60 P) (.node (hd.o43 P) .nil .nil) .nil) (.node (hd.o245 P) .nil .nil)) (.node (hd.o145 P) (.node (hd.o211 P) .nil .nil) (.node (hd.o44 P) .nil .nil))) (.node (hd.o92 P) (.node (hd.o129 P) (.node (hd.o43 P) .nil .nil) (.node (hd.o261 P) .nil .nil)) (.node (hd.o161 P) (.node (hd.o43 P) .nil .nil) (.node (hd.o293 P) .nil .nil)))) (.node (hd.o65 P) (.node (hd.o81 P) (.node (hd.o119 P) (.node (hd.o187 P) (.node (hd.o44 P) .nil .nil) .nil) (.node (hd.o253 P) .nil .nil)) (.node (hd.o44 P) (.node (hd.o219 P) .nil .nil) (.node (hd.o285 P) .nil .nil))) (.node (hd.o100 P) (.node (hd.o137 P) (.node (hd.o203 P) .nil .nil) (.node (hd.o43 P) .nil .nil)) (.node (hd.o169 P) (.node (hd.o44 P) .nil .nil) (.node (hd.o301 P) .nil .nil)))))) (.node (boot_o_6 P) (.node (boot_o_10 P) (.node (hd.o43 P) (.node (hd.o71 P) (.node (hd.o44 P) (.node (hd.o175 P) (.node (hd.o307 P) .nil .nil) .nil) (.node (hd.o243 P) .nil .nil)) (.node (hd.o143 P) (.node (hd.o209 P) .nil .nil) (.node (hd.o275 P) .nil .nil))) (.node (hd.o90 P) (.node (hd.o43 P) (.node (hd.o44 P) .nil .nil) (.node (hd.o259 P) .nil .nil)) (.node (hd.o43 P) (.node (hd.o225 P) .nil .nil) (.node (hd.o43 P) .nil .nil)))) (.node (hd.o63 P) (.node (hd.o79 P) (.node (hd.o43 P) (.node (hd.o43 P) (.node (hd.o315 P) .nil .nil) .nil) (.node (hd.o43 P) .nil .nil)) (.node (hd.o151 P) (.node (hd.o217 P) .nil .nil) (.node (hd.o283 P) .nil .nil))) (.node (hd.o98 P) (.node (hd.o135 P) (.node (hd.o201 P) .nil .nil) (.node (hd.o267 P) .nil .nil)) (.node (hd.o43 P) (.node (hd.o233 P) .nil .nil) (.node (hd.o299 P) .nil .nil))))) (.node (hd.o46 P) (.node (hd.o59 P) (.node (hd.o44 P) (.node (hd.o113 P) (.node (hd.o43 P) (.node (hd.o311 P) .nil .nil) .nil) (.node (hd.o247 P) .nil .nil)) (.node (hd.o147 P) (.node (hd.o43 P) .nil .nil) (.node (hd.o279 P) .nil .nil))) (.node (hd.o44 P) (.node (hd.o43 P) (.node (hd.o197 P) .nil .nil) (.node (hd.o44 P) .nil .nil)) (.node (hd.o163 P) (.node (hd.o229 P) .nil .nil) (.node (hd.o43 P) .nil .nil)))) (.node (hd.o43 P) (.node (hd.o104 P) (.node (hd.o121 P) (.node (hd.o189 P) (.node (hd.o321 P) .nil .nil) .nil) (.node (hd.o43 P) .nil .nil)) (.node (hd.o43 P) (.node (hd.o44 P) .nil .nil) (.node (hd.o287 P) .nil .nil))) (.node (hd.o90 P) (.node (hd.o44 P) (.node (hd.o205 P) .nil .nil) (.node (hd.o271 P) .nil .nil)) (.node (hd.o43 P) (.node (hd.o239 P) .nil .nil) (.node (hd.o44 P) .nil .nil))))))))
noncomputable def hd.heap_46 (P : Params) : Heap := ⟨⟨[(boot_o_0 P), (boot_o_1 P), (boot_o_2 P), (boot_o_3 P), (boot_o_4 P), (boot_o_5 P), (boot_o_6 P), (boot_o_7 P), (boot_o_8 P), (boot_o_9 P), (boot_o_10 P), (hd.o43 P), (hd.o44 P), (hd.o45 P), (hd.o46 P)]⟩, ⟨[], [], [], 0, [], [], false, #[], [], 0, false, false, false, 0, [2000, 10, 10], false, 0, true, [], [], 0, false⟩⟩
end

noncomputable def hd.env : Env := { scope := PySem.Challenge.pw_pq0932_01.main.scope, locals := mainNs, globals := mainNs, cells := [], code := .ref 13, frame := some 14 }
noncomputable def hd.cE : Code := .body (behindTheImports PySem.Challenge.pw_pq0932_01) hd.env
noncomputable def hd.sh (t : BT) (n tk : Nat) (os : OsState) : SharedT := ⟨t, n, {}, #[], {}, tk, os⟩
/-- the statements that are left -/
noncomputable def hd.s0 : List Stmt := behindTheImports PySem.Challenge.pw_pq0932_01
noncomputable def hd.s1 : List Stmt := hd.s0.drop 3
noncomputable def hd.s2 : List Stmt := hd.s1.drop 9
noncomputable def hd.s3 : List Stmt := hd.s2.drop 5
noncomputable def hd.s4 : List Stmt := hd.s3.drop 5
theorem hd.ra (w : World) (os : OsState) : topGo treeTable PySem.Challenge.pw_pq0932_01 w 11 (some (.ref 6)) 12 ⟨boot_heap w.params, Array.mk [], boot_drawn, boot_toks, os⟩ (topStub PySem.Challenge.pw_pq0932_01) = some (⟨hd.heap_46 w.params, #[], {}, 187, os⟩, ⟨denote treeTable hd.cE, hd.cE, ⟨0, 0, 0, 0⟩, [topFrame ⟨0, 0, 0, 0⟩]⟩) := by
  kernel_rfl
theorem hd.rb (w : World) (os : OsState) : segRun treeTable PySem.Challenge.pw_pq0932_01 w 11 (some (.ref 6)) 1 1 ⟨hd.heap_46 w.params, #[], {}, 187, os⟩ (blockOf (behindTheImports PySem.Challenge.pw_pq0932_01) hd.env hd.cE ⟨0, 0, 0, 0⟩ [topFrame ⟨0, 0, 0, 0⟩]) = some (.next, (hd.sh (hd.tree_47 w.params) 15 187 os).abs, hd.cE, ⟨0, 0, 0, 0⟩) := by
  rw [PySem.W.Fast.te14364793385576792824, PySem.W.Fast.te14374325043358763698]
  kernel_rfl
theorem hd.r0 (w : World) (os : OsState) : segRunT treeTable PySem.Challenge.pw_pq0932_01 w 11 (some (.ref 6)) 1 400 (hd.sh (hd.tree_47 w.params) 15 187 os) (piecesOf (hd.s0.take 3) hd.env hd.cE ⟨0, 0, 0, 0⟩ [topFrame ⟨0, 0, 0, 0⟩]) = some (.next, (hd.sh (hd.tree_86 w.params) 50 236 os), hd.cE, ⟨5, 0, 13, 16⟩) := by
  rw [PySem.W.Fast.te14364793385576792824, PySem.W.Fast.te10110043849684766642]
  kernel_rfl
theorem hd.r1 (w : World) (os : OsState) : segRunT treeTable PySem.Challenge.pw_pq0932_01 w 11 (some (.ref 6)) 1 600 (hd.sh (hd.tree_86 w.params) 50 236 os) (piecesOf (hd.s1.take 9) hd.env hd.cE ⟨5, 0, 13, 16⟩ [topFrame ⟨0, 0, 0, 0⟩]) = some (.next, (hd.sh (hd.tree_121 w.params) 79 286 os), hd.cE, ⟨28, 0, 28, 11⟩) := by
  rw [PySem.W.Fast.te14364793385576792824, PySem.W.Fast.te10110043849684766642]
  kernel_rfl
theorem hd.r2 (w : World) (os : OsState) : segRunT treeTable PySem.Challenge.pw_pq0932_01 w 11 (some (.ref 6)) 1 500 (hd.sh (hd.tree_121 w.params) 79 286 os) (piecesOf (hd.s2.take 5) hd.env hd.cE ⟨28, 0, 28, 11⟩ [topFrame ⟨0, 0, 0, 0⟩]) = some (.next, (hd.sh (hd.tree_175 w.params) 131 354 os), hd.cE, ⟨52, 0, 65, 38⟩) := by
  rw [PySem.W.Fast.te14364793385576792824, PySem.W.Fast.te10110043849684766642]
  kernel_rfl
theorem hd.r3 (w : World) (os : OsState) : segRunT treeTable PySem.Challenge.pw_pq0932_01 w 11 (some (.ref 6)) 1 500 (hd.sh (hd.tree_175 w.params) 131 354 os) (piecesOf (hd.s3.take 5) hd.env hd.cE ⟨52, 0, 65, 38⟩ [topFrame ⟨0, 0, 0, 0⟩]) = some (.next, (hd.sh (hd.tree_233 w.params) 187 432 os), hd.cE, ⟨127, 0, 127, 8⟩) := by
  rw [PySem.W.Fast.te14364793385576792824, PySem.W.Fast.te10110043849684766642]
  kernel_rfl
theorem hd.r4 (w : World) (os : OsState) : segRunT treeTable PySem.Challenge.pw_pq0932_01 w 11 (some (.ref 6)) 1 500 (hd.sh (hd.tree_233 w.params) 187 432 os) (piecesOf hd.s4 hd.env hd.cE ⟨127, 0, 127, 8⟩ [topFrame ⟨0, 0, 0, 0⟩]) = some (.next, (hd.sh (hd.tree_322 w.params) 272 552 os), hd.cE, ⟨231, 0, 249, 97⟩) := by
  rw [PySem.W.Fast.te14364793385576792824, PySem.W.Fast.te10110043849684766642]
  kernel_rfl
theorem hd.rz (w : World) (os : OsState) : topRun treeTable PySem.Challenge.pw_pq0932_01 w 11 (some (.ref 6)) 1573 (hd.sh (hd.tree_322 w.params) 272 552 os).abs ⟨doneF .next, hd.cE, ⟨231, 0, 249, 97⟩, [topFrame ⟨0, 0, 0, 0⟩]⟩ = some (hd.sh (hd.tree_322 w.params) 272 552 os).abs := by
  rw [PySem.W.Fast.te14364793385576792824, PySem.W.Fast.te14082659384304107361]
  kernel_rfl
noncomputable def hd.end (w : World) (os : OsState) : Shared := (hd.sh (hd.tree_322 w.params) 272 552 os).abs
theorem hd.run (w : World) (os : OsState) : topRun treeTable PySem.Challenge.pw_pq0932_01 w 11 (some (.ref 6)) 4086 ⟨boot_heap w.params, Array.mk [], boot_drawn, boot_toks, os⟩ (topStub PySem.Challenge.pw_pq0932_01) = some (hd.end w os) := by
  refine go_top (n := 12) (N := 4074) (hd.ra w os) (piece_block (n := 1) (N := 4073) (hd.rb w os) ?_)
  show topRun _ _ _ _ _ _ _ (restOf hd.s0 _ _ _ _) = _
  rw [← List.take_append_drop 3 hd.s0]
  refine piece_app (n := 400) (N := 3673) (segRun_of (hd.r0 w os)) ?_
  show topRun _ _ _ _ _ _ _ (restOf hd.s1 _ _ _ _) = _
  rw [← List.take_append_drop 9 hd.s1]
  refine piece_app (n := 600) (N := 3073) (segRun_of (hd.r1 w os)) ?_
  show topRun _ _ _ _ _ _ _ (restOf hd.s2 _ _ _ _) = _
  rw [← List.take_append_drop 5 hd.s2]
  refine piece_app (n := 500) (N := 2573) (segRun_of (hd.r2 w os)) ?_
  show topRun _ _ _ _ _ _ _ (restOf hd.s3 _ _ _ _) = _
  rw [← List.take_append_drop 5 hd.s3]
  refine piece_app (n := 500) (N := 2073) (segRun_of (hd.r3 w os)) ?_
  show topRun _ _ _ _ _ _ _ (restOf hd.s4 _ _ _ _) = _
  rw [← List.append_nil hd.s4]
  exact piece_app (n := 500) (N := 1573) (segRun_of (hd.r4 w os)) (piece_nil (hd.rz w os))
theorem hd.f1 (w : World) : ((boot_heap w.params).isNs mainGlobals && (Array.mk [] : Array GenState).size == 0) = true := by kernel_rfl
theorem hd.f2 (w : World) : (boot_heap w.params).objs.size = 11 := by kernel_rfl
theorem hd.f3 (w : World) : (boot_heap w.params).nsMap mainGlobals "__annotations__" = some (.ref 6) := by kernel_rfl
theorem hd.chk (w : World) (os : OsState) : (staticsOk (importedModules PySem.Challenge.pw_pq0932_01.main.body) (boot_heap w.params) (hd.end w os).heap && namesBound PySem.Challenge.pw_pq0932_01 (hd.end w os).heap && gensDone (hd.end w os) && laidKept (boot_heap w.params) (hd.end w os).heap) = true := by
  rw [PySem.W.Fast.te5923862056798008813]
  kernel_rfl
theorem hd.seen0 (w : World) (os : OsState) : seen ((recsOf hd.view).map (·.name)) (ownsOf hd.view) [] { (hd.end w os) with gens := #[] } = expectedOf hd.view := by
  rw [PySem.W.Fast.te5160383126252970620]
  rw [PySem.W.Fast.te3399658132070893891]
  rw [PySem.W.Fast.te5991557255702980513]
  kernel_rfl
theorem hd.seen1 (w : World) (os : OsState) : (hd.end w os).heap.bltView = bltViewBooted := by
  kernel_rfl
theorem hd.seen2 (w : World) (os : OsState) : ((hd.end w os).heap.keysOk (looseW hd.view [Str.ofString "PostError"]) ((recsOf hd.view).map (·.name)) ((litsOf hd.view).map (·.1)) ((clssOf hd.view (looseW hd.view [Str.ofString "PostError"])).map (·.name)) && (hd.end w os).heap.accountedOkI (importedModules PySem.Challenge.pw_pq0932_01.main.body) && (hd.end w os).heap.isNs mainGlobals && (hd.end w os).heap.isNs builtinsNs && tablesOk hd.view (hd.end w os).heap && true && (if true then (hd.end w os).gens.size == 0 else !leftWithCleanup (hd.end w os).gens)) = true := by
  rw [PySem.W.Fast.te10880121769531294198]
  rw [PySem.W.Fast.te821141287760084731]
  rw [PySem.W.Fast.te3399658132070893891]
  rw [PySem.W.Fast.te7409074990110511671]
  rw [PySem.W.Fast.te13664370479719496447]
  rw [PySem.W.Fast.te14722251495701143533]
  rw [PySem.W.Fast.te10994771534591457954]
  rw [PySem.W.Fast.te5923862056798008813]
  kernel_rfl
theorem hd.seen3 (w : World) (os : OsState) : tabsOk hd.view (hd.end w os) = true := by
  rw [PySem.W.Fast.te479339242167458305]
  kernel_rfl
theorem hd.seen4 (w : World) (os : OsState) : pinSeenD hd.view (drecsOf hd.view) (hd.end w os) = pinGoodD (drecsOf hd.view) := by
  rw [PySem.W.Fast.te16090120013241838585]
  rw [PySem.W.Fast.te3247288618530077131]
  kernel_rfl
theorem hd.seen5 (w : World) (os : OsState) : plainSeenE hd.view (looseW hd.view [Str.ofString "PostError"]) (hd.end w os) = plainGoodE hd.view (looseW hd.view [Str.ofString "PostError"]) := by
  rw [PySem.W.Fast.te2386780881361962483]
  rw [PySem.W.Fast.te821141287760084731]
  kernel_rfl
theorem hd.seen6 (w : World) (os : OsState) : plainSeenD hd.view [Str.ofString "PostError"] (hd.end w os) = plainGoodD hd.view [Str.ofString "PostError"] := by
  rw [PySem.W.Fast.te11698064438423848299]
  kernel_rfl
theorem hd.seen7 (w : World) (os : OsState) : wideSeen hd.view (hd.end w os) = wideGood hd.view := by
  rw [PySem.W.Fast.te7317090234206586261]
  kernel_rfl
theorem hd.seen8 (w : World) (os : OsState) : clsSeenW hd.view [Str.ofString "PostError"] (hd.end w os) = clsGoodW hd.view [Str.ofString "PostError"] := by
  rw [PySem.W.Fast.te7369524293546568484]
  kernel_rfl
theorem hd.seen (w : World) (os : OsState) : openSeen hd.view [Str.ofString "PostError"] (importedModules PySem.Challenge.pw_pq0932_01.main.body) (fun _ => true) true (hd.end w os) = openGood hd.view [Str.ofString "PostError"] := by
  unfold openSeen openGood
  exact congr (congrArg Prod.mk (hd.seen0 w os)) (congr (congrArg Prod.mk (hd.seen1 w os)) (congr (congrArg Prod.mk (hd.seen2 w os)) (congr (congrArg Prod.mk (hd.seen3 w os)) (congr (congrArg Prod.mk (hd.seen4 w os)) (congr (congrArg Prod.mk (hd.seen5 w os)) (congr (congrArg Prod.mk (hd.seen6 w os)) (congr (congrArg Prod.mk (hd.seen7 w os)) (hd.seen8 w os))))))))
theorem hd.got (w : World) (os : OsState) : hd.as.map (hd.end w os).heap.get? = (hd.heap_39 w.params).map fun p => some p.2 := by kernel_rfl
theorem hd.ran (w : World) (os : OsState) : (topFrom treeTable PySem.Challenge.pw_pq0932_01 w 4086 ⟨boot_heap w.params, Array.mk [], boot_drawn, boot_toks, os⟩).map (fun s => (openSeen hd.view [Str.ofString "PostError"] (importedModules PySem.Challenge.pw_pq0932_01.main.body) (fun _ => true) true s, hd.as.map s.heap.get?)) =
    some (openGood hd.view [Str.ofString "PostError"], (hd.heap_39 w.params).map fun p => some p.2) := by
  unfold topFrom
  dsimp only
  rw [hd.f1, hd.f2, hd.f3, hd.run w os]
  dsimp only
  rw [Option.bind_some, hd.chk w os]
  dsimp only
  rw [Option.map_some, hd.seen w os, hd.got w os]
theorem hd.op : opening PySem.Challenge.pw_pq0932_01 = plainProg PySem.Challenge.pw_pq0932_01.main.scope.names := by kernel_rfl
theorem hd.fence (s : Shared) : fenceModules? PySem.Challenge.pw_pq0932_01 s = some s := by kernel_rfl
theorem hd.left : LeftO PySem.Challenge.rw_pq0932_01.row.prog hd.view [Str.ofString "PostError"] (fun _ => true) (fun s => hd.as.map s.heap.get?) (fun w => (hd.heap_39 w.params).map fun p => some p.2) 4086 := by
  intro w
  obtain ⟨s, hs, e⟩ := Option.map_eq_some_iff.mp (boot_open (p := PySem.Challenge.pw_pq0932_01) (N := 4086) hd.op rfl hd.fence w)
  obtain ⟨hp, gs, dr, tk, os⟩ := s
  simp only [Prod.mk.injEq] at e
  obtain ⟨rfl, rfl, rfl, rfl⟩ := e
  have h2 := hd.ran w os
  show (openEnds treeTable PySem.Challenge.pw_pq0932_01 w 4086).map _ = _
  unfold openEnds
  rw [hs, Option.bind_some]
  exact h2
noncomputable def hd.law : DefRec := match hd.st 35 with
  | .FunctionDef n a b _ _ _ sc _ _ p => ⟨n, a, b, sc, p⟩
  | s => ⟨"", default, [s], default, default⟩
theorem hd.prom : PySem.Challenge.rw_pq0932_01.row.toRowW.promised := by w_witness2
theorem hd.wits : (chainsOk hd.view && opensWell PySem.Challenge.pw_pq0932_01 && (frees PySem.Challenge.rw_pq0932_01.row.toRowW && PySem.Challenge.rw_pq0932_01.row.toRowW.within.isEmpty)) = true := by kernel_rfl
theorem hd.bare : PySem.Challenge.pw_pq0932_01.bare := ⟨rfl, rfl, rfl, rfl, rfl, by kernel_rfl⟩
theorem hd.found : defOf hd.view (Str.ofString "law") = some (hd.law, []) := by kernel_rfl
theorem hd.body : PySem.Challenge.pw_pq0932_01.theDef (Str.ofString "law") = some (hd.law.params, hd.law.body, hd.law.scope) := by kernel_rfl
theorem hd (call : WalkO hd.view [Str.ofString "PostError"] (fun _ _ => True) (fun w h => (hd.heap_39 w.params).In h) PySem.Challenge.rw_pq0932_01.row.toRowW hd.law [] fun f vs => PySem.call f vs) : PySem.Challenge.rw_pq0932_01.Holds := by
  refine holds_law hd.said fun said => ?_
  exact PySem.W.holds_open (r := PySem.Challenge.rw_pq0932_01.row) (q := hd.view) (loose := [Str.ofString "PostError"]) (Xt := fun _ => true) (XP := fun _ _ => True) (Yf := fun s => hd.as.map s.heap.get?) (Ya := fun w => (hd.heap_39 w.params).map fun p => some p.2) (N := 4086) hd.left
    (fun w s e => Frag.in_of (as := hd.as) (by kernel_rfl) e) (fun w h h' X k => X.keeps k) (fun _ _ => trivial) (fun _ _ _ _ _ => trivial) hd.found hd.body (by kernel_rfl) (fun _ _ => recFacts_nil rfl) rfl said hd.wits hd.bare hd.prom call
end Mine

end

section
open PySem PySem.W PyProof.Rows PySem.Spec PySem.Calls
set_option Elab.async false
set_option maxRecDepth 100000
set_option linter.unusedVariables false
namespace Mine

/-- values without tokens -/
inductive V where
  | none | bool (b : Bool) | int (i : Int) | str (s : List Nat) | bytes (b : List Nat) | ref (a : Addr) | type (n : String) | builtin (n : String) | other

noncomputable def er : Value → V
  | .none => .none
  | .bool b => .bool b
  | .int i _ => .int i
  | .str s _ => .str s.cps.toList
  | .bytes b _ => .bytes (b.toList.map UInt8.toNat)
  | .ref a => .ref a
  | .type n => .type n
  | .builtin n => .builtin n
  | _ => .other

theorem er_none {v : Value} (h : er v = .none) : v = .none := by cases v <;> simp_all [er]
theorem er_bool {v : Value} {b} (h : er v = .bool b) : v = .bool b := by cases v <;> simp_all [er]
theorem er_int {v : Value} {i} (h : er v = .int i) : ∃ t, v = .int i t := by cases v <;> simp_all [er]
theorem er_str {v : Value} {l} (h : er v = .str l) : ∃ t, v = .str ⟨l.toArray⟩ t := by
  cases v <;> simp_all [er]
  subst h; rfl
theorem er_bytes {v : Value} {l} (h : er v = .bytes l) : ∃ b t, v = .bytes b t ∧ b.toList.map UInt8.toNat = l := by cases v <;> simp_all [er]
theorem er_ref {v : Value} {a} (h : er v = .ref a) : v = .ref a := by cases v <;> simp_all [er]
theorem er_type {v : Value} {a} (h : er v = .type a) : v = .type a := by cases v <;> simp_all [er]
theorem er_builtin {v : Value} {a} (h : er v = .builtin a) : v = .builtin a := by cases v <;> simp_all [er]

/-- objects without tokens -/
inductive AO where
  | list (xs : List V)
  | tuple (xs : List V)
  | dict (kv : List (String × V))
  | ns (kv : List (String × V))
  | inst (C : Addr) (d : Addr)
  | exc (C : Addr) (d : Option Addr) (t : Addr)
  | cell (v : Option V)

noncomputable abbrev AH := Addr → Option AO

/-- a record with names for keys -/
noncomputable def put : List (String × V) → String → V → List (String × V)
  | [], x, v => [(x, v)]
  | (y, u) :: r, x, v => if y = x then (x, v) :: r else (y, u) :: put r x v

theorem ofString_inj {x y : String} (h : Str.ofString x = Str.ofString y) : x = y := by
  have h1 := congrArg (fun s => s.cps.toList) h
  have h2 : x.toList.map Char.toNat = y.toList.map Char.toNat := by
    have e : ∀ s : String, (Str.ofString s).cps.toList = s.toList.map Char.toNat := fun s => by
      show ((cpsOfBytes 0 0 s.toByteArray.data.toList).toArray).toList = _
      rw [List.toList_toArray, cpsOfBytes_string]
    rw [← e, ← e]; exact h1
  have inj : ∀ {l k : List Char}, l.map Char.toNat = k.map Char.toNat → l = k := by
    intro l
    induction l with
    | nil => intro k hk; cases k with
      | nil => rfl
      | cons _ _ => simp at hk
    | cons a l ih => intro k hk; cases k with
      | nil => simp at hk
      | cons b k =>
        simp only [List.map_cons, List.cons.injEq] at hk
        rw [Char.toNat_inj.mp hk.1, ih hk.2]
  exact String.toList_inj.mp (inj h2)

noncomputable abbrev SK (w : World) := PySem.strKind PySem.Challenge.pw_pq0932_01 w

inductive NsAre : List DictEntry → List (String × V) → Prop
  | nil : NsAre [] []
  | cons {e p es kv} : (∃ t, e.key = .str (Str.ofString p.1) t) → er e.val = p.2 → NsAre es kv → NsAre (e :: es) (p :: kv)

noncomputable def Rl (w : World) (o : AO) (x : Obj) : Prop :=
  match o with
  | .list xs => ∃ (vs : List Value) (n : Nat), x = { cls := .type "list", data := .seq vs.toArray n } ∧ vs.map er = xs ∧ vs.length ≤ sizeLine
  | .tuple xs => ∃ (vs : List Value) (n : Nat), x = { cls := .type "tuple", data := .seq vs.toArray n } ∧ vs.map er = xs ∧ vs.length ≤ sizeLine
  | .dict kv => ∃ kvs, x.IsDictOf (SK w) kvs ∧ kvs.map (fun p => (p.1, er p.2)) = kv.map (fun p => (Str.ofString p.1, p.2))
  | .ns kv => ∃ (es : List DictEntry) (n : Nat), x = dictOf es n ∧ NsAre es kv ∧ kv.length ≤ 100
  | .inst C d => x = instObj C d
  | .exc C d t => x = { cls := .ref C, dict := d, data := .fields #[.ref t, .none, .none, .none, .bool false, .none] }
  | .cell v => ∃ rv, x.data = .cell rv ∧ rv.map er = v

noncomputable def upd (σ : AH) (a : Addr) (o : AO) : AH := fun b => if b = a then some o else σ b
@[simp] theorem upd_same (σ : AH) (a o) : upd σ a o a = some o := by simp [upd]
theorem upd_ne (σ : AH) {a b : Addr} (o) (h : b ≠ a) : upd σ a o b = σ b := by simp [upd, h]

noncomputable def Gnd (w : World) (g : Heap) : Prop :=
  (hd.heap_39 w.params).In g ∧ ∃ p loose mean mg mb, Top p loose mean mg mb g

theorem Gnd.keeps {w : World} {g h : Heap} (G : Gnd w g) (k : ∀ b o, g.get? b = some o → h.get? b = some o) : Gnd w h := by
  obtain ⟨K, p, l, me, mg, mb, T⟩ := G
  exact ⟨K.keeps k, p, l, me, mg, mb, T.keeps k⟩

/-- what stands: exactly (g); the frames of those who wait, but for their slots (f) -/
structure Gr where
  g : Heap
  f : Heap

/-- the state without a frame -/
structure S0 (w : World) (g : Gr) (s0 : Shared) (σ : AH) (s : Shared) : Prop where
  rep : ∀ a o, σ a = some o → ∃ x, s.heap.get? a = some x ∧ Rl w o x
  keep : ∀ a x, g.g.get? a = some x → s.heap.get? a = some x
  out : ∀ a x, g.g.get? a = some x → σ a = none
  slot : ∀ a x, g.f.get? a = some x → ∃ sl, s.heap.get? a = some { x with slots := sl }
  outf : ∀ a x, g.f.get? a = some x → σ a = none
  same : ∃ h tk, s = { s0 with heap := h, toks := tk }

theorem get?_isSome_lt {h : Heap} {a : Addr} {x : Obj} (e : h.get? a = some x) : a < h.objs.size := Heap.lt_size e

theorem S0.fresh {w g s0 σ s} (S : S0 w g s0 σ s) {a : Addr} (h : s.heap.objs.size ≤ a) : σ a = none := by
  cases e : σ a with
  | none => rfl
  | some o =>
    obtain ⟨x, hx, _⟩ := S.rep a o e
    exact absurd (Heap.lt_size hx) (Nat.not_lt.mpr h)

/-- a step of the abstract state -/
structure Tr (w : World) (σ σ' : AH) (h h' : Heap) : Prop where
  keep : ∀ b x, σ b = none → h.get? b = some x → h'.get? b = some x
  rep : ∀ a o, σ' a = some o → ∃ x, h'.get? a = some x ∧ Rl w o x
  new : ∀ a, σ' a ≠ none → σ a ≠ none ∨ h.get? a = none

theorem S0.go {w g s0 σ σ' s h' tk} (S : S0 w g s0 σ s) (T : Tr w σ σ' s.heap h') : S0 w g s0 σ' { s with heap := h', toks := tk } := by
  refine ⟨T.rep, fun a x e => T.keep a x (S.out a x e) (S.keep a x e), fun a x e => ?_, fun a x e => ?_, fun a x e => ?_, ?_⟩
  · cases e' : σ' a with
    | none => rfl
    | some o =>
      rcases T.new a (by rw [e']; simp) with q | q
      · exact absurd (S.out a x e) q
      · rw [S.keep a x e] at q; cases q
  · obtain ⟨sl, e'⟩ := S.slot a x e
    exact ⟨sl, T.keep a _ (S.outf a x e) e'⟩
  · cases e' : σ' a with
    | none => rfl
    | some o =>
      rcases T.new a (by rw [e']; simp) with q | q
      · exact absurd (S.outf a x e) q
      · obtain ⟨sl, e₂⟩ := S.slot a x e
        rw [e₂] at q; cases q
  · obtain ⟨h, tk, rfl⟩ := S.same
    exact ⟨h', _, rfl⟩

inductive At : List String → List (Option V) → String → V → Prop
  | head {x ns v m} : At (x :: ns) (some v :: m) x v
  | tail {x y ns u v m} : At ns m x v → At (y :: ns) (u :: m) x v
inductive Put : List String → List (Option V) → String → V → List (Option V) → Prop
  | head {x ns u v m} : Put (x :: ns) (u :: m) x v (some v :: m)
  | tail {x y ns u v m m'} : Put ns m x v m' → Put (y :: ns) (u :: m) x v (u :: m')

theorem At.mem {ns m x v} (h : At ns m x v) : x ∈ ns := by
  induction h with
  | head => exact .head _
  | tail _ ih => exact .tail _ ih
theorem Put.mem {ns m x v m'} (h : Put ns m x v m') : x ∈ ns := by
  induction h with
  | head => exact .head _
  | tail _ ih => exact .tail _ ih
theorem Put.at_ne {ns m x v m' y u} (h : Put ns m x v m') (hn : (ns.map Str.ofString).Nodup) (ha : At ns m' y u) : (y = x ∧ u = v) ∨ (Str.ofString y ≠ Str.ofString x ∧ At ns m y u) := by
  induction h with
  | head =>
    rw [List.map_cons, List.nodup_cons] at hn
    cases ha with
    | head => exact .inl ⟨rfl, rfl⟩
    | tail q => exact .inr ⟨fun e => hn.1 (e ▸ List.mem_map_of_mem q.mem), .tail q⟩
  | tail p ih =>
    rw [List.map_cons, List.nodup_cons] at hn
    cases ha with
    | head => exact .inr ⟨fun e => hn.1 (e ▸ List.mem_map_of_mem p.mem), .head⟩
    | tail q =>
      rcases ih hn.2 q with h | ⟨h1, h2⟩
      · exact .inl h
      · exact .inr ⟨h1, .tail h2⟩

noncomputable def LocOk (ns : List String) (m : List (Option V)) (mr : Str → Option Value) : Prop :=
  ∀ x v, At ns m x v → ∃ rv, mr (Str.ofString x) = some rv ∧ er rv = v

theorem LocOk.put {ns m x v m' mr} {rv : Value} (h : LocOk ns m mr) (p : Put ns m x v m') (hn : (ns.map Str.ofString).Nodup) (hv : er rv = v) :
    LocOk ns m' (fun y => if y = Str.ofString x then some rv else mr y) := by
  intro y u ha
  rcases p.at_ne hn ha with ⟨rfl, rfl⟩ | ⟨h1, h2⟩
  · exact ⟨rv, by simp, hv⟩
  · obtain ⟨r, h3, h4⟩ := h y u h2
    exact ⟨r, by simp [h1, h3], h4⟩

noncomputable def Room (k : Nat) (A : Around) : Prop := A.depth + 4 * k + 8 < recursionLimit ∧ A.units + 20 * k + 100 < cLine

/-- a fault that stands -/
noncomputable def DictAt (e d : Addr) (h : Heap) : Prop := ∃ o vs, h.get? e = some o ∧ o.cls = .ref 71 ∧ o.dict = some d ∧ o.data = .fields vs ∧ vs[2]? = some .none
/-- nothing is being handled, or a fault that stands -/
noncomputable def HandOk (h : Bool) (A : Around) (g : Heap) : Prop := A.handled = none ∨ (h = false ∧ ∃ e d, A.handled = some (.ref e) ∧ DictAt e d g)
theorem HandOk.more {h k A g g'} (H : HandOk h A g) (hk : k = true → h = true) (m : ∀ a x, g.get? a = some x → g'.get? a = some x) : HandOk k A g' := by
  rcases H with e | ⟨rfl, e, d, h1, o, vs, h2, h3⟩
  · exact .inl e
  · refine .inr ⟨?_, e, d, h1, o, vs, m _ _ h2, h3⟩
    cases k with
    | false => rfl
    | true => cases hk rfl

/-- the frames of those who wait -/
noncomputable def FrOk (gr : Gr) (l : List Env) : Prop :=
  (∀ env ∈ l, env.scope.kind ≠ .module ∧ ∃ L o, env.frame = some L ∧ gr.f.get? L = some o) ∧ ∀ a o, gr.f.get? a = some o → gr.g.get? a = none ∧ ∀ vs, o.data ≠ .fields vs

/-- a frame at work -/
structure Fx where
  w : World
  g : Gr
  s0 : Shared
  A : Around
  env : Env
  ns : List String
  gs : List String
  lvl : Nat
  h : Bool
  l : List Env
  fr : Bool

structure Fx.Ok (c : Fx) : Prop where
  gnd : Gnd c.w c.g.g
  stack : c.fr = true → c.A.frames = some (c.env :: c.l)
  frs : FrOk c.g c.l
  frame : c.fr = true → c.env.frame = some c.env.locals
  notF : c.g.f.get? c.env.locals = none
  kind : c.env.scope.kind = .function
  glob : c.env.globals = mainGlobals
  blt : c.env.builtins = builtinsNs
  loc : ∀ x ∈ c.ns, c.env.kindOf (Str.ofString x) = some .local
  glo : ∀ x ∈ c.gs, c.env.kindOf (Str.ofString x) = some .globalImplicit
  nodup : (c.ns.map Str.ofString).Nodup
  notL : c.g.g.get? c.env.locals = none
  room : Room c.lvl c.A
  dbg : ∀ x ∈ c.ns ++ c.gs, (Str.ofString x == ("__debug__" : Str)) = false
  hand : HandOk c.h c.A c.g.g

theorem Fx.Ok.hnd {c : Fx} (ok : c.Ok) (hh : c.h = true) : c.A.handled = none := by
  rcases ok.hand with e | ⟨h, _⟩
  · exact e
  · rw [hh] at h; cases h

noncomputable abbrev Fx.M (c : Fx) : Model := model PySem.Challenge.pw_pq0932_01 c.w

structure St (c : Fx) (m : List (Option V)) (σ : AH) (s : Shared) : Prop where
  st : S0 c.w c.g c.s0 σ s
  loc : ∃ mr, s.heap.Ns c.env.locals mr ∧ LocOk c.ns m mr
  outL : σ c.env.locals = none

theorem Ns.at_get {h h' : Heap} {L : Addr} {mr : Str → Option Value} (n : h.Ns L mr) (k : ∀ o, h.get? L = some o → h'.get? L = some o) : h'.Ns L mr := by
  obtain ⟨o, es, ep, e, r⟩ := n
  exact ⟨o, es, ep, k o e, r⟩

theorem St.go {c m σ σ' s h' tk} (S : St c m σ s) (T : Tr c.w σ σ' s.heap h') : St c m σ' { s with heap := h', toks := tk } := by
  obtain ⟨mr, hn, hl⟩ := S.loc
  refine ⟨S.st.go T, ⟨mr, Ns.at_get hn fun o e => T.keep _ _ S.outL e, hl⟩, ?_⟩
  cases e : σ' c.env.locals with
  | none => rfl
  | some o =>
    rcases T.new _ (by rw [e]; simp) with q | q
    · exact absurd S.outL q
    · obtain ⟨o', _, _, e', _⟩ := hn
      rw [e'] at q; cases q

theorem St.tok {c m σ s tk} (S : St c m σ s) : St c m σ { s with toks := tk } :=
  St.go S ⟨fun _ _ _ e => e, S.st.rep, fun _ h => .inl h⟩

theorem St.id {c m σ s} (S : St c m σ s) : St c m σ s := S

/-- a tree of values -/
noncomputable def AV (c : Fx) (t : Sem Value) (m : List (Option V)) (σ : AH) (Q : V → AH → Prop) (E : Value → Shared → Prop) : Prop :=
  c.Ok → ∀ s, St c m σ s → wpAny c.M c.A t (fun v s' => ∃ σ', St c m σ' s' ∧ Q (er v) σ') E s
noncomputable def AB (c : Fx) (t : Sem Bool) (m : List (Option V)) (σ : AH) (Q : Bool → AH → Prop) (E : Value → Shared → Prop) : Prop :=
  c.Ok → ∀ s, St c m σ s → wpAny c.M c.A t (fun v s' => ∃ σ', St c m σ' s' ∧ Q v σ') E s
noncomputable def AU (c : Fx) (t : Sem Unit) (m : List (Option V)) (σ : AH) (Q : List (Option V) → AH → Prop) (E : Value → Shared → Prop) : Prop :=
  c.Ok → ∀ s, St c m σ s → wpAny c.M c.A t (fun _ s' => ∃ m' σ', St c m' σ' s' ∧ Q m' σ') E s
noncomputable def AL (c : Fx) (t : Sem (List Value)) (m : List (Option V)) (σ : AH) (Q : List V → AH → Prop) (E : Value → Shared → Prop) : Prop :=
  c.Ok → ∀ s, St c m σ s → wpAny c.M c.A t (fun v s' => ∃ σ', St c m σ' s' ∧ Q (v.map er) σ') E s

inductive FL where
  | next | brk | cont | ret (v : V)
noncomputable def erF : Flow → FL
  | .next => .next | .brk => .brk | .cont => .cont | .ret v => .ret (er v)
noncomputable def AF (c : Fx) (t : Sem Flow) (m : List (Option V)) (σ : AH) (Q : FL → List (Option V) → AH → Prop) (E : Value → Shared → Prop) : Prop :=
  c.Ok → ∀ s, St c m σ s → wpAny c.M c.A t (fun f s' => ∃ m' σ', St c m' σ' s' ∧ Q (erF f) m' σ') E s

/-- by what the words say -/
noncomputable abbrev AE (c : Fx) (e : Expr) := AV c (eval e c.env)
noncomputable abbrev AT (c : Fx) (e : Expr) := AB c (isTrue e c.env (eval e c.env))
noncomputable abbrev AX (c : Fx) (ss : List Stmt) := AF c (execs ss c.env)
noncomputable abbrev AX1 (c : Fx) (ss : Stmt) := AF c (exec ss c.env)

/-- operations on values: for all real ones -/
noncomputable def O1 (c : Fx) (f : Value → Sem Value) (u : V) (m : List (Option V)) (σ : AH) (Q : V → AH → Prop) (E : Value → Shared → Prop) : Prop := ∀ a, er a = u → AV c (f a) m σ Q E
noncomputable def O2 (c : Fx) (f : Value → Value → Sem Value) (u v : V) (m : List (Option V)) (σ : AH) (Q : V → AH → Prop) (E : Value → Shared → Prop) : Prop := ∀ a b, er a = u → er b = v → AV c (f a b) m σ Q E
noncomputable def OL (c : Fx) (f : List Value → Sem Value) (us : List V) (m : List (Option V)) (σ : AH) (Q : V → AH → Prop) (E : Value → Shared → Prop) : Prop := ∀ vs, vs.map er = us → AV c (f vs) m σ Q E
noncomputable def OT (c : Fx) (u : V) (m : List (Option V)) (σ : AH) (Q : Bool → AH → Prop) (E : Value → Shared → Prop) : Prop := ∀ a, er a = u → AB c (truthy a) m σ Q E

section
variable {c : Fx} {m : List (Option V)} {σ : AH} {E : Value → Shared → Prop}

theorem AV.mono {t : Sem Value} {Q Q' : V → AH → Prop} (h : AV c t m σ Q E) (k : ∀ v σ, Q v σ → Q' v σ) : AV c t m σ Q' E :=
  fun ok s hs => wpAny_mono (h ok s hs) (fun _ _ ⟨σ', a, b⟩ => ⟨σ', a, k _ _ b⟩) fun _ _ e => e

theorem ae_int {i : Int} {k p} {Q} (h : Q (.int i) σ) : AE c (.Constant (.int i) k p) m σ Q E :=
  fun _ s hs => wpAny_Constant_int ⟨σ, hs.tok, h⟩
theorem ae_str {x : Str} {k p} {Q} (h : Q (.str x.cps.toList) σ) : AE c (.Constant (.str x) k p) m σ Q E :=
  fun _ s hs => wpAny_Constant_str ⟨σ, hs.tok, h⟩
theorem ae_none {k p} {Q} (h : Q .none σ) : AE c (.Constant .none k p) m σ Q E :=
  fun _ s hs => Constant_none ⟨σ, hs, h⟩
theorem ae_bytes {x k p} {Q} (h : Q (.bytes (x.map UInt8.toNat)) σ) : AE c (.Constant (.bytes x) k p) m σ Q E :=
  fun _ s hs => Constant_bytes ⟨σ, hs.tok, by simpa [er] using h⟩

theorem ae_loc {x : String} {p} {v : V} {Q} (ha : At c.ns m x v) (h : Q v σ) :
    AE c (.Name (Str.ofString x) p) m σ Q E := by
  intro ok s hs
  obtain ⟨mr, hn, hl⟩ := hs.loc
  obtain ⟨rv, h1, h2⟩ := hl x v ha
  exact wpAny_Name (wpAny_loadName_local ok.kind (ok.loc x ha.mem) hn h1 ⟨σ, hs, by rw [h2]; exact h⟩) (ok.dbg x (List.mem_append_left _ ha.mem))

@[reducible] noncomputable def K2b (c : Fx) (f : Value → Value → Sem Value) (u : V) (m : List (Option V)) (Q : V → AH → Prop) (E : Value → Shared → Prop) : V → AH → Prop := fun v σ₂ => O2 c f u v m σ₂ Q E
@[reducible] noncomputable def K2 (c : Fx) (f : Value → Value → Sem Value) (r : Expr) (m : List (Option V)) (Q : V → AH → Prop) (E : Value → Shared → Prop) : V → AH → Prop := fun u σ₁ => AE c r m σ₁ (K2b c f u m Q E) E
@[reducible] noncomputable def K1 (c : Fx) (f : Value → Sem Value) (m : List (Option V)) (Q : V → AH → Prop) (E : Value → Shared → Prop) : V → AH → Prop := fun u σ₁ => O1 c f u m σ₁ Q E
@[reducible] noncomputable def KIf (c : Fx) (b o : Expr) (m : List (Option V)) (Q : V → AH → Prop) (E : Value → Shared → Prop) : Bool → AH → Prop := fun k σ₁ => (k = true → AE c b m σ₁ Q E) ∧ (k = false → AE c o m σ₁ Q E)
@[reducible] noncomputable def KT (c : Fx) (m : List (Option V)) (Q : Bool → AH → Prop) (E : Value → Shared → Prop) : V → AH → Prop := fun b σ₃ => OT c b m σ₃ Q E
theorem ae_bin {l op r p} {Q} (h : AE c l m σ (K2 c (binaryOp op) r m Q E) E) : AE c (.BinOp l op r p) m σ Q E :=
  fun ok s hs => wpAny_BinOp (wpAny_mono (h ok s hs) (fun a s₁ ⟨_, h₁, k₁⟩ => wpAny_mono (k₁ ok s₁ h₁) (fun b s₂ ⟨_, h₂, k₂⟩ => k₂ a b rfl rfl ok s₂ h₂) fun _ _ e => e) fun _ _ e => e)
theorem ae_un {op x p} {Q} (h : AE c x m σ (K1 c (unaryOp op) m Q E) E) : AE c (.UnaryOp op x p) m σ Q E :=
  fun ok s hs => UnaryOp_ (wpAny_mono (h ok s hs) (fun a s₁ ⟨_, h₁, k₁⟩ => k₁ a rfl ok s₁ h₁) fun _ _ e => e)
theorem ae_cmp {l op r p} {Q} (hm : behindInMarks op r = false) (h : AE c l m σ (K2 c (compareOp op) r m Q E) E) : AE c (.Compare l [op] [r] p) m σ Q E :=
  fun ok s hs => wpAny_Compare1 (wpAny_mono (h ok s hs) (fun a s₁ ⟨_, h₁, k₁⟩ => wpAny_mono (k₁ ok s₁ h₁) (fun b s₂ ⟨_, h₂, k₂⟩ => k₂ a b rfl rfl ok s₂ h₂) fun _ _ e => e) fun _ _ e => e) hm
theorem ae_ifexp {t b o p} {Q} (h : AT c t m σ (KIf c b o m Q E) E) : AE c (.IfExp t b o p) m σ Q E :=
  fun ok s hs => IfExp_ (wpAny_mono (h ok s hs) (fun k s₁ ⟨_, h₁, k₁⟩ => by
    cases k with
    | true => exact k₁.1 rfl ok s₁ h₁
    | false => exact k₁.2 rfl ok s₁ h₁) fun _ _ e => e)
theorem ae_sub {v i p} {Q} (h : AE c v m σ (K2 c (subscriptTail v i) i m Q E) E) : AE c (.Subscript v i p) m σ Q E :=
  fun ok s hs => Subscript_ (wpAny_mono (h ok s hs) (fun a s₁ ⟨_, h₁, k₁⟩ => wpAny_mono (k₁ ok s₁ h₁) (fun b s₂ ⟨_, h₂, k₂⟩ => k₂ a b rfl rfl ok s₂ h₂) fun _ _ e => e) fun _ _ e => e)

theorem at_cmp {l op r p} {Q} (hm : behindInMarks op r = false) (h : AE c l m σ (K2 c (compareOp op) r m (KT c m Q E) E) E) : AT c (.Compare l [op] [r] p) m σ Q E :=
  fun ok s hs => wpAny_isTrue_Compare1 (wpAny_mono (h ok s hs) (fun a s₁ ⟨_, h₁, k₁⟩ => wpAny_mono (k₁ ok s₁ h₁) (fun b s₂ ⟨_, h₂, k₂⟩ => wpAny_mono (k₂ a b rfl rfl ok s₂ h₂) (fun d s₃ ⟨_, h₃, k₃⟩ => k₃ d rfl ok s₃ h₃) fun _ _ e => e) fun _ _ e => e) fun _ _ e => e) hm
end
end Mine

end

section
open PySem PySem.W PyProof.Rows PySem.Spec PySem.Calls
set_option Elab.async false
set_option maxRecDepth 100000
set_option linter.unusedVariables false
namespace Mine

/-- what stands in the abstract heap is no freed object -/
theorem Rl.free {w o x} (h : Rl w o x) : x.isFreed = false := by
  cases o <;> simp only [Rl] at h
  · obtain ⟨vs, n, rfl, _⟩ := h; rfl
  · obtain ⟨vs, n, rfl, _⟩ := h; rfl
  · obtain ⟨kvs, ⟨es, ep, _, hd, _⟩, _⟩ := h
    obtain ⟨c, d, dt, sl⟩ := x
    dsimp only at hd; subst hd; rfl
  · obtain ⟨es, n, rfl, _⟩ := h; rfl
  · subst h; rfl
  · subst h; rfl
  · obtain ⟨rv, hd, _⟩ := h
    obtain ⟨c, d, dt, sl⟩ := x
    dsimp only at hd; subst hd; rfl

theorem rl_list {w : World} {vs : List Value} {xs : List V} {n : Nat} (h : vs.map er = xs) (hz : vs.length ≤ sizeLine) : Rl w (.list xs) { cls := .type "list", data := .seq vs.toArray n } := ⟨vs, n, rfl, h, hz⟩
theorem rl_tuple {w : World} {vs : List Value} {xs : List V} {n : Nat} (h : vs.map er = xs) (hz : vs.length ≤ sizeLine) : Rl w (.tuple xs) { cls := .type "tuple", data := .seq vs.toArray n } := ⟨vs, n, rfl, h, hz⟩

/-- no object of the abstract heap stands there -/
noncomputable def Fresh (σ : AH) (d : Addr) : Prop := ∀ b o, σ b = some o → b ≠ d
theorem Fresh.none {σ : AH} {d : Addr} (h : Fresh σ d) : σ d = none := by
  cases e : σ d with
  | none => rfl
  | some o => exact absurd rfl (h d o e)

section
variable {c : Fx} {m : List (Option V)} {σ : AH} {E : Value → Shared → Prop} {s : Shared}

theorem St.list (hs : St c m σ s) {a xs} (h : σ a = some (.list xs)) : ∃ (vs : List Value) (n : Nat), s.heap.get? a = some { cls := .type "list", data := .seq vs.toArray n } ∧ vs.map er = xs ∧ vs.length ≤ sizeLine := by
  obtain ⟨x, hx, vs, n, rfl, r⟩ := hs.st.rep a _ h
  exact ⟨vs, n, hx, r⟩
theorem St.tuple (hs : St c m σ s) {a xs} (h : σ a = some (.tuple xs)) : ∃ (vs : List Value) (n : Nat), s.heap.get? a = some { cls := .type "tuple", data := .seq vs.toArray n } ∧ vs.map er = xs ∧ vs.length ≤ sizeLine := by
  obtain ⟨x, hx, vs, n, rfl, r⟩ := hs.st.rep a _ h
  exact ⟨vs, n, hx, r⟩
theorem St.dict (hs : St c m σ s) {a kv} (h : σ a = some (.dict kv)) : ∃ kvs, s.heap.DictOf (SK c.w) a kvs ∧ kvs.map (fun p => (p.1, er p.2)) = kv.map (fun p => (Str.ofString p.1, p.2)) := by
  obtain ⟨x, hx, kvs, ⟨es, ep, r⟩, e⟩ := hs.st.rep a _ h
  exact ⟨kvs, ⟨x, es, ep, hx, r⟩, e⟩
theorem St.nsd (hs : St c m σ s) {a kv} (h : σ a = some (.ns kv)) : ∃ (es : List DictEntry) (n : Nat), s.heap.get? a = some (dictOf es n) ∧ NsAre es kv ∧ kv.length ≤ 100 := by
  obtain ⟨x, hx, es, n, rfl, r⟩ := hs.st.rep a _ h
  exact ⟨es, n, hx, r⟩
theorem St.inst (hs : St c m σ s) {a C d} (h : σ a = some (.inst C d)) : s.heap.get? a = some (instObj C d) := by
  obtain ⟨x, hx, rfl⟩ := hs.st.rep a _ h
  exact hx

/-- a store into an object of the abstract heap -/
theorem St.set (hs : St c m σ s) {a o o' h' x tk} (h : σ a = some o) (hb : Heap.SameBut a s.heap h') (hx : h'.get? a = some x) (hr : Rl c.w o' x) :
    St c m (upd σ a o') { s with heap := h', toks := tk } := by
  refine hs.go ⟨fun b y hb0 e => ?_, fun b o₁ e => ?_, fun b hb0 => ?_⟩
  · have : b ≠ a := fun q => by rw [q, h] at hb0; cases hb0
    rw [hb.2 b this]; exact e
  · by_cases q : b = a
    · subst q; rw [upd_same] at e; cases e; exact ⟨x, hx, hr⟩
    · rw [upd_ne _ _ q] at e
      obtain ⟨y, hy, r⟩ := hs.st.rep b o₁ e
      exact ⟨y, by rw [hb.2 b q]; exact hy, r⟩
  · by_cases q : b = a
    · subst q; left; rw [h]; simp
    · rw [upd_ne _ _ q] at hb0; exact .inl hb0

/-- a new object of the abstract heap -/
theorem St.push (hs : St c m σ s) {o x tk} (hr : Rl c.w o x) :
    St c m (upd σ s.heap.objs.size o) { s with heap := s.heap.push x, toks := tk } := by
  refine hs.go ⟨fun b y hb0 e => Heap.get?_push_of_some _ e, fun b o₁ e => ?_, fun b hb0 => ?_⟩
  · by_cases q : b = s.heap.objs.size
    · subst q; rw [upd_same] at e; cases e; exact ⟨x, Heap.get?_push_size _ hr.free, hr⟩
    · rw [upd_ne _ _ q] at e
      obtain ⟨y, hy, r⟩ := hs.st.rep b o₁ e
      exact ⟨y, Heap.get?_push_of_some _ hy, r⟩
  · by_cases q : b = s.heap.objs.size
    · subst q; right
      cases e : s.heap.get? s.heap.objs.size with
      | none => rfl
      | some y => exact absurd (Heap.lt_size e) (Nat.lt_irrefl _)
    · rw [upd_ne _ _ q] at hb0; exact .inl hb0
/-- an object that no one speaks of -/
theorem St.pushHid (hs : St c m σ s) {x tk} : St c m σ { s with heap := s.heap.push x, toks := tk } := by
  refine hs.go ⟨fun b y hb0 e => Heap.get?_push_of_some _ e, fun b o₁ e => ?_, fun b hb0 => .inl hb0⟩
  obtain ⟨y, hy, r⟩ := hs.st.rep b o₁ e
  exact ⟨y, Heap.get?_push_of_some _ hy, r⟩
theorem St.new (hs : St c m σ s) : Fresh σ s.heap.objs.size := fun b o e q => by
  have := hs.st.fresh (Nat.le_refl s.heap.objs.size)
  rw [q, this] at e; cases e

/-- the words of a call -/
noncomputable def OC (c : Fx) (f : Value) (us : List V) (m : List (Option V)) (σ : AH) (Q : V → AH → Prop) (E : Value → Shared → Prop) : Prop :=
  ∀ vs, vs.map er = us → AV c (call f vs) m σ Q E
noncomputable abbrev AA (c : Fx) (p : Pos) (es : List Expr) := AL c (spliced (backTo p (starEach es c.env)))

@[reducible] noncomputable def KAv (Q : List V → AH → Prop) (v : V) : List V → AH → Prop := fun vs σ₂ => Q (v :: vs) σ₂
@[reducible] noncomputable def KA (c : Fx) (p : Pos) (es : List Expr) (m : List (Option V)) (Q : List V → AH → Prop) (E : Value → Shared → Prop) : V → AH → Prop := fun v σ₁ => AA c p es m σ₁ (KAv Q v) E
@[reducible] noncomputable def KC (c : Fx) (f : Value) (m : List (Option V)) (Q : V → AH → Prop) (E : Value → Shared → Prop) : List V → AH → Prop := fun vs σ₁ => OC c f vs m σ₁ Q E
@[reducible] noncomputable def KCv (c : Fx) (f : Value) (u : V) (m : List (Option V)) (Q : V → AH → Prop) (E : Value → Shared → Prop) : List V → AH → Prop := fun vs σ₁ => OC c f (u :: vs) m σ₁ Q E
theorem aa_nil {p} {Q} (h : Q [] σ) : AA c p [] m σ Q E := fun _ s hs => spliced_nil ⟨σ, hs, h⟩
theorem aa_cons {p e es} {Q} (h : AE c e m σ (KA c p es m Q E) E) (he : starEach (e :: es) c.env = (false, eval e c.env) :: starEach es c.env := by rfl) :
    AA c p (e :: es) m σ Q E := by
  intro ok s hs
  show wpAny _ _ (spliced (backTo p (starEach (e :: es) c.env))) _ _ _
  rw [he]
  exact spliced_cons (wpAny_mono (h ok s hs) (fun v s₁ ⟨_, h₁, k₁⟩ => wpAny_mono (k₁ ok s₁ h₁) (fun vs s₂ ⟨_, h₂, k₂⟩ => ⟨_, h₂, k₂⟩) fun _ _ e => e) fun _ _ e => e)

theorem oc_of {f us Q} (h : ∀ vs, vs.map er = us → AV c (call f vs) m σ Q E) : OC c f us m σ Q E := h

theorem map_one {vs : List Value} {u} (h : vs.map er = [u]) : ∃ v, vs = [v] ∧ er v = u := by
  cases vs with
  | nil => exact Nat.noConfusion (congrArg List.length h : 0 = 1)
  | cons v r =>
    cases r with
    | nil => exact ⟨v, rfl, (List.cons.inj h).1⟩
    | cons x r => exact Nat.noConfusion (Nat.succ.inj (congrArg List.length h : (r.map er).length + 1 + 1 = 1))
theorem map_two {vs : List Value} {u t} (h : vs.map er = [u, t]) : ∃ v x, vs = [v, x] ∧ er v = u ∧ er x = t := by
  cases vs with
  | nil => exact Nat.noConfusion (congrArg List.length h : 0 = 2)
  | cons v r =>
    obtain ⟨h1, h2⟩ := List.cons.inj h
    obtain ⟨x, rfl, h3⟩ := map_one h2
    exact ⟨v, x, rfl, h1, h3⟩
theorem map_snoc {vs : List Value} {us u} (h : vs.map er = us ++ [u]) : ∃ ws v, vs = ws ++ [v] ∧ ws.map er = us ∧ er v = u := by
  obtain ⟨ws, l, rfl, h1, h2⟩ := List.map_eq_append_iff.mp h
  obtain ⟨v, rfl, h3⟩ := map_one h2
  exact ⟨ws, v, rfl, h1, h3⟩

theorem oc_append {a xs v Q} (h : σ a = some (.list xs)) (hz : xs.length + 1 ≤ sizeLine) (k : Q .none (upd σ a (.list (xs ++ [v])))) :
    OC c (.builtin "list.append") [.ref a, v] m σ Q E := by
  intro vs hv ok s hs
  obtain ⟨r, x, rfl, h1, h2⟩ := map_two hv
  cases er_ref h1
  obtain ⟨ws, n, hl, hw, hn⟩ := hs.list h
  refine append_at hl (fun h' hb hx => ⟨_, hs.set h hb (by rw [hx, List.push_toArray]) (rl_list (vs := ws ++ [x]) (by simp [hw, h2]) ?_), k⟩) (by rw [List.size_toArray]; exact hn)
  have : xs.length = ws.length := by rw [← hw, List.length_map]
  rw [List.length_append, List.length_singleton]; omega

theorem oc_pop {a xs v Q} (h : σ a = some (.list (xs ++ [v]))) (k : Q v (upd σ a (.list xs))) : OC c (.builtin "list.pop") [.ref a] m σ Q E := by
  intro vs hv ok s hs
  obtain ⟨r, rfl, h1⟩ := map_one hv
  cases er_ref h1
  obtain ⟨ws, n, hl, hw, hn⟩ := hs.list h
  obtain ⟨us, y, rfl, hu, hy⟩ := map_snoc hw
  refine Copied.pop_at hl (y := y) (by simp) (fun h' hb hx => ⟨_, hs.set h hb (by rw [hx, List.pop_toArray, List.dropLast_concat]) (rl_list hu ?_), by rw [hy]; exact k⟩) (by rw [List.size_toArray]; exact hn)
  rw [List.length_append, List.length_singleton] at hn; omega

theorem oc_pop0 {a xs v Q} (h : σ a = some (.list (v :: xs))) (k : Q v (upd σ a (.list xs))) : OC c (.builtin "list.pop") [.ref a, .int 0] m σ Q E := by
  intro vs hv ok s hs
  obtain ⟨r, i, rfl, h1, h2⟩ := map_two hv
  cases er_ref h1
  obtain ⟨t, rfl⟩ := er_int h2
  obtain ⟨ws, n, hl, hw, hn⟩ := hs.list h
  match ws, hw with
  | y :: us, hw =>
    simp only [List.map_cons, List.cons.injEq] at hw
    refine call_meets F.slot_list_pop ⟨_, hl, rfl⟩ F.entry_list_pop (F.args_list_pop_2 _ _) (MeetsSeq.list_pop_at a _ n 0 t 0 y (by decide) (by simp [seqIndex?]) (by simp) (by rw [List.size_toArray]; exact hn)) ⟨hl, ?_⟩
    refine ⟨_, hs.set h (Heap.SameBut.update ..) (x := { cls := .type "list", data := .seq us.toArray (n + 1) }) ?_ (rl_list hw.2 ?_), by rw [hw.1]; exact k⟩
    · rw [Heap.get?_update_self _ hl rfl]; simp [Obj.mapSeq]
    · simp at hn; omega
end
end Mine

end

section
open PySem PySem.W PyProof.Rows PySem.Spec PySem.Calls
set_option Elab.async false
set_option maxRecDepth 100000
set_option linter.unusedVariables false
namespace Mine
section
variable {c : Fx} {m : List (Option V)} {σ : AH} {E : Value → Shared → Prop} {s : Shared}

-- arithmetic
theorem o2_add {i j Q} (h : Q (.int (i + j)) σ) : O2 c (binaryOp .Add) (.int i) (.int j) m σ Q E := by
  intro a b ha hb ok s hs
  obtain ⟨t, rfl⟩ := er_int ha; obtain ⟨u, rfl⟩ := er_int hb
  exact PyProof.Rows.add_int ⟨σ, hs.tok, h⟩
theorem o2_sub {i j Q} (h : Q (.int (i - j)) σ) : O2 c (binaryOp .Sub) (.int i) (.int j) m σ Q E := by
  intro a b ha hb ok s hs
  obtain ⟨t, rfl⟩ := er_int ha; obtain ⟨u, rfl⟩ := er_int hb
  exact PyProof.Rows.sub_int ⟨σ, hs.tok, h⟩
theorem o2_mul {i j Q} (hj : Builtin.Int.intBits j ≤ 64) (h : Q (.int (i * j)) σ) : O2 c (binaryOp .Mult) (.int i) (.int j) m σ Q E := by
  intro a b ha hb ok s hs
  obtain ⟨t, rfl⟩ := er_int ha; obtain ⟨u, rfl⟩ := er_int hb
  exact PyProof.Rows.mul_int ⟨σ, hs.tok, h⟩ (IntMulOk.of_right hj)
theorem o2_mod {i j Q} (hj : 0 < j) (h : Q (.int (i % j)) σ) : O2 c (binaryOp .Mod) (.int i) (.int j) m σ Q E := by
  intro a b ha hb ok s hs
  obtain ⟨t, rfl⟩ := er_int ha; obtain ⟨u, rfl⟩ := er_int hb
  refine PyProof.Rows.mod_int (by omega) ⟨σ, hs.tok, ?_⟩
  rw [Int.fmod_eq_emod_of_nonneg _ (by omega)]; exact h
theorem o2_div {i j Q} (hj : 0 < j) (hs' : j < 1073741824) (h : Q (.int (i / j)) σ) : O2 c (binaryOp .FloorDiv) (.int i) (.int j) m σ Q E := by
  intro a b ha hb ok s hs
  obtain ⟨t, rfl⟩ := er_int ha; obtain ⟨u, rfl⟩ := er_int hb
  refine PyProof.Rows.floordiv_int (by omega) ⟨σ, hs.tok, ?_⟩ (.inl (PyProof.noPylong_small (by omega)))
  rw [Int.fdiv_eq_ediv_of_nonneg _ (by omega)]; exact h
theorem o2_pow {i j Q} (h0 : 0 ≤ j) (h1 : j ≤ 1000000) (hi : i.natAbs < 2 ^ 64) (h : Q (.int (i ^ j.toNat)) σ) : O2 c (binaryOp .Pow) (.int i) (.int j) m σ Q E := by
  intro a b ha hb ok s hs
  obtain ⟨t, rfl⟩ := er_int ha; obtain ⟨u, rfl⟩ := er_int hb
  exact PyProof.Rows.pow_int_small h0 h1 hi ⟨σ, hs.tok, h⟩
theorem o1_neg {i Q} (h : Q (.int (-i)) σ) : O1 c (unaryOp .USub) (.int i) m σ Q E := by
  intro a ha ok s hs
  obtain ⟨t, rfl⟩ := er_int ha
  exact PyProof.Rows.neg_int ⟨σ, hs.tok, h⟩
theorem o2_cat {x y : List Nat} {Q} (hz : x.length + y.length ≤ sizeLine) (h : Q (.str (x ++ y)) σ) : O2 c (binaryOp .Add) (.str x) (.str y) m σ Q E := by
  intro a b ha hb ok s hs
  obtain ⟨t, rfl⟩ := er_str ha; obtain ⟨u, rfl⟩ := er_str hb
  refine PyProof.Rows.add_str (fun t' tk => ⟨σ, hs.tok, ?_⟩) (by show x.toArray.size + y.toArray.size ≤ _; simpa using hz)
  have e : (Str.mk x.toArray ++ Str.mk y.toArray : Str) = Str.mk (x ++ y).toArray := by
    show Str.mk (x.toArray ++ y.toArray) = _
    simp
  rw [e]; exact h
theorem o2_catb {x y : List Nat} {Q} (hz : x.length + y.length ≤ sizeLine) (h : Q (.bytes (x ++ y)) σ) : O2 c (binaryOp .Add) (.bytes x) (.bytes y) m σ Q E := by
  intro a b ha hb ok s hs
  obtain ⟨p, t, rfl, rfl⟩ := er_bytes ha; obtain ⟨q, u, rfl, rfl⟩ := er_bytes hb
  refine KBy.add_bytes (by simpa [sizeLine_eq] using hz) (fun t' k => ⟨σ, hs.tok, ?_⟩)
  simpa [er] using h
theorem o2_catl {a b xs ys Q} (ha : σ a = some (.list xs)) (hb : σ b = some (.list ys)) (hz : xs.length + ys.length ≤ sizeLine)
    (h : ∀ d, Fresh σ d → Q (.ref d) (upd σ d (.list (xs ++ ys)))) : O2 c (binaryOp .Add) (.ref a) (.ref b) m σ Q E := by
  intro va vb ea eb ok s hs
  cases er_ref ea; cases er_ref eb
  obtain ⟨vs, n, hl, hv, hn⟩ := hs.list ha
  obtain ⟨ws, k, hl', hw, hn'⟩ := hs.list hb
  have e1 : xs.length = vs.length := by rw [← hv, List.length_map]
  have e2 : ys.length = ws.length := by rw [← hw, List.length_map]
  refine P.add_list hl hl' ⟨_, ?_, h _ hs.new⟩ (by simp; omega)
  have := hs.push (tk := s.toks) (rl_list (w := c.w) (vs := vs ++ ws) (xs := xs ++ ys) (n := 0) (by simp [hv, hw]) (by simp; omega))
  simpa using this

-- comparisons
theorem o2_eqi {i j Q} (h : Q (.bool (decide (i = j))) σ) : O2 c (compareOp .Eq) (.int i) (.int j) m σ Q E := by
  intro a b ha hb ok s hs
  obtain ⟨t, rfl⟩ := er_int ha; obtain ⟨u, rfl⟩ := er_int hb
  exact PyProof.Rows.eq_int ⟨σ, hs, h⟩
theorem o2_nei {i j Q} (h : Q (.bool (!decide (i = j))) σ) : O2 c (compareOp .NotEq) (.int i) (.int j) m σ Q E := by
  intro a b ha hb ok s hs
  obtain ⟨t, rfl⟩ := er_int ha; obtain ⟨u, rfl⟩ := er_int hb
  exact PyProof.Rows.ne_int ⟨σ, hs, h⟩
theorem o2_lt {i j Q} (h : Q (.bool (decide (i < j))) σ) : O2 c (compareOp .Lt) (.int i) (.int j) m σ Q E := by
  intro a b ha hb ok s hs
  obtain ⟨t, rfl⟩ := er_int ha; obtain ⟨u, rfl⟩ := er_int hb
  exact PyProof.Rows.lt_int ⟨σ, hs, h⟩
theorem o2_le {i j Q} (h : Q (.bool (decide (i ≤ j))) σ) : O2 c (compareOp .LtE) (.int i) (.int j) m σ Q E := by
  intro a b ha hb ok s hs
  obtain ⟨t, rfl⟩ := er_int ha; obtain ⟨u, rfl⟩ := er_int hb
  exact PyProof.Rows.le_int ⟨σ, hs, h⟩
theorem o2_gt {i j Q} (h : Q (.bool (decide (j < i))) σ) : O2 c (compareOp .Gt) (.int i) (.int j) m σ Q E := by
  intro a b ha hb ok s hs
  obtain ⟨t, rfl⟩ := er_int ha; obtain ⟨u, rfl⟩ := er_int hb
  exact PyProof.Rows.gt_int ⟨σ, hs, h⟩
theorem o2_ge {i j Q} (h : Q (.bool (decide (j ≤ i))) σ) : O2 c (compareOp .GtE) (.int i) (.int j) m σ Q E := by
  intro a b ha hb ok s hs
  obtain ⟨t, rfl⟩ := er_int ha; obtain ⟨u, rfl⟩ := er_int hb
  exact PyProof.Rows.ge_int ⟨σ, hs, h⟩
theorem o2_eqs {x y : List Nat} {Q} (h : Q (.bool (decide (x = y))) σ) : O2 c (compareOp .Eq) (.str x) (.str y) m σ Q E := by
  intro a b ha hb ok s hs
  obtain ⟨t, rfl⟩ := er_str ha; obtain ⟨u, rfl⟩ := er_str hb
  exact P.eq_str ⟨σ, hs, by
    show Q (.bool (x == y)) σ
    rw [show (x == y) = decide (x = y) from by rw [Bool.eq_iff_iff, beq_iff_eq, decide_eq_true_iff]]; exact h⟩
theorem o2_nes {x y : List Nat} {Q} (h : Q (.bool (!decide (x = y))) σ) : O2 c (compareOp .NotEq) (.str x) (.str y) m σ Q E := by
  intro a b ha hb ok s hs
  obtain ⟨t, rfl⟩ := er_str ha; obtain ⟨u, rfl⟩ := er_str hb
  exact P.ne_str ⟨σ, hs, by
    show Q (.bool (!(x == y))) σ
    rw [show (x == y) = decide (x = y) from by rw [Bool.eq_iff_iff, beq_iff_eq, decide_eq_true_iff]]; exact h⟩
theorem toNat_inj : ∀ {x y : List UInt8}, x.map UInt8.toNat = y.map UInt8.toNat → x = y
  | [], [], _ => rfl
  | _ :: _, _ :: _, h => by
    simp only [List.map_cons, List.cons.injEq] at h
    rw [UInt8.toNat_inj.mp h.1, toNat_inj h.2]
theorem o2_eqb {x y : List Nat} {Q} (h : Q (.bool (decide (x = y))) σ) : O2 c (compareOp .Eq) (.bytes x) (.bytes y) m σ Q E := by
  intro a b ha hb ok s hs
  obtain ⟨p, t, rfl, rfl⟩ := er_bytes ha; obtain ⟨q, u, rfl, rfl⟩ := er_bytes hb
  refine W.eq_bytes ⟨σ, hs, ?_⟩
  have e : (p.toList == q.toList) = decide (p.toList.map UInt8.toNat = q.toList.map UInt8.toNat) := by
    rw [Bool.eq_iff_iff, beq_iff_eq, decide_eq_true_iff]
    exact ⟨fun h => by rw [h], toNat_inj⟩
  rw [e]; exact h
theorem o2_neb {x y : List Nat} {Q} (h : Q (.bool (!decide (x = y))) σ) : O2 c (compareOp .NotEq) (.bytes x) (.bytes y) m σ Q E := by
  intro a b ha hb ok s hs
  obtain ⟨p, t, rfl, rfl⟩ := er_bytes ha; obtain ⟨q, u, rfl, rfl⟩ := er_bytes hb
  refine W.ne_bytes ⟨σ, hs, ?_⟩
  have e : (p.toList == q.toList) = decide (p.toList.map UInt8.toNat = q.toList.map UInt8.toNat) := by
    rw [Bool.eq_iff_iff, beq_iff_eq, decide_eq_true_iff]
    exact ⟨fun h => by rw [h], toNat_inj⟩
  unfold bne
  rw [e]; exact h
theorem o2_is_none {Q} (h : Q (.bool true) σ) : O2 c (compareOp .Is) .none .none m σ Q E := by
  intro a b ha hb ok s hs
  cases er_none hb; cases er_none ha; exact wpAny_is_plain rfl ⟨σ, hs, h⟩
theorem o2_is_ref {r Q} (h : Q (.bool false) σ) : O2 c (compareOp .Is) (.ref r) .none m σ Q E := by
  intro a b ha hb ok s hs
  cases er_none hb; cases er_ref ha; exact wpAny_is_plain rfl ⟨σ, hs, h⟩
theorem o2_isnot_none {Q} (h : Q (.bool false) σ) : O2 c (compareOp .IsNot) .none .none m σ Q E := by
  intro a b ha hb ok s hs
  cases er_none hb; cases er_none ha; exact wpAny_isNot_plain rfl ⟨σ, hs, h⟩
theorem o2_isnot_ref {r Q} (h : Q (.bool true) σ) : O2 c (compareOp .IsNot) (.ref r) .none m σ Q E := by
  intro a b ha hb ok s hs
  cases er_none hb; cases er_ref ha; exact wpAny_isNot_plain rfl ⟨σ, hs, h⟩

theorem ok_units (ok : c.Ok) : c.A.units + 100 < cLine := by
  have := ok.room.2; omega
/-- a list against an empty one -/
theorem o2_ne_nil {a b xs Q} (ha : σ a = some (.list xs)) (hb : σ b = some (.list [])) (h : Q (.bool (!xs.isEmpty)) σ) : O2 c (compareOp .NotEq) (.ref a) (.ref b) m σ Q E := by
  intro va vb ea eb ok s hs
  cases er_ref ea; cases er_ref eb
  obtain ⟨vs, n, hl, hv, hn⟩ := hs.list ha
  obtain ⟨ws, k, hl', hw, hn'⟩ := hs.list hb
  have hu := ok_units ok
  cases ws with
  | cons _ _ => simp at hw
  | nil =>
    cases vs with
    | nil =>
      simp at hv; subst hv
      have := SeqAt.RcNeAt.lists (A := c.A) (s := s) (e := fun _ => true) (IsL.isList hl) (IsL.isList hl') rfl (by omega) (by intro j h1; simp at h1)
      exact this _ _ _ _ ⟨σ, hs, h⟩
    | cons v vs =>
      simp at hv; subst hv
      have := SeqAt.RcNeAt.lists_lengths (A := c.A) (s := s) (IsL.isList hl) (IsL.isList hl') (by simp) (by omega)
      exact this _ _ _ _ ⟨σ, hs, h⟩
theorem o2_eq_nil {a b xs Q} (ha : σ a = some (.list xs)) (hb : σ b = some (.list [])) (h : Q (.bool xs.isEmpty) σ) : O2 c (compareOp .Eq) (.ref a) (.ref b) m σ Q E := by
  intro va vb ea eb ok s hs
  cases er_ref ea; cases er_ref eb
  obtain ⟨vs, n, hl, hv, hn⟩ := hs.list ha
  obtain ⟨ws, k, hl', hw, hn'⟩ := hs.list hb
  have hu := ok_units ok
  cases ws with
  | cons _ _ => simp at hw
  | nil =>
    cases vs with
    | nil =>
      simp at hv; subst hv
      exact SeqAt.eq_listAt (e := fun _ => true) (IsL.isList hl) (IsL.isList hl') rfl (by omega) (by intro j h1; simp at h1) ⟨σ, hs, h⟩
    | cons v vs =>
      simp at hv; subst hv
      exact SeqAt.eq_list_lengthsAt (IsL.isList hl) (IsL.isList hl') (by simp) (by omega) ⟨σ, hs, h⟩

theorem ot_bool {b Q} (h : Q b σ) : OT c (.bool b) m σ Q E := by
  intro a ha ok s hs
  cases er_bool ha
  exact wpAny_truthy_bool ⟨σ, hs, h⟩
end
end Mine

end

section
open PySem PySem.W PyProof.Rows PySem.Spec PySem.Calls
set_option Elab.async false
set_option maxRecDepth 100000
set_option linter.unusedVariables false
namespace Mine
section
variable {c : Fx} {m : List (Option V)} {σ : AH} {E : Value → Shared → Prop} {s : Shared}

-- displays
@[reducible] noncomputable def KL (Q : V → AH → Prop) : List V → AH → Prop := fun vs σ₁ => vs.length ≤ sizeLine ∧ ∀ d, Fresh σ₁ d → Q (.ref d) (upd σ₁ d (.list vs))
@[reducible] noncomputable def KTu (Q : V → AH → Prop) : List V → AH → Prop := fun vs σ₁ => vs.length ≤ sizeLine ∧ ∀ d, Fresh σ₁ d → Q (.ref d) (upd σ₁ d (.tuple vs))
theorem ae_list {es p Q} (h : AA c p es m σ (KL Q) E) : AE c (.List es p) m σ Q E := by
  intro ok s hs
  refine List_ (wpAny_mono (h ok s hs) (fun vs s₁ ⟨σ₁, h₁, hz, k⟩ => ?_) fun _ _ e => e)
  rw [List.length_map] at hz
  exact wpAny_newObj_type ⟨_, h₁.push (rl_list rfl hz), k _ h₁.new⟩ (by show vs.toArray.size ≤ sizeLine; simpa using hz)
theorem ae_tuple {es k' p Q} (h : AA c p es m σ (KTu Q) E) : AE c (.Tuple es k' p) m σ Q E := by
  intro ok s hs
  refine Tuple_ (wpAny_mono (h ok s hs) (fun vs s₁ ⟨σ₁, h₁, hz, k⟩ => ?_) fun _ _ e => e)
  rw [List.length_map] at hz
  exact wpAny_newObj_type ⟨_, h₁.push (rl_tuple rfl hz), k _ h₁.new⟩ (by show vs.toArray.size ≤ sizeLine; simpa using hz)

-- items
theorem o2_item {e i a k xs v Q} (ha : σ a = some (.list xs)) (h0 : 0 ≤ k) (hv : xs[k.toNat]? = some v) (h : Q v σ)
    (hs' : ∀ o j, subscripted i false o j = operate [o, j] (getItem o j)) : O2 c (subscriptTail e i) (.ref a) (.int k) m σ Q E := by
  intro va vb ea eb ok s hs
  cases er_ref ea; obtain ⟨t, rfl⟩ := er_int eb
  obtain ⟨vs, n, hl, hw, hn⟩ := hs.list ha
  rw [← hw, List.getElem?_map] at hv
  obtain ⟨x, hx, rfl⟩ := Option.map_eq_some_iff.mp hv
  have hlt : k.toNat < vs.length := (List.getElem?_eq_some_iff.mp hx).1
  have : sizeLine = 16777216 := sizeLine_eq
  exact tail_any (IsL.isList hl).typeIs slot_list_getitem.lookup (wpAny_getItem_list (IsL.isList hl) h0 (by omega) (by simpa using hx) ⟨σ, hs, h⟩) (hs' _ _)
theorem o2_last {e i a xs v Q} (ha : σ a = some (.list (xs ++ [v]))) (h : Q v σ)
    (hs' : ∀ o j, subscripted i false o j = operate [o, j] (getItem o j)) : O2 c (subscriptTail e i) (.ref a) (.int (-1)) m σ Q E := by
  intro va vb ea eb ok s hs
  cases er_ref ea; obtain ⟨t, rfl⟩ := er_int eb
  obtain ⟨vs, n, hl, hw, hn⟩ := hs.list ha
  obtain ⟨us, y, rfl, hu, hy⟩ := map_snoc hw
  exact tail_any (IsL.isList hl).typeIs slot_list_getitem.lookup (wpAny_getItem_list_neg (x := y) (IsL.isList hl) (by omega) (by simp; omega) (by omega) (by simp; rw [show (-1 + ((us.length : Int) + 1)).toNat = us.length by omega]; simp) ⟨σ, hs, by rw [hy]; exact h⟩) (hs' _ _)
theorem o2_itemb {e i k x v Q} (h0 : 0 ≤ k) (hv : x[k.toNat]? = some v) (hz : x.length ≤ sizeLine) (h : Q (.int v) σ)
    (hs' : ∀ o j, subscripted i false o j = operate [o, j] (getItem o j)) : O2 c (subscriptTail e i) (.bytes x) (.int k) m σ Q E := by
  intro va vb ea eb ok s hs
  obtain ⟨b, t, rfl, rfl⟩ := er_bytes ea; obtain ⟨u, rfl⟩ := er_int eb
  rw [List.getElem?_map] at hv
  obtain ⟨y, hy, rfl⟩ := Option.map_eq_some_iff.mp hv
  have hlt : k.toNat < b.toList.length := (List.getElem?_eq_some_iff.mp hy).1
  have : sizeLine = 16777216 := sizeLine_eq
  rw [List.length_map] at hz
  have g := W.getItem_bytes (prog := PySem.Challenge.pw_pq0932_01) (w := c.w) (A := c.A) (E := E) (s := s) (t := t) (u := u) (l := b.toList) (i := k)
    (Q := fun v s' => ∃ σ', St c m σ' s' ∧ Q (er v) σ') (by omega) h0 (by omega) ⟨σ, hs.tok, by
      have : b.toList.getD k.toNat 0 = y := by rw [List.getD_eq_getElem?_getD, hy]; rfl
      rw [this]; exact h⟩
  rw [Array.toArray_toList] at g
  exact tail_any (typeIs_bytes _ _ _) FB.slot_bytes_getitem.lookup g (hs' _ _)
theorem o2_items {e i k x v Q} (h0 : 0 ≤ k) (hv : x[k.toNat]? = some v) (hz : x.length ≤ sizeLine) (h : Q (.str [v]) σ)
    (hs' : ∀ o j, subscripted i false o j = operate [o, j] (getItem o j)) : O2 c (subscriptTail e i) (.str x) (.int k) m σ Q E := by
  intro va vb ea eb ok s hs
  obtain ⟨t, rfl⟩ := er_str ea; obtain ⟨u, rfl⟩ := er_int eb
  have hlt : k.toNat < x.length := (List.getElem?_eq_some_iff.mp hv).1
  have : sizeLine = 16777216 := sizeLine_eq
  have hl : (Str.mk x.toArray).length = x.length := by show x.toArray.size = _; simp
  refine tail_any (typeIs_str _ _ _) F.slot_str_getitem.lookup (P.getItem_str (c := v) ?_ ?_ ⟨σ, hs.tok, h⟩) (hs' _ _)
  · have a1 : ¬ k < -(2 ^ 63 : Int) := by omega
    have a2 : ¬ k ≥ 2 ^ 63 := by omega
    rw [decide_eq_false a1, decide_eq_false a2]; rfl
  · have e1 : seqIndex? k (Str.mk x.toArray).length = some k.toNat := by
      rw [hl]
      have : ¬ k < 0 := by omega
      simp [seqIndex?, this, h0]; omega
    rw [e1]; simpa using hv
-- dicts
theorem lookup_map {kvs : List (Str × Value)} {kv : List (String × V)} (e : kvs.map (fun p => (p.1, er p.2)) = kv.map (fun p => (Str.ofString p.1, p.2))) {x v} (h : kv.lookup x = some v) :
    ∃ r, valueAt kvs (Str.ofString x) = some r ∧ er r = v := by
  induction kv generalizing kvs with
  | nil => cases h
  | cons p kv ih =>
    cases kvs with
    | nil => simp at e
    | cons q kvs =>
      simp only [List.map_cons, List.cons.injEq, Prod.mk.injEq] at e
      rw [List.lookup_cons] at h
      by_cases hx : x = p.1
      · subst hx; simp at h
        exact ⟨q.2, by simp [valueAt, e.1.1], by rw [e.1.2, h]⟩
      · have hx' : (x == p.1) = false := by simpa using hx
        rw [hx'] at h
        obtain ⟨r, h1, h2⟩ := ih e.2 h
        refine ⟨r, ?_, h2⟩
        have : ¬ Str.ofString p.1 = Str.ofString x := fun q => hx (ofString_inj q).symm
        simp only [valueAt, List.find?_cons, e.1.1, this, decide_false] at h1 ⊢
        exact h1
theorem ofStr_mk (x : String) : Str.mk (Str.ofString x).cps.toList.toArray = Str.ofString x := by
  rw [Array.toArray_toList]
theorem o2_key {e i a x kv v Q} (ha : σ a = some (.dict kv)) (hv : kv.lookup x = some v) (h : Q v σ)
    (hs' : ∀ o j, subscripted i false o j = operate [o, j] (getItem o j)) : O2 c (subscriptTail e i) (.ref a) (.str (Str.ofString x).cps.toList) m σ Q E := by
  intro va vb ea eb ok s hs
  cases er_ref ea; obtain ⟨t, rfl⟩ := er_str eb
  obtain ⟨kvs, hd, e⟩ := hs.dict ha
  obtain ⟨r, h1, h2⟩ := lookup_map e hv
  rw [ofStr_mk]
  exact tail_any hd.mapOf.typeIs slot_dict_getitem.lookup (wpAny_getItem_of (knd := SK c.w) (strKind_is _ _ _ _) hd.mapOf h1 ⟨σ, hs.tok, by rw [h2]; exact h⟩) (hs' _ _)
theorem stored_put {kvs : List (Str × Value)} {kv : List (String × V)} (e : kvs.map (fun p => (p.1, er p.2)) = kv.map (fun p => (Str.ofString p.1, p.2))) (hn : (kvs.map (·.1)).Nodup) (x : String) (v : Value) :
    (stored kvs (Str.ofString x) v).map (fun p => (p.1, er p.2)) = (put kv x (er v)).map (fun p => (Str.ofString p.1, p.2)) := by
  induction kv generalizing kvs with
  | nil => cases kvs with
    | nil => simp [stored, put]
    | cons _ _ => simp at e
  | cons p kv ih =>
    cases kvs with
    | nil => simp at e
    | cons q kvs =>
      obtain ⟨y, u⟩ := p
      simp only [List.map_cons, List.cons.injEq, Prod.mk.injEq] at e
      rw [List.map_cons, List.nodup_cons] at hn
      unfold put
      by_cases hx : y = x
      · subst hx
        have hno : ∀ z ∈ kvs, ¬ z.1 = Str.ofString y := fun z hz q' => hn.1 (by rw [e.1.1, ← q']; exact List.mem_map_of_mem hz)
        have hmap : kvs.map (fun kv => if kv.1 = Str.ofString y then (kv.1, v) else kv) = kvs := by
          conv => rhs; rw [← List.map_id kvs]
          exact List.map_congr_left fun z hz => by rw [if_neg (hno z hz)]; rfl
        rw [if_pos rfl]
        unfold stored
        rw [if_pos (by simp [e.1.1])]
        simp only [List.map_cons, e.1.1, if_true, hmap, e.2]
      · have hy : ¬ Str.ofString y = Str.ofString x := fun q => hx (ofString_inj q)
        have := ih e.2 hn.2
        rw [if_neg hx]
        simp only [List.map_cons]
        rw [← this]
        unfold stored
        simp only [List.any_cons, e.1.1, hy, decide_false, Bool.false_or]
        split
        · simp only [List.map_cons, e.1.1, hy, if_false, e.1.2]
        · simp only [List.cons_append, List.map_cons, e.1.1, e.1.2]
end
end Mine

end

section
open PySem PySem.W PyProof.Rows PySem.Spec PySem.Calls
set_option Elab.async false
set_option maxRecDepth 100000
set_option linter.unusedVariables false
namespace Mine
noncomputable abbrev KH (w : World) : Frag := Mine.hd.heap_39 w.params

section
variable {c : Fx} {m : List (Option V)} {σ : AH} {E : Value → Shared → Prop} {s : Shared}

theorem St.kin (ok : c.Ok) (hs : St c m σ s) : (KH c.w).In s.heap := (ok.gnd.1).keeps hs.st.keep

noncomputable def OSet (c : Fx) (u k v : V) (m : List (Option V)) (σ : AH) (Q : AH → Prop) (E : Value → Shared → Prop) : Prop :=
  ∀ a b x, er a = u → er b = k → er x = v → c.Ok → ∀ s, St c m σ s → wpAny c.M c.A (setItem a b x) (fun _ s' => ∃ σ', St c m σ' s' ∧ Q σ') E s

theorem rl_dict {w : World} {x : Obj} {kvs : List (Str × Value)} {kv : List (String × V)} (h : x.IsDictOf (SK w) kvs) (e : kvs.map (fun p => (p.1, er p.2)) = kv.map (fun p => (Str.ofString p.1, p.2))) : Rl w (.dict kv) x := ⟨kvs, h, e⟩
theorem os_list {a xs xs' v Q} {k : Int} (ha : σ a = some (.list xs)) (h0 : 0 ≤ k) (h1 : k < xs.length) (hx' : xs.set k.toNat v = xs') (h : Q (upd σ a (.list xs'))) : OSet c (.ref a) (.int k) v m σ Q E := by
  subst hx'
  intro va vb x ea eb ex ok s hs
  cases er_ref ea; obtain ⟨t, rfl⟩ := er_int eb
  obtain ⟨vs, n, hl, hw, hn⟩ := hs.list ha
  have e1 : xs.length = vs.length := by rw [← hw, List.length_map]
  have : sizeLine = 16777216 := sizeLine_eq
  refine ki_setAt (items := vs.toArray) (n := n) hl h0 (by omega) (by simp; omega) ⟨_, hs.set ha (Heap.SameBut.update ..) (x := { cls := .type "list", data := .seq (vs.set k.toNat x).toArray n }) ?_ (rl_list (xs := xs.set k.toNat v) ?_ ?_), h⟩
  · rw [Heap.get?_update_self _ hl rfl]; simp [Obj.mapSeq]
  · rw [List.map_set, hw, ex]
  · simpa using hn
theorem os_last {a xs y v Q} (ha : σ a = some (.list (xs ++ [y]))) (h : Q (upd σ a (.list (xs ++ [v])))) : OSet c (.ref a) (.int (-1)) v m σ Q E := by
  intro va vb x ea eb ex ok s hs
  cases er_ref ea; obtain ⟨t, rfl⟩ := er_int eb
  obtain ⟨vs, n, hl, hw, hn⟩ := hs.list ha
  obtain ⟨us, z, rfl, hu, hz⟩ := map_snoc hw
  refine ki_setBack (items := (us ++ [z]).toArray) (n := n) hl (by omega) (by simp; omega) (by omega) ⟨_, hs.set ha (Heap.SameBut.update ..) (x := { cls := .type "list", data := .seq (us ++ [x]).toArray n }) ?_ (rl_list (xs := xs ++ [v]) ?_ ?_), h⟩
  · rw [Heap.get?_update_self _ hl rfl]
    have : (-1 + (((us ++ [z]).toArray.size : Nat) : Int)).toNat = us.length := by simp; omega
    rw [this]; simp [Obj.mapSeq]
  · simp [hu, ex]
  · simpa using hn
theorem os_key {a x kv v Q} (ha : σ a = some (.dict kv)) (hz : kv.length ≤ 100) (h : Q (upd σ a (.dict (put kv x v)))) : OSet c (.ref a) (.str (Str.ofString x).cps.toList) v m σ Q E := by
  intro va vb y ea eb ey ok s hs
  cases er_ref ea; obtain ⟨t, rfl⟩ := er_str eb
  obtain ⟨kvs, hd, e⟩ := hs.dict ha
  rw [ofStr_mk]
  have e1 : kvs.length = kv.length := by simpa using congrArg List.length e
  refine wpAny_setItem_pairs (knd := SK c.w) (strKind_is _ _ _ _) hd (fun h' hd' hb => ?_) (by rw [e1, sizeLine_eq]; omega)
  obtain ⟨o', es', ep', ho', r'⟩ := hd'
  have hn : (kvs.map (·.1)).Nodup := by obtain ⟨_, _, _, _, _, _, _, _, z⟩ := hd; exact z
  exact ⟨_, hs.set ha hb ho' (rl_dict ⟨es', ep', r'⟩ (by rw [← ey]; exact stored_put e hn x y)), h⟩


end

/-- a heap with some of it out of sight -/
noncomputable def mask (P : Addr → Bool) (h : Heap) : Heap := ⟨h.objs.mapIdx fun i o => if P i then { o with data := .freed } else o, h.life⟩
theorem mask_size (P h) : (mask P h).objs.size = h.objs.size := by simp [mask]
theorem mask_get (P : Addr → Bool) (h : Heap) (a : Addr) : (mask P h).get? a = if P a then none else h.get? a := by
  unfold Heap.get? mask
  simp only [Array.getElem?_mapIdx]
  cases e : h.objs[a]? with
  | none => simp
  | some o =>
    simp only [Option.map_some]
    by_cases q : P a = true
    · rw [if_pos q, if_pos q]
    · rw [if_neg q, if_neg q]

noncomputable abbrev Fx.wg (c : Fx) (g : Heap) : Fx := { c with g := ⟨g, c.g.f⟩ }
/-- the same frame over a larger ground -/
noncomputable def Over (c : Fx) (g : Heap) : Prop := (∀ a x, c.g.g.get? a = some x → g.get? a = some x) ∧ g.get? c.env.locals = none ∧ ∀ a x, c.g.f.get? a = some x → g.get? a = none
theorem Fx.Ok.over {c : Fx} {g : Heap} (ok : c.Ok) (h : Over c g) : (c.wg g).Ok :=
  { ok with gnd := ok.gnd.keeps h.1, hand := ok.hand.more (fun e => e) h.1, notL := h.2.1, frs := ⟨ok.frs.1, fun a o e => ⟨h.2.2 a o e, (ok.frs.2 a o e).2⟩⟩ }

section
variable {c : Fx} {m : List (Option V)} {σ : AH} {E : Value → Shared → Prop} {s : Shared}

/-- all that stands, but for what the abstract heap and the frames hold -/
noncomputable def ground (c : Fx) (σ : AH) (s : Shared) : Heap := mask (fun a => (σ a).isSome || (c.g.f.get? a).isSome || a == c.env.locals) s.heap
theorem ground_get {a x} : (ground c σ s).get? a = some x ↔ σ a = none ∧ c.g.f.get? a = none ∧ a ≠ c.env.locals ∧ s.heap.get? a = some x := by
  unfold ground
  rw [mask_get]
  cases e : σ a <;> cases e' : c.g.f.get? a <;> by_cases q : a = c.env.locals <;> simp [q]
theorem St.over (ok : c.Ok) (hs : St c m σ s) : Over c (ground c σ s) := by
  refine ⟨fun a x e => ground_get.mpr ⟨hs.st.out a x e, ?_, fun q => ?_, hs.st.keep a x e⟩, ?_, fun a x e => ?_⟩
  · cases e' : c.g.f.get? a with
    | none => rfl
    | some y => have := (ok.frs.2 a y e').1; rw [e] at this; cases this
  · rw [q, ok.notL] at e; cases e
  · cases e : (ground c σ s).get? c.env.locals with
    | none => rfl
    | some x => exact absurd rfl (ground_get.mp e).2.2.1
  · cases e' : (ground c σ s).get? a with
    | none => rfl
    | some y => have := (ground_get.mp e').2.1; rw [e] at this; cases this
theorem St.wg (hs : St c m σ s) : St (c.wg (ground c σ s)) m σ s := by
  exact ⟨⟨hs.st.rep, fun a x e => (ground_get.mp e).2.2.2, fun a x e => (ground_get.mp e).1, hs.st.slot, hs.st.outf, hs.st.same⟩, hs.loc, hs.outL⟩
theorem St.ug {g} (ov : Over c g) (hs : St (c.wg g) m σ s) : St c m σ s :=
  ⟨⟨hs.st.rep, fun a x e => hs.st.keep a x (ov.1 a x e), fun a x e => hs.st.out a x (ov.1 a x e), hs.st.slot, hs.st.outf, hs.st.same⟩, hs.loc, hs.outL⟩
end
end Mine

end

section
open PySem PySem.W PyProof.Rows PySem.Spec PySem.Calls
set_option Elab.async false
set_option maxRecDepth 100000
set_option linter.unusedVariables false
namespace Mine
section
variable {c : Fx} {m : List (Option V)} {σ : AH} {E : Value → Shared → Prop} {s : Shared}

-- statements
theorem ax_nil {Q} (h : Q .next m σ) : AX c [] m σ Q E := fun _ s hs => wpAny_execs_nil ⟨m, σ, hs, h⟩
@[reducible] noncomputable def KThen (c : Fx) (rest : List Stmt) (Q : FL → List (Option V) → AH → Prop) (E : Value → Shared → Prop) : FL → List (Option V) → AH → Prop := fun fl m σ => match fl with | .next => AX c rest m σ Q E | f => Q f m σ
@[reducible] noncomputable def KIfx (c : Fx) (b o : List Stmt) (m : List (Option V)) (Q : FL → List (Option V) → AH → Prop) (E : Value → Shared → Prop) : Bool → AH → Prop := fun k σ₁ => (k = true → AX c b m σ₁ Q E) ∧ (k = false → AX c o m σ₁ Q E)
@[reducible] noncomputable def KRv (m : List (Option V)) (Q : FL → List (Option V) → AH → Prop) : V → AH → Prop := fun v σ₁ => Q (.ret v) m σ₁
@[reducible] noncomputable def KEx (m : List (Option V)) (Q : FL → List (Option V) → AH → Prop) : V → AH → Prop := fun v σ₁ => v = .none ∧ Q .next m σ₁
@[reducible] noncomputable def KNm (ns : List String) (x : String) (m : List (Option V)) (Q : FL → List (Option V) → AH → Prop) : V → AH → Prop := fun v σ₁ => ∃ m', Put ns m x v m' ∧ Q .next m' σ₁
@[reducible] noncomputable def KN (m : List (Option V)) (Q : FL → List (Option V) → AH → Prop) : AH → Prop := fun σ => Q .next m σ
@[reducible] noncomputable def KS3 (c : Fx) (u v : V) (m : List (Option V)) (Q : FL → List (Option V) → AH → Prop) (E : Value → Shared → Prop) : V → AH → Prop := fun k σ₃ => OSet c u k v m σ₃ (KN m Q) E
@[reducible] noncomputable def KS2 (c : Fx) (i : Expr) (v : V) (m : List (Option V)) (Q : FL → List (Option V) → AH → Prop) (E : Value → Shared → Prop) : V → AH → Prop := fun u σ₂ => AE c i m σ₂ (KS3 c u v m Q E) E
@[reducible] noncomputable def KS1 (c : Fx) (o i : Expr) (m : List (Option V)) (Q : FL → List (Option V) → AH → Prop) (E : Value → Shared → Prop) : V → AH → Prop := fun v σ₁ => AE c o m σ₁ (KS2 c i v m Q E) E
theorem ax_cons {st rest Q} (h : AX1 c st m σ (KThen c rest Q E) E) : AX c (st :: rest) m σ Q E :=
  fun ok s hs => wpAny_execs_cons (wpAny_mono (h ok s hs) (fun fl s₁ ⟨m₁, σ₁, h₁, k₁⟩ => by
    cases fl with
    | next => exact k₁ ok s₁ h₁
    | brk => exact ⟨m₁, σ₁, h₁, k₁⟩
    | cont => exact ⟨m₁, σ₁, h₁, k₁⟩
    | ret v => exact ⟨m₁, σ₁, h₁, k₁⟩) fun _ _ e => e)
theorem ax_if {t b o p Q} (h : AT c t m σ (KIfx c b o m Q E) E) : AX1 c (.If t b o p) m σ Q E :=
  fun ok s hs => wpAny_If (wpAny_mono (h ok s hs) (fun k s₁ ⟨_, h₁, k₁⟩ => by
    cases k with
    | true => exact k₁.1 rfl ok s₁ h₁
    | false => exact k₁.2 rfl ok s₁ h₁) fun _ _ e => e)
theorem ax_ret {e p Q} (h : AE c e m σ (KRv m Q) E) : AX1 c (.Return (some e) p) m σ Q E :=
  fun ok s hs => wpAny_Return_some (wpAny_mono (h ok s hs) (fun v s₁ ⟨_, h₁, k₁⟩ => ⟨_, _, h₁, k₁⟩) fun _ _ e => e)
theorem ax_cont {p Q} (h : Q .cont m σ) : AX1 c (.Continue p) m σ Q E := fun _ s hs => wpAny_Continue ⟨m, σ, hs, h⟩
theorem ax_expr {e p Q} (h : AE c e m σ (KEx m Q) E) (hi : interactive c.env = false) (hs' : swapsWith e none p.line c.env = pure false) : AX1 c (.Expr e p) m σ Q E :=
  fun ok s hs => wpAny_Expr (wpAny_mono (h ok s hs) (fun v s₁ ⟨σ₁, h₁, hv, k₁⟩ => by
    cases er_none hv
    exact ⟨_, _, h₁, k₁⟩) fun _ _ e => e) hi hs'

theorem St.store (ok : c.Ok) (hs : St c m σ s) {x : String} {v : Value} {m' h' tk} (p : Put c.ns m x (er v) m') (hb : Heap.SameBut c.env.locals s.heap h')
    (hn : ∀ mr, s.heap.Ns c.env.locals mr → LocOk c.ns m mr → ∃ mr', h'.Ns c.env.locals mr' ∧ LocOk c.ns m' mr') : St c m' σ { s with heap := h', toks := tk } := by
  obtain ⟨mr, n, l⟩ := hs.loc
  refine ⟨⟨fun a o e => ?_, fun a x e => ?_, hs.st.out, fun a x e => ?_, hs.st.outf, ?_⟩, hn mr n l, hs.outL⟩
  · obtain ⟨y, hy, r⟩ := hs.st.rep a o e
    refine ⟨y, ?_, r⟩
    rw [hb.2 a (fun q => by rw [q, hs.outL] at e; cases e)]; exact hy
  · rw [hb.2 a (fun q => by rw [q, ok.notL] at e; cases e)]; exact hs.st.keep a x e
  · rw [hb.2 a (fun q => by rw [q, ok.notF] at e; cases e)]; exact hs.st.slot a x e
  · obtain ⟨h, tk, rfl⟩ := hs.st.same
    exact ⟨h', _, rfl⟩
theorem wp_store (ok : c.Ok) (hs : St c m σ s) {x : String} {v : Value} {m'} (p : Put c.ns m x (er v) m') {Q : Unit → Shared → Prop} (h : ∀ s', St c m' σ s' → Q () s') :
    wpAny c.M c.A (storeName c.env (Str.ofString x) v) Q E s := by
  obtain ⟨mr, n, l⟩ := hs.loc
  refine wpAny_storeName_local (ok.loc x p.mem) n (fun h' hn hb => h _ ?_) (by rw [ok.kind]; rfl)
  refine hs.store ok p hb fun mr₂ n₂ l₂ => ⟨_, hn, l.put p ok.nodup rfl⟩
theorem ax_name {x : String} {p e q Q} (h : AE c e m σ (KNm c.ns x m Q) E)
    (hs' : swapsWith e (some (.Name (Str.ofString x) p)) q.line c.env = pure false) : AX1 c (.Assign [.Name (Str.ofString x) p] e q) m σ Q E :=
  fun ok s hs => wpAny_Assign_Name (wpAny_mono (h ok s hs) (fun v s₁ ⟨σ₁, h₁, m', hp, k⟩ => wp_store ok h₁ hp fun s' h' => ⟨_, _, h', k⟩) fun _ _ e => e) hs'
theorem ax_sub {o i p' e q Q} (h : AE c e m σ (KS1 c o i m Q E) E)
    (hs' : swapsWith e (some (.Subscript o i p')) q.line c.env = pure false) : AX1 c (.Assign [.Subscript o i p'] e q) m σ Q E :=
  fun ok s hs => wpAny_Assign_Subscript (wpAny_mono (h ok s hs) (fun v s₁ ⟨_, h₁, k₁⟩ => wpAny_mono (k₁ ok s₁ h₁) (fun u s₂ ⟨_, h₂, k₂⟩ => wpAny_mono (k₂ ok s₂ h₂) (fun k s₃ ⟨_, h₃, k₃⟩ =>
    wpAny_mono (k₃ u k v rfl rfl rfl ok s₃ h₃) (fun _ s₄ ⟨_, h₄, k₄⟩ => ⟨_, _, h₄, k₄⟩) fun _ _ e => e) fun _ _ e => e) fun _ _ e => e) fun _ _ e => e) hs'

-- while
theorem ax_while {t b p Q} (J : Nat → List (Option V) → AH → Prop) (n₀ : Nat) (hE : PassesOwn c.M c.A c.env E) (h₀ : J n₀ m σ)
    (turn : ∀ n m₁ σ₁, J n m₁ σ₁ → AT c t m₁ σ₁ (fun k σ₂ => (k = true → AX c b m₁ σ₂ (fun fl m₃ σ₃ => match fl with
        | .next | .cont => ∃ n', n' < n ∧ J n' m₃ σ₃
        | .brk => Q .next m₃ σ₃
        | .ret v => Q (.ret v) m₃ σ₃) E) ∧ (k = false → Q .next m₁ σ₂)) E) : AX1 c (.While t b [] p) m σ Q E := by
  intro ok s hs
  refine wpAny_While (codeAny_whileLoop (fun n s' => ∃ m₁ σ₁, St c m₁ σ₁ s' ∧ J n m₁ σ₁) ?_ n₀ ⟨m, σ, hs, h₀⟩)
  rintro n s' ⟨m₁, σ₁, hs₁, J₁⟩
  refine wpAny_mono (turn n m₁ σ₁ J₁ ok s' hs₁) (fun k s₂ ⟨σ₂, h₂, k₂⟩ => ?_) hE
  cases k with
  | false =>
    simp only [Bool.false_eq_true, if_false]
    exact wpAny_execs_nil ⟨_, _, h₂, k₂.2 rfl⟩
  | true =>
    simp only [if_true]
    refine wpAny_mono (k₂.1 rfl ok s₂ h₂) (fun f s₃ ⟨m₃, σ₃, h₃, k₃⟩ => ?_) hE
    cases f with
    | next => obtain ⟨n', hn, hJ⟩ := k₃; exact ⟨n', hn, _, _, h₃, hJ⟩
    | cont => obtain ⟨n', hn, hJ⟩ := k₃; exact ⟨n', hn, _, _, h₃, hJ⟩
    | brk => exact ⟨_, _, h₃, k₃⟩
    | ret v => exact ⟨_, _, h₃, k₃⟩
theorem passes_false {M A env} : PassesOwn M A env (fun _ _ => False) := fun _ _ h => h.elim
end

/-- what is known of a fault in flight: the part that stays -/
inductive FzAt (w : World) (gr : Gr) (l : List Env) (σ : AH) (X : Int → AH → Prop) (v : Value) (h : Heap) : Prop where
  | mk (e t d : Addr) (kv : List (String × V)) (i : Int) (B : Heap) (h1 : v = .ref e) (h2 : Heap.FlyingW B l e (.ref 71) (.ref t) h) (h3 : ∀ a x, gr.g.get? a = some x → B.get? a = some x)
    (h4 : ∀ a o, σ a = some o → ∃ x, B.get? a = some x ∧ Rl w o x) (h5 : DictAt e d h) (h6 : σ d = some (.ns kv)) (h7 : kv.lookup "at" = some (.int i)) (h8 : X i σ) : FzAt w gr l σ X v h
/-- seen from those who wait -/
inductive Rz (w : World) (gr : Gr) (s0 : Shared) (l : List Env) (X : Int → AH → Prop) (v : Value) (s : Shared) : Prop where
  | mk (σ : AH) (h1 : S0 w gr s0 σ s) (h2 : FzAt w gr l σ X v s.heap) : Rz w gr s0 l X v s
/-- seen from the frame that it came into -/
inductive Fz (c : Fx) (m : List (Option V)) (X : Int → AH → Prop) (v : Value) (s : Shared) : Prop where
  | mk (σ : AH) (h1 : St c m σ s) (h2 : FzAt c.w c.g (c.env :: c.l) σ X v s.heap) : Fz c m X v s
/-- it leaves the frame -/
noncomputable def XE (c : Fx) (X : Int → AH → Prop) (v : Value) (s : Shared) : Prop :=
  wpAny c.M c.A (leaving c.env v) (fun _ s' => Rz c.w c.g c.s0 c.l X v s') (fun _ _ => False) s
theorem xe_pass {c : Fx} {X} : PassesOwn c.M c.A c.env (XE c X) := PassesOwn.leaving

/-- a def of the text, called above this ground -/
noncomputable def ACallAt (gr : Gr) (w : World) (k : Nat) (h : Bool) (f : Addr) (us : List V) (σ : AH) (Q : V → AH → Prop) (X : Int → AH → Prop) : Prop :=
  ∀ (s0 : Shared) (A : Around) (l : List Env) (E : Value → Shared → Prop) (s : Shared) (vs : List Value), Gnd w gr.g → Room k A → HandOk h A gr.g → A.frames = some l → FrOk gr l → S0 w gr s0 σ s → vs.map er = us →
    (∀ v s', Rz w gr s0 l X v s' → E v s') →
    codeAny (model PySem.Challenge.pw_pq0932_01 w) A (.call (.ref f) ⟨vs, []⟩) (fun r s' => match r with | .ok (.ret v) => ∃ σ', S0 w gr s0 σ' s' ∧ Q (er v) σ' | .ok _ => False | .error e => E e s') s
/-- a def of the text, called -/
noncomputable def ACall (w : World) (k : Nat) (h : Bool) (f : Addr) (us : List V) (σ : AH) (Q : V → AH → Prop) (X : Int → AH → Prop) : Prop :=
  ∀ gr : Gr, ACallAt gr w k h f us σ Q X

/-- what those see who are called from a frame -/
noncomputable def Fx.gr (c : Fx) (σ : AH) (s : Shared) : Gr := ⟨ground c σ s, mask (fun a => !((c.g.f.get? a).isSome || a == c.env.locals)) s.heap⟩
theorem fgr {c : Fx} {σ s a x} : (c.gr σ s).f.get? a = some x ↔ ((c.g.f.get? a).isSome ∨ a = c.env.locals) ∧ s.heap.get? a = some x := by
  unfold Fx.gr
  dsimp only
  rw [mask_get]
  by_cases q : ((c.g.f.get? a).isSome || a == c.env.locals) = true
  · have q' : (c.g.f.get? a).isSome = true ∨ a = c.env.locals := by
      rcases Bool.or_eq_true_iff.mp q with h | h
      · exact .inl h
      · exact .inr (eq_of_beq h)
    simp [q, q']
  · have q' : ¬((c.g.f.get? a).isSome = true ∨ a = c.env.locals) := fun h => q (by
      rcases h with h | h
      · simp [h]
      · simp [h])
    simp [q, q']
section
variable {c : Fx} {m : List (Option V)} {σ : AH} {E : Value → Shared → Prop} {s : Shared}
theorem ns_nf {h : Heap} {L : Addr} {mr} (n : h.Ns L mr) : ∃ o, h.get? L = some o ∧ ∀ vs, o.data ≠ .fields vs := by
  obtain ⟨o, es, ep, e, hd, _⟩ := n
  exact ⟨o, e, fun vs q => by rw [hd] at q; cases q⟩
theorem St.frok (hfr : c.fr = true) (ok : c.Ok) (hs : St c m σ s) : FrOk (c.gr σ s) (c.env :: c.l) := by
  obtain ⟨mr, n, _⟩ := hs.loc
  obtain ⟨oL, eL, nL⟩ := ns_nf n
  refine ⟨fun env he => ?_, fun a o e => ⟨?_, ?_⟩⟩
  · rcases List.mem_cons.mp he with rfl | he
    · exact ⟨by rw [ok.kind]; decide, _, oL, ok.frame hfr, fgr.mpr ⟨.inr rfl, eL⟩⟩
    · obtain ⟨hk, L, o, hf, hL⟩ := ok.frs.1 env he
      obtain ⟨sl, e'⟩ := hs.st.slot L o hL
      exact ⟨hk, L, _, hf, fgr.mpr ⟨.inl (by rw [hL]; rfl), e'⟩⟩
  · cases e' : (c.gr σ s).g.get? a with
    | none => rfl
    | some y =>
      obtain ⟨_, h2, h3, _⟩ := ground_get.mp e'
      rcases (fgr.mp e).1 with q | q
      · rw [h2] at q; cases q
      · exact absurd q h3
  · rcases (fgr.mp e).1 with q | q
    · obtain ⟨y, hy⟩ := Option.isSome_iff_exists.mp q
      obtain ⟨sl, e'⟩ := hs.st.slot a y hy
      have := (fgr.mp e).2
      rw [e'] at this; cases this
      exact (ok.frs.2 a y hy).2
    · have := (fgr.mp e).2
      rw [q, eL] at this; cases this
      exact nL
theorem St.s0 (ok : c.Ok) (hs : St c m σ s) : S0 c.w (c.gr σ s) s σ s :=
  ⟨hs.st.rep, fun a x e => (ground_get.mp e).2.2.2, fun a x e => (ground_get.mp e).1, fun a x e => ⟨x.slots, (fgr.mp e).2⟩, fun a x e => by
    rcases (fgr.mp e).1 with q | q
    · obtain ⟨y, hy⟩ := Option.isSome_iff_exists.mp q
      exact hs.st.outf a y hy
    · rw [q]; exact hs.outL, s.heap, s.toks, rfl⟩
theorem St.back {σ' s'} (ok : c.Ok) (hs : St c m σ s) (S : S0 c.w (c.gr σ s) s σ' s') : St c m σ' s' := by
  obtain ⟨mr, n, l⟩ := hs.loc
  obtain ⟨oL, es, ep, eL, r3⟩ := n
  have gL : (c.gr σ s).f.get? c.env.locals = some oL := fgr.mpr ⟨.inr rfl, eL⟩
  have gg : ∀ a x, c.g.g.get? a = some x → (c.gr σ s).g.get? a = some x := fun a x e => (hs.over ok).1 a x e
  refine ⟨⟨S.rep, fun a x e => S.keep a x (gg a x e), fun a x e => S.out a x (gg a x e), fun a x e => ?_, fun a x e => ?_, ?_⟩, ⟨mr, ?_, l⟩, S.outf _ _ gL⟩
  · obtain ⟨sl, e'⟩ := hs.st.slot a x e
    obtain ⟨sl', e₂⟩ := S.slot a _ (fgr.mpr ⟨.inl (by rw [e]; rfl), e'⟩)
    exact ⟨sl', e₂⟩
  · obtain ⟨sl, e'⟩ := hs.st.slot a x e
    exact S.outf a _ (fgr.mpr ⟨.inl (by rw [e]; rfl), e'⟩)
  · obtain ⟨h₁, t₁, e₁⟩ := hs.st.same
    obtain ⟨h₂, t₂, e₂⟩ := S.same
    exact ⟨h₂, t₂, by rw [e₂, e₁]⟩
  · obtain ⟨sl, e'⟩ := S.slot _ _ gL
    exact ⟨_, es, ep, e', r3⟩

theorem oc_at {c : Fx} {m : List (Option V)} {σ : AH} {E : Value → Shared → Prop} {k h f us Q X} (H : ∀ gr, (∀ a x, c.g.g.get? a = some x → gr.g.get? a = some x) → ACallAt gr c.w k h f us σ Q X) (hk : k ≤ c.lvl) (hh : h = true → c.h = true) (hfr : c.fr = true) (hE : ∀ v s', Fz c m X v s' → E v s') : OC c (.ref f) us m σ Q E := by
  intro vs hv ok s hs
  have hr : Room k c.A := ⟨by have := ok.room.1; omega, by have := ok.room.2; omega⟩
  refine wpAny_call (codeAny_mono (H (c.gr σ s) (hs.over ok).1 s c.A (c.env :: c.l) E s vs (ok.gnd.keeps (hs.over ok).1) hr (ok.hand.more hh (hs.over ok).1) (ok.stack hfr) (hs.frok hfr ok) (hs.s0 ok) hv fun v s' ⟨σ', S, e, t, d, kv, i, B, r1, r2, r3, r4, r5, r6, r7, r8⟩ => hE v s' ⟨σ', hs.back ok S, e, t, d, kv, i, B, r1, r2, fun a x q => r3 a x ((hs.over ok).1 a x q), r4, r5, r6, r7, r8⟩) fun r s' z => ?_)
  rcases r with e | (v | _ | _ | _)
  · exact z
  all_goals first
    | (obtain ⟨σ', S, q⟩ := z; exact ⟨σ', hs.back ok S, q⟩)
    | exact z.elim
theorem oc_fn {k h f us Q X} (H : ACall c.w k h f us σ Q X) (hk : k ≤ c.lvl) (hh : h = true → c.h = true) (hfr : c.fr = true) (hE : ∀ v s', Fz c m X v s' → E v s') : OC c (.ref f) us m σ Q E :=
  oc_at (fun gr _ => H gr) hk hh hfr hE
end

theorem lk_mem {β : Type} : ∀ {l : List (Str × β)} {k : Str} {v : β}, (l.map (·.1)).Nodup → (k, v) ∈ l → l.lookup k = some v
  | p :: l, k, v, hn, hm => by
    rw [List.map_cons, List.nodup_cons] at hn
    rw [List.lookup_cons]
    rcases List.mem_cons.mp hm with rfl | hm
    · simp
    · have : (k == p.1) = false := by
        rw [beq_eq_false_iff_ne]
        exact fun q => hn.1 (q ▸ List.mem_map_of_mem (f := (·.1)) hm)
      rw [this]; exact lk_mem hn.2 hm

theorem locOk_init : ∀ (ps rest : List String) (us : List V) (vs : List Value), vs.map er = us → ps.length = us.length → ((ps ++ rest).map Str.ofString).Nodup →
    LocOk (ps ++ rest) (us.map some ++ rest.map fun _ => none) (fun x => ((ps.map Str.ofString).zip vs).reverse.lookup x) := by
  intro ps rest us vs hv hl hn x v ha
  have none_ : ∀ (rest : List String) x v, ¬ At rest (rest.map fun _ => (none : Option V)) x v := by
    intro rest; induction rest with
    | nil => intro x v h; cases h
    | cons y r ih => intro x v h; cases h with | tail q => exact ih _ _ q
  have key : ∃ rv, (Str.ofString x, rv) ∈ (ps.map Str.ofString).zip vs ∧ er rv = v := by
    clear hn
    induction ps generalizing us vs with
    | nil =>
      cases us with
      | nil => exact absurd ha (none_ _ _ _)
      | cons _ _ => simp at hl
    | cons p ps ih =>
      cases us with
      | nil => simp at hl
      | cons u us =>
        cases vs with
        | nil => simp at hv
        | cons w vs =>
          simp only [List.map_cons, List.cons.injEq] at hv
          simp only [List.cons_append, List.map_cons] at ha
          cases ha with
          | head => exact ⟨w, by simp, hv.1⟩
          | tail q =>
            obtain ⟨rv, h1, h2⟩ := ih us vs hv.2 (by simpa using hl) q
            exact ⟨rv, by simp [h1], h2⟩
  obtain ⟨rv, h1, h2⟩ := key
  refine ⟨rv, ?_, h2⟩
  have nd : ((ps.map Str.ofString)).Nodup := by
    rw [List.map_append] at hn; exact (List.nodup_append.mp hn).1
  have nd2 : (((ps.map Str.ofString).zip vs).reverse.map (·.1)).Nodup := by
    rw [List.map_reverse, List.map_fst_zip (by simp [hl, ← hv])]
    exact List.pairwise_reverse.mpr (nd.imp Ne.symm)
  exact lk_mem nd2 (List.mem_reverse.mpr h1)

theorem kinds_of {scope : Scope} {ns : List String} {k : NameKind} (h : (ns.all fun x => decide (scope.names.lookup (Str.ofString x) = some k)) = true) : ∀ x ∈ ns, scope.names.lookup (Str.ofString x) = some k :=
  fun x hx => of_decide_eq_true (List.all_eq_true.mp h x hx)

@[reducible] noncomputable def KRet (Q : V → AH → Prop) : FL → List (Option V) → AH → Prop := fun fl _ σ' => match fl with | .ret v => Q v σ' | .next => Q .none σ' | _ => False
theorem acallAtB {w : World} {g : Gr} {k : Nat} {h : Bool} {f : Addr} {us : List V} {σ : AH} {Q : V → AH → Prop} {X : Int → AH → Prop} (ps rest gs ns : List String) (m₀ : List (Option V))
    {name qual : Str} {params : Arguments} {body : List Stmt} {scope : Scope} {dV kV doc pm cdv ct oc : Value} {an od : Option Addr} {osl : Array (Option Value)}
    (ho : (hd.heap_39 w.params).lookup f = some ⟨oc, od, .func (fnOf name qual params body scope dV kV doc pm an cdv ct), osl⟩) (hcd : codeIn (hd.heap_39 w.params) cdv qual = true)
    (hbind : ∀ vs, vs.map er = us → ∀ s : Shared, (KH w).In s.heap → BindsTo s (fnOf name qual params body scope dV kV doc pm an cdv ct) ⟨vs, []⟩ ((ps.map Str.ofString).zip vs))
    (hlen : ps.length = us.length) (hnd : ((ps ++ rest).map Str.ofString).Nodup)
    (hloc : ((ps ++ rest).all fun x => decide (scope.names.lookup (Str.ofString x) = some .local)) = true)
    (hglo : (gs.all fun x => decide (scope.names.lookup (Str.ofString x) = some .globalImplicit)) = true)
    (hdb : ((ns ++ gs).all fun x => decide ((Str.ofString x == ("__debug__" : Str)) = false)) = true)
    (hcell : ∀ x ∈ scope.names, x.2 ≠ .cell) (hco : scope.isCoroutine = false) (hgen : scope.isGenerator = false) (hkd : scope.kind = .function)
    (hns : ps ++ rest = ns) (hm₀ : (us.map some ++ rest.map fun _ => none) = m₀)
    (hbody : ∀ s0 A L l, let c : Fx := ⟨w, g, s0, A, envX qual scope L f cdv [], ns, gs, k, h, l, true⟩; AX c body m₀ σ (KRet Q) (XE c X)) : ACallAt g w (k + 1) h f us σ Q X := by
  subst hns hm₀
  intro s0 A l E s vs hg hr hh hA hF hs hv hE
  have hK := hg.1.keeps hs.keep
  obtain ⟨_, p, lo, me, mg, mb, T⟩ := hg.keeps hs.keep
  have hd : A.depth < recursionLimit := by have := hr.1; omega
  have hvl : vs.length = us.length := by rw [← hv, List.length_map]
  refine (codeAny_call_def (fd := fnOf name qual params body scope dV kV doc pm an cdv ct) (body := body) (binds := (ps.map Str.ofString).zip vs) hd (hK _ _ ho) rfl T.nolimit (codeRec_of hK hcd) rfl (hbind vs hv s hK) hcell ?_ (fun h₁ hns hk₁ => ?_) hco hgen hkd)
  · intro x hx
    obtain ⟨y, hy, e⟩ := List.mem_map.mp (List.of_mem_zip (show (x.1, x.2) ∈ _ from hx)).1
    rw [← e]
    exact kinds_of hloc y (List.mem_append_left _ hy)
  · have none0 : g.g.get? s.heap.objs.size = none := by
      cases e : g.g.get? s.heap.objs.size with
      | none => rfl
      | some x => exact absurd (Heap.lt_size (hs.keep _ _ e)) (Nat.lt_irrefl _)
    have noneF : g.f.get? s.heap.objs.size = none := by
      cases e : g.f.get? s.heap.objs.size with
      | none => rfl
      | some x =>
        obtain ⟨sl, e'⟩ := hs.slot _ _ e
        exact absurd (Heap.lt_size e') (Nat.lt_irrefl _)
    have key := hbody s0 (A.deeper (envX qual scope s.heap.objs.size f cdv [])) s.heap.objs.size l ⟨hg, fun _ => Around.frames_deeper hA, hF, fun _ => rfl, noneF, hkd, rfl, rfl, kinds_of hloc, kinds_of hglo, hnd, none0, ⟨?_, ?_⟩, fun x hx => of_decide_eq_true (List.all_eq_true.mp hdb x hx), hh⟩
      { s with heap := h₁, toks := s.toks + ((ps.map Str.ofString).zip vs).length } ⟨⟨fun a o e => ?_, fun a x e => hk₁ a x (hs.keep a x e), hs.out, fun a x e => ?_, hs.outf, ?_⟩, ⟨_, hns, ?_⟩, hs.fresh (Nat.le_refl _)⟩
    · refine wpAny_mono key (fun fl s' ⟨m', σ', S, q⟩ => ?_) fun v s' e => wpAny_mono e (fun _ s'' r => hE v s'' r) fun _ _ e => e.elim
      cases fl with
      | next => exact ⟨σ', S.st, q⟩
      | brk => exact q.elim
      | cont => exact q.elim
      | ret v => exact ⟨σ', S.st, q⟩
    · have := hr.1; show A.depth + 1 + 4 * k + 8 < _; omega
    · have := hr.2; show A.units + 3 + 20 * k + 100 < _; omega
    · obtain ⟨x, hx, r⟩ := hs.rep a o e
      exact ⟨x, hk₁ a x hx, r⟩
    · obtain ⟨sl, e'⟩ := hs.slot a x e
      exact ⟨sl, hk₁ a _ e'⟩
    · obtain ⟨h₂, t₂, e₂⟩ := hs.same
      exact ⟨h₁, _, by rw [e₂]⟩
    · exact locOk_init ps rest us vs hv hlen hnd

/-- how a def of the text is shown to keep its word -/
theorem acallB {w : World} {k : Nat} {h : Bool} {f : Addr} {us : List V} {σ : AH} {Q : V → AH → Prop} {X : Int → AH → Prop} (ps rest gs ns : List String) (m₀ : List (Option V))
    {name qual : Str} {params : Arguments} {body : List Stmt} {scope : Scope} {dV kV doc pm cdv ct oc : Value} {an od : Option Addr} {osl : Array (Option Value)}
    (ho : (hd.heap_39 w.params).lookup f = some ⟨oc, od, .func (fnOf name qual params body scope dV kV doc pm an cdv ct), osl⟩) (hcd : codeIn (hd.heap_39 w.params) cdv qual = true)
    (hbind : ∀ vs, vs.map er = us → ∀ s : Shared, (KH w).In s.heap → BindsTo s (fnOf name qual params body scope dV kV doc pm an cdv ct) ⟨vs, []⟩ ((ps.map Str.ofString).zip vs))
    (hlen : ps.length = us.length) (hnd : ((ps ++ rest).map Str.ofString).Nodup)
    (hloc : ((ps ++ rest).all fun x => decide (scope.names.lookup (Str.ofString x) = some .local)) = true)
    (hglo : (gs.all fun x => decide (scope.names.lookup (Str.ofString x) = some .globalImplicit)) = true)
    (hdb : ((ns ++ gs).all fun x => decide ((Str.ofString x == ("__debug__" : Str)) = false)) = true)
    (hcell : ∀ x ∈ scope.names, x.2 ≠ .cell) (hco : scope.isCoroutine = false) (hgen : scope.isGenerator = false) (hkd : scope.kind = .function)
    (hns : ps ++ rest = ns) (hm₀ : (us.map some ++ rest.map fun _ => none) = m₀)
    (hbody : ∀ g s0 A L l, let c : Fx := ⟨w, g, s0, A, envX qual scope L f cdv [], ns, gs, k, h, l, true⟩; AX c body m₀ σ (KRet Q) (XE c X)) : ACall w (k + 1) h f us σ Q X :=
  fun g => acallAtB ps rest gs ns m₀ ho hcd hbind hlen hnd hloc hglo hdb hcell hco hgen hkd hns hm₀ (hbody g)

theorem acall {w : World} {k : Nat} {h : Bool} {f : Addr} {us : List V} {σ : AH} {Q : V → AH → Prop} {X : Int → AH → Prop} (ps rest gs ns : List String) (m₀ : List (Option V))
    {name qual : Str} {params : Arguments} {body : List Stmt} {scope : Scope} {dV kV doc pm cdv ct oc : Value} {an od : Option Addr} {osl : Array (Option Value)}
    (ho : (hd.heap_39 w.params).lookup f = some ⟨oc, od, .func (fnOf name qual params body scope dV kV doc pm an cdv ct), osl⟩) (hcd : codeIn (hd.heap_39 w.params) cdv qual = true)
    (hbind : ∀ vs, vs.map er = us → bindArgs (fnOf name qual params body scope dV kV doc pm an cdv ct) ⟨vs, []⟩ = pure ((ps.map Str.ofString).zip vs))
    (hlen : ps.length = us.length) (hnd : ((ps ++ rest).map Str.ofString).Nodup)
    (hloc : ((ps ++ rest).all fun x => decide (scope.names.lookup (Str.ofString x) = some .local)) = true)
    (hglo : (gs.all fun x => decide (scope.names.lookup (Str.ofString x) = some .globalImplicit)) = true)
    (hdb : ((ns ++ gs).all fun x => decide ((Str.ofString x == ("__debug__" : Str)) = false)) = true)
    (hcell : ∀ x ∈ scope.names, x.2 ≠ .cell) (hco : scope.isCoroutine = false) (hgen : scope.isGenerator = false) (hkd : scope.kind = .function)
    (hns : ps ++ rest = ns) (hm₀ : (us.map some ++ rest.map fun _ => none) = m₀)
    (hbody : ∀ g s0 A L l, let c : Fx := ⟨w, g, s0, A, envX qual scope L f cdv [], ns, gs, k, h, l, true⟩; AX c body m₀ σ (KRet Q) (XE c X)) : ACall w (k + 1) h f us σ Q X :=
  acallB ps rest gs ns m₀ ho hcd (fun vs hv _ _ => BindsTo.of_eq (hbind vs hv)) hlen hnd hloc hglo hdb hcell hco hgen hkd hns hm₀ hbody

end Mine

end

section
open PySem PySem.W PyProof.Rows PySem.Spec PySem.Calls
set_option Elab.async false
set_option maxRecDepth 100000
set_option linter.unusedVariables false
namespace Mine

/-- the text's own names -/
inductive Gv : String → V → Prop
  | text_octets : Gv "text_octets" (.ref 78)
  | node : Gv "Node" (.ref 102)
  | all_nodes : Gv "all_nodes" (.ref 113)
  | numbers_told : Gv "numbers_told" (.ref 118)
  | chain_of : Gv "chain_of" (.ref 125)
  | show_threads : Gv "show_threads" (.ref 130)
  | number_end : Gv "number_end" (.ref 172)
  | read_threads : Gv "read_threads" (.ref 179)
  | read_member : Gv "read_member" (.ref 186)
  | sack : Gv "_law_sack" (.ref 191)
  | pull : Gv "_law_pull" (.ref 198)
  | drawn : Gv "_law_drawn" (.ref 205)
  | deep : Gv "_law_deep" (.ref 212)
  | order : Gv "_law_order" (.ref 219)
  | hidden : Gv "_law_hidden" (.ref 226)
  | text : Gv "_law_text" (.ref 231)
  | rows : Gv "_law_rows" (.ref 238)
  | stop : Gv "_law_stop" (.ref 245)
  | bent : Gv "_law_bent" (.ref 252)
  | heard : Gv "_law_heard" (.ref 259)
  | is_right : Gv "_law_is_right" (.ref 266)
  | wire : Gv "WireFault" (.ref 71)
  | word : Gv "WordFault" (.ref 59)
  | opening : Gv "OPENING" (.int 40)
  | closing : Gv "CLOSING" (.int 41)
  | blank : Gv "BLANK" (.int 32)
  | most : Gv "MOST_NUMBER" (.int 20)
  | frame : Gv "Frame" (.ref 161)
  | odd : Gv "_law_odd" (.bytes [40, 41, 32, 48, 40, 41, 57, 9, 13, 10, 43, 45, 95, 49, 32])

noncomputable def erN : Option (Option Value) → V
  | some (some r) => er r
  | _ => .other
theorem erN_some {o v} (h : erN o = v) (hv : v ≠ .other) : ∃ r, o = some (some r) ∧ er r = v := by
  match o, h with
  | some (some r), h => exact ⟨r, rfl, h⟩
  | some none, h => exact absurd h.symm hv
  | none, h => exact absurd h.symm hv
theorem gv_ok {x v} (h : Gv x v) (P : Params) : ∃ r, nsIn (Mine.hd.heap_39 P) mainGlobals (Str.ofString x) = some (some r) ∧ er r = v := by
  cases h <;> exact erN_some (by kernel_rfl) (by intro h; cases h)

inductive Bv : String → V → Prop
  | len : Bv "len" (.builtin "len")
  | int : Bv "int" (.type "int")
  | str : Bv "str" (.type "str")
  | range : Bv "range" (.type "range")
  | list : Bv "list" (.type "list")
  | bytes : Bv "bytes" (.type "bytes")
  | abs : Bv "abs" (.builtin "abs")
  | sum : Bv "sum" (.builtin "sum")
  | ord : Bv "ord" (.builtin "ord")
  | chr : Bv "chr" (.builtin "chr")
  | exc : Bv "Exception" (.type "Exception")
theorem bv_none {x v} (h : Bv x v) (P : Params) : nsIn (Mine.hd.heap_39 P) mainGlobals (Str.ofString x) = some none := by
  cases h <;> kernel_rfl
theorem bv_ok {x v} (h : Bv x v) : ∃ r, bootBuiltins (Str.ofString x) = some r ∧ er r = v := by
  cases h
  · exact ⟨.builtin "len", by boot_fast, rfl⟩
  · exact ⟨.type "int", by boot_fast, rfl⟩
  · exact ⟨.type "str", by boot_fast, rfl⟩
  · exact ⟨.type "range", by boot_fast, rfl⟩
  · exact ⟨.type "list", by boot_fast, rfl⟩
  · exact ⟨.type "bytes", by boot_fast, rfl⟩
  · exact ⟨.builtin "abs", by boot_fast, rfl⟩
  · exact ⟨.builtin "sum", by boot_fast, rfl⟩
  · exact ⟨.builtin "ord", by boot_fast, rfl⟩
  · exact ⟨.builtin "chr", by boot_fast, rfl⟩
  · exact ⟨.type "Exception", by boot_fast, rfl⟩
theorem bv_ne {x v} (h : Bv x v) : Str.ofString x ≠ "__name__" := by cases h <;> decide +kernel

section
variable {c : Fx} {m : List (Option V)} {σ : AH} {E : Value → Shared → Prop} {s : Shared}
theorem ae_gv {x : String} {p v Q} (hx : x ∈ c.gs) (hv : Gv x v) (h : Q v σ) : AE c (.Name (Str.ofString x) p) m σ Q E := by
  intro ok s hs
  obtain ⟨K, pr, l, me, mg, mb, T⟩ := ok.gnd.keeps hs.st.keep
  obtain ⟨r, h1, h2⟩ := gv_ok hv c.w.params
  refine Name_function_global ok.kind (ok.glo x hx) (loadGlobal_global (mg := mg) (v := r) (by rw [ok.glob]; exact T.g) (mg_of K T.g h1) ⟨σ, hs, by rw [h2]; exact h⟩) (ok.dbg x (List.mem_append_right _ hx))
theorem ae_bv {x : String} {p v Q} (hx : x ∈ c.gs) (hv : Bv x v) (h : Q v σ) : AE c (.Name (Str.ofString x) p) m σ Q E := by
  intro ok s hs
  obtain ⟨K, pr, l, me, mg, mb, T⟩ := ok.gnd.keeps hs.st.keep
  obtain ⟨r, h1, h2⟩ := bv_ok hv
  refine Name_function_global ok.kind (ok.glo x hx) (loadGlobal_builtin (mg := mg) (mb := mb) (v := r) (by rw [ok.glob]; exact T.g) (mg_none_of K T.g (bv_none hv _)) (by rw [ok.blt]; exact T.b)
    ((T.builtins _ (bv_ne hv)).trans h1) ⟨σ, hs, by rw [h2]; exact h⟩) (ok.dbg x (List.mem_append_right _ hx))

/-- who keeps the arguments of a call: known -/
noncomputable def Kp (w : World) : Value → Prop
  | .ref a => keepIn (KH w) (.ref a) = true
  | .builtin _ => True
  | .type _ => True
  | _ => False
theorem kp_looks {w : World} {M : Model} {f : Value} (h : Kp w f) (hp : Heap) (X : (KH w).In hp) : ∃ k, (k = Keeper.frame ∨ k = Keeper.machine ∨ k = Keeper.boundFrame) ∧ Looks M hp (keeperOf f) k := by
  cases f <;> simp only [Kp] at h <;> first | exact h.elim | skip
  · exact ⟨.machine, .inr (.inl rfl), Looks.of_pure rfl⟩
  · exact ⟨.machine, .inr (.inl rfl), Looks.of_pure rfl⟩
  · exact keeps_K h hp X

theorem ae_call {f p es Q} (h : AE c f m σ (fun u σ₁ => ∀ fv, er fv = u → AV c (callWith p fv [] (backTo p (starEach es c.env)) []) m σ₁ Q E) E)
    (he : eval (.Call f es [] p) c.env = (do callWith p (← eval f c.env) [] (backTo p (starEach es c.env)) (backToKw p (keywordEach [] c.env)))) : AE c (.Call f es [] p) m σ Q E :=
  fun ok s hs => Call_ (wpAny_mono (h ok s hs) (fun fv s₁ ⟨_, h₁, k₁⟩ => k₁ fv rfl ok s₁ h₁) fun _ _ e => e) he

theorem cw {p es first Q} {f : Value} (hk : Kp c.w f) (h : AA c p es m σ (fun vs σ₁ => OC c f (first.map er ++ vs) m σ₁ Q E) E)
    (hst : starEach es c.env = es.map fun e => (false, eval e c.env)) : AV c (callWith p f first (backTo p (starEach es c.env)) []) m σ Q E := by
  intro ok s hs
  have hns : ∀ l : List Expr, (backTo p (l.map fun e => (false, eval e c.env))).any (·.1) = false := by
    intro l; induction l with
    | nil => rfl
    | cons e l ih => simpa [backTo] using ih
  have h' := h ok s hs
  rw [hst] at h' ⊢
  refine callWith_of (P := (KH c.w).In) (by rw [hns]; rfl) (fun hp X => kp_looks hk hp X) ?_
  have fin : ∀ vs s₁, (∃ σ', St c m σ' s₁ ∧ OC c f (first.map er ++ vs.map er) m σ' Q E) → (KH c.w).In s₁.heap ∧ wpAny c.M c.A (call f (first ++ vs)) (fun v s' => ∃ σ', St c m σ' s' ∧ Q (er v) σ') E s₁ :=
    fun vs s₁ ⟨σ', S, q⟩ => ⟨S.kin ok, q (first ++ vs) (by rw [List.map_append]) ok s₁ S⟩
  cases es with
  | nil =>
    unfold evalArgs
    show wpAny c.M c.A (spliced [] >>= _) _ E s
    refine wpAny_bind (wpAny_mono h' (fun vs s₁ q => ?_) fun _ _ e => e)
    refine wpAny_bind (wpAny_pure ?_)
    refine wpAny_holding ?_
    exact wpAny_bind (wpAny_pure (wpAny_bind (wpAny_pure (wpAny_pure (fin vs s₁ q)))))
  | cons e es =>
    exact evalArgs_plain (wpAny_mono h' (fun vs s₁ q => fin vs s₁ q) fun _ _ e => e)
end
end Mine

end

section
open PySem PySem.W PyProof.Rows PySem.Spec PySem.Calls
set_option Elab.async false
set_option maxRecDepth 100000
set_option linter.unusedVariables false
namespace Mine
section
variable {c : Fx} {m : List (Option V)} {σ : AH} {E : Value → Shared → Prop} {s : Shared}

-- truth
noncomputable abbrev ATL (c : Fx) (op : BoolOp) (es : List Expr) := AB c (allTrue op es c.env)
theorem at_bool {op es p Q} (h : ATL c op es m σ Q E) : AT c (.BoolOp op es p) m σ Q E := h
theorem atl_nil {op Q} (h : Q (op == .And) σ) : ATL c op [] m σ Q E := fun _ s hs => wpAny_pure ⟨σ, hs, h⟩
@[reducible] noncomputable def KAnd (c : Fx) (rest : List Expr) (m : List (Option V)) (Q : Bool → AH → Prop) (E : Value → Shared → Prop) : Bool → AH → Prop := fun k σ₁ => (k = true → ATL c .And rest m σ₁ Q E) ∧ (k = false → Q false σ₁)
@[reducible] noncomputable def KOr (c : Fx) (rest : List Expr) (m : List (Option V)) (Q : Bool → AH → Prop) (E : Value → Shared → Prop) : Bool → AH → Prop := fun k σ₁ => (k = true → Q true σ₁) ∧ (k = false → ATL c .Or rest m σ₁ Q E)
@[reducible] noncomputable def KLm (c : Fx) (p : Pos) (es : List Expr) (f : Value) (m : List (Option V)) (Q : V → AH → Prop) (E : Value → Shared → Prop) : V → AH → Prop := fun u σ₁ => ∃ a xs, u = .ref a ∧ σ₁ a = some (.list xs) ∧ AA c p es m σ₁ (KCv c f (.ref a) m Q E) E
theorem atl_and {x rest Q} (h : AT c x m σ (KAnd c rest m Q E) E) : ATL c .And (x :: rest) m σ Q E :=
  fun ok s hs => isTrue_and (pos := default) (whole := pure .none) (wpAny_mono (h ok s hs) (fun k s₁ ⟨_, h₁, k₁⟩ => by
    cases k with
    | true => exact k₁.1 rfl ok s₁ h₁
    | false => exact ⟨_, h₁, k₁.2 rfl⟩) fun _ _ e => e)
theorem atl_or {x rest Q} (h : AT c x m σ (KOr c rest m Q E) E) : ATL c .Or (x :: rest) m σ Q E :=
  fun ok s hs => isTrue_or (pos := default) (whole := pure .none) (wpAny_mono (h ok s hs) (fun k s₁ ⟨_, h₁, k₁⟩ => by
    cases k with
    | true => exact ⟨_, h₁, k₁.1 rfl⟩
    | false => exact k₁.2 rfl ok s₁ h₁) fun _ _ e => e)
@[reducible] noncomputable def KCh2 (c : Fx) (op₂ : CmpOp) (r₂ : Expr) (b : V) (m : List (Option V)) (Q : Bool → AH → Prop) (E : Value → Shared → Prop) : Bool → AH → Prop := fun t σ₄ => (t = true → AE c r₂ m σ₄ (K2b c (compareOp op₂) b m (KT c m Q E) E) E) ∧ (t = false → Q false σ₄)
@[reducible] noncomputable def KCh1 (c : Fx) (op₁ op₂ : CmpOp) (r₂ : Expr) (a : V) (m : List (Option V)) (Q : Bool → AH → Prop) (E : Value → Shared → Prop) : V → AH → Prop := fun b σ₂ => O2 c (compareOp op₁) a b m σ₂ (KT c m (KCh2 c op₂ r₂ b m Q E) E) E
@[reducible] noncomputable def KCh (c : Fx) (op₁ op₂ : CmpOp) (r₁ r₂ : Expr) (m : List (Option V)) (Q : Bool → AH → Prop) (E : Value → Shared → Prop) : V → AH → Prop := fun a σ₁ => AE c r₁ m σ₁ (KCh1 c op₁ op₂ r₂ a m Q E) E
theorem at_chain2 {l op₁ op₂ r₁ r₂ p Q} (hm : lastMarks [op₁, op₂] [r₁, r₂] = false)
    (h : AE c l m σ (KCh c op₁ op₂ r₁ r₂ m Q E) E) : AT c (.Compare l [op₁, op₂] [r₁, r₂] p) m σ Q E := by
  intro ok s hs
  refine isTrue_chain (wpAny_mono (h ok s hs) (fun a s₁ ⟨_, h₁, k₁⟩ => ?_) fun _ _ e => e) hm
  refine test_link (wpAny_mono (k₁ ok s₁ h₁) (fun b s₂ ⟨_, h₂, k₂⟩ => wpAny_mono (k₂ a b rfl rfl ok s₂ h₂) (fun k s₃ ⟨_, h₃, k₃⟩ => wpAny_mono (k₃ k rfl ok s₃ h₃) (fun t s₄ ⟨_, h₄, k₄⟩ => ?_) fun _ _ e => e) fun _ _ e => e) fun _ _ e => e)
  cases t with
  | false => exact ⟨_, h₄, k₄.2 rfl⟩
  | true =>
    simp only [if_true]
    exact test_last (wpAny_mono (k₄.1 rfl ok s₄ h₄) (fun d s₅ ⟨_, h₅, k₅⟩ => wpAny_mono (k₅ b d rfl rfl ok s₅ h₅) (fun k s₆ ⟨_, h₆, k₆⟩ => k₆ k rfl ok s₆ h₆) fun _ _ e => e) fun _ _ e => e)

-- methods
inductive LM : String → String → Prop
  | append : LM "append" "list.append"
  | pop : LM "pop" "list.pop"
  | extend : LM "extend" "list.extend"
theorem ae_lm {o : Expr} {name id : String} {ap p : Pos} {es : List Expr} {pl : Sem Bool} {Q} (hm : LM name id)
    (h : AE c o m σ (KLm c p es (.builtin id) m Q E) E)
    (hst : starEach es c.env = es.map fun e => (false, eval e c.env))
    (he : eval (.Call (.Attribute o (Str.ofString name) ap) es [] p) c.env = (do
      let ov ← eval o c.env
      standAt ap.atName
      let (f, first) ← holding [ov] (getMethod ov (Str.ofString name) pl)
      callWith p f first (backTo p (starEach es c.env)) [])) : AE c (.Call (.Attribute o (Str.ofString name) ap) es [] p) m σ Q E := by
  intro ok s hs
  refine MethodCall_ (pl := pl) (wpAny_mono (h ok s hs) (fun ov s₁ ⟨σ₁, h₁, a, xs, hu, ha, k⟩ => ?_) fun _ _ e => e) he
  cases er_ref hu
  obtain ⟨vs, n, hl, hv, hn⟩ := h₁.list ha
  have nd : ∀ b, Value.ref a = .ref b → ∃ o, s₁.heap.get? b = some o ∧ o.dict = none := fun b e => by cases e; exact ⟨_, hl, rfl⟩
  have fin : wpAny c.M c.A (callWith p (.builtin id) [.ref a] (backTo p (starEach es c.env)) []) (fun v s' => ∃ σ', St c m σ' s' ∧ Q (er v) σ') E s₁ := cw (f := .builtin id) trivial k hst ok s₁ h₁
  cases hm with
  | append => exact getMethod_builtin ⟨_, hl, rfl⟩ F.plainAttrs_list F.slot_list_append F.type_list_append nd fin
  | pop => exact getMethod_builtin ⟨_, hl, rfl⟩ F.plainAttrs_list F.slot_list_pop F.type_list_pop nd fin
  | extend => exact getMethod_builtin ⟨_, hl, rfl⟩ F.plainAttrs_list F.slot_list_extend F.type_list_extend nd fin
end
end Mine

end

section
open PySem PySem.W PyProof.Rows PySem.Spec PySem.Calls
set_option Elab.async false
set_option maxRecDepth 100000
set_option linter.unusedVariables false
namespace Mine
section
variable {c : Fx} {m : List (Option V)} {σ : AH} {E : Value → Shared → Prop} {s : Shared}

theorem intsAre {vs : List Value} {ns : List Int} (h : vs.map er = ns.map V.int) : IntsAre vs ns := by
  induction ns generalizing vs with
  | nil => cases vs with
    | nil => exact .nil
    | cons _ _ => simp at h
  | cons n ns ih => cases vs with
    | nil => simp at h
    | cons v vs =>
      simp only [List.map_cons, List.cons.injEq] at h
      obtain ⟨t, rfl⟩ := er_int h.1
      exact .cons n t (ih h.2)
theorem strsAre {vs : List Value} {ls : List (List Nat)} (h : vs.map er = ls.map V.str) : StrsAre vs (ls.map fun l => Str.mk l.toArray) := by
  induction ls generalizing vs with
  | nil => cases vs with
    | nil => exact .nil
    | cons _ _ => simp at h
  | cons n ns ih => cases vs with
    | nil => simp at h
    | cons v vs =>
      simp only [List.map_cons, List.cons.injEq] at h
      obtain ⟨t, rfl⟩ := er_str h.1
      exact .cons _ t (ih h.2)

/-- nothing of the abstract heap turned -/
theorem St.grow (hs : St c m σ s) {h' tk} (hk : ∀ b o, s.heap.get? b = some o → h'.get? b = some o) : St c m σ { s with heap := h', toks := tk } := by
  refine hs.go ⟨fun b x _ e => hk b x e, fun a o e => ?_, fun a h => .inl h⟩
  obtain ⟨x, hx, r⟩ := hs.st.rep a o e
  exact ⟨x, hk a x hx, r⟩

theorem oc_len {a xs Q} (h : σ a = some (.list xs)) (k : Q (.int xs.length) σ) : OC c (.builtin "len") [.ref a] m σ Q E := by
  intro vs hv ok s hs
  obtain ⟨r, rfl, h1⟩ := map_one hv
  cases er_ref h1
  obtain ⟨ws, n, hl, hw, hn⟩ := hs.list h
  have : sizeLine = 16777216 := sizeLine_eq
  refine call_len_list (IsL.isList hl) (by simp; omega) ⟨σ, hs.tok, ?_⟩
  have e : (ws.toArray.size : Int) = xs.length := by rw [← hw]; simp
  rw [e]; exact k
theorem oc_lenb {x Q} (hz : x.length ≤ sizeLine) (k : Q (.int x.length) σ) : OC c (.builtin "len") [.bytes x] m σ Q E := by
  intro vs hv ok s hs
  obtain ⟨r, rfl, h1⟩ := map_one hv
  obtain ⟨b, t, rfl, rfl⟩ := er_bytes h1
  have : sizeLine = 16777216 := sizeLine_eq
  have e : (b.toList.map UInt8.toNat).length = b.size := by simp
  rw [e] at hz k
  exact W.len_bytes (by omega) ⟨σ, hs.tok, k⟩
theorem oc_lens {x Q} (hz : x.length ≤ sizeLine) (k : Q (.int x.length) σ) : OC c (.builtin "len") [.str x] m σ Q E := by
  intro vs hv ok s hs
  obtain ⟨r, rfl, h1⟩ := map_one hv
  obtain ⟨t, rfl⟩ := er_str h1
  have : sizeLine = 16777216 := sizeLine_eq
  have hl : (Str.mk x.toArray).length = x.length := by show x.toArray.size = _; simp
  exact P.len_str (by rw [hl]; omega) ⟨σ, hs.tok, by rw [hl]; exact k⟩
theorem oc_int {i Q} (k : Q (.int i) σ) : OC c (.type "int") [.int i] m σ Q E := by
  intro vs hv ok s hs
  obtain ⟨r, rfl, h1⟩ := map_one hv
  obtain ⟨t, rfl⟩ := er_int h1
  exact PySem.call_int_int ⟨σ, hs, k⟩
theorem oc_abs {i : Int} {Q} (k : Q (.int i.natAbs) σ) : OC c (.builtin "abs") [.int i] m σ Q E := by
  intro vs hv ok s hs
  obtain ⟨r, rfl, h1⟩ := map_one hv
  obtain ⟨t, rfl⟩ := er_int h1
  refine PyProof.Rows.call_abs_int fun u tk => ⟨σ, hs.tok, ?_⟩
  have e : (if i < 0 then -i else i) = (i.natAbs : Int) := by split <;> omega
  rw [e]; exact k
theorem oc_ord {x Q} (k : Q (.int x) σ) : OC c (.builtin "ord") [.str [x]] m σ Q E := by
  intro vs hv ok s hs
  obtain ⟨r, rfl, h1⟩ := map_one hv
  obtain ⟨t, rfl⟩ := er_str h1
  exact P.ord_of_char ⟨σ, hs.tok, k⟩
theorem oc_chr {i : Int} {Q} (h0 : 0 ≤ i) (h1 : i ≤ 1114111) (k : Q (.str [i.toNat]) σ) : OC c (.builtin "chr") [.int i] m σ Q E := by
  intro vs hv ok s hs
  obtain ⟨r, rfl, e⟩ := map_one hv
  obtain ⟨t, rfl⟩ := er_int e
  exact chr_of_range h0 h1 ⟨σ, hs.tok, k⟩
/-- the figures of a number -/
noncomputable def digs (i : Int) : List Nat := (Str.ofString (toString i)).cps.toList
theorem oc_str {i : Int} {Q} (hi : i.natAbs.log2 < 1920) (k : Q (.str (digs i)) σ) : OC c (.type "str") [.int i] m σ Q E := by
  intro vs hv ok s hs
  obtain ⟨r, rfl, e⟩ := map_one hv
  obtain ⟨t, rfl⟩ := er_int e
  exact P.str_of_int hi ⟨σ, hs.tok, k⟩
theorem oc_sum {a} {ns : List Int} {Q} (hh : c.h = true) (h : σ a = some (.list (ns.map V.int))) (k : Q (.int ns.sum) σ) : OC c (.builtin "sum") [.ref a] m σ Q E := by
  intro vs hv ok s hs
  obtain ⟨r, rfl, h1⟩ := map_one hv
  cases er_ref h1
  obtain ⟨ws, n, hl, hw, hn⟩ := hs.list h
  have hi := intsAre hw
  obtain ⟨xs, hx⟩ := hi.allInts.items
  have hl' : s.heap.IsList a (intItems xs) := hx ▸ IsL.isList hl
  refine sum_intListG (ok.hnd hh) hl' fun h' tk t' hk => ⟨σ, hs.grow hk, ?_⟩
  have e1 : ns = xs.toList.map (·.1) := by rw [← nums_intItems, ← hx]; exact (show numsOf ws.toArray.toList = ns from hi.numsOf).symm
  have e2 : preSum (numAt xs) xs.size = ns.sum := by rw [preSum_eq, List.take_of_length_le (by simp), e1]
  rw [e2]; exact k
theorem oc_bytes {a} {ns : List Nat} {Q} (hh : c.h = true) (h : σ a = some (.list (ns.map fun (n : Nat) => V.int n))) (hr : ∀ n ∈ ns, n < 256) (k : Q (.bytes ns) σ) : OC c (.type "bytes") [.ref a] m σ Q E := by
  intro vs hv ok s hs
  obtain ⟨r, rfl, h1⟩ := map_one hv
  cases er_ref h1
  obtain ⟨ws, n, hl, hw, hn⟩ := hs.list h
  have hi : IntsAre ws (ns.map fun (n : Nat) => (n : Int)) := intsAre (by rw [hw, List.map_map]; rfl)
  refine call_bytes_ints (IsL.isList hl) hi (fun x hx => ?_) hn (ok.hnd hh) fun h' t k' hk => ⟨σ, hs.grow hk, ?_⟩
  · obtain ⟨y, hy, rfl⟩ := List.mem_map.mp hx
    have := hr y hy; omega
  · have e : er (.bytes (byteArr (ns.map fun (n : Nat) => (n : Int))) t) = .bytes ns := by
      simp only [er, byteArr, List.map_map]
      congr 1
      conv => rhs; rw [← List.map_id ns]
      refine List.map_congr_left fun x hx => ?_
      have := hr x hx
      simp [Nat.mod_eq_of_lt this]
    rw [e]; exact k
end
end Mine

end

section
open PySem PySem.W PyProof.Rows PySem.Spec PySem.Calls
set_option Elab.async false
set_option maxRecDepth 100000
set_option linter.unusedVariables false
namespace Mine
section
variable {c : Fx} {m : List (Option V)} {σ : AH} {E : Value → Shared → Prop} {s : Shared}

-- slices
noncomputable def partOf : V → Option (Option Nat)
  | .none => some none
  | .int i => if 0 ≤ i then some (some i.toNat) else none
  | _ => none
noncomputable def cutAt {α : Type} (xs : List α) (lo hi : Option Nat) : List α := ((match hi with | some h => xs.take h | none => xs).drop (lo.getD 0))
theorem cut_take {α : Type} (xs : List α) (h : Nat) : cutAt xs none (some h) = xs.take h := rfl
theorem cut_drop {α : Type} (xs : List α) (l : Nat) : cutAt xs (some l) none = xs.drop l := rfl
theorem cut_both {α : Type} (xs : List α) (l h : Nat) : cutAt xs (some l) (some h) = (xs.take h).drop l := rfl
theorem partIs {v : Value} {u : V} {k : Option Nat} (h : er v = u) (e : partOf u = some k) : IsPart v (k.map fun (n : Nat) => (n : Int)) := by
  cases v <;> simp only [er] at h <;> subst h <;> simp only [partOf] at e <;> try cases e
  · exact .none
  · rename_i i t
    split at e
    · cases e
      simp only [Option.map_some]
      rw [show ((i.toNat : Nat) : Int) = i by omega]
      exact .int i t
    · cases e
theorem clip_cut {α : Type} (xs : List α) (lo hi : Option Nat) :
    (xs.drop ((lo.map fun (n : Nat) => (n : Int)).elim 0 (clipAt xs.length))).take ((hi.map fun (n : Nat) => (n : Int)).elim xs.length (clipAt xs.length) - (lo.map fun (n : Nat) => (n : Int)).elim 0 (clipAt xs.length)) = cutAt xs lo hi := by
  cases lo with
  | none =>
    cases hi with
    | none => simp [cutAt, List.take_of_length_le]
    | some h =>
      simp only [Option.map_none, Option.map_some, Option.elim, clipAt_nat, cutAt, Option.getD_none, List.drop_zero, Nat.sub_zero]
      rcases Nat.le_total h xs.length with q | q
      · rw [Nat.min_eq_left q]
      · rw [Nat.min_eq_right q, List.take_of_length_le q, List.take_of_length_le (Nat.le_refl _)]
  | some l =>
    cases hi with
    | none =>
      simp only [Option.map_none, Option.map_some, Option.elim, clipAt_nat, cutAt, Option.getD_some]
      rcases Nat.le_total l xs.length with q | q
      · rw [Nat.min_eq_left q, List.take_of_length_le (by simp)]
      · rw [Nat.min_eq_right q, List.drop_of_length_le q, List.drop_of_length_le (Nat.le_refl _)]; simp
    | some h =>
      simp only [Option.map_some, Option.elim, clipAt_nat, cutAt, Option.getD_some]
      rw [List.drop_take]
      rcases Nat.le_total l xs.length with q | q
      · rw [Nat.min_eq_left q]
        rcases Nat.le_total h xs.length with q' | q'
        · rw [Nat.min_eq_left q']
        · rw [Nat.min_eq_right q', List.take_of_length_le (by simp), List.take_of_length_le (by simp; omega)]
      · rw [Nat.min_eq_right q, List.drop_of_length_le q, List.drop_of_length_le (Nat.le_refl _)]; simp
theorem pick_cut (items : Array Value) (lo hi : Option Nat) : slicePick items (lo.map fun (n : Nat) => (n : Int)) (hi.map fun (n : Nat) => (n : Int)) none = (cutAt items.toList lo hi).toArray := by
  unfold slicePick
  rw [sliceBounds_plain]
  simp only [sliceRange_one, pick_run]
  have := clip_cut items.toList lo hi
  simp only [Array.length_toList] at this
  rw [this]
theorem cut_length {α : Type} (xs : List α) (lo hi : Option Nat) : (cutAt xs lo hi).length ≤ xs.length := by
  cases hi <;> simp [cutAt] <;> omega
theorem cut_map {α β : Type} (f : α → β) (xs : List α) (lo hi : Option Nat) : (cutAt xs lo hi).map f = cutAt (xs.map f) lo hi := by
  cases hi <;> simp [cutAt, List.map_drop, List.map_take]

noncomputable def AP (c : Fx) (e : Option Expr) := AV c (evalPart e c.env)
theorem ap_none {Q} (h : Q .none σ) : AP c none m σ Q E := fun _ s hs => wpAny_pure ⟨σ, hs, h⟩
theorem ap_some {e Q} (h : AE c e m σ Q E) : AP c (some e) m σ Q E := h

end
theorem sub_slice3 {prog : Program} {w : World} {A : Around} {E : Value → Shared → Prop} {s : Shared} {env : Env} {value st : Expr} {lower upper : Option Expr} {p pos : Pos} {T id : String} {Q : Value → Shared → Prop}
    (hl : typeLookup (.type T) "__getitem__" = pure (some (.builtin id)))
    (h : wpAny (model prog w) A (eval value env) (fun o s₁ => wpAny (model prog w) A (eval (.Slice lower upper (some st) p) env) (fun i s₂ => s₂.TypeIs o T ∧ wpAny (model prog w) A (getItem o i) Q E s₂) E s₁) E s) :
    wpAny (model prog w) A (eval (.Subscript value (.Slice lower upper (some st) p) pos) env) Q E s := by
  rw [eval_Subscript]
  refine wpAny_bind (wpAny_mono h (fun o s₁ h₁ => wpAny_bind (wpAny_holding (wpAny_mono h₁ (fun i s₂ h₂ => wpAny_bind (wpAny_standAt ?_)) fun _ _ x => x))) fun _ _ x => x)
  have fin : wpAny (model prog w) A (operate [o, i] (getItem o i)) (fun r s₃ => wpAny (model prog w) A (letTemporaryGo value o r >>= fun _ => pure r) Q E s₃) E s₂ :=
    wpAny_operating (wpAny_mono h₂.2 (fun r s₃ h₃ => wpAny_bind (wpAny_letTemporaryGo (wpAny_pure h₃))) fun _ _ x => x)
  refine wpAny_bind ?_
  rw [getitemInPython_of_ne h₂.1.not_modules]
  refine wpAny_bind (wpAny_specialOf h₂.1 hl ?_)
  first
    | exact wpAny_pure (wpAny_bind fin)
    | exact wpAny_bind (wpAny_pure (wpAny_bind fin))
    | exact wpAny_bind fin
section
variable {c : Fx} {m : List (Option V)} {σ : AH} {E : Value → Shared → Prop} {s : Shared}

@[reducible] noncomputable def KRev (Q : V → AH → Prop) : V → AH → Prop := fun u σ₁ => ∃ a xs, u = .ref a ∧ σ₁ a = some (.list xs) ∧ ∀ d, Fresh σ₁ d → Q (.ref d) (upd σ₁ d (.list xs.reverse))
theorem ae_rev {e p₁ p₂ p q kk Q} (h : AE c e m σ (KRev Q) E) : AE c (.Subscript e (.Slice none none (some (.UnaryOp .USub (.Constant (.int 1) kk p₁) p₂)) p) q) m σ Q E := by
  intro ok s hs
  refine sub_slice3 (T := "list") list_getitem_lookup (wpAny_mono (h ok s hs) (fun o s₁ ⟨σ₁, h₁, a, xs, e1, e2, k⟩ => ?_) fun _ _ e => e)
  refine wpAny_Slice (wpAny_pure (wpAny_pure (UnaryOp_ (wpAny_Constant_int (PyProof.Rows.neg_int ?_)))))
  cases er_ref e1
  obtain ⟨vs, n, hl, hw, hn⟩ := h₁.list e2
  have h₁' := h₁.pushHid (x := { cls := .type "slice", data := .fields #[.none, .none, .int (-1) (s₁.toks + 1)] }) (tk := s₁.toks + 1 + 1)
  have hl' : (s₁.heap.push { cls := .type "slice", data := .fields #[.none, .none, .int (-1) (s₁.toks + 1)] }).get? a = some { cls := .type "list", data := .seq vs.toArray n } := Heap.get?_push_of_some _ hl
  refine ⟨⟨_, hl', rfl⟩, wpAny_getItem_list_slice (IsL.isList hl') (Heap.IsSliceOf.new _ _ _ _) .none .none (.int (-1) _) (by simp) ⟨_, ?_, k _ h₁'.new⟩ (by simpa using hn)⟩
  rw [krv_pick]
  have := h₁'.push (tk := s₁.toks + 1 + 1) (rl_list (w := c.w) (vs := vs.reverse) (xs := xs.reverse) (n := 0) (by rw [List.map_reverse, hw]) (by simpa using hn))
  simpa using this
end
end Mine

end

section
open PySem PySem.W PyProof.Rows PySem.Spec PySem.Calls
set_option Elab.async false
set_option maxRecDepth 100000
set_option linter.unusedVariables false
namespace Mine
section
variable {c : Fx} {m : List (Option V)} {σ : AH} {E : Value → Shared → Prop} {s : Shared}

/-- a walk over a hidden iterator, seen from a frame -/
structure Wk (c : Fx) (A : Around) (I : Addr) (n : Nat) (P : Nat → V → Prop) (D : AH → Prop) (St' : Nat → Heap → Prop) : Prop where
  keep : ∀ i h h' σ, St' i h → D σ → (∀ o, h.get? I = some o → h'.get? I = some o) → (∀ a o, σ a = some o → ∃ x, h'.get? a = some x ∧ Rl c.w o x) → St' i h'
  item : ∀ i (s : Shared) (Q : Option Value → Shared → Prop) (E : Value → Shared → Prop), i < n → St' i s.heap → (∀ v h' tk, P i (er v) → St' (i + 1) h' → (∀ b o, b ≠ I → s.heap.get? b = some o → h'.get? b = some o) → Q (some v) { s with heap := h', toks := tk }) → wpAny c.M A (pyNext (.ref I)) Q E s
  done : ∀ (s : Shared) (Q : Option Value → Shared → Prop) (E : Value → Shared → Prop), St' n s.heap → (∀ h' tk, (∀ b o, b ≠ I → s.heap.get? b = some o → h'.get? b = some o) → Q none { s with heap := h', toks := tk }) → wpAny c.M A (pyNext (.ref I)) Q E s
  there : ∀ i h, St' i h → ∃ o, h.get? I = some o
  self : ∀ i (s : Shared) (Q : Value → Shared → Prop) (E : Value → Shared → Prop), St' i s.heap → Q (.ref I) s → wpAny c.M A (pyIter (.ref I)) Q E s

/-- only the iterator turned -/
theorem St.butI (hs : St c m σ s) {I : Addr} {h' tk} (hI : σ I = none) (hg : c.g.g.get? I = none ∧ c.g.f.get? I = none) (hL : I ≠ c.env.locals) (hk : ∀ b o, b ≠ I → s.heap.get? b = some o → h'.get? b = some o) : St c m σ { s with heap := h', toks := tk } := by
  obtain ⟨mr, n, l⟩ := hs.loc
  refine ⟨⟨fun a o e => ?_, fun a x e => ?_, hs.st.out, fun a x e => ?_, hs.st.outf, ?_⟩, ⟨mr, Ns.at_get n fun o e => hk _ o (Ne.symm hL) e, l⟩, hs.outL⟩
  · obtain ⟨x, hx, r⟩ := hs.st.rep a o e
    exact ⟨x, hk a x (fun q => by rw [q, hI] at e; cases e) hx, r⟩
  · exact hk a x (fun q => by rw [q, hg.1] at e; cases e) (hs.st.keep a x e)
  · obtain ⟨sl, e'⟩ := hs.st.slot a x e
    exact ⟨sl, hk a _ (fun q => by rw [q, hg.2] at e; cases e) e'⟩
  · obtain ⟨h, tk, rfl⟩ := hs.st.same
    exact ⟨h', _, rfl⟩

theorem for_core {target : Expr} {b : List Stmt} {Q : FL → List (Option V) → AH → Prop} {x : String} {px : Pos} (htg : target = .Name (Str.ofString x) px) {n : Nat} {P : Nat → V → Prop} {D : AH → Prop} {St' : Nat → Heap → Prop} {I : Addr} (W : Wk c c.A I n P D St')
    (J : Nat → List (Option V) → AH → Prop) (hE : PassesOwn c.M c.A c.env E) (ok : c.Ok) (hs : St c m σ s) (hI : σ I = none) (hIg : c.g.g.get? I = none ∧ c.g.f.get? I = none) (hIL : I ≠ c.env.locals) (hst : St' 0 s.heap)
    (h₀ : J 0 m σ) (hD : ∀ i m₁ σ₁, J i m₁ σ₁ → D σ₁)
    (turn : ∀ i v m₁ σ₁ g, Over c g → i < n → P i v → J i m₁ σ₁ → ∃ m₂, Put c.ns m₁ x v m₂ ∧ AX (c.wg g) b m₂ σ₁ (fun fl m₃ σ₃ => match fl with
        | .next | .cont => J (i + 1) m₃ σ₃
        | .brk => Q .next m₃ σ₃
        | .ret v => Q (.ret v) m₃ σ₃) E)
    (fin : ∀ m₁ σ₁, J n m₁ σ₁ → Q .next m₁ σ₁) :
    codeAny c.M c.A (.forLoop target (.ref I) b [] c.env) (fun r s' => match r with | .ok f => ∃ m' σ', St c m' σ' s' ∧ Q (erF f) m' σ' | .error e => cameBackBy c.M c.A c.env E e s') s := by
  subst htg
  refine codeAny_forLoop (fun k s' => ∃ i m₁ σ₁, i ≤ n ∧ k = n + 1 - i ∧ St c m₁ σ₁ s' ∧ σ₁ I = none ∧ St' i s'.heap ∧ J i m₁ σ₁) ?_ (n + 1) ⟨0, m, σ, Nat.zero_le _, rfl, hs, hI, hst, h₀⟩
  rintro k s' ⟨i, m₁, σ₁, hi, rfl, hs₁, hI₁, hst₁, hJ⟩
  by_cases hlt : i < n
  · refine W.item i _ _ _ hlt hst₁ fun v h' tk hP hst₂ hk => ?_
    have hs₂ : St c m₁ σ₁ { s' with heap := h', toks := tk } := hs₁.butI hI₁ hIg hIL hk
    obtain ⟨oI, eI⟩ := W.there _ _ hst₂
    obtain ⟨m₂, hput, hb⟩ := turn i (er v) m₁ σ₁ (ground c σ₁ { s' with heap := h', toks := tk }) (hs₂.over ok) hlt hP hJ
    have gI : (ground c σ₁ { s' with heap := h', toks := tk }).get? I = some oI := ground_get.mpr ⟨hI₁, hIg.2, hIL, eI⟩
    have ok' := ok.over (hs₂.over ok)
    refine wpAny_assign_Name ?_
    refine wp_store (c := c.wg (ground c σ₁ { s' with heap := h', toks := tk })) ok' hs₂.wg hput fun s₃ hs₃ => ?_
    refine wpAny_mono (hb ok' s₃ hs₃) (fun f s₄ ⟨m₃, σ₃, hs₄, q⟩ => ?_) hE
    have hs₄' : St c m₃ σ₃ s₄ := hs₄.ug (hs₂.over ok)
    have hI₃ : σ₃ I = none := hs₄.st.out I oI gI
    have nxt : J (i + 1) m₃ σ₃ → ∃ k', k' < n + 1 - i ∧ ∃ i' m' σ', i' ≤ n ∧ k' = n + 1 - i' ∧ St c m' σ' s₄ ∧ σ' I = none ∧ St' i' s₄.heap ∧ J i' m' σ' := fun hJ' => by
      refine ⟨n + 1 - (i + 1), by omega, i + 1, m₃, σ₃, hlt, rfl, hs₄', hI₃, ?_, hJ'⟩
      exact W.keep (i + 1) _ _ σ₃ hst₂ (hD _ _ _ hJ') (fun o e => hs₄.st.keep I o (by
        have : oI = o := by have e' : h'.get? I = some o := e; rw [eI] at e'; exact Option.some.inj e'
        rw [← this]; exact gI)) hs₄.st.rep
    cases f with
    | next => exact nxt q
    | cont => exact nxt q
    | brk => exact ⟨m₃, σ₃, hs₄', q⟩
    | ret v => exact ⟨m₃, σ₃, hs₄', q⟩
  · obtain rfl : i = n := Nat.le_antisymm hi (Nat.not_lt.mp hlt)
    refine W.done _ _ _ hst₁ fun h' tk hk => ?_
    exact wpAny_execs_nil ⟨m₁, σ₁, hs₁.butI hI₁ hIg hIL hk, fin _ _ hJ⟩

theorem Wk.list {A : Around} {I ax : Addr} {xs : List V} (hh : A.handled = none) (hne : ax ≠ I) :
    Wk c A I xs.length (fun i v => xs[i]? = some v) (fun σ => σ ax = some (.list xs)) (fun i h => h.IsListIter I ax i ∧ ∃ (vs : List Value) (k : Nat), h.get? ax = some { cls := .type "list", data := .seq vs.toArray k } ∧ vs.map er = xs) where
  keep i h h' σ st hd hI hr := by
    obtain ⟨⟨o, e, r⟩, _⟩ := st
    obtain ⟨x, hx, vs, k, rfl, hv, _⟩ := hr ax _ hd
    exact ⟨⟨o, hI o e, r⟩, vs, k, hx, hv⟩
  item i s Q E hi st hQ := by
    obtain ⟨it, vs, k, hl, hv⟩ := st
    have hlen : xs.length = vs.length := by rw [← hv, List.length_map]
    refine (Walks.list hh I ax hne vs.toArray).item i s Q E (by simpa [← hlen] using hi) ⟨it, IsL.isList hl⟩ fun v h' tk hP hst hk => hQ v h' tk ?_ ⟨hst.1, vs, k, hk ax _ (by simpa using hne) hl, hv⟩ fun b o hb e => hk b o (by simpa using hb) e
    rw [← hv, List.getElem?_map]
    have : vs[i]? = some v := by simpa using hP
    rw [this]; rfl
  done s Q E st hQ := by
    obtain ⟨it, vs, k, hl, hv⟩ := st
    have hlen : xs.length = vs.toArray.size := by rw [← hv]; simp
    rw [hlen] at it
    exact (Walks.list hh I ax hne vs.toArray).done s Q E ⟨it, IsL.isList hl⟩ fun h' tk hk => hQ h' tk fun b o hb e => hk b o (by simpa using hb) e
  there i h st := by obtain ⟨⟨o, e, _⟩, _⟩ := st; exact ⟨o, e⟩
  self i s Q E st hQ := wpAny_pyIter_listiter st.1 hQ
theorem Wk.range {A : Around} {I : Addr} {a : Int} {n : Nat} (hh : A.handled = none) :
    Wk c A I n (fun i v => v = .int (a + i)) (fun _ => True) (fun i h => IsRangeIter h I (a + (i : Nat) * 1) ((n : Int) - (i : Nat)) 1) where
  keep i h h' σ st _ hI _ := by
    have st' : h.get? I = some _ := st
    exact hI _ st'
  item i s Q E hi st hQ := by
    refine (Walks.range hh I a 1 n).item i s Q E hi st fun v h' tk hP hst hk => hQ v h' tk ?_ hst fun b o hb e => hk b o (by simpa using hb) e
    obtain ⟨t, rfl⟩ := hP
    simp [er]
  done s Q E st hQ := (Walks.range hh I a 1 n).done s Q E st fun h' tk hk => hQ h' tk fun b o hb e => hk b o (by simpa using hb) e
  there i h st := ⟨_, st⟩
  self i s Q E st hQ := (Walks.range hh I a 1 n).self i s Q E st hQ
theorem Wk.str {A : Around} {I : Addr} {x : Str} {St' : Nat → Heap → Prop} (W : Walks PySem.Challenge.pw_pq0932_01 c.w A I [I] [I] x.cps.size (SignAt x) St') (hT : ∀ i h, St' i h → ∃ o, h.get? I = some o) :
    Wk c A I x.cps.size (fun i v => ∃ n, x.cps.toList[i]? = some n ∧ v = .str [n]) (fun _ => True) St' where
  keep i h h' σ st _ hI _ := W.frame i h h' st fun b hb o e => by
    obtain rfl := List.mem_singleton.mp hb
    exact hI o e
  item i s Q E hi st hQ := W.item i s Q E hi st fun v h' tk hP hst hk => hQ v h' tk (by
    obtain ⟨c, t, h1, rfl⟩ := hP
    exact ⟨c, by simpa using h1, by simp [er]⟩) hst fun b o hb e => hk b o (by simpa using hb) e
  done s Q E st hQ := W.done s Q E st fun h' tk hk => hQ h' tk fun b o hb e => hk b o (by simpa using hb) e
  there := hT
  self i s Q E st hQ := W.self i s Q E st hQ
end
end Mine

end

section
open PySem PySem.W PyProof.Rows PySem.Spec PySem.Calls
set_option Elab.async false
set_option maxRecDepth 100000
set_option linter.unusedVariables false
namespace Mine
section
variable {c : Fx} {m : List (Option V)} {σ : AH} {E : Value → Shared → Prop} {s : Shared}

theorem St.newI (ok : c.Ok) (hs : St c m σ s) : σ s.heap.objs.size = none ∧ (c.g.g.get? s.heap.objs.size = none ∧ c.g.f.get? s.heap.objs.size = none) ∧ s.heap.objs.size ≠ c.env.locals := by
  refine ⟨hs.st.fresh (Nat.le_refl _), ⟨?_, ?_⟩, ?_⟩
  · cases e : c.g.g.get? s.heap.objs.size with
    | none => rfl
    | some x => exact absurd (Heap.lt_size (hs.st.keep _ _ e)) (Nat.lt_irrefl _)
  · cases e : c.g.f.get? s.heap.objs.size with
    | none => rfl
    | some x =>
      obtain ⟨sl, e'⟩ := hs.st.slot _ _ e
      exact absurd (Heap.lt_size e') (Nat.lt_irrefl _)
  · obtain ⟨mr, ⟨o, _, _, e, _⟩, _⟩ := hs.loc
    exact fun q => absurd (Heap.lt_size e) (by rw [q]; exact Nat.lt_irrefl _)

@[reducible] noncomputable def KFor (J : Nat → List (Option V) → AH → Prop) (i : Nat) (Q : FL → List (Option V) → AH → Prop) : FL → List (Option V) → AH → Prop := fun fl m₃ σ₃ => match fl with
        | .next | .cont => J (i + 1) m₃ σ₃
        | .brk => Q .next m₃ σ₃
        | .ret v => Q (.ret v) m₃ σ₃
/-- what a for over a list owes -/
noncomputable def ForL (c : Fx) (x : String) (b : List Stmt) (n : Nat) (P : Nat → V → Prop) (D : AH → Prop) (m : List (Option V)) (σ : AH) (Q : FL → List (Option V) → AH → Prop) (E : Value → Shared → Prop) : Prop :=
  ∃ J : Nat → List (Option V) → AH → Prop, J 0 m σ ∧ (∀ i m₁ σ₁, J i m₁ σ₁ → D σ₁) ∧
    (∀ i v m₁ σ₁ g, Over c g → i < n → P i v → J i m₁ σ₁ → ∃ m₂, Put c.ns m₁ x v m₂ ∧ AX (c.wg g) b m₂ σ₁ (KFor J i Q) E) ∧
    (∀ m₁ σ₁, J n m₁ σ₁ → Q .next m₁ σ₁)

@[reducible] noncomputable def KFl (c : Fx) (x : String) (b : List Stmt) (m : List (Option V)) (Q : FL → List (Option V) → AH → Prop) (E : Value → Shared → Prop) : V → AH → Prop := fun u σ₁ => ∃ a xs, u = .ref a ∧ σ₁ a = some (.list xs) ∧ ForL c x b xs.length (fun i v => xs[i]? = some v) (fun σ => σ a = some (.list xs)) m σ₁ Q E
@[reducible] noncomputable def KFr (c : Fx) (x : String) (b : List Stmt) (m : List (Option V)) (Q : FL → List (Option V) → AH → Prop) (E : Value → Shared → Prop) : V → AH → Prop := fun u σ₁ => ∃ n : Nat, u = .int n ∧ n ≤ 2 ^ 40 ∧ ForL c x b n (fun i v => v = .int i) (fun _ => True) m σ₁ Q E
theorem ax_forl {x : String} {px : Pos} {iter b p} {Q : FL → List (Option V) → AH → Prop} (hh : c.h = true) (hE : PassesOwn c.M c.A c.env E)
    (h : AE c iter m σ (KFl c x b m Q E) E)
    (hf : ∀ v, foldedSetIterable iter c.env v = pure v) : AX1 c (.For (.Name (Str.ofString x) px) iter b [] p) m σ Q E := by
  intro ok s hs
  refine wpAny_For (wpAny_mono (h ok s hs) (fun u s₁ ⟨σ₁, h₁, a, xs, e1, e2, J, j0, jD, jt, jf⟩ => ?_) fun _ _ e => e) hf
  cases er_ref e1
  obtain ⟨vs, n, hl, hv, hn⟩ := h₁.list e2
  obtain ⟨n1, n2, n3⟩ := h₁.newI ok
  have hlt : a < s₁.heap.objs.size := Heap.lt_size hl
  refine wpAny_pyIter_list (IsL.isList hl) ?_
  exact for_core rfl (Wk.list (ax := a) (xs := xs) (ok.hnd hh) (Nat.ne_of_lt hlt)) J hE ok (h₁.pushHid (tk := s₁.toks)) n1 n2 n3
    ⟨⟨_, Heap.get?_push_size _ rfl, rfl, rfl⟩, vs, n, Heap.get?_push_of_some _ hl, hv⟩ j0 jD jt jf
theorem ax_forr {x : String} {px rp cp : Pos} {e b p} {Q : FL → List (Option V) → AH → Prop} (hh : c.h = true) (hE : PassesOwn c.M c.A c.env E) (hr : "range" ∈ c.gs)
    (h : AE c e m σ (KFr c x b m Q E) E)
    (hst : starEach [e] c.env = [e].map fun e => (false, eval e c.env))
    (he : eval (.Call (.Name (Str.ofString "range") rp) [e] [] cp) c.env = (do callWith cp (← eval (.Name (Str.ofString "range") rp) c.env) [] (backTo cp (starEach [e] c.env)) (backToKw cp (keywordEach [] c.env))))
    (hf : ∀ v, foldedSetIterable (.Call (.Name (Str.ofString "range") rp) [e] [] cp) c.env v = pure v) :
    AX1 c (.For (.Name (Str.ofString x) px) (.Call (.Name (Str.ofString "range") rp) [e] [] cp) b [] p) m σ Q E := by
  intro ok s hs
  refine wpAny_For (Call_ ?_ he) hf
  refine wpAny_mono (ae_bv (c := c) (m := m) (σ := σ) (E := E) (p := rp) (Q := fun v σ' => v = .type "range" ∧ σ' = σ) hr .range ⟨rfl, rfl⟩ ok s hs) (fun f s₁ ⟨σ₁, h₁, e1, e2⟩ => ?_) fun _ _ e => e
  subst e2
  cases er_type e1
  have hk : (([(false, eval e c.env)] : List (Bool × Sem Value)).any (·.1) || ([] : List (Option Str × Sem Value)).any (·.1.isNone)) = false := rfl
  rw [hst]
  refine callWith_of (P := (KH c.w).In) rfl (fun hp X => kp_looks (w := c.w) (f := .type "range") trivial hp X) ?_
  refine evalArgs_plain (spliced_cons (wpAny_mono (h ok s₁ h₁) (fun u s₂ ⟨σ₂, h₂, n, e3, hn, J, j0, jD, jt, jf⟩ => spliced_nil ⟨h₂.kin ok, ?_⟩) fun _ _ e => e))
  obtain ⟨t, rfl⟩ := er_int e3
  refine call_range_1 ?_
  have hsz : Builtin.Range.rangeSize 0 (n : Int) 1 = (n : Int) := by rw [rangeSize_one]; split <;> omega
  have h₃ := h₂.pushHid (x := { cls := .type "range", data := .fields #[.int 0 s₂.toks, .int (n : Int) t, .int 1 (s₂.toks + 1)] }) (tk := s₂.toks + 1 + 1)
  have hn' : (n : Int) ≤ 2 ^ 40 := by exact_mod_cast hn
  refine wpAny_pyIter_range (IsRange.new _ _ _ _ _ _ _) (small_one (by omega) (by omega) (by omega) (by omega)) ?_
  obtain ⟨n1, n2, n3⟩ := h₃.newI ok
  refine for_core rfl (Wk.range (a := 0) (n := n) (ok.hnd hh)) J hE ok (h₃.pushHid (tk := s₂.toks + 1 + 1)) n1 n2 n3 ?_ j0 (fun _ _ _ _ => trivial) (fun i v m₁ σ₁ g ov hi hP hJ => jt i v m₁ σ₁ g ov hi (by rw [hP]; simp) hJ) jf
  show IsRangeIter _ _ _ _ _
  unfold IsRangeIter
  rw [hsz, Heap.get?_push_size _ rfl]
  simp
end
end Mine

end

section
open PySem PySem.W PyProof.Rows PySem.Spec PySem.Calls
open Sem (wp)
set_option Elab.async false
set_option maxRecDepth 100000
set_option linter.unusedVariables false
namespace Mine

/-- the dict of e stands while t runs -/
structure Kd (e d : Addr) {α : Type} (t : Sem α) : Prop where
  out : ∀ (M : Model) (Γ : PySem.Ctx) (P : α → Pos → Shared → Prop) (Ee : Value → Pos → Shared → Prop) (p : Pos) (s : Shared), DictAt e d s.heap → wp M Γ t P Ee p s → wp M Γ t (fun a p' s' => P a p' s' ∧ DictAt e d s'.heap) Ee p s
section
variable {e d : Addr} {α β : Type}
theorem kd_pure (a : α) : Kd e d (pure a : Sem α) := ⟨fun _ _ _ _ _ _ hd h => ⟨h, hd⟩⟩
theorem kd_uns (w : String) : Kd e d (unsupported w : Sem α) := ⟨fun _ _ _ _ _ _ _ h => h⟩
theorem kd_bind {m : Sem α} {f : α → Sem β} (hm : Kd e d m) (hf : ∀ a, Kd e d (f a)) : Kd e d (m >>= f) := ⟨fun M Γ P Ee p s hd h => by
  rw [Sem.wp_bind'] at h ⊢
  exact Sem.wp_mono M Γ m (fun a p' s' h' => (hf a).out M Γ P Ee p' s' h'.2 h'.1) (fun _ _ _ x => x) p s (hm.out M Γ _ Ee p s hd h)⟩
theorem kd_ite {c : Prop} [Decidable c] {t u : Sem α} (ht : Kd e d t) (hu : Kd e d u) : Kd e d (if c then t else u) := by split <;> assumption
theorem kd_load (a : Addr) : Kd e d (load a) := ⟨fun M Γ P Ee p s hd h => by
  obtain ⟨o, ho, h'⟩ := h
  exact ⟨o, ho, h', hd⟩⟩
theorem kd_stack : Kd e d stack := ⟨fun M Γ P Ee p s hd h => by
  unfold stack at h ⊢
  rw [Sem.wp_stack] at h ⊢
  exact ⟨h, hd⟩⟩
theorem kd_alloc (o : Obj) : Kd e d (alloc o) := ⟨fun M Γ P Ee p s hd h => by
  obtain ⟨x, vs, hx, hxd⟩ := hd
  exact ⟨h, x, vs, Heap.get?_push_of_some _ hx, hxd⟩⟩
/-- what leaves a fault a fault -/
noncomputable def Mild (f : Obj → Obj) : Prop := ∀ o, (f o).dict = o.dict ∧ (f o).cls = o.cls ∧ (f o).isFreed = o.isFreed ∧ ∀ vs, o.data = .fields vs → ∃ vs', (f o).data = .fields vs' ∧ vs'[2]? = vs[2]?
theorem dictAt_update {h : Heap} {a : Addr} {f : Obj → Obj} (hf : Mild f) (hd : DictAt e d h) : DictAt e d (h.update a f) := by
  obtain ⟨x, vs, hx, h1, h2, h3, h4⟩ := hd
  by_cases q : a = e
  · subst q
    obtain ⟨f1, f2, f3, f4⟩ := hf x
    obtain ⟨vs', f5, f6⟩ := f4 vs h3
    exact ⟨f x, vs', Heap.get?_update_self f hx (by rw [f3]; exact (Heap.get?_some_iff.mp hx).2), by rw [f2, h1], by rw [f1, h2], f5, by rw [f6, h4]⟩
  · exact ⟨x, vs, (Heap.get?_update_other _ _ q).trans hx, h1, h2, h3, h4⟩
theorem kd_update (a : Addr) (f : Obj → Obj) (hf : Mild f) : Kd e d (update a f) := ⟨fun M Γ P Ee p s hd h => by
  have h' := (Sem.wp_cmd_update M Γ Ee p s a f P).mp h
  exact (Sem.wp_cmd_update M Γ Ee p s a f _).mpr ⟨h'.1, h'.2, dictAt_update hf hd⟩⟩
theorem mapF {i : Nat} (hi : i ≠ 2) (x : Value) : Mild (Obj.mapFields (·.setIfInBounds i x)) := fun o => by
  obtain ⟨c, d, dt, sl⟩ := o
  cases dt
  case fields vs => exact ⟨rfl, rfl, rfl, fun vs' h => by cases h; exact ⟨_, rfl, by rw [Array.getElem?_setIfInBounds_ne hi]⟩⟩
  all_goals exact ⟨rfl, rfl, rfl, fun vs' h => by cases h⟩
theorem slF (g : Obj → Array (Option Value)) : Mild (fun o => { o with slots := g o }) := fun o => by
  obtain ⟨c, d, dt, sl⟩ := o
  cases dt <;> exact ⟨rfl, rfl, rfl, fun vs' h => ⟨vs', h, rfl⟩⟩
theorem kd_field (v : Value) (i : Nat) : Kd e d (field v i) := ⟨fun M Γ P Ee p s hd h => by
  obtain ⟨a, o, vs, x, h1, h2, h3, h4, h5⟩ := (wp_field_iff Γ v i P Ee p s).mp h
  exact (wp_field_iff Γ v i _ Ee p s).mpr ⟨a, o, vs, x, h1, h2, h3, h4, h5, hd⟩⟩
theorem kd_setField (v : Value) {i : Nat} (hi : i ≠ 2) (x : Value) : Kd e d (setField v i x) := ⟨fun M Γ P Ee p s hd h => by
  obtain ⟨a, o, vs, h1, h2, h3, h4, h5⟩ := (wp_setField_iff Γ v i x P Ee p s).mp h
  exact (wp_setField_iff Γ v i x _ Ee p s).mpr ⟨a, o, vs, h1, h2, h3, h4, h5, dictAt_update (mapF hi x) hd⟩⟩
end
theorem kd_words : True := by
  k_with "kd" => (repeat' with_reducible first
    | assumption
    | exact kd_pure _
    | exact kd_uns _
    | exact kd_field _ _
    | exact kd_setField _ (by decide) _
    | exact kd_load _
    | exact kd_update _ _ (slF _)
    | exact kd_stack
    | exact kd_alloc _
    | apply kd_ite
    | apply kd_bind
    | intro _
    | split)
  trivial
section
variable {e d : Addr}
theorem kd_behind (env : Env) (outer : List Env) : Kd e d (behindIsImport env outer) := by
  unfold behindIsImport
  k_extra "kd"
theorem kd_under : Kd e d underTheClaimsCaller := by
  unfold underTheClaimsCaller
  k_extra "kd"
theorem kd_kept (env : Env) (i : Bool) (l : List Env) : Kd e d (keptBack env i l) := by
  have := kd_under (e := e) (d := d)
  cases l <;> unfold keptBack <;> k_extra "kd"
theorem kd_ready : ∀ l : List Env, Kd e d (readyFrames l)
  | [] => kd_pure _
  | env :: outer => by
    have ih := kd_ready outer
    have h1 := kd_behind (e := e) (d := d) env outer
    have h2 := fun i => kd_kept (e := e) (d := d) env i outer
    unfold readyFrames
    k_extra "kd"
    all_goals first | exact h2 _ | skip
theorem kd_frameObject (l : List Env) : Kd e d (frameObject l) := by
  cases l with
  | nil => exact kd_pure _
  | cons env outer =>
    have := kd_ready (e := e) (d := d) (env :: outer)
    unfold frameObject
    k_extra "kd"
theorem kd_frameEnvs : Kd e d frameEnvs := by
  unfold frameEnvs
  k_extra "kd"
theorem kd_frameOf (env : Env) : Kd e d (PySem.frameOf env) := by
  have h1 := kd_frameEnvs (e := e) (d := d)
  have h2 := kd_frameObject (e := e) (d := d)
  unfold PySem.frameOf
  k_extra "kd"
  all_goals first | exact h2 _ | skip
theorem kd_place (f : Addr) (b : Bool) : Kd e d (entryPlaceOf f b) := by
  unfold entryPlaceOf
  k_extra "kd"
theorem kd_entry (a b c d' e' : Value) (l : List Value) : Kd e d (EntryCells.newEntry a b c d' e' l) := by
  unfold EntryCells.newEntry newFields newObj newObjAsIs
  k_extra "kd"
theorem kd_note (v : Value) (env : Env) : Kd e d (noteFrame v env) := by
  have h1 := kd_frameOf (e := e) (d := d) env
  have h2 := fun f b => kd_place (e := e) (d := d) f b
  have h3 := fun a b c d' e' l => kd_entry (e := e) (d := d) a b c d' e' l
  unfold noteFrame
  k_extra "kd"
  all_goals first | exact h2 _ _ | exact h3 _ _ _ _ _ _ | skip
theorem kd_flight (v : Value) (f : Option Addr) : Kd e d (setFlight v f) := by
  unfold setFlight
  k_extra "kd"
theorem kd_leaving (env : Env) (v : Value) : Kd e d (leaving env v) := by
  unfold leaving
  exact kd_bind (kd_note _ _) fun _ => kd_flight _ _
end
theorem Kd.any {e d : Addr} {α : Type} {t : Sem α} (k : Kd e d t) {M A E s} {Q : α → Shared → Prop} (hd : DictAt e d s.heap) (h : wpAny M A t Q E s) : wpAny M A t (fun a s' => Q a s' ∧ DictAt e d s'.heap) E s :=
  fun Γ p hΓ => k.out M Γ _ _ p s hd (h Γ p hΓ)

section
variable {c : Fx} {m : List (Option V)} {σ : AH} {E : Value → Shared → Prop} {s : Shared}
/-- a fault that came from a call leaves the frame -/
theorem fz_xe {X X' : Int → AH → Prop} {v} (hfr : c.fr = true) (ok : c.Ok) (h : Fz c m X v s) (k : ∀ i σ, X i σ → X' i σ) : XE c X' v s := by
  obtain ⟨σ, S, e, t, d, kv, i, B, rfl, hf, hg, hr, hd, h1, h2, h3⟩ := h
  refine wpAny_mono ((kd_leaving c.env _).any hd (wpAny_leaves_onW (Q := fun _ s' => ∃ h', s' = { s with heap := h' } ∧ Heap.FlyingW B c.l e (.ref 71) (.ref t) h' ∧ s.heap.UpToSlots h') (ok.stack hfr) (ok.frame hfr) hf fun h' f' u' => ⟨h', rfl, f', u'⟩)) ?_ fun _ _ e => e
  rintro _ _ ⟨⟨h', rfl, f', u'⟩, d'⟩
  refine ⟨σ, ⟨fun a o q => ?_, fun a x q => f'.1 a x (hg a x q), S.st.out, fun a x q => ?_, S.st.outf, ?_⟩, e, t, d, kv, i, B, rfl, f', hg, hr, d', h1, h2, k i σ h3⟩
  · obtain ⟨x, hx, r⟩ := hr a o q
    exact ⟨x, f'.1 a x hx, r⟩
  · obtain ⟨sl, e'⟩ := S.st.slot a x q
    obtain ⟨sl', e₂⟩ := u' a _ e' (ok.frs.2 a x q).2
    exact ⟨sl', e₂⟩
  · obtain ⟨h₁, t₁, e₁⟩ := S.st.same
    exact ⟨h', t₁, by rw [e₁]⟩

/-- what is no more spoken of -/
noncomputable def del (σ : AH) (a : Addr) : AH := fun b => if b = a then none else σ b
theorem St.del (hs : St c m σ s) (e : Addr) : St c m (del σ e) s := by
  refine ⟨⟨fun a o q => ?_, hs.st.keep, fun a x q => ?_, hs.st.slot, fun a x q => ?_, hs.st.same⟩, hs.loc, ?_⟩
  · unfold Mine.del at q
    split at q
    · cases q
    · exact hs.st.rep a o q
  · unfold Mine.del; split
    · rfl
    · exact hs.st.out a x q
  · unfold Mine.del; split
    · rfl
    · exact hs.st.outf a x q
  · unfold Mine.del; split
    · rfl
    · exact hs.outL

/-- a fault that is raised here leaves the frame -/
theorem raise_xe {X : Int → AH → Prop} {e d t : Addr} {kv} {i : Int} (hfr : c.fr = true) (ok : c.Ok) (hs : St c m σ s) (h1 : σ e = some (.exc 71 (some d) t)) (h2 : σ d = some (.ns kv)) (h3 : kv.lookup "at" = some (.int i)) (hX : X i (del σ e)) : XE c X (.ref e) s := by
  obtain ⟨x, hx, rfl⟩ := hs.st.rep e _ h1
  have hde : d ≠ e := fun q => by rw [q, h1] at h2; cases h2
  have hB : ∀ a y, (mask (fun a => (c.env :: c.l).any (fun env => env.frame == some a) || a == e) s.heap).get? a = some y ↔ (∀ env ∈ c.env :: c.l, env.frame ≠ some a) ∧ a ≠ e ∧ s.heap.get? a = some y := fun a y => by
    rw [mask_get]
    by_cases q : ((c.env :: c.l).any (fun env => env.frame == some a) || a == e) = true
    · rw [if_pos q]
      refine ⟨fun z => (nomatch z), fun ⟨z1, z2, _⟩ => ?_⟩
      rcases Bool.or_eq_true_iff.mp q with q | q
      · obtain ⟨env, he, hf⟩ := List.any_eq_true.mp q
        exact absurd (eq_of_beq hf) (z1 env he)
      · exact absurd (eq_of_beq q) z2
    · rw [if_neg q]
      refine ⟨fun z => ⟨fun env he hf => q ?_, fun z => q (by rw [z]; simp), z⟩, fun z => z.2.2⟩
      rw [Bool.or_eq_true_iff]; left
      exact List.any_eq_true.mpr ⟨env, he, by rw [hf]; simp⟩
  generalize hBe : mask (fun a => (c.env :: c.l).any (fun env => env.frame == some a) || a == e) s.heap = B at hB
  have frD : ∀ a, (∃ env ∈ c.env :: c.l, env.frame = some a) → σ a = none ∧ c.g.g.get? a = none := by
    rintro a ⟨env, he, hf⟩
    rcases List.mem_cons.mp he with rfl | he
    · rw [ok.frame hfr] at hf; cases hf; exact ⟨hs.outL, ok.notL⟩
    · obtain ⟨_, L, o, hL, ho⟩ := ok.frs.1 env he
      rw [hL] at hf; cases hf
      exact ⟨hs.st.outf _ _ ho, (ok.frs.2 _ _ ho).1⟩
  have kb : B.StaysIn s.heap := fun b o q => ((hB b o).mp q).2.2
  have hen : B.get? e = none := by
    cases q : B.get? e with
    | none => rfl
    | some y => exact absurd rfl ((hB e y).mp q).2.1
  have ff : s.heap.FunFrames B (c.env :: c.l) := by
    have one : ∀ env ∈ c.env :: c.l, env.scope.kind ≠ .module ∧ ∃ L o, env.frame = some L ∧ B.get? L = none ∧ s.heap.get? L = some o ∧ ∀ vs, o.data ≠ .fields vs := by
      intro env he
      have fr : ∀ L, env.frame = some L → B.get? L = none := fun L hf => by
        cases q : B.get? L with
        | none => rfl
        | some y => exact absurd hf (((hB L y).mp q).1 env he)
      rcases List.mem_cons.mp he with rfl | he'
      · obtain ⟨mr, n, _⟩ := hs.loc
        obtain ⟨oL, eL, nL⟩ := ns_nf n
        exact ⟨by rw [ok.kind]; decide, _, oL, ok.frame hfr, fr _ (ok.frame hfr), eL, nL⟩
      · obtain ⟨hk, L, o, hL, ho⟩ := ok.frs.1 env he'
        obtain ⟨sl, e'⟩ := hs.st.slot L o ho
        exact ⟨hk, L, _, hL, fr _ hL, e', (ok.frs.2 L o ho).2⟩
    clear frD
    revert one
    generalize c.env :: c.l = l
    intro one
    induction l with
    | nil => trivial
    | cons env l ih => exact ⟨(one env (.head _)).1, (one env (.head _)).2, ih fun v hv => one v (.tail _ hv)⟩
  refine wpAny_mono ((kd_leaving c.env _).any (d := d) ⟨_, _, hx, rfl, rfl, rfl, rfl⟩ (wpAny_leaving_firstW (a0 := .ref t) (Q := fun _ s' => ∃ h', s' = { s with heap := h' } ∧ Heap.LeftW B (c.env :: c.l) e (.ref 71) (.ref t) s.heap h') (ok.stack hfr) ff (ok.frame hfr) hx kb hen rfl rfl rfl fun h' l' => ⟨h', rfl, l'⟩)) ?_ fun _ _ e => e
  rintro _ _ ⟨⟨h', rfl, k1, ⟨_, _, k2⟩, k3, k4⟩, d'⟩
  have inB : ∀ a o, Mine.del σ e a = some o → ∃ x, B.get? a = some x ∧ Rl c.w o x := fun a o q => by
    unfold Mine.del at q
    split at q
    · cases q
    · rename_i hne
      obtain ⟨x, hx, r⟩ := hs.st.rep a o q
      refine ⟨x, (hB a x).mpr ⟨fun env he hf => ?_, hne, hx⟩, r⟩
      have := (frD a ⟨env, he, hf⟩).1
      rw [q] at this; cases this
  have S' := hs.del e
  have gB : ∀ a x, c.g.g.get? a = some x → B.get? a = some x := fun a x q => by
    refine (hB a x).mpr ⟨fun env he hf => ?_, fun z => ?_, hs.st.keep a x q⟩
    · have := (frD a ⟨env, he, hf⟩).2
      rw [q] at this; cases this
    · have := hs.st.out a x q
      rw [z, h1] at this; cases this
  refine ⟨Mine.del σ e, ⟨fun a o q => ?_, fun a x q => k1 a x (gB a x q), S'.st.out, fun a x q => ?_, S'.st.outf, ?_⟩, e, t, d, kv, i, B, rfl, ⟨k1, hen, k2, k3⟩, gB, inB, d', ?_, h3, hX⟩
  · obtain ⟨x, hx, r⟩ := inB a o q
    exact ⟨x, k1 a x hx, r⟩
  · obtain ⟨sl, e'⟩ := hs.st.slot a x q
    obtain ⟨sl', e₂⟩ := k4 a _ e' (ok.frs.2 a x q).2
    exact ⟨sl', e₂⟩
  · obtain ⟨h₁, t₁, e₁⟩ := hs.st.same
    exact ⟨h', t₁, by rw [e₁]⟩
  · unfold Mine.del; rw [if_neg hde]; exact h2
end
end Mine

end

section
open PySem PySem.W PyProof.Rows PySem.Spec PySem.Calls Builtin Builtin.ObjectAttr
set_option Elab.async false
set_option maxRecDepth 100000
set_option linter.unusedVariables false
namespace Mine

-- the dict of an object
theorem nsAre_get {es : List DictEntry} {kv : List (String × V)} (h : NsAre es kv) (x : String) : (∀ v, kv.lookup x = some v → ∃ r, getL (Str.ofString x) es = some (some r) ∧ er r = v) ∧ (kv.lookup x = none → getL (Str.ofString x) es = some none) := by
  induction h with
  | nil =>
    refine ⟨fun _ h => ?_, fun _ => rfl⟩
    cases h
  | @cons e p es kv hk hv hr ih =>
    obtain ⟨t, hk⟩ := hk
    obtain ⟨hs, key, val⟩ := e
    dsimp only at hk hv; subst hk
    by_cases hx : x = p.1
    · subst hx
      have e1 : (Value.str (Str.ofString p.1) t).isStr (Str.ofString p.1) = true := by show (Str.ofString p.1 == Str.ofString p.1) = true; simp
      refine ⟨fun v h => ⟨val, ?_, ?_⟩, fun h => ?_⟩
      · unfold getL; rw [List.find?_cons_of_pos (by exact e1)]
      · rw [List.lookup_cons] at h; simp at h; rw [hv, h]
      · rw [List.lookup_cons] at h; simp at h
    · have e1 : (Value.str (Str.ofString p.1) t).isStr (Str.ofString x) = false := by
        show (Str.ofString p.1 == Str.ofString x) = false
        rw [beq_eq_false_iff_ne]; exact fun q => hx (ofString_inj q).symm
      have e2 : ((p :: kv).lookup x) = kv.lookup x := by
        rw [List.lookup_cons, show (x == p.1) = false by simpa using hx]
      have e3 : getL (Str.ofString x) (⟨hs, .str (Str.ofString p.1) t, val⟩ :: es) = getL (Str.ofString x) es := by
        unfold getL
        rw [List.find?_cons_of_neg (by rw [e1]; exact Bool.false_ne_true), List.any_cons]
        rfl
      rw [e2, e3]; exact ih
theorem nsAre_put {es : List DictEntry} {kv : List (String × V)} (h : NsAre es kv) (x : String) (hs : Int) (t : Tok) (v : Value) : NsAre (putL (Str.ofString x) hs (.str (Str.ofString x) t) v es) (put kv x (er v)) := by
  induction h with
  | nil => exact .cons ⟨t, rfl⟩ rfl .nil
  | @cons e p es kv hk hv hr ih =>
    obtain ⟨t', hk⟩ := hk
    obtain ⟨hs', key, val⟩ := e
    obtain ⟨y, u⟩ := p
    dsimp only at hk hv; subst hk
    by_cases hx : y = x
    · subst hx
      have e1 : (Value.str (Str.ofString y) t').isStr (Str.ofString y) = true := by show (Str.ofString y == Str.ofString y) = true; simp
      unfold putL put
      rw [if_pos (by exact e1), if_pos rfl]
      exact .cons ⟨t', rfl⟩ rfl hr
    · have e1 : (Value.str (Str.ofString y) t').isStr (Str.ofString x) = false := by
        show (Str.ofString y == Str.ofString x) = false
        rw [beq_eq_false_iff_ne]; exact fun q => hx (ofString_inj q)
      unfold putL put
      rw [if_neg (by rw [e1]; exact Bool.false_ne_true), if_neg hx]
      exact .cons ⟨t', rfl⟩ hv ih
theorem nsAre_len {es : List DictEntry} {kv : List (String × V)} (h : NsAre es kv) : es.length = kv.length := by
  induction h with
  | nil => rfl
  | cons _ _ _ ih => simp [ih]
theorem put_len (kv : List (String × V)) (x v) : (put kv x v).length ≤ kv.length + 1 := by
  induction kv with
  | nil => simp [put]
  | cons p kv ih =>
    obtain ⟨y, u⟩ := p
    unfold put; split
    · simp
    · simp; omega

/-- what is asked of a class -/
structure Cl (w : World) (C : Addr) : Prop where
  hd : hasDictIn (KH w) C = true
  ga : findIn (KH w) (.ref C) "__getattribute__" = some (some (.builtin "object.__getattribute__"))
  gt : findIn (KH w) (.ref C) "__getattr__" = some none
  sa : findIn (KH w) (.ref C) "__setattr__" = some (some (.builtin "object.__setattr__"))
theorem cl_node (w) : Cl w 102 := ⟨by kernel_rfl, by kernel_rfl, by kernel_rfl, by kernel_rfl⟩
theorem cl_frame (w) : Cl w 161 := ⟨by kernel_rfl, by kernel_rfl, by kernel_rfl, by kernel_rfl⟩
/-- the names that a class has nothing under -/
inductive Nm : Addr → String → Prop
  | number : Nm 102 "number" | kids : Nm 102 "kids"
  | first : Nm 161 "first" | last : Nm 161 "last" | inner : Nm 161 "inner"
  | what : Nm 71 "what" | at_ : Nm 71 "at"
theorem nm_find {C x} (h : Nm C x) (w) : findIn (KH w) (.ref C) (Str.ofString x) = some none := by cases h <;> kernel_rfl
theorem taker_of {K : Frag} {C : Addr} {n : Str} (h : findIn K (.ref C) n = some none) : takerIn K C n = some none := by unfold takerIn; rw [h]; rfl

theorem handed_er {v : V} {r : Value} (h : er r = v) (hv : ∀ i, v ≠ .builtin i) : handedIn r = true := by
  cases r <;> first | rfl | exact absurd h.symm (hv _)

section
variable {c : Fx} {m : List (Option V)} {σ : AH} {E : Value → Shared → Prop} {s : Shared}

noncomputable def OA (c : Fx) (u : V) (x : String) (m : List (Option V)) (σ : AH) (Q : V → AH → Prop) (E : Value → Shared → Prop) : Prop := ∀ a, er a = u → AV c (getAttr a (Str.ofString x) true) m σ Q E
noncomputable def OAS (c : Fx) (u : V) (x : String) (v : V) (m : List (Option V)) (σ : AH) (Q : AH → Prop) (E : Value → Shared → Prop) : Prop :=
  ∀ a r, er a = u → er r = v → c.Ok → ∀ s, St c m σ s → wpAny c.M c.A (setAttr a (Str.ofString x) r) (fun _ s' => ∃ σ', St c m σ' s' ∧ Q σ') E s

theorem St.instAt (hs : St c m σ s) {a C d kv} (h1 : σ a = some (.inst C d)) (h2 : σ d = some (.ns kv)) : ∃ es n, InstAt s.heap a (instObj C d) C (some (dictOf es n)) ∧ NsAre es kv ∧ kv.length ≤ 100 := by
  obtain ⟨es, n, hd, hn, hz⟩ := hs.nsd h2
  exact ⟨es, n, ⟨hs.inst h1, rfl, rfl, hd⟩, hn, hz⟩
theorem St.excAt (hs : St c m σ s) {a C d kv t} (h1 : σ a = some (.exc C (some d) t)) (h2 : σ d = some (.ns kv)) : ∃ es n, InstAt s.heap a { cls := .ref C, dict := some d, data := .fields #[.ref t, .none, .none, .none, .bool false, .none] } C (some (dictOf es n)) ∧ NsAre es kv ∧ kv.length ≤ 100 := by
  obtain ⟨es, n, hd, hn, hz⟩ := hs.nsd h2
  obtain ⟨x, hx, rfl⟩ := hs.st.rep a _ h1
  exact ⟨es, n, ⟨hx, rfl, rfl, hd⟩, hn, hz⟩

theorem oa_inst {a C d : Addr} {kv} {x : String} {v : V} {Q} (hC : Cl c.w C) (hx : Nm C x) (h1 : σ a = some (.inst C d)) (h2 : σ d = some (.ns kv)) (h3 : kv.lookup x = some v) (hv : ∀ i, v ≠ .builtin i) (k : Q v σ) : OA c (.ref a) x m σ Q E := by
  intro r hr ok s hs
  cases er_ref hr
  obtain ⟨es, n, I, hn, hz⟩ := hs.instAt h1 h2
  obtain ⟨r, hl, he⟩ := (nsAre_get hn x).1 v h3
  exact get_value (hs.kin ok) I hC.ga (findObj_own hC.hd (nm_find hx c.w) rfl hl) (handed_er he hv) ⟨σ, hs.tok, by rw [he]; exact k⟩

theorem bga_kind : builtinKind "BaseException.__getattribute__" = some .slot := by decide +kernel
theorem bga_split : splitId "BaseException.__getattribute__" = some ("BaseException", "__getattribute__") := by decide +kernel
/-- the fields of a fault -/
theorem exc_get {K : Frag} {x C : Addr} {ox : Obj} {od : Option Obj} {name : Str} {v : Value} {expr : Bool} {Q : Value → Shared → Prop} {M A} (hM : ∃ prog w, M = model prog w) (X : K.In s.heap) (I : InstAt s.heap x ox C od) (hga : findIn K (.ref C) "__getattribute__" = some (some (.builtin "BaseException.__getattribute__"))) (hgt : findIn K (.ref C) "__getattr__" = some none)
    (hsub : mroIn K C (.type "BaseException") = some true)
    (hf : findObj K C od name = some (.value v)) (hh : handedIn v = true) (h : Q v { s with toks := s.toks + 1 }) : wpAny M A (getAttr (.ref x) name expr) Q E s := by
  obtain ⟨prog, w, rfl⟩ := hM
  obtain ⟨hp, g, d, tk, os⟩ := s
  have L0 := I.type (M := model prog w)
  have L1 := looks_findIn (M := model prog w) X hga
  have L2 := looks_findIn (M := model prog w) X hgt
  have L3 := looks_find (M := model prog w) X I hf
  have L4 : Looks (model prog w) hp (isInstance (.ref x) (.type "BaseException")) true := L0.andThen (looks_mroIn (M := model prog w) X hsub)
  dsimp only at L0 L1 L2 L3
  unfold getAttr getAttrBy
  refine wpAny_bind (wpAny_mkText (wpAny_holding (wpAny_bind (L0.at (wpAny_bind (L1.at ?_))))))
  have hne : (onTheHeap (Value.ref C) && Value.builtin "BaseException.__getattribute__" == Value.builtin "object.__getattribute__") = false := by
    rw [show (Value.builtin "BaseException.__getattribute__" == Value.builtin "object.__getattribute__") = false from by decide +kernel, Bool.and_false]
  simp only [hne, Bool.false_eq_true, if_false]
  unfold getAttrByItsOwn hookBefore
  simp only [show onTheHeap (Value.ref C) = true from rfl, if_true]
  refine wpAny_bind (L2.at ?_)
  refine wpAny_bind (wpAny_attempt ?_)
  refine wpAny_holding ?_
  unfold callGetattribute
  have hn2 : (expr && onTheHeap (Value.builtin "BaseException.__getattribute__")) = false := by cases expr <;> rfl
  simp only [hn2, Bool.false_eq_true, if_false]
  unfold boundAndCalled
  rw [PySem.F.attr_Exception.ga.bind]
  refine wpAny_bind (wpAny_pure ?_)
  refine wpAny_call (codeAny_call_builtin PySem.F.attr_Exception.ga.plain PySem.F.entry_bexc_ga (@check_slot (model prog w) _ _ ⟨hp, g, d, tk + 1, os⟩ "BaseException.__getattribute__" "BaseException" "__getattribute__" (.ref x) [.str name tk] [] _ bga_kind bga_split L4 (PySem.F.args_bexc_ga (.ref x) (.str name tk)) ?_))
  have e : slotArgs "__getattribute__" 1 ⟨[.ref x, .str name tk], []⟩ = pure (.ref x, [.str name tk]) := rfl
  unfold Builtin.«object.__getattribute__»
  refine wpAny_bind ?_
  show wpAny _ _ (slotArgs "__getattribute__" 1 ⟨[.ref x, .str name tk], []⟩) _ _ _
  rw [e]
  refine wpAny_pure ?_
  refine wpAny_bind (wpAny_pure (wpAny_bind (L0.at (wpAny_bind (L3.at ?_)))))
  refine wpAny_pure ?_
  show wpAny _ _ (handedOut v) _ _ _
  rw [handedOut_of hh]; exact wpAny_pure h
theorem getL_no {n : Str} {es : List DictEntry} {r} (h : getL n es = some r) : (!es.toArray.any (·.key.isStr n) && es.toArray.any (·.refKey)) = false := by
  unfold getL at h
  split at h
  · rename_i e he
    rw [← Array.any_toList, List.any_eq_true.mpr ⟨e, List.mem_of_find?_eq_some he, List.find?_some he⟩]; rfl
  · split at h
    · cases h
    · rename_i z; rw [Bool.not_eq_true] at z; rw [← Array.any_toList, ← Array.any_toList, z, Bool.and_false]
theorem st_storeInDict {A : Around} {d kv x} {r : Value} {tk : Tok} {Q : Fin → Shared → Prop} (hs : St c m σ s) (h2 : σ d = some (.ns kv)) (hz : kv.length < 100)
    (k : ∀ s', St c m (upd σ d (.ns (put kv x (er r)))) s' → Q (.done (.ret .none)) s') : wpAny c.M A (storeInDict d (.str (Str.ofString x) tk) (Str.ofString x) r) Q E s := by
  obtain ⟨es, n, hd, hn, _⟩ := hs.nsd h2
  have hg : ∃ q, getL (Str.ofString x) es = some q := by
    cases e : kv.lookup x with
    | none => exact ⟨_, (nsAre_get hn x).2 e⟩
    | some v => obtain ⟨r, h, _⟩ := (nsAre_get hn x).1 v e; exact ⟨_, h⟩
  obtain ⟨q, hg⟩ := hg
  have hlen := put_len kv x (er r)
  have e' := putName_dict (Str.ofString x) (PyData.keyHash c.w.params (Str.ofString x)) (.str (Str.ofString x) s.toks) r es n
  have hp := nsAre_put hn x (PyData.keyHash c.w.params (Str.ofString x)) s.toks r
  have D' : (s.heap.update d (Obj.putName (Str.ofString x) (PyData.keyHash c.w.params (Str.ofString x)) (.str (Str.ofString x) s.toks) r)).get? d = some (dictOf (putL (Str.ofString x) (PyData.keyHash c.w.params (Str.ofString x)) (.str (Str.ofString x) s.toks) r es) (putN (Str.ofString x) es n)) := by
    rw [Heap.get?_update_self _ hd (by rw [e']; rfl), e']
  unfold storeInDict
  refine wpAny_bind (wpAny_pure (wpAny_bind ?_))
  unfold nsSet
  refine wpAny_bind (wpAny_bind (wpAny_askSetting (wpAny_pure (wpAny_bind (wpAny_mkText (wpAny_bind (wpAny_loadPart hd ?_)))))))
  dsimp only
  rw [aRefKeyMayBeTheName_at, getL_no hg]
  refine wpAny_updatePart hd ?_
  refine wpAny_bind (wpAny_lookBehind D' (pastItsLine_dict ?_) ?_)
  · rw [List.size_toArray, nsAre_len hp, sizeLine_eq]; omega
  · exact wpAny_pure (k _ (hs.set h2 (Heap.SameBut.update ..) D' ⟨_, _, rfl, hp, by omega⟩))

theorem oas_inst {a C d : Addr} {kv} {x : String} {v : V} {Q} (hC : Cl c.w C) (hp : plainOver (KH c.w) C = true) (hx : Nm C x) (h1 : σ a = some (.inst C d)) (h2 : σ d = some (.ns kv)) (hz : kv.length < 100) (k : Q (upd σ d (.ns (put kv x v)))) : OAS c (.ref a) x v m σ Q E := by
  intro va r ha hr ok s hs
  cases er_ref ha; subst hr
  obtain ⟨es, n, I, hn, _⟩ := hs.instAt h1 h2
  have X := hs.kin ok
  refine set_plain X I hC.sa (osa_open (K := KH c.w) (s := { s with toks := s.toks + 1 }) X I hp (taker_of (nm_find hx c.w)) fun b => ?_)
  dsimp only
  obtain ⟨cd, hc, hd'⟩ := any_some hC.hd
  have hs' : St c m σ { s with toks := s.toks + 1 } := hs.tok
  refine wpAny_bind (wpAny_pure (wpAny_bind (wpAny_bind (wpAny_loadPart I.at_ (wpAny_bind (looks_clsIn X hc _ _ _ _ (fun _ _ e => e) ?_))))))
  rw [hd']
  exact wpAny_pure (a := some d) (st_storeInDict hs' h2 hz fun s' h' => ⟨_, h', k⟩)
end
theorem refuse_exc (self : Value) : refuseLoop self "__setattr__" [.type "Exception", .type "BaseException", .type "object"] = pure () := by kernel_rfl
theorem mro71 (w : World) : (clsIn (KH w) 71).map (·.mro) = some [.ref 71, .ref 46, .type "Exception", .type "BaseException", .type "object"] := by kernel_rfl
theorem exc_sa (w : World) : findIn (KH w) (.ref 71) "__setattr__" = some (some (.builtin "object.__setattr__")) := by kernel_rfl
theorem exc_ga (w : World) : findIn (KH w) (.ref 71) "__getattribute__" = some (some (.builtin "BaseException.__getattribute__")) := by kernel_rfl
theorem exc_gt (w : World) : findIn (KH w) (.ref 71) "__getattr__" = some none := by kernel_rfl
theorem exc_hd (w : World) : hasDictIn (KH w) 71 = true := by kernel_rfl

theorem osa_exc {E : Value → Shared → Prop} {s : Shared} {K : Frag} {A : Around} {x C : Addr} {cd : ClassData} {ox : Obj} {od : Option Obj} {name : Str} {v : Value} {Q : Unit → Shared → Prop} {prog w} (X : K.In s.heap) (I : InstAt s.heap x ox C od) (hc : clsIn K C = some cd)
    (hr : refuseLoop (.ref x) "__setattr__" cd.mro = pure ()) (hm : cd.mro.isEmpty = false) (ho : cd.mro.contains (.type "object") = true) (ht : findIn K (.ref C) name = some none) (hs : findIn K (.ref C) "__setattr__" = some (some (.builtin "object.__setattr__")))
    (h : wpAny (model prog w) A.in1 (storeInOwnDict (.ref x) (.ref C) (.str name s.toks) name v false) (fun fin s' => fin = .done (.ret .none) ∧ Q () s') E { s with toks := s.toks + 1 }) :
    wpAny (model prog w) A (setAttr (.ref x) name v) Q E s := by
  have SF := PySem.F.store_object
  refine set_plain X I hs ?_
  have sub : Looks (model prog w) s.heap (isInstance (.ref x) (.type "object")) true := I.type.andThen (looks_mroIn X (by unfold mroIn; rw [hc, Option.bind_some, if_neg (by rw [hm]; decide), ho]))
  refine codeAny_call_builtin SF.slot.plain SF.entry (@check_slot (model prog w) _ _ { s with toks := s.toks + 1 } "object.__setattr__" "object" "__setattr__" (.ref x) [.str name s.toks, v] [] _ SF.kind SF.split sub (SF.args (.ref x) (.str name s.toks) v) ?_)
  have hmro : Looks (model prog w) s.heap (mroOf (.ref C)) cd.mro := (looks_clsIn X hc).andThen .now
  have hk : ∀ b o, s.heap.get? b = some o → s.heap.get? b = some o := fun _ _ e => e
  rw [osa_eq, refuse_eq]
  refine wpAny_bind (wpAny_bind (I.type _ _ _ _ hk (wpAny_bind (hmro _ _ _ _ hk ?_))))
  rw [hr]
  refine wpAny_pure (wpAny_bind (I.type _ _ _ _ hk (wpAny_bind (looks_findIn X ht _ _ _ _ hk (wpAny_bind (wpAny_pure ?_))))))
  refine wpAny_mono h (fun fin s' ⟨e, q⟩ => ?_) fun _ _ e => e
  subst e; exact q

section
variable {c : Fx} {m : List (Option V)} {σ : AH} {E : Value → Shared → Prop} {s : Shared}
theorem oas_exc {a d t : Addr} {kv} {x : String} {v : V} {Q} (hx : Nm 71 x) (h1 : σ a = some (.exc 71 (some d) t)) (h2 : σ d = some (.ns kv)) (hz : kv.length < 100) (k : Q (upd σ d (.ns (put kv x v)))) : OAS c (.ref a) x v m σ Q E := by
  intro va r ha hr ok s hs
  cases er_ref ha; subst hr
  obtain ⟨es, n, I, hn, _⟩ := hs.excAt h1 h2
  have X := hs.kin ok
  obtain ⟨cd, hc, hd'⟩ := any_some (exc_hd c.w)
  have hmro : cd.mro = _ := Option.some.inj ((congrArg (Option.map _) hc).symm.trans (mro71 c.w))
  refine osa_exc X I hc (by rw [hmro, refuseLoop_ref, refuseLoop_ref, refuse_exc]) (by rw [hmro]; rfl) (by rw [hmro]; decide +kernel) (nm_find hx c.w) (exc_sa c.w) ?_
  refine wpAny_bind (wpAny_pure (wpAny_bind (wpAny_bind (wpAny_loadPart I.at_ (wpAny_bind (looks_clsIn X hc _ _ _ _ (fun _ _ e => e) ?_))))))
  rw [hd']
  exact wpAny_pure (a := some d) (st_storeInDict hs.tok h2 hz fun s' h' => ⟨rfl, _, h', k⟩)
theorem oas_exc0 {a t : Addr} {x : String} {v : V} {Q} (hx : Nm 71 x) (h1 : σ a = some (.exc 71 none t)) (k : ∀ d, Fresh σ d → Q (upd (upd (upd σ d (.ns [])) a (.exc 71 (some d) t)) d (.ns (put [] x v)))) : OAS c (.ref a) x v m σ Q E := by
  intro va r ha hr ok s hs
  cases er_ref ha; subst hr
  obtain ⟨xo, hxo, rfl⟩ := hs.st.rep a _ h1
  have I : InstAt s.heap a { cls := .ref 71, data := .fields #[.ref t, .none, .none, .none, .bool false, .none] } 71 none := ⟨hxo, rfl, rfl, trivial⟩
  have X := hs.kin ok
  obtain ⟨cd, hc, hd'⟩ := any_some (exc_hd c.w)
  have hmro : cd.mro = _ := Option.some.inj ((congrArg (Option.map _) hc).symm.trans (mro71 c.w))
  refine osa_exc X I hc (by rw [hmro, refuseLoop_ref, refuseLoop_ref, refuse_exc]) (by rw [hmro]; rfl) (by rw [hmro]; decide +kernel) (nm_find hx c.w) (exc_sa c.w) ?_
  refine wpAny_bind (wpAny_pure (wpAny_bind (wpAny_bind (wpAny_loadPart I.at_ (wpAny_bind (looks_clsIn X hc _ _ _ _ (fun _ _ e => e) ?_))))))
  rw [hd']
  have hs₁ := hs.push (o := .ns []) (x := dictOf [] 0) (tk := s.toks + 1) ⟨[], 0, rfl, .nil, by simp⟩
  have hne : a ≠ s.heap.objs.size := Nat.ne_of_lt (Heap.lt_size hxo)
  have h1' : (upd σ s.heap.objs.size (.ns [])) a = some (.exc 71 none t) := by rw [upd_ne _ _ hne]; exact h1
  have hx₁ : (s.heap.push (dictOf [] 0)).get? a = some _ := Heap.get?_push_of_some _ hxo
  refine wpAny_bind (wpAny_alloc (wpAny_bind (wpAny_update hx₁ ?_)))
  have hs₂ := hs₁.set (o' := .exc 71 (some s.heap.objs.size) t) (tk := s.toks + 1) h1' (Heap.SameBut.update ..) (Heap.get?_update_self (fun o => { o with dict := some s.heap.objs.size }) hx₁ rfl) rfl
  refine wpAny_pure (a := some s.heap.objs.size) ?_
  refine st_storeInDict hs₂ (kv := []) ?_ (by simp) fun s' h' => ⟨rfl, _, h', k _ hs.new⟩
  rw [upd_ne _ _ (Ne.symm hne), upd_same]
-- the words
@[reducible] noncomputable def KAt (c : Fx) (x : String) (m : List (Option V)) (Q : V → AH → Prop) (E : Value → Shared → Prop) : V → AH → Prop := fun u σ₁ => OA c u x m σ₁ Q E
@[reducible] noncomputable def KAs2 (c : Fx) (x : String) (v : V) (m : List (Option V)) (Q : FL → List (Option V) → AH → Prop) (E : Value → Shared → Prop) : V → AH → Prop := fun u σ₂ => OAS c u x v m σ₂ (KN m Q) E
@[reducible] noncomputable def KAs1 (c : Fx) (o : Expr) (x : String) (m : List (Option V)) (Q : FL → List (Option V) → AH → Prop) (E : Value → Shared → Prop) : V → AH → Prop := fun v σ₁ => AE c o m σ₁ (KAs2 c x v m Q E) E
theorem ae_attr {e : Expr} {x : String} {p Q} (h : AE c e m σ (KAt c x m Q E) E)
    (he : eval (.Attribute e (Str.ofString x) p) c.env = (do
      let o ← eval e c.env
      standAt p.atName
      let r ← holding [o] (getAttr o (Str.ofString x) true)
      letTemporaryGo e o r
      pure r)) : AE c (.Attribute e (Str.ofString x) p) m σ Q E :=
  fun ok s hs => Attribute_any_ (wpAny_mono (h ok s hs) (fun a s₁ ⟨_, h₁, k₁⟩ => k₁ a rfl ok s₁ h₁) fun _ _ e => e) he
theorem ax_attr {o : Expr} {x : String} {p' e q Q} (h : AE c e m σ (KAs1 c o x m Q E) E)
    (hs' : swapsWith e (some (.Attribute o (Str.ofString x) p')) q.line c.env = pure false) : AX1 c (.Assign [.Attribute o (Str.ofString x) p'] e q) m σ Q E :=
  fun ok s hs => plainObj_wpAny_Assign_Attribute (wpAny_mono (h ok s hs) (fun v s₁ ⟨_, h₁, k₁⟩ => wpAny_mono (k₁ ok s₁ h₁) (fun u s₂ ⟨_, h₂, k₂⟩ => wpAny_mono (k₂ u v rfl rfl ok s₂ h₂) (fun _ s₃ ⟨_, h₃, k₃⟩ => ⟨_, _, h₃, k₃⟩) fun _ _ e => e) fun _ _ e => e) fun _ _ e => e) hs'
end
end Mine

end

section
open PySem PySem.W PyProof.Rows PySem.Spec PySem.Calls Builtin Builtin.ObjectAttr
set_option Elab.async false
set_option maxRecDepth 100000
set_option linter.unusedVariables false
namespace Mine
section
variable {c : Fx} {m : List (Option V)} {σ : AH} {E : Value → Shared → Prop} {s : Shared}

/-- an object of a class of the text, made -/
theorem oc_make {C fI : Addr} {us k h Q} (hm : makesIn (KH c.w) C = true) (hi : findIn (KH c.w) (.ref C) "__init__" = some (some (.ref fI))) (hf : typeIn (KH c.w) (.ref fI) = some (.type "function")) (hl : k + 1 ≤ c.lvl) (hh : h = true → c.h = true) (hfr : c.fr = true)
    (H : ∀ x d, Fresh σ d → Fresh σ x → x ≠ d → ACall c.w k h fI (.ref x :: us) (upd (upd σ d (.ns [])) x (.inst C d)) (fun v σ' => v = .none ∧ Q (.ref x) σ') (fun _ _ => False)) : OC c (.ref C) us m σ Q E := by
  intro vs hv ok s hs
  have X := hs.kin ok
  have S1 := hs.push (o := .ns []) (x := emptyDict) (tk := s.toks) ⟨[], 0, rfl, .nil, by simp⟩
  have S2 := S1.push (o := .inst C s.heap.objs.size) (x := instObj C s.heap.objs.size) (tk := s.toks) rfl
  have hsz : (s.heap.push emptyDict).objs.size = s.heap.objs.size + 1 := Heap.size_push ..
  dsimp only at S2
  rw [hsz] at S2
  have fx : Fresh σ (s.heap.objs.size + 1) := fun b o e q => by
    obtain ⟨y, hy, _⟩ := hs.st.rep b o e
    have := Heap.lt_size hy; rw [q] at this; exact absurd this (Nat.not_lt.mpr (Nat.le_succ _))
  obtain ⟨hp, g, d, t, os⟩ := s
  refine wpAny_call (make_core (makes_of X hm) (looks_findIn X hi) (fun self => bind_fn X self hf) (.inl rfl) ?_)
  have hr : Room k c.A := ⟨by have := ok.room.1; omega, by have := ok.room.2; omega⟩
  refine codeAny_mono (H (hp.objs.size + 1) hp.objs.size hs.new fx (Nat.succ_ne_self _) _ _ (c.A.under (.builtin "type.__call__" ⟨.ref C :: vs, []⟩)) (c.env :: c.l) (fun v s' => E v s') _ (.ref (hp.objs.size + 1) :: vs) (ok.gnd.keeps (S2.over ok).1) ⟨?_, ?_⟩ (ok.hand.more hh (S2.over ok).1) (ok.stack hfr) (S2.frok hfr ok) (S2.s0 ok) (by simp [er, hv]) fun v s' ⟨σ', S, z⟩ => ?_) fun r s' z => ?_
  · rw [depth_under_make]; have := ok.room.1; omega
  · rw [units_under_make]; have := ok.room.2; omega
  · obtain ⟨_, _, _, _, _, _, _, _, _, _, _, _, _, z⟩ := z; exact z.elim
  · rcases r with e | (v | _ | _ | _)
    · exact z
    all_goals first
      | (obtain ⟨σ', S, q1, q2⟩ := z; exact ⟨er_none q1, σ', S2.back ok S, q2⟩)
      | exact z.elim

/-- a method of an object -/
theorem ae_meth {C f : Addr} {o : Expr} {name : String} {ap p : Pos} {es : List Expr} {pl : Sem Bool} {Q} (hC : Cl c.w C) (hn : findIn (KH c.w) (.ref C) (Str.ofString name) = some (some (.ref f))) (hf : typeIn (KH c.w) (.ref f) = some (.type "function")) (hk : Kp c.w (.ref f))
    (h : AE c o m σ (fun u σ₁ => ∃ a d kv, u = .ref a ∧ σ₁ a = some (.inst C d) ∧ σ₁ d = some (.ns kv) ∧ kv.lookup name = none ∧ AA c p es m σ₁ (KCv c (.ref f) (.ref a) m Q E) E) E)
    (hst : starEach es c.env = es.map fun e => (false, eval e c.env))
    (he : eval (.Call (.Attribute o (Str.ofString name) ap) es [] p) c.env = (do
      let ov ← eval o c.env
      standAt ap.atName
      let (f, first) ← holding [ov] (getMethod ov (Str.ofString name) pl)
      callWith p f first (backTo p (starEach es c.env)) [])) : AE c (.Call (.Attribute o (Str.ofString name) ap) es [] p) m σ Q E := by
  intro ok s hs
  refine MethodCall_ (pl := pl) (wpAny_mono (h ok s hs) (fun ov s₁ ⟨σ₁, h₁, a, d, kv, hu, h2, h3, h4, k⟩ => ?_) fun _ _ e => e) he
  cases er_ref hu
  obtain ⟨es', n, I, hn', _⟩ := h₁.instAt h2 h3
  have fin : wpAny c.M c.A (callWith p (.ref f) [.ref a] (backTo p (starEach es c.env)) []) (fun v s' => ∃ σ', St c m σ' s' ∧ Q (er v) σ') E s₁ := cw (f := .ref f) hk k hst ok s₁ h₁
  exact method_fn (h₁.kin ok) I hC.ga hC.gt hn hf (by show (lookIn _ (dictOf es' n)).map _ = _; rw [lookIn_dict, (nsAre_get hn' name).2 h4]; rfl) fin

/-- the base's own start of a fault -/
theorem exc_init_find (w : World) : findCls (KH w) (.type "Exception") (.type "type") "__init__" = some (.val (.builtin "Exception.__init__")) := by kernel_rfl
end
end Mine

end

section
open PySem PySem.W PyProof.Rows PySem.Spec PySem.Calls Builtin Builtin.ObjectAttr
set_option Elab.async false
set_option maxRecDepth 100000
set_option linter.unusedVariables false
namespace Mine
noncomputable abbrev bm71 : List Value := [.ref 46, .type "Exception", .type "BaseException", .type "object"]
noncomputable abbrev C71 : Obj := excClassObj "WireFault" "WireFault" 71 70 [.ref 46] bm71 true [] [] false none none (some (.ref 62)) none (some (.str "WireFault" 252)) (some (.str "WireFault" 260)) (some (.bool true)) "Exception.__new__"
theorem kh71 (w : World) : (KH w).lookup 71 = some C71 := by kernel_rfl
theorem init71 (w : World) : findIn (KH w) (.ref 71) "__init__" = some (some (.ref 36)) := by kernel_rfl
theorem ty36 (w : World) : typeIn (KH w) (.ref 36) = some (.type "function") := by kernel_rfl

section
variable {prog : Program} {w : World} {A : Around} {E : Value → Shared → Prop} {R : Result → Shared → Prop} {h : Heap} {g : Array GenState} {d : Drawn} {t : Nat} {os : OsState}

theorem fault_check {M : Model} {rest : List Value} {Q : Unit → Shared → Prop} (hC : h.get? 71 = some C71) (hq : Q () ⟨h, g, d, t, os⟩) : wpAny M A (checkBuiltinCall "Exception.__new__" ⟨.ref 71 :: rest, []⟩) Q E ⟨h, g, d, t, os⟩ := by
  have Fn := PySem.F.excBase_Exception
  have hcont : (Value.ref 71 :: bm71).contains (.type "Exception") = true := by decide +kernel
  have hstar := Fn.noStar
  simp only [checkBuiltinCall, Fn.newKind, Fn.newSplit, Fn.newRow]
  repeat (first | refine wpAny_loadPart_at hC ?_ | (refine wpAny_isSubtype_exc hC ?_; rw [hcont]) | refine wpAny_staticBase_exc hC ?_ | refine wpAny_madeBy_exc hC ?_ | simp only [bne_self_eq_false, Bool.false_eq_true, if_false] | wp_step)
  exact hq

theorem fault_new {rest : List Value} (hC : h.get? 71 = some C71)
    (hq : R (.ok (.ret (.ref (h.objs.size + 1)))) ⟨(h.push { cls := .type "tuple", data := .seq rest.toArray }).push
      { cls := .ref 71, data := .fields #[.ref h.objs.size, .none, .none, .none, .bool false, .none] }, g, d, t, os⟩) (hrest : rest.length ≤ sizeLine) :
    codeAny (model prog w) A (.builtin "Exception.__new__" ⟨.ref 71 :: rest, []⟩) R ⟨h, g, d, t, os⟩ := by
  have Fn := PySem.F.excBase_Exception
  have hends := Fn.ends
  have hcB : (Value.ref 71 :: bm71).contains (.type "Exception") = true := by decide +kernel
  have hcA : (Value.ref 71 :: bm71).contains (.type "AttributeError") = false := by decide +kernel
  have hcN : (Value.ref 71 :: bm71).contains (.type "NameError") = false := by decide +kernel
  refine codeAny_builtinAt Fn.entry ?_
  unfold Builtin.«BaseException.__new__»
  refine PySem.wpAt_bind ?_
  show PySem.wpAt _ _ _ (stack >>= _) _ _ _
  refine PySem.wpAt_bind (PySem.wpAt_stack fun p below => PySem.wpAt_of_wpAny ?_)
  wp_walk
  refine PySem.wpAt_of_wpAny ?_
  rw [Fn.owner]
  repeat (first | with_reducible refine wpAny_madeHere_exc Fn.canon hC ?_ | with_reducible refine wpAny_loadPart_at hC ?_ | (with_reducible refine wpAny_isSubtype_exc hC ?_; first | rw [hcB] | rw [hcA] | rw [hcN]) | wp_step)
  show R _ _
  rw [Heap.size_push]
  exact hq

noncomputable abbrev exc71 (dx : Option Addr) (t : Addr) : Obj := { cls := .ref 71, dict := dx, data := .fields #[.ref t, .none, .none, .none, .bool false, .none] }
theorem fault_type_call {rest : List Value} (X : (KH w).In h)
    (hq : codeAny (model prog w) A (.call (.ref 36) ⟨.ref (h.objs.size + 1) :: rest, []⟩) (fun r s' => match r with | .ok (.ret v) => v = .none ∧ R (.ok (.ret (.ref (h.objs.size + 1)))) s' | .ok _ => False | .error e => R (.error e) s')
      ⟨(h.push { cls := .type "tuple", data := .seq rest.toArray }).push (exc71 none h.objs.size), g, d, t, os⟩) (hrest : rest.length ≤ sizeLine) :
    wpAny (model prog w) A (Builtin.«type.__call__» ⟨.ref 71 :: rest, []⟩) (fun fin s' => match fin with | .done f => R (.ok f) s' | .again c' => False) (fun e s' => R (.error e) s') ⟨h, g, d, t, os⟩ := by
  have hC := X _ _ (kh71 w)
  repeat (first | with_reducible refine wpAny_loadPart_at hC ?_ | with_reducible refine wpAny_madeBy_exc hC ?_ | wp_step)
  refine codeAny_call_builtin_code (Code.quiet_builtin _ PySem.F.excBase_Exception.quiet) (fault_check hC ?_)
  refine fault_new hC ?_ hrest
  show wpAny _ _ _ _ _ _
  have k : ∀ b o, h.get? b = some o → ((h.push { cls := .type "tuple", data := .seq rest.toArray }).push (exc71 none h.objs.size)).get? b = some o := fun b o e => Heap.get?_push_of_some _ (Heap.get?_push_of_some _ e)
  have hC₁ := k _ _ hC
  have X₁ : (KH w).In _ := X.keeps k
  have hget : ((h.push { cls := .type "tuple", data := .seq rest.toArray }).push (exc71 none h.objs.size)).get? (h.objs.size + 1) = some (exc71 none h.objs.size) := by heap_get
  have hcC : (Value.ref 71 :: bm71).contains (.ref 71) = true := by decide +kernel
  unfold isInstance
  repeat (first | with_reducible refine wpAny_loadPart_at hget ?_ | (with_reducible refine wpAny_isSubtype_exc hC₁ ?_; rw [hcC]) | wp_step)
  show wpAny _ _ (typeLookup (.ref 71) _) _ _ _
  refine (looks_findIn X₁ (init71 w)).at ?_
  refine wpAny_holding (wpAny_bind ((bind_fn X₁ _ (ty36 w)).at ?_))
  dsimp only
  refine wpAny_bind (wpAny_call ?_)
  refine codeAny_mono hq fun r s' z => ?_
  rcases r with e | (v | _ | _ | _) <;> first | exact z | exact z.elim | skip
  obtain ⟨rfl, z⟩ := z
  wp_walk
  exact z

theorem fault_call {rest : List Value} (X : (KH w).In h)
    (hq : codeAny (model prog w) (A.under (.builtin "type.__call__" ⟨.ref 71 :: rest, []⟩)) (.call (.ref 36) ⟨.ref (h.objs.size + 1) :: rest, []⟩) (fun r s' => match r with | .ok (.ret v) => v = .none ∧ R (.ok (.ret (.ref (h.objs.size + 1)))) s' | .ok _ => False | .error e => R (.error e) s')
      ⟨(h.push { cls := .type "tuple", data := .seq rest.toArray }).push (exc71 none h.objs.size), g, d, t, os⟩) (hrest : rest.length ≤ sizeLine) :
    codeAny (model prog w) A (.call (.ref 71) ⟨rest, []⟩) R ⟨h, g, d, t, os⟩ := by
  have hC := X _ _ (kh71 w)
  have f1 := tc_lookup
  have f2 := tc_bind (.ref 71)
  have hT : (⟨h, g, d, t, os⟩ : Shared).TypeIs (.ref 71) "type" := ⟨_, hC, rfl⟩
  refine (codeAny_of_tree ?_)
  show wpAny _ _ (callAny (.ref 71) _) _ _ _
  repeat (any_goals (first | assumption | with_reducible refine wpAny_loadPart_at hC ?_ | wp_step))
  refine ⟨rfl, ?_⟩
  refine codeAny_call_builtin_at (Code.quiet_builtin _ (by decide +kernel)) entry_typeCall (wpAny_check_type_call_sub hC (wpAny_mono (fault_type_call X hq hrest) (fun fin s' z => ?_) fun _ _ z => z))
  rcases fin with f | c'
  · exact z
  · exact z.elim
end
end Mine

end

section
open PySem PySem.W PyProof.Rows PySem.Spec PySem.Calls Builtin Builtin.ObjectAttr
set_option Elab.async false
set_option maxRecDepth 100000
set_option linter.unusedVariables false
namespace Mine
theorem excType : typeOf (.type "Exception") = pure (.type "type") := by kernel_rfl
section
variable {c : Fx} {m : List (Option V)} {σ : AH} {E : Value → Shared → Prop} {s : Shared}

theorem exc_method {w : World} {A : Around} {pl : Sem Bool} {Q : Value × List Value → Shared → Prop} {prog} (X : (KH w).In s.heap) (h : Q (.builtin "Exception.__init__", []) { s with toks := s.toks + 1 }) : wpAny (model prog w) A (getMethod (.type "Exception") "__init__" pl) Q E s := by
  have hstub : opaqueClassAbove (.type "Exception") = pure none := by kernel_rfl
  have L0 : Looks (model prog w) s.heap (typeOf (.type "Exception")) (.type "type") := Looks.of_pure excType
  have hg : findIn (KH w) (.type "type") "__getattribute__" = some (some (.builtin "type.__getattribute__")) := type_tga
  have e := exc_init_find w
  unfold getMethod specialOf
  refine wpAny_bind (wpAny_bind (L0.here ((looks_findIn X hg).here ?_)))
  dsimp only
  rw [if_pos canon_tga]
  refine wpAny_bind (wpAny_mono (Q := fun v => Q (v, [])) (E := E) ?_ (fun _ _ z => wpAny_pure z) fun _ _ z => z)
  have LO : Looks (model prog w) s.heap (opaqueClassAbove (.type "Exception")) none := Looks.of_pure hstub
  refine cls_open X LO L0 hg (looks_hook X (r := none) (by rfl)) (by show subIn (KH w) _ _ = _; rfl) e
    (wpAny_pure (by show wpAny _ _ (handedOut _) _ _ _; rw [handedOut_of (by kernel_rfl)]; exact wpAny_pure h))

theorem ae_excinit {o : Expr} {ap p : Pos} {es : List Expr} {pl : Sem Bool} {Q}
    (h : AE c o m σ (fun u σ₁ => u = .type "Exception" ∧ AA c p es m σ₁ (fun vs σ₂ => OC c (.builtin "Exception.__init__") vs m σ₂ Q E) E) E)
    (hst : starEach es c.env = es.map fun e => (false, eval e c.env))
    (he : eval (.Call (.Attribute o (Str.ofString "__init__") ap) es [] p) c.env = (do
      let ov ← eval o c.env
      standAt ap.atName
      let (f, first) ← holding [ov] (getMethod ov (Str.ofString "__init__") pl)
      callWith p f first (backTo p (starEach es c.env)) [])) : AE c (.Call (.Attribute o (Str.ofString "__init__") ap) es [] p) m σ Q E := by
  intro ok s hs
  refine MethodCall_ (pl := pl) (wpAny_mono (h ok s hs) (fun ov s₁ ⟨σ₁, h₁, hu, k⟩ => ?_) fun _ _ e => e) he
  cases er_type hu
  exact exc_method (h₁.kin ok) (cw (f := .builtin "Exception.__init__") (first := []) trivial k hst ok _ h₁.tok)

theorem excinit_check {M : Model} {A : Around} {w : World} {e : Addr} {oe : Obj} {rest : List Value} {Q : Unit → Shared → Prop} {h : Heap} {g : Array GenState} {d : Drawn} {t : Nat} {os : OsState}
    (hC : h.get? 71 = some C71) (he : h.get? e = some oe) (hcls : oe.cls = .ref 71) (hq : Q () ⟨h, g, d, t, os⟩) :
    wpAny M A (checkBuiltinCall "Exception.__init__" ⟨.ref e :: rest, []⟩) Q E ⟨h, g, d, t, os⟩ := by
  have F := PySem.F.excBase_Exception
  have hcB : (Value.ref 71 :: bm71).contains (.type "Exception") = true := by decide +kernel
  have hshort := F.noStar
  simp only [checkBuiltinCall, F.initKind, F.initSplit, F.initRow]
  repeat (first | (with_reducible refine wpAny_loadPart_at he ?_; rw [hcls]) | with_reducible refine wpAny_loadPart_at hC ?_ | (with_reducible refine wpAny_isSubtype_exc hC ?_; rw [hcB]) | wp_step)
  refine wpAny_onRaise ?_
  rw [show ∀ (a b : String) (n : Nat), Bind.check ⟨.positional, "*", "Exception", .self, [⟨"args", .varPos, false⟩]⟩ a b n (List.map (fun x => x.fst) ({ pos := Value.ref e :: rest } : Args).kw) = pure () from
    fun a b n => check_star_args _ _ _ _ _ _]
  exact wpAny_pure hq

theorem oc_excinit {e t : Addr} {dx : Option Addr} {u : V} {Q} (h1 : σ e = some (.exc 71 dx t)) (k : ∀ t', Q .none (upd σ e (.exc 71 dx t'))) : OC c (.builtin "Exception.__init__") [.ref e, u] m σ Q E := by
  intro vs hv ok s hs
  obtain ⟨r, v, rfl, h2, h3⟩ := map_two hv
  cases er_ref h2
  obtain ⟨x, hx, rfl⟩ := hs.st.rep e _ h1
  have F := PySem.F.excBase_Exception
  have hC := hs.kin ok _ _ (kh71 c.w)
  obtain ⟨hp, g, d, tk, os⟩ := s
  dsimp only at hx hC
  refine wpAny_call (codeAny_call_builtin F.init.plain F.initEntry (excinit_check (w := c.w) hC hx rfl ?_))
  have hs₁ := hs.pushHid (x := { cls := .type "tuple", data := .seq #[v] }) (tk := tk)
  dsimp only at hs₁
  have hx₁ := Heap.get?_push_of_some { cls := .type "tuple", data := .seq #[v] } hx
  wp_walk
  exact ⟨_, hs₁.set (tk := tk) (o' := .exc 71 dx hp.objs.size) h1 (Heap.SameBut.update ..) (Heap.get?_update_self (Obj.mapFields fun x => x.setIfInBounds 0 (Value.ref hp.objs.size)) hx₁ rfl) rfl, k _⟩

theorem raise_core {M : Model} {A : Around} {env : Env} {x : Sem Value} {Q : Flow → Shared → Prop} (hh : A.handled = none)
    (h : wpAny M A x (fun v s₁ => ∃ e t d, v = .ref e ∧ s₁.heap.get? 71 = some C71 ∧ s₁.heap.get? e = some (exc71 (some d) t) ∧ E (.ref e) s₁) E s) :
    wpAny M A (raiseStmt env (some x) none) Q E s := by
  have hcB : (Value.ref 71 :: bm71).contains (.type "BaseException") = true := by decide +kernel
  unfold raiseStmt
  refine wpAny_bind (wpAny_mono h (fun v s₁ h₁ => ?_) fun _ _ x => x)
  obtain ⟨e, t, d, rfl, hC, he, hE⟩ := h₁
  obtain ⟨hp, g, dr, tk, os⟩ := s₁
  repeat (first | with_reducible refine wpAny_loadPart_at he ?_ | with_reducible refine wpAny_loadPart_at hC ?_ | (with_reducible refine wpAny_isSubtype_exc hC ?_; rw [hcB]) | wp_step)
  exact wpAny_raiseNew_none hh hE

/-- raise, of a fault made here -/
theorem ax_raise {ex : Expr} {p : Pos} {Q} {X : Int → AH → Prop} (hh : c.h = true) (hfr : c.fr = true)
    (h : AE c ex m σ (fun u σ₁ => ∃ e t d kv i, u = .ref e ∧ σ₁ e = some (.exc 71 (some d) t) ∧ σ₁ d = some (.ns kv) ∧ kv.lookup "at" = some (.int i) ∧ X i (del σ₁ e)) (XE c X)) : AX1 c (.Raise (some ex) none p) m σ Q (XE c X) := by
  intro ok s hs
  rw [arm_exec_Raise]
  refine wpAny_bind (wpAny_standAt (raise_core (ok.hnd hh) ?_))
  refine wpAny_bind (wpAny_mono (h ok s hs) (fun v s₁ ⟨σ₁, h₁, e, t, d, kv, i, hu, h2, h3, h4, h5⟩ => wpAny_bind (wpAny_standAt (wpAny_pure ?_))) fun _ _ e => e)
  cases er_ref hu
  obtain ⟨x, hx, rfl⟩ := h₁.st.rep e _ h2
  exact ⟨e, t, d, rfl, h₁.kin ok _ _ (kh71 c.w), hx, raise_xe hfr ok h₁ h2 h3 h4 h5⟩

/-- a fault of the text, made -/
theorem oc_wire {us k h Q} (hz : us.length ≤ sizeLine) (hl : k + 1 ≤ c.lvl) (hh : h = true → c.h = true) (hfr : c.fr = true)
    (H : ∀ e t, Fresh σ e → ACall c.w k h 36 (.ref e :: us) (upd σ e (.exc 71 none t)) (fun v σ' => v = .none ∧ Q (.ref e) σ') (fun _ _ => False)) : OC c (.ref 71) us m σ Q E := by
  intro vs hv ok s hs
  have X := hs.kin ok
  have hz' : vs.length ≤ sizeLine := by rw [← hv, List.length_map] at hz; exact hz
  have S1 := hs.pushHid (x := { cls := .type "tuple", data := .seq vs.toArray }) (tk := s.toks)
  have S2 := S1.push (o := .exc 71 none s.heap.objs.size) (x := exc71 none s.heap.objs.size) (tk := s.toks) rfl
  have hsz : (s.heap.push { cls := .type "tuple", data := .seq vs.toArray }).objs.size = s.heap.objs.size + 1 := Heap.size_push ..
  dsimp only at S2
  rw [hsz] at S2
  have fx : Fresh σ (s.heap.objs.size + 1) := fun b o e q => by
    obtain ⟨y, hy, _⟩ := hs.st.rep b o e
    have := Heap.lt_size hy; rw [q] at this; exact absurd this (Nat.not_lt.mpr (Nat.le_succ _))
  obtain ⟨hp, g, d, t, os⟩ := s
  refine wpAny_call (fault_call X ?_ hz')
  refine codeAny_mono (H (hp.objs.size + 1) hp.objs.size fx _ _ (c.A.under (.builtin "type.__call__" ⟨.ref 71 :: vs, []⟩)) (c.env :: c.l) (fun v s' => E v s') _ (.ref (hp.objs.size + 1) :: vs) (ok.gnd.keeps (S2.over ok).1) ⟨?_, ?_⟩ (ok.hand.more hh (S2.over ok).1) (ok.stack hfr) (S2.frok hfr ok) (S2.s0 ok) (by simp [er, hv]) fun v s' ⟨σ', S, z⟩ => ?_) fun r s' z => ?_
  · rw [depth_under_make]; have := ok.room.1; omega
  · rw [units_under_make]; have := ok.room.2; omega
  · obtain ⟨_, _, _, _, _, _, _, _, _, _, _, _, _, z⟩ := z; exact z.elim
  · rcases r with e | (v | _ | _ | _)
    · exact z
    all_goals first
      | (obtain ⟨σ', S, q1, q2⟩ := z; exact ⟨er_none q1, σ', S2.back ok S, q2⟩)
      | exact z.elim
end
end Mine

end

section
open PySem PySem.W PyProof.Rows PySem.Spec PySem.Calls Builtin Builtin.ObjectAttr
set_option Elab.async false
set_option maxRecDepth 100000
set_option linter.unusedVariables false
namespace Mine
section
variable {c : Fx} {m : List (Option V)} {σ : AH} {E : Value → Shared → Prop} {s : Shared}

theorem oa_flt {a d : Addr} {kv} {x : String} {v : V} {Q} (hx : Nm 71 x) (h1 : DictAt a d c.g.g) (h2 : σ d = some (.ns kv)) (h3 : kv.lookup x = some v) (hv : ∀ i, v ≠ .builtin i) (k : Q v σ) : OA c (.ref a) x m σ Q E := by
  intro r hr ok s hs
  cases er_ref hr
  obtain ⟨es, n, hd, hn, hz⟩ := hs.nsd h2
  obtain ⟨y, vs, hy, y1, y2, y3, _⟩ := h1
  have hy := hs.st.keep _ _ hy
  obtain ⟨r, hl, he⟩ := (nsAre_get hn x).1 v h3
  have I : InstAt s.heap a y 71 (some (dictOf es n)) := ⟨hy, y1, by unfold notCls; rw [y3], by rw [y2]; exact hd⟩
  exact exc_get ⟨_, _, rfl⟩ (hs.kin ok) I (exc_ga c.w) (exc_gt c.w) (by kernel_rfl) (findObj_own (exc_hd c.w) (nm_find hx c.w) rfl hl) (handed_er he hv) ⟨σ, hs.tok, by rw [he]; exact k⟩

/-- the frame while a fault is handled -/
noncomputable abbrev Fx.mk' (c : Fx) (e : Addr) (g : Heap) : Fx := { c.wg g with A := c.A.mark (some (.ref e)), h := false }
theorem Fx.Ok.mk' {g} (ok : c.Ok) (e d : Addr) (ov : Over c g) (hd : DictAt e d g) : (c.mk' e g).Ok := { ok.over ov with stack := ok.stack, room := ok.room, hand := .inr ⟨rfl, e, d, rfl, hd⟩ }
theorem St.mk' {e : Addr} {g} (hs : St (c.wg g) m σ s) : St (c.mk' e g) m σ s := ⟨hs.st, hs.loc, hs.outL⟩
theorem St.unmk {e : Addr} {g} (hs : St (c.mk' e g) m σ s) : St (c.wg g) m σ s := ⟨hs.st, hs.loc, hs.outL⟩

/-- what stands when a fault has come to rest in the frame -/
theorem fly_st {σ : AH} {e t : Addr} {B : Heap} {h' : Heap} (ok : c.Ok) (hs : St c m σ s) (hf : Heap.FlyingW B (c.env :: c.l) e (.ref 71) (.ref t) h') (hg : ∀ a x, c.g.g.get? a = some x → B.get? a = some x) (hr : ∀ a o, σ a = some o → ∃ x, B.get? a = some x ∧ Rl c.w o x)
    (u : s.heap.UpToSlots h') : St c m σ { s with heap := h' } ∧ ∀ d, DictAt e d h' → DictAt e d (ground c σ { s with heap := h' }) := by
  obtain ⟨oe, ws, hoe, hoec, hoed, _⟩ := hf.first
  have he : σ e = none := by
    cases q : σ e with
    | none => rfl
    | some o =>
      obtain ⟨x, hx, _⟩ := hr e o q
      rw [hf.2.1] at hx; cases hx
  obtain ⟨mr, n, l⟩ := hs.loc
  have n' := u.ns n
  have fn : ∀ L o, s.heap.get? L = some o → (∀ vs, o.data ≠ .fields vs) → L ≠ e := fun L o hL hn q => by
    obtain ⟨sl, h2⟩ := u L o hL hn
    rw [q, hoe] at h2
    have := congrArg (fun x : Option Obj => x.map (·.data)) h2
    simp only [Option.map_some, Option.some.injEq] at this
    exact hn ws (this ▸ hoed)
  have S' : St c m σ { s with heap := h' } := by
    refine ⟨⟨fun a o q => ?_, fun a x q => hf.1 a x (hg a x q), hs.st.out, fun a x q => ?_, hs.st.outf, ?_⟩, ⟨mr, n', l⟩, hs.outL⟩
    · obtain ⟨x, hx, r⟩ := hr a o q
      exact ⟨x, hf.1 a x hx, r⟩
    · obtain ⟨sl, e'⟩ := hs.st.slot a x q
      obtain ⟨sl', e₂⟩ := u a _ e' (ok.frs.2 a x q).2
      exact ⟨sl', e₂⟩
    · obtain ⟨h₁, t₁, e₁⟩ := hs.st.same
      exact ⟨h', t₁, by rw [e₁]⟩
  refine ⟨S', fun d ⟨o, vs, d1, d2⟩ => ⟨o, vs, ground_get.mpr ⟨he, ?_, ?_, d1⟩, d2⟩⟩
  · cases q : c.g.f.get? e with
    | none => rfl
    | some y =>
      obtain ⟨sl, e'⟩ := hs.st.slot e y q
      exact absurd rfl (fn e _ e' (ok.frs.2 e y q).2)
  · obtain ⟨oL, eL, nL⟩ := ns_nf n
    exact Ne.symm (fn _ _ eL nL)

theorem wire_name {c : Fx} {m σ s} {E : Value → Shared → Prop} {np : Pos} {Q : Value → Shared → Prop} (ok : c.Ok) (hx : "WireFault" ∈ c.gs) (hs : St c m σ s) (k : Q (.ref 71) s) : wpAny c.M c.A (PySem.eval (.Name (Str.ofString "WireFault") np) c.env) Q E s := by
  obtain ⟨K, pr, l, me, mg, mb, T⟩ := ok.gnd.keeps hs.st.keep
  obtain ⟨r, h1, h2⟩ := gv_ok Gv.wire c.w.params
  cases er_ref h2
  exact Name_function_global ok.kind (ok.glo _ hx) (loadGlobal_global (mg := mg) (v := .ref 71) (by rw [ok.glob]; exact T.g) (mg_of K T.g h1) k) (ok.dbg _ (List.mem_append_right _ hx))

/-- a fault comes to rest in the frame that waits for it -/
theorem lands_in {X : Int → AH → Prop} {v : Value} {P : Shared → Prop} (hfr : c.fr = true) (ok : c.Ok) (z : Fz c m X v s)
    (k : ∀ σ₁ e d kv i s₅ B t, v = .ref e → St c m σ₁ s₅ → DictAt e d (ground c σ₁ s₅) → σ₁ d = some (.ns kv) → kv.lookup "at" = some (.int i) → X i σ₁ → Heap.FlyingW B (c.env :: c.l) e (.ref 71) (.ref t) s₅.heap →
      (∀ (E' : Value → Shared → Prop) (P' : Shared → Prop), (∀ s₆, St c m σ₁ s₆ → DictAt e d (ground c σ₁ s₆) → P' s₆) → wpAny c.M (c.A.mark (some (.ref e))) (setFlight (.ref e) none) (fun _ s' => P' s') E' s₅) → P s₅) :
    wpAny c.M c.A (noteFrame v c.env) (fun _ s₂ => wpAny c.M c.A (setFlight v none) (fun _ s₃ => P s₃) E s₂) E s := by
  obtain ⟨σ₁, S, e, t, d, kv, i, B, rfl, hf, hg, hr, hd, h1, h2, h3⟩ := z
  obtain ⟨h₀, gg, dr, tk, os⟩ := s
  refine wpAny_mono ((kd_note _ _).any hd (wpAny_looks_onW (Q := fun _ s' => ∃ h', s' = ⟨h', gg, dr, tk, os⟩ ∧ Heap.HeldW B (c.env :: c.l) e (.ref 71) (.ref t) c.env.locals h' ∧ h₀.UpToSlots h') (ok.stack hfr) (ok.frame hfr) hf fun h' x y => ⟨h', rfl, x, y⟩)) ?_ fun _ _ e => e
  rintro _ _ ⟨⟨h₄, rfl, hh₄, u₄⟩, d₄⟩
  refine wpAny_mono ((kd_flight _ _).any d₄ (wpAny_landsW (Q := fun _ s' => ∃ h', s' = ⟨h', gg, dr, tk, os⟩ ∧ Heap.FlyingW B (c.env :: c.l) e (.ref 71) (.ref t) h' ∧ h₄.UpToSlots h') hh₄ fun h' x y => ⟨h', rfl, x, y⟩)) ?_ fun _ _ e => e
  rintro _ _ ⟨⟨h₅, rfl, hh₅, u₅⟩, d₅⟩
  obtain ⟨S₅, D₅⟩ := fly_st ok S hh₅ hg hr (u₄.trans u₅)
  refine k σ₁ e d kv i _ B t rfl S₅ (D₅ d d₅) h1 h2 h3 hh₅ fun E' P' k' => ?_
  refine wpAny_mono ((kd_flight _ _).any d₅ (lands_againW (Q := fun _ s' => ∃ h', s' = ⟨h', gg, dr, tk, os⟩ ∧ Heap.FlyingW B (c.env :: c.l) e (.ref 71) (.ref t) h' ∧ h₅.UpToSlots h') hh₅ fun h' x y => ⟨h', rfl, x, y⟩)) ?_ fun _ _ e => e
  rintro _ _ ⟨⟨h₆, rfl, hh₆, u₆⟩, d₆⟩
  obtain ⟨S₆, D₆⟩ := fly_st ok S hh₆ hg hr ((u₄.trans u₅).trans u₆)
  exact k' _ S₆ (D₆ d d₆)

theorem ax_try0 {body : List Stmt} {b₀ : Stmt} {suite : List Stmt} {np hp p : Pos} {Q} {X : Int → AH → Prop} (hfr : c.fr = true) (hx : "WireFault" ∈ c.gs)
    (h : AX c body m σ Q (Fz c m X))
    (k : ∀ σ₁ e d kv i g, Over c g → DictAt e d g → σ₁ d = some (.ns kv) → kv.lookup "at" = some (.int i) → X i σ₁ → AX (c.mk' e g) (b₀ :: suite) m σ₁ Q (fun _ _ => False)) :
    AX1 c (.Try body [.ExceptHandler (some (.Name (Str.ofString "WireFault") np)) none (b₀ :: suite) hp] [] [] p) m σ Q E := by
  intro ok s hs
  refine wpAny_Try_except (wpAny_mono (h ok s hs) (fun f s₁ ⟨m', σ', h₁, q⟩ => ?_) fun v s₁ z => ?_)
  · cases f with
    | next => exact wpAny_execs_nil ⟨m', σ', h₁, q⟩
    | brk => exact ⟨m', σ', h₁, q⟩
    | cont => exact ⟨m', σ', h₁, q⟩
    | ret v => exact ⟨m', σ', h₁, q⟩
  · refine lands_in hfr ok z fun σ₁ e d kv i s₅ B t hv S₅ D₅ h1 h2 h3 hh₅ again => ?_
    subst hv
    refine wpAny_handleBy_cons (codeAny_handlers_test (wire_name (ok.mk' e d (S₅.over ok) D₅) hx S₅.wg.mk' ?_)) (by intro q; cases q)
    obtain ⟨ob, hob, hobc⟩ := hh₅.there
    refine wpAny_excMatches_sub_self (S₅.kin ok _ _ (kh71 c.w)) hob hobc (by decide +kernel) (codeAny_handlers_suite ?_)
    refine again _ _ fun s₆ S₆ D₆ => ?_
    have ok' := ok.mk' e d (S₆.over ok) D₆
    refine wpAny_mono (k σ₁ e d kv i _ (S₆.over ok) D₆ h1 h2 h3 ok' _ S₆.wg.mk') (fun f s₃ ⟨m', σ', h₁, q⟩ => ⟨m', σ', h₁.unmk.ug (S₆.over ok), q⟩) fun _ _ z => z.elim

theorem no_at : ∀ (ns : List String) x v, ¬ At ns (ns.map fun _ => (none : Option V)) x v := by
  intro ns; induction ns with
  | nil => intro x v h; cases h
  | cons y r ih => intro x v h; cases h with | tail q => exact ih _ _ q

theorem ax_try_as {x : String} {body : List Stmt} {b₀ : Stmt} {suite : List Stmt} {np hp p : Pos} {Q} {X : Int → AH → Prop} (hfr : c.fr = true) (hx : "WireFault" ∈ c.gs)
    (h : AX c body m σ Q (Fz c m X))
    (k : ∀ σ₁ e d kv i g, Over c g → DictAt e d g → σ₁ d = some (.ns kv) → kv.lookup "at" = some (.int i) → X i σ₁ → ∃ m₁, Put c.ns m x (.ref e) m₁ ∧ AX (c.mk' e g) (b₀ :: suite) m₁ σ₁ (fun fl _ σ₂ => Q fl (c.ns.map fun _ => none) σ₂) (fun _ _ => False)) :
    AX1 c (.Try body [.ExceptHandler (some (.Name (Str.ofString "WireFault") np)) (some (Str.ofString x)) (b₀ :: suite) hp] [] [] p) m σ Q E := by
  intro ok s hs
  refine wpAny_Try_except (wpAny_mono (h ok s hs) (fun f s₁ ⟨m', σ', h₁, q⟩ => ?_) fun v s₁ z => ?_)
  · cases f with
    | next => exact wpAny_execs_nil ⟨m', σ', h₁, q⟩
    | brk => exact ⟨m', σ', h₁, q⟩
    | cont => exact ⟨m', σ', h₁, q⟩
    | ret v => exact ⟨m', σ', h₁, q⟩
  · refine lands_in hfr ok z fun σ₁ e d kv i s₅ B t hv S₅ D₅ h1 h2 h3 hh₅ again => ?_
    subst hv
    refine wpAny_handleBy_cons (codeAny_handlers_test (wire_name (ok.mk' e d (S₅.over ok) D₅) hx S₅.wg.mk' ?_)) (by intro q; cases q)
    obtain ⟨ob, hob, hobc⟩ := hh₅.there
    refine wpAny_excMatches_sub_self (S₅.kin ok _ _ (kh71 c.w)) hob hobc (by decide +kernel) (codeAny_handlers_suite_as ?_)
    refine again _ _ fun s₆ S₆ D₆ => ?_
    have ok' := ok.mk' e d (S₆.over ok) D₆
    obtain ⟨m₁, hput, kk⟩ := k σ₁ e d kv i _ (S₆.over ok) D₆ h1 h2 h3
    refine wp_store ok' S₆.wg.mk' hput fun s₇ S₇ => ?_
    refine wpAny_mono (kk ok' _ S₇) (fun f s₈ ⟨m', σ', h₁, q⟩ => ?_) fun _ _ z => z.elim
    have S₈ := h₁.unmk.ug (S₆.over ok)
    obtain ⟨mr, n, l⟩ := S₈.loc
    refine wpAny_nameGoes (ok.loc x hput.mem) n (by rw [ok.kind]; rfl) fun h₉ m₉ n₉ b₉ => ⟨_, σ', ?_, q⟩
    refine ⟨⟨fun a o e => ?_, fun a x e => ?_, S₈.st.out, fun a x e => ?_, S₈.st.outf, ?_⟩, ⟨m₉, n₉, fun y u z => absurd z (no_at _ _ _)⟩, S₈.outL⟩
    · obtain ⟨y, hy, r⟩ := S₈.st.rep a o e
      refine ⟨y, ?_, r⟩
      rw [b₉.2 a (fun q => by rw [q, S₈.outL] at e; cases e)]; exact hy
    · rw [b₉.2 a (fun q => by rw [q, ok.notL] at e; cases e)]; exact S₈.st.keep a x e
    · rw [b₉.2 a (fun q => by rw [q, ok.notF] at e; cases e)]; exact S₈.st.slot a x e
    · obtain ⟨h, tk, rfl⟩ := S₈.st.same
      exact ⟨h₉, _, rfl⟩
end
end Mine

end

section
open PySem PySem.W PyProof.Rows PySem.Spec PySem.Calls Builtin Builtin.ObjectAttr
set_option Elab.async false
set_option maxRecDepth 100000
set_option linter.unusedVariables false
namespace Mine
theorem entry_unchain : entryFor table "proto.unchain" = some Builtin.«proto.unchain» := entryFor_of_tree (by kernel_rfl)
section
variable {prog : Program} {w : World} {A : Around} {E : Value → Shared → Prop} {s : Shared}

theorem raise_held {α : Type} {a e d : Addr} {oa : Obj} {va : Array Value} {Q : α → Shared → Prop} (hh : A.handled = some (.ref e)) (hd : DictAt e d s.heap) (ha : s.heap.get? a = some oa) (hva : oa.data = .fields va) (hsz : 2 < va.size) (hne : e ≠ a)
    (h : E (.ref a) { s with heap := s.heap.update a (Obj.mapFields (·.setIfInBounds 2 (.ref e))) }) : wpAny (model prog w) A (raiseNew (.ref a) : Sem α) Q E s := by
  obtain ⟨oe, ve, he, _, _, hde, h2⟩ := hd
  unfold raiseNew
  refine wpAny_bind (wpAny_handled ?_)
  rw [hh]
  dsimp only
  rw [if_pos (show (Value.ref e != Value.ref a) = true by simpa using hne)]
  refine wpAny_bind (wpAny_holding (wpAny_runValue (codeAny_builtin entry_unchain ?_)))
  unfold Builtin.«proto.unchain»
  dsimp only
  refine wpAny_bind (wpAny_field he hde h2 ?_)
  rw [if_pos (by rfl)]
  refine wpAny_pure ?_
  show wpAny _ A (updateField a 2 (.ref e) >>= fun _ => throw (.ref a)) _ _ s
  unfold updateField
  refine wpAny_bind (wpAny_bind (wpAny_load ha ?_))
  rw [hva]
  dsimp only
  rw [if_pos hsz]
  exact wpAny_update ha (wpAny_throw h)

theorem next_end_held {it t e d : Addr} {i : Nat} {items} {Q : Option Value → Shared → Prop} (hh : A.handled = some (.ref e)) (hd : DictAt e d s.heap) (hei : e ≠ it)
    (hit : IsTupIter s.heap it t i) (ht : IsTup s.heap t items) (hx : items[i]? = none)
    (hQ : ∀ h', Heap.ExtBut it s.heap h' → Q none { s with heap := h' }) : wpAny (model prog w) A (pyNext (.ref it)) Q E s := by
  obtain ⟨o, ho, hc, hdt⟩ := id hit
  obtain ⟨ol, hol, _, nl, hdl⟩ := ht
  unfold pyNext
  refine wpAny_bind (wpAny_attempt (wpAny_callSpecial?_slot (name := Str.ofString "__next__") hit.typeIs slot_tupleiter_next
    (wpAny_call_entry slot_tupleiter_next hit.typeIs entry_tupleiter_next ?_ (args_tupleiter_next _))))
  show wpAny _ _ (field (.ref it) 0 >>= _) _ _ s
  refine wpAny_bind (wpAny_field ho hdt (x := .ref t) rfl ?_)
  show wpAny _ _ (if (Value.ref t == Value.none) = true then _ else _) _ _ s
  rw [if_neg (show ¬ ((Value.ref t == Value.none) = true) from Bool.false_ne_true)]
  show wpAny _ _ (field (.ref it) 1 >>= _) _ _ s
  refine wpAny_bind (wpAny_field ho hdt (x := .int i 0) rfl ?_)
  show wpAny _ _ (seqItems? (.ref t) >>= _) _ _ s
  refine wpAny_bind (wpAny_seqItems hol hdl ?_)
  simp only [Int.toNat_natCast, hx]
  refine wpAny_bind (wpAny_rule (wpAny_bind (wpAny_setField ho hdt (by simp) ?_)))
  show wpAny _ _ (newExc (.type "StopIteration") [] >>= _) _ _ _
  refine wpAny_bind ?_
  simp only [newExc, newTuple]
  refine wpAny_bind (wpAny_newObj_type ?_ (by size_fits))
  refine wpAny_bind (m := firstArgMember _ _) (wpAny_of_eq (a := Value.none) (by first | rfl | (simp only [firstArgMember]; rfl)) ?_)
  refine wpAny_newObj_type ?_ (by size_fits)
  obtain ⟨oe, ve, he, he2, he3⟩ := hd
  have e1 := (Heap.get?_update_other s.heap (Obj.mapFields (·.setIfInBounds 0 Value.none)) (Ne.symm hei)).trans he
  have fin : ∀ (H : Heap) (x : Addr) (ox : Obj) (vx : Array Value), H.get? x = some ox → ox.cls = .type "StopIteration" → ox.data = .fields vx → ∀ tk, (⟨H.update x (Obj.mapFields (·.setIfInBounds 2 (.ref e))), s.gens, s.drawn, tk, s.os⟩ : Shared).TypeIs (.ref x) "StopIteration" := fun H x ox vx hx hcx hdx tk =>
    ⟨_, Heap.get?_update_self _ hx (Obj.isFreed_of_fields (Obj.data_mapFields hdx _)), (Obj.cls_mapFields ..).trans hcx⟩
  refine raise_held (e := e) (d := d) (by first | exact hh | exact hh) ⟨oe, ve, Heap.get?_push_of_some _ (Heap.get?_push_of_some _ e1), he2, he3⟩ (Heap.get?_push_size _ rfl) rfl (by simp; omega) (Nat.ne_of_lt (Heap.lt_size (Heap.get?_push_of_some _ e1))) ?_
  refine wpAny_bind (wpAny_isInstance (T := "StopIteration") (b := true) (fin _ _ _ _ (Heap.get?_push_size _ rfl) rfl rfl _) isSubtype_stop ?_)
  refine wpAny_pure (hQ _ fun b o hb hbo => ?_)
  have h1 := Heap.get?_push_of_some { cls := .type "tuple", data := .seq ([] : List Value).toArray } ((Heap.get?_update_other s.heap (Obj.mapFields (·.setIfInBounds 0 Value.none)) (Ne.symm hb)).trans hbo)
  exact (Heap.get?_update_other _ _ (Ne.symm (Nat.ne_of_lt (Heap.lt_size h1)))).trans (Heap.get?_push_of_some _ h1)

theorem unpack_held {t e d : Addr} {items : Array Value} {Q : List Value → Shared → Prop} (hh : A.handled = some (.ref e)) (hd : DictAt e d s.heap) (ht : IsTup s.heap t items)
    (hQ : ∀ h', Heap.ExtBut s.heap.objs.size s.heap h' → Q items.toList { s with heap := h' }) : wpAny (model prog w) A (unpackItems (.ref t) items.size none) Q E s := by
  have hlt : t ≠ s.heap.objs.size := by obtain ⟨o, ho, _⟩ := ht; exact Nat.ne_of_lt (Heap.lt_size ho)
  have hle : e ≠ s.heap.objs.size := by obtain ⟨o, _, ho, _⟩ := hd; exact Nat.ne_of_lt (Heap.lt_size ho)
  unfold unpackItems
  refine wpAny_bind ?_
  · unfold notIterableAtAll
    refine wpAny_bind (wpAny_specialOf ht.typeIs slot_tuple_iter.lookup ?_)
    refine wpAny_pure ?_
    simp only [Bool.false_eq_true, if_false]
    refine wpAny_bind (wpAny_holding (iter_tuple ht ?_))
    refine wpAny_bind (wpAny_holding (draw_tuple hlt items.size 0 _ _ ⟨_, Heap.get?_push_size _ rfl, rfl, rfl⟩ (ht.push _) (by omega) fun h₁ hit₁ hs₁ => ?_))
    have hall : List.take items.size (List.drop 0 items.toList) = items.toList := by
      rw [List.drop_zero]; exact List.take_of_length_le (by simp)
    rw [hall]
    rw [if_neg (by simp)]
    have ht₁ : IsTup h₁ t items := (ht.push _).extBut hs₁.extBut hlt
    have hd₁ : DictAt e d h₁ := by
      obtain ⟨o, vs, ho, r⟩ := hd
      exact ⟨o, vs, hs₁.extBut _ _ hle (Heap.get?_push_of_some _ ho), r⟩
    refine wpAny_bind (wpAny_holding (next_end_held hh hd₁ hle hit₁ ht₁ (by simp) fun h₂ he₂ => ?_))
    simp only [Option.isSome_none, Bool.false_eq_true, if_false]
    refine wpAny_pure (hQ h₂ fun b o hb e => he₂ b o hb (hs₁.extBut b o hb (Heap.get?_push_of_some _ e)))
end

section
variable {c : Fx} {m : List (Option V)} {σ : AH} {E : Value → Shared → Prop} {s : Shared}
theorem unpack_ok {t : Addr} {us : List V} {n : Nat} {Q : List Value → Shared → Prop} (ok : c.Ok) (hs : St c m σ s) (h : σ t = some (.tuple us)) (hn : n = us.length) (k : ∀ vs s', vs.map er = us → St c m σ s' → Q vs s') : wpAny c.M c.A (unpackItems (.ref t) n none) Q E s := by
  obtain ⟨vs, j, hl, hv, _⟩ := hs.tuple h
  have ht : IsTup s.heap t vs.toArray := ⟨_, hl, rfl, _, rfl⟩
  have en : n = vs.toArray.size := by rw [hn, ← hv]; simp
  have fin : ∀ h', Heap.ExtBut s.heap.objs.size s.heap h' → Q vs { s with heap := h' } := fun h' he => k vs _ hv (hs.grow fun b o e => he b o (Nat.ne_of_lt (Heap.lt_size e)) e)
  subst en
  rcases ok.hand with hh | ⟨_, e, d, hh, o, ws, hd, r⟩
  · exact unpackItems_tuple hh ht fun h' he => fin h' he
  · exact unpack_held hh ⟨o, ws, hs.st.keep _ _ hd, r⟩ ht fun h' he => fin h' he

/-- a target takes a value -/
noncomputable def AG (c : Fx) (tg : Expr) (v : V) (m : List (Option V)) (σ : AH) (Q : List (Option V) → AH → Prop) (E : Value → Shared → Prop) : Prop :=
  ∀ r, er r = v → c.Ok → ∀ s, St c m σ s → wpAny c.M c.A (assign tg c.env r) (fun _ s' => ∃ m' σ', St c m' σ' s' ∧ Q m' σ') E s
theorem ag_name {x : String} {p v m'} {Q} (hp : Put c.ns m x v m') (k : Q m' σ) : AG c (.Name (Str.ofString x) p) v m σ Q E := by
  intro r hr ok s hs
  subst hr
  exact wpAny_assign_Name (wp_store ok hs hp fun s' h' => ⟨_, _, h', k⟩)
@[reducible] noncomputable def KMn (Q : FL → List (Option V) → AH → Prop) : List (Option V) → AH → Prop := fun m σ => Q .next m σ
@[reducible] noncomputable def KAg (c : Fx) (t : Expr) (m : List (Option V)) (Q : FL → List (Option V) → AH → Prop) (E : Value → Shared → Prop) : V → AH → Prop := fun v σ₁ => AG c t v m σ₁ (KMn Q) E
@[reducible] noncomputable def KSw (ns : List String) (x y : String) (m : List (Option V)) (Q : FL → List (Option V) → AH → Prop) : V → AH → Prop := fun v σ₁ => ∃ t u w m₁ m₂, v = .ref t ∧ σ₁ t = some (.tuple [u, w]) ∧ Put ns m y w m₁ ∧ Put ns m₁ x u m₂ ∧ Q .next m₂ σ₁
theorem ax_assign {elts kk tp e q Q} (h : AE c e m σ (KAg c (.Tuple elts kk tp) m Q E) E)
    (hs' : swapsWithSole [.Tuple elts kk tp] e q.line c.env = pure false) (hw : swappedStores [.Tuple elts kk tp] e c.env = pure none) : AX1 c (.Assign [.Tuple elts kk tp] e q) m σ Q E :=
  fun ok s hs => Assign_Tuple (wpAny_mono (h ok s hs) (fun v s₁ ⟨_, h₁, k₁⟩ => wpAny_mono (k₁ v rfl ok s₁ h₁) (fun _ s₂ ⟨_, _, h₂, k₂⟩ => ⟨_, _, h₂, k₂⟩) fun _ _ e => e) fun _ _ e => e) hs' hw
/-- two names of the frame take the two parts of a tuple that is written there -/
theorem ax_swap {elts kk tp e q Q} {x y : String} (h : AE c e m σ (KSw c.ns x y m Q) E)
    (hs' : swapsWithSole [.Tuple elts kk tp] e q.line c.env = pure false) (hw : swappedStores [.Tuple elts kk tp] e c.env = pure (some [Str.ofString x, Str.ofString y])) : AX1 c (.Assign [.Tuple elts kk tp] e q) m σ Q E := by
  intro ok s hs
  refine Assign_Tuple_swapped (wpAny_mono (h ok s hs) (fun v s₁ ⟨σ₁, h₁, t, u, w, m₁, m₂, e1, e2, p1, p2, k⟩ => ?_) fun _ _ e => e) hs' hw
  cases er_ref e1
  refine unpack_ok ok h₁ e2 rfl fun vs s' hv hs' => ?_
  obtain ⟨a, b, rfl, f1, f2⟩ := map_two hv
  subst f1 f2
  show wpAny _ _ (assignInOrder [bindName c.env (Str.ofString y), bindName c.env (Str.ofString x)] [b, a]) _ _ _
  unfold assignInOrder
  refine wpAny_bind (wpAny_holding (wpAny_bindName (wp_store ok hs' p1 fun s₁ h₁ => ?_)))
  unfold assignInOrder
  refine wpAny_bind (wpAny_holding (wpAny_bindName (wp_store ok h₁ p2 fun s₂ h₂ => ?_)))
  unfold assignInOrder
  exact wpAny_pure ⟨_, _, h₂, k⟩
end
end Mine

end

section
open PySem PySem.W PyProof.Rows PySem.Spec PySem.Calls Builtin Builtin.ObjectAttr
set_option Elab.async false
set_option maxRecDepth 100000
set_option linter.unusedVariables false
namespace Mine

@[reducible] noncomputable def NoE : Value → Shared → Prop := fun _ _ => False
@[reducible] noncomputable def KL5 (prog : Program) (w : World) (A : Around) (acc : Value) (I : Nat → Shared → Prop) (n : Nat) : Value → Shared → Prop := fun x s₄ =>
  wpAny (model prog w) A (call (.builtin "list.append") [acc, x]) (fun _ s₅ => ∃ m, m < n ∧ I m s₅) NoE s₄
@[reducible] noncomputable def KL4 (prog : Program) (w : World) (A : Around) (elt : Expr) (acc : Value) (env : Env) (I : Nat → Shared → Prop) (n : Nat) : Bool → Shared → Prop := fun ok s₃ =>
  if ok = true then wpAny (model prog w) A (PySem.eval elt env) (KL5 prog w A acc I n) NoE s₃ else ∃ m, m < n ∧ I m s₃
@[reducible] noncomputable def KL3 (prog : Program) (w : World) (A : Around) (elt : Expr) (ifs : List Expr) (acc : Value) (env : Env) (I : Nat → Shared → Prop) (n : Nat) : Shared → Prop := fun s₂ =>
  wpAny (model prog w) A (forIn ifs true fun c r => if r = true then do let ok ← isTrue c env (PySem.eval c env); pure (ForInStep.yield ok) else pure (ForInStep.yield r)) (KL4 prog w A elt acc env I n) NoE s₂
@[reducible] noncomputable def KL2 (prog : Program) (w : World) (A : Around) (elt target : Expr) (ifs : List Expr) (acc : Value) (env : Env) (I : Nat → Shared → Prop) (n : Nat) (v : Value) : Unit → Shared → Prop := fun _ s₁ =>
  wpAny (model prog w) A (assign target env v) (fun _ s₂ => KL3 prog w A elt ifs acc env I n s₂) NoE s₁
@[reducible] noncomputable def KL1 (prog : Program) (w : World) (A : Around) (R : Result → Shared → Prop) (elt target : Expr) (ifs : List Expr) (it acc : Value) (env : Env) (I : Nat → Shared → Prop) (n : Nat) : Option Value → Shared → Prop := fun r s₁ => match r with
      | none => R (.ok .next) s₁
      | some v => wpAny (model prog w) A (letOwnedTupleGo target it v) (KL2 prog w A elt target ifs acc env I n v) NoE s₁
theorem comp_loop {prog : Program} {w : World} {A : Around} {R : Result → Shared → Prop} {s : Shared} {elt target iter : Expr} {ifs : List Expr} {scope : Scope} {pos : Pos} {it acc : Value} {env : Env} (I : Nat → Shared → Prop)
    (turn : ∀ n s, I n s → wpAny (model prog w) A (pyNext it) (KL1 prog w A R elt target ifs it acc env I n) NoE s)
    (n : Nat) (h : I n s) :
    codeAny (model prog w) A (.compLoop (.ListComp elt [⟨target, iter, ifs, 0⟩] scope pos) 0 it acc env) R s := by
  refine codeAny_loop rfl I (fun n s hI => ?_) n h
  show wpAny _ A ((compTurn (.ListComp elt [⟨target, iter, ifs, 0⟩] scope pos) 0 it acc env).onRaise (fun x => do noteFrame x env; theTreesLotGoes x)) _ _ s
  refine wpAny_noted (wpAny_noRaise ?_)
  rw [compTurn_list]
  refine wpAny_bind (wpAny_standAt (wpAny_bind (wpAny_mono (turn n s hI) (fun r s₁ h₁ => ?_) fun _ _ h' => h'.elim)))
  cases r with
  | none => exact wpAny_pure h₁
  | some v =>
    refine wpAny_bind (wpAny_mono h₁ (fun _ s₁' h₁' => ?_) fun _ _ h' => h'.elim)
    refine wpAny_bind (wpAny_mono h₁' (fun _ s₂ h₂ => wpAny_bind (wpAny_mono h₂ (fun ok s₃ h₃ => ?_) fun _ _ h' => h'.elim)) fun _ _ h' => h'.elim)
    cases ok with
    | false => exact wpAny_pure ⟨rfl, h₃⟩
    | true =>
      exact wpAny_bind (wpAny_bind (wpAny_mono h₃ (fun x s₄ h₄ => wpAny_bind (wpAny_mono h₄ (fun _ s₅ h₅ => wpAny_pure (wpAny_pure ⟨rfl, h₅⟩)) fun _ _ h' => h'.elim)) fun _ _ h' => h'.elim))

/-- the frame of a comprehension -/
noncomputable abbrev Fx.cf (c : Fx) (scope : Scope) (cl : List (Str × Addr)) (C : Addr) (ns gs : List String) (g : Heap) : Fx := { c with env := compEnvC scope cl C c.env, ns := ns, gs := gs, g := ⟨g, c.g.f⟩, fr := false }
noncomputable def nones (ns : List String) : List (Option V) := ns.map fun _ => none
theorem loc_nones (ns : List String) (mr) : LocOk ns (nones ns) mr := fun x v h => absurd h (no_at ns x v)

/-- what a test of a comprehension owes -/
noncomputable def CT (c : Fx) (ifs : List Expr) (m : List (Option V)) (σ : AH) (Q : Bool → AH → Prop) : Prop :=
  c.Ok → ∀ s, St c m σ s → wpAny c.M c.A (forIn ifs true fun t r => if r = true then do let ok ← isTrue t c.env (PySem.eval t c.env); pure (ForInStep.yield ok) else pure (ForInStep.yield r)) (fun ok s' => ∃ σ', St c m σ' s' ∧ Q ok σ') (fun _ _ => False) s
theorem ct_nil {c : Fx} {m σ Q} (h : Q true σ) : CT c [] m σ Q := fun _ s hs => wpAny_tests_nil ⟨σ, hs, h⟩
theorem ct_one {c : Fx} {m σ Q t} (h : AT c t m σ Q (fun _ _ => False)) : CT c [t] m σ Q := fun ok s hs => wpAny_tests_one (h ok s hs)

@[reducible] noncomputable def KCs (J : Nat → List V → AH → Prop) (i : Nat) (ys : List V) : V → AH → Prop := fun y σ₄ => J (i + 1) (ys ++ [y]) σ₄
@[reducible] noncomputable def KCok (c : Fx) (elt : Expr) (m₂ : List (Option V)) (J : Nat → List V → AH → Prop) (i : Nat) (ys : List V) : Bool → AH → Prop := fun ok σ₃ =>
  (ok = true → AE c elt m₂ σ₃ (KCs J i ys) NoE) ∧ (ok = false → J (i + 1) ys σ₃)
@[reducible] noncomputable def KCm (c : Fx) (elt : Expr) (ifs : List Expr) (J : Nat → List V → AH → Prop) (i : Nat) (ys : List V) : List (Option V) → AH → Prop := fun m₂ σ₂ => CT c ifs m₂ σ₂ (KCok c elt m₂ J i ys)
/-- where the loop of a comprehension stands -/
inductive CI (c : Fx) (n : Nat) (I D' : Addr) (St' : Nat → Heap → Prop) (J : Nat → List V → AH → Prop) (k : Nat) (s : Shared) : Prop where
  | mk (i : Nat) (ys : List V) (σ₁ : AH) (vs : List Value) (j : Nat) (h1 : i ≤ n) (h2 : k = n + 1 - i) (h3 : St c (nones c.ns) σ₁ s) (h4 : σ₁ I = none) (h5 : σ₁ D' = none) (h6 : St' i s.heap) (h7 : s.heap.get? D' = some { cls := .type "list", data := .seq vs.toArray j }) (h8 : vs.map er = ys) (h9 : J i ys σ₁) : CI c n I D' St' J k s
theorem comp_run {c : Fx} {tg elt iter : Expr} {ifs : List Expr} {scope : Scope} {pos : Pos} {n : Nat} {P : Nat → V → Prop} {D : AH → Prop} {St' : Nat → Heap → Prop} {I D' : Addr} {σ : AH} {s₁ : Shared} {R : Result → Shared → Prop}
    (W : Wk c c.A I n P D St') (ok₀ : c.Ok) (S₀ : St c (nones c.ns) σ s₁) (hI : σ I = none) (sD : σ D' = none) (gI' : c.g.g.get? I = none ∧ c.g.f.get? I = none) (gD : c.g.g.get? D' = none ∧ c.g.f.get? D' = none) (iC : I ≠ c.env.locals) (hDC : D' ≠ c.env.locals) (iD : I ≠ D') (st₁ : St' 0 s₁.heap) (hz : n ≤ sizeLine)
    (hacc : s₁.heap.get? D' = some { cls := .type "list", data := .seq ([] : List Value).toArray 0 })
    (hgo : ∀ i (s : Shared) v (Q : Unit → Shared → Prop), St' i s.heap → Q () s → wpAny c.M c.A (letOwnedTupleGo tg (.ref I) v) Q NoE s)
    (J : Nat → List V → AH → Prop) (h₀ : J 0 [] σ) (hD : ∀ i ys σ₁, J i ys σ₁ → D σ₁) (hlen : ∀ i ys σ₁, J i ys σ₁ → ys.length ≤ i)
    (turn : ∀ g i v ys σ₁, i < n → P i v → J i ys σ₁ → AG (c.wg g) tg v (nones c.ns) σ₁ (KCm (c.wg g) elt ifs J i ys) NoE)
    (fin : ∀ ys σ₁ (vs : List Value) j s', J n ys σ₁ → St c (nones c.ns) σ₁ s' → σ₁ D' = none → s'.heap.get? D' = some { cls := .type "list", data := .seq vs.toArray j } → vs.map er = ys → R (.ok .next) s') :
    codeAny c.M c.A (.compLoop (.ListComp elt [⟨tg, iter, ifs, 0⟩] scope pos) 0 (.ref I) (.ref D') c.env) R s₁ := by
  refine comp_loop (CI c n I D' St' J) ?_ (n + 1) ⟨0, [], σ, [], 0, Nat.zero_le _, rfl, S₀, hI, sD, st₁, hacc, rfl, h₀⟩
  rintro k s' ⟨i, ys, σ₁, vs, j, hi, rfl, S₁, I₁, D₁, stI, hl, hv, hJ⟩
  by_cases hlt : i < n
  · refine W.item i _ _ _ hlt stI fun v h' tk hP stI₂ hk => ?_
    have S₂ : St c (nones c.ns) σ₁ { s' with heap := h', toks := tk } := S₁.butI I₁ gI' iC hk
    have hl₂ : h'.get? D' = some { cls := .type "list", data := .seq vs.toArray j } := hk _ _ (Ne.symm iD) hl
    obtain ⟨oI₂, eI₂⟩ := W.there _ _ stI₂
    clear S₁ stI hl hk
    generalize hs₂ : ({ s' with heap := h', toks := tk } : Shared) = s₂ at S₂ ⊢
    have hh₂ : h' = s₂.heap := by rw [← hs₂]
    subst hh₂
    clear hs₂
    have ov := S₂.over ok₀
    have ok₂ := ok₀.over ov
    have gI := (ground_get (c := c) (σ := σ₁) (s := s₂)).mpr ⟨I₁, gI'.2, iC, eI₂⟩
    have gD₂ := (ground_get (c := c) (σ := σ₁) (s := s₂)).mpr ⟨D₁, gD.2, hDC, hl₂⟩
    have hput : ∀ σ₂ (s₃ : Shared), St c (nones c.ns) σ₂ s₃ → σ₂ I = none → σ₂ D' = none → s₃.heap.get? I = some oI₂ → ∀ ys', J (i + 1) ys' σ₂ → ∀ (vs' : List Value) (j' : Nat), s₃.heap.get? D' = some { cls := .type "list", data := .seq vs'.toArray j' } → vs'.map er = ys' →
        ∃ k', k' < n + 1 - i ∧ CI c n I D' St' J k' s₃ := by
      intro σ₂ s₃ S₃ z1 z2 z3 ys' hJ' vs' j' hl' hv'
      refine ⟨n + 1 - (i + 1), by omega, i + 1, ys', σ₂, vs', j', hlt, rfl, S₃, z1, z2, ?_, hl', hv', hJ'⟩
      refine W.keep (i + 1) _ _ σ₂ stI₂ (hD _ _ _ hJ') (fun o e => ?_) S₃.st.rep
      have : oI₂ = o := by rw [eI₂] at e; exact Option.some.inj e
      rw [← this]; exact z3
    have weak : ∀ {m' σ' s''}, St (c.wg (ground c σ₁ s₂)) m' σ' s'' → St (c.wg (ground c σ₁ s₂)) (nones c.ns) σ' s'' := fun S => by
      obtain ⟨mr, hn, _⟩ := S.loc
      exact ⟨S.st, ⟨mr, hn, loc_nones _ _⟩, S.outL⟩
    have tn := turn (ground c σ₁ s₂) i (er v) ys σ₁ hlt hP hJ v rfl ok₂ _ S₂.wg
    have ln := hlen _ _ _ hJ
    have nx : ∀ {m' σ' s''}, St (c.wg (ground c σ₁ s₂)) m' σ' s'' → St c (nones c.ns) σ' s'' := fun S => (weak S).ug ov
    generalize ground c σ₁ s₂ = G at ov ok₂ gI gD₂ tn nx
    clear weak S₂ hJ
    refine hgo (i + 1) s₂ v _ stI₂ ?_
    refine wpAny_mono tn (fun _ s₃ ⟨m₂, σ₂, S₃, hct⟩ => ?_) fun _ _ e => e
    refine wpAny_mono (hct ok₂ _ S₃) (fun okb s₄ ⟨σ₃, S₄, h1, h2⟩ => ?_) fun _ _ e => e
    cases okb with
    | false => exact hput σ₃ s₄ (nx S₄) (S₄.st.out _ _ gI) (S₄.st.out _ _ gD₂) (S₄.st.keep _ _ gI) ys (h2 rfl) vs j (S₄.st.keep _ _ gD₂) hv
    | true =>
      refine wpAny_mono (h1 rfl ok₂ _ S₄) (fun y s₅ ⟨σ₄, S₅, hJ₅⟩ => ?_) fun _ _ e => e
      have hl₅ := S₅.st.keep _ _ gD₂
      have hI₅ := S₅.st.keep _ _ gI
      refine append_at hl₅ (fun h₆ hb hx => ?_) (by rw [List.size_toArray, ← List.length_map (f := er), hv]; omega)
      have S₆ := (nx S₅).butI (h' := h₆) (tk := s₅.toks) (S₅.st.out _ _ gD₂) gD hDC (fun b o hb' e => (hb.2 b hb').trans e)
      refine hput σ₄ _ S₆ (S₅.st.out _ _ gI) (S₅.st.out _ _ gD₂) ((hb.2 I iD).trans hI₅) (ys ++ [er y]) hJ₅ (vs ++ [y]) (j + 1) ?_ (by simp [hv])
      rw [hx, List.push_toArray]
  · obtain rfl : i = n := Nat.le_antisymm hi (Nat.not_lt.mp hlt)
    refine W.done _ _ _ stI fun h' tk hk => ?_
    exact fin ys σ₁ vs j _ hJ (S₁.butI I₁ gI' iC hk) D₁ (hk _ _ (Ne.symm iD) hl) hv
section
variable {c : Fx} {m : List (Option V)} {σ : AH} {E : Value → Shared → Prop} {s : Shared}

theorem mask_five {σ : AH} {f h : Heap} {I D' C a : Addr} {x : Obj} : (mask (fun a => (σ a).isSome || (f.get? a).isSome || a == I || a == D' || a == C) h).get? a = some x ↔ σ a = none ∧ f.get? a = none ∧ a ≠ I ∧ a ≠ D' ∧ a ≠ C ∧ h.get? a = some x := by
  rw [mask_get]
  by_cases q : ((σ a).isSome || (f.get? a).isSome || a == I || a == D' || a == C) = true
  · rw [if_pos q]
    refine ⟨fun z => (nomatch z), fun ⟨h1, h2, h3, h4, h5, _⟩ => ?_⟩
    rw [h1, h2, beq_false_of_ne h3, beq_false_of_ne h4, beq_false_of_ne h5] at q
    exact absurd q (by decide)
  · rw [if_neg q]
    rw [Bool.or_eq_true, Bool.or_eq_true, Bool.or_eq_true, Bool.or_eq_true, not_or, not_or, not_or, not_or] at q
    exact ⟨fun z => ⟨Option.not_isSome_iff_eq_none.mp q.1.1.1.1, Option.not_isSome_iff_eq_none.mp q.1.1.1.2, fun e => q.1.1.2 (beq_iff_eq.mpr e), fun e => q.1.2 (beq_iff_eq.mpr e), fun e => q.2 (beq_iff_eq.mpr e), z⟩, fun z => z.2.2.2.2.2⟩
theorem comp_begin {tg elt iter : Expr} {ifs : List Expr} {scope : Scope} {cl : List (Str × Addr)} {pos : Pos} {ns gs : List String} {n : Nat} {P : Nat → V → Prop} {D : AH → Prop} {St' : Nat → Heap → Prop} {I : Addr} {RR : Value → Addr → Result → Shared → Prop}
    (W : Wk c c.A I n P D St') (ok : c.Ok) (hs : St c m σ s) (hI : σ I = none) (hIg : c.g.g.get? I = none ∧ c.g.f.get? I = none) (hIL : I ≠ c.env.locals) (hst : St' 0 s.heap) (hz : n ≤ sizeLine)
    (hcell : ∀ y ∈ scope.names, y.2 ≠ .cell) (hkind : scope.kind = .function)
    (hloc : ∀ C, ∀ x ∈ ns, (compEnvC scope cl C c.env).kindOf (Str.ofString x) = some .local) (hglo : ∀ C, ∀ x ∈ gs, (compEnvC scope cl C c.env).kindOf (Str.ofString x) = some .globalImplicit)
    (hnd : (ns.map Str.ofString).Nodup) (hdb : ∀ x ∈ ns ++ gs, (Str.ofString x == ("__debug__" : Str)) = false)
    (hgo : ∀ i (s : Shared) v (Q : Unit → Shared → Prop), St' i s.heap → Q () s → wpAny c.M c.A (letOwnedTupleGo tg (.ref I) v) Q (fun _ _ => False) s)
    (J : Nat → List V → AH → Prop) (h₀ : J 0 [] σ) (hD : ∀ i ys σ₁, J i ys σ₁ → D σ₁) (hlen : ∀ i ys σ₁, J i ys σ₁ → ys.length ≤ i)
    (turn : ∀ C g i v ys σ₁, i < n → P i v → J i ys σ₁ → AG (c.cf scope cl C ns gs g) tg v (nones ns) σ₁ (KCm (c.cf scope cl C ns gs g) elt ifs J i ys) NoE)
    (fin : ∀ D' ys σ₁ C s' mC, J n ys σ₁ → Fresh σ₁ D' → s'.heap.Ns C mC → St c m (upd σ₁ D' (.list ys)) s' → (upd σ₁ D' (.list ys)) C = none → (c.g.g.get? C = none ∧ c.g.f.get? C = none) → C ≠ c.env.locals → RR (.ref D') C (.ok .next) s')
    {D' C : Addr} {h₁ : Heap} {tk : Tok} {mr} (hC : C = D' + 1) (lt : ∀ b o, s.heap.get? b = some o → b < D') (old : ∀ b o, s.heap.get? b = some o → h₁.get? b = some o) (hacc : h₁.get? D' = some { cls := .type "list", data := .seq ([] : List Value).toArray 0 }) (hns₁ : h₁.Ns C mr) :
    codeAny c.M c.A (.compStart (.ListComp elt [⟨tg, iter, ifs, 0⟩] scope pos) 0 (.ref I) (.ref D') (compEnvC scope cl C c.env)) (RR (.ref D') C) { s with heap := h₁, toks := tk } := by
  subst hC
  have hDC : D' ≠ D' + 1 := Nat.ne_of_lt (Nat.lt_succ_self _)
  have none_ : ∀ b, D' ≤ b → s.heap.get? b = none := fun b hb => by
    cases e : s.heap.get? b with
    | none => rfl
    | some o => exact absurd (lt b o e) (Nat.not_lt.mpr hb)
  have off : ∀ b, D' ≤ b → σ b = none ∧ (c.g.g.get? b = none ∧ c.g.f.get? b = none) ∧ b ≠ c.env.locals := fun b hb => by
    refine ⟨?_, ⟨?_, ?_⟩, ?_⟩
    · cases e : σ b with
      | none => rfl
      | some o => obtain ⟨x, hx, _⟩ := hs.st.rep b o e; rw [none_ b hb] at hx; cases hx
    · cases e : c.g.g.get? b with
      | none => rfl
      | some o => have := hs.st.keep b o e; rw [none_ b hb] at this; cases this
    · cases e : c.g.f.get? b with
      | none => rfl
      | some o => obtain ⟨sl, this⟩ := hs.st.slot b o e; rw [none_ b hb] at this; cases this
    · rintro rfl
      obtain ⟨mr, ⟨o, _, _, e, _⟩, _⟩ := hs.loc
      rw [none_ _ hb] at e; cases e
  obtain ⟨sC, gC, lC⟩ := off (D' + 1) (Nat.le_succ _)
  obtain ⟨sD, gD, lD⟩ := off D' (Nat.le_refl _)
  obtain ⟨oI, eI⟩ := W.there _ _ hst
  have iD : I ≠ D' := Nat.ne_of_lt (lt I oI eI)
  have iC : I ≠ D' + 1 := Nat.ne_of_lt (Nat.lt_succ_of_lt (lt I oI eI))
  -- the base
  have hS₁ : St c m σ { s with heap := h₁, toks := tk } := hs.grow old
  generalize hs₁ : ({ s with heap := h₁, toks := tk } : Shared) = s₁ at hS₁ ⊢
  have hh₁ : s₁.heap = h₁ := by rw [← hs₁]
  rw [← hh₁] at hns₁ hacc old
  have gg : ∀ a x, (mask (fun a => (σ a).isSome || (c.g.f.get? a).isSome || a == I || a == D' || a == D' + 1) s₁.heap).get? a = some x ↔ σ a = none ∧ c.g.f.get? a = none ∧ a ≠ I ∧ a ≠ D' ∧ a ≠ D' + 1 ∧ s₁.heap.get? a = some x := fun a x => mask_five
  generalize mask (fun a => (σ a).isSome || (c.g.f.get? a).isSome || a == I || a == D' || a == D' + 1) s₁.heap = G at gg
  have cg : ∀ a x, c.g.g.get? a = some x → G.get? a = some x := fun a x e => by
    refine (gg a x).mpr ⟨hs.st.out a x e, ?_, ?_, ?_, ?_, hS₁.st.keep a x e⟩
    · cases e' : c.g.f.get? a with
      | none => rfl
      | some y => have := (ok.frs.2 a y e').1; rw [e] at this; cases this
    · rintro rfl; rw [hIg.1] at e; cases e
    · rintro rfl; rw [gD.1] at e; cases e
    · rintro rfl; rw [gC.1] at e; cases e
  have GI : G.get? I = none := by
    cases e : G.get? I with
    | none => rfl
    | some x => exact absurd rfl ((gg _ _).mp e).2.2.1
  have GD : G.get? D' = none := by
    cases e : G.get? D' with
    | none => rfl
    | some x => exact absurd rfl ((gg _ _).mp e).2.2.2.1
  have GC : G.get? (D' + 1) = none := by
    cases e : G.get? (D' + 1) with
    | none => rfl
    | some x => exact absurd rfl ((gg _ _).mp e).2.2.2.2.1
  have ok₀ : (c.cf scope cl (D' + 1) ns gs G).Ok := by
    refine ⟨ok.gnd.keeps cg, (fun h => by cases h), ⟨ok.frs.1, fun a o e => ⟨?_, (ok.frs.2 a o e).2⟩⟩, (fun h => by cases h), gC.2, hkind, ok.glob, ok.blt, hloc _, hglo _, hnd, GC, ok.room, hdb, ok.hand.more (fun e => e) cg⟩
    cases e' : G.get? a with
    | none => rfl
    | some y => have := ((gg _ _).mp e').2.1; rw [e] at this; cases this
  have S₀ : St (c.cf scope cl (D' + 1) ns gs G) (nones ns) σ s₁ :=
    ⟨⟨hS₁.st.rep, fun a x e => ((gg _ _).mp e).2.2.2.2.2, fun a x e => ((gg _ _).mp e).1, hS₁.st.slot, hS₁.st.outf, hS₁.st.same⟩, ⟨_, hns₁, loc_nones _ _⟩, sC⟩
  have st₁ : St' 0 s₁.heap := W.keep 0 _ _ σ hst (hD _ _ _ h₀) (fun o e => old _ o e) hS₁.st.rep
  have Lg : ∃ oL, G.get? c.env.locals = some oL := by
    obtain ⟨mr, ⟨o, es, ep, e, _⟩, _⟩ := hS₁.loc
    exact ⟨o, (gg _ _).mpr ⟨hs.outL, ok.notF, Ne.symm hIL, Ne.symm lD, Ne.symm lC, e⟩⟩
  obtain ⟨oL, eL⟩ := Lg
  have locL := hS₁.loc
  have loop : codeAny c.M c.A (.compLoop (.ListComp elt [⟨tg, iter, ifs, 0⟩] scope pos) 0 (.ref I) (.ref D') (compEnvC scope cl (D' + 1) c.env)) (RR (.ref D') (D' + 1)) s₁ := by
    refine comp_run (c := c.cf scope cl (D' + 1) ns gs G) (σ := σ) ⟨W.keep, W.item, W.done, W.there, W.self⟩ ok₀ S₀ hI sD ⟨GI, hIg.2⟩ ⟨GD, gD.2⟩ iC hDC iD st₁ hz hacc hgo J h₀ hD hlen (fun g => turn (D' + 1) g) fun ys σ₁ vs j s' hJ S₂ D₁ hl₂ hv => ?_
    clear S₀ ok₀ st₁ turn W hgo
    obtain ⟨mC, hnC, _⟩ := S₂.loc
    have ln := hlen _ _ _ hJ
    have nD : ∀ a o, σ₁ a = some o → a ≠ D' := fun a o e q => by rw [q, D₁] at e; cases e
    refine fin D' ys σ₁ (D' + 1) _ mC hJ nD hnC ?_ (by rw [upd_ne _ _ (Ne.symm hDC)]; exact S₂.outL) gC lC
    refine ⟨⟨fun a o e => ?_, fun a x e => S₂.st.keep a x (cg a x e), fun a x e => ?_, S₂.st.slot, fun a x e => ?_, S₂.st.same⟩, ?_, ?_⟩
    · by_cases q : a = D'
      · subst q; rw [upd_same] at e; cases e
        exact ⟨_, hl₂, rl_list hv (by rw [← List.length_map (f := er), hv]; omega)⟩
      · rw [upd_ne _ _ q] at e; exact S₂.st.rep a o e
    · rw [upd_ne _ _ (fun q => by rw [q, gD.1] at e; cases e)]; exact S₂.st.out a x (cg a x e)
    · rw [upd_ne _ _ (fun q => by rw [q, gD.2] at e; cases e)]; exact S₂.st.outf a x e
    · obtain ⟨mr, hn, hl⟩ := locL
      refine ⟨mr, Ns.at_get hn fun o e => ?_, hl⟩
      exact S₂.st.keep _ _ ((gg _ _).mpr ⟨hs.outL, ok.notF, Ne.symm hIL, Ne.symm lD, Ne.symm lC, e⟩)
    · rw [upd_ne _ _ (Ne.symm lD)]; exact S₂.st.out _ _ eL
  exact codeAny_compStart_list loop (W.self 0 _ _ _ st₁ loop)
theorem comp_core {tg elt iter : Expr} {ifs : List Expr} {scope : Scope} {cl : List (Str × Addr)} {pos : Pos} {ns gs : List String} {n : Nat} {P : Nat → V → Prop} {D : AH → Prop} {St' : Nat → Heap → Prop} {I : Addr} {RR : Value → Addr → Result → Shared → Prop}
    (W : Wk c c.A I n P D St') (ok : c.Ok) (hs : St c m σ s) (hI : σ I = none) (hIg : c.g.g.get? I = none ∧ c.g.f.get? I = none) (hIL : I ≠ c.env.locals) (hst : St' 0 s.heap) (hz : n ≤ sizeLine)
    (hcell : ∀ y ∈ scope.names, y.2 ≠ .cell) (hkind : scope.kind = .function)
    (hloc : ∀ C, ∀ x ∈ ns, (compEnvC scope cl C c.env).kindOf (Str.ofString x) = some .local) (hglo : ∀ C, ∀ x ∈ gs, (compEnvC scope cl C c.env).kindOf (Str.ofString x) = some .globalImplicit)
    (hnd : (ns.map Str.ofString).Nodup) (hdb : ∀ x ∈ ns ++ gs, (Str.ofString x == ("__debug__" : Str)) = false)
    (hgo : ∀ i (s : Shared) v (Q : Unit → Shared → Prop), St' i s.heap → Q () s → wpAny c.M c.A (letOwnedTupleGo tg (.ref I) v) Q (fun _ _ => False) s)
    (J : Nat → List V → AH → Prop) (h₀ : J 0 [] σ) (hD : ∀ i ys σ₁, J i ys σ₁ → D σ₁) (hlen : ∀ i ys σ₁, J i ys σ₁ → ys.length ≤ i)
    (turn : ∀ C g i v ys σ₁, i < n → P i v → J i ys σ₁ → AG (c.cf scope cl C ns gs g) tg v (nones ns) σ₁ (KCm (c.cf scope cl C ns gs g) elt ifs J i ys) NoE)
    (fin : ∀ D' ys σ₁ C s' mC, J n ys σ₁ → Fresh σ₁ D' → s'.heap.Ns C mC → St c m (upd σ₁ D' (.list ys)) s' → (upd σ₁ D' (.list ys)) C = none → (c.g.g.get? C = none ∧ c.g.f.get? C = none) → C ≠ c.env.locals → RR (.ref D') C (.ok .next) s') :
    wpAny c.M c.A (newList []) (fun acc s₃ => wpAny c.M c.A (newFunctionEnv scope c.env.globals cl [] c.env.qual none .none (some c.env)) (fun cenv s₄ =>
      codeAny c.M c.A (.compStart (.ListComp elt [⟨tg, iter, ifs, 0⟩] scope pos) 0 (.ref I) acc { cenv with scope := relabel scope c.env }) (RR acc cenv.locals) s₄) E s₃) E s := by
  refine wpAny_newObj_type (wpAny_newFunctionEnv hcell (by intro y hy; simp at hy) (fun h₁ hns₁ hsb₁ => ?_) hkind)
  have hp := Heap.get?_push_size s.heap (o := { cls := .type "list", dict := none, data := .seq ([] : List Value).toArray }) rfl
  exact comp_begin W ok hs hI hIg hIL hst hz hcell hkind hloc hglo hnd hdb hgo J h₀ hD hlen turn fin (Heap.size_push _ _) (fun b o e => Heap.lt_size e)
    (fun b o e => hsb₁.extBut b o (Nat.ne_of_lt (Nat.lt_of_lt_of_le (Heap.lt_size e) (by rw [Heap.size_push]; exact Nat.le_succ _))) (Heap.get?_push_of_some _ (Heap.get?_push_of_some _ e)))
    (hsb₁.extBut _ _ (by rw [Heap.size_push]; exact Nat.ne_of_lt (Nat.lt_succ_self _)) (Heap.get?_push_of_some _ hp)) hns₁
end
end Mine

end

section
open PySem PySem.W PyProof.Rows PySem.Spec PySem.Calls Builtin Builtin.ObjectAttr
set_option Elab.async false
set_option maxRecDepth 100000
set_option linter.unusedVariables false
namespace Mine

/-- what is asked of the words of a comprehension -/
structure CompOk (c : Fx) (scope : Scope) (cl : List (Str × Addr)) (ns gs : List String) : Prop where
  cell : ∀ y ∈ scope.names, y.2 ≠ .cell
  kind : scope.kind = .function
  names : ∀ y ∈ scope.names, y.2 = .local → scope.names.lookup y.1 = some .local
  clos : closureFor scope c.env = pure cl
  loc : ∀ C, ∀ x ∈ ns, (compEnvC scope cl C c.env).kindOf (Str.ofString x) = some .local
  glo : ∀ C, ∀ x ∈ gs, (compEnvC scope cl C c.env).kindOf (Str.ofString x) = some .globalImplicit
  nd : (ns.map Str.ofString).Nodup
  db : ∀ x ∈ ns ++ gs, (Str.ofString x == ("__debug__" : Str)) = false

theorem go_name {x px} {I : Addr} {v : Value} : letOwnedTupleGo (.Name x px) (.ref I) v = pure () := rfl
theorem go_list {prog w} {A : Around} {I a : Addr} {i : Nat} {s : Shared} {tg : Expr} {v : Value} {Q : Unit → Shared → Prop} {E : Value → Shared → Prop} (hit : s.heap.IsListIter I a i) (hQ : Q () s) : wpAny (model prog w) A (letOwnedTupleGo tg (.ref I) v) Q E s := by
  cases tg
  case Tuple =>
    cases v
    case ref r => exact wpAny_letOwnedTupleGo_listiter hit hQ
    all_goals exact wpAny_pure hQ
  case List =>
    cases v
    case ref r => exact wpAny_letOwnedTupleGo_listiter (elts := []) (x1 := 0) (pos := default) hit hQ
    all_goals exact wpAny_pure hQ
  all_goals exact wpAny_pure hQ

section
variable {c : Fx} {m : List (Option V)} {σ : AH} {E : Value → Shared → Prop} {s : Shared}

/-- what a comprehension over n items owes -/
noncomputable def CompS (c : Fx) (tg elt : Expr) (ifs : List Expr) (scope : Scope) (cl : List (Str × Addr)) (ns gs : List String) (n : Nat) (P : Nat → V → Prop) (D : AH → Prop) (σ : AH) (Q : V → AH → Prop) : Prop :=
  ∃ J : Nat → List V → AH → Prop, J 0 [] σ ∧ (∀ i ys σ₁, J i ys σ₁ → D σ₁) ∧ (∀ i ys σ₁, J i ys σ₁ → ys.length ≤ i) ∧
    (∀ C g i v ys σ₁, i < n → P i v → J i ys σ₁ → AG (c.cf scope cl C ns gs g) tg v (nones ns) σ₁ (KCm (c.cf scope cl C ns gs g) elt ifs J i ys) NoE) ∧
    (∀ d ys σ₁, J n ys σ₁ → Fresh σ₁ d → Q (.ref d) (upd σ₁ d (.list ys)))

@[reducible] noncomputable def KCl (c : Fx) (tg elt : Expr) (ifs : List Expr) (scope : Scope) (cl : List (Str × Addr)) (ns gs : List String) (Q : V → AH → Prop) : V → AH → Prop := fun u σ₁ => ∃ a xs, u = .ref a ∧ σ₁ a = some (.list xs) ∧ xs.length ≤ sizeLine ∧ CompS c tg elt ifs scope cl ns gs xs.length (fun i v => xs[i]? = some v) (fun σ => σ a = some (.list xs)) σ₁ Q
@[reducible] noncomputable def KCstr (c : Fx) (tg elt : Expr) (ifs : List Expr) (scope : Scope) (cl : List (Str × Addr)) (ns gs : List String) (Q : V → AH → Prop) : V → AH → Prop := fun u σ₁ => ∃ xs, u = .str xs ∧ xs.length ≤ sizeLine ∧ CompS c tg elt ifs scope cl ns gs xs.length (fun i v => ∃ n, xs[i]? = some n ∧ v = .str [n]) (fun _ => True) σ₁ Q
theorem comp_list {tg elt iter : Expr} {ifs : List Expr} {scope : Scope} {cl : List (Str × Addr)} {pos : Pos} {ns gs : List String} {a : Addr} {xs : List V} {Q : V → AH → Prop} {RR : Value → Addr → Result → Shared → Prop}
    (hh : c.h = true) (K : CompOk c scope cl ns gs) (ok : c.Ok) (hs : St c m σ s) (ha : σ a = some (.list xs)) (hz : xs.length ≤ sizeLine)
    (h : CompS c tg elt ifs scope cl ns gs xs.length (fun i v => xs[i]? = some v) (fun σ => σ a = some (.list xs)) σ Q)
    (fin : ∀ D' σ₁ C s' mC, Q (.ref D') σ₁ → s'.heap.Ns C mC → St c m σ₁ s' → σ₁ C = none → (c.g.g.get? C = none ∧ c.g.f.get? C = none) → C ≠ c.env.locals → RR (.ref D') C (.ok .next) s') :
    wpAny c.M c.A (pyIter (.ref a)) (fun it s₂ => wpAny c.M c.A (newList []) (fun acc s₃ => wpAny c.M c.A (newFunctionEnv scope c.env.globals cl [] c.env.qual none .none (some c.env)) (fun cenv s₄ =>
      codeAny c.M c.A (.compStart (.ListComp elt [⟨tg, iter, ifs, 0⟩] scope pos) 0 it acc { cenv with scope := relabel scope c.env }) (RR acc cenv.locals) s₄) E s₃) E s₂) E s := by
  obtain ⟨J, j0, jD, jl, jt, jf⟩ := h
  obtain ⟨vs, n, hl, hv, hn⟩ := hs.list ha
  obtain ⟨n1, n2, n3⟩ := hs.newI ok
  have hlt : a < s.heap.objs.size := Heap.lt_size hl
  refine wpAny_pyIter_list (IsL.isList hl) ?_
  refine comp_core (Wk.list (ax := a) (xs := xs) (ok.hnd hh) (Nat.ne_of_lt hlt)) ok (hs.pushHid (tk := s.toks)) n1 n2 n3
    ⟨⟨_, Heap.get?_push_size _ rfl, rfl, rfl⟩, vs, n, Heap.get?_push_of_some _ hl, hv⟩ hz K.cell K.kind K.loc K.glo K.nd K.db (fun i s v Q st q => go_list st.1 q) J j0 jD jl jt
    fun D' ys σ₁ C s' mC q1 q2 q3 q4 q5 q6 q7 => fin D' _ C s' mC (jf D' ys σ₁ q1 q2) q3 q4 q5 q6 q7

theorem comp_str {elt iter : Expr} {x : String} {px : Pos} {ifs : List Expr} {scope : Scope} {cl : List (Str × Addr)} {pos : Pos} {ns gs : List String} {xs : List Nat} {t : Tok} {Q : V → AH → Prop} {RR : Value → Addr → Result → Shared → Prop}
    (hh : c.h = true) (K : CompOk c scope cl ns gs) (ok : c.Ok) (hs : St c m σ s) (hz : xs.length ≤ sizeLine)
    (h : CompS c (.Name (Str.ofString x) px) elt ifs scope cl ns gs xs.length (fun i v => ∃ n, xs[i]? = some n ∧ v = .str [n]) (fun _ => True) σ Q)
    (fin : ∀ D' σ₁ C s' mC, Q (.ref D') σ₁ → s'.heap.Ns C mC → St c m σ₁ s' → σ₁ C = none → (c.g.g.get? C = none ∧ c.g.f.get? C = none) → C ≠ c.env.locals → RR (.ref D') C (.ok .next) s') :
    wpAny c.M c.A (pyIter (.str ⟨xs.toArray⟩ t)) (fun it s₂ => wpAny c.M c.A (newList []) (fun acc s₃ => wpAny c.M c.A (newFunctionEnv scope c.env.globals cl [] c.env.qual none .none (some c.env)) (fun cenv s₄ =>
      codeAny c.M c.A (.compStart (.ListComp elt [⟨.Name (Str.ofString x) px, iter, ifs, 0⟩] scope pos) 0 it acc { cenv with scope := relabel scope c.env }) (RR acc cenv.locals) s₄) E s₃) E s₂) E s := by
  obtain ⟨J, j0, jD, jl, jt, jf⟩ := h
  obtain ⟨n1, n2, n3⟩ := hs.newI ok
  have core : ∀ (o : Obj) (St₁ : Nat → Heap → Prop), Walks PySem.Challenge.pw_pq0932_01 c.w c.A s.heap.objs.size [s.heap.objs.size] [s.heap.objs.size] (Str.mk xs.toArray).cps.size (SignAt ⟨xs.toArray⟩) St₁ → (∀ i h, St₁ i h → ∃ o, h.get? s.heap.objs.size = some o) → St₁ 0 (s.heap.push o) →
      wpAny c.M c.A (newList []) (fun acc s₃ => wpAny c.M c.A (newFunctionEnv scope c.env.globals cl [] c.env.qual none .none (some c.env)) (fun cenv s₄ =>
      codeAny c.M c.A (.compStart (.ListComp elt [⟨.Name (Str.ofString x) px, iter, ifs, 0⟩] scope pos) 0 (.ref s.heap.objs.size) acc { cenv with scope := relabel scope c.env }) (RR acc cenv.locals) s₄) E s₃) E { s with heap := s.heap.push o } := by
    intro o St₁ W hT hst
    have hsz : (Str.mk xs.toArray).cps.size = xs.length := by simp
    refine comp_core (Wk.str W hT) ok (hs.pushHid (tk := s.toks)) n1 n2 n3 hst (by rw [hsz]; exact hz) K.cell K.kind K.loc K.glo K.nd K.db (fun i s v Q st q => by rw [go_name]; exact wpAny_pure q) J j0 jD jl (fun C g i v ys σ₁ hi hP hJ => jt C g i v ys σ₁ (by rw [← hsz]; exact hi) (by
        obtain ⟨n, h1, h2⟩ := hP
        exact ⟨n, by simpa using h1, h2⟩) hJ)
      fun D' ys σ₁ C s' mC q1 q2 q3 q4 q5 q6 q7 => fin D' _ C s' mC (jf D' ys σ₁ (by rw [hsz] at q1; exact q1) q2) q3 q4 q5 q6 q7
  cases ha : (Str.mk xs.toArray).cps.all (· < 128)
  · exact wpAny_pyIter_wide ha (core _ _ (Walks.strWide (ok.hnd hh) _ _ t) (fun i h ⟨o, e, _⟩ => ⟨o, e⟩) ⟨_, Heap.get?_push_size _ rfl, rfl, rfl⟩)
  · exact wpAny_pyIter_ascii ha (core _ _ (Walks.strAscii (ok.hnd hh) _ _ t) (fun i h ⟨o, e, _⟩ => ⟨o, e⟩) ⟨_, Heap.get?_push_size _ rfl, rfl, rfl⟩)

theorem off_set {C : Addr} {h' : Heap} (hs : St c m σ s) (h1 : σ C = none) (h2 : c.g.g.get? C = none ∧ c.g.f.get? C = none) (h3 : C ≠ c.env.locals) (hb : Heap.SameBut C s.heap h') : St c m σ { s with heap := h' } :=
  hs.butI (tk := s.toks) h1 h2 h3 fun b o q e => (hb.2 b q).trans e

/-- a comprehension, its value used -/
theorem ae_compl {tg elt iter : Expr} {ifs : List Expr} {scope : Scope} {pos : Pos} {Q : V → AH → Prop} (cl : List (Str × Addr)) (ns gs : List String) (hh : c.h = true) (K : CompOk c scope cl ns gs)
    (h : AE c iter m σ (KCl c tg elt ifs scope cl ns gs Q) E)
    (hf : ∀ v, foldedSetIterable iter c.env v = pure v) : AE c (.ListComp elt [⟨tg, iter, ifs, 0⟩] scope pos) m σ Q E := by
  intro ok s hs
  rw [eval_ListComp]
  refine wpAny_comprehension_free (use := none) rfl hf K.clos K.kind K.names (wpAny_mono (h ok s hs) (fun xv s₁ ⟨σ₁, h₁, a, xs, e1, e2, e3, e4⟩ => ?_) fun _ _ e => e)
  cases er_ref e1
  refine comp_list (RR := fun acc C => compPost c.M c.A E none (fun v s' => ∃ σ', St c m σ' s' ∧ Q (er v) σ') acc C) hh K ok h₁ e2 e3 e4 fun D' σ₂ C s' mC q1 q2 q3 q4 q5 q6 => ?_
  exact ⟨mC, q2, fun h' hb => ⟨σ₂, off_set q3 q4 q5 q6 hb, q1⟩⟩
theorem ae_comps {x : String} {px : Pos} {elt iter : Expr} {ifs : List Expr} {scope : Scope} {pos : Pos} {Q : V → AH → Prop} (cl : List (Str × Addr)) (ns gs : List String) (hh : c.h = true) (K : CompOk c scope cl ns gs)
    (h : AE c iter m σ (KCstr c (.Name (Str.ofString x) px) elt ifs scope cl ns gs Q) E)
    (hf : ∀ v, foldedSetIterable iter c.env v = pure v) : AE c (.ListComp elt [⟨.Name (Str.ofString x) px, iter, ifs, 0⟩] scope pos) m σ Q E := by
  intro ok s hs
  rw [eval_ListComp]
  refine wpAny_comprehension_free (use := none) rfl hf K.clos K.kind K.names (wpAny_mono (h ok s hs) (fun xv s₁ ⟨σ₁, h₁, xs, e1, e3, e4⟩ => ?_) fun _ _ e => e)
  obtain ⟨t, rfl⟩ := er_str e1
  refine comp_str (RR := fun acc C => compPost c.M c.A E none (fun v s' => ∃ σ', St c m σ' s' ∧ Q (er v) σ') acc C) hh K ok h₁ e3 e4 fun D' σ₂ C s' mC q1 q2 q3 q4 q5 q6 => ?_
  exact ⟨mC, q2, fun h' hb => ⟨σ₂, off_set q3 q4 q5 q6 hb, q1⟩⟩
/-- a comprehension that a name of the frame takes -/
theorem ax_compl {y : String} {py spos : Pos} {tg elt iter : Expr} {ifs : List Expr} {scope : Scope} {pos : Pos} {Q : FL → List (Option V) → AH → Prop} (cl : List (Str × Addr)) (ns gs : List String) (hh : c.h = true) (K : CompOk c scope cl ns gs)
    (hsw : swapsWith (.ListComp elt [⟨tg, iter, ifs, 0⟩] scope pos) (some (.Name (Str.ofString y) py)) spos.line c.env = pure true)
    (h : AE c iter m σ (KCl c tg elt ifs scope cl ns gs (KNm c.ns y m Q)) E)
    (hf : ∀ v, foldedSetIterable iter c.env v = pure v) : AX1 c (.Assign [.Name (Str.ofString y) py] (.ListComp elt [⟨tg, iter, ifs, 0⟩] scope pos) spos) m σ Q E := by
  intro ok s hs
  rw [exec_Assign_Name_used _ _ _ _ hsw]
  refine wpAny_bind (wpAny_standAt (wpAny_bind ?_))
  show wpAny _ c.A (do let _ ← comprehension (.ListComp elt [⟨tg, iter, ifs, 0⟩] scope pos) scope c.env _ (newList []) false (PySem.eval iter c.env) (some (assign (.Name (Str.ofString y) py) c.env))) _ _ s
  refine wpAny_bind (wpAny_mono (wpAny_comprehension_free (use := some (assign (.Name (Str.ofString y) py) c.env)) (Q := fun _ s' => ∃ m' σ', St c m' σ' s' ∧ Q .next m' σ') rfl hf K.clos K.kind K.names
    (wpAny_mono (h ok s hs) (fun xv s₁ ⟨σ₁, h₁, a, xs, e1, e2, e3, e4⟩ => ?_) fun _ _ e => e)) (fun _ s' hq => wpAny_pure (wpAny_pure hq)) fun _ _ e => e)
  cases er_ref e1
  refine comp_list (RR := fun acc C => compPost c.M c.A E (some (assign (.Name (Str.ofString y) py) c.env)) (fun _ s' => ∃ m' σ', St c m' σ' s' ∧ Q .next m' σ') acc C) hh K ok h₁ e2 e3 e4 fun D' σ₂ C s' mC ⟨m', hp, q1⟩ q2 q3 q4 q5 q6 => ?_
  show wpAny _ c.A (assign (.Name (Str.ofString y) py) c.env (.ref D')) _ _ _
  obtain ⟨mr, hn, hl⟩ := q3.loc
  refine wpAny_assign_Name (wpAny_storeName_local (ok.loc y hp.mem) hn (fun h₂ hn₂ hs₂ => ?_) (by rw [ok.kind]; rfl))
  refine ⟨mC, q2.sameBut hs₂ q6, fun h₃ hs₃ => ⟨m', σ₂, ?_, q1⟩⟩
  have S₂ : St c m' σ₂ { s' with heap := h₂, toks := s'.toks + 1 } := q3.store (v := .ref D') ok hp hs₂ fun mr₂ n₂ l₂ => ⟨_, hn₂, hl.put hp ok.nodup rfl⟩
  exact off_set S₂ q4 q5 q6 hs₃
end
end Mine

end

section
open PySem PySem.W PyProof.Rows PySem.Spec PySem.Calls Builtin Builtin.ObjectAttr
set_option Elab.async false
set_option maxRecDepth 100000
set_option linter.unusedVariables false
namespace Mine
section
variable {c : Fx} {m : List (Option V)} {σ : AH} {E : Value → Shared → Prop} {s : Shared}

theorem St.pushed {o x h' tk} (hs : St c m σ s) (hr : Rl c.w o x) (hk : ∀ b y, s.heap.get? b = some y → h'.get? b = some y) (hx : h'.get? s.heap.objs.size = some x) :
    St c m (upd σ s.heap.objs.size o) { s with heap := h', toks := tk } := by
  refine hs.go ⟨fun b y _ e => hk b y e, fun b o₁ e => ?_, fun b hb0 => ?_⟩
  · by_cases q : b = s.heap.objs.size
    · subst q; rw [upd_same] at e; cases e; exact ⟨x, hx, hr⟩
    · rw [upd_ne _ _ q] at e
      obtain ⟨y, hy, r⟩ := hs.st.rep b o₁ e
      exact ⟨y, hk _ _ hy, r⟩
  · by_cases q : b = s.heap.objs.size
    · subst q; right
      cases e : s.heap.get? s.heap.objs.size with
      | none => rfl
      | some y => exact absurd (Heap.lt_size e) (Nat.lt_irrefl _)
    · rw [upd_ne _ _ q] at hb0; exact .inl hb0

theorem oc_list {a xs Q} (h : σ a = some (.list xs)) (k : ∀ d, Fresh σ d → Q (.ref d) (upd σ d (.list xs))) : OC c (.type "list") [.ref a] m σ Q E := by
  intro vs hv ok s hs
  obtain ⟨r, rfl, h1⟩ := map_one hv
  cases er_ref h1
  obtain ⟨ws, n, hl, hw, hn⟩ := hs.list h
  exact call_list_seq a (.inl rfl) hl rfl rfl (fun h' c' hk hx => ⟨_, hs.pushed (rl_list hw hn) hk hx, k _ hs.new⟩) (by rw [List.size_toArray]; exact hn)

theorem oc_extend {a b xs ys Q} (ha : σ a = some (.list xs)) (hb : σ b = some (.list ys)) (hz : xs.length + ys.length ≤ 1000000) (k : Q .none (upd σ a (.list (xs ++ ys)))) : OC c (.builtin "list.extend") [.ref a, .ref b] m σ Q E := by
  intro vs hv ok s hs
  obtain ⟨r, q, rfl, h1, h2⟩ := map_two hv
  cases er_ref h1; cases er_ref h2
  obtain ⟨ws, n, hl, hw, hn⟩ := hs.list ha
  obtain ⟨us, j, hl', hw', hn'⟩ := hs.list hb
  have e1 : xs.length = ws.length := by rw [← hw, List.length_map]
  have e2 : ys.length = us.length := by rw [← hw', List.length_map]
  have hline : sizeLine = 16777216 := sizeLine_eq
  refine call_meets F.slot_list_extend ⟨_, hl, rfl⟩ F.entry_list_extend (F.args_list_extend_2 _ _) (PySem.AutoSeq1.list_extend_list_list_0 a ws.toArray n b us.toArray j ?_ (by simpa using hn) (by simp only [List.size_toArray]; omega)) ⟨hl, hl', ?_⟩
  · intro hc
    rw [Bool.and_eq_true] at hc
    have := hc.2
    unfold Builtin.List.listTooLong at this
    have := of_decide_eq_true this
    simp only [List.size_toArray] at this
    omega
  · exact ⟨_, hs.set (o' := .list (xs ++ ys)) ha (Heap.SameBut.update ..) (Heap.get?_update_self (Obj.mapSeq fun x => x ++ us.toArray) hl rfl) ⟨ws ++ us, (if us = [] then n else n + 1), by simp [Obj.mapSeq], by simp [hw, hw'], by simp; omega⟩, k⟩

theorem join_cps (x : List Nat) : ∀ ls : List (List Nat), Txt.join (Str.mk x.toArray) (ls.map fun l => Str.mk l.toArray) = Str.mk (List.intercalate x ls).toArray := by
  intro ls
  show Builtin.Str.glued _ _ = _
  rw [StrLaws.glued_eq_join]
  match ls with
  | [] => rfl
  | [l] => simp [Str.join, List.intercalate, List.intersperse]
  | l :: k :: r =>
    have ih := join_cps x (k :: r)
    rw [show Txt.join (Str.mk x.toArray) ((k :: r).map fun l => Str.mk l.toArray) = _ from StrLaws.glued_eq_join _ _] at ih
    simp only [List.map_cons] at ih ⊢
    unfold Str.join
    rw [ih]
    show Str.mk (l.toArray ++ x.toArray ++ (List.intercalate x (k :: r)).toArray) = _
    simp [List.intercalate, List.intersperse]

theorem oc_join {x : List Nat} {a} {ls : List (List Nat)} {Q} (h : σ a = some (.list (ls.map V.str))) (hz : (ls.map List.length).sum + ls.length * x.length ≤ 16777216) (k : Q (.str (List.intercalate x ls)) σ) : OC c (.builtin "str.join") [.str x, .ref a] m σ Q E := by
  intro vs hv ok s hs
  obtain ⟨r, q, rfl, h1, h2⟩ := map_two hv
  obtain ⟨t, rfl⟩ := er_str h1; cases er_ref h2
  obtain ⟨ws, n, hl, hw, hn⟩ := hs.list h
  have hi := strsAre hw
  refine join_list (IsL.isList hl) hi ?_ fun t' k' => ⟨σ, hs.tok, ?_⟩
  · simp only [List.map_map, List.length_map]
    have e : (List.map (Str.length ∘ fun l : List Nat => Str.mk l.toArray) ls) = ls.map List.length := List.map_congr_left fun l _ => by
      show l.toArray.size = l.length; simp
    rw [e]
    show _ + _ * (Str.mk x.toArray).cps.size ≤ _
    simpa using hz
  · rw [join_cps]; exact k
theorem ae_join {o : Expr} {ap p : Pos} {es : List Expr} {pl : Sem Bool} {Q}
    (h : AE c o m σ (fun u σ₁ => ∃ x, u = .str x ∧ AA c p es m σ₁ (KCv c (.builtin "str.join") (.str x) m Q E) E) E)
    (hst : starEach es c.env = es.map fun e => (false, PySem.eval e c.env))
    (he : PySem.eval (.Call (.Attribute o (Str.ofString "join") ap) es [] p) c.env = (do
      let ov ← PySem.eval o c.env
      standAt ap.atName
      let (f, first) ← holding [ov] (getMethod ov (Str.ofString "join") pl)
      callWith p f first (backTo p (starEach es c.env)) [])) : AE c (.Call (.Attribute o (Str.ofString "join") ap) es [] p) m σ Q E := by
  intro ok s hs
  refine MethodCall_ (pl := pl) (wpAny_mono (h ok s hs) (fun ov s₁ ⟨σ₁, h₁, x, hu, k⟩ => ?_) fun _ _ e => e) he
  obtain ⟨t, rfl⟩ := er_str hu
  exact GM.join (cw (f := .builtin "str.join") (first := [.str ⟨x.toArray⟩ t]) trivial (by simpa [er] using k) hst ok s₁ h₁)

theorem in_digits : ∀ n, n < 256 → (!(Builtin.Str.occurrences (Str.ofString "123456789") ⟨#[n]⟩ 0 (Str.ofString "123456789").length 1).isEmpty) = decide (49 ≤ n ∧ n ≤ 57) := by decide +kernel
theorem o2_in_digits {n : Nat} {Q} (hn : n < 256) (k : Q (.bool (decide (49 ≤ n ∧ n ≤ 57))) σ) : O2 c (compareOp .In) (.str [n]) (.str (Str.ofString "123456789").cps.toList) m σ Q E := by
  intro va vb ea eb ok s hs
  obtain ⟨t, rfl⟩ := er_str ea; obtain ⟨u, rfl⟩ := er_str eb
  rw [ofStr_mk]
  exact P.in_str ⟨σ, hs, by rw [show (Str.mk [n].toArray) = (⟨#[n]⟩ : Str) from rfl, in_digits n hn]; exact k⟩
theorem o2_in2 {x a b : List Nat} {t : Addr} {Q} (h : σ t = some (.tuple [.str a, .str b])) (k : Q (.bool (decide (x = a ∨ x = b))) σ) : O2 c (compareOp .In) (.str x) (.ref t) m σ Q E := by
  intro va vb ea eb ok s hs
  obtain ⟨tk, rfl⟩ := er_str ea; cases er_ref eb
  obtain ⟨vs, j, hl, hv, _⟩ := hs.tuple h
  obtain ⟨p, q, rfl, e1, e2⟩ := map_two hv
  obtain ⟨t1, rfl⟩ := er_str e1; obtain ⟨t2, rfl⟩ := er_str e2
  have ht : s.heap.IsTuple t #[.str ⟨a.toArray⟩ t1, .str ⟨b.toArray⟩ t2] := ⟨_, hl, rfl, _, rfl⟩
  refine SeqAt.in_tupleAt (fun y => match y with | .str z _ => z == ⟨x.toArray⟩ | _ => false) ht (fun y hy => ?_) ⟨σ, hs, ?_⟩
  · simp at hy
    rcases hy with rfl | rfl <;> exact SeqAt.EqAt.str_str _ _ _ _
  · have e : ∀ z w : List Nat, ((Str.mk z.toArray) == (Str.mk w.toArray)) = decide (w = z) := fun z w => by
      rw [Bool.eq_iff_iff, beq_iff_eq, decide_eq_true_iff]
      simp only [Str.mk.injEq]
      constructor
      · intro h; have := congrArg Array.toList h; simpa using this.symm
      · intro h; rw [h]
    show Q (.bool (Array.any #[_, _] _)) σ
    simp only [List.any_toArray, List.any_cons, List.any_nil, Bool.or_false, e]
    have e3 : (decide (x = a) || decide (x = b)) = decide (x = a ∨ x = b) := by by_cases h1 : x = a <;> by_cases h2 : x = b <;> simp [h1, h2]
    rw [e3]; exact k

theorem isDict_nil {w : World} : Obj.IsDictOf (SK w) ({ cls := .type "dict", data := .dict #[] } : Obj) [] := by
  obtain ⟨o, h1, h2⟩ := Heap.dictOf_iff.mp (Heap.DictOf.new (knd := SK w) ⟨#[], {}⟩)
  rw [Heap.get?_push_size _ rfl] at h1
  cases h1; exact h2
theorem map_nil_of {kvs : List (Str × Value)} (h : kvs.map (fun p => (p.1, er p.2)) = ([] : List (String × V)).map (fun p => (Str.ofString p.1, p.2))) : kvs = [] := by
  cases kvs with
  | nil => rfl
  | cons _ _ => simp at h
@[reducible] noncomputable def KD2 (k1 k2 : String) (d : Addr) (u1 : V) (Q : V → AH → Prop) : V → AH → Prop := fun u2 σ₂ => σ₂ d = some (.dict []) ∧ Q (.ref d) (upd σ₂ d (.dict [(k1, u1), (k2, u2)]))
@[reducible] noncomputable def KD1 (c : Fx) (k1 k2 : String) (d : Addr) (v2 : Expr) (m : List (Option V)) (Q : V → AH → Prop) (E : Value → Shared → Prop) : V → AH → Prop := fun u1 σ₁ => AE c v2 m σ₁ (KD2 k1 k2 d u1 Q) E
theorem ae_dict2 {k1 k2 : String} {v1 v2 : Expr} {c1 c2 : Nat} {p1 p2 p : Pos} {Q} (hne : k1 ≠ k2)
    (h : ∀ d, Fresh σ d → AE c v1 m (upd σ d (.dict [])) (KD1 c k1 k2 d v2 m Q E) E) :
    AE c (.Dict [some (.Constant (.str (Str.ofString k1)) c1 p1), some (.Constant (.str (Str.ofString k2)) c2 p2)] [v1, v2] p) m σ Q E := by
  intro ok s hs
  have S₀ := hs.push (o := .dict []) (x := { cls := .type "dict", data := .dict #[] }) (tk := s.toks) ⟨[], isDict_nil, rfl⟩
  refine wpAny_Dict_walk (knd := SK c.w) rfl rfl (by simp) (by simp) ?_
  refine pairTrees_cons_walk (wpAny_Constant_str ?_)
  refine wpAny_mono (h s.heap.objs.size hs.new ok _ S₀.tok) (fun a s₁ ⟨σ₁, h₁, k₁⟩ => ?_) fun _ _ e => e
  refine pairTrees_cons_walk (wpAny_Constant_str ?_)
  refine wpAny_mono (k₁ ok _ h₁.tok) (fun b s₂ ⟨σ₂, h₂, hd, k₂⟩ => ?_) fun _ _ e => e
  refine pairTrees_nil_walk ?_
  obtain ⟨kvs, hD, e⟩ := h₂.dict hd
  cases map_nil_of e
  refine ⟨[(Str.ofString k1, a), (Str.ofString k2, b)], ⟨strKind_is _ _ _ _, rfl, strKind_is _ _ _ _, rfl, trivial⟩, hD, fun h' hd' hb => ?_⟩
  obtain ⟨o', es', ep', ho', r'⟩ := hd'
  refine ⟨_, h₂.set hd hb ho' (rl_dict ⟨es', ep', r'⟩ ?_), k₂⟩
  have hne' : ¬ Str.ofString k1 = Str.ofString k2 := fun q => hne (ofString_inj q)
  simp [merged, stored, hne']

@[reducible] noncomputable def KDr (m : List (Option V)) (Q : FL → List (Option V) → AH → Prop) : V → AH → Prop := fun _ σ => Q .next m σ
theorem ax_drop {e p Q} (h : AE c e m σ (KDr m Q) E) (hi : interactive c.env = false) (hs' : swapsWith e none p.line c.env = pure false) : AX1 c (.Expr e p) m σ Q E := by
  intro ok s hs
  rw [exec_Expr c.env e p hi hs']
  exact wpAny_bind (wpAny_standAt (wpAny_bind (wpAny_mono (h ok s hs) (fun v s₁ ⟨σ₁, h₁, k⟩ => wpAny_dropValue ⟨_, _, h₁, k⟩) fun _ _ e => e)))

@[reducible] noncomputable def KAn (c : Fx) (e : Expr) (m : List (Option V)) (Q : V → AH → Prop) (E : Value → Shared → Prop) : V → AH → Prop := fun v σ₁ => ∃ b, v = .bool b ∧ (b = true → AE c e m σ₁ Q E) ∧ (b = false → Q (.bool false) σ₁)
theorem ae_and {e₁ e₂ : Expr} {rest p Q} (h : AE c e₁ m σ (KAn c (.BoolOp .And (e₂ :: rest) p) m Q E) E) : AE c (.BoolOp .And (e₁ :: e₂ :: rest) p) m σ Q E := by
  intro ok s hs
  refine BoolOp_and (wpAny_mono (h ok s hs) (fun v s₁ ⟨σ₁, h₁, b, hv, k1, k2⟩ => ?_) fun _ _ e => e)
  cases er_bool hv
  refine wpAny_truthy_bool ?_
  cases b with
  | true => exact k1 rfl ok _ h₁
  | false => exact ⟨σ₁, h₁, k2 rfl⟩
theorem ae_one {e₁ : Expr} {op p Q} (h : AE c e₁ m σ Q E) : AE c (.BoolOp op [e₁] p) m σ Q E := fun ok s hs => BoolOp_one (h ok s hs)

-- lists of pairs of numbers
noncomputable def RowsAt (σ : AH) (a : Addr) (rows : List (Int × Int)) : Prop := ∃ ts : List Addr, σ a = some (.list (ts.map V.ref)) ∧ ts.length = rows.length ∧ ∀ (j : Nat) (t : Addr) (r : Int × Int), ts[j]? = some t → rows[j]? = some r → σ t = some (.tuple [.int r.1, .int r.2])
theorem er_refs {ws : List Value} {ts : List Addr} (h : ws.map er = ts.map V.ref) : ws = ts.map Value.ref := by
  induction ts generalizing ws with
  | nil => cases ws with
    | nil => rfl
    | cons _ _ => simp at h
  | cons t ts ih => cases ws with
    | nil => simp at h
    | cons v ws =>
      simp only [List.map_cons, List.cons.injEq] at h
      rw [List.map_cons, ih h.2, er_ref h.1]
theorem range_all {α : Type} [DecidableEq α] (xs ys : List α) (h : xs.length = ys.length) (e : Nat → Bool) (he : ∀ j x y, xs[j]? = some x → ys[j]? = some y → e j = decide (x = y)) : (List.range xs.length).all e = decide (xs = ys) := by
  rw [Bool.eq_iff_iff, decide_eq_true_iff, List.all_eq_true]
  constructor
  · intro hall
    apply List.ext_getElem h
    intro j h1 h2
    have := hall j (List.mem_range.mpr h1)
    rw [he j _ _ (List.getElem?_eq_getElem h1) (List.getElem?_eq_getElem h2)] at this
    exact of_decide_eq_true this
  · rintro rfl j hj
    have hj := List.mem_range.mp hj
    rw [he j _ _ (List.getElem?_eq_getElem hj) (List.getElem?_eq_getElem hj)]
    simp

theorem rows_gen {a b : Addr} {r1 r2 : List (Int × Int)} (ok : c.Ok) (hs : St c m σ s) (h1 : RowsAt σ a r1) (h2 : RowsAt σ b r2) : SeqAt.RcNeAt c.A s (.ref a) (.ref b) (!decide (r1 = r2)) := by
  obtain ⟨ts, e1, l1, p1⟩ := h1
  obtain ⟨us, e2, l2, p2⟩ := h2
  obtain ⟨ws, n, hl, hv, hn⟩ := hs.list e1
  obtain ⟨ws', n', hl', hv', hn'⟩ := hs.list e2
  cases er_refs hv; cases er_refs hv'
  have hu := ok_units ok
  by_cases hlen : r1.length = r2.length
  · have key : (List.range (ts.map Value.ref).toArray.size).all (fun j => decide (r1[j]? = r2[j]?)) = decide (r1 = r2) := by
      have : (ts.map Value.ref).toArray.size = r1.length := by simp [l1]
      rw [this]
      exact range_all r1 r2 hlen _ fun j x y hx hy => by rw [hx, hy]; simp
    rw [← key]
    refine SeqAt.RcNeAt.lists (IsL.isList hl) (IsL.isList hl') (by simp; omega) (by omega) fun j h1 h2 => ?_
    have q1 : j < ts.length := by simpa using h1
    have q2 : j < us.length := by simpa using h2
    have g1 := p1 j _ r1[j] (List.getElem?_eq_getElem q1) (List.getElem?_eq_getElem (by omega))
    have g2 := p2 j _ r2[j] (List.getElem?_eq_getElem q2) (List.getElem?_eq_getElem (by omega))
    simp only [List.getElem_toArray, List.getElem_map, List.getElem?_eq_getElem (show j < r1.length by omega), List.getElem?_eq_getElem (show j < r2.length by omega), Option.some.injEq]
    by_cases hne : ts[j] = us[j]
    · rw [hne] at g1 ⊢
      rw [g1] at g2
      have : r1[j] = r2[j] := by
        simp at g2
        exact Prod.ext g2.1 g2.2
      rw [this]
      simp only [decide_true]
      exact SeqAt.EqAt.same _
    · obtain ⟨v1, k1, hl1, hw1, _⟩ := hs.tuple g1
      obtain ⟨v2, k2, hl2, hw2, _⟩ := hs.tuple g2
      obtain ⟨x1, y1, rfl, f1, f2⟩ := map_two hw1
      obtain ⟨x2, y2, rfl, f3, f4⟩ := map_two hw2
      obtain ⟨t1, rfl⟩ := er_int f1; obtain ⟨t2, rfl⟩ := er_int f2
      obtain ⟨t3, rfl⟩ := er_int f3; obtain ⟨t4, rfl⟩ := er_int f4
      have T := SeqAt.RcAt.tuples (A := c.A.in1) (s := s) (e := fun i => if i = 0 then decide (r1[j].1 = r2[j].1) else decide (r1[j].2 = r2[j].2)) (l := ts[j]) (b := us[j]) ⟨_, hl1, rfl, _, rfl⟩ ⟨_, hl2, rfl, _, rfl⟩ (by show c.A.units + 1 < _; omega) (fun i hi1 hi2 => by
        have e0 : ∀ x y : Int, (x == y) = decide (x = y) := fun x y => by rw [Bool.eq_iff_iff, beq_iff_eq, decide_eq_true_iff]
        rcases i with _ | _ | i
        · show SeqAt.EqAt _ s (.int r1[j].1 t1) (.int r2[j].1 t3) (decide (r1[j].1 = r2[j].1))
          rw [← e0]; exact SeqAt.EqAt.int_int _ _ _ _
        · show SeqAt.EqAt _ s (.int r1[j].2 t2) (.int r2[j].2 t4) (decide (r1[j].2 = r2[j].2))
          rw [← e0]; exact SeqAt.EqAt.int_int _ _ _ _
        · exact absurd (show i + 1 + 1 < 2 from hi1) (by omega))
      have e5 : ((List.range (min #[Value.int r1[j].1 t1, Value.int r1[j].2 t2].size #[Value.int r2[j].1 t3, Value.int r2[j].2 t4].size)).all (fun i => if i = 0 then decide (r1[j].1 = r2[j].1) else decide (r1[j].2 = r2[j].2)) && #[Value.int r1[j].1 t1, Value.int r1[j].2 t2].size == #[Value.int r2[j].1 t3, Value.int r2[j].2 t4].size) = decide (r1[j] = r2[j]) := by
        show ((List.range 2).all _ && true) = _
        simp only [Bool.and_true, show List.range 2 = [0, 1] from rfl, List.all_cons, List.all_nil, if_true, Bool.and_true]
        rw [Bool.eq_iff_iff, Bool.and_eq_true, decide_eq_true_iff, decide_eq_true_iff]
        simp only [Nat.succ_ne_self, if_false, decide_eq_true_iff]
        constructor
        · intro ⟨a, b⟩; exact Prod.ext a b
        · intro h; rw [h]; exact ⟨rfl, rfl⟩
      rw [e5] at T
      exact SeqAt.EqAt.of_refs hne T
  · have : decide (r1 = r2) = false := decide_eq_false fun q => hlen (by rw [q])
    rw [this]
    exact SeqAt.RcNeAt.lists_lengths (IsL.isList hl) (IsL.isList hl') (by simp; omega) (by omega)
theorem o2_ne_rows {a b : Addr} {r1 r2 : List (Int × Int)} {Q} (h1 : RowsAt σ a r1) (h2 : RowsAt σ b r2) (k : Q (.bool (!decide (r1 = r2))) σ) : O2 c (compareOp .NotEq) (.ref a) (.ref b) m σ Q E := by
  intro va vb ea eb ok s hs
  cases er_ref ea; cases er_ref eb
  exact rows_gen ok hs h1 h2 _ _ _ _ ⟨σ, hs, k⟩
theorem o2_ne_ints {a b : Addr} {r1 r2 : List Int} {Q} (h1 : σ a = some (.list (r1.map V.int))) (h2 : σ b = some (.list (r2.map V.int))) (k : Q (.bool (!decide (r1 = r2))) σ) : O2 c (compareOp .NotEq) (.ref a) (.ref b) m σ Q E := by
  intro va vb ea eb ok s hs
  cases er_ref ea; cases er_ref eb
  obtain ⟨ws, n, hl, hv, hn⟩ := hs.list h1
  obtain ⟨ws', n', hl', hv', hn'⟩ := hs.list h2
  have hu := ok_units ok
  have l1 : ws.length = r1.length := by rw [← List.length_map (f := er), hv, List.length_map]
  have l2 : ws'.length = r2.length := by rw [← List.length_map (f := er), hv', List.length_map]
  by_cases hlen : r1.length = r2.length
  · have key : (List.range ws.toArray.size).all (fun j => decide (r1[j]? = r2[j]?)) = decide (r1 = r2) := by
      have : ws.toArray.size = r1.length := by simp [l1]
      rw [this]
      exact range_all r1 r2 hlen _ fun j x y hx hy => by rw [hx, hy]; simp
    refine SeqAt.RcNeAt.lists (A := c.A) (s := s) (e := fun j => decide (r1[j]? = r2[j]?)) (IsL.isList hl) (IsL.isList hl') (by simp; omega) (by omega) (fun j h1 h2 => ?_) _ _ _ _ ⟨σ, hs, by rw [key]; exact k⟩
    have q1 : j < ws.length := by simpa using h1
    have q2 : j < ws'.length := by simpa using h2
    have f1 : er ws[j] = .int r1[j] := by
      have := congrArg (·[j]?) hv
      simp [q1, show j < r1.length by omega] at this; exact this
    have f2 : er ws'[j] = .int r2[j] := by
      have := congrArg (·[j]?) hv'
      simp [q2, show j < r2.length by omega] at this; exact this
    obtain ⟨t1, e1⟩ := er_int f1; obtain ⟨t2, e2⟩ := er_int f2
    simp only [List.getElem_toArray, e1, e2, List.getElem?_eq_getElem (show j < r1.length by omega), List.getElem?_eq_getElem (show j < r2.length by omega), Option.some.injEq]
    have e0 : ∀ x y : Int, (x == y) = decide (x = y) := fun x y => by rw [Bool.eq_iff_iff, beq_iff_eq, decide_eq_true_iff]
    exact (e0 _ _) ▸ SeqAt.EqAt.int_int _ _ _ _
  · have : decide (r1 = r2) = false := decide_eq_false fun q => hlen (by rw [q])
    rw [this] at k
    exact SeqAt.RcNeAt.lists_lengths (A := c.A) (s := s) (IsL.isList hl) (IsL.isList hl') (by simp; omega) (by omega) _ _ _ _ ⟨σ, hs, k⟩
end
end Mine

end

section
open PySem PySem.W PyProof.Rows PySem.Spec PySem.Calls PySem.NumText Builtin Builtin.ObjectAttr
set_option Elab.async false
set_option maxRecDepth 100000
set_option linter.unusedVariables false
namespace Mine
theorem by_int : typeLookup (.type "bytes") "__int__" = pure none := by rw [typeLookup_type, builtinLookup_eq_fast]; kernel_rfl
theorem by_idx : typeLookup (.type "bytes") "__index__" = pure none := by rw [typeLookup_type, builtinLookup_eq_fast]; kernel_rfl
theorem by_trunc : typeLookup (.type "bytes") "__trunc__" = pure none := by rw [typeLookup_type, builtinLookup_eq_fast]; kernel_rfl

theorem reads_digits {l : List Nat} (hd : AllDigits l) (h1 : l ≠ []) (hl : l.length ≤ 640) :
    (l.takeWhile (· != 0)).length ≤ 640 ∧ (int_private% "readNumeral") 0 10 (l.takeWhile (· != 0)) = (int_private% "Numeral.value") (digitsVal l : Nat) ∧ ((l.takeWhile (· != 0)).length == l.length) = true := by
  have htw : l.takeWhile (· != 0) = l := by
    clear h1 hl
    induction l with
    | nil => rfl
    | cons c l ih =>
      have := hd.head
      rw [List.takeWhile_cons_of_pos (by simpa using (show c ≠ 0 by omega)), ih hd.tail]
  have hx : numTextOf (⟨l.toArray⟩ : PySem.Str) = l := by
    unfold numTextOf
    rw [if_pos (by
      rw [Array.all_eq_true_iff_forall_mem]
      intro c hc
      have := hd c (by simpa using hc)
      simpa using (show c < 128 by omega))]
  have hs : numSeenOf (⟨l.toArray⟩ : PySem.Str) = l := by unfold numSeenOf; rw [hx, htw]
  have hi := intText_digits (x := ⟨l.toArray⟩) (by simpa using hd) (by simpa using h1) (by show l.toArray.size ≤ _; simp; omega)
  simp only [] at hi
  refine ⟨by rw [htw]; exact hl, ?_, by rw [htw]; exact beq_self_eq_true _⟩
  rcases read0 (⟨l.toArray⟩ : PySem.Str) (by rw [hs]; exact hl) with ⟨n, e1, e2, e3⟩ | ⟨e1, _⟩
  · rw [hi] at e1
    cases e1
    rw [hs] at e3
    rw [htw]; exact e3
  · rw [hi] at e1; cases e1

set_option maxHeartbeats 4000000 in
theorem gives_bytes {b : Array UInt8} {u : Tok} (hd : AllDigits (b.toList.map (·.toNat))) (h1 : b.toList.map (·.toNat) ≠ []) (hl : (b.toList.map (·.toNat)).length ≤ 640) :
    Gives (Builtin.«int.__new__» ⟨[.type "int", .bytes b u], []⟩) (.int (digitsVal (b.toList.map (·.toNat)) : Nat)) :=
  .of_wp fun M A E s Q h => by
    obtain ⟨hp, g, d, tk, os⟩ := s
    have f1 := F.conv_sub_int
    have f2 := F.madeHere_int
    have f3 := by_int
    have f4 := by_idx
    have f5 := by_trunc
    have f6 : typeOf (.bytes b u) = pure (.type "bytes") := rfl
    have hk := KIN.Hid.mk (reads_digits hd h1 hl)
    clear hl hd h1
    repeat (any_goals (first
      | assumption
      | ((with_reducible show wpAny _ _ ((int_private% "intFromText") _ _ _) _ _ _); refine KIN.wp_text hk.out.1 hk.out.2.1 hk.out.2.2 ?_)
      | wp_step))
    all_goals first | exact ⟨_, rfl, h⟩ | skip

section
variable {c : Fx} {m : List (Option V)} {σ : AH} {E : Value → Shared → Prop} {s : Shared}
theorem oc_intb {l : List Nat} {Q} (hd : AllDigits l) (h1 : l ≠ []) (hl : l.length ≤ 640) (k : Q (.int (digitsVal l : Nat)) σ) : OC c (.type "int") [.bytes l] m σ Q E := by
  intro vs hv ok s hs
  obtain ⟨r, rfl, e⟩ := map_one hv
  obtain ⟨b, t, rfl, rfl⟩ := er_bytes e
  exact call_int_1 (gives_bytes hd h1 hl).meets (show (Made.int _).post _ s from ⟨rfl, ⟨σ, hs.tok, k⟩⟩)
end
end Mine

end

section
open PySem PySem.W PyProof.Rows PySem.Spec PySem.Calls Builtin Builtin.ObjectAttr
set_option Elab.async false
set_option maxRecDepth 100000
set_option linter.unusedVariables false
namespace Mine
section
variable {c : Fx} {m : List (Option V)} {σ : AH} {E : Value → Shared → Prop} {s : Shared}

@[reducible] noncomputable def KPr (c : Fx) (t2 : Expr) (v : V) (Q : List (Option V) → AH → Prop) (E : Value → Shared → Prop) : List (Option V) → AH → Prop := fun m₁ σ₁ => AG c t2 v m₁ σ₁ Q E
theorem ag_pair {t1 t2 : Expr} {tp : Pos} {kk} {t : Addr} {u v : V} {Q} (h : σ t = some (.tuple [u, v])) (k : AG c t1 u m σ (KPr c t2 v Q E) E)
    (hae : assignEach [t1, t2] c.env = [(false, assign t1 c.env), (false, assign t2 c.env)]) : AG c (.Tuple [t1, t2] kk tp) (.ref t) m σ Q E := by
  intro r hr ok s hs
  cases er_ref hr
  rw [assign_Tuple]
  refine wpAny_bind (wpAny_standAt ?_)
  unfold unpack
  rw [hae]
  refine wpAny_bind (wpAny_holding (unpack_ok (n := 2) ok hs h rfl fun vs s' hv hs' => ?_))
  obtain ⟨a, b, rfl, e1, e2⟩ := map_two hv
  show wpAny _ _ (assignInOrder [assign t1 c.env, assign t2 c.env] [a, b]) _ _ _
  unfold assignInOrder
  refine wpAny_bind (wpAny_holding (wpAny_mono (k a e1 ok _ hs') (fun _ s₁ ⟨m₁, σ₁, h₁, k₁⟩ => ?_) fun _ _ e => e))
  unfold assignInOrder
  refine wpAny_bind (wpAny_holding (wpAny_mono (k₁ b e2 ok _ h₁) (fun _ s₂ ⟨m₂, σ₂, h₂, k₂⟩ => ?_) fun _ _ e => e))
  unfold assignInOrder
  exact wpAny_pure ⟨_, _, h₂, k₂⟩

-- cells
theorem ae_cell {x : String} {p} {C : Addr} {v : V} {Q} (hx : c.env.kindOf (Str.ofString x) = some .cell) (hc : c.env.cells.lookup (Str.ofString x) = some C) (hd : (Str.ofString x == ("__debug__" : Str)) = false) (h : σ C = some (.cell (some v))) (k : Q v σ) :
    AE c (.Name (Str.ofString x) p) m σ Q E := by
  intro ok s hs
  obtain ⟨o, ho, rv, h1, h2⟩ := hs.st.rep C _ h
  obtain ⟨r, rfl, rfl⟩ := Option.map_eq_some_iff.mp h2
  exact wpAny_Name (wpAny_loadName_cell ok.kind hx hc ⟨o, ho, h1⟩ ⟨σ, hs, k⟩) hd
theorem ag_cell {x : String} {p} {C : Addr} {v : V} {v₀} {Q} (hx : c.env.kindOf (Str.ofString x) = some .cell) (hc : c.env.cells.lookup (Str.ofString x) = some C) (h : σ C = some (.cell v₀)) (k : Q m (upd σ C (.cell (some v)))) :
    AG c (.Name (Str.ofString x) p) v m σ Q E := by
  intro r hr ok s hs
  subst hr
  obtain ⟨o, ho, rv, h1, h2⟩ := hs.st.rep C _ h
  refine wpAny_assign_Name (wpAny_storeName_cell ok.kind hx hc ⟨o, ho, h1⟩ fun h' hv hb => ?_)
  obtain ⟨o', ho', hd'⟩ := hv
  exact ⟨m, _, hs.set (tk := s.toks) (o' := .cell (some (er r))) h hb ho' ⟨_, hd', rfl⟩, k⟩
end

/-- a def of one argument that lends one of its names -/
theorem acall_cell {w : World} {k : Nat} {h : Bool} {f : Addr} {u : V} {σ : AH} {Q : V → AH → Prop} {X : Int → AH → Prop} (p x : String) (rest gs ns : List String) (m₀ : List (Option V))
    {name qual : Str} {params : Arguments} {body : List Stmt} {scope : Scope} {dV kV doc pm cdv ct oc : Value} {an od : Option Addr} {osl : Array (Option Value)}
    (ho : (hd.heap_39 w.params).lookup f = some ⟨oc, od, .func (fnOf name qual params body scope dV kV doc pm an cdv ct), osl⟩) (hcd : codeIn (hd.heap_39 w.params) cdv qual = true)
    (hbind : ∀ v, bindArgs (fnOf name qual params body scope dV kV doc pm an cdv ct) ⟨[v], []⟩ = pure [(Str.ofString p, v)])
    (hnd : ((p :: rest).map Str.ofString).Nodup)
    (hloc : ((p :: rest).all fun x => decide (scope.names.lookup (Str.ofString x) = some .local)) = true)
    (hglo : (gs.all fun x => decide (scope.names.lookup (Str.ofString x) = some .globalImplicit)) = true)
    (hdb : ((ns ++ gs).all fun x => decide ((Str.ofString x == ("__debug__" : Str)) = false)) = true)
    (hcf : ∀ n, cellsFrom n scope.names [] = [(Str.ofString x, n)]) (hco : scope.isCoroutine = false) (hgen : scope.isGenerator = false) (hkd : scope.kind = .function)
    (hns : p :: rest = ns) (hm₀ : (some u :: rest.map fun _ => none) = m₀)
    (hbody : ∀ g s0 A L l, Fresh σ (L + 1) → let c : Fx := ⟨w, g, s0, A, envX qual scope L f cdv [(Str.ofString x, L + 1)], ns, gs, k, h, l, true⟩; AX c body m₀ (upd σ (L + 1) (.cell none))
      (KRet Q) (XE c X)) : ACall w (k + 1) h f [u] σ Q X := by
  subst hns hm₀
  intro g s0 A l E s vs hg hr hh hA hF hs hv hE
  obtain ⟨v, rfl, rfl⟩ := map_one hv
  have hK := hg.1.keeps hs.keep
  obtain ⟨_, pp, lo, me, mg, mb, T⟩ := hg.keeps hs.keep
  have hd : A.depth < recursionLimit := by have := hr.1; omega
  refine codeAny_call_function (fd := fnOf name qual params body scope dV kV doc pm an cdv ct) (body := body) hd (hK _ _ ho) rfl hco hgen rfl (codeRec_of hK hcd) ?_
  refine (BindsTo.of_eq (s := s) (hbind v)) _ _ _ _ ?_
  refine wpAny_newFunctionEnv_cells hkd (fun y hy => .inl ?_) fun env' he s' x' => ?_
  · simp only [List.mem_singleton] at hy; subst hy
    exact kinds_of hloc p (.head _)
  have he' : env' = envX qual scope s.heap.objs.size f cdv [(Str.ofString x, s.heap.objs.size + 1)] := by
    rw [he]
    show newEnv scope s.heap.objs.size mainGlobals (cellsFrom (s.heap.objs.size + 1) scope.names []) _ _ _ none _ = _
    rw [hcf]; rfl
  clear he; subst he'
  obtain ⟨hin, hcell, _, _⟩ := x'
  have hk₁ := hin.keep
  have hns₁ := hin.ns
  obtain ⟨h₁, tk, rfl, _⟩ := hin.done
  dsimp only at hk₁ hns₁ hcell
  refine ⟨T.nolimit.keeps hk₁, codeAny_func ?_⟩
  generalize hL : s.heap.objs.size = L at *
  have lt : ∀ b o, s.heap.get? b = some o → b < L := fun b o e => by rw [← hL]; exact Heap.lt_size e
  have none0 : ∀ b, L ≤ b → g.g.get? b = none := fun b hb => by
    cases e : g.g.get? b with
    | none => rfl
    | some y => exact absurd (lt _ _ (hs.keep _ _ e)) (Nat.not_lt.mpr hb)
  have noneF : ∀ b, L ≤ b → g.f.get? b = none := fun b hb => by
    cases e : g.f.get? b with
    | none => rfl
    | some y =>
      obtain ⟨sl, e'⟩ := hs.slot _ _ e
      exact absurd (lt _ _ e') (Nat.not_lt.mpr hb)
  have noneS : ∀ b, L ≤ b → σ b = none := fun b hb => by
    cases e : σ b with
    | none => rfl
    | some y =>
      obtain ⟨z, e', _⟩ := hs.rep _ _ e
      exact absurd (lt _ _ e') (Nat.not_lt.mpr hb)
  obtain ⟨oc', hoc, hdc⟩ := hcell (Str.ofString x) (L + 1) (by simp)
  have hne : L ≠ L + 1 := Nat.ne_of_lt (Nat.lt_succ_self _)
  have fr : Fresh σ (L + 1) := fun b o e q => by rw [q, noneS _ (Nat.le_succ _)] at e; cases e
  have kp : scope.names.lookup (Str.ofString p) = some .local := kinds_of hloc p (.head _)
  have kl : (envX qual scope L f cdv [(Str.ofString x, L + 1)]).kindOf (Str.ofString p) = some .local := kp
  rw [show bindC (envX qual scope L f cdv [(Str.ofString x, L + 1)]).kindOf [(Str.ofString p, v)] (fun _ => none) = fun _ => none by simp [bindC, kl]] at hdc
  rw [show bindL (envX qual scope L f cdv [(Str.ofString x, L + 1)]).kindOf [(Str.ofString p, v)] (fun _ => none) = fun y => if y = Str.ofString p then some v else none by simp [bindL, kl]] at hns₁
  have key := hbody g s0 (A.deeper (envX qual scope L f cdv [(Str.ofString x, L + 1)])) L l fr ⟨hg, fun _ => Around.frames_deeper hA, hF, fun _ => rfl, noneF L (Nat.le_refl _), hkd, rfl, rfl, kinds_of hloc, kinds_of hglo, hnd, none0 L (Nat.le_refl _), ⟨by have := hr.1; show A.depth + 1 + 4 * k + 8 < _; omega, by have := hr.2; show A.units + 3 + 20 * k + 100 < _; omega⟩, fun x hx => of_decide_eq_true (List.all_eq_true.mp hdb x hx), hh⟩
    { s with heap := h₁, toks := tk } ⟨⟨fun a o e => ?_, fun a x e => hk₁ a x (hs.keep a x e), fun a x e => ?_, fun a x e => ?_, fun a x e => ?_, ?_⟩, ⟨_, hns₁, ?_⟩, ?_⟩
  · refine wpAny_mono key (fun fl s' ⟨m', σ', S, q⟩ => ?_) fun v s' e => wpAny_mono e (fun _ s'' r => hE v s'' r) fun _ _ e => e.elim
    cases fl with
    | next => exact ⟨σ', S.st, q⟩
    | brk => exact q.elim
    | cont => exact q.elim
    | ret v => exact ⟨σ', S.st, q⟩
  · by_cases q : a = L + 1
    · subst q; rw [upd_same] at e; cases e
      exact ⟨oc', hoc, none, hdc, rfl⟩
    · rw [upd_ne _ _ q] at e
      obtain ⟨x, hx, r⟩ := hs.rep a o e
      exact ⟨x, hk₁ a x hx, r⟩
  · rw [upd_ne _ _ (fun q => by rw [q, none0 _ (Nat.le_succ _)] at e; cases e)]; exact hs.out a x e
  · obtain ⟨sl, e'⟩ := hs.slot a x e
    exact ⟨sl, hk₁ a _ e'⟩
  · rw [upd_ne _ _ (fun q => by rw [q, noneF _ (Nat.le_succ _)] at e; cases e)]; exact hs.outf a x e
  · obtain ⟨h₂, t₂, e₂⟩ := hs.same
    exact ⟨h₁, _, by rw [e₂]⟩
  · intro y u ha
    cases ha with
    | head => exact ⟨v, by simp, rfl⟩
    | tail q => exact absurd q (no_at rest y u)
  · rw [upd_ne _ _ hne]; exact noneS L (Nat.le_refl _)
end Mine

end

section
open PySem PySem.W PyProof.Rows PySem.Spec PySem.Calls
set_option Elab.async false
set_option maxRecDepth 100000
set_option linter.unusedVariables false
namespace Mine
theorem ex_put {ns : List String} {m m' : List (Option V)} {x : String} {v : V} {P : List (Option V) → Prop} (h : Put ns m x v m') (k : P m') : ∃ m', Put ns m x v m' ∧ P m' := ⟨m', h, k⟩
theorem ex_list {σ : AH} {a : Addr} {xs : List V} {P : Addr → List V → Prop} (h : σ a = some (.list xs)) (k : P a xs) : ∃ a' xs, V.ref a = .ref a' ∧ σ a' = some (.list xs) ∧ P a' xs := ⟨a, xs, rfl, h, k⟩
noncomputable def Kept (σ σ' : AH) (S : List Addr) : Prop := ∀ a o, σ a = some o → a ∉ S → σ' a = some o
theorem Kept.rfl {σ : AH} {S : List Addr} : Kept σ σ S := fun _ _ h _ => h
theorem Kept.new {σ σ' : AH} {S : List Addr} {d : Addr} {o : AO} (h : Fresh σ' d) (k : Kept σ σ' S) : Kept σ (upd σ' d o) S := fun a o' e n => by
  have := k a o' e n
  rw [upd_ne _ _ (h a o' this)]; exact this
theorem Kept.put {σ σ' : AH} {S : List Addr} {d : Addr} {o : AO} (h : Fresh σ d) (k : Kept σ σ' S) : Kept σ (upd σ' d o) S := fun a o' e n => by
  rw [upd_ne _ _ (h a o' e)]; exact k a o' e n
theorem Kept.at {σ σ' : AH} {S : List Addr} {d : Addr} {o : AO} (h : d ∈ S) (k : Kept σ σ' S) : Kept σ (upd σ' d o) S := fun a o' e n => by
  rw [upd_ne _ _ (fun q => n (by rw [q]; exact h))]; exact k a o' e n
theorem Kept.trans {σ σ' σ'' : AH} {S : List Addr} (k : Kept σ σ' S) (l : Kept σ' σ'' S) : Kept σ σ'' S := fun a o e n => l a o (k a o e n) n
theorem Kept.more {σ σ' : AH} {S T : List Addr} (k : Kept σ σ' S) (h : ∀ a ∈ S, a ∈ T) : Kept σ σ' T := fun a o e n => k a o e fun q => n (h a q)
theorem Kept.get {σ σ' : AH} {a : Addr} {o : AO} (k : Kept σ σ' []) (h : σ a = some o) : σ' a = some o := k a o h (by simp)
theorem Kept.del {σ σ' : AH} {S : List Addr} {d : Addr} (h : Fresh σ d) (k : Kept σ σ' S) : Kept σ (Mine.del σ' d) S := fun a o' e n => by
  unfold Mine.del; rw [if_neg (h a o' e)]; exact k a o' e n
/-- new there, so new here -/
theorem Fresh.back {σ σ' : AH} {d : Addr} (k : Kept σ σ' []) (h : Fresh σ' d) : Fresh σ d := fun b o e => h b o (k.get e)
theorem Fresh.of_upd {σ : AH} {d a : Addr} {o : AO} {o' : AO} (e : σ a = some o') (h : Fresh (upd σ a o) d) : Fresh σ d := fun b o₁ e₁ q => by
  subst q
  by_cases z : b = a
  · subst z; exact h b o (upd_same ..) rfl
  · exact h b o₁ (by rw [upd_ne _ _ z]; exact e₁) rfl
theorem Fresh.of_new {σ : AH} {d a : Addr} {o : AO} (h : Fresh (upd σ a o) d) : Fresh σ d := fun b o₁ e₁ q => by
  subst q
  by_cases z : b = a
  · subst z; exact h b o (upd_same ..) rfl
  · exact h b o₁ (by rw [upd_ne _ _ z]; exact e₁) rfl
theorem upd_at {σ : AH} {a : Addr} {o : AO} {r : Option AO} (h : some o = r) : upd σ a o a = r := (upd_same σ a o).trans h
theorem os3_1 {c : Fx} {m : List (Option V)} {σ : AH} {E : Value → Shared → Prop} {a : Addr} {x y z v : V} {Q : AH → Prop} (ha : σ a = some (.list [x, y, z])) (h : Q (upd σ a (.list [x, v, z]))) : OSet c (.ref a) (.int 1) v m σ Q E :=
  os_list ha (by decide) (by simp) rfl h
theorem os3_2 {c : Fx} {m : List (Option V)} {σ : AH} {E : Value → Shared → Prop} {a : Addr} {x y z v : V} {Q : AH → Prop} (ha : σ a = some (.list [x, y, z])) (h : Q (upd σ a (.list [x, y, v]))) : OSet c (.ref a) (.int 2) v m σ Q E :=
  os_list ha (by decide) (by simp) rfl h
theorem upd_get {σ : AH} {a b : Addr} {o : AO} {r : Option AO} (h : b ≠ a) (k : σ b = r) : upd σ a o b = r := (upd_ne σ o h).trans k
theorem Fresh.ap {σ : AH} {d : Addr} (h : Fresh σ d) (b : Addr) (o : AO) (e : σ b = some o) : b ≠ d := h b o e
theorem Fresh.ne {σ : AH} {d e : Addr} {o : AO} (h : Fresh (upd σ d o) e) : d ≠ e := h d o (upd_same ..)
/-- a sack: its cells, the cell at hand, the seed -/
noncomputable def Sack (σ : AH) (sk cl : Addr) : Prop := ∃ (cells : List Int) (cur g : Int), σ sk = some (.list [.ref cl, .int cur, .int g]) ∧ σ cl = some (.list (cells.map V.int)) ∧ cl ≠ sk
theorem Sack.kept {σ σ' : AH} {sk cl} (h : Sack σ sk cl) (k : Kept σ σ' []) : Sack σ' sk cl := by
  obtain ⟨cells, cur, g, h1, h2, h3⟩ := h
  exact ⟨cells, cur, g, k.get h1, k.get h2, h3⟩
end Mine

end

section
open PySem PySem.W PyProof.Rows PySem.Spec PySem.Calls
set_option Elab.async false
set_option maxRecDepth 100000
set_option linter.unusedVariables false
namespace Mine
section
variable {c : Fx} {m : List (Option V)} {σ : AH} {E : Value → Shared → Prop}
theorem ae_fn {x : String} {f : Addr} {np p es Q} (hx : x ∈ c.gs) (hv : Gv x (.ref f)) (hk : Kp c.w (.ref f)) (h : AA c p es m σ (KC c (.ref f) m Q E) E)
    (hst : starEach es c.env = es.map fun e => (false, PySem.eval e c.env))
    (he : PySem.eval (.Call (.Name (Str.ofString x) np) es [] p) c.env = (do callWith p (← PySem.eval (.Name (Str.ofString x) np) c.env) [] (backTo p (starEach es c.env)) (backToKw p (keywordEach [] c.env)))) : AE c (.Call (.Name (Str.ofString x) np) es [] p) m σ Q E :=
  ae_call (ae_gv hx hv fun fv hfv => by cases er_ref hfv; exact cw (first := []) hk h hst) he
theorem ae_bi {x id : String} {np p es Q} (hx : x ∈ c.gs) (hv : Bv x (.builtin id)) (h : AA c p es m σ (KC c (.builtin id) m Q E) E)
    (hst : starEach es c.env = es.map fun e => (false, PySem.eval e c.env))
    (he : PySem.eval (.Call (.Name (Str.ofString x) np) es [] p) c.env = (do callWith p (← PySem.eval (.Name (Str.ofString x) np) c.env) [] (backTo p (starEach es c.env)) (backToKw p (keywordEach [] c.env)))) : AE c (.Call (.Name (Str.ofString x) np) es [] p) m σ Q E :=
  ae_call (ae_bv hx hv fun fv hfv => by cases er_builtin hfv; exact cw (first := []) (f := .builtin id) trivial h hst) he
theorem ae_ty {x id : String} {np p es Q} (hx : x ∈ c.gs) (hv : Bv x (.type id)) (h : AA c p es m σ (KC c (.type id) m Q E) E)
    (hst : starEach es c.env = es.map fun e => (false, PySem.eval e c.env))
    (he : PySem.eval (.Call (.Name (Str.ofString x) np) es [] p) c.env = (do callWith p (← PySem.eval (.Name (Str.ofString x) np) c.env) [] (backTo p (starEach es c.env)) (backToKw p (keywordEach [] c.env)))) : AE c (.Call (.Name (Str.ofString x) np) es [] p) m σ Q E :=
  ae_call (ae_bv hx hv fun fv hfv => by cases er_type hfv; exact cw (first := []) (f := .type id) trivial h hst) he
theorem ex_swap {σ : AH} {ns m} {t : Addr} {u w : V} {m₁ m₂} {x y : String} {P : List (Option V) → Prop} (h : σ t = some (.tuple [u, w])) (h1 : Put ns m y w m₁) (h2 : Put ns m₁ x u m₂) (k : P m₂) :
    ∃ t' u w m₁ m₂, V.ref t = .ref t' ∧ σ t' = some (.tuple [u, w]) ∧ Put ns m y w m₁ ∧ Put ns m₁ x u m₂ ∧ P m₂ := ⟨t, u, w, m₁, m₂, rfl, h, h1, h2, k⟩
theorem part_nat (n : Nat) : partOf (.int (n : Int)) = some (some n) := by
  show (if (0 : Int) ≤ (n : Int) then some (some (n : Int).toNat) else none) = _
  rw [if_pos (by omega)]; rfl
theorem part_int {i : Int} (h : 0 ≤ i) : partOf (.int i) = some (some i.toNat) := by
  show (if (0 : Int) ≤ i then some (some i.toNat) else none) = _
  rw [if_pos h]
theorem ex_none {P : Prop} (k : P) : V.none = .none ∧ P := ⟨rfl, k⟩
theorem ex_bool {b : Bool} {P : Bool → Prop} (k : P b) : ∃ b', V.bool b = .bool b' ∧ P b' := ⟨b, rfl, k⟩
/-- pop of the last -/
theorem oc_popr {a : Addr} {xs : List V} {v : V} {Q} (h : σ a = some (.list (v :: xs).reverse)) (k : Q v (upd σ a (.list xs.reverse))) : OC c (.builtin "list.pop") [.ref a] m σ Q E :=
  oc_pop (by rw [h, List.reverse_cons]) k
end
end Mine

end

section
open PySem PySem.W PyProof.Rows PySem.Spec PySem.Calls
set_option Elab.async false
set_option maxRecDepth 100000
set_option linter.unusedVariables false
namespace Mine

/-- a forest: the first tree's number, its kids, the trees beside it -/
inductive F where
  | nil
  | cons (n : Int) (ks rest : F)
/-- a forest as it lies: the first tree's object, its dict, its list of kids -/
inductive G where
  | nil
  | cons (a d k : Addr) (n : Int) (ks rest : G)

namespace F
noncomputable def len : F → Nat
  | nil => 0
  | cons _ _ r => r.len + 1
noncomputable def size : F → Nat
  | nil => 0
  | cons _ ks r => ks.size + r.size + 1
noncomputable def app : F → F → F
  | nil, y => y
  | cons n ks r, y => cons n ks (app r y)
/-- the letters in their order: number, kids -/
noncomputable def rows : F → List (Int × Int)
  | nil => []
  | cons n ks r => (n, (ks.len : Int)) :: (rows ks ++ rows r)
theorem app_nil (x : F) : x.app nil = x := by
  induction x with
  | nil => rfl
  | cons n ks r _ ih => simp [app, ih]
theorem app_assoc (x y z : F) : (x.app y).app z = x.app (y.app z) := by
  induction x with
  | nil => rfl
  | cons n ks r _ ih => simp [app, ih]
theorem len_app (x y : F) : (x.app y).len = x.len + y.len := by
  induction x with
  | nil => simp [app, len]
  | cons n ks r _ ih => simp [app, len, ih]; omega
theorem size_app (x y : F) : (x.app y).size = x.size + y.size := by
  induction x with
  | nil => simp [app, size]
  | cons n ks r _ ih => simp [app, size, ih]; omega
theorem rows_app (x y : F) : (x.app y).rows = x.rows ++ y.rows := by
  induction x with
  | nil => rfl
  | cons n ks r _ ih => simp [app, rows, ih]
theorem len_le (x : F) : x.len ≤ x.size := by
  induction x with
  | nil => simp [len, size]
  | cons n ks r _ ih => simp [len, size]; omega
theorem rows_len (x : F) : x.rows.length = x.size := by
  induction x with
  | nil => rfl
  | cons n ks r h1 h2 => simp [rows, size, h1, h2]
end F

namespace G
noncomputable def er : G → F
  | nil => .nil
  | cons _ _ _ n ks r => .cons n ks.er r.er
noncomputable def vals : G → List V
  | nil => []
  | cons a _ _ _ _ r => .ref a :: r.vals
noncomputable def app : G → G → G
  | nil, y => y
  | cons a d k n ks r, y => cons a d k n ks (app r y)
/-- the objects in their order -/
noncomputable def pre : G → List Addr
  | nil => []
  | cons a _ _ _ ks r => a :: (ks.pre ++ r.pre)
noncomputable abbrev size (g : G) : Nat := g.er.size
theorem er_app (x y : G) : (x.app y).er = x.er.app y.er := by
  induction x with
  | nil => rfl
  | cons a d k n ks r _ ih => simp [app, er, F.app, ih]
theorem vals_app (x y : G) : (x.app y).vals = x.vals ++ y.vals := by
  induction x with
  | nil => rfl
  | cons a d k n ks r _ ih => simp [app, vals, ih]
theorem pre_app (x y : G) : (x.app y).pre = x.pre ++ y.pre := by
  induction x with
  | nil => rfl
  | cons a d k n ks r _ ih => simp [app, pre, ih]
theorem vals_len (x : G) : x.vals.length = x.er.len := by
  induction x with
  | nil => rfl
  | cons a d k n ks r _ ih => simp [vals, er, F.len, ih]
theorem pre_len (x : G) : x.pre.length = x.er.size := by
  induction x with
  | nil => rfl
  | cons a d k n ks r h1 h2 => simp [pre, er, F.size, h1, h2]
theorem vals_nil {x : G} (h : x.vals = []) : x = nil := by cases x with
  | nil => rfl
  | cons => cases h
theorem app_nil (x : G) : x.app nil = x := by
  induction x with
  | nil => rfl
  | cons a d k n ks r _ ih => simp [app, ih]
end G

/-- behind number and kids: nothing, or the node -/
noncomputable def TL (tl : List (String × V)) : Prop := tl = [] ∨ ∃ v, tl = [("node", v)]
/-- a tree's dict -/
noncomputable abbrev dk (n : Int) (k : Addr) (tl : List (String × V)) : AO := .dict (("number", .int n) :: ("kids", .ref k) :: tl)
/-- the forest's dicts and lists stand -/
noncomputable def RD (σ : AH) : G → Prop
  | .nil => True
  | .cons a _ k n ks r => (∃ tl, σ a = some (dk n k tl) ∧ TL tl) ∧ σ k = some (.list ks.vals) ∧ RD σ ks ∧ RD σ r
/-- the forest's nodes and lists stand -/
noncomputable def RN (σ : AH) : G → Prop
  | .nil => True
  | .cons a d k n ks r => (σ a = some (.inst 102 d) ∧ σ d = some (.ns [("number", .int n), ("kids", .ref k)])) ∧ σ k = some (.list ks.vals) ∧ RN σ ks ∧ RN σ r

theorem RD.app {σ x y} : RD σ (G.app x y) ↔ RD σ x ∧ RD σ y := by
  induction x with
  | nil => simp [G.app, RD]
  | cons a d k n ks r _ ih => simp only [G.app, RD, ih, and_assoc]
theorem RN.app {σ x y} : RN σ (G.app x y) ↔ RN σ x ∧ RN σ y := by
  induction x with
  | nil => simp [G.app, RN]
  | cons a d k n ks r _ ih => simp only [G.app, RN, ih, and_assoc]
theorem RD.kept {σ σ' : AH} (k : Kept σ σ' []) : ∀ {g : G}, RD σ g → RD σ' g
  | .nil, _ => trivial
  | .cons _ _ _ _ _ _, ⟨⟨kv, h1, h2⟩, h3, h4, h5⟩ => ⟨⟨kv, k.get h1, h2⟩, k.get h3, RD.kept k h4, RD.kept k h5⟩
theorem RN.kept {σ σ' : AH} (k : Kept σ σ' []) : ∀ {g : G}, RN σ g → RN σ' g
  | .nil, _ => trivial
  | .cons _ _ _ _ _ _, ⟨⟨h1, h2⟩, h3, h4, h5⟩ => ⟨⟨k.get h1, k.get h2⟩, k.get h3, RN.kept k h4, RN.kept k h5⟩

/-- a list over new tuples of two numbers -/
theorem RowsAt.snoc {σ : AH} {a t : Addr} {rows : List (Int × Int)} {x y : Int} {xs : List V} (h : RowsAt σ a rows) (hx : σ a = some (.list xs)) (ht : Fresh σ t) (hne : t ≠ a) :
    RowsAt (upd (upd σ t (.tuple [.int x, .int y])) a (.list (xs ++ [.ref t]))) a (rows ++ [(x, y)]) := by
  obtain ⟨ts, e, l, p⟩ := h
  rw [e] at hx; cases hx
  refine ⟨ts ++ [t], by rw [upd_same]; simp, by simp [l], fun j u r hj hr => ?_⟩
  have key : ∀ (u : Addr) (r : Int × Int), σ u = some (.tuple [.int r.1, .int r.2]) → upd (upd σ t (.tuple [.int x, .int y])) a (.list (ts.map V.ref ++ [.ref t])) u = some (.tuple [.int r.1, .int r.2]) := fun u r hu => by
    rw [upd_ne _ _ (fun q => by rw [q, e] at hu; cases hu), upd_ne _ _ (ht u _ hu)]; exact hu
  by_cases hlt : j < ts.length
  · rw [List.getElem?_append_left hlt] at hj
    rw [List.getElem?_append_left (by omega)] at hr
    exact key u r (p j u r hj hr)
  · have hj' := (List.getElem?_eq_some_iff.mp hj).1
    simp at hj'
    obtain rfl : j = ts.length := by omega
    rw [List.getElem?_append_right (Nat.le_refl _)] at hj
    rw [List.getElem?_append_right (by omega)] at hr
    simp [l] at hj hr
    subst hj hr
    rw [upd_ne _ _ hne, upd_same]
theorem RowsAt.nil {σ : AH} {a : Addr} (h : σ a = some (.list [])) : RowsAt σ a [] := ⟨[], h, rfl, fun j u r hj => by simp at hj⟩
theorem RowsAt.kept {σ σ' : AH} {a : Addr} {rows} (k : Kept σ σ' []) (h : RowsAt σ a rows) : RowsAt σ' a rows := by
  obtain ⟨ts, e, l, p⟩ := h
  exact ⟨ts, k.get e, l, fun j u r hj hr => k.get (p j u r hj hr)⟩
theorem RowsAt.but {σ : AH} {a b : Addr} {rows} {o o' : AO} (h : RowsAt σ a rows) (hb : σ b = some o) (hne : a ≠ b) (ht : ∀ xs, o ≠ .tuple xs) : RowsAt (upd σ b o') a rows := by
  obtain ⟨ts, e, l, p⟩ := h
  refine ⟨ts, by rw [upd_ne _ _ hne]; exact e, l, fun j u r hj hr => ?_⟩
  have := p j u r hj hr
  rw [upd_ne _ _ (fun q => by rw [q, hb] at this; cases this; exact ht _ rfl)]; exact this
theorem RowsAt.new {σ : AH} {a b : Addr} {rows} {o' : AO} (h : RowsAt σ a rows) (hb : Fresh σ b) : RowsAt (upd σ b o') a rows := h.kept (Kept.new hb Kept.rfl)
/-- all that a forest lies on -/
noncomputable def G.all : G → List Addr
  | .nil => []
  | .cons a d k _ ks r => a :: d :: k :: (ks.all ++ r.all)
/-- the addresses of dicts and lists alone -/
noncomputable def G.alk : G → List Addr
  | .nil => []
  | .cons a _ k _ ks r => a :: k :: (ks.alk ++ r.alk)
theorem G.all_app (x y : G) : (x.app y).all = x.all ++ y.all := by
  induction x with
  | nil => rfl
  | cons a d k n ks r _ ih => simp [app, all, ih]
theorem G.alk_app (x y : G) : (x.app y).alk = x.alk ++ y.alk := by
  induction x with
  | nil => rfl
  | cons a d k n ks r _ ih => simp [app, alk, ih]
theorem RN.keptA {σ σ' : AH} {S : List Addr} (k : Kept σ σ' S) : ∀ {g : G}, RN σ g → (∀ x ∈ g.all, x ∉ S) → RN σ' g
  | .nil, _, _ => trivial
  | .cons _ _ _ _ _ _, ⟨⟨h1, h2⟩, h3, h4, h5⟩, h => by
    simp only [G.all, List.mem_cons, List.mem_append] at h
    exact ⟨⟨k _ _ h1 (h _ (.inl rfl)), k _ _ h2 (h _ (.inr (.inl rfl)))⟩, k _ _ h3 (h _ (.inr (.inr (.inl rfl)))),
      RN.keptA k h4 fun x hx => h x (.inr (.inr (.inr (.inl hx)))), RN.keptA k h5 fun x hx => h x (.inr (.inr (.inr (.inr hx))))⟩
theorem RD.keptA {σ σ' : AH} {S : List Addr} (k : Kept σ σ' S) : ∀ {g : G}, RD σ g → (∀ x ∈ g.alk, x ∉ S) → RD σ' g
  | .nil, _, _ => trivial
  | .cons _ _ _ _ _ _, ⟨⟨tl, h1, h2⟩, h3, h4, h5⟩, h => by
    simp only [G.alk, List.mem_cons, List.mem_append] at h
    exact ⟨⟨tl, k _ _ h1 (h _ (.inl rfl)), h2⟩, k _ _ h3 (h _ (.inr (.inl rfl))),
      RD.keptA k h4 fun x hx => h x (.inr (.inr (.inl hx))), RD.keptA k h5 fun x hx => h x (.inr (.inr (.inr hx)))⟩
/-- what a forest lies on stands -/
theorem RN.stands {σ : AH} : ∀ {g : G}, RN σ g → ∀ x ∈ g.all, σ x ≠ none
  | .nil, _, _, h => by cases h
  | .cons _ _ _ _ _ _, ⟨⟨h1, h2⟩, h3, h4, h5⟩, x, h => by
    simp only [G.all, List.mem_cons, List.mem_append] at h
    rcases h with rfl | rfl | rfl | h | h
    · rw [h1]; nofun
    · rw [h2]; nofun
    · rw [h3]; nofun
    · exact RN.stands h4 x h
    · exact RN.stands h5 x h
theorem RD.stands {σ : AH} : ∀ {g : G}, RD σ g → ∀ x ∈ g.alk, σ x ≠ none
  | .nil, _, _, h => by cases h
  | .cons _ _ _ _ _ _, ⟨⟨tl, h1, h2⟩, h3, h4, h5⟩, x, h => by
    simp only [G.alk, List.mem_cons, List.mem_append] at h
    rcases h with rfl | rfl | h | h
    · rw [h1]; nofun
    · rw [h3]; nofun
    · exact RD.stands h4 x h
    · exact RD.stands h5 x h
theorem Fresh.notin {σ : AH} {d : Addr} {l : List Addr} (h : Fresh σ d) (k : ∀ x ∈ l, σ x ≠ Option.none) : d ∉ l := fun q => k d q h.none
end Mine

end

section
open PySem PySem.W PyProof.Rows PySem.Spec PySem.Calls
set_option Elab.async false
set_option maxRecDepth 100000
set_option linter.unusedVariables false
namespace Mine
namespace F
/-- the numbers of a chain of only kids, and the kids at its end -/
noncomputable def chN : F → List Int
  | nil => []
  | cons n ks r => match r with
    | nil => n :: ks.chN
    | _ => []
noncomputable def chK : F → F
  | nil => nil
  | cons n ks r => match r with
    | nil => ks.chK
    | r => cons n ks r
end F
namespace G
noncomputable def chK : G → G
  | nil => nil
  | cons a d k n ks r => match r with
    | nil => ks.chK
    | r => cons a d k n ks r
theorem er_chK : ∀ g : G, g.chK.er = g.er.chK
  | nil => rfl
  | cons a d k n ks nil => er_chK ks
  | cons a d k n ks (cons ..) => rfl
end G
/-- the figures of a number above nought -/
noncomputable def num (n : Int) : List Nat := if 0 < n then digs n else []
/-- a forest's text: each tree a list, or not -/
noncomputable def T : Bool → F → List Nat
  | _, .nil => []
  | b, .cons n ks r => (if b then [40] else []) ++ num n ++ (if 0 < n ∧ ks.len ≠ 0 then [32] else []) ++ T (decide (1 < ks.len)) ks ++ (if b then [41] else []) ++ T b r
theorem T_app (b : Bool) (x y : F) : T b (x.app y) = T b x ++ T b y := by
  induction x with
  | nil => rfl
  | cons n ks r _ ih => simp [T, F.app, ih]
/-- each letter has a number, or it is absent above two kids or more; an only kid has a number -/
noncomputable def Good : F → Prop
  | .nil => True
  | .cons n ks r => ((0 < n ∧ n < 10 ^ 20) ∨ (n = 0 ∧ 2 ≤ ks.len)) ∧ (∀ m js, ks = .cons m js .nil → 0 < m) ∧ Good ks ∧ Good r
theorem Good.app {x y : F} : Good (x.app y) ↔ Good x ∧ Good y := by
  induction x with
  | nil => simp [F.app, Good]
  | cons n ks r _ ih => simp only [F.app, Good, ih, and_assoc]
theorem lookup_relabel {env : Env} {k : NameKind} (hk : (k == NameKind.free) = false) : ∀ {names : List (Str × NameKind)} {x : Str}, names.lookup x = some k →
    (names.map fun (n, k) => if (k == NameKind.free && env.scope.kind == .function && env.kindOf n == some .cell) then (n, NameKind.cell) else (n, k)).lookup x = some k
  | [], _, h => by simp at h
  | (n, k') :: r, x, h => by
    have ih := @lookup_relabel env k hk r x
    rw [List.map_cons]
    rw [List.lookup_cons] at h
    show List.lookup x ((if (k' == NameKind.free && env.scope.kind == .function && env.kindOf n == some .cell) = true then (n, NameKind.cell) else (n, k')) :: _) = _
    cases hx : x == n with
    | true =>
      rw [hx] at h
      cases h
      rw [if_neg (by simp [hk]), List.lookup_cons, hx]
    | false =>
      rw [hx] at h
      split <;> (rw [List.lookup_cons, hx]; exact ih h)
theorem comp_ok {c : Fx} {scope : Scope} {cl : List (Str × Addr)} {ns gs : List String} (h1 : ∀ y ∈ scope.names, y.2 ≠ .cell) (h2 : scope.kind = .function) (h3 : ∀ y ∈ scope.names, y.2 = .local → scope.names.lookup y.1 = some .local)
    (h4 : closureFor scope c.env = pure cl) (h5 : (ns.all fun x => decide (scope.names.lookup (Str.ofString x) = some .local)) = true) (h6 : (gs.all fun x => decide (scope.names.lookup (Str.ofString x) = some .globalImplicit)) = true)
    (h7 : (ns.map Str.ofString).Nodup) (h8 : ∀ x ∈ ns ++ gs, (Str.ofString x == ("__debug__" : Str)) = false) : CompOk c scope cl ns gs :=
  ⟨h1, h2, h3, h4, fun _ x hx => lookup_relabel rfl (kinds_of (scope := scope) h5 x hx), fun _ x hx => lookup_relabel rfl (kinds_of (scope := scope) h6 x hx), h7, h8⟩
theorem kp_of {x : String} {f : Addr} (w : World) (h : Gv x (.ref f)) : Kp w (.ref f) := by
  cases h <;> (show keepIn (KH w) _ = true; kernel_rfl)
section
variable {c : Fx} {m : List (Option V)} {σ : AH} {E : Value → Shared → Prop}
theorem ae_f {x : String} {f : Addr} {np p es Q} (hx : x ∈ c.gs) (hv : Gv x (.ref f)) (h : AA c p es m σ (KC c (.ref f) m Q E) E)
    (hst : starEach es c.env = es.map fun e => (false, PySem.eval e c.env))
    (he : PySem.eval (.Call (.Name (Str.ofString x) np) es [] p) c.env = (do callWith p (← PySem.eval (.Name (Str.ofString x) np) c.env) [] (backTo p (starEach es c.env)) (backToKw p (keywordEach [] c.env)))) : AE c (.Call (.Name (Str.ofString x) np) es [] p) m σ Q E :=
  ae_fn hx hv (kp_of _ hv) h hst he
end
theorem fz_no {c : Fx} {m} {v s} {P : Prop} (h : Fz c m (fun _ _ => False) v s) : P := by
  obtain ⟨_, _, _, _, _, _, _, _, _, _, _, _, _, _, _, h⟩ := h
  exact h.elim
theorem oc_fx {c : Fx} {m σ} {k h f us Q X X'} (H : ACall c.w k h f us σ Q X) (hk : k ≤ c.lvl) (hh : h = true → c.h = true) (hfr : c.fr = true) (hX : ∀ i σ, X i σ → X' i σ) : OC c (.ref f) us m σ Q (XE c X') :=
  fun vs hv ok => oc_fn H hk hh hfr (fun v s' h => fz_xe hfr ok h hX) vs hv ok
theorem oc_f0 {c : Fx} {m σ} {k h f us Q E} (H : ACall c.w k h f us σ Q (fun _ _ => False)) (hk : k ≤ c.lvl) (hh : h = true → c.h = true) (hfr : c.fr = true) : OC c (.ref f) us m σ Q E :=
  oc_fn H hk hh hfr (fun v s' h => fz_no h)
theorem RN.at {σ : AH} : ∀ {g : G}, RN σ g → ∀ (i : Nat) (a : Addr), g.pre[i]? = some a → ∃ d k n xs, σ a = some (.inst 102 d) ∧ σ d = some (.ns [("number", .int n), ("kids", .ref k)]) ∧ σ k = some (.list xs) ∧ g.er.rows[i]? = some (n, (xs.length : Int)) ∧ xs.length ≤ g.size
  | .nil, _, i, a, h => by simp [G.pre] at h
  | .cons a d k n ks r, ⟨⟨h1, h2⟩, h3, h4, h5⟩, 0, b, h => by
    simp [G.pre] at h; subst h
    exact ⟨d, k, n, ks.vals, h1, h2, h3, by simp [G.er, F.rows, G.vals_len], by rw [G.vals_len]; have := F.len_le ks.er; simp [G.size, G.er, F.size]; omega⟩
  | .cons a d k n ks r, ⟨⟨h1, h2⟩, h3, h4, h5⟩, i + 1, b, h => by
    simp only [G.pre, List.getElem?_cons_succ] at h
    have e1 : ks.pre.length = ks.er.rows.length := by rw [G.pre_len, F.rows_len]
    have e2 : (G.cons a d k n ks r).size = ks.size + r.size + 1 := rfl
    by_cases hi : i < ks.pre.length
    · rw [List.getElem?_append_left hi] at h
      obtain ⟨d', k', n', xs, q1, q2, q3, q4, q5⟩ := RN.at h4 i b h
      exact ⟨d', k', n', xs, q1, q2, q3, by simp only [G.er, F.rows, List.getElem?_cons_succ]; rw [List.getElem?_append_left (by omega)]; exact q4, by omega⟩
    · rw [List.getElem?_append_right (by omega)] at h
      obtain ⟨d', k', n', xs, q1, q2, q3, q4, q5⟩ := RN.at h5 _ b h
      exact ⟨d', k', n', xs, q1, q2, q3, by simp only [G.er, F.rows, List.getElem?_cons_succ]; rw [List.getElem?_append_right (by omega), ← e1]; exact q4, by omega⟩
theorem RD.at {σ : AH} : ∀ {g : G}, RD σ g → ∀ (i : Nat) (a : Addr), g.pre[i]? = some a → ∃ k n tl xs, σ a = some (dk n k tl) ∧ TL tl ∧ σ k = some (.list xs) ∧ g.er.rows[i]? = some (n, (xs.length : Int)) ∧ xs.length ≤ g.size
  | .nil, _, i, a, h => by simp [G.pre] at h
  | .cons a d k n ks r, ⟨⟨tl, h1, h2⟩, h3, h4, h5⟩, 0, b, h => by
    simp [G.pre] at h; subst h
    exact ⟨k, n, tl, ks.vals, h1, h2, h3, by simp [G.er, F.rows, G.vals_len], by rw [G.vals_len]; have := F.len_le ks.er; simp [G.size, G.er, F.size]; omega⟩
  | .cons a d k n ks r, ⟨⟨tl, h1, h2⟩, h3, h4, h5⟩, i + 1, b, h => by
    simp only [G.pre, List.getElem?_cons_succ] at h
    have e1 : ks.pre.length = ks.er.rows.length := by rw [G.pre_len, F.rows_len]
    have e2 : (G.cons a d k n ks r).size = ks.size + r.size + 1 := rfl
    by_cases hi : i < ks.pre.length
    · rw [List.getElem?_append_left hi] at h
      obtain ⟨k', n', tl', xs, q1, q2, q3, q4, q5⟩ := RD.at h4 i b h
      exact ⟨k', n', tl', xs, q1, q2, q3, by simp only [G.er, F.rows, List.getElem?_cons_succ]; rw [List.getElem?_append_left (by omega)]; exact q4, by omega⟩
    · rw [List.getElem?_append_right (by omega)] at h
      obtain ⟨k', n', tl', xs, q1, q2, q3, q4, q5⟩ := RD.at h5 _ b h
      exact ⟨k', n', tl', xs, q1, q2, q3, by simp only [G.er, F.rows, List.getElem?_cons_succ]; rw [List.getElem?_append_right (by omega), ← e1]; exact q4, by omega⟩
end Mine

end

section
open PySem PySem.W PyProof.Rows PySem.Spec PySem.Calls
set_option Elab.async false
set_option maxRecDepth 100000
set_option linter.unusedVariables false
namespace Mine
noncomputable def nums (n : Int) (ks : F) : List Int := (if 0 < n then [n] else []) ++ ks.chN
theorem inter_cons (x y : List Nat) (l : List (List Nat)) (h : l ≠ []) : List.intercalate x (y :: l) = y ++ x ++ List.intercalate x l := by
  cases l with
  | nil => exact absurd rfl h
  | cons a l => simp [List.intercalate, List.intersperse]
theorem inter_one (x y : List Nat) : List.intercalate x [y] = y := by simp [List.intercalate, List.intersperse]
theorem inter_nil (x : List Nat) : List.intercalate x [] = [] := by simp [List.intercalate, List.intersperse]
theorem chK_long (n : Int) (ks : F) (n2 : Int) (k2 r2 : F) : (F.cons n ks (.cons n2 k2 r2)).chK = .cons n ks (.cons n2 k2 r2) := rfl
theorem text_chain : ∀ (ks : F) (n : Int), (∀ m js, ks = .cons m js .nil → 0 < m) → Good ks →
    num n ++ (if 0 < n ∧ ks.len ≠ 0 then [32] else []) ++ T (decide (1 < ks.len)) ks = List.intercalate [32] ((nums n ks).map digs) ++ (if nums n ks ≠ [] ∧ ks.chK.len ≠ 0 then [32] else []) ++ T true ks.chK
  | .nil, n, _, _ => by
    by_cases h : 0 < n <;> simp [num, nums, h, F.len, F.chN, F.chK, T, inter_one, inter_nil]
  | .cons m js .nil, n, h, g => by
    have hm := h m js rfl
    have ih := text_chain js m g.2.1 g.2.2.1
    have e1 : nums n (.cons m js .nil) = (if 0 < n then [n] else []) ++ nums m js := by simp [nums, F.chN, hm]
    have e2 : (F.cons m js .nil).chK = js.chK := rfl
    have e3 : nums m js ≠ [] := by simp [nums, hm]
    have e4 : T (decide (1 < (F.cons m js .nil).len)) (.cons m js .nil) = num m ++ (if 0 < m ∧ js.len ≠ 0 then [32] else []) ++ T (decide (1 < js.len)) js := by
      simp [F.len, T]
    rw [e4, ih, e1, e2]
    by_cases hn : 0 < n
    · rw [if_pos hn]
      show _ = List.intercalate [32] (digs n :: (nums m js).map digs) ++ _ ++ _
      rw [inter_cons _ _ _ (by simpa using e3)]
      simp [num, hn, F.len, e3]
    · simp [num, hn, e3]
  | .cons m js (.cons m2 j2 r2), n, h, g => by
    have e1 : nums n (.cons m js (.cons m2 j2 r2)) = (if 0 < n then [n] else []) := by simp [nums, F.chN]
    rw [chK_long, e1]
    by_cases hn : 0 < n <;> simp [num, hn, F.len, inter_one, inter_nil]
theorem good_chK : ∀ {ks : F}, Good ks → Good ks.chK
  | .nil, h => h
  | .cons m js .nil, h => good_chK (ks := js) h.2.2.1
  | .cons m js (.cons m2 j2 r2), h => h
theorem good_chN : ∀ {ks : F}, Good ks → ∀ n ∈ ks.chN, 0 ≤ n ∧ n < 10 ^ 20
  | .nil, h, n, hn => by cases hn
  | .cons m js .nil, h, n, hn => by
    rcases List.mem_cons.mp hn with rfl | hn
    · rcases h.1 with q | q
      · exact ⟨by omega, q.2⟩
      · rw [q.1]; decide
    · exact good_chN (ks := js) h.2.2.1 n hn
  | .cons m js (.cons m2 j2 r2), h, n, hn => by cases hn
theorem log_small {n : Int} (h0 : 0 ≤ n) (h : n < 10 ^ 20) : n.natAbs.log2 < 1920 := by
  by_cases hz : n.natAbs = 0
  · rw [hz]; decide
  · exact (Nat.log2_lt hz).2 (Nat.lt_of_lt_of_le (show n.natAbs < 10 ^ 20 by omega) (by decide +kernel))
theorem size_chK : ∀ (ks : F), ks.chK.size ≤ ks.size
  | .nil => Nat.le_refl _
  | .cons m js .nil => by have := size_chK js; show js.chK.size ≤ js.size + F.size .nil + 1; omega
  | .cons m js (.cons m2 j2 r2) => Nat.le_refl _
/-- what waits to be shown -/
inductive It where
  | fin
  | tr (a d k : Addr) (n : Int) (ks : G)
noncomputable def It.val : It → V
  | fin => .none
  | tr a _ _ _ _ => .ref a
noncomputable def It.txt : It → List Nat
  | fin => [41]
  | tr _ _ _ n ks => T true (.cons n ks.er .nil)
noncomputable def It.wt : It → Nat
  | fin => 1
  | tr _ _ _ _ ks => 2 * (ks.size + 1)
noncomputable def It.ok (σ : AH) : It → Prop
  | fin => True
  | tr a d k n ks => RN σ (.cons a d k n ks .nil) ∧ Good (.cons n ks.er .nil)
noncomputable def G.its : G → List It
  | .nil => []
  | .cons a d k n ks r => .tr a d k n ks :: r.its
theorem its_val (g : G) : g.its.map It.val = g.vals := by
  induction g with
  | nil => rfl
  | cons a d k n ks r _ ih => simp [G.its, It.val, G.vals, ih]
theorem its_txt (g : G) : g.its.flatMap It.txt = T true g.er := by
  induction g with
  | nil => rfl
  | cons a d k n ks r _ ih => simp [G.its, It.txt, G.er, T, ih, List.flatMap_cons]
theorem its_wt (g : G) : (g.its.map It.wt).sum = 2 * g.size := by
  induction g with
  | nil => rfl
  | cons a d k n ks r _ ih => simp only [G.its, It.wt, List.map_cons, List.sum_cons, ih]; show _ = 2 * (ks.size + r.size + 1); omega
theorem its_ok {σ : AH} : ∀ {g : G}, RN σ g → Good g.er → ∀ it ∈ g.its, it.ok σ
  | .nil, _, _, _, h => by cases h
  | .cons a d k n ks r, ⟨h1, h2, h3, h4⟩, ⟨g1, g2, g3, g4⟩, it, h => by
    rcases List.mem_cons.mp h with rfl | h
    · exact ⟨⟨h1, h2, h3, trivial⟩, g1, g2, g3, trivial⟩
    · exact its_ok h4 g4 it h
theorem txt_tree {n : Int} {ks : F} (h : Good (.cons n ks .nil)) : T true (.cons n ks .nil) = [40] ++ List.intercalate [32] ((nums n ks).map digs) ++ (if nums n ks ≠ [] ∧ ks.chK.len ≠ 0 then [32] else []) ++ T true ks.chK ++ [41] := by
  have h2 := congrArg (fun l => [40] ++ (l ++ [41])) (text_chain ks n h.2.1 h.2.2.1)
  simp only [T, if_true, List.append_nil, List.append_assoc] at h2 ⊢
  exact h2
theorem sc_open : (Str.ofString "(").cps.toList = [40] := by decide +kernel
theorem sc_close : (Str.ofString ")").cps.toList = [41] := by decide +kernel
theorem sc_blank : (Str.ofString " ").cps.toList = [32] := by decide +kernel
theorem sc_none : (Str.ofString "").cps.toList = [] := by decide +kernel
theorem ae_s {c : Fx} {m : List (Option V)} {σ : AH} {E : Value → Shared → Prop} {x : Str} {l : List Nat} {k p} {Q} (e : x.cps.toList = l) (h : Q (.str l) σ) : AE c (.Constant (.str x) k p) m σ Q E := ae_str (e ▸ h)
theorem inter_len (ls : List (List Nat)) : (ls.map List.length).sum + ls.length ≤ (List.intercalate [32] ls).length + 1 := by
  induction ls with
  | nil => simp
  | cons a l ih =>
    cases l with
    | nil => simp [inter_one]
    | cons b l => rw [inter_cons _ _ _ (by simp)]; simp only [List.map_cons, List.sum_cons, List.length_cons, List.length_append, List.length_nil] at ih ⊢; omega
theorem inter_flat (ls : List (List Nat)) : List.intercalate [] ls = ls.flatten := by
  induction ls with
  | nil => rfl
  | cons a l ih =>
    cases l with
    | nil => simp [inter_one]
    | cons b l => rw [inter_cons _ _ _ (by simp), ih]; simp
theorem its_len : ∀ (its : List It), its.length ≤ (its.map It.wt).sum
  | [] => Nat.le_refl _
  | it :: its => by
    have := its_len its
    have h : 1 ≤ it.wt := by cases it <;> simp [It.wt]; omega
    simp only [List.length_cons, List.map_cons, List.sum_cons]; omega
theorem chK_len (g : G) : g.chK.vals.length ≤ g.size := by
  rw [G.vals_len, G.er_chK]
  exact Nat.le_trans (F.len_le _) (size_chK _)
theorem RN.chK {σ : AH} : ∀ {g : G}, RN σ g → RN σ g.chK
  | .nil, h => h
  | .cons a d k n ks .nil, h => RN.chK (g := ks) h.2.2.1
  | .cons a d k n ks (.cons ..), h => h
end Mine

end

section
open PySem PySem.W PyProof.Rows PySem.Spec PySem.Calls PySem.NumText
set_option Elab.async false
set_option maxRecDepth 100000
set_option linter.unusedVariables false
namespace Mine

-- figures
theorem digs_nat (m : Nat) : digs (m : Int) = (Nat.toDigits 10 m).map Char.toNat := KIN.signs_num m
theorem digs_all {n : Int} (h : 0 ≤ n) : AllDigits (digs n) := by
  obtain ⟨m, rfl⟩ := Int.eq_ofNat_of_zero_le h
  intro c hc
  rw [digs_nat] at hc
  obtain ⟨ch, hch, e⟩ := List.mem_map.mp hc
  have r := digit_range (Nat.isDigit_of_mem_toDigits (by decide) (by decide) hch)
  rw [← e]; exact r
theorem digs_val (m : Nat) : digitsVal (digs (m : Int)) = m := by rw [digs_nat]; exact KIN.val_back m
theorem digs_le {n : Int} (h0 : 0 ≤ n) (h : n < 10 ^ 20) : (digs n).length ≤ 20 := by
  obtain ⟨m, rfl⟩ := Int.eq_ofNat_of_zero_le h0
  rw [digs_nat, List.length_map]
  have hm : m < 10 ^ 20 := by
    have : ((m : Nat) : Int) < ((10 ^ 20 : Nat) : Int) := by simpa using h
    exact Int.ofNat_lt.mp this
  exact digits10_le (by decide) hm
theorem back_map : ∀ {l : List Nat}, AllDigits l → (l.map Char.ofNat).map Char.toNat = l
  | [], _ => rfl
  | c :: l, h => by
    have hc := h.head
    simp only [List.map_cons]
    rw [back_map h.tail]
    have : ∀ c, c < 58 → 48 ≤ c → (Char.ofNat c).toNat = c := by decide
    rw [this c (by omega) hc.1]
theorem val_digs {c : Nat} {l : List Nat} (h : AllDigits (c :: l)) (h1 : 49 ≤ c) : digs ((digitsVal (c :: l) : Nat) : Int) = c :: l := by
  rw [digs_nat, toDigits_digitsVal l.length (c :: l) rfl h (.inr ⟨c, l, rfl, h1⟩)]
  exact back_map h
theorem val_lt : ∀ {l : List Nat}, AllDigits l → digitsVal l < 10 ^ l.length := by
  intro l
  have key : ∀ (l : List Nat) (a : Nat), AllDigits l → l.foldl (fun acc c => acc * 10 + (c - 48)) a < (a + 1) * 10 ^ l.length := by
    intro l
    induction l with
    | nil => intro a _; simp
    | cons c l ih =>
      intro a h
      have hc := h.head
      have := ih (a * 10 + (c - 48)) h.tail
      simp only [List.foldl_cons, List.length_cons]
      refine Nat.lt_of_lt_of_le this ?_
      rw [Nat.pow_succ, Nat.mul_comm (10 ^ l.length) 10, ← Nat.mul_assoc]
      exact Nat.mul_le_mul_right _ (by omega)
  intro h
  have := key l 0 h
  simpa [digitsVal] using this
theorem val_small {l : List Nat} (h : AllDigits l) (hl : l.length ≤ 20) : ((digitsVal l : Nat) : Int) < 10 ^ 20 := by
  have h1 := val_lt h
  have h2 : 10 ^ l.length ≤ 10 ^ 20 := Nat.pow_le_pow_right (by decide) hl
  have h3 : digitsVal l < 10 ^ 20 := Nat.lt_of_lt_of_le h1 h2
  have h4 : ((digitsVal l : Nat) : Int) < ((10 ^ 20 : Nat) : Int) := Int.ofNat_lt.mpr h3
  simpa using h4
theorem digs_head {n : Int} (h : 0 < n) : ∃ c l, digs n = c :: l ∧ 49 ≤ c ∧ c ≤ 57 := by
  obtain ⟨m, rfl⟩ := Int.eq_ofNat_of_zero_le (Int.le_of_lt h)
  have hd := digs_all (Int.le_of_lt h)
  have hv := digs_val m
  have hm : 0 < m := by simpa using h

  cases e : digs (m : Int) with
  | nil => rw [e] at hv; simp [digitsVal] at hv; omega
  | cons c l =>
    rw [e] at hd hv
    have hc := hd.head
    refine ⟨c, l, rfl, ?_, hc.2⟩
    by_cases h48 : c = 48
    · exfalso
      subst h48
      -- a figure nought ahead cannot be
      have h1 := val_lt hd.tail
      rw [digitsVal_zero] at hv
      have e2 := digs_nat m
      rw [e] at e2
      have hl : l.length + 1 = (Nat.toDigits 10 m).length := by rw [← List.length_map (f := Char.toNat), ← e2]; rfl
      by_cases hl0 : l = []
      · subst hl0; simp [digitsVal] at hv; omega
      · have hl1 : 1 ≤ l.length := by cases l with
          | nil => exact absurd rfl hl0
          | cons _ _ => simp
        have := digits10_le (k := l.length) (n := m) hl1 (by rw [← hv]; exact h1)
        omega
    · omega
end Mine

end

section
open PySem PySem.W PyProof.Rows PySem.Spec PySem.Calls PySem.NumText
set_option Elab.async false
set_option maxRecDepth 100000
set_option linter.unusedVariables false
namespace Mine
/-- where a frame stands -/
inductive K | new | num | blank | lists
  deriving DecidableEq
structure Fs where
  k : K
  ns : List Int
  inner : F

noncomputable def chT : List Int → F → F
  | [], y => y
  | n :: r, y => .cons n (chT r y) .nil
/-- the tree that a frame closes to -/
noncomputable def chF : List Int → F → F
  | [], y => .cons 0 y .nil
  | n :: r, y => .cons n (chT r y) .nil
noncomputable def addT (top : F) : List Fs → F → F × List Fs
  | [], t => (top.app t, [])
  | f :: st, t => (top, ⟨.lists, f.ns, f.inner.app t⟩ :: st)
noncomputable def isDig (c : Nat) : Bool := decide (48 ≤ c ∧ c ≤ 57)
/-- the figures that begin a text -/
noncomputable def figs (y : List Nat) : List Nat := y.takeWhile isDig
noncomputable def step41 (f : Fs) : Bool := decide (f.k = .num) || (decide (f.k = .lists) && decide (1 < f.inner.len))
/-- reader and automaton in one -/
noncomputable def run (top : F) (st : List Fs) (y : List Nat) (at_ : Nat) : Except Nat F :=
  match y, st with
  | [], [] => .ok top
  | [], _ :: _ => .error at_
  | c :: y, [] => if c = 40 then run top [⟨.new, [], .nil⟩] y (at_ + 1) else .error at_
  | c :: y, f :: st =>
    if c = 40 then (if f.k = .num then .error at_ else run top (⟨.new, [], .nil⟩ :: f :: st) y (at_ + 1))
    else if c = 41 then (if step41 f = true then run (addT top st (chF f.ns f.inner)).1 (addT top st (chF f.ns f.inner)).2 y (at_ + 1) else .error at_)
    else if c = 32 then (if f.k = .num then run top (⟨.blank, f.ns, f.inner⟩ :: st) y (at_ + 1) else .error at_)
    else if 49 ≤ c ∧ c ≤ 57 ∧ (f.k = .new ∨ f.k = .blank) then
      (if 19 < (figs y).length then .error at_ else run top (⟨.num, f.ns ++ [((digitsVal (c :: figs y) : Nat) : Int)], f.inner⟩ :: st) (y.drop (figs y).length) (at_ + 1 + (figs y).length))
    else .error at_
termination_by y.length
decreasing_by all_goals simp <;> omega
noncomputable def parse (x : List Nat) : Except Nat F := run .nil [] x 0

theorem figs_all (y : List Nat) : AllDigits (figs y) := fun c hc => by
  have := List.all_takeWhile (p := isDig) (l := y)
  rw [List.all_eq_true] at this
  exact of_decide_eq_true (this c hc)
theorem figs_split (y : List Nat) : figs y ++ y.drop (figs y).length = y := by
  induction y with
  | nil => rfl
  | cons c y ih =>
    unfold figs at ih ⊢
    rw [List.takeWhile_cons]
    split
    · simp [ih]
    · rfl
theorem figs_app {l y : List Nat} (h : AllDigits l) (hy : ∀ c r, y = c :: r → isDig c = false) : figs (l ++ y) = l := by
  induction l with
  | nil =>
    cases y with
    | nil => rfl
    | cons c r => show List.takeWhile isDig (c :: r) = []; rw [List.takeWhile_cons, hy c r rfl]; rfl
  | cons c l ih =>
    have hc : isDig c = true := decide_eq_true h.head
    show List.takeWhile isDig (c :: (l ++ y)) = _
    rw [List.takeWhile_cons, hc]
    show c :: figs (l ++ y) = _
    rw [ih h.tail]

/-- a frame's own kind of things -/
noncomputable def Fs.ok (f : Fs) : Prop :=
  (∀ n ∈ f.ns, 0 < n ∧ n < 10 ^ 20) ∧ Good f.inner ∧ (match f.k with
    | .new => f.ns = [] ∧ f.inner = .nil
    | .num => f.ns ≠ [] ∧ f.inner = .nil
    | .blank => f.ns ≠ [] ∧ f.inner = .nil
    | .lists => f.inner ≠ .nil)
noncomputable def Fs.txt (f : Fs) : List Nat := [40] ++ List.intercalate [32] (f.ns.map digs) ++ (if f.k = .blank ∨ (f.k = .lists ∧ f.ns ≠ []) then [32] else []) ++ T true f.inner

theorem len_ne_nil {f : F} (h : f ≠ .nil) : f.len ≠ 0 := by cases f with
  | nil => exact absurd rfl h
  | cons => simp [F.len]
theorem len_nil {f : F} (h : f.len = 0) : f = .nil := by cases f with
  | nil => rfl
  | cons => simp [F.len] at h
theorem chN_of_len {y : F} (h : y.len ≠ 1) : y.chN = [] := by
  match y with
  | .nil => rfl
  | .cons n ks .nil => simp [F.len] at h
  | .cons n ks (.cons ..) => rfl
theorem chK_of_len {y : F} (h : y.len ≠ 1) : y.chK = y := by
  match y with
  | .nil => rfl
  | .cons n ks .nil => simp [F.len] at h
  | .cons n ks (.cons ..) => rfl
theorem chT_N {y : F} (h : y.len ≠ 1) : ∀ r : List Int, (chT r y).chN = r
  | [] => chN_of_len h
  | n :: r => by show n :: (chT r y).chN = _; rw [chT_N h r]
theorem chT_K {y : F} (h : y.len ≠ 1) : ∀ r : List Int, (chT r y).chK = y
  | [] => chK_of_len h
  | n :: r => by show (chT r y).chK = _; rw [chT_K h r]
theorem good_chT {y : F} (g : Good y) (h : y.len ≠ 1) : ∀ r : List Int, (∀ n ∈ r, 0 < n ∧ n < 10 ^ 20) → Good (chT r y) ∧ (∀ m js, chT r y = .cons m js .nil → 0 < m)
  | [], _ => ⟨g, fun m js e => by rw [show chT [] y = y from rfl] at e; rw [e] at h; simp [F.len] at h⟩
  | n :: r, hn => by
    have ih := good_chT g h r fun m hm => hn m (.tail _ hm)
    have h1 := hn n (.head _)
    exact ⟨⟨.inl h1, ih.2, ih.1, trivial⟩, fun m js e => by cases e; exact h1.1⟩
theorem good_chF {y : F} (g : Good y) (h : y.len ≠ 1) {ns : List Int} (hn : ∀ n ∈ ns, 0 < n ∧ n < 10 ^ 20) (h2 : ns ≠ [] ∨ 2 ≤ y.len) : Good (chF ns y) := by
  cases ns with
  | nil => exact ⟨.inr ⟨rfl, h2.resolve_left (by simp)⟩, fun m js e => by rw [e] at h; simp [F.len] at h, g, trivial⟩
  | cons n r =>
    have := good_chT g h r fun m hm => hn m (.tail _ hm)
    exact ⟨.inl (hn n (.head _)), this.2, this.1, trivial⟩
theorem txt_chF {y : F} (g : Good y) (h : y.len ≠ 1) {ns : List Int} (hn : ∀ n ∈ ns, 0 < n ∧ n < 10 ^ 20) (h2 : ns ≠ [] ∨ 2 ≤ y.len) :
    T true (chF ns y) = [40] ++ List.intercalate [32] (ns.map digs) ++ (if ns ≠ [] ∧ y.len ≠ 0 then [32] else []) ++ T true y ++ [41] := by
  have gg := good_chF g h hn h2
  cases ns with
  | nil =>
    have := txt_tree gg
    simp only [nums, chN_of_len h, chK_of_len h] at this
    show T true (F.cons 0 y F.nil) = _
    simpa using this
  | cons n r =>
    have h0 := (hn n (.head _)).1
    have := txt_tree gg
    simp only [nums, chT_N h, chT_K h, h0, if_true] at this
    show T true (F.cons n (chT r y) F.nil) = _
    simpa using this

-- what is read has the text that was read
noncomputable def stTxt (st : List Fs) : List Nat := st.reverse.flatMap Fs.txt
theorem stTxt_cons (f : Fs) (st : List Fs) : stTxt (f :: st) = stTxt st ++ f.txt := by simp [stTxt]
theorem addT_txt (top : F) (st : List Fs) (t : F) (ht : t ≠ .nil) (hst : ∀ f ∈ st, f.ok ∧ f.k ≠ .num) : T true (addT top st t).1 ++ stTxt (addT top st t).2 = T true top ++ stTxt st ++ T true t := by
  cases st with
  | nil => simp [addT, stTxt, T_app]
  | cons f st =>
    obtain ⟨⟨h1, h2, h3⟩, h4⟩ := hst f (.head _)
    simp only [addT, stTxt_cons, Fs.txt]
    obtain ⟨k, ns, inner⟩ := f
    cases k
    · obtain ⟨rfl, rfl⟩ := h3; simp [F.app, T, T_app]
    · exact absurd rfl h4
    · obtain ⟨h5, rfl⟩ := h3
      have h6 : ns ≠ [] := h5
      simp [T, F.app, h6]
    · simp [T_app]
theorem inter_snoc (ns : List (List Nat)) (y : List Nat) (h : ns ≠ []) : List.intercalate [32] (ns ++ [y]) = List.intercalate [32] ns ++ [32] ++ y := by
  induction ns with
  | nil => exact absurd rfl h
  | cons a l ih =>
    cases l with
    | nil => rw [List.cons_append, List.nil_append, inter_cons _ _ _ (by simp), inter_one, inter_one]
    | cons b l => rw [List.cons_append, inter_cons _ _ _ (by simp), inter_cons _ _ _ (by simp), ih (by simp)]; simp

theorem run_00 {top a} : run top [] [] a = .ok top := by rw [run]
theorem run_01 {top f st a} : run top (f :: st) [] a = .error a := by rw [run]
theorem run_10 {top c y a} : run top [] (c :: y) a = if c = 40 then run top [⟨.new, [], .nil⟩] y (a + 1) else .error a := by rw [run]
theorem run_40 {top f st y a} : run top (f :: st) (40 :: y) a = if f.k = .num then .error a else run top (⟨.new, [], .nil⟩ :: f :: st) y (a + 1) := by rw [run]; simp
theorem run_41 {top f st y a} : run top (f :: st) (41 :: y) a = if step41 f = true then run (addT top st (chF f.ns f.inner)).1 (addT top st (chF f.ns f.inner)).2 y (a + 1) else .error a := by rw [run]; simp
theorem run_32 {top f st y a} : run top (f :: st) (32 :: y) a = if f.k = .num then run top (⟨.blank, f.ns, f.inner⟩ :: st) y (a + 1) else .error a := by rw [run]; simp
theorem run_dg {top f st c y a} (h : 49 ≤ c ∧ c ≤ 57) : run top (f :: st) (c :: y) a = if f.k = .new ∨ f.k = .blank then (if 19 < (figs y).length then .error a else run top (⟨.num, f.ns ++ [((digitsVal (c :: figs y) : Nat) : Int)], f.inner⟩ :: st) (y.drop (figs y).length) (a + 1 + (figs y).length)) else .error a := by
  rw [run, if_neg (by omega), if_neg (by omega), if_neg (by omega)]
  by_cases q : f.k = .new ∨ f.k = .blank
  · rw [if_pos ⟨h.1, h.2, q⟩, if_pos q]
  · rw [if_neg (fun z => q z.2.2), if_neg q]
theorem run_no {top f st c y a} (h0 : c ≠ 40) (h1 : c ≠ 41) (h2 : c ≠ 32) (h : ¬(49 ≤ c ∧ c ≤ 57)) : run top (f :: st) (c :: y) a = .error a := by
  rw [run, if_neg h0, if_neg h1, if_neg h2, if_neg fun z => h ⟨z.1, z.2.1⟩]

theorem step41_ok {f : Fs} (h : f.ok) (h1 : step41 f = true) : f.inner.len ≠ 1 ∧ (f.ns ≠ [] ∨ 2 ≤ f.inner.len) ∧ (f.k = .num ∨ f.k = .lists) ∧ (f.k = .num → f.inner.len = 0) ∧ (f.k = .lists → f.inner.len ≠ 0) := by
  obtain ⟨k, ns, inner⟩ := f
  obtain ⟨_, _, h⟩ := h
  cases k <;> simp [step41] at h1 h ⊢
  · obtain ⟨h2, rfl⟩ := h; simp [F.len]; exact h2
  · omega
theorem chF_nn (ns : List Int) (y : F) : chF ns y ≠ .nil := by cases ns <;> simp [chF]
theorem run_sound : ∀ (n : Nat) (y : List Nat), y.length = n → ∀ (top : F) (st : List Fs) (at_ : Nat) (f : F), Good top → (∀ f ∈ st, f.ok) → (∀ f ∈ st.tail, f.k ≠ .num) → run top st y at_ = .ok f →
    Good f ∧ T true f = T true top ++ stTxt st ++ y := by
  intro n
  induction n using Nat.strongRecOn with
  | _ n ih =>
  intro y hy top st at_ f hg hst ht h
  have newok : Fs.ok ⟨.new, [], .nil⟩ := ⟨nofun, trivial, rfl, rfl⟩
  match y, st with
  | [], [] =>
    rw [run_00] at h; cases h
    exact ⟨hg, by simp [stTxt]⟩
  | [], _ :: _ => rw [run_01] at h; cases h
  | c :: y, [] =>
    rw [run_10] at h
    split at h
    · subst_vars
      obtain ⟨g, e⟩ := ih y.length (by simp) y rfl top _ _ f hg (fun f hf => by rw [List.mem_singleton.mp hf]; exact newok) (fun f hf => by simp at hf) h
      exact ⟨g, by rw [e]; simp [stTxt, Fs.txt, inter_nil, T]⟩
    · cases h
  | c :: y, s :: st =>
    have hy' : y.length < n := by rw [← hy]; simp
    have hs := hst s (.head _)
    have hst' : ∀ f ∈ st, f.ok := fun f hf => hst f (.tail _ hf)
    by_cases c0 : c = 40
    · subst c0
      rw [run_40] at h
      split at h
      · cases h
      · rename_i hk
        obtain ⟨g, e⟩ := ih _ hy' y rfl top _ _ f hg (fun f hf => by
          rcases List.mem_cons.mp hf with rfl | hf
          · exact newok
          · exact hst f hf) (fun f hf => by
          rcases List.mem_cons.mp hf with rfl | hf
          · exact hk
          · exact ht f hf) h
        exact ⟨g, by rw [e, stTxt_cons ⟨.new, [], .nil⟩]; simp [Fs.txt, inter_nil, T]⟩
    by_cases c1 : c = 41
    · subst c1
      rw [run_41] at h
      split at h
      · rename_i hk
        obtain ⟨q1, q2, q3, q4, q5⟩ := step41_ok hs hk
        have hst2 : ∀ f ∈ st, f.ok ∧ f.k ≠ .num := fun f hf => ⟨hst' f hf, ht f hf⟩
        have gt := good_chF hs.2.1 q1 hs.1 q2
        have tt := txt_chF hs.2.1 q1 hs.1 q2
        have key := addT_txt top st (chF s.ns s.inner) (chF_nn _ _) hst2
        have gg : Good (addT top st (chF s.ns s.inner)).1 ∧ (∀ f ∈ (addT top st (chF s.ns s.inner)).2, f.ok) ∧ (∀ f ∈ (addT top st (chF s.ns s.inner)).2.tail, f.k ≠ .num) := by
          cases st with
          | nil => exact ⟨Good.app.2 ⟨hg, gt⟩, nofun, nofun⟩
          | cons p st =>
            refine ⟨hg, fun f hf => ?_, fun f hf => ht f (.tail _ hf)⟩
            rcases List.mem_cons.mp hf with rfl | hf
            · have hp := hst' p (.head _)
              refine ⟨hp.1, Good.app.2 ⟨hp.2.1, gt⟩, ?_⟩
              show p.inner.app _ ≠ .nil
              intro e
              have e2 := congrArg F.len e
              rw [F.len_app] at e2
              have := len_ne_nil (chF_nn s.ns s.inner)
              simp [F.len] at e2; omega
            · exact hst' f (.tail _ hf)
        obtain ⟨g, e⟩ := ih _ hy' y rfl _ _ _ f gg.1 gg.2.1 gg.2.2 h
        refine ⟨g, ?_⟩
        rw [e, key, tt, stTxt_cons]
        simp only [Fs.txt]
        rcases q3 with q | q
        · simp [q, q4 q]
        · simp [q, q5 q]
      · cases h
    by_cases c2 : c = 32
    · subst c2
      rw [run_32] at h
      split at h
      · rename_i hk
        have hs2 := hs.2.2
        rw [hk] at hs2
        obtain ⟨g, e⟩ := ih _ hy' y rfl top (⟨.blank, s.ns, s.inner⟩ :: st) _ f hg (fun f hf => by
          rcases List.mem_cons.mp hf with rfl | hf
          · exact ⟨hs.1, hs.2.1, hs2⟩
          · exact hst' f hf) (fun f hf => ht f hf) h
        refine ⟨g, ?_⟩
        rw [e, stTxt_cons, stTxt_cons]
        simp [Fs.txt, hk, hs2.2, T]
      · cases h
    by_cases c3 : 49 ≤ c ∧ c ≤ 57
    · rw [run_dg c3] at h
      split at h
      · rename_i hk
        split at h
        · cases h
        · rename_i hl
          have hd : AllDigits (c :: figs y) := fun x hx => by
            rcases List.mem_cons.mp hx with rfl | hx
            · omega
            · exact figs_all y x hx
          have hv : 0 < ((digitsVal (c :: figs y) : Nat) : Int) ∧ ((digitsVal (c :: figs y) : Nat) : Int) < 10 ^ 20 :=
            ⟨by have := digitsVal_pos (cs := figs y) c3.1; omega, val_small hd (by simp; omega)⟩
          have hs2 := hs.2.2
          have hin : s.inner = .nil := by
            rcases hk with q | q <;> rw [q] at hs2 <;> exact hs2.2
          obtain ⟨g, e⟩ := ih (y.drop (figs y).length).length (by simp; omega) _ rfl top (⟨.num, s.ns ++ [((digitsVal (c :: figs y) : Nat) : Int)], s.inner⟩ :: st) _ f hg (fun f hf => by
            rcases List.mem_cons.mp hf with rfl | hf
            · refine ⟨fun n hn => ?_, hs.2.1, by simp, hin⟩
              rcases List.mem_append.mp hn with hn | hn
              · exact hs.1 n hn
              · rw [List.mem_singleton.mp hn]; exact hv
            · exact hst' f hf) (fun f hf => ht f hf) h
          refine ⟨g, ?_⟩
          rw [e, stTxt_cons, stTxt_cons]
          have e2 := figs_split y
          have e3 := val_digs hd c3.1
          rcases hk with q | q
          · rw [q] at hs2
            simp only [Fs.txt, q, hs2.1, hin, List.nil_append, List.map_cons, List.map_nil, e3, inter_one, inter_nil, T]
            conv => rhs; rw [← e2]
            simp
          · rw [q] at hs2
            simp only [Fs.txt, q, hin, List.map_append, List.map_cons, List.map_nil, e3, T]
            rw [inter_snoc _ _ (by simpa using hs2.1)]
            conv => rhs; rw [← e2]
            simp
      · cases h
    · rw [run_no c0 c1 c2 c3] at h; cases h

theorem parse_sound {x : List Nat} {f : F} (h : parse x = .ok f) : Good f ∧ T true f = x := by
  have := run_sound _ x rfl .nil [] 0 f trivial nofun nofun h
  simpa [T, stTxt] using this
end Mine

end

section
open PySem PySem.W PyProof.Rows PySem.Spec PySem.Calls PySem.NumText
set_option Elab.async false
set_option maxRecDepth 100000
set_option linter.unusedVariables false
namespace Mine
/-- what is no figure comes next -/
noncomputable def NoDig (z : List Nat) : Prop := ∀ c r, z = c :: r → isDig c = false
theorem nodig_cons {c : Nat} {r : List Nat} (h : isDig c = false) : NoDig (c :: r) := fun c' r' e => by cases e; exact h
theorem run_num {top : F} {k : K} {ms : List Int} {inn : F} {st : List Fs} {z : List Nat} {a : Nat} {n : Int} (hk : k = .new ∨ k = .blank) (h0 : 0 < n) (h1 : n < 10 ^ 20) (hz : NoDig z) :
    run top (⟨k, ms, inn⟩ :: st) (digs n ++ z) a = run top (⟨.num, ms ++ [n], inn⟩ :: st) z (a + (digs n).length) := by
  obtain ⟨c, l, e, hc⟩ := digs_head h0
  have ha := digs_all (Int.le_of_lt h0)
  have hl := digs_le (Int.le_of_lt h0) h1
  have hv : ((digitsVal (digs n) : Nat) : Int) = n := by
    obtain ⟨m, rfl⟩ := Int.eq_ofNat_of_zero_le (Int.le_of_lt h0)
    rw [digs_val]
  rw [e] at ha hl hv ⊢
  have hf : figs (l ++ z) = l := figs_app ha.tail hz
  simp only [List.length_cons] at hl
  rw [List.cons_append, run_dg hc, if_pos hk, hf, if_neg (by omega), hv]
  rw [List.drop_left, List.length_cons]
  congr 1; omega
theorem run_nums {top : F} {st : List Fs} {inn : F} : ∀ (ns : List Int), ns ≠ [] → (∀ n ∈ ns, 0 < n ∧ n < 10 ^ 20) → ∀ (k : K) (ms : List Int) (z : List Nat) (a : Nat), (k = .new ∨ k = .blank) → NoDig z →
    run top (⟨k, ms, inn⟩ :: st) (List.intercalate [32] (ns.map digs) ++ z) a = run top (⟨.num, ms ++ ns, inn⟩ :: st) z (a + (List.intercalate [32] (ns.map digs)).length)
  | [], h, _, _, _, _, _, _, _ => absurd rfl h
  | [n], _, hn, k, ms, z, a, hk, hz => by
    have := hn n (.head _)
    rw [List.map_cons, List.map_nil, inter_one]
    exact run_num hk this.1 this.2 hz
  | n :: m :: r, _, hn, k, ms, z, a, hk, hz => by
    have h1 := hn n (.head _)
    have ih := run_nums (top := top) (st := st) (inn := inn) (m :: r) (by simp) (fun x hx => hn x (.tail _ hx)) .blank (ms ++ [n]) z
    rw [List.map_cons, inter_cons _ _ _ (by simp), List.append_assoc, List.append_assoc, List.singleton_append, run_num hk h1.1 h1.2 (nodig_cons (by decide))]
    show run top _ (32 :: (List.intercalate [32] ((m :: r).map digs) ++ z)) _ = _
    rw [run_32, if_pos rfl, ih _ (.inr rfl) hz]
    simp only [List.append_assoc, List.singleton_append, List.length_append, List.length_cons, List.length_nil]
    congr 1; omega

noncomputable def addF (top : F) (st : List Fs) (f : F) : F × List Fs :=
  match st with
  | [] => (top.app f, [])
  | s :: st => if f.len = 0 then (top, s :: st) else (top, ⟨.lists, s.ns, s.inner.app f⟩ :: st)
theorem addF_cons (top : F) (st : List Fs) (n : Int) (ks r : F) : addF top st (.cons n ks r) = addF (addT top st (.cons n ks .nil)).1 (addT top st (.cons n ks .nil)).2 r := by
  cases st with
  | nil => simp [addF, addT, F.app_assoc, F.app]
  | cons s st =>
    have e : addF top (s :: st) (.cons n ks r) = (top, ⟨.lists, s.ns, s.inner.app (.cons n ks r)⟩ :: st) := by simp [addF, F.len]
    rw [e]
    show _ = addF top (⟨.lists, s.ns, s.inner.app (.cons n ks .nil)⟩ :: st) r
    by_cases h : r.len = 0
    · rw [len_nil h]; rfl
    · rw [show addF top (⟨.lists, s.ns, s.inner.app (.cons n ks .nil)⟩ :: st) r = (top, ⟨.lists, s.ns, (s.inner.app (.cons n ks .nil)).app r⟩ :: st) from if_neg h, F.app_assoc]; rfl
theorem nums_pos {n : Int} {ks : F} (h : Good (.cons n ks .nil)) : ∀ x ∈ nums n ks, 0 < x ∧ x < 10 ^ 20 := by
  have key : ∀ (ks : F), (∀ m js, ks = .cons m js .nil → 0 < m) → Good ks → ∀ x ∈ ks.chN, 0 < x ∧ x < 10 ^ 20 := by
    intro ks
    induction ks with
    | nil => intro _ _ x hx; cases hx
    | cons m js r ih _ =>
      intro h g x hx
      cases r with
      | nil =>
        have hm := h m js rfl
        rcases List.mem_cons.mp hx with rfl | hx
        · exact ⟨hm, by rcases g.1 with q | q <;> omega⟩
        · exact ih g.2.1 g.2.2.1 x hx
      | cons => cases hx
  intro x hx
  rcases List.mem_append.mp hx with hx | hx
  · split at hx
    · rw [List.mem_singleton.mp hx]
      exact ⟨by assumption, by rcases h.1 with q | q <;> omega⟩
    · cases hx
  · exact key ks h.2.1 h.2.2.1 x hx
theorem chT_back : ∀ (ks : F), chT ks.chN ks.chK = ks
  | .nil => rfl
  | .cons n ks .nil => by show F.cons n (chT ks.chN ks.chK) .nil = _; rw [chT_back ks]
  | .cons n ks (.cons ..) => rfl
theorem chF_back {n : Int} {ks : F} (h : Good (.cons n ks .nil)) : chF (nums n ks) ks.chK = .cons n ks .nil := by
  by_cases h0 : 0 < n
  · simp only [nums, h0, if_true, List.singleton_append]
    show F.cons n (chT ks.chN ks.chK) .nil = _
    rw [chT_back]
  · have hq : n = 0 ∧ 2 ≤ ks.len := by
      rcases h.1 with q | q
      · exact absurd q.1 h0
      · exact q
    simp only [nums, h0, if_false, List.nil_append]
    rw [chN_of_len (by omega), chK_of_len (by omega), hq.1]; rfl
theorem chK_len1 : ∀ (ks : F), ks.chK.len ≠ 1
  | .nil => by simp [F.chK, F.len]
  | .cons n ks .nil => chK_len1 ks
  | .cons n ks (.cons ..) => by simp [F.chK, F.len]
theorem chK_size {ks : F} : ks.chK.size ≤ ks.size := size_chK ks
theorem run_forest : ∀ (m : Nat) (f : F), f.size = m → Good f → ∀ (top : F) (st : List Fs) (y : List Nat) (a : Nat), (∀ s r, st = s :: r → s.k ≠ .num) →
    run top st (T true f ++ y) a = run (addF top st f).1 (addF top st f).2 y (a + (T true f).length) := by
  intro m
  induction m using Nat.strongRecOn with
  | _ m ih =>
  intro f hm hg top st y a hst
  cases f with
  | nil => cases st <;> simp [addF, T, F.app_nil, F.len]
  | cons n ks r =>
    have hg1 : Good (.cons n ks .nil) := ⟨hg.1, hg.2.1, hg.2.2.1, trivial⟩
    have hT : T true (.cons n ks r) = T true (.cons n ks .nil) ++ T true r := by
      have := T_app true (.cons n ks .nil) r
      exact this
    have hms : ks.size + r.size + 1 = m := hm
    rw [hT, List.append_assoc, addF_cons]
    have one : ∀ (z : List Nat), run top st (T true (.cons n ks .nil) ++ z) a = run (addT top st (.cons n ks .nil)).1 (addT top st (.cons n ks .nil)).2 z (a + (T true (.cons n ks .nil)).length) := by
      intro z
      rw [txt_tree hg1]
      have hn := nums_pos hg1
      have hb := chF_back hg1
      have hl := chK_len1 ks
      have hgk : Good ks.chK := good_chK hg.2.2.1
      have hz0 : nums n ks ≠ [] ∨ 2 ≤ ks.chK.len := by
        by_cases h0 : 0 < n
        · left; simp [nums, h0]
        · right
          rcases hg1.1 with q | q
          · exact absurd q.1 h0
          · rw [chK_of_len (by omega)]; exact q.2
      generalize nums n ks = ns at hn hb hz0 ⊢
      have hks : ks.chK.size < m := by have := size_chK ks; omega
      generalize ks.chK = kk at hl hgk hb hz0 hks ⊢
      rw [← hb]
      simp only [List.append_assoc, List.singleton_append, List.cons_append, List.nil_append]
      have opened : run top st (40 :: (List.intercalate [32] (ns.map digs) ++ ((if ns ≠ [] ∧ kk.len ≠ 0 then [32] else []) ++ (T true kk ++ (41 :: z))))) a =
          run top (⟨.new, [], .nil⟩ :: st) (List.intercalate [32] (ns.map digs) ++ ((if ns ≠ [] ∧ kk.len ≠ 0 then [32] else []) ++ (T true kk ++ (41 :: z)))) (a + 1) := by
        cases st with
        | nil => rw [run_10, if_pos rfl]
        | cons s r => rw [run_40, if_neg (hst s r rfl)]
      rw [opened]
      have close : ∀ (k : K) (b : Nat), (k = .num ∧ kk.len = 0 ∨ k = .lists ∧ 1 < kk.len) → run top (⟨k, ns, kk⟩ :: st) (41 :: z) b = run (addT top st (chF ns kk)).1 (addT top st (chF ns kk)).2 z (b + 1) := by
        intro k b hk
        rw [run_41, if_pos]
        rcases hk with ⟨rfl, q⟩ | ⟨rfl, q⟩ <;> simp [step41, q]
      have behind : ∀ (k : K) (b : Nat), (k = .new ∨ k = .blank) → kk.len ≠ 0 → run top (⟨k, ns, .nil⟩ :: st) (T true kk ++ (41 :: z)) b = run (addT top st (chF ns kk)).1 (addT top st (chF ns kk)).2 z (b + (T true kk).length + 1) := by
        intro k b hk hkl
        rw [ih kk.size hks kk rfl hgk top _ _ _ (fun s r e => by cases e; rcases hk with rfl | rfl <;> simp)]
        simp only [addF, if_neg hkl]
        exact close .lists _ (.inr ⟨rfl, by omega⟩)
      by_cases hns : ns = []
      · subst hns
        have hkl : kk.len ≠ 0 := by
          rcases hz0 with q | q
          · exact absurd rfl q
          · omega
        simp only [List.map_nil, inter_nil, List.nil_append, ne_eq, not_true_eq_false, false_and, if_false]
        rw [behind .new _ (.inl rfl) hkl]
        congr 1
        simp only [List.length_append, List.length_cons, List.length_nil]; omega
      · have hnd : NoDig ((if ns ≠ [] ∧ kk.len ≠ 0 then [32] else []) ++ (T true kk ++ (41 :: z))) := by
          by_cases hkl : kk.len = 0
          · rw [if_neg (fun q => q.2 hkl), len_nil hkl]; exact nodig_cons (by decide)
          · rw [if_pos ⟨hns, hkl⟩]; exact nodig_cons (by decide)
        rw [run_nums ns hns hn .new [] _ _ (.inl rfl) hnd]
        by_cases hkl : kk.len = 0
        · have := len_nil hkl
          subst this
          rw [if_neg (fun q => q.2 rfl)]
          simp only [List.nil_append, T]
          rw [close .num _ (.inl ⟨rfl, rfl⟩)]
          congr 1
          simp only [List.length_append, List.length_cons, List.length_nil]; omega
        · rw [if_pos ⟨hns, hkl⟩]
          show run top _ (32 :: (T true kk ++ 41 :: z)) _ = _
          rw [run_32, if_pos rfl, List.nil_append, behind .blank _ (.inr rfl) hkl]
          congr 1
          simp only [List.length_append, List.length_cons, List.length_nil]; omega
    rw [one, ih r.size (by omega) r rfl hg.2.2.2]
    · rw [List.length_append]; congr 1; omega
    · intro s q e
      cases st with
      | nil => simp [addT] at e
      | cons s' st' => simp [addT] at e; rw [← e.1]; simp
theorem parse_back {f : F} (h : Good f) : parse (T true f) = .ok f := by
  have := run_forest _ f rfl h .nil [] [] 0 nofun
  rw [List.append_nil] at this
  unfold parse
  rw [this]
  show run (F.nil.app f) [] [] _ = _
  rw [run_00]; rfl
end Mine

end

section
open PySem PySem.W PyProof.Rows PySem.Spec PySem.Calls PySem.NumText
set_option Elab.async false
set_option maxRecDepth 100000
set_option linter.unusedVariables false
set_option linter.unusedSimpArgs false
namespace Mine
theorem num_le {n : Int} (h : (0 < n ∧ n < 10 ^ 20) ∨ n = 0) : (num n).length ≤ 20 := by
  unfold num
  split
  · rcases h with h | h
    · exact digs_le (by omega) h.2
    · omega
  · simp
theorem T_len : ∀ (f : F) (b : Bool), Good f → (T b f).length ≤ 23 * f.size
  | .nil, b, _ => by simp [T]
  | .cons n ks r, b, h => by
    have h1 := T_len ks (decide (1 < ks.len)) h.2.2.1
    have h2 := T_len r b h.2.2.2
    have h3 := num_le (n := n) (by rcases h.1 with q | q; exact .inl q; exact .inr q.1)
    simp only [T, List.length_append, F.size]
    have e1 : (if b = true then [40] else ([] : List Nat)).length ≤ 1 := by split <;> simp
    have e2 : (if 0 < n ∧ ks.len ≠ 0 then [32] else ([] : List Nat)).length ≤ 1 := by split <;> simp
    have e3 : (if b = true then [41] else ([] : List Nat)).length ≤ 1 := by split <;> simp
    omega
theorem T_size : ∀ (f : F) (b : Bool), Good f → (b = true ∨ f.len = 0 ∨ ∃ n ks, f = .cons n ks .nil ∧ 0 < n) → f.size ≤ (T b f).length
  | .nil, b, _, _ => by simp [T, F.size]
  | .cons n ks r, b, h, hb => by
    have h1 := T_size ks (decide (1 < ks.len)) h.2.2.1 (by
      rcases Nat.lt_trichotomy ks.len 1 with q | q | q
      · exact .inr (.inl (by omega))
      · right; right
        match ks, q, h.2.1 with
        | .cons m js .nil, _, g => exact ⟨m, js, rfl, g m js rfl⟩
        | .cons m js (.cons ..), q, _ => simp [F.len] at q
      · exact .inl (by simpa using q))
    have h2 := T_size r b h.2.2.2 (by
      rcases hb with q | q | ⟨m, js, q, hm⟩
      · exact .inl q
      · simp [F.len] at q
      · cases q; exact .inr (.inl rfl))
    simp only [T, List.length_append, F.size]
    have e1 : 1 ≤ (if b = true then [40] else ([] : List Nat)).length + (num n).length := by
      rcases hb with q | q | ⟨m, js, q, hm⟩
      · rw [if_pos q]; simp
      · simp [F.len] at q
      · cases q
        obtain ⟨c, l, e, _⟩ := digs_head hm
        simp [num, hm, e]; omega
    omega
theorem T_ascii : ∀ (f : F) (b : Bool), ∀ c ∈ T b f, c ≤ 127
  | .nil, b, c, h => by cases h
  | .cons n ks r, b, c, h => by
    have h1 := T_ascii ks (decide (1 < ks.len)) c
    have h2 := T_ascii r b c
    simp only [T, List.mem_append] at h
    rcases h with ((((h | h) | h) | h) | h) | h
    · split at h
      · rw [List.mem_singleton.mp h]; decide
      · cases h
    · unfold num at h
      split at h
      · have := digs_all (by omega) c h; omega
      · cases h
    · split at h
      · rw [List.mem_singleton.mp h]; decide
      · cases h
    · exact h1 h
    · split at h
      · rw [List.mem_singleton.mp h]; decide
      · cases h
    · exact h2 h

-- the text behind a place
theorem drop_at {x : List Nat} {i c : Nat} (h : x[i]? = some c) : x.drop i = c :: x.drop (i + 1) := by
  obtain ⟨h1, h2⟩ := List.getElem?_eq_some_iff.mp h
  rw [← h2]; exact List.drop_eq_getElem_cons h1
theorem drop_end {x : List Nat} {i : Nat} (h : x.length ≤ i) : x.drop i = [] := List.drop_eq_nil_of_le h
/-- what stop says of it -/
noncomputable def stopOf (x : List Nat) : Int := match parse x with | .ok _ => -1 | .error i => i
/-- the erased stack of the automaton -/
noncomputable def K.txt : K → List Nat
  | .new => [110, 101, 119]
  | .num => [110, 117, 109, 98, 101, 114]
  | .blank => [98, 108, 97, 110, 107]
  | .lists => [108, 105, 115, 116, 115]
noncomputable def Fs.cnt (f : Fs) : Int := if f.k = .lists then (f.inner.len : Int) else 0
end Mine

end

section
open PySem PySem.W PyProof.Rows PySem.Spec PySem.Calls PySem.NumText
set_option Elab.async false
set_option maxRecDepth 100000
set_option linter.unusedVariables false
set_option linter.unusedSimpArgs false
namespace Mine
theorem figs_cons {c : Nat} {y : List Nat} (h : isDig c = true) : figs (c :: y) = c :: figs y := by
  show List.takeWhile isDig (c :: y) = _
  rw [List.takeWhile_cons, h]; rfl
theorem figs_none {c : Nat} {y : List Nat} (h : isDig c = false) : figs (c :: y) = [] := by
  show List.takeWhile isDig (c :: y) = _
  rw [List.takeWhile_cons, h]; rfl
/-- what number_end refuses -/
noncomputable def BadNum (x : List Nat) (i : Nat) : Prop := figs (x.drop i) = [] ∨ x[i]? = some 48 ∨ 20 < (figs (x.drop i)).length
theorem get_drop (x : List Nat) (i : Nat) : (x.drop i) = [] ∧ x[i]? = none ∨ ∃ c, x[i]? = some c ∧ x.drop i = c :: x.drop (i + 1) := by
  by_cases h : i < x.length
  · exact .inr ⟨x[i], List.getElem?_eq_getElem h, drop_at (List.getElem?_eq_getElem h)⟩
  · exact .inl ⟨drop_end (by omega), List.getElem?_eq_none (by omega)⟩
theorem run_bad {top : F} {f : Fs} {st : List Fs} {x : List Nat} {i : Nat} (hk : f.k = .new ∨ f.k = .blank) (h0 : x[i]? ≠ some 40) (h : BadNum x i) : run top (f :: st) (x.drop i) i = .error i := by
  rcases get_drop x i with ⟨e, _⟩ | ⟨c, e1, e2⟩
  · rw [e, run_01]
  · unfold BadNum at h
    rw [e1] at h h0
    rw [e2] at h ⊢
    have c0 : c ≠ 40 := fun q => h0 (by rw [q])
    by_cases c1 : c = 41
    · subst c1
      rw [run_41, if_neg]
      rcases hk with q | q <;> simp [step41, q]
    by_cases c2 : c = 32
    · subst c2
      rw [run_32, if_neg]
      rcases hk with q | q <;> simp [q]
    by_cases c3 : 49 ≤ c ∧ c ≤ 57
    · have hd : isDig c = true := decide_eq_true (by omega)
      rw [figs_cons hd] at h
      rw [run_dg c3, if_pos hk, if_pos]
      rcases h with q | q | q
      · cases q
      · simp at q; omega
      · simp only [List.length_cons] at q; omega
    · exact run_no c0 c1 c2 c3
theorem run_good {top : F} {f : Fs} {st : List Fs} {x : List Nat} {i : Nat} (hk : f.k = .new ∨ f.k = .blank) (h : ¬BadNum x i) :
    run top (f :: st) (x.drop i) i = run top (⟨.num, f.ns ++ [((digitsVal (figs (x.drop i)) : Nat) : Int)], f.inner⟩ :: st) (x.drop (i + (figs (x.drop i)).length)) (i + (figs (x.drop i)).length) := by
  unfold BadNum at h
  have h1 : figs (x.drop i) ≠ [] := fun q => h (.inl q)
  have h2 : x[i]? ≠ some 48 := fun q => h (.inr (.inl q))
  have h3 : (figs (x.drop i)).length ≤ 20 := Nat.not_lt.mp fun q => h (.inr (.inr q))
  clear h
  rcases get_drop x i with ⟨e, _⟩ | ⟨c, e1, e2⟩
  · rw [e] at h1; exact absurd rfl h1
  · rw [e2] at h1 h3 ⊢
    rw [e1] at h2
    have hd : isDig c = true := by
      cases q : isDig c with
      | true => rfl
      | false => rw [figs_none q] at h1; exact absurd rfl h1
    have hc : 48 ≤ c ∧ c ≤ 57 := of_decide_eq_true hd
    have c0 : c ≠ 48 := fun q => h2 (by rw [q])
    rw [figs_cons hd] at h3 ⊢
    simp only [List.length_cons] at h3 ⊢
    rw [run_dg (by omega), if_pos hk, if_neg (by omega), List.drop_drop]
    congr 1
    · congr 1; omega
    · omega
theorem cut_figs (x : List Nat) (i : Nat) : cutAt x (some i) (some (i + (figs (x.drop i)).length)) = figs (x.drop i) := by
  rw [cut_both, List.drop_take, show i + (figs (x.drop i)).length - i = (figs (x.drop i)).length by omega]
  have := figs_split (x.drop i)
  generalize figs (x.drop i) = l at this ⊢
  rw [← this]; simp
theorem cut_one (x : List Nat) (i : Nat) : (cutAt x (some i) (some (i + 1)) = [40]) ↔ x[i]? = some 40 := by
  rw [cut_both, List.drop_take, show i + 1 - i = 1 by omega]
  rcases get_drop x i with ⟨e1, e2⟩ | ⟨c, e1, e2⟩
  · rw [e1, e2]; simp
  · rw [e1, e2]; simp
theorem figs_end (x : List Nat) (i : Nat) : i + (figs (x.drop i)).length ≤ x.length ∨ figs (x.drop i) = [] := by
  have := congrArg List.length (figs_split (x.drop i))
  rw [List.length_append, List.length_drop, List.length_drop] at this
  by_cases h : i ≤ x.length
  · left; omega
  · right; rw [drop_end (by omega)]; rfl
/-- how far the figures go -/
theorem figs_at (x : List Nat) (i j : Nat) (h1 : i ≤ j) (h2 : ∀ m, i ≤ m → m < j → ∃ c, x[m]? = some c ∧ isDig c = true) (h3 : ∀ c, x[j]? = some c → isDig c = false) : (figs (x.drop i)).length = j - i := by
  obtain ⟨n, rfl⟩ : ∃ n, j = i + n := ⟨j - i, by omega⟩
  clear h1
  induction n generalizing i with
  | zero =>
    rcases get_drop x i with ⟨e1, e2⟩ | ⟨c, e1, e2⟩
    · rw [e1]; simp [figs]
    · rw [e2, figs_none (h3 c e1)]; simp
  | succ n ih =>
    obtain ⟨c, e1, e2⟩ := h2 i (Nat.le_refl _) (by omega)
    rw [drop_at e1, figs_cons e2, List.length_cons, ih (i + 1) (fun m a b => h2 m (by omega) (by omega)) (by rw [show i + 1 + n = i + (n + 1) by omega]; exact h3)]
    omega
end Mine

end

section
open PySem PySem.W PyProof.Rows PySem.Spec PySem.Calls PySem.NumText
set_option Elab.async false
set_option maxRecDepth 100000
set_option linter.unusedVariables false
set_option linter.unusedSimpArgs false
namespace Mine
/-- a node of a chain: object, dict, list of kids, number -/
structure Lk where
  a : Addr
  d : Addr
  k : Addr
  n : Int
noncomputable def chG : List Lk → G → G
  | [], y => y
  | l :: r, y => .cons l.a l.d l.k l.n (chG r y) .nil
noncomputable def lks (cs : List Lk) : List Addr := cs.flatMap fun l => [l.a, l.d, l.k]
theorem chG_er (cs : List Lk) (y : G) : (chG cs y).er = chT (cs.map Lk.n) y.er := by
  induction cs with
  | nil => rfl
  | cons l r ih => simp [chG, G.er, chT, ih]
theorem chG_all (cs : List Lk) (y : G) : (chG cs y).all = lks cs ++ y.all := by
  induction cs with
  | nil => rfl
  | cons l r ih => simp [chG, G.all, lks, ih]
theorem lks_snoc (cs : List Lk) (l : Lk) : lks (cs ++ [l]) = lks cs ++ [l.a, l.d, l.k] := by simp [lks]
/-- a frame of the reader: object, dict, list within; the chain; the trees within -/
structure Rf where
  a : Addr
  d : Addr
  il : Addr
  kd : K
  cs : List Lk
  inner : G
noncomputable def firV : List Lk → V
  | [] => .none
  | l :: _ => .ref l.a
noncomputable def lasV (cs : List Lk) : V := match cs.getLast? with
  | none => .none
  | some l => .ref l.a
theorem lasV_snoc (cs : List Lk) (l : Lk) : lasV (cs ++ [l]) = .ref l.a := by simp [lasV]
theorem firV_snoc (cs : List Lk) (l l' : Lk) : firV (cs ++ [l] ++ [l']) = firV (cs ++ [l]) := by cases cs <;> rfl
noncomputable def RF (σ : AH) (f : Rf) : Prop := σ f.a = some (.inst 161 f.d) ∧ σ f.d = some (.ns [("first", firV f.cs), ("last", lasV f.cs), ("inner", .ref f.il)]) ∧ σ f.il = some (.list f.inner.vals) ∧ RN σ (chG f.cs .nil) ∧ RN σ f.inner
noncomputable def Rf.fp (f : Rf) : List Addr := f.a :: f.d :: f.il :: (lks f.cs ++ f.inner.all)
noncomputable def Rf.fs (f : Rf) : Fs := ⟨f.kd, f.cs.map Lk.n, f.inner.er⟩
theorem RF.kept {σ σ' : AH} {S : List Addr} {f : Rf} (k : Kept σ σ' S) (h : RF σ f) (hd : ∀ x ∈ f.fp, x ∉ S) : RF σ' f := by
  obtain ⟨h1, h2, h3, h4, h5⟩ := h
  refine ⟨k _ _ h1 (hd _ ?_), k _ _ h2 (hd _ ?_), k _ _ h3 (hd _ ?_), RN.keptA k h4 fun x hx => hd _ ?_, RN.keptA k h5 fun x hx => hd _ ?_⟩
  · simp [Rf.fp]
  · simp [Rf.fp]
  · simp [Rf.fp]
  · rw [chG_all] at hx; simp [G.all] at hx; simp [Rf.fp, hx]
  · simp [Rf.fp, hx]
theorem RF.stands {σ : AH} {f : Rf} (h : RF σ f) : ∀ x ∈ f.fp, σ x ≠ none := by
  obtain ⟨h1, h2, h3, h4, h5⟩ := h
  intro x hx
  simp only [Rf.fp, List.mem_cons, List.mem_append] at hx
  rcases hx with rfl | rfl | rfl | hx | hx
  · rw [h1]; nofun
  · rw [h2]; nofun
  · rw [h3]; nofun
  · exact h4.stands x (by rw [chG_all]; exact List.mem_append_left _ hx)
  · exact h5.stands x hx
/-- the end of a chain stands -/
theorem chG_last {σ : AH} : ∀ {cs : List Lk} {l : Lk} {y : G}, RN σ (chG (cs ++ [l]) y) → σ l.a = some (.inst 102 l.d) ∧ σ l.d = some (.ns [("number", .int l.n), ("kids", .ref l.k)]) ∧ σ l.k = some (.list y.vals)
  | [], l, y, h => ⟨h.1.1, h.1.2, h.2.1⟩
  | _ :: cs, l, y, h => chG_last (cs := cs) h.2.2.1
theorem chG_vals_snoc (cs : List Lk) (l : Lk) (y z : G) : (chG (cs ++ [l]) y).vals = (chG (cs ++ [l]) z).vals := by cases cs <;> rfl
theorem chG_app (xs ys : List Lk) (y : G) : chG (xs ++ ys) y = chG xs (chG ys y) := by
  induction xs with
  | nil => rfl
  | cons p xs ih => simp [chG, ih]
/-- other trees under the end of a chain -/
theorem chG_grow {σ σ' : AH} {S : List Addr} : ∀ {cs : List Lk} {l : Lk} {y z : G}, RN σ (chG (cs ++ [l]) y) → Kept σ σ' S → (∀ x ∈ lks (cs ++ [l]), x ≠ l.k → x ∉ S) → (lks (cs ++ [l])).Nodup → σ' l.k = some (.list z.vals) → RN σ' z → RN σ' (chG (cs ++ [l]) z)
  | [], l, y, z, h, k, hS, nd, h1, h2 => by
    simp [lks] at nd hS
    exact ⟨⟨k _ _ h.1.1 (hS.1 nd.1.2), k _ _ h.1.2 (hS.2 nd.2)⟩, h1, h2, trivial⟩
  | p :: cs, l, y, z, h, k, hS, nd, h1, h2 => by
    have e : lks (p :: cs ++ [l]) = [p.a, p.d, p.k] ++ lks (cs ++ [l]) := by simp [lks]
    rw [e] at nd hS
    obtain ⟨n1, n2, n3⟩ := List.nodup_append.mp nd
    have hl : l.k ∈ lks (cs ++ [l]) := by rw [lks_snoc]; simp
    have ne : ∀ x, x ∈ [p.a, p.d, p.k] → x ∉ S := fun x hx => hS x (List.mem_append_left _ hx) (n3 x hx _ hl)
    refine ⟨⟨k _ _ h.1.1 (ne _ (by simp)), k _ _ h.1.2 (ne _ (by simp))⟩, ?_, chG_grow (cs := cs) h.2.2.1 k (fun x hx => hS x (List.mem_append_right _ hx)) n2 h1 h2, trivial⟩
    have this : σ' p.k = some (AO.list (chG (cs ++ [l]) y).vals) := k _ _ h.2.1 (ne _ (by simp))
    rw [chG_vals_snoc cs l y z] at this
    exact this
end Mine
namespace Mine
noncomputable def kok (f : Rf) : Prop := match f.kd with
  | .new => f.cs = [] ∧ f.inner = .nil
  | .num => f.cs ≠ [] ∧ f.inner = .nil
  | .blank => f.cs ≠ [] ∧ f.inner = .nil
  | .lists => f.inner ≠ .nil
noncomputable def hok (x : List Nat) (i : Nat) (f : Rf) : Prop := (f.kd = .num → x[i]? ≠ some 40) ∧ (f.kd = .blank → x[i]? = some 40)
theorem run_lists {top : F} {f : Fs} {st : List Fs} {x : List Nat} {i c : Nat} (hk : f.k = .lists) (hx : x[i]? = some c) (c0 : c ≠ 40) (c1 : c ≠ 41) : run top (f :: st) (x.drop i) i = .error i := by
  rw [drop_at hx]
  by_cases c2 : c = 32
  · subst c2; rw [run_32, if_neg (by simp [hk])]
  by_cases c3 : 49 ≤ c ∧ c ≤ 57
  · rw [run_dg c3, if_neg (by simp [hk])]
  · exact run_no c0 c1 c2 c3
theorem run_numk {top : F} {f : Fs} {st : List Fs} {x : List Nat} {i c : Nat} (hk : f.k = .num) (hx : x[i]? = some c) (c1 : c ≠ 41) (c2 : c ≠ 32) : run top (f :: st) (x.drop i) i = .error i := by
  rw [drop_at hx]
  by_cases c0 : c = 40
  · subst c0; rw [run_40, if_pos hk]
  by_cases c3 : 49 ≤ c ∧ c ≤ 57
  · rw [run_dg c3, if_neg (by simp [hk])]
  · exact run_no c0 c1 c2 c3
theorem run_blankk {top : F} {f : Fs} {st : List Fs} {x : List Nat} {i : Nat} (hk : f.k = .num) (hx : x[i]? = some 32) : run top (f :: st) (x.drop i) i = run top (⟨.blank, f.ns, f.inner⟩ :: st) (x.drop (i + 1)) (i + 1) := by
  rw [drop_at hx, run_32, if_pos hk]
theorem run_openn {top : F} {f : Fs} {st : List Fs} {x : List Nat} {i : Nat} (hk : f.k = .num) (hx : x[i]? = some 40) : run top (f :: st) (x.drop i) i = .error i := by
  rw [drop_at hx, run_40, if_pos hk]
end Mine

end

section
open PySem PySem.W PyProof.Rows PySem.Spec PySem.Calls
set_option Elab.async false
set_option maxRecDepth 100000
set_option linter.unusedVariables false
namespace Mine
theorem sub_sliceT {prog : Program} {w : World} {A : Around} {E : Value → Shared → Prop} {s : Shared} {env : Env} {value : Expr} {lower upper : Option Expr} {p pos : Pos} {Q : Value → Shared → Prop}
    (h : wpAny (model prog w) A (eval value env) (fun o s₁ => wpAny (model prog w) A (eval (.Slice lower upper none p) env) (fun i s₂ => ∃ T id, typeLookup (.type T) "__getitem__" = pure (some (.builtin id)) ∧ s₂.TypeIs o T ∧ wpAny (model prog w) A (getItem o i) Q E s₂) E s₁) E s) :
    wpAny (model prog w) A (eval (.Subscript value (.Slice lower upper none p) pos) env) Q E s := by
  rw [eval_Subscript]
  refine wpAny_bind (wpAny_mono h (fun o s₁ h₁ => wpAny_bind (wpAny_holding (wpAny_mono h₁ (fun i s₂ h₂ => wpAny_bind (wpAny_standAt ?_)) fun _ _ x => x))) fun _ _ x => x)
  obtain ⟨T, id, hl, hT, hg⟩ := h₂
  have fin : wpAny (model prog w) A (operate [i, o] (getItem o i)) (fun r s₃ => wpAny (model prog w) A (letTemporaryGo value o r >>= fun _ => pure r) Q E s₃) E s₂ :=
    wpAny_operating (wpAny_mono hg (fun r s₃ h₃ => wpAny_bind (wpAny_letTemporaryGo (wpAny_pure h₃))) fun _ _ x => x)
  refine wpAny_bind ?_
  rw [getitemInPython_of_ne hT.not_modules]
  refine wpAny_bind (wpAny_specialOf hT hl ?_)
  first
    | exact wpAny_pure (wpAny_bind fin)
    | exact wpAny_bind (wpAny_pure (wpAny_bind fin))
    | exact wpAny_bind fin
/-- a list or bytes, cut -/
noncomputable def CutS (u l r : V) (σ : AH) (Q : V → AH → Prop) : Prop := match u with
  | .ref a => ∃ xs l' r', σ a = some (.list xs) ∧ partOf l = some l' ∧ partOf r = some r' ∧ ∀ d, Fresh σ d → Q (.ref d) (upd σ d (.list (cutAt xs l' r')))
  | .bytes x => ∃ l' r', x.length ≤ sizeLine ∧ partOf l = some l' ∧ partOf r = some r' ∧ Q (.bytes (cutAt x l' r')) σ
  | _ => False
@[reducible] noncomputable def KCu3 (u l : V) (Q : V → AH → Prop) : V → AH → Prop := fun r σ₃ => CutS u l r σ₃ Q
@[reducible] noncomputable def KCu2 (c : Fx) (hi : Option Expr) (u : V) (m : List (Option V)) (Q : V → AH → Prop) (E : Value → Shared → Prop) : V → AH → Prop := fun l σ₂ => AP c hi m σ₂ (KCu3 u l Q) E
@[reducible] noncomputable def KCu1 (c : Fx) (lo hi : Option Expr) (m : List (Option V)) (Q : V → AH → Prop) (E : Value → Shared → Prop) : V → AH → Prop := fun u σ₁ => AP c lo m σ₁ (KCu2 c hi u m Q E) E
theorem ae_cut {c : Fx} {m : List (Option V)} {σ : AH} {E : Value → Shared → Prop} {e lo hi p q Q} (h : AE c e m σ (KCu1 c lo hi m Q E) E) : AE c (.Subscript e (.Slice lo hi none p) q) m σ Q E := by
  intro ok s hs
  refine sub_sliceT (wpAny_mono (h ok s hs) (fun o s₁ ⟨_, h₁, k₁⟩ => ?_) fun _ _ e => e)
  refine wpAny_Slice (wpAny_mono (k₁ ok s₁ h₁) (fun vl s₂ ⟨_, h₂, k₂⟩ => wpAny_mono (k₂ ok s₂ h₂) (fun vu s₃ ⟨σ₃, h₃, k₃⟩ => ?_) fun _ _ e => e) fun _ _ e => e)
  refine wpAny_pure ?_
  have key : ∀ u, er o = u → CutS u (er vl) (er vu) σ₃ Q → ∃ T id, typeLookup (.type T) "__getitem__" = pure (some (.builtin id)) ∧ (({ s₃ with heap := s₃.heap.push { cls := .type "slice", data := .fields #[vl, vu, .none] } } : Shared).TypeIs o T) ∧ wpAny c.M c.A (getItem o (.ref s₃.heap.objs.size)) (fun v s' => ∃ σ', St c m σ' s' ∧ Q (er v) σ') E { s₃ with heap := s₃.heap.push { cls := .type "slice", data := .fields #[vl, vu, .none] } } := by
    intro u hu k
    cases u with
    | ref a =>
      obtain ⟨xs, l', r', e2, e3, e4, k⟩ := k
      cases er_ref hu
      obtain ⟨vs, n, hl, hw, hn⟩ := h₃.list e2
      have h₃' := h₃.pushHid (x := { cls := .type "slice", data := .fields #[vl, vu, .none] }) (tk := s₃.toks)
      have hl' : (s₃.heap.push { cls := .type "slice", data := .fields #[vl, vu, .none] }).get? a = some { cls := .type "list", data := .seq vs.toArray n } := Heap.get?_push_of_some _ hl
      refine ⟨"list", _, list_getitem_lookup, ⟨_, hl', rfl⟩, wpAny_getItem_list_slice (IsL.isList hl') (Heap.IsSliceOf.new _ _ _ _) (partIs rfl e3) (partIs rfl e4) .none (by simp) ⟨_, ?_, k _ h₃'.new⟩ (by simpa using hn)⟩
      rw [pick_cut]
      exact h₃'.push (rl_list (by rw [cut_map, hw]) (Nat.le_trans (cut_length _ _ _) hn))
    | bytes x =>
      obtain ⟨l', r', e2, e3, e4, k⟩ := k
      obtain ⟨b, t, rfl, rfl⟩ := er_bytes hu
      refine ⟨"bytes", _, FB.slot_bytes_getitem.lookup, typeIs_bytes _ _ _, getItem_meets (typeIs_bytes _ _ _) (by decide) FB.slot_bytes_getitem FB.entry_bytes_getitem (FB.args_bytes_getitem_2 _ _) (KBc.meets_slice2 b t _ (partIs rfl e3) (partIs rfl e4))
        ⟨Heap.IsSliceOf.new _ _ _ _, Nat.le_trans (KBc.size_picked_le _ _ _) (by simpa using e2), fun t' k' => ⟨_, h₃.pushHid, ?_⟩⟩⟩
      have : er (.bytes (KBy.picked b (l'.map fun (n : Nat) => (n : Int)) (r'.map fun (n : Nat) => (n : Int))) t') = .bytes (cutAt (b.toList.map UInt8.toNat) l' r') := by
        rw [KBc.picked_eq]
        simp only [er]
        rw [← cut_map, ← clip_cut]
        simp
      rw [this]; exact k
    | _ => exact k.elim
  exact key _ rfl k₃
theorem cuts_l {a : Addr} {xs : List V} {l r : V} {l' r' : Option Nat} {σ : AH} {Q : V → AH → Prop} (h : σ a = some (.list xs)) (hl : partOf l = some l') (hr : partOf r = some r') (k : ∀ d, Fresh σ d → Q (.ref d) (upd σ d (.list (cutAt xs l' r')))) : CutS (.ref a) l r σ Q := ⟨xs, l', r', h, hl, hr, k⟩
theorem cuts_b {x : List Nat} {l r : V} {l' r' : Option Nat} {σ : AH} {Q : V → AH → Prop} (h : x.length ≤ sizeLine) (hl : partOf l = some l') (hr : partOf r = some r') (k : Q (.bytes (cutAt x l' r')) σ) : CutS (.bytes x) l r σ Q := ⟨l', r', h, hl, hr, k⟩
theorem part_succ (n : Nat) : partOf (.int ((n : Int) + 1)) = some (some (n + 1)) := part_nat (n + 1)
end Mine

end

section
open PySem PySem.W PyProof.Rows PySem.Spec PySem.Calls PySem.NumText
set_option Elab.async false
set_option maxRecDepth 100000
set_option linter.unusedVariables false
set_option linter.unusedSimpArgs false
namespace Mine
/-- the frames as the machine sees them: the trees at the bottom, the stack -/
noncomputable def spB : List Rf → F × List Fs
  | [] => (.nil, [])
  | [b] => (b.inner.er, [])
  | f :: g :: r => ((spB (g :: r)).1, f.fs :: (spB (g :: r)).2)
noncomputable def okL : List Rf → Prop
  | [] => True
  | [_] => True
  | f :: g :: r => kok f ∧ okL (g :: r)
theorem okL_tail {f : Rf} {r : List Rf} (h : okL (f :: r)) : okL r := by
  cases r with
  | nil => trivial
  | cons g r => exact h.2
/-- what stands while the reader reads -/
structure RI (x : List Nat) (σ σ₁ : AH) (fl : Addr) (gs : List Rf) (i : Nat) : Prop where
  kept : Kept σ σ₁ []
  ffl : Fresh σ fl
  rf : ∀ f ∈ gs, RF σ₁ f
  fr : ∀ y ∈ gs.flatMap Rf.fp, Fresh σ y
  nd : (fl :: gs.flatMap Rf.fp).Nodup
  lst : σ₁ fl = some (.list (gs.map (fun f => V.ref f.a)).reverse)
  ok : okL gs
  hd : ∀ f g r, gs = f :: g :: r → hok x i f
  rn : run (spB gs).1 (spB gs).2 (x.drop i) i = parse x
  len : (gs.flatMap Rf.fp).length ≤ 3 * i + 3
  ne : gs ≠ []
theorem RI.go {x : List Nat} {σ σ₁ σ₂ : AH} {fl : Addr} {old new r : List Rf} {i j : Nat} (h : RI x σ σ₁ fl (old ++ r) i) (k : Kept σ₁ σ₂ (fl :: old.flatMap Rf.fp)) (hrf : ∀ f ∈ new, RF σ₂ f)
    (hsub : ∀ y ∈ new.flatMap Rf.fp, y ∈ old.flatMap Rf.fp ∨ Fresh σ₁ y) (hnd : (new.flatMap Rf.fp).Nodup) (hl : σ₂ fl = some (.list ((new ++ r).map (fun f => V.ref f.a)).reverse))
    (hlen : (new.flatMap Rf.fp).length + 3 * i ≤ (old.flatMap Rf.fp).length + 3 * j) (ok : okL (new ++ r)) (hd : ∀ f g q, new ++ r = f :: g :: q → hok x j f)
    (rn : run (spB (new ++ r)).1 (spB (new ++ r)).2 (x.drop j) j = parse x) (ne : new ++ r ≠ []) : RI x σ σ₂ fl (new ++ r) j := by
  have e1 : (old ++ r).flatMap Rf.fp = old.flatMap Rf.fp ++ r.flatMap Rf.fp := List.flatMap_append ..
  have e2 : (new ++ r).flatMap Rf.fp = new.flatMap Rf.fp ++ r.flatMap Rf.fp := List.flatMap_append ..
  have nd := h.nd
  have fr := h.fr
  have len := h.len
  rw [e1] at nd fr len
  rw [List.nodup_cons] at nd
  obtain ⟨n1, n2⟩ := nd
  obtain ⟨n3, n4, n5⟩ := List.nodup_append.mp n2
  have hr : ∀ f ∈ r, RF σ₁ f := fun f hf => h.rf f (List.mem_append_right _ hf)
  have rst : ∀ y ∈ r.flatMap Rf.fp, σ₁ y ≠ none := fun y hy => by
    obtain ⟨f, hf, hy⟩ := List.mem_flatMap.mp hy
    exact (hr f hf).stands y hy
  have kk : Kept σ σ₂ [] := fun a o e _ => k a o (h.kept.get e) (by
    simp only [List.mem_cons, not_or]
    exact ⟨h.ffl a o e, fun q => fr a (List.mem_append_left _ q) a o e rfl⟩)
  refine ⟨kk, h.ffl, fun f hf => ?_, ?_, ?_, hl, ok, hd, rn, ?_, ne⟩
  · rcases List.mem_append.mp hf with hf | hf
    · exact hrf f hf
    · refine RF.kept k (hr f hf) fun y hy => ?_
      have hy' : y ∈ r.flatMap Rf.fp := List.mem_flatMap.mpr ⟨f, hf, hy⟩
      simp only [List.mem_cons, not_or]
      exact ⟨fun q => n1 (List.mem_append_right _ (q ▸ hy')), fun q => n5 y q y hy' rfl⟩
  · intro y hy
    rw [e2] at hy
    rcases List.mem_append.mp hy with hy | hy
    · rcases hsub y hy with q | q
      · exact fr y (List.mem_append_left _ q)
      · exact Fresh.back h.kept q
    · exact fr y (List.mem_append_right _ hy)
  · rw [e2, List.nodup_cons, List.nodup_append]
    have ffl1 : σ₁ fl ≠ none := by rw [h.lst]; nofun
    refine ⟨fun q => ?_, hnd, n4, fun y hy z hz q => ?_⟩
    · rcases List.mem_append.mp q with q | q
      · rcases hsub fl q with q | q
        · exact n1 (List.mem_append_left _ q)
        · exact ffl1 q.none
      · exact n1 (List.mem_append_right _ q)
    · subst q
      rcases hsub y hy with q | q
      · exact n5 y q y hz rfl
      · exact rst y hz q.none
  · rw [e2, List.length_append]
    rw [List.length_append] at len
    omega
theorem spB_add (p p' : Rf) (r : List Rf) (t : F) (h1 : p'.inner.er = p.inner.er.app t) (h2 : p'.kd = .lists) (h3 : p'.cs = p.cs) : spB (p' :: r) = addT (spB (p :: r)).1 (spB (p :: r)).2 t := by
  cases r with
  | nil => simp [spB, addT, h1]
  | cons g r => simp [spB, addT, Rf.fs, h1, h2, h3]
theorem G.all_len (g : G) : g.vals.length ≤ g.all.length := by
  induction g with
  | nil => simp [G.vals]
  | cons a d k n ks r _ ih => simp only [G.vals, G.all, List.length_cons, List.length_append]; omega
/-- sizes -/
theorem RI.sizes {x σ σ₁ fl gs i} (h : RI x σ σ₁ fl gs i) : gs.length ≤ 3 * i + 3 ∧ ∀ f ∈ gs, f.inner.vals.length ≤ 3 * i + 3 := by
  have len := h.len
  refine ⟨?_, fun f hf => ?_⟩
  · refine Nat.le_trans ?_ len
    clear h len
    induction gs with
    | nil => simp
    | cons g gs ih => simp only [List.flatMap_cons, List.length_append, List.length_cons, Rf.fp]; omega
  · have h1 : f.fp.length ≤ (gs.flatMap Rf.fp).length := by
      clear h len
      induction gs with
      | nil => cases hf
      | cons g gs ih =>
        rw [List.flatMap_cons, List.length_append]
        rcases List.mem_cons.mp hf with rfl | hf
        · omega
        · have := ih hf; omega
    have h2 := G.all_len f.inner
    have h3 : f.inner.all.length ≤ f.fp.length := by simp only [Rf.fp, List.length_cons, List.length_append]; omega
    omega
end Mine

end

section
open PySem PySem.W PyProof.Rows PySem.Spec PySem.Calls PySem.NumText
set_option Elab.async false
set_option maxRecDepth 100000
set_option linter.unusedVariables false
set_option linter.unusedSimpArgs false
namespace Mine
theorem upd_some {σ : AH} {a b : Addr} {o o' : AO} (h : σ b = some o') (hne : b ≠ a) : upd σ a o b = some o' := by rw [upd_ne _ _ hne]; exact h
theorem RF.new {σ : AH} {nx nd nl : Addr} (h1 : σ nx = some (.inst 161 nd)) (h2 : σ nd = some (.ns [("first", .none), ("last", .none), ("inner", .ref nl)])) (h3 : σ nl = some (.list [])) : RF σ ⟨nx, nd, nl, .new, [], .nil⟩ := ⟨h1, h2, h3, trivial, trivial⟩
theorem RI.init {x : List Nat} {σ σ₁ : AH} {fl nx nd nl : Addr} (k : Kept σ σ₁ []) (hfl : Fresh σ fl) (hx : Fresh σ nx) (hd : Fresh σ nd) (hl : Fresh σ nl) (n1 : nx ≠ nd) (n2 : nx ≠ nl) (n3 : nd ≠ nl) (f1 : nx ≠ fl) (f2 : nd ≠ fl) (f3 : nl ≠ fl)
    (h : σ₁ fl = some (.list [.ref nx])) (hr : RF σ₁ ⟨nx, nd, nl, .new, [], .nil⟩) : RI x σ σ₁ fl [⟨nx, nd, nl, .new, [], .nil⟩] 0 := by
  refine ⟨k, hfl, fun f hf => by rw [List.mem_singleton.mp hf]; exact hr, fun y hy => ?_, ?_, h, trivial, fun f g r e => by simp at e, rfl, by simp [Rf.fp, lks, G.all], by simp⟩
  · simp [Rf.fp, lks, G.all] at hy
    rcases hy with rfl | rfl | rfl
    · exact hx
    · exact hd
    · exact hl
  · simp [Rf.fp, lks, G.all, n1, n2, n3, Ne.symm f1, Ne.symm f2, Ne.symm f3]
theorem RI.open {x : List Nat} {σ σ₁ : AH} {fl nx nd nl : Addr} {gs : List Rf} {i : Nat} {L : List V} (h : RI x σ σ₁ fl gs i) (hx : x[i]? = some 40) (fx : Fresh σ₁ nx) (fd : Fresh σ₁ nd) (fl' : Fresh σ₁ nl) (n1 : nx ≠ nd) (n2 : nx ≠ nl) (n3 : nd ≠ nl)
    (hL : σ₁ fl = some (.list L)) : RI x σ (upd (upd (upd (upd σ₁ nl (.list [])) nd (.ns [("first", .none), ("last", .none), ("inner", .ref nl)])) nx (.inst 161 nd)) fl (.list (L ++ [.ref nx]))) fl (⟨nx, nd, nl, .new, [], .nil⟩ :: gs) (i + 1) := by
  have e1 := fx fl _ hL
  have e2 := fd fl _ hL
  have e3 := fl' fl _ hL
  have hL' := h.lst
  rw [hL] at hL'
  have hLe : L = (gs.map (fun f => V.ref f.a)).reverse := by injection hL' with q; injection q
  refine RI.go (old := []) (new := [⟨nx, nd, nl, .new, [], .nil⟩]) (r := gs) h ?_ ?_ ?_ ?_ ?_ ?_ ?_ ?_ ?_ ?_
  · intro a o e n
    simp at n
    rw [upd_ne _ _ n, upd_ne _ _ (fx a o e), upd_ne _ _ (fd a o e), upd_ne _ _ (fl' a o e)]; exact e
  · intro f hf
    rw [List.mem_singleton.mp hf]
    refine RF.new ?_ ?_ ?_
    · rw [upd_ne _ _ (Ne.symm e1), upd_same]
    · rw [upd_ne _ _ (Ne.symm e2), upd_ne _ _ (Ne.symm n1), upd_same]
    · rw [upd_ne _ _ (Ne.symm e3), upd_ne _ _ (Ne.symm n2), upd_ne _ _ (Ne.symm n3), upd_same]
  · intro y hy
    simp [Rf.fp, lks, G.all] at hy
    right
    rcases hy with rfl | rfl | rfl
    · exact fx
    · exact fd
    · exact fl'
  · simp [Rf.fp, lks, G.all, n1, n2, n3]
  · rw [upd_same, hLe]; simp
  · simp [Rf.fp, lks, G.all]; omega
  · show okL (_ :: gs)
    cases gs with
    | nil => trivial
    | cons g r => exact ⟨⟨rfl, rfl⟩, h.ok⟩
  · intro f g q e
    cases e
    exact ⟨nofun, nofun⟩
  · show run (spB (_ :: gs)).1 (spB (_ :: gs)).2 _ _ = _
    rw [← h.rn, drop_at hx]
    match gs, h.ne, h.hd with
    | [b], _, _ => show run b.inner.er [⟨.new, [], .nil⟩] _ _ = run b.inner.er [] _ _; rw [run_10, if_pos rfl]
    | f :: g :: r, _, hd =>
      have := (hd f g r rfl).1
      show run _ (⟨.new, [], .nil⟩ :: f.fs :: _) _ _ = run _ (f.fs :: _) _ _
      rw [run_40, if_neg (show ¬f.fs.k = .num from fun q => this q hx)]; rfl
  · simp
theorem RI.mem {x : List Nat} {σ σ₁ σ₂ : AH} {fl : Addr} {f f' p : Rf} {r : List Rf} {i j : Nat} (h : RI x σ σ₁ fl (f :: p :: r) i) (hij : i < j) (ha : f'.a = f.a) (k : Kept σ₁ σ₂ f.fp) (hf : RF σ₂ f') (nd : f'.fp.Nodup) (hs : ∀ y ∈ f'.fp, y ∈ f.fp ∨ Fresh σ₁ y)
    (hl : f'.fp.length ≤ f.fp.length + 3) (hk : kok f') (hh : hok x j f') (rn : run (spB (p :: r)).1 (f'.fs :: (spB (p :: r)).2) (x.drop j) j = parse x) : RI x σ σ₂ fl (f' :: p :: r) j := by
  have hfl : fl ∉ f.fp := fun q => by
    have := h.nd
    rw [List.nodup_cons] at this
    exact this.1 (by simp [q])
  refine RI.go (old := [f]) (new := [f']) (r := p :: r) h ?_ ?_ ?_ ?_ ?_ ?_ ?_ ?_ rn (by simp)
  · exact k.more fun a ha => by simp [ha]
  · intro g hg
    rw [List.mem_singleton.mp hg]; exact hf
  · simpa using hs
  · simpa using nd
  · have := k _ _ h.lst hfl
    rw [this]; simp [ha]
  · simp; omega
  · exact ⟨hk, h.ok.2⟩
  · intro a b q e; cases e; exact hh
theorem RI.bad {x : List Nat} {σ σ₁ : AH} {fl : Addr} {f p : Rf} {r : List Rf} {i : Nat} (h : RI x σ σ₁ fl (f :: p :: r) i) (hx : x[i]? = some 41) (hc : f.inner.er.len = 1 ∨ f.cs = [] ∧ f.inner = .nil) : parse x = .error i := by
  rw [← h.rn, drop_at hx]
  show run _ (f.fs :: _) _ _ = _
  rw [run_41, if_neg]
  have h1 := (h.hd f p r rfl).2
  have h2 := h.ok.1
  obtain ⟨a, d, il, kd, cs, inner⟩ := f
  cases kd
  · simp [step41, Rf.fs]
  · obtain ⟨q1, q2⟩ := h2
    dsimp only at q1 q2
    subst q2
    rcases hc with q | q
    · simp [G.er, F.len] at q
    · exact absurd q.1 q1
  · rw [hx] at h1; exact absurd (h1 rfl) (by simp)
  · rcases hc with q | q
    · dsimp only at q
      have e : ¬(1 < inner.er.len) := by omega
      simp [step41, Rf.fs, e]
    · exact absurd q.2 h2
theorem RI.close {x : List Nat} {σ σ₁ σ₂ : AH} {fl r0 : Addr} {f p : Rf} {r : List Rf} {i : Nat} {t : G} {L : List V} (h : RI x σ σ₁ fl (f :: p :: r) i) (hx : x[i]? = some 41) (hc1 : f.inner.er.len ≠ 1) (hc2 : f.cs ≠ [] ∨ f.inner ≠ .nil)
    (hL : L = ((p :: r).map (fun f => V.ref f.a)).reverse) (k : Kept (upd σ₁ fl (.list L)) σ₂ f.fp) (tv : t.vals = [.ref r0]) (te : t.er = chF (f.cs.map Lk.n) f.inner.er) (tr : RN σ₂ t) (tn : t.all.Nodup) (ts : ∀ y ∈ t.all, Fresh (upd σ₁ fl (.list L)) y ∨ y ∈ f.fp) (tl : t.all.length ≤ f.fp.length) :
    σ₂ p.il = some (.list p.inner.vals) ∧ RI x σ (upd σ₂ p.il (.list (p.inner.vals ++ [.ref r0]))) fl (⟨p.a, p.d, p.il, .lists, p.cs, p.inner.app t⟩ :: r) (i + 1) := by
  have nd := h.nd
  rw [List.nodup_cons, List.flatMap_cons, List.flatMap_cons] at nd
  obtain ⟨n1, n2⟩ := nd
  obtain ⟨n3, n4, n5⟩ := List.nodup_append.mp n2
  obtain ⟨n6, n7, n8⟩ := List.nodup_append.mp n4
  have hp := h.rf p (by simp)
  have fp : ∀ y ∈ p.fp, y ≠ fl ∧ y ∉ f.fp := fun y hy => ⟨fun q => n1 (by subst q; simp [hy]), fun q => n5 y q y (by simp [hy]) rfl⟩
  have kf : Kept σ₁ σ₂ (fl :: f.fp) := fun a o e n => by
    simp only [List.mem_cons, not_or] at n
    exact k a o (upd_some e n.1) n.2
  have kp : ∀ y ∈ p.fp, ∀ o, σ₁ y = some o → σ₂ y = some o := fun y hy o e => kf y o e (by simp only [List.mem_cons, not_or]; exact fp y hy)
  obtain ⟨g1, g2, g3, g4, g5⟩ := hp
  have m1 : p.a ∈ p.fp := by simp [Rf.fp]
  have m2 : p.d ∈ p.fp := by simp [Rf.fp]
  have m3 : p.il ∈ p.fp := by simp [Rf.fp]
  have e3 := kp _ m3 _ g3
  have q1 : p.a ≠ p.il := fun q => by rw [q, g3] at g1; cases g1
  have q2 : p.d ≠ p.il := fun q => by rw [q, g3] at g2; cases g2
  have q3 : ∀ y ∈ lks p.cs ++ p.inner.all, y ≠ p.il := fun y hy q => by
    simp only [Rf.fp, List.nodup_cons] at n6
    exact n6.2.2.1 (q ▸ hy)
  have lne : fl ≠ p.il := fun q => (fp p.il m3).1 q.symm
  refine ⟨e3, ?_⟩
  have hfl2 : σ₂ fl = some (.list L) := k fl _ (upd_same ..) fun q => n1 (by simp [q])
  have k3 : Kept σ₁ (upd σ₂ p.il (.list (p.inner.vals ++ [.ref r0]))) (p.il :: fl :: f.fp) := fun a o e n => by
    simp only [List.mem_cons, not_or] at n
    exact upd_some (kf a o e (by simp only [List.mem_cons, not_or]; exact n.2)) n.1
  have inP : ∀ y ∈ lks p.cs ++ p.inner.all, y ∈ p.fp := fun y hy => by simp only [Rf.fp, List.mem_cons]; exact .inr (.inr (.inr hy))
  have out : ∀ y ∈ lks p.cs ++ p.inner.all, y ∉ p.il :: fl :: f.fp := fun y hy => by
    simp only [List.mem_cons, not_or]
    exact ⟨q3 y hy, fp y (inP y hy)⟩
  have tni : ∀ y ∈ t.all, y ∉ p.fp ∧ (y ∉ r.flatMap Rf.fp) ∧ (y ∈ f.fp ∨ Fresh σ₁ y) := by
    intro y hy
    rcases ts y hy with q | q
    · have fy : Fresh σ₁ y := Fresh.of_upd h.lst q
      refine ⟨fun z => (RF.stands ⟨g1, g2, g3, g4, g5⟩ y z) fy.none, fun z => ?_, .inr fy⟩
      obtain ⟨g, hg, z⟩ := List.mem_flatMap.mp z
      exact ((h.rf g (by simp [hg])).stands y z) fy.none
    · exact ⟨fun z => n5 y q y (by simp [z]) rfl, fun z => n5 y q y (by simp [z]) rfl, .inl q⟩
  refine RI.go (old := [f, p]) (new := [⟨p.a, p.d, p.il, .lists, p.cs, p.inner.app t⟩]) (r := r) h ?_ ?_ ?_ ?_ ?_ ?_ ?_ ?_ ?_ (by simp)
  · refine k3.more fun a ha => ?_
    simp only [List.mem_cons] at ha
    rcases ha with rfl | rfl | ha
    · simp [m3]
    · simp
    · simp [ha]
  · intro g hg
    rw [List.mem_singleton.mp hg]
    refine ⟨upd_some (kp _ m1 _ g1) q1, upd_some (kp _ m2 _ g2) q2, ?_, RN.keptA k3 g4 fun y hy => out y ?_, ?_⟩
    · show upd σ₂ p.il _ p.il = _
      rw [upd_same, G.vals_app, tv]
    · rw [chG_all] at hy; simp [G.all] at hy; simp [hy]
    · show RN _ (p.inner.app t)
      refine RN.app.2 ⟨RN.keptA k3 g5 fun y hy => out y (by simp [hy]), RN.keptA (S := [p.il]) (fun a o e n => upd_some e (by simpa using n)) tr fun y hy => ?_⟩
      have := (tni y hy).1
      simp only [List.mem_singleton]
      exact fun q => this (q ▸ m3)
  · intro y hy
    simp only [List.flatMap_cons, List.flatMap_nil, List.append_nil, Rf.fp, G.all_app, List.mem_cons, List.mem_append] at hy ⊢
    rcases hy with hy | hy | hy | hy | hy | hy
    · simp [hy]
    · simp [hy]
    · simp [hy]
    · simp [hy]
    · simp [hy]
    · rcases (tni y hy).2.2 with q | q
      · left; left; simpa [Rf.fp] using q
      · exact .inr q
  · show (List.flatMap Rf.fp [_]).Nodup
    have e : List.flatMap Rf.fp [(⟨p.a, p.d, p.il, .lists, p.cs, p.inner.app t⟩ : Rf)] = p.fp ++ t.all := by simp [Rf.fp, G.all_app]
    rw [e]
    exact List.nodup_append.mpr ⟨n6, tn, fun y hy z hz q => (tni z hz).1 (q ▸ hy)⟩
  · rw [upd_ne _ _ lne, hfl2, hL]; simp
  · have e : List.flatMap Rf.fp [(⟨p.a, p.d, p.il, .lists, p.cs, p.inner.app t⟩ : Rf)] = p.fp ++ t.all := by simp [Rf.fp, G.all_app]
    rw [e]; simp; omega
  · have h2 := h.ok.2
    show okL (_ :: r)
    cases r with
    | nil => trivial
    | cons g r =>
      refine ⟨?_, h2.2⟩
      show p.inner.app t ≠ .nil
      intro q
      have := congrArg G.vals q
      rw [G.vals_app, tv] at this
      simp [G.vals] at this
  · intro a b q e; cases e; exact ⟨nofun, nofun⟩
  · show run (spB (_ :: r)).1 (spB (_ :: r)).2 _ _ = _
    rw [spB_add p ⟨p.a, p.d, p.il, .lists, p.cs, p.inner.app t⟩ r (chF (f.cs.map Lk.n) f.inner.er) (by rw [← te]; exact G.er_app _ _) rfl rfl, ← h.rn, drop_at hx]
    show _ = run _ (f.fs :: _) _ _
    rw [run_41, if_pos]; rfl
    have h1 := (h.hd f p r rfl).2
    have h2 := h.ok.1
    obtain ⟨a, d, il, kd, cs, inner⟩ := f
    cases kd
    · obtain ⟨z1, z2⟩ := h2
      rcases hc2 with q | q
      · exact absurd z1 q
      · exact absurd z2 q
    · simp [step41, Rf.fs]
    · rw [hx] at h1; exact absurd (h1 rfl) (by simp)
    · have : inner.er.len ≠ 0 := fun q => h2 (G.vals_nil (List.length_eq_zero_iff.mp (by rw [G.vals_len]; exact q)))
      dsimp only at hc1
      have e : 1 < inner.er.len := by omega
      simp [step41, Rf.fs, e]
end Mine

end

section
open PySem PySem.W PyProof.Rows PySem.Spec PySem.Calls PySem.NumText
set_option Elab.async false
set_option maxRecDepth 100000
set_option linter.unusedVariables false
set_option linter.unusedSimpArgs false
namespace Mine
theorem sc_new : (Str.ofString "new").cps.toList = [110, 101, 119] := by decide +kernel
theorem sc_number : (Str.ofString "number").cps.toList = [110, 117, 109, 98, 101, 114] := by decide +kernel
theorem sc_blankw : (Str.ofString "blank").cps.toList = [98, 108, 97, 110, 107] := by decide +kernel
theorem sc_lists : (Str.ofString "lists").cps.toList = [108, 105, 115, 116, 115] := by decide +kernel
theorem sc_top : (Str.ofString "top").cps.toList = [116, 111, 112] := by decide +kernel
theorem txt_num {k : K} (h : k.txt = [110, 117, 109, 98, 101, 114]) : k = .num := by cases k <;> first | rfl | (simp [K.txt] at h)
theorem txt_lists {k : K} (h : k.txt = [108, 105, 115, 116, 115]) : k = .lists := by cases k <;> first | rfl | (simp [K.txt] at h)
theorem txt_nb {k : K} (h : k.txt = [110, 101, 119] ∨ k.txt = [98, 108, 97, 110, 107]) : k = .new ∨ k = .blank := by cases k <;> first | exact .inl rfl | exact .inr rfl | (simp [K.txt] at h)
theorem txt_num' {k : K} (h : ¬k.txt = [110, 117, 109, 98, 101, 114]) : k ≠ .num := fun q => h (by rw [q]; rfl)
theorem txt_lists' {k : K} (h : ¬k.txt = [108, 105, 115, 116, 115]) : k ≠ .lists := fun q => h (by rw [q]; rfl)
theorem txt_nb' {k : K} (h : ¬k.txt = [110, 101, 119] ∧ ¬k.txt = [98, 108, 97, 110, 107]) : k ≠ .new ∧ k ≠ .blank := ⟨fun q => h.1 (by rw [q]; rfl), fun q => h.2 (by rw [q]; rfl)⟩
/-- the automaton's line: its parts stand -/
structure LW (σ σ₁ : AH) (ln : Addr) (as : List (Addr × Fs)) : Prop where
  kept : Kept σ σ₁ []
  fln : Fresh σ ln
  it : ∀ p ∈ as, σ₁ p.1 = some (.list [.str p.2.k.txt, .int p.2.cnt]) ∧ p.1 ≠ ln
  inv : ∀ p ∈ as, p.2.k ≠ .lists → p.2.inner.len = 0
structure LI (x : List Nat) (σ σ₁ : AH) (ln : Addr) (top : F) (as : List (Addr × Fs)) (i : Nat) : Prop where
  lw : LW σ σ₁ ln as
  lst : σ₁ ln = some (.list (as.map (fun p => V.ref p.1)).reverse)
  rn : run top (as.map (·.2)) (x.drop i) i = parse x
  len : as.length ≤ i
theorem LW.sub {σ σ₁ ln as as'} (h : LW σ σ₁ ln as) (hs : ∀ p ∈ as', p ∈ as) : LW σ σ₁ ln as' := ⟨h.kept, h.fln, fun p hp => h.it p (hs p hp), fun p hp => h.inv p (hs p hp)⟩
theorem LW.tail {σ σ₁ ln p r} (h : LW σ σ₁ ln (p :: r)) : LW σ σ₁ ln r := h.sub fun _ q => .tail _ q
theorem LW.new {σ σ₁ ln as} {d : Addr} {o : AO} (h : LW σ σ₁ ln as) (hd : Fresh σ₁ d) : LW σ (upd σ₁ d o) ln as :=
  ⟨Kept.new hd h.kept, h.fln, fun p hp => ⟨upd_get (hd _ _ (h.it p hp).1) (h.it p hp).1, (h.it p hp).2⟩, h.inv⟩
theorem LW.set {σ σ₁ ln as} {o : AO} (h : LW σ σ₁ ln as) : LW σ (upd σ₁ ln o) ln as :=
  ⟨Kept.put h.fln h.kept, h.fln, fun p hp => ⟨upd_get (h.it p hp).2 (h.it p hp).1, (h.it p hp).2⟩, h.inv⟩
theorem LW.add {σ σ₁ ln as} {d : Addr} {s : Fs} {o o' : AO} {t : List Nat} {n : Int} (h : LW σ σ₁ ln as) (hd : Fresh σ₁ d) (hl : σ₁ ln = some o') (ht : t = s.k.txt) (hn : n = s.cnt) (hi : s.k ≠ .lists → s.inner.len = 0) : LW σ (upd (upd σ₁ d (.list [.str t, .int n])) ln o) ln ((d, s) :: as) := by
  have hne := hd _ _ hl
  have h2 := (h.new hd (o := .list [.str t, .int n])).set (o := o)
  refine ⟨h2.kept, h2.fln, fun p hp => ?_, fun p hp => ?_⟩
  · rcases List.mem_cons.mp hp with rfl | hp
    · exact ⟨by rw [upd_ne _ _ (Ne.symm hne), upd_same, ht, hn], Ne.symm hne⟩
    · exact h2.it p hp
  · rcases List.mem_cons.mp hp with rfl | hp
    · exact hi
    · exact h2.inv p hp
theorem LI.push {x σ σ₁ ln top as i} {d : Addr} {L : List V} (h : LI x σ σ₁ ln top as i) (w : LW σ σ₂ ln as) (hx : x[i]? = some 40) (hk : ∀ p r, as = p :: r → p.2.k ≠ .num) (hd : Fresh σ₂ d) (hl : σ₂ ln = some (.list L)) (hL : L = (as.map (fun p => V.ref p.1)).reverse) :
    LI x σ (upd (upd σ₂ d (.list [.str [110, 101, 119], .int 0])) ln (.list (L ++ [.ref d]))) ln top ((d, ⟨.new, [], .nil⟩) :: as) (i + 1) := by
  refine ⟨w.add hd hl rfl rfl fun _ => rfl, by rw [upd_same, hL]; simp, ?_, by have := h.len; simp; omega⟩
  rw [← h.rn, drop_at hx]
  cases as with
  | nil => show run top [⟨.new, [], .nil⟩] _ _ = run top [] _ _; rw [run_10, if_pos rfl]
  | cons p r => show run top (⟨.new, [], .nil⟩ :: p.2 :: _) _ _ = run top (p.2 :: _) _ _; rw [run_40, if_neg (hk p r rfl)]
theorem stop_ok {x : List Nat} {f : F} (h : parse x = .ok f) : stopOf x = -1 := by unfold stopOf; rw [h]
theorem stop_err {x : List Nat} {i : Nat} (h : parse x = .error i) : stopOf x = i := by unfold stopOf; rw [h]
theorem run_err {top : F} {f : Fs} {st : List Fs} {x : List Nat} {i c : Nat} (hx : x[i]? = some c) (h0 : c = 40 → f.k = .num) (h1 : c = 41 → step41 f = false) (h2 : c = 32 → f.k ≠ .num) (h3 : 49 ≤ c ∧ c ≤ 57 → f.k ≠ .new ∧ f.k ≠ .blank) : run top (f :: st) (x.drop i) i = .error i := by
  rw [drop_at hx]
  by_cases c0 : c = 40
  · subst c0; rw [run_40, if_pos (h0 rfl)]
  by_cases c1 : c = 41
  · subst c1; rw [run_41, if_neg (by rw [h1 rfl]; nofun)]
  by_cases c2 : c = 32
  · subst c2; rw [run_32, if_neg (h2 rfl)]
  by_cases c3 : 49 ≤ c ∧ c ≤ 57
  · have := h3 c3
    rw [run_dg c3, if_neg (by simp [this])]
  · exact run_no c0 c1 c2 c3
theorem oc_chrn {c : Fx} {m : List (Option V)} {σ : AH} {E : Value → Shared → Prop} {n : Nat} {Q} (h : n < 256) (k : Q (.str [n]) σ) : OC c (.builtin "chr") [.int (n : Int)] m σ Q E :=
  oc_chr (by omega) (by omega) (by rw [Int.toNat_natCast]; exact k)
end Mine

end

section
open PySem PySem.W PyProof.Rows PySem.Spec PySem.Calls
set_option Elab.async false
set_option maxRecDepth 100000
set_option linter.all false
namespace Mine
@[reducible] noncomputable def KWh (c : Fx) (b : List Stmt) (m : List (Option V)) (R : FL → List (Option V) → AH → Prop) (F : List (Option V) → AH → Prop) (E : Value → Shared → Prop) : Bool → AH → Prop := fun k σ₂ => (k = true → AX c b m σ₂ R E) ∧ (k = false → F m σ₂)
/-- a while, what a turn owes named by a letter -/
theorem ax_whileQ {c : Fx} {m : List (Option V)} {σ : AH} {E : Value → Shared → Prop} {t b p} {Q : FL → List (Option V) → AH → Prop} (J : Nat → List (Option V) → AH → Prop) (n₀ : Nat) (hE : PassesOwn c.M c.A c.env E) (h₀ : J n₀ m σ)
    (turn : ∀ n m₁ σ₁, J n m₁ σ₁ → ∀ (R : FL → List (Option V) → AH → Prop) (F : List (Option V) → AH → Prop), (∀ m₃ σ₃, (∃ n', n' < n ∧ J n' m₃ σ₃) → R .next m₃ σ₃ ∧ R .cont m₃ σ₃) → (∀ m₃ σ₃, Q .next m₃ σ₃ → R .brk m₃ σ₃ ∧ F m₃ σ₃) → (∀ v m₃ σ₃, Q (.ret v) m₃ σ₃ → R (.ret v) m₃ σ₃) →
      AT c t m₁ σ₁ (KWh c b m₁ R F E) E) : AX1 c (.While t b [] p) m σ Q E :=
  ax_while J n₀ hE h₀ fun n m₁ σ₁ hJ => turn n m₁ σ₁ hJ (fun fl m₃ σ₃ => match fl with
        | .next | .cont => ∃ n', n' < n ∧ J n' m₃ σ₃
        | .brk => Q .next m₃ σ₃
        | .ret v => Q (.ret v) m₃ σ₃) (Q .next) (fun _ _ h => ⟨h, h⟩) (fun _ _ h => ⟨h, h⟩) fun _ _ _ h => h
end Mine

end

section
open PySem PySem.W PyProof.Rows PySem.Spec PySem.Calls PySem.NumText
set_option Elab.async false
set_option maxRecDepth 100000
set_option linter.all false
namespace Mine
theorem cnt_add {σ σ₁ ln as} {p : Addr × Fs} (w : LW σ σ₁ ln as) (hp : p ∈ as) (ns : List Int) (y : F) : p.2.cnt + 1 = (Fs.mk .lists p.2.ns (p.2.inner.app (chF ns y))).cnt := by
  have h1 := w.inv p hp
  have h2 : (chF ns y).len = 1 := by cases ns <;> rfl
  unfold Fs.cnt
  simp only [if_true, F.len_app, h2]
  by_cases q : p.2.k = .lists
  · rw [if_pos q]; omega
  · rw [if_neg q, h1 q]; omega
theorem step_num {s : Fs} (h : s.k.txt = [110, 117, 109, 98, 101, 114]) : step41 s = true := by simp [step41, txt_num h]
theorem step_lists {s : Fs} (h : s.k.txt = [108, 105, 115, 116, 115]) (h1 : 1 < s.cnt) : step41 s = true := by
  have := txt_lists h
  unfold Fs.cnt at h1
  rw [if_pos this] at h1
  simp [step41, this]; omega
theorem step_no {s : Fs} (h : ¬s.k.txt = [110, 117, 109, 98, 101, 114]) (h1 : ¬s.k.txt = [108, 105, 115, 116, 115]) : step41 s = false := by simp [step41, txt_num' h, txt_lists' h1]
theorem step_no1 {s : Fs} (h : ¬s.k.txt = [110, 117, 109, 98, 101, 114]) (h1 : s.k.txt = [108, 105, 115, 116, 115]) (h2 : s.cnt ≤ 1) : step41 s = false := by
  have := txt_lists h1
  unfold Fs.cnt at h2
  rw [if_pos this] at h2
  simp [step41, this]; omega
theorem LI.pop0 {x σ σ₁ σ₂ ln top} {a : Addr} {s : Fs} {i : Nat} (h : LI x σ σ₁ ln top [(a, s)] i) (w : LW σ σ₂ ln []) (hl : σ₂ ln = some (.list [])) (hx : x[i]? = some 41) (hs : step41 s = true) : LI x σ σ₂ ln (top.app (chF s.ns s.inner)) [] (i + 1) := by
  refine ⟨w, hl, ?_, by simp⟩
  rw [← h.rn, drop_at hx]
  show _ = run top [s] _ _
  rw [run_41, if_pos hs]; rfl
theorem LI.popn {x σ σ₁ σ₂ ln top} {a a2 d : Addr} {s s2 : Fs} {r : List (Addr × Fs)} {i : Nat} (h : LI x σ σ₁ ln top ((a, s) :: (a2, s2) :: r) i) (w : LW σ σ₂ ln ((d, ⟨.lists, s2.ns, s2.inner.app (chF s.ns s.inner)⟩) :: r)) (hl : σ₂ ln = some (.list ((r.map (fun p => V.ref p.1)).reverse ++ [.ref d])))
    (hx : x[i]? = some 41) (hs : step41 s = true) : LI x σ σ₂ ln top ((d, ⟨.lists, s2.ns, s2.inner.app (chF s.ns s.inner)⟩) :: r) (i + 1) := by
  refine ⟨w, by rw [hl]; simp, ?_, by have := h.len; simp at this ⊢; omega⟩
  rw [← h.rn, drop_at hx]
  show _ = run top (s :: s2 :: _) _ _
  rw [run_41, if_pos hs]; rfl
theorem LI.setb {x σ σ₁ σ₂ ln top} {a d : Addr} {s : Fs} {r : List (Addr × Fs)} {i : Nat} (h : LI x σ σ₁ ln top ((a, s) :: r) i) (w : LW σ σ₂ ln ((d, ⟨.blank, s.ns, s.inner⟩) :: r)) (hl : σ₂ ln = some (.list ((r.map (fun p => V.ref p.1)).reverse ++ [.ref d])))
    (hx : x[i]? = some 32) (hs : s.k = .num) : LI x σ σ₂ ln top ((d, ⟨.blank, s.ns, s.inner⟩) :: r) (i + 1) := by
  refine ⟨w, by rw [hl]; simp, ?_, by have := h.len; simp at this ⊢; omega⟩
  rw [← h.rn, drop_at hx]
  show _ = run top (s :: _) _ _
  rw [run_32, if_pos hs]; rfl
theorem LI.setn {x σ σ₁ σ₂ ln top} {a d : Addr} {s : Fs} {r : List (Addr × Fs)} {i c : Nat} (h : LI x σ σ₁ ln top ((a, s) :: r) i) (w : LW σ σ₂ ln ((d, ⟨.num, s.ns ++ [((digitsVal (figs (x.drop i)) : Nat) : Int)], s.inner⟩) :: r)) (hl : σ₂ ln = some (.list ((r.map (fun p => V.ref p.1)).reverse ++ [.ref d])))
    (hx : x[i]? = some c) (hc : 49 ≤ c ∧ c ≤ 57) (hs : s.k = .new ∨ s.k = .blank) (hf : ¬20 < (figs (x.drop i)).length) : LI x σ σ₂ ln top ((d, ⟨.num, s.ns ++ [((digitsVal (figs (x.drop i)) : Nat) : Int)], s.inner⟩) :: r) (i + (figs (x.drop i)).length) := by
  have hb : ¬BadNum x i := by
    intro q
    rcases q with q | q | q
    · rw [drop_at hx, figs_cons (decide_eq_true (by omega))] at q; cases q
    · rw [hx] at q; cases q; omega
    · exact hf q
  refine ⟨w, by rw [hl]; simp, ?_, by have := h.len; simp at this ⊢; omega⟩
  rw [← h.rn]
  exact (run_good (top := top) (f := s) (st := r.map (·.2)) hs hb).symm
theorem LI.many {x σ σ₁ ln top} {a : Addr} {s : Fs} {r : List (Addr × Fs)} {i c : Nat} (h : LI x σ σ₁ ln top ((a, s) :: r) i) (hx : x[i]? = some c) (hs : s.k = .new ∨ s.k = .blank) (hc : c ≠ 40) (hf : 20 < (figs (x.drop i)).length) : parse x = .error i := by
  rw [← h.rn]
  exact run_bad (top := top) (f := s) (st := r.map (·.2)) hs (by rw [hx]; simpa using hc) (.inr (.inr hf))
end Mine

end

section
open PySem PySem.W PyProof.Rows PySem.Spec PySem.Calls PySem.NumText
set_option Elab.async false
set_option maxRecDepth 100000
set_option linter.all false
namespace Mine
theorem sc_end : (Str.ofString "end").cps.toList = [101, 110, 100] := by decide +kernel
theorem sc_list : (Str.ofString "list").cps.toList = [108, 105, 115, 116] := by decide +kernel
theorem sc_rest : (Str.ofString "rest").cps.toList = [114, 101, 115, 116] := by decide +kernel
theorem o2_keyL {c : Fx} {m : List (Option V)} {σ : AH} {E : Value → Shared → Prop} {e i a kv v Q} {x : String} {l : List Nat} (hx : (Str.ofString x).cps.toList = l) (ha : σ a = some (.dict kv)) (hv : kv.lookup x = some v) (h : Q v σ)
    (hs' : ∀ o j, subscripted i false o j = operate [o, j] (getItem o j)) : O2 c (subscriptTail e i) (.ref a) (.str l) m σ Q E := hx ▸ o2_key ha hv h hs'
/-- what waits to be written: a bracket, or a tree as a list or not -/
inductive Wi where
  | fin
  | tr (b : Bool) (a k : Addr) (n : Int) (tl : List (String × V)) (ks : G)
noncomputable def Wi.kind : Wi → List Nat
  | fin => [101, 110, 100]
  | tr b .. => if b then [108, 105, 115, 116] else [114, 101, 115, 116]
noncomputable def Wi.val : Wi → V
  | fin => .none
  | tr _ a .. => .ref a
noncomputable def Wi.txt : Wi → List Nat
  | fin => [41]
  | tr b _ _ n _ ks => T b (.cons n ks.er .nil)
noncomputable def Wi.wt : Wi → Nat
  | fin => 1
  | tr _ _ _ _ _ ks => 2 * (ks.size + 1)
noncomputable def Wi.ok (σ : AH) : Wi → Prop
  | fin => True
  | tr _ a k n tl ks => σ a = some (dk n k tl) ∧ σ k = some (.list ks.vals) ∧ RD σ ks ∧ 0 ≤ n ∧ n < 10 ^ 20
/-- the trees of a forest, all as lists or all not -/
inductive Wis (σ : AH) (b : Bool) : G → List Wi → Prop
  | nil : Wis σ b .nil []
  | cons {a d k n ks r tl l} : σ a = some (dk n k tl) → Wis σ b r l → Wis σ b (.cons a d k n ks r) (.tr b a k n tl ks :: l)
theorem wis_ex {σ : AH} (b : Bool) : ∀ {g : G}, RD σ g → ∃ l, Wis σ b g l
  | .nil, _ => ⟨[], .nil⟩
  | .cons a d k n ks r, ⟨⟨tl, h1, _⟩, _, _, h⟩ => by
    obtain ⟨l, hl⟩ := wis_ex b h
    exact ⟨_, .cons h1 hl⟩
theorem wis_val {σ b g l} (h : Wis σ b g l) : l.map Wi.val = g.vals := by
  induction h with
  | nil => rfl
  | cons _ _ ih => simp [Wi.val, G.vals, ih]
theorem wis_kind {σ b g l} (h : Wis σ b g l) : ∀ it ∈ l, it.kind = if b then [108, 105, 115, 116] else [114, 101, 115, 116] := by
  induction h with
  | nil => nofun
  | cons _ _ ih =>
    intro it hit
    rcases List.mem_cons.mp hit with rfl | hit
    · rfl
    · exact ih it hit
theorem wis_txt {σ b g l} (h : Wis σ b g l) : l.flatMap Wi.txt = T b g.er := by
  induction h with
  | nil => rfl
  | cons _ _ ih => simp [Wi.txt, G.er, T, ih, List.flatMap_cons]
theorem wis_wt {σ b g l} (h : Wis σ b g l) : (l.map Wi.wt).sum = 2 * g.size := by
  induction h with
  | nil => rfl
  | @cons a d k n ks r tl l _ _ ih => simp only [Wi.wt, List.map_cons, List.sum_cons, ih]; show _ = 2 * (ks.size + r.size + 1); omega
/-- numbers of a forest: none below nought, none too long -/
noncomputable def Small : F → Prop
  | .nil => True
  | .cons n ks r => (0 ≤ n ∧ n < 10 ^ 20) ∧ Small ks ∧ Small r
theorem good_small : ∀ {f : F}, Good f → Small f
  | .nil, _ => trivial
  | .cons n ks r, h => ⟨by rcases h.1 with q | q <;> omega, good_small h.2.2.1, good_small h.2.2.2⟩
theorem wis_ok {σ b g l} (h : Wis σ b g l) : RD σ g → Small g.er → ∀ it ∈ l, it.ok σ ∧ (∀ b a k n tl ks, it = .tr b a k n tl ks → Small ks.er) := by
  induction h with
  | nil => intro _ _ it h; cases h
  | @cons a d k n ks r tl l h1 _ ih =>
    rintro ⟨_, h3, h4, h5⟩ ⟨g1, g2, g3⟩ it hit
    rcases List.mem_cons.mp hit with rfl | hit
    · exact ⟨⟨h1, h3, h4, g1⟩, fun _ _ _ _ _ _ e => by cases e; exact g2⟩
    · exact ih h5 g3 it hit
theorem wis_len {σ b g l} (h : Wis σ b g l) : l.length = g.vals.length := by rw [← wis_val h, List.length_map]
/-- new tuples over a list -/
structure Tups (σ₀ σ' : AH) (kd : List Nat) (vs : List V) (i : Nat) (ts : List Addr) : Prop where
  len : ts.length = i
  kept : Kept σ₀ σ' []
  new : ∀ t ∈ ts, Fresh σ₀ t
  at_ : ∀ (j : Nat) (t : Addr) (v : V), ts[j]? = some t → vs[j]? = some v → σ' t = some (.tuple [.str kd, v])
theorem Tups.nil {σ₀ kd vs} : Tups σ₀ σ₀ kd vs 0 [] := ⟨rfl, Kept.rfl, nofun, nofun⟩
theorem Tups.snoc {σ₀ σ' kd vs i ts} {d : Addr} {v : V} (h : Tups σ₀ σ' kd vs i ts) (hd : Fresh σ' d) (hv : vs[i]? = some v) : Tups σ₀ (upd σ' d (.tuple [.str kd, v])) kd vs (i + 1) (ts ++ [d]) := by
  refine ⟨by simp [h.len], Kept.new hd h.kept, fun t ht => ?_, fun j t w h1 h2 => ?_⟩
  · rcases List.mem_append.mp ht with q | q
    · exact h.new t q
    · rw [List.mem_singleton.mp q]; exact Fresh.back h.kept hd
  · by_cases q : j < ts.length
    · rw [List.getElem?_append_left q] at h1
      have := h.at_ j t w h1 h2
      exact upd_get (hd _ _ this) this
    · have q2 := (List.getElem?_eq_some_iff.mp h1).1
      simp at q2
      have q3 : j = i := by have := h.len; omega
      subst q3
      rw [List.getElem?_append_right (by have := h.len; omega)] at h1
      simp [h.len] at h1
      rw [hv] at h2
      cases h2; subst h1
      exact upd_same ..
theorem Tups.zip {σ₀ σ' kd i ts} {l : List Wi} (h : Tups σ₀ σ' kd (l.map Wi.val).reverse i ts) (hi : i = l.length) : ∀ p ∈ ts.reverse.zip l, σ' p.1 = some (.tuple [.str kd, p.2.val]) ∧ Fresh σ₀ p.1 := by
  intro p hp
  obtain ⟨j, hj⟩ := List.mem_iff_getElem?.mp hp
  rw [List.getElem?_zip_eq_some] at hj
  obtain ⟨h1, h2⟩ := hj
  have hl := (List.getElem?_eq_some_iff.mp h2).1
  have hlen := h.len
  refine ⟨?_, h.new _ (List.mem_reverse.mp (List.mem_of_getElem? h1))⟩
  rw [List.getElem?_reverse (by omega)] at h1
  refine h.at_ _ _ _ h1 ?_
  rw [List.getElem?_reverse (by simp; omega), List.getElem?_map]
  rw [show (l.map Wi.val).length - 1 - (ts.length - 1 - j) = j by simp; omega, h2]; rfl
/-- a part of the list of what waits -/
noncomputable def WI (σ σ₁ : AH) (td C : Addr) (p : Addr × Wi) : Prop := (σ₁ p.1 = some (.tuple [.str p.2.kind, p.2.val]) ∧ p.1 ≠ td ∧ p.1 ≠ C) ∧ p.2.ok σ ∧ (∀ b a k n tl ks, p.2 = .tr b a k n tl ks → Small ks.er)
theorem WI.keep {σ σ₁ σ₂ td C} {p : Addr × Wi} (h : WI σ σ₁ td C p) (k : Kept σ₁ σ₂ [td, C]) : WI σ σ₂ td C p :=
  ⟨⟨k _ _ h.1.1 (by simp [h.1.2.1, h.1.2.2]), h.1.2⟩, h.2⟩
theorem Tups.wis {σ σ₀ σ' : AH} {b : Bool} {kd i ts td C} {g : G} {l : List Wi} (h : Tups σ₀ σ' kd g.vals.reverse i ts) (hw : Wis σ b g l) (hi : i = l.length) (hk : kd = if b then [108, 105, 115, 116] else [114, 101, 115, 116]) (hg : RD σ g) (hs : Small g.er) (h1 : ∃ o, σ₀ td = some o) (h2 : ∃ o, σ₀ C = some o) :
    (∀ p ∈ ts.reverse.zip l, WI σ σ' td C p) ∧ ((ts.reverse.zip l).map (·.2)) = l ∧ ((ts.reverse.zip l).map (fun p => V.ref p.1)) = (ts.map V.ref).reverse := by
  have hz := Tups.zip (l := l) (by rw [wis_val hw]; exact h) hi
  have hlz : ts.reverse.length = l.length := by rw [List.length_reverse, h.len, hi]
  refine ⟨fun p hp => ?_, List.map_snd_zip (by omega), ?_⟩
  · have hm := (List.of_mem_zip (show (p.1, p.2) ∈ _ from hp)).2
    obtain ⟨z1, z2⟩ := hz p hp
    obtain ⟨o1, h1⟩ := h1
    obtain ⟨o2, h2⟩ := h2
    refine ⟨⟨by rw [wis_kind hw p.2 hm, ← hk]; exact z1, fun q => z2 _ _ h1 q.symm, fun q => z2 _ _ h2 q.symm⟩, wis_ok hw hg hs p.2 hm⟩
  · have : (ts.reverse.zip l).map (fun p => V.ref p.1) = ((ts.reverse.zip l).map (·.1)).map V.ref := by rw [List.map_map]; rfl
    rw [this, List.map_fst_zip (by omega), List.map_reverse]
theorem txt_tr (b : Bool) (n : Int) (ks : F) : T b (.cons n ks .nil) = (if b then [40] else []) ++ (num n ++ (if 0 < n ∧ ks.len ≠ 0 then [32] else [])) ++ T (decide (1 < ks.len)) ks ++ (if b then [41] else []) := by
  simp [T]
end Mine
namespace Mine
variable {c : Fx} {m : List (Option V)} {σ : AH} {E : Value → Shared → Prop}
theorem AF.mono {t : Sem Flow} {Q Q' : FL → List (Option V) → AH → Prop} (h : AF c t m σ Q E) (k : ∀ f m σ, Q f m σ → Q' f m σ) : AF c t m σ Q' E :=
  fun ok s hs => wpAny_mono (h ok s hs) (fun _ _ ⟨m', σ', a, b⟩ => ⟨m', σ', a, k _ _ _ b⟩) fun _ _ e => e
@[reducible] noncomputable def KMeet (J : List (Option V) → AH → Prop) : FL → List (Option V) → AH → Prop := fun fl m σ => fl = .next ∧ J m σ
/-- a statement whose ways meet again -/
theorem ax_meet {st rest Q} (J : List (Option V) → AH → Prop) (h : AX1 c st m σ (KMeet J) E) (k : ∀ m' σ', J m' σ' → AX c rest m' σ' Q E) : AX c (st :: rest) m σ Q E :=
  ax_cons (AF.mono h fun _ _ _ ⟨e, j⟩ => by subst e; exact k _ _ j)
theorem ax_meetR {st rest Q} (J : List (Option V) → AH → Prop) (h : ∀ R : FL → List (Option V) → AH → Prop, (∀ m' σ', J m' σ' → R .next m' σ') → AX1 c st m σ R E) (k : ∀ m' σ', J m' σ' → AX c rest m' σ' Q E) : AX c (st :: rest) m σ Q E :=
  ax_meet J (h _ fun _ _ j => ⟨rfl, j⟩) k
/-- a value whose ways meet again -/
theorem av_meet {t : Sem Value} {Q} (v : V) (h : AV c t m σ (fun u σ' => u = v ∧ σ' = σ) E) (k : Q v σ) : AV c t m σ Q E :=
  AV.mono h fun _ _ ⟨e, j⟩ => by rw [e, j]; exact k
end Mine
namespace Mine
theorem wt_pos (it : Wi) : 1 ≤ it.wt := by cases it <;> simp only [Wi.wt] <;> omega
theorem wt_len : ∀ l : List (Addr × Wi), l.length ≤ ((l.map (·.2)).map Wi.wt).sum
  | [] => by simp
  | p :: l => by have := wt_len l; have := wt_pos p.2; simp only [List.map_cons, List.sum_cons, List.length_cons] at *; omega
end Mine

end

section
open PySem PySem.W PyProof.Rows PySem.Spec PySem.Calls PySem.NumText
set_option Elab.async false
set_option maxRecDepth 100000
set_option linter.all false
namespace Mine
/-- one tree's kids put anew: the tree at a held the list k of ks, now k' of ks' -/
inductive Ed (a : Addr) (n : Int) (k : Addr) (ks : G) (k' : Addr) (ks' : G) : G → G → Prop
  | here {d r} : Ed a n k ks k' ks' (.cons a d k n ks r) (.cons a d k' n ks' r)
  | kid {b d l m g g' r} : Ed a n k ks k' ks' g g' → Ed a n k ks k' ks' (.cons b d l m g r) (.cons b d l m g' r)
  | side {b d l m js g g'} : Ed a n k ks k' ks' g g' → Ed a n k ks k' ks' (.cons b d l m js g) (.cons b d l m js g')
theorem Ed.ex {σ : AH} {a : Addr} : ∀ {g : G}, RD σ g → a ∈ g.pre → ∃ n k tl ks, σ a = some (dk n k tl) ∧ TL tl ∧ σ k = some (.list ks.vals) ∧ RD σ ks ∧ ∀ k' ks', ∃ g', Ed a n k ks k' ks' g g'
  | .nil, _, h => by cases h
  | .cons b d k n ks r, ⟨⟨tl, h1, h2⟩, h3, h4, h5⟩, h => by
    simp only [G.pre, List.mem_cons, List.mem_append] at h
    rcases h with rfl | h | h
    · exact ⟨n, k, tl, ks, h1, h2, h3, h4, fun k' ks' => ⟨_, .here⟩⟩
    · obtain ⟨n', k1, tl', js, q1, q2, q3, q4, q5⟩ := Ed.ex h4 h
      exact ⟨n', k1, tl', js, q1, q2, q3, q4, fun k' ks' => let ⟨_, q⟩ := q5 k' ks'; ⟨_, .kid q⟩⟩
    · obtain ⟨n', k1, tl', js, q1, q2, q3, q4, q5⟩ := Ed.ex h5 h
      exact ⟨n', k1, tl', js, q1, q2, q3, q4, fun k' ks' => let ⟨_, q⟩ := q5 k' ks'; ⟨_, .side q⟩⟩
section
variable {a : Addr} {n : Int} {k k' : Addr} {ks ks' g g' : G}
theorem Ed.vals (h : Ed a n k ks k' ks' g g') : g'.vals = g.vals := by
  induction h with
  | here => rfl
  | kid _ _ => rfl
  | side _ ih => simp [G.vals, ih]
theorem Ed.len (h : Ed a n k ks k' ks' g g') : g'.er.len = g.er.len := by rw [← G.vals_len, ← G.vals_len, h.vals]
theorem Ed.size (h : Ed a n k ks k' ks' g g') : g'.size + ks.size = g.size + ks'.size := by
  induction h with
  | here => simp only [G.size, G.er, F.size]; omega
  | kid _ ih => simp only [G.size, G.er, F.size] at *; omega
  | side _ ih => simp only [G.size, G.er, F.size] at *; omega
theorem Ed.perm (h : Ed a n k ks k' ks' g g') : ∃ R, g.alk.Perm (a :: k :: (ks.alk ++ R)) ∧ g'.alk.Perm (a :: k' :: (ks'.alk ++ R)) := by
  induction h with
  | here => exact ⟨_, .refl _, .refl _⟩
  | @kid b d l m g g' r _ ih =>
    obtain ⟨R, h1, h2⟩ := ih
    refine ⟨b :: l :: (R ++ r.alk), ?_, ?_⟩
    · refine ((h1.append_right r.alk).cons l |>.cons b).trans ?_
      have : (a :: k :: (ks.alk ++ (b :: l :: (R ++ r.alk)))).Perm (b :: l :: ((a :: k :: (ks.alk ++ R)) ++ r.alk)) := by
        have e : (a :: k :: (ks.alk ++ (b :: l :: (R ++ r.alk)))) = (a :: k :: ks.alk) ++ (b :: l :: (R ++ r.alk)) := rfl
        rw [e]
        refine (List.perm_middle (a := b)).trans (.cons b ((List.perm_middle (a := l)).trans (.cons l ?_)))
        rw [← List.append_assoc]; exact .refl _
      exact this.symm
    · refine ((h2.append_right r.alk).cons l |>.cons b).trans ?_
      have : (a :: k' :: (ks'.alk ++ (b :: l :: (R ++ r.alk)))).Perm (b :: l :: ((a :: k' :: (ks'.alk ++ R)) ++ r.alk)) := by
        have e : (a :: k' :: (ks'.alk ++ (b :: l :: (R ++ r.alk)))) = (a :: k' :: ks'.alk) ++ (b :: l :: (R ++ r.alk)) := rfl
        rw [e]
        refine (List.perm_middle (a := b)).trans (.cons b ((List.perm_middle (a := l)).trans (.cons l ?_)))
        rw [← List.append_assoc]; exact .refl _
      exact this.symm
  | @side b d l m js g g' _ ih =>
    obtain ⟨R, h1, h2⟩ := ih
    have key : ∀ (kk : Addr) (x : List Addr), (b :: l :: (js.alk ++ (a :: kk :: (x ++ R)))).Perm (a :: kk :: (x ++ (b :: l :: (js.alk ++ R)))) := fun kk x => by
      have e : (b :: l :: (js.alk ++ (a :: kk :: (x ++ R)))) = (b :: l :: js.alk) ++ ((a :: kk :: x) ++ R) := rfl
      rw [e, show a :: kk :: (x ++ (b :: l :: (js.alk ++ R))) = (a :: kk :: x) ++ ((b :: l :: js.alk) ++ R) from rfl, ← List.append_assoc, ← List.append_assoc]
      exact List.perm_append_comm.append_right R
    exact ⟨b :: l :: (js.alk ++ R), (((h1.append_left js.alk).cons l).cons b).trans (key k ks.alk), (((h2.append_left js.alk).cons l).cons b).trans (key k' ks'.alk)⟩
theorem Ed.mem (h : Ed a n k ks k' ks' g g') : a ∈ g.alk ∧ k ∈ g.alk := by
  obtain ⟨R, h1, _⟩ := h.perm
  exact ⟨h1.mem_iff.mpr (by simp), h1.mem_iff.mpr (by simp)⟩
theorem Ed.rd {σ σ' : AH} {tl : List (String × V)} (h : Ed a n k ks k' ks' g g') : RD σ g → g.alk.Nodup → Kept σ σ' [a, k] → σ' a = some (dk n k' tl) → TL tl → σ' k' = some (.list ks'.vals) → RD σ' ks' → RD σ' g' := by
  induction h with
  | @here d r =>
    rintro ⟨⟨tl0, h1, h2⟩, h3, h4, h5⟩ hd hk e1 e2 e3 e4
    refine ⟨⟨tl, e1, e2⟩, e3, e4, h5.keptA hk fun x hx q => ?_⟩
    simp only [G.alk, List.nodup_cons, List.mem_cons, List.mem_append] at hd
    simp only [List.mem_cons, List.not_mem_nil, or_false] at q
    rcases q with rfl | rfl
    · exact hd.1 (.inr (.inr hx))
    · exact hd.2.1 (.inr hx)
  | @kid b d l m g g' r hg ih =>
    rintro ⟨⟨tl0, h1, h2⟩, h3, h4, h5⟩ hd hk e1 e2 e3 e4
    obtain ⟨ma, mk⟩ := hg.mem
    simp only [G.alk, List.nodup_cons, List.mem_cons, List.mem_append, List.nodup_append] at hd
    have nb : b ∉ [a, k] := fun q => by
      simp only [List.mem_cons, List.not_mem_nil, or_false] at q
      rcases q with rfl | rfl
      · exact hd.1 (.inr (.inl ma))
      · exact hd.1 (.inr (.inl mk))
    have nl : l ∉ [a, k] := fun q => by
      simp only [List.mem_cons, List.not_mem_nil, or_false] at q
      rcases q with rfl | rfl
      · exact hd.2.1 (.inl ma)
      · exact hd.2.1 (.inl mk)
    refine ⟨⟨tl0, hk _ _ h1 nb, h2⟩, by rw [hg.vals]; exact hk _ _ h3 nl, ih h4 hd.2.2.1 hk e1 e2 e3 e4, h5.keptA hk fun x hx q => ?_⟩
    simp only [List.mem_cons, List.not_mem_nil, or_false] at q
    rcases q with rfl | rfl
    · exact hd.2.2.2.2 _ ma _ hx rfl
    · exact hd.2.2.2.2 _ mk _ hx rfl
  | @side b d l m js g g' hg ih =>
    rintro ⟨⟨tl0, h1, h2⟩, h3, h4, h5⟩ hd hk e1 e2 e3 e4
    obtain ⟨ma, mk⟩ := hg.mem
    simp only [G.alk, List.nodup_cons, List.mem_cons, List.mem_append, List.nodup_append] at hd
    have nb : b ∉ [a, k] := fun q => by
      simp only [List.mem_cons, List.not_mem_nil, or_false] at q
      rcases q with rfl | rfl
      · exact hd.1 (.inr (.inr ma))
      · exact hd.1 (.inr (.inr mk))
    have nl : l ∉ [a, k] := fun q => by
      simp only [List.mem_cons, List.not_mem_nil, or_false] at q
      rcases q with rfl | rfl
      · exact hd.2.1 (.inr ma)
      · exact hd.2.1 (.inr mk)
    refine ⟨⟨tl0, hk _ _ h1 nb, h2⟩, hk _ _ h3 nl, h4.keptA hk (fun x hx q => ?_), ih h5 hd.2.2.2.1 hk e1 e2 e3 e4⟩
    simp only [List.mem_cons, List.not_mem_nil, or_false] at q
    rcases q with rfl | rfl
    · exact hd.2.2.2.2 _ hx _ ma rfl
    · exact hd.2.2.2.2 _ hx _ mk rfl
theorem Ed.top (h : Ed a n k ks k' ks' g g') {m : Int} {js : F} (e : g'.er = .cons m js .nil) : ∃ js', g.er = .cons m js' .nil := by
  cases h with
  | here => simp only [G.er, F.cons.injEq] at e ⊢; exact ⟨_, e.1, rfl, e.2.2⟩
  | kid q => simp only [G.er, F.cons.injEq] at e ⊢; exact ⟨_, e.1, rfl, e.2.2⟩
  | side q =>
    exfalso
    simp only [G.er, F.cons.injEq] at e
    have := q.len
    rw [e.2.2] at this
    cases q <;> simp [G.er, F.len] at this
theorem Ed.good (h : Ed a n k ks k' ks' g g') (h1 : Good ks'.er) (h2 : n = 0 → 2 ≤ ks'.er.len) (h3 : ∀ m js, ks'.er = .cons m js .nil → 0 < m) : Good g.er → Good g'.er := by
  induction h with
  | here => intro q; exact ⟨q.1.imp id fun w => ⟨w.1, h2 w.1⟩, h3, h1, q.2.2.2⟩
  | kid hg ih => intro q; exact ⟨q.1.imp id fun w => ⟨w.1, by rw [hg.len]; exact w.2⟩, fun m js e => by obtain ⟨js', e'⟩ := hg.top e; exact q.2.1 _ _ e', ih q.2.2.1, q.2.2.2⟩
  | side hg ih => intro q; exact ⟨q.1, q.2.1, q.2.2.1, ih q.2.2.2⟩
theorem Ed.pre (h : Ed a n k ks k' ks' g g') (hs : ∀ x ∈ ks.pre, x ∈ ks'.pre) : (∀ x ∈ g.pre, x ∈ g'.pre) ∧ (∀ x ∈ ks'.pre, x ∈ g'.pre) := by
  induction h with
  | here =>
    simp only [G.pre, List.mem_cons, List.mem_append]
    exact ⟨fun x q => q.imp id (Or.imp (hs x) id), fun x q => .inr (.inl q)⟩
  | kid hg ih =>
    simp only [G.pre, List.mem_cons, List.mem_append]
    exact ⟨fun x q => q.imp id (Or.imp (ih.1 x) id), fun x q => .inr (.inl (ih.2 x q))⟩
  | side hg ih =>
    simp only [G.pre, List.mem_cons, List.mem_append]
    exact ⟨fun x q => q.imp id (Or.imp id (ih.1 x)), fun x q => .inr (.inr (ih.2 x q))⟩
end
theorem G.pre_alk : ∀ {g : G}, ∀ x ∈ g.pre, x ∈ g.alk
  | .nil, _, h => by cases h
  | .cons b d k n ks r, x, h => by
    simp only [G.pre, G.alk, List.mem_cons, List.mem_append] at h ⊢
    rcases h with h | h | h
    · exact .inl h
    · exact .inr (.inr (.inl (G.pre_alk x h)))
    · exact .inr (.inr (.inr (G.pre_alk x h)))
/-- a forest that a call has built: a list at r over dicts, none of them older than σ₀ -/
structure BF (σ₀ σ : AH) (r : Addr) (g : G) : Prop where
  at_ : σ r = some (.list g.vals)
  rd : RD σ g
  nd : (r :: g.alk).Nodup
  new : ∀ x ∈ r :: g.alk, Fresh σ₀ x
  good : Good g.er
end Mine

end

section
open PySem PySem.W PyProof.Rows PySem.Spec PySem.Calls PySem.NumText
set_option Elab.async false
set_option maxRecDepth 100000
set_option linter.all false
namespace Mine
/-- what stood stands, whatever it holds -/
noncomputable def Grow (σ σ' : AH) : Prop := ∀ b, σ b ≠ none → σ' b ≠ none
theorem Grow.rfl {σ : AH} : Grow σ σ := fun _ h => h
theorem Grow.trans {σ σ' σ'' : AH} (h : Grow σ σ') (k : Grow σ' σ'') : Grow σ σ'' := fun b e => k b (h b e)
theorem Grow.upd {σ σ' : AH} {a : Addr} {o : AO} (h : Grow σ σ') : Grow σ (upd σ' a o) := fun b e => by
  by_cases q : b = a
  · rw [q, upd_same]; nofun
  · rw [upd_ne _ _ q]; exact h b e
theorem Grow.kept {σ σ' : AH} (h : Kept σ σ' []) : Grow σ σ' := fun b e => by
  cases q : σ b with
  | none => exact absurd q e
  | some o => rw [h.get q]; nofun
theorem Grow.sack {σ σ' : AH} {sk cl : Addr} (h : Kept σ σ' [sk, cl]) (s : Sack σ' sk cl) : Grow σ σ' := fun b e => by
  obtain ⟨_, _, _, h1, h2, _⟩ := s
  by_cases q1 : b = sk
  · rw [q1, h1]; nofun
  by_cases q2 : b = cl
  · rw [q2, h2]; nofun
  cases q : σ b with
  | none => exact absurd q e
  | some o => rw [h b o q (by simp [q1, q2])]; nofun
theorem Fresh.grow {σ σ' : AH} {d : Addr} (g : Grow σ σ') (h : Fresh σ' d) : Fresh σ d := fun b o e q => by
  have := g b (by rw [e]; nofun)
  rw [q] at this
  exact this h.none
theorem Sack.sk_ne {σ : AH} {sk cl d : Addr} (s : Sack σ sk cl) (h : Fresh σ d) : d ≠ sk ∧ d ≠ cl := by
  obtain ⟨_, _, _, h1, h2, _⟩ := s
  exact ⟨fun q => h _ _ h1 q.symm, fun q => h _ _ h2 q.symm⟩
theorem Sack.keptS {σ σ' : AH} {sk cl : Addr} {S : List Addr} (h : Sack σ sk cl) (k : Kept σ σ' S) (h1 : sk ∉ S) (h2 : cl ∉ S) : Sack σ' sk cl := by
  obtain ⟨cells, cur, g, q1, q2, q3⟩ := h
  exact ⟨cells, cur, g, k _ _ q1 h1, k _ _ q2 h2, q3⟩
/-- one tree that a call has built -/
structure BT (σ₀ σ : AH) (t k : Addr) (n : Int) (ks : G) : Prop where
  rd : RD σ (.cons t 0 k n ks .nil)
  nd : (t :: k :: ks.alk).Nodup
  new : ∀ x ∈ t :: k :: ks.alk, Fresh σ₀ x
  good : Good ks.er
  one : ∀ m js, ks.er = .cons m js .nil → 0 < m
  pos : 0 < n ∧ n < 10 ^ 20
theorem G.alk_one (t d k : Addr) (n : Int) (ks : G) : (G.cons t d k n ks .nil).alk = t :: k :: ks.alk := by simp [G.alk]
theorem BT.kept {σ₀ σ σ' : AH} {S t k n ks} (h : BT σ₀ σ t k n ks) (e : Kept σ σ' S) (d : ∀ x ∈ t :: k :: ks.alk, x ∉ S) : BT σ₀ σ' t k n ks :=
  ⟨h.rd.keptA e (by rw [G.alk_one]; exact d), h.nd, h.new, h.good, h.one, h.pos⟩
theorem BT.stands {σ₀ σ : AH} {t k n ks} (h : BT σ₀ σ t k n ks) : ∀ x ∈ t :: k :: ks.alk, σ x ≠ none := by
  have := h.rd.stands
  rwa [G.alk_one] at this
/-- a tree above it -/
theorem BT.up {σ₀ σ σ' : AH} {t k t' k' : Addr} {n m : Int} {ks js : G} (h : BT σ₀ σ t k n ks) (e : Kept σ σ' []) (hj : js = .cons t 0 k n ks .nil ∨ ∃ b kb nb, (js = .cons b 0 kb nb .nil (.cons t 0 k n ks .nil) ∨ js = .cons t 0 k n ks (.cons b 0 kb nb .nil .nil)) ∧
      σ' b = some (dk nb kb []) ∧ σ' kb = some (.list []) ∧ 0 < nb ∧ nb < 10 ^ 20 ∧ Fresh σ b ∧ Fresh σ kb ∧ b ≠ kb ∧ t' ≠ b ∧ t' ≠ kb ∧ k' ≠ b ∧ k' ≠ kb)
    (g : Grow σ₀ σ) (h1 : σ' t' = some (dk m k' [])) (h2 : σ' k' = some (.list js.vals)) (h3 : Fresh σ t') (h4 : Fresh σ k') (h5 : t' ≠ k') (h6 : 0 < m ∧ m < 10 ^ 20) : BT σ₀ σ' t' k' m js ∧ js.size ≤ ks.size + 2 := by
  have st := h.stands
  have nt := h3.notin st
  have nk := h4.notin st
  have hr := RD.kept e h.rd
  rcases hj with rfl | ⟨b, kb, nb, hj, e1, e2, e3, e4, f1, f2, d1, d2, d3, d4, d5⟩
  · refine ⟨⟨⟨⟨[], h1, .inl rfl⟩, h2, hr, trivial⟩, ?_, ?_, ?_, ?_, h6⟩, by simp only [G.size, G.er, F.size]; omega⟩
    · rw [G.alk_one, List.nodup_cons, List.nodup_cons]; exact ⟨by simp only [List.mem_cons] at nt ⊢; simp [h5, nt], nk, h.nd⟩
    · rw [G.alk_one]
      intro x hx
      simp only [List.mem_cons] at hx
      rcases hx with rfl | rfl | hx
      · exact h3.grow g
      · exact h4.grow g
      · exact h.new x (by simpa using hx)
    · exact ⟨.inl h.pos, h.one, h.good, trivial⟩
    · intro m' js' q; simp only [G.er, F.cons.injEq] at q; rw [← q.1]; exact h.pos.1
  · have nb1 := f1.notin st
    have nb2 := f2.notin st
    simp only [List.mem_cons, not_or] at nt nk nb1 nb2
    have nd := h.nd
    simp only [List.nodup_cons, List.mem_cons, not_or] at nd
    rcases hj with rfl | rfl
    · refine ⟨⟨⟨⟨[], h1, .inl rfl⟩, h2, ⟨⟨[], e1, .inl rfl⟩, e2, trivial, hr⟩, trivial⟩, ?_, ?_, ?_, ?_, h6⟩, by simp only [G.size, G.er, F.size]; omega⟩
      · simp only [G.alk, List.nil_append, List.append_nil, List.nodup_cons, List.mem_cons, not_or]
        exact ⟨⟨h5, d2, d3, nt⟩, ⟨d4, d5, nk⟩, ⟨d1, nb1⟩, nb2, nd⟩
      · simp only [G.alk, List.nil_append, List.append_nil]
        intro x hx
        simp only [List.mem_cons] at hx
        rcases hx with rfl | rfl | rfl | rfl | hx
        · exact h3.grow g
        · exact h4.grow g
        · exact f1.grow g
        · exact f2.grow g
        · exact h.new x (by simpa using hx)
      · exact ⟨.inl ⟨e3, e4⟩, nofun, trivial, .inl h.pos, h.one, h.good, trivial⟩
      · intro m' js' q; simp only [G.er, F.cons.injEq] at q; exact absurd q.2.2 (by nofun)
    · refine ⟨⟨⟨⟨[], h1, .inl rfl⟩, h2, RD.app (x := .cons t 0 k n ks .nil) |>.2 ⟨hr, ⟨[], e1, .inl rfl⟩, e2, trivial, trivial⟩, trivial⟩, ?_, ?_, ?_, ?_, h6⟩, by simp only [G.size, G.er, F.size]; omega⟩
      · have : (t' :: k' :: (G.cons t 0 k n ks (.cons b 0 kb nb .nil .nil)).alk).Perm (t' :: k' :: b :: kb :: t :: k :: ks.alk) := by
          simp only [G.alk, List.nil_append, List.append_nil]
          refine .cons _ (.cons _ ?_)
          show List.Perm ((t :: k :: ks.alk) ++ [b, kb]) ([b, kb] ++ (t :: k :: ks.alk))
          exact List.perm_append_comm
        rw [this.nodup_iff]
        simp only [List.nodup_cons, List.mem_cons, not_or]
        exact ⟨⟨h5, d2, d3, nt⟩, ⟨d4, d5, nk⟩, ⟨d1, nb1⟩, nb2, nd⟩
      · simp only [G.alk, List.nil_append, List.append_nil]
        intro x hx
        simp only [List.mem_cons, List.mem_append, List.not_mem_nil, or_false] at hx
        rcases hx with rfl | rfl | rfl | rfl | hx | rfl | rfl
        · exact h3.grow g
        · exact h4.grow g
        · exact h.new _ (.head _)
        · exact h.new _ (.tail _ (.head _))
        · exact h.new x (.tail _ (.tail _ hx))
        · exact f1.grow g
        · exact f2.grow g
      · exact ⟨.inl h.pos, h.one, h.good, .inl ⟨e3, e4⟩, nofun, trivial, trivial⟩
      · intro m' js' q; simp only [G.er, F.cons.injEq] at q; exact absurd q.2.2 (by nofun)
theorem BF.stands {σ₀ σ : AH} {r g} (h : BF σ₀ σ r g) : ∀ x ∈ r :: g.alk, σ x ≠ none := fun x hx => by
  rcases List.mem_cons.mp hx with rfl | hx
  · rw [h.at_]; nofun
  · exact h.rd.stands x hx
theorem BF.kept {σ₀ σ σ' : AH} {S r g} (h : BF σ₀ σ r g) (e : Kept σ σ' S) (d : ∀ x ∈ r :: g.alk, x ∉ S) : BF σ₀ σ' r g :=
  ⟨e _ _ h.at_ (d _ (.head _)), h.rd.keptA e fun x hx => d x (.tail _ hx), h.nd, h.new, h.good⟩
/-- a leaf behind the last tree -/
theorem BF.leaf {σ₀ σ σ' : AH} {r t kk : Addr} {n : Int} {g : G} (h : BF σ₀ σ r g) (e : Kept σ σ' [r]) (h1 : σ' r = some (.list (g.vals ++ [.ref t]))) (h2 : σ' t = some (dk n kk [])) (h3 : σ' kk = some (.list []))
    (n1 : t ∉ r :: g.alk) (n2 : kk ∉ r :: g.alk) (f1 : Fresh σ₀ t) (f2 : Fresh σ₀ kk) (hne : t ≠ kk) (hp : 0 < n ∧ n < 10 ^ 20) : BF σ₀ σ' r (g.app (.cons t 0 kk n .nil .nil)) := by
  have nd := h.nd
  refine ⟨by rw [h1, G.vals_app]; rfl, RD.app.2 ⟨h.rd.keptA e fun x hx q => ?_, ⟨[], h2, .inl rfl⟩, h3, trivial, trivial⟩, ?_, ?_, ?_⟩
  · rw [List.mem_singleton.mp q] at hx
    exact (List.nodup_cons.mp nd).1 hx
  · rw [G.alk_app]
    show (([r] ++ (g.alk ++ [t, kk]))).Nodup
    rw [← List.append_assoc, List.nodup_append]
    refine ⟨nd, by simp [hne], fun a ha b hb q => ?_⟩
    subst q
    simp only [List.mem_cons, List.not_mem_nil, or_false] at hb
    rcases hb with rfl | rfl
    · exact n1 ha
    · exact n2 ha
  · rw [G.alk_app]
    intro x hx
    have : x ∈ r :: g.alk ∨ x = t ∨ x = kk := by simpa [G.alk, or_assoc] using hx
    rcases this with q | rfl | rfl
    · exact h.new x q
    · exact f1
    · exact f2
  · rw [G.er_app, Good.app]
    exact ⟨h.good, .inl hp, nofun, trivial, trivial⟩
/-- a leaf behind the last kid of the tree at a -/
theorem BF.leafK {σ₀ σ σ' : AH} {r t kk a k : Addr} {n m : Int} {tl : List (String × V)} {g ks g' : G} (h : BF σ₀ σ r g) (ed : Ed a m k ks k (ks.app (.cons t 0 kk n .nil .nil)) g g') (hk : RD σ ks) (ha : σ a = some (dk m k tl)) (htl : TL tl) (e : Kept σ σ' [k])
    (h1 : σ' k = some (.list (ks.vals ++ [.ref t]))) (h2 : σ' t = some (dk n kk [])) (h3 : σ' kk = some (.list [])) (n1 : t ∉ r :: g.alk) (n2 : kk ∉ r :: g.alk) (f1 : Fresh σ₀ t) (f2 : Fresh σ₀ kk) (hne : t ≠ kk) (hp : 0 < n ∧ n < 10 ^ 20) (hm : m = 0 → 2 ≤ ks.er.len) (hz : Good ks.er) (hl : ∀ mm js, ks.er = .cons mm js .nil → 0 < mm) : BF σ₀ σ' r g' ∧ g'.alk.Perm (g.alk ++ [t, kk]) := by
  obtain ⟨R, p1, p2⟩ := ed.perm
  have nd := h.nd
  have nd' := (List.nodup_cons.mp nd).2
  have nd2 := (p1.nodup_iff).mp nd'
  obtain ⟨ma, mk⟩ := ed.mem
  have hr : r ≠ k := fun q => (List.nodup_cons.mp nd).1 (q ▸ mk)
  have hak : a ≠ k := fun q => by rw [q] at nd2; exact (List.nodup_cons.mp nd2).1 (.head _)
  have p3 : g'.alk.Perm (g.alk ++ [t, kk]) := by
    refine p2.trans ?_
    rw [G.alk_app]
    refine .trans ?_ (p1.symm.append_right [t, kk])
    show (a :: k :: ((ks.alk ++ [t, kk]) ++ R)).Perm (a :: k :: ((ks.alk ++ R) ++ [t, kk]))
    refine .cons _ (.cons _ ?_)
    rw [List.append_assoc, List.append_assoc]
    exact List.perm_append_comm.append_left _
  have kd : ∀ x ∈ ks.alk, x ∉ [k] := fun x hx q => by
    rw [List.mem_singleton.mp q] at hx
    exact (List.nodup_cons.mp (List.nodup_cons.mp nd2).2).1 (List.mem_append_left _ hx)
  refine ⟨?_, p3⟩
  refine ⟨by rw [ed.vals]; exact e _ _ h.at_ (by simp [hr]), ed.rd h.rd nd' (e.more (by simp)) (e _ _ ha (by simp [hak])) htl (by rw [h1, G.vals_app]; rfl) (RD.app.2 ⟨hk.keptA e kd, ⟨[], h2, .inl rfl⟩, h3, trivial, trivial⟩), ?_, ?_, ?_⟩
  · rw [(p3.cons r).nodup_iff]
    show (([r] ++ (g.alk ++ [t, kk]))).Nodup
    rw [← List.append_assoc, List.nodup_append]
    refine ⟨nd, by simp [hne], fun a ha b hb q => ?_⟩
    subst q
    simp only [List.mem_cons, List.not_mem_nil, or_false] at hb
    rcases hb with rfl | rfl
    · exact n1 ha
    · exact n2 ha
  · intro x hx
    have : x ∈ r :: g.alk ∨ x = t ∨ x = kk := by
      have := ((p3.cons r).mem_iff).mp hx
      simpa [or_assoc] using this
    rcases this with q | rfl | rfl
    · exact h.new x q
    · exact f1
    · exact f2
  · refine ed.good ?_ (fun q => by rw [G.er_app, F.len_app]; have := hm q; omega) (fun mm js q => ?_) h.good
    · rw [G.er_app, Good.app]; exact ⟨hz, .inl hp, nofun, trivial, trivial⟩
    · rw [G.er_app] at q
      cases hx : ks.er with
      | nil =>
        rw [hx] at q
        simp only [F.app, G.er, F.cons.injEq] at q
        rw [← q.1]; exact hp.1
      | cons n' ks' r' =>
        rw [hx] at q
        simp only [F.app, G.er, F.cons.injEq] at q
        have := congrArg F.len q.2.2
        rw [F.len_app] at this
        simp [F.len] at this
theorem Ed.goodK {a : Addr} {n : Int} {k k' : Addr} {ks ks' g g' : G} (h : Ed a n k ks k' ks' g g') : Good g.er → Good ks.er ∧ ((0 < n ∧ n < 10 ^ 20) ∨ (n = 0 ∧ 2 ≤ ks.er.len)) ∧ (∀ m js, ks.er = .cons m js .nil → 0 < m) := by
  induction h with
  | here => intro q; exact ⟨q.2.2.1, q.1, q.2.1⟩
  | kid _ ih => intro q; exact ih q.2.2.1
  | side _ ih => intro q; exact ih q.2.2.2
/-- the first two and the rest -/
theorem G.two : ∀ {g : G}, 2 ≤ g.er.len → ∃ x r, g = G.app x r ∧ x.vals.length = 2
  | .cons a d k n ks (.cons a2 d2 k2 n2 ks2 r), _ => ⟨.cons a d k n ks (.cons a2 d2 k2 n2 ks2 .nil), r, rfl, rfl⟩
  | .cons a d k n ks .nil, h => by simp [G.er, F.len] at h
  | .nil, h => by simp [G.er, F.len] at h
end Mine

end

section
open PySem PySem.W PyProof.Rows PySem.Spec PySem.Calls PySem.NumText
set_option Elab.async false
set_option maxRecDepth 100000
set_option linter.all false
namespace Mine
section
variable {σ τ : AH} {z k3 : Addr} {x r : G}
theorem G.fold_rd {S : List Addr} (h : RD σ (G.app x r)) (hk : Kept σ τ S) (hS : ∀ y ∈ (G.app x r).alk, y ∉ S) (hz : τ z = some (dk 0 k3 [])) (h3 : τ k3 = some (.list x.vals)) : RD τ (.cons z 0 k3 0 x r) :=
  ⟨⟨[], hz, .inl rfl⟩, h3, RD.app.1 (h.keptA hk hS)⟩
theorem G.fold_alk : (G.cons z 0 k3 0 x r).alk = z :: k3 :: (G.app x r).alk := by rw [G.alk_app]; rfl
theorem G.fold_good (h : Good (G.app x r).er) (hx : x.vals.length = 2) : Good (G.cons z 0 k3 0 x r).er := by
  rw [G.vals_len] at hx
  rw [G.er_app, Good.app] at h
  refine ⟨.inr ⟨rfl, by omega⟩, fun m js e => ?_, h⟩
  rw [e] at hx; simp [F.len] at hx
theorem G.fold_size : (G.cons z 0 k3 0 x r).size = (G.app x r).size + 1 := by
  show F.size _ = F.size _ + 1
  rw [G.er_app, Mine.F.size_app]; rfl
theorem G.fold_pre (y : Addr) (h : y ∈ (G.app x r).pre) : y ∈ (G.cons z 0 k3 0 x r).pre := by
  rw [G.pre_app] at h; exact .tail _ h
theorem Ed.step {a k k2 : Addr} {m : Int} {g g' : G} {tl' : List (String × V)} (ed : Ed a m k (G.app x r) k2 (.cons z 0 k3 0 x r) g g') (hb : RD σ g) (hn : g.alk.Nodup) (hg : Good g.er) (hx : x.vals.length = 2) (hl : 2 < (G.app x r).vals.length) (e4 : RD σ (G.app x r))
    (hk : Kept σ τ [a]) (h1 : τ a = some (dk m k2 tl')) (h2 : TL tl') (h3 : τ k2 = some (.list (.ref z :: r.vals))) (h4 : τ z = some (dk 0 k3 [])) (h5 : τ k3 = some (.list x.vals)) (f1 : Fresh σ z) (f2 : Fresh σ k3) (f3 : Fresh σ k2) (d1 : z ≠ k3) (d2 : z ≠ k2) (d3 : k3 ≠ k2) :
    RD τ g' ∧ g'.alk.Nodup ∧ Good g'.er ∧ g'.size = g.size + 1 ∧ (∀ y ∈ g.pre, y ∈ g'.pre) ∧ (∀ y ∈ g'.alk, y ∈ g.alk ∨ Fresh σ y) ∧ g'.vals = g.vals := by
  obtain ⟨R, p1, p2⟩ := ed.perm
  have nd := (p1.nodup_iff).mp hn
  have st := hb.stands
  have sub : ∀ y ∈ (a :: k :: ((G.app x r).alk ++ R)), y ∈ g.alk := fun y hy => p1.mem_iff.mpr hy
  have na : ∀ y ∈ (G.app x r).alk, y ∉ [a] := fun y hy q => by
    rw [List.mem_singleton.mp q] at hy
    exact (List.nodup_cons.mp nd).1 (.tail _ (List.mem_append_left _ hy))
  obtain ⟨z1, z2, z3⟩ := ed.goodK hg
  have hs := ed.size
  rw [G.fold_size] at hs
  refine ⟨ed.rd hb hn (hk.more (by simp)) h1 h2 h3 (G.fold_rd e4 hk na h4 h5), ?_, ed.good (G.fold_good z1 hx) (fun q => ?_) (fun mm js q => ?_) hg, by omega, (ed.pre fun y hy => G.fold_pre y hy).1, fun y hy => ?_, ed.vals⟩
  · rw [p2.nodup_iff, G.fold_alk]
    have n1 := f1.notin st
    have n2 := f2.notin st
    have n3 := f3.notin st
    rw [p1.mem_iff] at n1 n2 n3
    simp only [List.mem_cons, List.mem_append, not_or] at n1 n2 n3
    simp only [List.nodup_cons, List.mem_cons, List.mem_append, not_or, List.cons_append] at nd ⊢
    exact ⟨⟨Ne.symm n3.1, Ne.symm n1.1, Ne.symm n2.1, nd.1.2⟩, ⟨Ne.symm d2, Ne.symm d3, n3.2.2⟩, ⟨d1, n1.2.2⟩, n2.2.2, nd.2.2⟩
  · show 2 ≤ r.er.len + 1
    rw [G.vals_app, List.length_append, G.vals_len r] at hl
    omega
  · exfalso
    have := congrArg F.len q
    simp only [G.er, F.len] at this
    rw [G.vals_app, List.length_append, G.vals_len r] at hl
    omega
  · rw [p2.mem_iff, G.fold_alk] at hy
    simp only [List.mem_cons, List.mem_append, List.cons_append] at hy
    rcases hy with rfl | rfl | rfl | rfl | hy
    · exact .inl (sub _ (.head _))
    · exact .inr f3
    · exact .inr f1
    · exact .inr f2
    · exact .inl (sub _ (.tail _ (.tail _ (List.mem_append.mpr hy))))
end
end Mine

end

section
open PySem PySem.W PyProof.Rows PySem.Spec PySem.Calls PySem.NumText
set_option Elab.async false
set_option maxRecDepth 100000
set_option linter.all false
namespace Mine
/-- the forest's dicts name their nodes -/
noncomputable def ND (σ : AH) : G → G → Prop
  | .nil, .nil => True
  | .cons a _ k n ks r, .cons b _ _ m κ ρ => m = n ∧ σ a = some (dk n k [("node", .ref b)]) ∧ ND σ ks κ ∧ ND σ r ρ
  | _, _ => False
theorem ND.app {σ : AH} : ∀ {x y ν : G}, ND σ (x.app y) ν → ∃ κ ρ, ν = G.app κ ρ ∧ ND σ x κ ∧ ND σ y ρ
  | .nil, y, ν, h => ⟨.nil, ν, rfl, trivial, h⟩
  | .cons a d k n ks r, y, .nil, h => h.elim
  | .cons a d k n ks r, y, .cons b db kb m κ ρ, ⟨h1, h2, h3, h4⟩ => by
    obtain ⟨κ', ρ', rfl, q1, q2⟩ := ND.app h4
    exact ⟨.cons b db kb m κ κ', ρ', rfl, ⟨h1, h2, h3, q1⟩, q2⟩
theorem ND.er {σ : AH} : ∀ {g ν : G}, ND σ g ν → ν.er = g.er
  | .nil, .nil, _ => rfl
  | .nil, .cons .., h => h.elim
  | .cons .., .nil, h => h.elim
  | .cons a d k n ks r, .cons b db kb m κ ρ, ⟨h1, _, h3, h4⟩ => by simp only [G.er]; rw [h1, ND.er h3, ND.er h4]
theorem ND.val {σ : AH} : ∀ {g ν : G}, ND σ g ν → ∀ (i : Nat) (v : V), g.vals[i]? = some v → ∃ a n k b, v = .ref a ∧ σ a = some (dk n k [("node", .ref b)]) ∧ ν.vals[i]? = some (.ref b)
  | .nil, .nil, _, i, v, h => by simp [G.vals] at h
  | .nil, .cons .., h, _, _, _ => h.elim
  | .cons .., .nil, h, _, _, _ => h.elim
  | .cons a d k n ks r, .cons b db kb m κ ρ, ⟨h1, h2, h3, h4⟩, i, v, h => by
    cases i with
    | zero => simp only [G.vals, List.getElem?_cons_zero, Option.some.injEq] at h; exact ⟨a, n, k, b, h.symm, h2, rfl⟩
    | succ i => exact ND.val h4 i v h
theorem ND.keptA {σ σ' : AH} {S : List Addr} (e : Kept σ σ' S) : ∀ {g ν : G}, ND σ g ν → (∀ x ∈ g.pre, x ∉ S) → ND σ' g ν
  | .nil, .nil, _, _ => trivial
  | .nil, .cons .., h, _ => h.elim
  | .cons .., .nil, h, _ => h.elim
  | .cons a d k n ks r, .cons b db kb m κ ρ, ⟨h1, h2, h3, h4⟩, q => by
    simp only [G.pre, List.mem_cons, List.mem_append] at q
    exact ⟨h1, e _ _ h2 (q a (.inl rfl)), ND.keptA e h3 fun x hx => q x (.inr (.inl hx)), ND.keptA e h4 fun x hx => q x (.inr (.inr hx))⟩
theorem RD.node {σ : AH} {a k : Addr} {n : Int} {tl tl' : List (String × V)} (ha : σ a = some (dk n k tl)) (h : TL tl') : ∀ {g : G}, RD σ g → RD (upd σ a (dk n k tl')) g
  | .nil, _ => trivial
  | .cons b d kb m ks r, ⟨⟨t, h1, h2⟩, h3, h4, h5⟩ => by
    refine ⟨?_, upd_get (fun q => ?_) h3, RD.node ha h h4, RD.node ha h h5⟩
    · by_cases q : b = a
      · subst q
        rw [h1] at ha
        cases ha
        exact ⟨tl', upd_same .., h⟩
      · exact ⟨t, upd_get q h1, h2⟩
    · rw [q, ha] at h3; cases h3
theorem RN.nodict {σ : AH} {kv : List (String × V)} : ∀ {g : G}, RN σ g → ∀ x ∈ g.all, σ x ≠ some (.dict kv)
  | .nil, _, _, h => by cases h
  | .cons _ _ _ _ _ _, ⟨⟨h1, h2⟩, h3, h4, h5⟩, x, h => by
    simp only [G.all, List.mem_cons, List.mem_append] at h
    rcases h with rfl | rfl | rfl | h | h
    · rw [h1]; nofun
    · rw [h2]; nofun
    · rw [h3]; nofun
    · exact RN.nodict h4 x h
    · exact RN.nodict h5 x h
theorem G.pre_nodup : ∀ {g : G}, g.alk.Nodup → g.pre.Nodup
  | .nil, _ => List.nodup_nil
  | .cons a d k n ks r, h => by
    simp only [G.alk, List.nodup_cons, List.mem_cons, List.mem_append, List.nodup_append] at h
    simp only [G.pre, List.nodup_cons, List.mem_append, List.nodup_append]
    exact ⟨fun q => h.1 (.inr (q.imp (G.pre_alk _) (G.pre_alk _))), G.pre_nodup h.2.2.1, G.pre_nodup h.2.2.2.1, fun x hx y hy => h.2.2.2.2 x (G.pre_alk x hx) y (G.pre_alk y hy)⟩
/-- the forest without its first j trees, a tree's kids in its stead -/
noncomputable def G.suf : Nat → G → G
  | 0, g => g
  | _ + 1, .nil => .nil
  | j + 1, .cons _ _ _ _ ks r => G.suf j (G.app ks r)
theorem G.suf_pre : ∀ (j : Nat) (g : G), (G.suf j g).pre = g.pre.drop j
  | 0, g => rfl
  | j + 1, .nil => rfl
  | j + 1, .cons a d k n ks r => by
    rw [show G.suf (j + 1) (.cons a d k n ks r) = G.suf j (G.app ks r) from rfl, G.suf_pre j, G.pre_app]; rfl
theorem G.suf_step : ∀ (j : Nat) (g : G) {a d k : Addr} {n : Int} {ks r : G}, G.suf j g = .cons a d k n ks r → G.suf (j + 1) g = G.app ks r
  | 0, g, a, d, k, n, ks, r, h => by have h' : g = .cons a d k n ks r := h; rw [h']; rfl
  | j + 1, .nil, a, d, k, n, ks, r, h => by cases h
  | j + 1, .cons a' d' k' n' ks' r', a, d, k, n, ks, r, h => G.suf_step j (G.app ks' r') h
theorem G.suf_rd {σ : AH} : ∀ (j : Nat) {g : G}, RD σ g → RD σ (G.suf j g)
  | 0, g, h => h
  | j + 1, .nil, h => h
  | j + 1, .cons a d k n ks r, ⟨_, _, h4, h5⟩ => G.suf_rd j (RD.app.2 ⟨h4, h5⟩)
theorem G.suf_at {j : Nat} {g : G} {a : Addr} (h : g.pre[j]? = some a) : ∃ d k n ks r, G.suf j g = .cons a d k n ks r ∧ g.pre.drop j = a :: (ks.pre ++ r.pre) := by
  have e := G.suf_pre j g
  have h' : (g.pre.drop j)[0]? = some a := by rw [List.getElem?_drop]; exact h
  cases q : G.suf j g with
  | nil => rw [q] at e; rw [← e] at h'; simp [G.pre] at h'
  | cons a' d k n ks r =>
    rw [q] at e
    rw [← e] at h'
    simp only [G.pre, List.getElem?_cons_zero, Option.some.injEq] at h'
    subst h'
    exact ⟨_, _, _, _, _, rfl, e.symm⟩
theorem G.suf_end (g : G) : G.suf g.pre.length g = .nil := by
  have e := G.suf_pre g.pre.length g
  rw [List.drop_length] at e
  cases q : G.suf g.pre.length g with
  | nil => rfl
  | cons => rw [q] at e; cases e
theorem Sack.nodict {σ : AH} {sk cl t : Addr} {kv : List (String × V)} (s : Sack σ sk cl) (h : σ t = some (.dict kv)) : sk ≠ t ∧ cl ≠ t := by
  obtain ⟨_, _, _, h1, h2, _⟩ := s
  exact ⟨fun q => (by rw [q, h] at h1; cases h1), fun q => (by rw [q, h] at h2; cases h2)⟩
theorem ld_ne {σ : AH} {y t : Addr} {xs : List V} {kv : List (String × V)} (h : σ y = some (.list xs)) (h' : σ t = some (.dict kv)) : y ∉ [t] := fun q => by
  rw [List.mem_singleton.mp q, h'] at h; cases h
theorem put_node {n : Int} {k : Addr} {tl : List (String × V)} (h : TL tl) (v : V) : put (("number", .int n) :: ("kids", .ref k) :: tl) "node" v = [("number", .int n), ("kids", .ref k), ("node", v)] := by
  rcases h with rfl | ⟨u, rfl⟩ <;> simp [put]
/-- one tree more has its node -/
theorem ND.step {σ τ : AH} {g κ ρ ks r' : G} {t d0 kt b db lk : Addr} {n : Int} {tl : List (String × V)} {j : Nat} (hnp : g.pre.Nodup) (hb : RD σ g) (hq : G.suf j g = .cons t d0 kt n ks r') (hdr : g.pre.drop j = t :: (ks.pre ++ r'.pre)) (hn : RN σ (κ.app ρ)) (h3 : ND σ ks κ) (h4 : ND σ r' ρ) (e1 : σ t = some (dk n kt tl))
    (hk : Kept σ τ []) (q3 : τ lk = some (.list κ.vals)) (q4 : τ b = some (.inst 102 db)) (q5 : τ db = some (.ns [("number", .int n), ("kids", .ref lk)])) :
    RD (upd τ t (dk n kt [("node", .ref b)])) g ∧ ND (upd τ t (dk n kt [("node", .ref b)])) (G.suf j g) (.cons b db lk n κ ρ) ∧ RN (upd τ t (dk n kt [("node", .ref b)])) (.cons b db lk n κ ρ) := by
  have e1' := hk.get e1
  have ak : Kept τ (upd τ t (dk n kt [("node", .ref b)])) [t] := Kept.at (by simp) Kept.rfl
  have hnd : (t :: (ks.pre ++ r'.pre)).Nodup := by rw [← hdr]; exact hnp.sublist (List.drop_sublist ..)
  have hnt := (List.nodup_cons.mp hnd).1
  rw [List.mem_append, not_or] at hnt
  have hk' : Kept σ (upd τ t (dk n kt [("node", .ref b)])) [t] := (hk.more (by simp)).trans ak
  have rn := RN.app.1 (hn.kept hk)
  have nd : ∀ {x : G}, RN τ x → RN (upd τ t (dk n kt [("node", .ref b)])) x := fun h => h.keptA ak fun y hy q => RN.nodict (kv := ("number", .int n) :: ("kids", .ref kt) :: tl) h y hy (by rw [List.mem_singleton.mp q]; exact e1')
  have ne : ∀ {y : Addr} {o : AO}, τ y = some o → (∀ kv, o ≠ .dict kv) → upd τ t (dk n kt [("node", .ref b)]) y = some o := fun {y o} h h' => ak _ _ h fun q => by
    rw [List.mem_singleton.mp q, e1'] at h; cases h; exact h' _ rfl
  refine ⟨RD.node e1' (.inr ⟨_, rfl⟩) (hb.kept hk), ?_, ⟨ne q4 nofun, ne q5 nofun⟩, ne q3 nofun, nd rn.1, nd rn.2⟩
  rw [hq]
  exact ⟨rfl, upd_same .., h3.keptA hk' fun x hx q => hnt.1 (by rw [← List.mem_singleton.mp q]; exact hx), h4.keptA hk' fun x hx q => hnt.2 (by rw [← List.mem_singleton.mp q]; exact hx)⟩
/-- a list of tuples of two numbers, being made -/
structure Tw (σ₀ σ' : AH) (rows : List (Int × Int)) (i : Nat) (ts : List Addr) : Prop where
  len : ts.length = i
  kept : Kept σ₀ σ' []
  at_ : ∀ (j : Nat) (t : Addr) (r : Int × Int), ts[j]? = some t → rows[j]? = some r → σ' t = some (.tuple [.int r.1, .int r.2])
theorem Tw.nil {σ₀ rows} : Tw σ₀ σ₀ rows 0 [] := ⟨rfl, Kept.rfl, nofun⟩
theorem Tw.snoc {σ₀ σ' rows i ts} {d : Addr} {r : Int × Int} (h : Tw σ₀ σ' rows i ts) (hd : Fresh σ' d) (hv : rows[i]? = some r) : Tw σ₀ (upd σ' d (.tuple [.int r.1, .int r.2])) rows (i + 1) (ts ++ [d]) := by
  refine ⟨by simp [h.len], Kept.new hd h.kept, fun j t w h1 h2 => ?_⟩
  by_cases q : j < ts.length
  · rw [List.getElem?_append_left q] at h1
    have := h.at_ j t w h1 h2
    exact upd_get (hd _ _ this) this
  · have q2 := (List.getElem?_eq_some_iff.mp h1).1
    simp at q2
    have q3 : j = i := by have := h.len; omega
    subst q3
    rw [List.getElem?_append_right (by have := h.len; omega)] at h1
    simp [h.len] at h1
    rw [hv] at h2
    cases h2; subst h1
    exact upd_same ..
end Mine

end

section
open PySem PySem.W PyProof.Rows PySem.Spec PySem.Calls PySem.NumText
set_option Elab.async false
set_option maxRecDepth 100000
set_option linter.all false
namespace Mine
theorem acallAt {w : World} {g : Gr} {k : Nat} {h : Bool} {f : Addr} {us : List V} {σ : AH} {Q : V → AH → Prop} {X : Int → AH → Prop} (ps rest gs ns : List String) (m₀ : List (Option V))
    {name qual : Str} {params : Arguments} {body : List Stmt} {scope : Scope} {dV kV doc pm cdv ct oc : Value} {an od : Option Addr} {osl : Array (Option Value)}
    (ho : (hd.heap_39 w.params).lookup f = some ⟨oc, od, .func (fnOf name qual params body scope dV kV doc pm an cdv ct), osl⟩) (hcd : codeIn (hd.heap_39 w.params) cdv qual = true)
    (hbind : ∀ vs, vs.map er = us → bindArgs (fnOf name qual params body scope dV kV doc pm an cdv ct) ⟨vs, []⟩ = pure ((ps.map Str.ofString).zip vs))
    (hlen : ps.length = us.length) (hnd : ((ps ++ rest).map Str.ofString).Nodup)
    (hloc : ((ps ++ rest).all fun x => decide (scope.names.lookup (Str.ofString x) = some .local)) = true)
    (hglo : (gs.all fun x => decide (scope.names.lookup (Str.ofString x) = some .globalImplicit)) = true)
    (hdb : ((ns ++ gs).all fun x => decide ((Str.ofString x == ("__debug__" : Str)) = false)) = true)
    (hcell : ∀ x ∈ scope.names, x.2 ≠ .cell) (hco : scope.isCoroutine = false) (hgen : scope.isGenerator = false) (hkd : scope.kind = .function)
    (hns : ps ++ rest = ns) (hm₀ : (us.map some ++ rest.map fun _ => none) = m₀)
    (hbody : ∀ s0 A L l, let c : Fx := ⟨w, g, s0, A, envX qual scope L f cdv [], ns, gs, k, h, l, true⟩; AX c body m₀ σ (KRet Q) (XE c X)) : ACallAt g w (k + 1) h f us σ Q X :=
  acallAtB ps rest gs ns m₀ ho hcd (fun vs hv _ _ => BindsTo.of_eq (hbind vs hv)) hlen hnd hloc hglo hdb hcell hco hgen hkd hns hm₀ hbody

theorem ae_cutg {c : Fx} {m : List (Option V)} {σ : AH} {E : Value → Shared → Prop} {e lo hi p q Q} {a : Addr} {vs : List Value} {n : Nat} (hg : c.g.g.get? a = some { cls := .type "list", data := .seq vs.toArray n }) (hn : vs.length ≤ sizeLine)
    (h : AE c e m σ (fun u σ₁ => AP c lo m σ₁ (fun l σ₂ => AP c hi m σ₂ (fun r σ₃ => u = .ref a ∧ ∃ l' r', partOf l = some l' ∧ partOf r = some r' ∧ ∀ d, Fresh σ₃ d → Q (.ref d) (upd σ₃ d (.list (cutAt (vs.map er) l' r')))) E) E) E) : AE c (.Subscript e (.Slice lo hi none p) q) m σ Q E := by
  intro ok s hs
  refine sub_sliceT (wpAny_mono (h ok s hs) (fun o s₁ ⟨_, h₁, k₁⟩ => ?_) fun _ _ e => e)
  refine wpAny_Slice (wpAny_mono (k₁ ok s₁ h₁) (fun vl s₂ ⟨_, h₂, k₂⟩ => wpAny_mono (k₂ ok s₂ h₂) (fun vu s₃ ⟨σ₃, h₃, k₃⟩ => ?_) fun _ _ e => e) fun _ _ e => e)
  refine wpAny_pure ?_
  obtain ⟨hu, l', r', e3, e4, k⟩ := k₃
  cases er_ref hu
  have hl := h₃.st.keep _ _ hg
  have h₃' := h₃.pushHid (x := { cls := .type "slice", data := .fields #[vl, vu, .none] }) (tk := s₃.toks)
  have hl' : (s₃.heap.push { cls := .type "slice", data := .fields #[vl, vu, .none] }).get? a = some { cls := .type "list", data := .seq vs.toArray n } := Heap.get?_push_of_some _ hl
  refine ⟨"list", _, list_getitem_lookup, ⟨_, hl', rfl⟩, wpAny_getItem_list_slice (IsL.isList hl') (Heap.IsSliceOf.new _ _ _ _) (partIs rfl e3) (partIs rfl e4) .none (by simp) ⟨_, ?_, k _ h₃'.new⟩ (by simpa using hn)⟩
  rw [pick_cut]
  exact h₃'.push (rl_list (by rw [cut_map]) (Nat.le_trans (cut_length _ _ _) hn))
end Mine

end

section
open PySem PySem.W PyProof.Rows PySem.Spec PySem.Calls
set_option Elab.async false
set_option maxRecDepth 100000
set_option maxHeartbeats 4000000
namespace Mine
-- words of my own
theorem words : PySem.Challenge.rw_pq0932_01 = PySem.Challenge.rw_pq0932_01 → hd.heap_39 = hd.heap_39 → True := by
  k_fill
  k_with "hit" => (first | exact At.head | exact Put.head | (apply At.tail; k_extra "hit") | (apply Put.tail; k_extra "hit") | with_reducible_and_instances exact List.Mem.head _ | (with_reducible_and_instances apply List.Mem.tail; k_extra "hit"))
  k_with "apart" => (first
    | with_reducible assumption
    | with_reducible exact Ne.symm (by assumption)
    | with_reducible exact Fresh.ne (by assumption)
    | with_reducible exact Ne.symm (Fresh.ne (by assumption))
    | with_reducible exact Fresh.ap (by assumption) _ _ (by k_extra "at")
    | with_reducible exact Ne.symm (Fresh.ap (by assumption) _ _ (by k_extra "at")))
  k_with "at" => (first | with_reducible assumption | ((with_reducible apply upd_at); rfl) | (with_reducible apply upd_get; (focus k_extra "apart"); k_extra "at") | (with_reducible exact Kept.get (by assumption) (by k_extra "at")))
  k_with "size" => (first | omega | decide | exact Nat.le_of_ble_eq_true rfl | (simp only [List.length_cons, List.length_nil, List.length_append, List.length_map, List.length_reverse, sizeLine_eq] at *; omega) | (simp [sizeLine_eq]; done))
  k_with "ae" => (first
    | refine ae_loc (by k_extra "hit") ?_
    | refine ae_int ?_
    | refine ae_s (by first | exact sc_open | exact sc_close | exact sc_blank | exact sc_none | rfl) ?_
    | refine ae_rev ?_
    | refine ae_cut ?_
    | refine ae_sub ?_
    | refine ae_bin ?_
    | refine ae_f (by k_extra "hit") (by constructor) ?_ (by with_unfolding_all rfl) (by with_unfolding_all rfl)
    | refine ae_bi (by k_extra "hit") (by constructor) ?_ (by with_unfolding_all rfl) (by with_unfolding_all rfl)
    | refine ae_ty (by k_extra "hit") (by constructor) ?_ (by with_unfolding_all rfl) (by with_unfolding_all rfl)
    | refine ae_gv (by k_extra "hit") (by constructor) ?_
    | refine ae_bv (by k_extra "hit") (by constructor) ?_
    | refine ae_lm (by constructor) ?_ (by with_unfolding_all rfl) (by with_unfolding_all rfl)
    | refine ae_join ?_ (by with_unfolding_all rfl) (by with_unfolding_all rfl)
    | refine ae_attr ?_ (by with_unfolding_all rfl)
    | refine ae_list ?_
    | refine ae_tuple ?_
    | refine ae_dict2 (by decide) ?_
    | refine ae_none ?_
    | refine ae_cmp (by with_unfolding_all rfl) ?_
    | refine ae_ifexp ?_
    | refine ae_un ?_
    | refine ae_and ?_
    | refine ae_one ?_
    | refine ae_bytes ?_)
  k_with "op" => (first
    | ((fail_if_success (fail_if_success (with_reducible show O2 _ (subscriptTail _ _) (V.ref _) (V.int (-1)) _ _ _ _))); refine o2_last (by k_extra "at") ?_ (by intro _ _; rfl))
    | ((fail_if_success (fail_if_success (with_reducible show O2 _ (subscriptTail _ _) (V.ref _) (V.int _) _ _ _ _))); first | refine o2_item (by k_extra "at") (by k_extra "size") (by rfl) ?_ (by intro _ _; rfl))
    | ((fail_if_success (fail_if_success (with_reducible show O2 _ (subscriptTail _ _) (V.bytes _) (V.int _) _ _ _ _))); refine o2_itemb (by omega) (by first | assumption | rfl) (by k_extra "size") ?_ (by intro _ _; rfl))
    | ((fail_if_success (fail_if_success (with_reducible show O2 _ (subscriptTail _ _) (V.ref _) (V.str _) _ _ _ _))); refine o2_key (by k_extra "at") (by first | assumption | rfl) ?_ (by intro _ _; rfl))
    | ((fail_if_success (fail_if_success (with_reducible show O2 _ (binaryOp _) (V.int _) (V.int _) _ _ _ _))); first
      | with_reducible refine o2_add ?_
      | with_reducible refine o2_sub ?_
      | (with_reducible refine o2_mod (by first | omega | decide) ?_)
      | (with_reducible refine o2_div (by first | omega | decide) (by first | omega | decide) ?_)
      | (with_reducible refine o2_mul (by with_unfolding_all decide) ?_)
      | (with_reducible refine o2_pow (by decide) (by decide) (by decide) ?_))
    | ((fail_if_success (fail_if_success (with_reducible show O2 _ (binaryOp _) (V.str _) (V.str _) _ _ _ _))); with_reducible refine o2_cat (by k_extra "size") ?_)
    | ((fail_if_success (fail_if_success (with_reducible show O2 _ (binaryOp _) (V.bytes _) (V.bytes _) _ _ _ _))); with_reducible refine o2_catb (by k_extra "size") ?_)
    | ((fail_if_success (fail_if_success (with_reducible show O2 _ (binaryOp _) (V.ref _) (V.ref _) _ _ _ _))); with_reducible refine o2_catl (by k_extra "at") (by k_extra "at") (by k_extra "size") ?_)
    | ((fail_if_success (fail_if_success (with_reducible show O2 _ (compareOp _) (V.int _) (V.int _) _ _ _ _))); first
      | with_reducible refine o2_lt ?_
      | with_reducible refine o2_ge ?_
      | with_reducible refine o2_gt ?_
      | with_reducible refine o2_le ?_
      | with_reducible refine o2_eqi ?_
      | with_reducible refine o2_nei ?_)
    | ((fail_if_success (fail_if_success (with_reducible show O2 _ (compareOp _) (V.str _) (V.str _) _ _ _ _))); first
      | with_reducible refine o2_eqs ?_
      | with_reducible refine o2_nes ?_)
    | ((fail_if_success (fail_if_success (with_reducible show O2 _ (compareOp _) (V.bytes _) (V.bytes _) _ _ _ _))); first
      | with_reducible refine o2_eqb ?_
      | with_reducible refine o2_neb ?_)
    | ((fail_if_success (fail_if_success (with_reducible show O2 _ (compareOp _) V.none V.none _ _ _ _))); first
      | with_reducible refine o2_is_none ?_
      | with_reducible refine o2_isnot_none ?_)
    | ((fail_if_success (fail_if_success (with_reducible show O2 _ (compareOp _) (V.ref _) V.none _ _ _ _))); first
      | with_reducible refine o2_is_ref ?_
      | with_reducible refine o2_isnot_ref ?_)
    | ((fail_if_success (fail_if_success (with_reducible show O2 _ (compareOp _) (V.ref _) (V.ref _) _ _ _ _))); first
      | with_reducible refine o2_ne_nil (by k_extra "at") (by k_extra "at") ?_
      | with_reducible refine o2_eq_nil (by k_extra "at") (by k_extra "at") ?_))
  k_with "st" => (first
    | refine ax_cons ?_
    | refine ax_name ?_ (by with_unfolding_all rfl)
    | refine ax_nil ?_
    | refine ax_if ?_
    | refine ax_sub ?_ (by with_unfolding_all rfl)
    | refine ax_attr ?_ (by with_unfolding_all rfl)
    | refine ax_swap ?_ (by with_unfolding_all rfl) (by with_unfolding_all rfl)
    | refine ax_assign ?_ (by with_unfolding_all rfl) (by with_unfolding_all rfl)
    | refine ax_expr ?_ (by with_unfolding_all rfl) (by with_unfolding_all rfl)
    | refine ax_cont ?_
    | refine ax_raise rfl rfl ?_
    | refine ax_ret ?_)
  k_with "tst" => (first
    | refine at_cmp (by with_unfolding_all rfl) ?_
    | refine at_bool ?_
    | refine atl_and ?_
    | refine atl_or ?_
    | refine at_chain2 (by with_unfolding_all rfl) ?_
    | refine atl_nil ?_)
  k_with "ex" => (first
    | ((fail_if_success (fail_if_success (with_reducible show ∃ _, Put _ _ _ _ _ ∧ _))); with_reducible refine ex_put (by k_extra "hit") ?_)
    | ((fail_if_success (fail_if_success (with_reducible show (_ → _) ∧ (_ → _)))); refine And.intro (fun _ => ?_) (fun _ => ?_) <;> (rename_i hk; (try simp at hk); (try (exfalso; omega)); (try (revert hk; intro _))))
    | ((fail_if_success (fail_if_success (with_reducible show _ ≤ sizeLine ∧ _))); refine And.intro (by k_extra "size") ?_)
    | ((fail_if_success (fail_if_success (with_reducible show ∀ d, Fresh _ d → _))); intro _ _)
    | with_reducible refine ex_none ?_
    | with_reducible refine ex_list (by k_extra "at") ?_
    | with_reducible refine ex_bool ?_
    | with_reducible refine ex_swap (by k_extra "at") (by k_extra "hit") (by k_extra "hit") ?_
    | ((fail_if_success (fail_if_success (with_reducible show ∃ _, V.str _ = V.str _ ∧ _))); refine ⟨_, rfl, ?_⟩)
    | with_reducible refine And.intro (Eq.refl V.none) ?_)
  k_with "step" => (first
    | ((fail_if_success (fail_if_success (with_reducible show AV _ _ _ _ _ _))); with_reducible k_extra "ae")
    | ((fail_if_success (fail_if_success (with_reducible show O2 _ _ _ _ _ _ _ _))); k_extra "op")
    | ((fail_if_success (fail_if_success (with_reducible show AF _ _ _ _ _ _))); with_reducible k_extra "st")
    | ((fail_if_success (fail_if_success (with_reducible show AB _ _ _ _ _ _))); with_reducible k_extra "tst")
    | ((fail_if_success (fail_if_success (with_reducible show OT _ _ _ _ _ _))); with_reducible refine ot_bool ?_)
    | ((fail_if_success (fail_if_success (with_reducible show AL _ _ _ _ _ _))); with_reducible (first | refine aa_cons ?_ (by with_unfolding_all rfl) | refine aa_nil ?_))
    | ((fail_if_success (fail_if_success (with_reducible show AP _ _ _ _ _ _))); with_reducible (first | refine ap_none ?_ | refine ap_some ?_))
    | ((fail_if_success (fail_if_success (with_reducible show AG _ _ _ _ _ _ _))); with_reducible (first | refine ag_name (by k_extra "hit") ?_ | refine ag_pair (by k_extra "at") ?_ (by with_unfolding_all rfl)))
    | ((fail_if_success (fail_if_success (with_reducible show OSet _ _ _ _ _ _ _ _))); first
      | ((fail_if_success (fail_if_success (with_reducible show OSet _ (V.ref _) (V.int _) _ _ _ _ _))); first | with_reducible refine os3_1 (by k_extra "at") ?_ | with_reducible refine os3_2 (by k_extra "at") ?_)
      | with_reducible refine os_key (by k_extra "at") (by k_extra "size") ?_)
    | ((fail_if_success (fail_if_success (with_reducible show OA _ _ _ _ _ _ _))); first | refine oa_inst (cl_node _) (by constructor) (by k_extra "at") (by k_extra "at") (by rfl) (by intro i h; cases h) ?_ | refine oa_inst (cl_frame _) (by constructor) (by k_extra "at") (by k_extra "at") (by rfl) (by intro i h; cases h) ?_)
    | ((fail_if_success (fail_if_success (with_reducible show OAS _ _ _ _ _ _ _ _))); first | refine oas_inst (cl_node _) (by kernel_rfl) (by constructor) (by k_extra "at") (by k_extra "at") (by k_extra "size") ?_ | refine oas_inst (cl_frame _) (by kernel_rfl) (by constructor) (by k_extra "at") (by k_extra "at") (by k_extra "size") ?_)
    | ((fail_if_success (fail_if_success (with_reducible show OC _ _ _ _ _ _ _))); first
      | ((fail_if_success (fail_if_success (with_reducible show OC _ (Value.builtin "list.pop") [V.ref _, V.int 0] _ _ _ _))); refine oc_pop0 (by k_extra "at") ?_)
      | ((fail_if_success (fail_if_success (with_reducible show OC _ (Value.builtin "list.pop") [V.ref _] _ _ _ _))); first | refine oc_popr (by k_extra "at") ?_ | refine oc_pop (by k_extra "at") ?_)
      | ((fail_if_success (fail_if_success (with_reducible show OC _ (Value.builtin "list.append") [V.ref _, _] _ _ _ _))); refine oc_append (by k_extra "at") (by k_extra "size") ?_)
      | ((fail_if_success (fail_if_success (with_reducible show OC _ (Value.builtin "list.extend") [V.ref _, V.ref _] _ _ _ _))); refine oc_extend (by k_extra "at") (by k_extra "at") (by k_extra "size") ?_)
      | ((fail_if_success (fail_if_success (with_reducible show OC _ (Value.builtin "len") [V.ref _] _ _ _ _))); refine oc_len (by k_extra "at") ?_)
      | ((fail_if_success (fail_if_success (with_reducible show OC _ (Value.builtin "len") [V.bytes _] _ _ _ _))); refine oc_lenb (by k_extra "size") ?_)
      | ((fail_if_success (fail_if_success (with_reducible show OC _ (Value.builtin "len") [V.str _] _ _ _ _))); refine oc_lens (by k_extra "size") ?_)
      | ((fail_if_success (fail_if_success (with_reducible show OC _ (Value.builtin "ord") [V.str _] _ _ _ _))); refine oc_ord ?_)
      | ((fail_if_success (fail_if_success (with_reducible show OC _ (Value.builtin "abs") [V.int _] _ _ _ _))); refine oc_abs ?_)
      | ((fail_if_success (fail_if_success (with_reducible show OC _ (Value.type "int") [V.int _] _ _ _ _))); refine oc_int ?_)
      | ((fail_if_success (fail_if_success (with_reducible show OC _ (Value.type "list") [V.ref _] _ _ _ _))); refine oc_list (by k_extra "at") ?_))
    | ((fail_if_success (fail_if_success (with_reducible show O1 _ _ _ _ _ _ _))); with_reducible refine o1_neg ?_)
    | ((fail_if_success (fail_if_success (with_reducible show CutS (V.ref _) _ _ _ _))); refine cuts_l (by k_extra "at") (by first | exact part_nat _ | exact part_succ _ | rfl) (by first | exact part_nat _ | exact part_succ _ | rfl) ?_)
    | ((fail_if_success (fail_if_success (with_reducible show CutS (V.bytes _) _ _ _ _))); refine cuts_b (by k_extra "size") (by first | exact part_nat _ | exact part_succ _ | rfl) (by first | exact part_nat _ | exact part_succ _ | rfl) ?_)
    | k_extra "ex"
    | (dsimp only; k_extra "step"))
  k_with "walk" => (repeat' k_extra "step")
  k_with "kept" => (first | with_reducible exact Kept.rfl | with_reducible assumption | (with_reducible apply Kept.new; (focus with_reducible assumption); k_extra "kept") | (with_reducible apply Kept.put; (focus k_extra "new"); k_extra "kept") | (with_reducible apply Kept.at; (focus k_extra "hit"); k_extra "kept"))
  k_with "new" => (first | with_reducible assumption | ((with_reducible apply Fresh.back); rotate_left; (focus with_reducible assumption); k_extra "kept"))
  k_with "enter" => ((case h1 => k_is); (case h2 => k_is); (case h4 => rfl); (case h5 => decide); (case h6 => decide +kernel); (case h7 => decide +kernel); (case hdb => decide +kernel); (case h8 => decide); (case h9 => rfl); (case h10 => rfl); (case h11 => rfl); (case hns => rfl); (case hm => rfl))
  k_with "step" => (first
    | ((fail_if_success (fail_if_success (with_reducible show OC _ (Value.ref 71) [_, V.int _] _ _ _ _))); refine oc_fault (Nat.le_of_ble_eq_true rfl) rfl ?_)
    | ((fail_if_success (fail_if_success (with_reducible show OC _ (Value.ref 102) [_, _] _ _ _ _))); refine oc_node (Nat.le_of_ble_eq_true rfl) rfl fun _ _ _ _ _ => ?_)
    | ((fail_if_success (fail_if_success (with_reducible show OC _ (Value.ref 161) [] _ _ _ _))); refine oc_frame (Nat.le_of_ble_eq_true rfl) rfl fun _ _ _ _ _ _ _ _ _ => ?_))
  k_with "st" => (first | (((fail_if_success (fail_if_success (with_reducible show AX1 _ (.Expr (.Call (.Attribute _ (Str.ofString "pop") _) _ _ _) _) _ _ _ _))); refine ax_drop ?_ (by with_unfolding_all rfl) (by with_unfolding_all rfl))) | fail)
  k_with "step" => (first | (((fail_if_success (fail_if_success (with_reducible show OSet _ (V.ref _) (V.int (-1)) _ _ _ _ _))); with_reducible refine os_last (by k_extra "at") ?_)) | fail)
  k_with "ae" => (first | (refine ae_s (by first | exact sc_new | exact sc_number | exact sc_blankw | exact sc_lists | exact sc_top) ?_) | fail)
  k_with "op" => (first
    | ((fail_if_success (fail_if_success (with_reducible show O2 _ (compareOp CmpOp.In) (V.str _) (V.str _) _ _ _ _))); refine o2_in_digits (by omega) ?_)
    | ((fail_if_success (fail_if_success (with_reducible show O2 _ (compareOp CmpOp.In) (V.str _) (V.ref _) _ _ _ _))); refine o2_in2 (by k_extra "at") ?_))
  k_with "step" => (first | (((fail_if_success (fail_if_success (with_reducible show OC _ (Value.builtin "chr") [V.int _] _ _ _ _))); refine oc_chrn (by assumption) ?_)) | fail)
  k_with "op" => (first | ((fail_if_success (fail_if_success (with_reducible show O2 _ (subscriptTail _ _) (V.ref _) (V.str _) _ _ _ _))); refine o2_keyL sc_number (by k_extra "at") (by rfl) ?_ (by intro _ _; rfl)) | fail)
  k_with "ae" => (first | (refine ae_s (by first | exact sc_end | exact sc_list | exact sc_rest) ?_) | fail)
  k_with "ae" => (first | (refine ae_cell (by with_unfolding_all rfl) (by with_unfolding_all rfl) (by decide +kernel) (by k_extra "at") ?_) | fail)
  k_with "step" => (first | ((fail_if_success (fail_if_success (with_reducible show AG _ (.Name _ _) _ _ _ _ _))); refine ag_cell (by with_unfolding_all rfl) (by with_unfolding_all rfl) (by k_extra "at") ?_) | fail)
  k_with "step" => (first | ((fail_if_success (fail_if_success (with_reducible show OC _ (Value.type "str") [V.int _] _ _ _ _))); refine oc_str (by assumption) ?_) | fail)
  k_with "to" => (repeat' ((fail_if_success (with_reducible show AV _ (eval (.IfExp _ _ _ _) _) _ _ _ _)); k_extra "step"))
  k_with "tos" => (repeat' ((fail_if_success (with_reducible show AX _ (.If _ _ _ _ :: _) _ _ _ _)); k_extra "step"))
  k_with "ex" => (first | ((fail_if_success (fail_if_success (with_reducible show _ = some (AO.dict []) ∧ _))); refine And.intro (by k_extra "at") ?_) | fail)
  intros; trivial

theorem pull_ok {w : World} {h : Bool} {σ : AH} {Q : V → AH → Prop} {X : Int → AH → Prop} {sk cl : Addr} {most : Int} (hs : Sack σ sk cl) (h0 : 0 < most) (h1 : most < 1000000)
    (k : ∀ r σ', 0 ≤ r → r < most → Sack σ' sk cl → Kept σ σ' [sk, cl] → Q (.int r) σ') : ACall w 1 h 198 [.ref sk, .int most] σ Q X := by
  obtain ⟨cells, cur, gg, hsk, hcl, hne⟩ := hs
  refine' acall ["sack", "most"] ["found"] [] ["sack", "most", "found"] [some (.ref sk), some (.int most), none] (f := 198) ?h1 ?h2 ?h3 ?h4 ?h5 ?h6 ?h7 ?hdb ?h8 ?h9 ?h10 ?h11 ?hns ?hm ?h12
  k_extra "enter"
  case h3 => intro vs hv; obtain ⟨a, b, rfl, _, _⟩ := map_two hv; rfl
  intro g s0 A L l c
  have m0 : ∀ x : Int, 0 ≤ x % most := fun x => Int.emod_nonneg _ (by omega)
  have m1 : ∀ x : Int, x % most < most := fun x => Int.emod_lt_of_pos _ h0
  rcases cells with _ | ⟨x, cells⟩
  · k_extra "walk"
    all_goals (try dsimp only)
    all_goals exact k _ _ (m0 _) (m1 _) ⟨[], _, _, by k_extra "at", by k_extra "at", hne⟩ (by k_extra "kept")
  · rw [List.map_cons] at hcl
    k_extra "walk"
    all_goals (try dsimp only)
    all_goals first
      | exact k _ _ (m0 _) (m1 _) ⟨cells, _, _, by k_extra "at", by k_extra "at", hne⟩ (by k_extra "kept")
      | exact k _ _ (m0 _) (m1 _) ⟨x :: cells, _, _, by k_extra "at", by rw [List.map_cons]; k_extra "at", hne⟩ (by k_extra "kept")

inductive J1 (σ : AH) (a : Addr) (g : G) (n : Nat) (m₁ : List (Option V)) (σ₁ : AH) : Prop where
  | mk fd td nd p fs (h0 : m₁ = [some (.ref a), some (.ref fd), some (.ref td), nd]) (h1 : Kept σ σ₁ []) (h2 : Fresh σ fd) (h3 : Fresh σ td) (h4 : fd ≠ td) (h5 : RN σ p) (h6 : σ₁ td = some (.list p.vals.reverse)) (h7 : σ₁ fd = some (.list (fs.map V.ref))) (h8 : fs ++ p.pre = g.pre) (h9 : fs.length + p.size ≤ 100000) (h10 : n = p.size) : J1 σ a g n m₁ σ₁
theorem all_nodes_ok {w : World} {σ : AH} {Q : V → AH → Prop} {X : Int → AH → Prop} {a : Addr} {g : G} {h : Bool} (ha : σ a = some (.list g.vals)) (hg : RN σ g) (hz : g.size ≤ 100000)
    (k : ∀ r σ', Kept σ σ' [] → Fresh σ r → σ' r = some (.list (g.pre.map V.ref)) → Q (.ref r) σ') : ACall w 1 h 113 [.ref a] σ Q X := by
  refine' acall ["nodes"] ["found", "todo", "node"] ["list"] ["nodes", "found", "todo", "node"] [some (.ref a), none, none, none] (f := 113) ?h1 ?h2 ?h3 ?h4 ?h5 ?h6 ?h7 ?hdb ?h8 ?h9 ?h10 ?h11 ?hns ?hm ?h12
  k_extra "enter"
  case h3 => intro vs hv; obtain ⟨a, rfl, _⟩ := map_one hv; rfl
  intro g' s0 A L l c
  k_extra "walk"
  refine ax_whileQ (J1 σ a g) g.size xe_pass ?_ ?_
  · refine ⟨_, _, _, g, [], rfl, (by k_extra "kept" : Kept σ _ []), (by k_extra "new" : Fresh σ _), by k_extra "new", by k_extra "apart", hg, by k_extra "at", ?_, rfl, by simpa using hz, rfl⟩
    rw [List.map_nil]; k_extra "at"
  · rintro n m₁ σ₁ ⟨fd, td, nd, p, fs, rfl, hk, hfd, htd, hne, hp, htl, hfl, hpre, hsz, rfl⟩ R Z hn hb hr
    cases p with
    | nil =>
      dsimp only [G.vals, List.reverse_nil] at htl
      k_extra "walk"
      refine (hb _ _ ?_).2
      k_extra "walk"
      exact k _ _ (by k_extra "kept") (by k_extra "new") (by simp [G.pre] at hpre; rw [← hpre]; k_extra "at")
    | cons a' d' k' n' ks rest =>
      obtain ⟨⟨hp1, hp2⟩, hp3, hp4, hp5⟩ := hp
      dsimp only [G.vals] at htl
      have hz1 : fs.length + (ks.size + rest.size + 1) ≤ 100000 := hsz
      have hz2 : ks.vals.length ≤ ks.size := by rw [G.vals_len]; exact F.len_le _
      have hz3 : rest.vals.length ≤ rest.size := by rw [G.vals_len]; exact F.len_le _
      k_extra "walk"
      refine (hn _ _ ?_).1
      have hz4 : (ks.app rest).size = ks.size + rest.size := by show (ks.app rest).er.size = _; rw [G.er_app, F.size_app]
      refine ⟨_, ?_, fd, td, _, ks.app rest, fs ++ [a'], rfl, by k_extra "kept", hfd, htd, hne, RN.app.2 ⟨hp4, hp5⟩, ?_, ?_, ?_, ?_, rfl⟩
      · show _ < ks.size + rest.size + 1; omega
      · rw [G.vals_app, List.reverse_append]; k_extra "at"
      · rw [List.map_append, List.map_cons, List.map_nil]; k_extra "at"
      · rw [← hpre, G.pre_app]; simp [G.pre]
      · simp only [List.length_append, List.length_cons, List.length_nil]; omega

inductive J2 (σ : AH) (a : Addr) (g : G) (n : Nat) (m₁ : List (Option V)) (σ₁ : AH) : Prop where
  | mk fd td p fs (h0 : m₁ = [some (.ref a), some (.ref fd), some (.ref td)]) (h1 : Kept σ σ₁ []) (h2 : Fresh σ fd) (h3 : Fresh σ td) (h4 : fd ≠ td) (h5 : RD σ p) (h6 : σ₁ td = some (.list p.vals.reverse)) (h7 : σ₁ fd = some (.list (fs.map V.ref))) (h8 : fs ++ p.pre = g.pre) (h9 : fs.length + p.size ≤ 100000) (h10 : n = p.size) : J2 σ a g n m₁ σ₁
theorem order_ok {w : World} {σ : AH} {Q : V → AH → Prop} {X : Int → AH → Prop} {a : Addr} {g : G} {h : Bool} (ha : σ a = some (.list g.vals)) (hg : RD σ g) (hz : g.size ≤ 100000)
    (k : ∀ r σ', Kept σ σ' [] → Fresh σ r → σ' r = some (.list (g.pre.map V.ref)) → Q (.ref r) σ') : ACall w 1 h 219 [.ref a] σ Q X := by
  refine' acall ["forest"] ["found", "todo"] [] ["forest", "found", "todo"] [some (.ref a), none, none] (f := 219) ?h1 ?h2 ?h3 ?h4 ?h5 ?h6 ?h7 ?hdb ?h8 ?h9 ?h10 ?h11 ?hns ?hm ?h12
  k_extra "enter"
  case h3 => intro vs hv; obtain ⟨a, rfl, _⟩ := map_one hv; rfl
  intro g' s0 A L l c
  k_extra "walk"
  refine ax_whileQ (J2 σ a g) g.size xe_pass ?_ ?_
  · refine ⟨_, _, g, [], rfl, (by k_extra "kept" : Kept σ _ []), (by k_extra "new" : Fresh σ _), by k_extra "new", by k_extra "apart", hg, by k_extra "at", ?_, rfl, by simpa using hz, rfl⟩
    rw [List.map_nil]; k_extra "at"
  · rintro n m₁ σ₁ ⟨fd, td, p, fs, rfl, hk, hfd, htd, hne, hp, htl, hfl, hpre, hsz, rfl⟩ R Z hn hb hr
    cases p with
    | nil =>
      dsimp only [G.vals, List.reverse_nil] at htl
      k_extra "walk"
      refine (hb _ _ ?_).2
      k_extra "walk"
      exact k _ _ (by k_extra "kept") (by k_extra "new") (by simp [G.pre] at hpre; rw [← hpre]; k_extra "at")
    | cons a' d' k' n' ks rest =>
      obtain ⟨⟨tl, hp1, hp2⟩, hp3, hp4, hp5⟩ := hp
      dsimp only [G.vals] at htl
      have hz1 : fs.length + (ks.size + rest.size + 1) ≤ 100000 := hsz
      have hz2 : ks.vals.length ≤ ks.size := by rw [G.vals_len]; exact F.len_le _
      have hz3 : rest.vals.length ≤ rest.size := by rw [G.vals_len]; exact F.len_le _
      k_extra "walk"
      refine (hn _ _ ?_).1
      have hz4 : (ks.app rest).size = ks.size + rest.size := by show (ks.app rest).er.size = _; rw [G.er_app, F.size_app]
      refine ⟨_, ?_, fd, td, ks.app rest, fs ++ [a'], rfl, by k_extra "kept", hfd, htd, hne, RD.app.2 ⟨hp4, hp5⟩, ?_, ?_, ?_, ?_, rfl⟩
      · show _ < ks.size + rest.size + 1; omega
      · rw [G.vals_app, List.reverse_append]; k_extra "at"
      · rw [List.map_append, List.map_cons, List.map_nil]; k_extra "at"
      · rw [← hpre, G.pre_app]; simp [G.pre]
      · simp only [List.length_append, List.length_cons, List.length_nil]; omega

inductive J3 (σ : AH) (a : Addr) (g : G) (n : Nat) (m₁ : List (Option V)) (σ₁ : AH) : Prop where
  | mk fd td nd p rs xs (h0 : m₁ = [some (.ref a), some (.ref fd), some (.ref td), nd]) (h1 : Kept σ σ₁ []) (h2 : Fresh σ fd) (h3 : Fresh σ td) (h4 : fd ≠ td) (h5 : RN σ p) (h6 : σ₁ td = some (.list p.vals.reverse)) (h7 : σ₁ fd = some (.list xs)) (h8 : RowsAt σ₁ fd rs) (h9 : xs.length = rs.length) (h10 : rs ++ p.er.rows = g.er.rows) (h11 : rs.length + p.size ≤ 100000) (h12 : n = p.size) : J3 σ a g n m₁ σ₁
theorem rows_ok {w : World} {σ : AH} {Q : V → AH → Prop} {X : Int → AH → Prop} {a : Addr} {g : G} {h : Bool} (ha : σ a = some (.list g.vals)) (hg : RN σ g) (hz : g.size ≤ 100000)
    (k : ∀ r σ', Kept σ σ' [] → Fresh σ r → RowsAt σ' r g.er.rows → Q (.ref r) σ') : ACall w 1 h 238 [.ref a] σ Q X := by
  refine' acall ["nodes"] ["found", "todo", "node"] ["list", "len"] ["nodes", "found", "todo", "node"] [some (.ref a), none, none, none] (f := 238) ?h1 ?h2 ?h3 ?h4 ?h5 ?h6 ?h7 ?hdb ?h8 ?h9 ?h10 ?h11 ?hns ?hm ?h12
  k_extra "enter"
  case h3 => intro vs hv; obtain ⟨a, rfl, _⟩ := map_one hv; rfl
  intro g' s0 A L l c
  k_extra "walk"
  refine ax_whileQ (J3 σ a g) g.size xe_pass ?_ ?_
  · refine ⟨_, _, _, g, [], [], rfl, (by k_extra "kept" : Kept σ _ []), (by k_extra "new" : Fresh σ _), by k_extra "new", by k_extra "apart", hg, by k_extra "at", by k_extra "at", ?_, rfl, rfl, by simpa using hz, rfl⟩
    exact RowsAt.nil (by k_extra "at")
  · rintro n m₁ σ₁ ⟨fd, td, nd, p, rs, xs, rfl, hk, hfd, htd, hne, hp, htl, hfl, hrow, hxl, hpre, hsz, rfl⟩ R Z hn hb hr
    cases p with
    | nil =>
      dsimp only [G.vals, List.reverse_nil] at htl
      k_extra "walk"
      refine (hb _ _ ?_).2
      k_extra "walk"
      simp [G.er, F.rows] at hpre
      exact k _ _ (by k_extra "kept") (by k_extra "new") (hpre ▸ hrow.new (by assumption))
    | cons a' d' k' n' ks rest =>
      obtain ⟨⟨hp1, hp2⟩, hp3, hp4, hp5⟩ := hp
      dsimp only [G.vals] at htl
      have hz1 : rs.length + (ks.size + rest.size + 1) ≤ 100000 := hsz
      have hz2 : ks.vals.length ≤ ks.size := by rw [G.vals_len]; exact F.len_le _
      have hz3 : rest.vals.length ≤ rest.size := by rw [G.vals_len]; exact F.len_le _
      k_extra "walk"
      refine (hn _ _ ?_).1
      have hz4 : (ks.app rest).size = ks.size + rest.size := by show (ks.app rest).er.size = _; rw [G.er_app, F.size_app]
      refine ⟨_, ?_, fd, td, _, ks.app rest, rs ++ [(n', (ks.vals.length : Int))], _, rfl, by k_extra "kept", hfd, htd, hne, RN.app.2 ⟨hp4, hp5⟩, ?_, by k_extra "at", ?_, ?_, ?_, ?_, rfl⟩
      · show _ < ks.size + rest.size + 1; omega
      · rw [G.vals_app, List.reverse_append]; k_extra "at"
      · refine RowsAt.but (o := .list rest.vals.reverse) (RowsAt.new (RowsAt.new (RowsAt.snoc (RowsAt.but (RowsAt.new hrow (by assumption)) (o := .list (V.ref a' :: rest.vals).reverse) (by k_extra "at") hne (by nofun)) (by k_extra "at") (by assumption) (by k_extra "apart")) (by assumption)) (by assumption)) (by k_extra "at") hne (by nofun)
      · simp [hxl]
      · rw [← hpre, G.er_app, F.rows_app]; simp [G.er, F.rows, G.vals_len]
      · simp only [List.length_append, List.length_cons, List.length_nil]; omega

inductive J4 (σ : AH) (k : Addr) (n : Int) (ks : G) (z : Nat) (m₁ : List (Option V)) (σ₁ : AH) : Prop where
  | mk nl a' d' k' n' p ns (h0 : m₁ = [some (.ref a'), some (.ref nl)]) (h1 : Kept σ σ₁ []) (h2 : Fresh σ nl) (h3 : (σ a' = some (.inst 102 d') ∧ σ d' = some (.ns [("number", .int n'), ("kids", .ref k')]))) (h4 : σ k' = some (.list p.vals)) (h5 : RN σ p) (h6 : σ₁ nl = some (.list (ns.map V.int))) (h7 : ns ++ p.er.chN = (if 0 < n then [n] else []) ++ ks.er.chN) (h8 : p.chK = ks.chK) (h9 : ns.length + p.size ≤ 100001) (h10 : (k' ∈ k :: ks.all ∧ ∀ x ∈ p.all, x ∈ k :: ks.all)) (h11 : z = p.size) : J4 σ k n ks z m₁ σ₁
theorem chain_ok {w : World} {σ : AH} {Q : V → AH → Prop} {X : Int → AH → Prop} {a d k : Addr} {n : Int} {ks : G} {h : Bool} (h1 : σ a = some (.inst 102 d)) (h2 : σ d = some (.ns [("number", .int n), ("kids", .ref k)])) (h3 : σ k = some (.list ks.vals)) (hg : RN σ ks) (hz : ks.size ≤ 100000)
    (kk : ∀ t nl kl σ', Kept σ σ' [] → Fresh σ nl → Fresh σ t → σ' t = some (.tuple [.ref nl, .ref kl]) → σ' nl = some (.list (((if 0 < n then [n] else []) ++ ks.er.chN).map V.int)) → σ' kl = some (.list ks.chK.vals) → RN σ' ks.chK → kl ∈ k :: ks.all → Q (.ref t) σ') : ACall w 1 h 125 [.ref a] σ Q X := by
  refine' acall ["node"] ["numbers"] ["len"] ["node", "numbers"] [some (.ref a), none] (f := 125) ?h1 ?h2 ?h3 ?h4 ?h5 ?h6 ?h7 ?hdb ?h8 ?h9 ?h10 ?h11 ?hns ?hm ?h12
  k_extra "enter"
  case h3 => intro vs hv; obtain ⟨a, rfl, _⟩ := map_one hv; rfl
  intro g' s0 A L l c
  k_extra "walk"
  all_goals
    refine ax_whileQ (J4 σ k n ks) ks.size xe_pass ?_ ?_
    · refine ⟨_, a, d, k, n, ks, if 0 < n then [n] else [], rfl, (by k_extra "kept" : Kept σ _ []), (by k_extra "new" : Fresh σ _), ⟨h1, h2⟩, h3, hg, ?_, rfl, rfl, ?_, ⟨by simp, fun x hx => List.mem_cons_of_mem _ hx⟩, rfl⟩
      · first
        | rw [if_pos (by assumption)]; exact upd_same _ _ _
        | rw [if_neg (by omega)]; exact upd_same _ _ _
      · split <;> simp <;> omega
    · rintro z m₁ σ₁ ⟨nl, a', d', k', n', p, ns, rfl, hk', hnl, ⟨e1, e2⟩, e3, hp, e4, e5, e6, e7, ⟨e9, e10⟩, rfl⟩ R Z hn hb hr
      rcases p with _ | ⟨a2, d2, k2, n2, ks2, _ | ⟨a3, d3, k3, n3, ks3, r3⟩⟩
      · dsimp only [G.vals] at e3
        k_extra "walk"
        refine (hb _ _ ?_).2
        k_extra "walk"
        refine kk _ nl k' _ (by k_extra "kept") hnl (by k_extra "new") (by k_extra "at") ?_ ?_ ?_ e9
        · rw [← e5]; simp [G.er, F.chN]; k_extra "at"
        · rw [← e6]; simp [G.chK, G.vals]; k_extra "at"
        · rw [← e6]; trivial
      · dsimp only [G.vals] at e3
        obtain ⟨⟨hp1, hp2⟩, hp3, hp4, hp5⟩ := hp
        have e8 : ns.length + (ks2.size + F.size .nil + 1) ≤ 100001 := e7
        simp only [F.size] at e8
        k_extra "walk"
        refine (hn _ _ ?_).1
        refine ⟨_, ?_, nl, a2, d2, k2, n2, ks2, ns ++ [n2], rfl, by k_extra "kept", hnl, ⟨hp1, hp2⟩, hp3, hp4, ?_, ?_, e6, ?_, ⟨e10 _ (by simp [G.all]), fun x hx => e10 x (by simp [G.all, hx])⟩, rfl⟩
        · show _ < ks2.size + F.size .nil + 1; omega
        · rw [List.map_append, List.map_cons, List.map_nil]; k_extra "at"
        · rw [← e5]; simp [G.er, F.chN]
        · simp only [List.length_append, List.length_cons, List.length_nil]; omega
      · dsimp only [G.vals] at e3
        k_extra "walk"
        refine (hb _ _ ?_).2
        k_extra "walk"
        refine kk _ nl k' _ (by k_extra "kept") hnl (by k_extra "new") (by k_extra "at") ?_ ?_ ?_ e9
        · rw [← e5]; simp [G.er, F.chN]; k_extra "at"
        · rw [← e6]; simp [G.chK, G.vals]; k_extra "at"
        · rw [← e6]; exact RN.kept (σ := σ) (by k_extra "kept") hp

theorem octets_ok {w : World} {σ : AH} {Q : V → AH → Prop} {X : Int → AH → Prop} {x : List Nat} (hx : ∀ n ∈ x, n ≤ 127) (hz : x.length ≤ 10000000)
    (k : ∀ σ', Kept σ σ' [] → Q (.bytes x) σ') : ACall w 1 true 78 [.str x] σ Q X := by
  refine' acall ["text"] ["at"] ["len", "range", "ord", "bytes", "WordFault"] ["text", "at"] [some (.str x), none] (f := 78) ?h1 ?h2 ?h3 ?h4 ?h5 ?h6 ?h7 ?hdb ?h8 ?h9 ?h10 ?h11 ?hns ?hm ?h12
  k_extra "enter"
  case h3 => intro vs hv; obtain ⟨a, rfl, _⟩ := map_one hv; rfl
  intro g' s0 A L l c
  k_extra "walk"
  refine ax_forr rfl xe_pass (by k_extra "hit") ?_ (by with_unfolding_all rfl) (by with_unfolding_all rfl) (by intro v; rfl)
  have hz' : x.length ≤ sizeLine := by rw [sizeLine_eq]; omega
  k_extra "walk"
  refine ⟨x.length, rfl, by omega, ?_⟩
  refine ⟨fun i m₁ σ₁ => σ₁ = σ ∧ ∃ v, m₁ = [some (.str x), v], ⟨rfl, _, rfl⟩, fun _ _ _ _ => trivial, ?_, ?_⟩
  · rintro i v m₁ σ₁ g₁ hov hi rfl ⟨rfl, v', rfl⟩
    refine ⟨[some (.str x), some (.int i)], by k_extra "hit", ?_⟩
    have hi' : x[i]? = some x[i] := List.getElem?_eq_getElem hi
    have hle : x[i] ≤ 127 := hx _ (List.getElem_mem hi)
    k_extra "walk"
    refine o2_items (by omega) (show x[((i : Nat) : Int).toNat]? = some x[i] from hi') hz' ?_ (by intro _ _; rfl)
    k_extra "walk"
    all_goals (try exact ⟨rfl, _, rfl⟩)
  · rintro m₁ σ₁ ⟨rfl, v, rfl⟩
    k_extra "walk"
    refine ae_comps [] ["sign"] ["ord"] rfl (comp_ok (by decide) rfl (by decide) (by rfl) (by decide +kernel) (by decide +kernel) (by decide) (by decide +kernel)) ?_ (by intro v; rfl)
    k_extra "walk"
    refine ⟨fun i ys σ' => ys.length ≤ i ∧ Kept σ₁ σ' [] ∧ ys = (x.take i).map (fun (n : Nat) => V.int n), ⟨Nat.le_refl _, Kept.rfl, rfl⟩, fun _ _ _ _ => trivial, ?_, ?_, ?_⟩
    · rintro i ys σ₁ ⟨q, _⟩; exact q
    · rintro C g₁ i v ys σ₁ hi ⟨n, hn, rfl⟩ ⟨q1, q2, q3⟩
      refine ag_name (m' := [some (.str [n])]) (by k_extra "hit") ?_
      refine ct_nil ⟨fun _ => ?_, by nofun⟩
      k_extra "walk"
      refine ⟨by simp only [List.length_append, List.length_cons, List.length_nil]; omega, q2, ?_⟩
      rw [q3, List.take_add_one, hn]; simp
    · rintro d ys σ₁ ⟨_, q2, q3⟩ hd
      k_extra "walk"
      refine oc_bytes (ns := x) rfl (by rw [upd_same, q3, List.take_length]) (fun n hn => by have := hx n hn; omega) ?_
      exact k _ (by k_extra "kept")

theorem told_ok {w : World} {σ : AH} {Q : V → AH → Prop} {X : Int → AH → Prop} {a : Addr} {g : G} (ha : σ a = some (.list g.vals)) (hg : RN σ g) (hz : g.size ≤ 100000)
    (k : ∀ r σ', Kept σ σ' [] → Fresh σ r → σ' r = some (.list (((g.er.rows.map (·.1)).filter (fun n => decide (0 < n))).map V.int)) → Q (.ref r) σ') : ACall w 2 true 118 [.ref a] σ Q X := by
  refine' acall ["nodes"] [] ["all_nodes"] ["nodes"] [some (.ref a)] (f := 118) ?h1 ?h2 ?h3 ?h4 ?h5 ?h6 ?h7 ?hdb ?h8 ?h9 ?h10 ?h11 ?hns ?hm ?h12
  k_extra "enter"
  case h3 => intro vs hv; obtain ⟨a, rfl, _⟩ := map_one hv; rfl
  intro g' s0 A L l c
  k_extra "walk"
  refine ae_compl [] ["node"] [] rfl (comp_ok (by decide) rfl (by decide) (by rfl) (by decide +kernel) (by decide +kernel) (by decide) (by decide +kernel)) ?_ (by intro v; rfl)
  k_extra "walk"
  refine oc_f0 (all_nodes_ok (h := true) ha hg hz fun r σ' hk hf hr => ?_) (Nat.le_refl 1) (fun _ => rfl) rfl
  refine ⟨r, _, rfl, hr, by rw [List.length_map, G.pre_len]; have := hz; simp only [G.size] at this; rw [sizeLine_eq]; omega, ?_⟩
  refine ⟨fun i ys σ₁ => ys.length ≤ i ∧ Kept σ' σ₁ [] ∧ ys = (((g.er.rows.take i).map (·.1)).filter (fun n => decide (0 < n))).map V.int, ⟨Nat.le_refl _, Kept.rfl, rfl⟩, ?_, ?_, ?_, ?_⟩
  · rintro i ys σ₁ ⟨_, q, _⟩; exact q.get hr
  · rintro i ys σ₁ ⟨q, _⟩; exact q
  · rintro C g₁ i v ys σ₁ hi hv ⟨q1, q2, q3⟩
    rw [List.getElem?_map] at hv
    obtain ⟨a', ha', rfl⟩ := Option.map_eq_some_iff.mp hv
    obtain ⟨d', k', n', xs, e1, e2, e3, e4, e5⟩ := hg.at i a' ha'
    have f1 := q2.get (hk.get e1)
    have f2 := q2.get (hk.get e2)
    refine ag_name (m' := [some (.ref a')]) (by k_extra "hit") ?_
    refine ct_one ?_
    have tk : (g.er.rows.take (i + 1)).map (·.1) = (g.er.rows.take i).map (·.1) ++ [n'] := by
      rw [List.take_add_one, e4]; simp
    k_extra "walk"
    all_goals (try dsimp only)
    all_goals refine ⟨by first | omega | (simp only [List.length_append, List.length_cons, List.length_nil]; omega), q2, ?_⟩
    · rw [tk, q3]; simp [‹0 < n'›]
    · rw [tk, q3]; simp; omega
  · rintro d ys σ₁ ⟨_, q2, q3⟩ hd
    have q4 := hk.trans q2
    exact k d _ (by k_extra "kept") (by k_extra "new") (by rw [q3, List.length_map, G.pre_len, ← F.rows_len, List.take_length]; k_extra "at")

inductive J7 (σ : AH) (a : Addr) (g : G) (z : Nat) (m₁ : List (Option V)) (σ₁ : AH) : Prop where
  | mk (fd td : Addr) (v1 v2 v3 : Option V) (its : List It) (ls : List (List Nat)) (h0 : m₁ = [some (.ref a), some (.ref fd), some (.ref td), v1, v2, v3]) (h1 : Kept σ σ₁ []) (h2 : Fresh σ fd) (h3 : Fresh σ td) (h4 : fd ≠ td) (h5 : (∀ it ∈ its, It.ok σ it)) (h6 : σ₁ td = some (.list (its.map It.val).reverse)) (h7 : σ₁ fd = some (.list (ls.map V.str))) (h8 : ls.flatten ++ its.flatMap It.txt = T true g.er) (h9 : ls.length + 3 * (its.map It.wt).sum ≤ 300000) (h10 : z = (its.map It.wt).sum) : J7 σ a g z m₁ σ₁
theorem show_ok {w : World} {σ : AH} {Q : V → AH → Prop} {X : Int → AH → Prop} {a : Addr} {g : G} (ha : σ a = some (.list g.vals)) (hg : RN σ g) (hz : g.size ≤ 50000) (hgo : Good g.er) (ht : (T true g.er).length ≤ 1000000) (hb : ∀ n ∈ T true g.er, n ≤ 127)
    (k : ∀ σ', Kept σ σ' [] → Q (.bytes (T true g.er)) σ') : ACall w 2 true 130 [.ref a] σ Q X := by
  refine' acall ["nodes"] ["found", "todo", "node", "numbers", "kids"] ["list", "chain_of", "text_octets"] ["nodes", "found", "todo", "node", "numbers", "kids"] [some (.ref a), none, none, none, none, none] (f := 130) ?h1 ?h2 ?h3 ?h4 ?h5 ?h6 ?h7 ?hdb ?h8 ?h9 ?h10 ?h11 ?hns ?hm ?h12
  k_extra "enter"
  case h3 => intro vs hv; obtain ⟨a, rfl, _⟩ := map_one hv; rfl
  intro g' s0 A L l c
  k_extra "walk"
  refine ax_whileQ (J7 σ a g) (g.its.map It.wt).sum xe_pass ?_ ?_
  · refine ⟨_, _, _, _, _, g.its, [], rfl, (by k_extra "kept" : Kept σ _ []), (by k_extra "new" : Fresh σ _), by k_extra "new", by k_extra "apart", its_ok hg hgo, by rw [its_val]; k_extra "at", ?_, its_txt g, by rw [its_wt]; simp; omega, rfl⟩
    rw [List.map_nil]; k_extra "at"
  · rintro z m₁ σ₁ ⟨fd, td, v1, v2, v3, its, ls, rfl, hk, hfd, htd, hne, hit, htl, hfl, htx, hsz, rfl⟩ R Z hn hbk hr
    rcases its with _ | ⟨it, its⟩
    · simp only [List.map_nil, List.reverse_nil] at htl
      have hfl2 : ls.flatten = T true g.er := by rw [← htx]; simp
      have hfl3 : (ls.map List.length).sum ≤ 1000000 := by rw [← List.length_flatten, hfl2]; exact ht
      k_extra "walk"
      refine (hbk _ _ ?_).2
      k_extra "walk"
      refine oc_join (ls := ls) (by k_extra "at") (by simp only [List.length_nil]; omega) ?_
      rw [inter_flat, hfl2]
      k_extra "walk"
      refine oc_f0 (octets_ok hb (by omega) fun σ' hk' => ?_) (Nat.le_refl 1) (fun _ => rfl) rfl
      exact k _ (Kept.trans (by k_extra "kept") hk')
    · rw [List.map_cons, List.sum_cons] at hsz
      have hit1 := hit it (by simp)
      have hit2 : ∀ x ∈ its, It.ok σ x := fun x hx => hit x (by simp [hx])
      cases it with
      | fin =>
        rw [List.map_cons] at htl
        dsimp only [It.val, It.wt] at htl hsz
        k_extra "walk"
        refine (hn _ _ ?_).2
        refine ⟨_, ?_, fd, td, _, _, _, its, ls ++ [[41]], rfl, by k_extra "kept", hfd, htd, hne, hit2, by k_extra "at", ?_, ?_, ?_, rfl⟩
        · simp only [List.map_cons, List.sum_cons, It.wt]; omega
        · rw [List.map_append, List.map_cons, List.map_nil]; k_extra "at"
        · rw [← htx]; simp [It.txt, List.flatMap_cons]
        · simp only [List.length_append, List.length_cons, List.length_nil]; omega
      | tr b d' k' n' ks =>
        obtain ⟨⟨⟨e1, e2⟩, e3, e4, _⟩, e5⟩ := hit1
        rw [List.map_cons] at htl
        dsimp only [It.val, It.wt] at htl hsz
        have hks : ks.size ≤ 100000 := by omega
        have tt := txt_tree e5
        have tl : (T true (.cons n' ks.er .nil)).length ≤ 1000000 := by
          have := congrArg List.length htx
          simp only [List.flatMap_cons, List.length_append, It.txt] at this
          omega
        have hil : (List.intercalate [32] ((nums n' ks.er).map digs)).length ≤ 1000000 := by
          rw [tt] at tl; simp only [List.length_append] at tl; omega
        have hil2 := its_len its
        have hil3 := chK_len ks
        have hnl : (nums n' ks.er).length ≤ 1000001 := by
          have := inter_len ((nums n' ks.er).map digs); rw [List.length_map] at this; omega
        have hnn : ∀ x ∈ nums n' ks.er, 0 ≤ x ∧ x < 10 ^ 20 := by
          intro x hx
          rcases List.mem_append.mp hx with h | h
          · split at h
            · simp at h; subst h; rcases e5.1 with q | q
              · exact ⟨by omega, q.2⟩
              · omega
            · cases h
          · exact good_chN e5.2.2.1 x h
        k_extra "walk"
        refine oc_f0 (h := true) (chain_ok (by k_extra "at") (by k_extra "at") (by k_extra "at") (RN.kept (σ := σ) (by k_extra "kept") e4) hks fun t nl kl σ₂ hk₂ f1 f2 f3 f4 f5 f6 f7 => ?_) (Nat.le_refl 1) (fun _ => rfl) rfl
        replace f4 : σ₂ nl = some (.list ((nums n' ks.er).map V.int)) := f4
        have g1 : σ₂ td = some (.list (its.map It.val).reverse) := hk₂.get (by k_extra "at")
        have g2 : σ₂ fd = some (.list (ls.map V.str)) := hk₂.get (by k_extra "at")
        have g3 : nl ≠ td := by k_extra "apart"
        have g4 : nl ≠ fd := by k_extra "apart"
        have f8 : σ kl ≠ none := by
          rcases List.mem_cons.mp f7 with rfl | h
          · rw [e3]; nofun
          · exact e4.stands _ h
        have g11 : kl ≠ fd := fun q => f8 (q ▸ hfd.none)
        have g12 : kl ≠ td := fun q => f8 (q ▸ htd.none)
        have hk3 : Kept σ σ₂ [] := Kept.trans (by k_extra "kept") hk₂
        clear hk₂ f1 f2
        k_extra "walk"
        refine ae_compl [] ["number"] ["str"] rfl (comp_ok (by decide) rfl (by decide) (by rfl) (by decide +kernel) (by decide +kernel) (by decide) (by decide +kernel)) ?_ (by intro v; rfl)
        k_extra "walk"
        refine ⟨fun i ys σ' => ys.length ≤ i ∧ Kept σ₂ σ' [] ∧ ys = (((nums n' ks.er).take i).map digs).map V.str, ⟨Nat.le_refl _, Kept.rfl, rfl⟩, ?_, ?_, ?_, ?_⟩
        · rintro i ys σ' ⟨_, q, _⟩; exact q.get f4
        · rintro i ys σ' ⟨q, _⟩; exact q
        · rintro C g₁ i v ys σ' hi hv ⟨q1, q2, q3⟩
          rw [List.getElem?_map] at hv
          obtain ⟨x, hx, rfl⟩ := Option.map_eq_some_iff.mp hv
          refine ag_name (m' := [some (.int x)]) (by k_extra "hit") ?_
          refine ct_nil ⟨fun _ => ?_, by nofun⟩
          k_extra "walk"
          have hx' := hnn x (List.mem_of_getElem? hx)
          refine oc_str (log_small hx'.1 hx'.2) ?_
          refine ⟨by simp only [List.length_append, List.length_cons, List.length_nil]; omega, q2, ?_⟩
          have hx2 : (nums n' ks.er)[i]? = some x := hx
          rw [q3, List.take_add_one, hx2]; simp
        · rintro dc ys σ' ⟨_, q2, q3⟩ hdc
          have hk4 : Kept σ σ' [] := hk3.trans q2
          have g5 : σ' td = some (.list (its.map It.val).reverse) := q2.get g1
          have g6 : σ' fd = some (.list (ls.map V.str)) := q2.get g2
          have g7 : σ' nl = some (.list ((nums n' ks.er).map V.int)) := q2.get f4
          have g8 : σ' kl = some (.list ks.chK.vals) := q2.get f5
          have g9 : ys = ((nums n' ks.er).map digs).map V.str := by rw [q3, List.length_map]; show (((nums n' ks.er).take (nums n' ks.er).length).map digs).map V.str = _; rw [List.take_length]
          k_extra "walk"
          refine oc_join (ls := (nums n' ks.er).map digs) (by rw [upd_same, g9]) (by have := inter_len ((nums n' ks.er).map digs); simp only [List.length_cons, List.length_nil]; omega) ?_
          k_extra "walk"
          all_goals refine (hn _ _ ?_).1
          all_goals
            have hit3 : ∀ x ∈ ks.chK.its ++ (It.fin :: its), It.ok σ x := by
              intro x hx
              rcases List.mem_append.mp hx with h | h
              · exact its_ok (RN.chK e4) (by rw [G.er_chK]; exact good_chK e5.2.2.1) x h
              · rcases List.mem_cons.mp h with rfl | h
                · trivial
                · exact hit2 x h
            have hw : ((ks.chK.its ++ (It.fin :: its)).map It.wt).sum = 2 * ks.chK.size + (1 + (its.map It.wt).sum) := by
              rw [List.map_append, List.sum_append, its_wt]; rfl
            have hw2 : ks.chK.size ≤ ks.size := by show ks.chK.er.size ≤ _; rw [G.er_chK]; exact size_chK _
            have hv3 : ((ks.chK.its ++ (It.fin :: its)).map It.val).reverse = (its.map It.val).reverse ++ [V.none] ++ ks.chK.vals.reverse := by
              simp [its_val, It.val]
            have hckl : ks.er.chK.len = ks.chK.vals.length := by rw [G.vals_len, G.er_chK]
          · refine ⟨_, ?_, fd, td, _, _, _, ks.chK.its ++ (It.fin :: its), ls ++ [[40] ++ List.intercalate [32] ((nums n' ks.er).map digs)] ++ [[32]], rfl, by k_extra "kept", hfd, htd, hne, hit3, by rw [hv3]; k_extra "at", ?_, ?_, ?_, rfl⟩
            · rw [hw]; simp only [List.map_cons, List.sum_cons, It.wt]; omega
            · simp only [List.map_append, List.map_cons, List.map_nil]; k_extra "at"
            · rw [← htx, List.flatMap_append, its_txt, List.flatMap_cons, List.flatMap_cons]
              show _ = _ ++ (T true (.cons n' ks.er .nil) ++ _)
              rw [tt, G.er_chK, if_pos ⟨by assumption, by rw [hckl]; simpa using by assumption⟩]
              simp [It.txt]
            · rw [hw]; simp only [List.length_append, List.length_cons, List.length_nil]; omega
          · refine ⟨_, ?_, fd, td, _, _, _, ks.chK.its ++ (It.fin :: its), ls ++ [[40] ++ List.intercalate [32] ((nums n' ks.er).map digs)], rfl, by k_extra "kept", hfd, htd, hne, hit3, by rw [hv3]; k_extra "at", ?_, ?_, ?_, rfl⟩
            · rw [hw]; simp only [List.map_cons, List.sum_cons, It.wt]; omega
            · simp only [List.map_append, List.map_cons, List.map_nil]; k_extra "at"
            · rw [← htx, List.flatMap_append, its_txt, List.flatMap_cons, List.flatMap_cons]
              show _ = _ ++ (T true (.cons n' ks.er .nil) ++ _)
              rw [tt, G.er_chK, if_neg (fun q => by rw [hckl] at q; simp_all)]
              simp [It.txt]
            · rw [hw]; simp only [List.length_append, List.length_cons, List.length_nil]; omega
          · refine ⟨_, ?_, fd, td, _, _, _, ks.chK.its ++ (It.fin :: its), ls ++ [[40] ++ List.intercalate [32] ((nums n' ks.er).map digs)], rfl, by k_extra "kept", hfd, htd, hne, hit3, by rw [hv3]; k_extra "at", ?_, ?_, ?_, rfl⟩
            · rw [hw]; simp only [List.map_cons, List.sum_cons, It.wt]; omega
            · simp only [List.map_append, List.map_cons, List.map_nil]; k_extra "at"
            · rw [← htx, List.flatMap_append, its_txt, List.flatMap_cons, List.flatMap_cons]
              show _ = _ ++ (T true (.cons n' ks.er .nil) ++ _)
              rw [tt, G.er_chK, if_neg (fun q => q.1 (by assumption))]
              simp [It.txt]
            · rw [hw]; simp only [List.length_append, List.length_cons, List.length_nil]; omega

theorem map_three {vs : List Value} {u t y} (h : vs.map er = [u, t, y]) : ∃ v x z, vs = [v, x, z] ∧ er v = u ∧ er x = t ∧ er z = y := by
  cases vs with
  | nil => exact Nat.noConfusion (congrArg List.length h : 0 = 3)
  | cons v r =>
    obtain ⟨h1, h2⟩ := List.cons.inj h
    obtain ⟨x, z, rfl, h3, h4⟩ := map_two h2
    exact ⟨v, x, z, rfl, h1, h3, h4⟩
theorem fault_init {w : World} {σ : AH} {Q : V → AH → Prop} {X : Int → AH → Prop} {e t : Addr} {u : V} {i : Int} {h : Bool} (h1 : σ e = some (.exc 71 none t))
    (k : ∀ d t' σ', Kept σ σ' [e] → Fresh σ d → σ' e = some (.exc 71 (some d) t') → σ' d = some (.ns [("what", u), ("at", .int i)]) → Q .none σ') : ACall w 1 h 36 [.ref e, u, .int i] σ Q X := by
  refine' acallB ["self", "what", "at"] [] ["Exception"] ["self", "what", "at"] [some (.ref e), some u, some (.int i)] (f := 36) ?h1 ?h2 ?h3 ?h4 ?h5 ?h6 ?h7 ?hdb ?h8 ?h9 ?h10 ?h11 ?hns ?hm ?h12
  k_extra "enter"
  case h3 =>
    intro vs hv s hK
    obtain ⟨a, b, d, rfl, _, _, _⟩ := map_three hv
    exact binds_K (T := 29) (o := { cls := .type "tuple", data := .seq #[.int (-1) 209] }) hK rfl (by kernel_rfl) rfl rfl rfl
  intro g' s0 A L l c
  k_extra "walk"
  refine ae_excinit ?_ (by with_unfolding_all rfl) (by with_unfolding_all rfl)
  k_extra "walk"
  refine ⟨rfl, ?_⟩
  k_extra "walk"
  refine oc_excinit h1 fun t' => ?_
  k_extra "walk"
  refine oas_exc0 (by constructor) (by k_extra "at") fun d hd => ?_
  k_extra "walk"
  have hd' := Fresh.of_upd h1 hd
  have hne : e ≠ d := hd' _ _ h1
  refine oas_exc (by constructor) (t := t') (d := d) (by k_extra "at") (by k_extra "at") (by k_extra "size") ?_
  k_extra "walk"
  exact k d t' _ (by k_extra "kept") hd' (by k_extra "at") (by k_extra "at")

theorem upd_upd (σ : AH) (a : Addr) (o o' : AO) : upd (upd σ a o) a o' = upd σ a o' := by
  funext b; unfold upd; split <;> rfl
theorem upd_comm (σ : AH) {a b : Addr} (o o' : AO) (h : a ≠ b) : upd (upd σ a o) b o' = upd (upd σ b o') a o := by
  funext x; unfold upd
  by_cases h1 : x = b
  · subst h1; rw [if_pos rfl, if_neg (Ne.symm h), if_pos rfl]
  · rw [if_neg h1, if_neg h1]
theorem node_init {w : World} {σ : AH} {Q : V → AH → Prop} {X : Int → AH → Prop} {x d : Addr} {u v : V} {h : Bool} (h1 : σ x = some (.inst 102 d)) (h2 : σ d = some (.ns []))
    (k : Q .none (upd σ d (.ns [("number", u), ("kids", v)]))) : ACall w 1 h 92 [.ref x, u, v] σ Q X := by
  refine' acall ["self", "number", "kids"] [] [] ["self", "number", "kids"] [some (.ref x), some u, some v] (f := 92) ?h1 ?h2 ?h3 ?h4 ?h5 ?h6 ?h7 ?hdb ?h8 ?h9 ?h10 ?h11 ?hns ?hm ?h12
  k_extra "enter"
  case h3 =>
    intro vs hv
    obtain ⟨a, b, d, rfl, _, _, _⟩ := map_three hv
    rfl
  intro g' s0 A L l c
  have hne : x ≠ d := fun q => by rw [q, h2] at h1; cases h1
  k_extra "walk"
  rw [upd_upd]; exact k
theorem frame_init {w : World} {σ : AH} {Q : V → AH → Prop} {X : Int → AH → Prop} {x d : Addr} {h : Bool} (h1 : σ x = some (.inst 161 d)) (h2 : σ d = some (.ns []))
    (k : ∀ il, Fresh σ il → Q .none (upd (upd σ il (.list [])) d (.ns [("first", .none), ("last", .none), ("inner", .ref il)]))) : ACall w 1 h 144 [.ref x] σ Q X := by
  refine' acall ["self"] [] [] ["self"] [some (.ref x)] (f := 144) ?h1 ?h2 ?h3 ?h4 ?h5 ?h6 ?h7 ?hdb ?h8 ?h9 ?h10 ?h11 ?hns ?hm ?h12
  k_extra "enter"
  case h3 =>
    intro vs hv
    obtain ⟨a, rfl, _⟩ := map_one hv
    rfl
  intro g' s0 A L l c
  have hne : x ≠ d := fun q => by rw [q, h2] at h1; cases h1
  k_extra "walk"
  rename_i il hil
  have h3 : d ≠ il := hil d _ (upd_same _ _ _)
  rw [upd_upd, upd_comm _ _ _ h3, upd_upd]
  exact k il (Fresh.of_upd h2 (Fresh.of_new hil))
theorem makes_node (w : World) : makesIn (KH w) 102 = true := by kernel_rfl
theorem makes_frame (w : World) : makesIn (KH w) 161 = true := by kernel_rfl
theorem init_node (w : World) : findIn (KH w) (.ref 102) "__init__" = some (some (.ref 92)) := by kernel_rfl
theorem init_frame (w : World) : findIn (KH w) (.ref 161) "__init__" = some (some (.ref 144)) := by kernel_rfl
theorem ty92 (w : World) : typeIn (KH w) (.ref 92) = some (.type "function") := by kernel_rfl
theorem ty144 (w : World) : typeIn (KH w) (.ref 144) = some (.type "function") := by kernel_rfl
section
variable {c : Fx} {m : List (Option V)} {σ : AH} {E : Value → Shared → Prop}
theorem oc_node {u v : V} {Q} (hl : 2 ≤ c.lvl) (hfr : c.fr = true) (k : ∀ x d, Fresh σ d → Fresh σ x → x ≠ d → Q (.ref x) (upd (upd σ d (.ns [("number", u), ("kids", v)])) x (.inst 102 d))) : OC c (.ref 102) [u, v] m σ Q E := by
  refine oc_make (k := 1) (h := false) (makes_node _) (init_node _) (ty92 _) hl (by nofun) hfr fun x d hd hx hne => ?_
  refine node_init (x := x) (d := d) (by k_extra "at") (by k_extra "at") ⟨rfl, ?_⟩
  rw [upd_comm _ _ _ hne, upd_upd]
  exact k x d hd hx hne
theorem oc_frame {Q} (hl : 2 ≤ c.lvl) (hfr : c.fr = true) (k : ∀ x d il, Fresh σ d → Fresh σ x → Fresh σ il → x ≠ d → x ≠ il → d ≠ il → Q (.ref x) (upd (upd (upd σ il (.list [])) d (.ns [("first", .none), ("last", .none), ("inner", .ref il)])) x (.inst 161 d))) : OC c (.ref 161) [] m σ Q E := by
  refine oc_make (k := 1) (h := false) (makes_frame _) (init_frame _) (ty144 _) hl (by nofun) hfr fun x d hd hx hne => ?_
  refine frame_init (x := x) (d := d) (by k_extra "at") (by k_extra "at") fun il hil => ⟨rfl, ?_⟩
  have h1 : x ≠ il := hil _ _ (upd_same _ _ _)
  have h2 : d ≠ il := hil d (.ns []) (by k_extra "at")
  rw [upd_comm _ _ _ h1, upd_comm _ _ _ hne, upd_comm _ _ _ h2, upd_upd]
  exact k x d il hd hx (Fresh.of_new (Fresh.of_new hil)) hne h1 h2
theorem oc_fault {u : V} {i : Int} {X : Int → AH → Prop} (hl : 2 ≤ c.lvl) (hfr : c.fr = true) (hX : ∀ σ', Kept σ σ' [] → X i σ') :
    OC c (.ref 71) [u, .int i] m σ (fun u σ₁ => ∃ e t d kv i, u = .ref e ∧ σ₁ e = some (.exc 71 (some d) t) ∧ σ₁ d = some (.ns kv) ∧ kv.lookup "at" = some (.int i) ∧ X i (del σ₁ e)) E := by
  refine oc_wire (k := 1) (h := false) (by simp [sizeLine_eq]) hl (by nofun) hfr fun e t he => ?_
  refine fault_init (upd_same _ _ _) fun d t' σ' hk hd h1 h2 => ⟨rfl, e, t', d, _, i, rfl, h1, h2, rfl, hX _ (Kept.del he fun a o e' n => ?_)⟩
  exact hk a o (by rw [upd_ne _ _ (he a o e')]; exact e') (by simp; exact he a o e')
end

inductive J10 (σ : AH) (x : List Nat) (i : Nat) (n : Nat) (m₁ : List (Option V)) (σ₁ : AH) : Prop where
  | mk (j : Nat) (h0 : m₁ = [some (.bytes x), some (.int i), some (.int j)]) (h1 : σ₁ = σ) (h2 : i ≤ j) (h3 : j ≤ x.length) (h4 : (∀ m, i ≤ m → m < j → ∃ c, x[m]? = some c ∧ isDig c = true)) (h5 : n = x.length - j) : J10 σ x i n m₁ σ₁
theorem number_end_ok {w : World} {σ : AH} {Q : V → AH → Prop} {X : Int → AH → Prop} {x : List Nat} {i : Nat} (hz : x.length ≤ 1000000) (hi : i ≤ x.length)
    (k : ¬BadNum x i → Q (.int ((i + (figs (x.drop i)).length : Nat) : Int)) σ) (kx : ∀ σ', Kept σ σ' [] → BadNum x i → X i σ') : ACall w 3 true 172 [.bytes x, .int i] σ Q X := by
  refine' acall ["octets", "at"] ["end"] ["len", "MOST_NUMBER", "WireFault"] ["octets", "at", "end"] [some (.bytes x), some (.int i), none] (f := 172) ?h1 ?h2 ?h3 ?h4 ?h5 ?h6 ?h7 ?hdb ?h8 ?h9 ?h10 ?h11 ?hns ?hm ?h12
  k_extra "enter"
  case h3 => intro vs hv; obtain ⟨a, b, rfl, _, _⟩ := map_two hv; rfl
  intro g' s0 A L l c
  have hz' : x.length ≤ sizeLine := by rw [sizeLine_eq]; omega
  k_extra "walk"
  refine ax_whileQ (J10 σ x i) (x.length - i) xe_pass ?_ ?_
  · exact ⟨i, rfl, rfl, Nat.le_refl _, hi, fun m a b => by omega, rfl⟩
  · rintro n m₁ σ₁ ⟨j, rfl, rfl, hij, hj, hd, rfl⟩ R Z hn hb hr
    have fin : (∀ c, x[j]? = some c → isDig c = false) → j = i + (figs (x.drop i)).length := fun h => by
      have := figs_at x i j hij hd h
      omega
    have ends : (∀ c, x[j]? = some c → isDig c = false) → (j = i → BadNum x i) ∧ (∀ c, x[i]? = some c → c = 48 → BadNum x i) ∧ (20 < j - i → BadNum x i) ∧ (j ≠ i → (∀ c, x[i]? = some c → c ≠ 48) → ¬(20 < j - i) → ¬BadNum x i) := by
      intro h
      have e := fin h
      refine ⟨fun q => .inl (List.length_eq_zero_iff.mp (by omega)), fun c h1 h2 => .inr (.inl (by rw [h1, h2])), fun q => .inr (.inr (by omega)), fun q1 q2 q3 q => ?_⟩
      rcases q with q | q | q
      · rw [q] at e; simp at e; exact q1 e
      · exact q2 _ q rfl
      · omega
    rcases Nat.lt_or_ge j x.length with hlt | hge
    · obtain ⟨cj, hx⟩ : ∃ cj, x[j]? = some cj := ⟨_, List.getElem?_eq_getElem hlt⟩
      obtain ⟨ci, hxi⟩ : ∃ ci, x[i]? = some ci := ⟨_, List.getElem?_eq_getElem (show i < x.length by omega)⟩
      k_extra "walk"
      · refine (hn _ _ ?_).1
        refine ⟨_, ?_, j + 1, rfl, rfl, by omega, by omega, fun m a b => ?_, rfl⟩
        · omega
        · by_cases q : m = j
          · subst q; exact ⟨_, hx, decide_eq_true (by omega)⟩
          · exact hd m a (by omega)
      all_goals
        first | refine (hb _ _ ?_).1 | refine (hb _ _ ?_).2
        have hnd : ∀ c, x[j]? = some c → isDig c = false := fun c e => by
          rw [hx] at e; cases e; exact decide_eq_false (by omega)
        obtain ⟨f1, f2, f3, f4⟩ := ends hnd
        have e := fin hnd
        k_extra "walk"
        all_goals first
        | exact fun σ' hk' => kx σ' hk' (f1 (by omega))
        | exact fun σ' hk' => kx σ' hk' (f2 ci hxi (by omega))
        | exact fun σ' hk' => kx σ' hk' (f3 (by omega))
        | (show Q (.int (j : Int)) _; rw [e]; exact k (f4 (by omega) (fun c hc => by rw [hxi] at hc; cases hc; omega) (by omega)))
    · have hnd : ∀ c, x[j]? = some c → isDig c = false := fun c e => by rw [List.getElem?_eq_none hge] at e; cases e
      obtain ⟨f1, f2, f3, f4⟩ := ends hnd
      have e := fin hnd
      rcases Nat.lt_or_ge i x.length with hil | hil
      · obtain ⟨ci, hxi⟩ : ∃ ci, x[i]? = some ci := ⟨_, List.getElem?_eq_getElem hil⟩
        k_extra "walk"
        refine (hb _ _ ?_).2
        k_extra "walk"
        all_goals first
        | exact fun σ' hk' => kx σ' hk' (f1 (by omega))
        | exact fun σ' hk' => kx σ' hk' (f2 ci hxi (by omega))
        | exact fun σ' hk' => kx σ' hk' (f3 (by omega))
        | (show Q (.int (j : Int)) _; rw [e]; exact k (f4 (by omega) (fun c hc => by rw [hxi] at hc; cases hc; omega) (by omega)))
      · have hji : j = i := by omega
        k_extra "walk"
        refine (hb _ _ ?_).2
        k_extra "walk"
        all_goals first
        | exact fun σ' hk' => kx σ' hk' (f1 (by omega))

theorem put_ok {w : World} {σ : AH} {Q : V → AH → Prop} {X : Int → AH → Prop} {f : Rf} {n : Int} (hf : RF σ f) (nd : f.fp.Nodup)
    (k : ∀ σ' l, l.n = n → Kept σ σ' f.fp → Fresh σ l.a → Fresh σ l.d → Fresh σ l.k → [l.a, l.d, l.k].Nodup → (∀ kd, RF σ' ⟨f.a, f.d, f.il, kd, f.cs ++ [l], f.inner⟩) → Q .none σ') : ACall w 3 true 151 [.ref f.a, .int n] σ Q X := by
  refine' acall ["self", "number"] ["node"] ["Node"] ["self", "number", "node"] [some (.ref f.a), some (.int n), none] (f := 151) ?h1 ?h2 ?h3 ?h4 ?h5 ?h6 ?h7 ?hdb ?h8 ?h9 ?h10 ?h11 ?hns ?hm ?h12
  k_extra "enter"
  case h3 => intro vs hv; obtain ⟨a, b, rfl, _, _⟩ := map_two hv; rfl
  intro g' s0 A L l c
  obtain ⟨a, d, il, kd, cs, inner⟩ := f
  obtain ⟨h1, h2, h3, h4, h5⟩ := hf
  dsimp only at h1 h2 h3 h4 h5 nd k ⊢
  have had : a ≠ d := fun q => by rw [q, h2] at h1; cases h1
  have hid : il ≠ d := fun q => by rw [q, h2] at h3; cases h3
  have hai : a ≠ il := fun q => by rw [q, h3] at h1; cases h1
  have ndi : ∀ x ∈ lks cs ++ inner.all, x ≠ a ∧ x ≠ d ∧ x ≠ il := by
    intro x hx
    simp only [Rf.fp, List.nodup_cons, List.mem_cons, not_or] at nd
    exact ⟨fun q => nd.1.2.2 (q ▸ hx), fun q => nd.2.1.2 (q ▸ hx), fun q => nd.2.2.1 (q ▸ hx)⟩
  rcases List.eq_nil_or_concat cs with rfl | ⟨cs0, l, hcs⟩
  · dsimp only [firV, lasV, List.getLast?] at h2
    k_extra "walk"
    rename_i dk hdk nx nd' hnd hnx hnn hk
    have g1 : dk ≠ nx := Fresh.ne hnx
    have g2 : dk ≠ nd' := Fresh.ne hnd
    refine k _ ⟨nx, nd', dk, n⟩ rfl ?_ (Fresh.of_new hnx) (Fresh.of_new hnd) hdk (by simp [hnn, Ne.symm g1, Ne.symm g2]) fun kd' => ?_
    · show Kept σ _ (a :: d :: il :: _); k_extra "kept"
    · have kp : ∀ x, x ≠ d → ∀ o, σ x = some o → upd (upd (upd (upd (upd σ dk (AO.list [])) nd' (AO.ns [("number", V.int n), ("kids", V.ref dk)])) nx (AO.inst 102 nd')) d (AO.ns (put [("first", V.none), ("last", V.none), ("inner", V.ref il)] "first" (V.ref nx)))) d (AO.ns (put (put [("first", V.none), ("last", V.none), ("inner", V.ref il)] "first" (V.ref nx)) "last" (V.ref nx))) x = some o := fun x hx o e => by k_extra "at"
      refine ⟨?_, ?_, ?_, ⟨⟨?_, ?_⟩, ?_, trivial, trivial⟩, ?_⟩
      · exact kp a had _ h1
      · dsimp only; k_extra "at"
      · exact kp il hid _ h3
      · dsimp only; k_extra "at"
      · dsimp only; k_extra "at"
      · show _ = some (AO.list [])
        dsimp only
        have : dk ≠ d := Ne.symm (hdk _ _ h2)
        k_extra "at"
      · refine RN.keptA (S := [d]) (σ := σ) (fun x o e n => kp x (by simpa using n) o e) h5 fun x hx => ?_
        have := ndi x (List.mem_append_right _ hx)
        simpa using this.2.1
  · rw [List.concat_eq_append] at hcs
    subst hcs
    obtain ⟨e1, e2, e3⟩ := chG_last h4
    have hfir : ∃ p, firV (cs0 ++ [l]) = .ref p := by cases cs0 <;> exact ⟨_, rfl⟩
    obtain ⟨p, hp⟩ := hfir
    rw [hp, lasV_snoc] at h2
    have hlk : l.k ∈ lks (cs0 ++ [l]) := by rw [lks_snoc]; simp
    obtain ⟨q1, q2, q3⟩ := ndi l.k (List.mem_append_left _ hlk)
    have q4 : l.k ≠ l.a := fun q => by rw [q, e1] at e3; cases e3
    have q5 : l.k ≠ l.d := fun q => by rw [q, e2] at e3; cases e3
    dsimp only [G.vals] at e3
    k_extra "walk"
    rename_i dk hdk nx nd' hnd hnx hnn hk
    have g1 : dk ≠ nx := Fresh.ne hnx
    have g2 : dk ≠ nd' := Fresh.ne hnd
    refine k _ ⟨nx, nd', dk, n⟩ rfl ?_ (Fresh.of_new hnx) (Fresh.of_new hnd) hdk (by simp [hnn, Ne.symm g1, Ne.symm g2]) fun kd' => ?_
    · show Kept σ _ (a :: d :: il :: (lks (cs0 ++ [l]) ++ inner.all))
      have kp : Kept σ _ [d, l.k] := (by k_extra "kept" : Kept σ (upd (upd (upd (upd (upd σ dk (AO.list [])) nd' (AO.ns [("number", V.int n), ("kids", V.ref dk)])) nx (AO.inst 102 nd')) l.k (AO.list ([] ++ [V.ref nx]))) d (AO.ns (put [("first", V.ref p), ("last", V.ref l.a), ("inner", V.ref il)] "last" (V.ref nx)))) [d, l.k])
      refine kp.more fun x hx => ?_
      simp only [List.mem_cons, List.not_mem_nil, or_false] at hx
      rcases hx with rfl | rfl
      · simp
      · simp [hlk]
    · have kp : ∀ x, x ≠ d → x ≠ l.k → ∀ o, σ x = some o → upd (upd (upd (upd (upd σ dk (AO.list [])) nd' (AO.ns [("number", V.int n), ("kids", V.ref dk)])) nx (AO.inst 102 nd')) l.k (AO.list ([] ++ [V.ref nx]))) d (AO.ns (put [("first", V.ref p), ("last", V.ref l.a), ("inner", V.ref il)] "last" (V.ref nx))) x = some o := fun x hx hx2 o e => by k_extra "at"
      have kpt : Kept σ _ [d, l.k] := fun x o e hn => kp x (fun q => hn (by simp [q])) (fun q => hn (by simp [q])) o e
      have r1 : dk ≠ d := Ne.symm (hdk _ _ h2)
      have r2 : nd' ≠ d := Ne.symm ((Fresh.of_new hnd) _ _ h2)
      have r3 : nx ≠ d := Ne.symm ((Fresh.of_new hnx) _ _ h2)
      have r4 : dk ≠ l.k := Ne.symm (hdk _ _ e3)
      have r5 : nd' ≠ l.k := Ne.symm ((Fresh.of_new hnd) _ _ e3)
      have r6 : nx ≠ l.k := Ne.symm ((Fresh.of_new hnx) _ _ e3)
      have nl : (lks (cs0 ++ [l])).Nodup := by
        simp only [Rf.fp, List.nodup_cons] at nd
        exact (List.nodup_append.mp nd.2.2.2).1
      have hli : ∀ x ∈ lks (cs0 ++ [l]), ∀ y ∈ inner.all, x ≠ y := by
        simp only [Rf.fp, List.nodup_cons] at nd
        exact (List.nodup_append.mp nd.2.2.2).2.2
      refine ⟨?_, ?_, ?_, ?_, ?_⟩
      · exact kp a had (Ne.symm q1) _ h1
      · show _ = some (AO.ns [("first", firV (cs0 ++ [l] ++ [⟨nx, nd', dk, n⟩])), ("last", lasV (cs0 ++ [l] ++ [⟨nx, nd', dk, n⟩])), ("inner", .ref il)])
        rw [firV_snoc, hp, lasV_snoc]
        dsimp only; k_extra "at"
      · exact kp il hid (Ne.symm q3) _ h3
      · dsimp only
        rw [chG_app]
        refine chG_grow h4 kpt (fun x hx hne => ?_) nl ?_ ⟨⟨?_, ?_⟩, ?_, trivial, trivial⟩
        · have := (ndi x (List.mem_append_left _ hx)).2.1
          simp [this, hne]
        · exact upd_get q2 (upd_at rfl)
        · dsimp only; k_extra "at"
        · dsimp only; k_extra "at"
        · show _ = some (AO.list [])
          (try dsimp only); k_extra "at"
      · refine RN.keptA kpt h5 fun x hx => ?_
        have t1 := (ndi x (List.mem_append_right _ hx)).2.1
        have t2 := hli _ hlk x hx
        simp [t1, Ne.symm t2]

theorem chF_chT {ns : List Int} (h : ns ≠ []) (y : F) : chF ns y = chT ns y := by
  cases ns with
  | nil => exact absurd rfl h
  | cons => rfl
theorem chG_fir {cs : List Lk} {p : Addr} (h : firV cs = .ref p) (y : G) : (chG cs y).vals = [.ref p] := by
  cases cs with
  | nil => cases h
  | cons l r => simp [firV] at h; simp [chG, G.vals, h]
theorem closed_ok {w : World} {σ : AH} {Q : V → AH → Prop} {X : Int → AH → Prop} {f : Rf} {i : Int} (hf : RF σ f) (nd : f.fp.Nodup) (hz : f.inner.vals.length ≤ 100000)
    (k : ∀ r t σ', G.vals t = [.ref r] → t.er = chF (f.cs.map Lk.n) f.inner.er → RN σ' t → Kept σ σ' f.fp → t.all.Nodup → (∀ x ∈ t.all, Fresh σ x ∨ x ∈ f.fp) → t.all.length ≤ f.fp.length → f.inner.er.len ≠ 1 → (f.cs ≠ [] ∨ f.inner ≠ .nil) → Q (.ref r) σ')
    (kx : ∀ σ', Kept σ σ' [] → (f.inner.er.len = 1 ∨ f.cs = [] ∧ f.inner = .nil) → X i σ') : ACall w 3 true 158 [.ref f.a, .int i] σ Q X := by
  refine' acall ["self", "at"] [] ["len", "WireFault", "Node"] ["self", "at"] [some (.ref f.a), some (.int i)] (f := 158) ?h1 ?h2 ?h3 ?h4 ?h5 ?h6 ?h7 ?hdb ?h8 ?h9 ?h10 ?h11 ?hns ?hm ?h12
  k_extra "enter"
  case h3 => intro vs hv; obtain ⟨a, b, rfl, _, _⟩ := map_two hv; rfl
  intro g' s0 A L l c
  obtain ⟨a, d, il, kd, cs, inner⟩ := f
  obtain ⟨h1, h2, h3, h4, h5⟩ := hf
  dsimp only at h1 h2 h3 h4 h5 nd k kx hz ⊢
  have had : a ≠ d := fun q => by rw [q, h2] at h1; cases h1
  have hid : il ≠ d := fun q => by rw [q, h2] at h3; cases h3
  have hai : a ≠ il := fun q => by rw [q, h3] at h1; cases h1
  have ndi : ∀ x ∈ lks cs ++ inner.all, x ≠ a ∧ x ≠ d ∧ x ≠ il := by
    intro x hx
    simp only [Rf.fp, List.nodup_cons, List.mem_cons, not_or] at nd
    exact ⟨fun q => nd.1.2.2 (q ▸ hx), fun q => nd.2.1.2 (q ▸ hx), fun q => nd.2.2.1 (q ▸ hx)⟩
  have ndt : (lks cs ++ inner.all).Nodup := by
    simp only [Rf.fp, List.nodup_cons] at nd
    exact nd.2.2.2
  have vl := G.vals_len inner
  rcases List.eq_nil_or_concat cs with rfl | ⟨cs0, l, hcs⟩
  · dsimp only [firV, lasV, List.getLast?] at h2
    k_extra "walk"
    · rename_i hk _
      exact fun σ' hk' => kx σ' hk' (.inl (by omega))
    · rename_i hk _ _
      exact fun σ' hk' => kx σ' (Kept.trans (by k_extra "kept") hk') (.inr ⟨rfl, G.vals_nil hk⟩)
    · rename_i hk1 _ dk hdk hk2 _ _ _ nx nd' hnd hnx hnn
      have hkp : Kept σ (upd (upd (upd σ dk (AO.list [])) nd' (AO.ns [("number", V.int 0), ("kids", V.ref il)])) nx (AO.inst 102 nd')) [] := by k_extra "kept"
      have hnx' := Fresh.of_new hnx
      have hnd' := Fresh.of_new hnd
      have hst : ∀ x ∈ il :: inner.all, σ x ≠ none := by
        intro x hx
        rcases List.mem_cons.mp hx with rfl | hx
        · rw [h3]; nofun
        · exact h5.stands x hx
      have hil : il ∉ inner.all := fun q => (ndi il (List.mem_append_right _ q)).2.2 rfl
      have hni : inner.all.Nodup := (List.nodup_append.mp ndt).2.1
      refine k nx (.cons nx nd' il 0 inner .nil) _ rfl rfl ?_ (hkp.more (by simp)) ?_ ?_ ?_ (by omega) (.inr fun q => hk2 (by rw [q]; rfl))
      · exact ⟨⟨by k_extra "at", by k_extra "at"⟩, hkp.get h3, RN.kept hkp h5, trivial⟩
      · simp only [G.all, List.append_nil, List.nodup_cons, List.mem_cons, not_or]
        refine ⟨⟨hnn, fun q => ?_, fun q => ?_⟩, ⟨fun q => ?_, fun q => ?_⟩, hil, hni⟩
        · exact hnx' _ _ h3 q.symm
        · exact Fresh.notin hnx' (fun x hx => hst x (.tail _ hx)) q
        · exact hnd' _ _ h3 q.symm
        · exact Fresh.notin hnd' (fun x hx => hst x (.tail _ hx)) q
      · intro x hx
        simp only [G.all, List.append_nil, List.mem_cons] at hx
        rcases hx with rfl | rfl | rfl | hx
        · exact .inl hnx'
        · exact .inl hnd'
        · right; simp [Rf.fp]
        · right; simp [Rf.fp, hx]
      · simp [G.all, Rf.fp, lks]
  · rw [List.concat_eq_append] at hcs
    subst hcs
    obtain ⟨e1, e2, e3⟩ := chG_last h4
    have hfir : ∃ p, firV (cs0 ++ [l]) = .ref p := by cases cs0 <;> exact ⟨_, rfl⟩
    obtain ⟨p, hp⟩ := hfir
    rw [hp, lasV_snoc] at h2
    have hlk : l.k ∈ lks (cs0 ++ [l]) := by rw [lks_snoc]; simp
    obtain ⟨q1, q2, q3⟩ := ndi l.k (List.mem_append_left _ hlk)
    have q4 : l.k ≠ l.a := fun q => by rw [q, e1] at e3; cases e3
    have q5 : l.k ≠ l.d := fun q => by rw [q, e2] at e3; cases e3
    dsimp only [G.vals] at e3
    k_extra "walk"
    · rename_i hk _
      exact fun σ' hk' => kx σ' hk' (.inl (by omega))
    · rename_i hk _ _ _ _
      have nl : (lks (cs0 ++ [l])).Nodup := (List.nodup_append.mp ndt).1
      have hli := (List.nodup_append.mp ndt).2.2
      have hkp : Kept σ (upd σ l.k (AO.list ([] ++ inner.vals))) [l.k] := by k_extra "kept"
      refine k p (chG (cs0 ++ [l]) inner) _ (chG_fir hp _) ?_ ?_ (hkp.more ?_) ?_ ?_ ?_ (by omega) (.inl (by simp))
      · rw [chG_er, chF_chT (by simp)]
      · refine chG_grow h4 hkp (fun x hx hne => by simpa using hne) nl (upd_at rfl) (RN.keptA hkp h5 fun x hx => ?_)
        simpa using Ne.symm (hli _ hlk x hx)
      · intro x hx
        rw [List.mem_singleton.mp hx]
        simp [Rf.fp, hlk]
      · rw [chG_all]; exact ndt
      · intro x hx
        rw [chG_all] at hx
        right; simp only [Rf.fp, List.mem_cons]; exact .inr (.inr (.inr hx))
      · rw [chG_all]; simp [Rf.fp]; omega

theorem kp151 (w : World) : Kp w (.ref 151) := by show keepIn (KH w) _ = true; kernel_rfl
theorem kp158 (w : World) : Kp w (.ref 158) := by show keepIn (KH w) _ = true; kernel_rfl
theorem fi151 (w : World) : findIn (KH w) (.ref 161) (Str.ofString "put_number") = some (some (.ref 151)) := by kernel_rfl
theorem fi158 (w : World) : findIn (KH w) (.ref 161) (Str.ofString "closed") = some (some (.ref 158)) := by kernel_rfl
theorem ty151 (w : World) : typeIn (KH w) (.ref 151) = some (.type "function") := by kernel_rfl
theorem ty158 (w : World) : typeIn (KH w) (.ref 158) = some (.type "function") := by kernel_rfl
theorem member_ok {w : World} {σ : AH} {Q : V → AH → Prop} {X : Int → AH → Prop} {x : List Nat} {i c₀ : Nat} {f : Rf} {R : Except Nat F} {top : F} {st : List Fs} (hz : x.length ≤ 1000000) (hx : x[i]? = some c₀) (c0 : c₀ ≠ 40) (c1 : c₀ ≠ 41)
    (hf : RF σ f) (nd : f.fp.Nodup) (hk : kok f) (hh : hok x i f) (hR : run top (f.fs :: st) (x.drop i) i = R)
    (k : ∀ (j : Nat) f' σ', i < j → j ≤ x.length → f'.a = f.a → Kept σ σ' f.fp → RF σ' f' → f'.fp.Nodup → (∀ y ∈ f'.fp, y ∈ f.fp ∨ Fresh σ y) → f'.fp.length ≤ f.fp.length + 3 → kok f' → hok x j f' → run top (f'.fs :: st) (x.drop j) j = R → Q (.int j) σ')
    (kx : ∀ (j : Nat) σ', Kept σ σ' f.fp → R = .error j → X j σ') : ACall w 4 true 186 [.bytes x, .int i, .ref f.a] σ Q X := by
  refine' acall ["octets", "at", "frame"] ["end"] ["number_end", "BLANK", "WireFault", "int"] ["octets", "at", "frame", "end"] [some (.bytes x), some (.int i), some (.ref f.a), none] (f := 186) ?h1 ?h2 ?h3 ?h4 ?h5 ?h6 ?h7 ?hdb ?h8 ?h9 ?h10 ?h11 ?hns ?hm ?h12
  k_extra "enter"
  case h3 => intro vs hv; obtain ⟨a, b, d, rfl, _, _, _⟩ := map_three hv; rfl
  intro g' s0 A L l c
  obtain ⟨a, d, il, kd, cs, inner⟩ := f
  have hf' := hf
  have hfs := hf.stands
  obtain ⟨h1, h2, h3, h4, h5⟩ := hf
  have hi : i < x.length := (List.getElem?_eq_some_iff.mp hx).1
  have hz' : x.length ≤ sizeLine := by rw [sizeLine_eq]; omega
  dsimp only at h1 h2 h3 h4 h5 k kx ⊢
  have had : a ≠ d := fun q => by rw [q, h2] at h1; cases h1
  have hid : il ≠ d := fun q => by rw [q, h2] at h3; cases h3
  have hai : a ≠ il := fun q => by rw [q, h3] at h1; cases h1
  cases kd
  case lists =>
    have hin : inner.vals ≠ [] := fun q => hk (G.vals_nil q)
    k_extra "walk"
    all_goals first
    | exact fun σ' hk' => kx i σ' (Kept.trans (by k_extra "kept") (hk'.more (by simp))) (by rw [← hR]; exact run_lists rfl hx c0 c1)
    | exact absurd (by assumption) hin
  case blank => exact absurd (hh.2 rfl) (by rw [hx]; simpa using c0)
  case' new =>
    obtain ⟨hcs, hin⟩ := hk
    dsimp only at hcs hin
    subst hin
    rw [show firV cs = .none by rw [hcs]; rfl] at h2
    dsimp only [G.vals] at h3
    k_extra "walk"
    rename_i dx hdx _ _
    obtain ⟨j, kd', hj0, hj1, hj2, hj3, hj4, hR'⟩ : ∃ (j : Nat) (kd' : K), (j : Int) = (i : Int) ∧ i ≤ j ∧ j ≤ x.length ∧ x[j]? ≠ some 40 ∧ (kd' = .new ∨ kd' = .blank) ∧ run top (⟨kd', cs.map Lk.n, .nil⟩ :: st) (x.drop j) j = R :=
      ⟨i, .new, rfl, Nat.le_refl _, by omega, by rw [hx]; simpa using c0, .inl rfl, hR⟩
    rw [← hj0]
  case' num =>
    obtain ⟨hcs, hin⟩ := hk
    dsimp only at hcs hin
    subst hin
    obtain ⟨p, hp⟩ : ∃ p, firV cs = .ref p := by
      cases cs with
      | nil => exact absurd rfl hcs
      | cons l r => exact ⟨_, rfl⟩
    rw [hp] at h2
    dsimp only [G.vals] at h3
    k_extra "walk"
    · rename_i hc
      exact fun σ' hk' => kx i σ' (Kept.trans (by k_extra "kept") (hk'.more (by simp))) (by rw [← hR]; exact run_numk rfl hx c1 (by omega))
    · rename_i dx hdx _ _ hc1 hc2
      have hc : c₀ = 32 := by omega
      subst hc
      have hc2 := (cut_one x (i + 1)).mp hc2
      have hkp : Kept σ (upd σ dx (AO.list [])) [] := by k_extra "kept"
      refine k (i + 1) ⟨a, d, il, .blank, cs, .nil⟩ _ (by omega) (by omega) rfl (hkp.more (by simp)) (RF.kept (f := ⟨a, d, il, .blank, cs, .nil⟩) hkp hf' (by simp)) nd (fun y hy => .inl hy) (by simp [Rf.fp]) ⟨hcs, rfl⟩ ⟨nofun, fun _ => hc2⟩ ?_
      rw [← hR]; exact (run_blankk (f := ⟨.num, cs.map Lk.n, .nil⟩) rfl hx).symm
    rename_i dx hdx _ _ hc1 hc2
    have hc : c₀ = 32 := by omega
    subst hc
    have hc2 := fun q => hc2 ((cut_one x (i + 1)).mpr q)
    obtain ⟨j, kd', hj0, hj1, hj2, hj3, hj4, hR'⟩ : ∃ (j : Nat) (kd' : K), (j : Int) = (i : Int) + 1 ∧ i ≤ j ∧ j ≤ x.length ∧ x[j]? ≠ some 40 ∧ (kd' = .new ∨ kd' = .blank) ∧ run top (⟨kd', cs.map Lk.n, .nil⟩ :: st) (x.drop j) j = R :=
      ⟨i + 1, .blank, by omega, by omega, by omega, hc2, .inr rfl, by rw [← hR]; exact (run_blankk (f := ⟨.num, cs.map Lk.n, .nil⟩) rfl hx).symm⟩
    rw [← hj0]
  all_goals
    refine oc_fx (number_end_ok hz hj2 (fun hg => ?_) (fun σ' hk' hb => ?_)) (Nat.le_of_ble_eq_true rfl) (fun _ => rfl) rfl (fun _ _ h => h)
    rotate_left
    · exact kx j σ' (Kept.trans (by k_extra "kept") (hk'.more (by simp))) (by rw [← hR']; exact run_bad hj4 hj3 hb)
    have hnn : figs (x.drop j) ≠ [] := fun q => hg (.inl q)
    have h20 : (figs (x.drop j)).length ≤ 20 := Nat.not_lt.mp fun q => hg (.inr (.inr q))
    have hle : j + (figs (x.drop j)).length ≤ x.length := (figs_end x j).resolve_right hnn
    have hlt : 0 < (figs (x.drop j)).length := List.length_pos_iff.mpr hnn
    have hcf := cut_figs x j
    have hrg := run_good (top := top) (f := ⟨kd', cs.map Lk.n, .nil⟩) (st := st) hj4 hg
    rw [hR'] at hrg
    generalize hv : ((PySem.NumText.digitsVal (figs (x.drop j)) : Nat) : Int) = nv at hrg
    have hint : ∀ {m σ Q E}, Q (.int nv) σ → OC c (.type "int") [.bytes (figs (x.drop j))] m σ Q E := fun hq => oc_intb (figs_all _) hnn (by omega) (hv ▸ hq)
    generalize figs (x.drop j) = ff at hnn h20 hle hlt hcf hrg hint ⊢
    generalize hjn : j + ff.length = jn at hle hcf hrg ⊢
    k_extra "walk"
    refine ae_meth (f := 151) (cl_frame _) (fi151 _) (ty151 _) (kp151 _) ?_ (by with_unfolding_all rfl) (by with_unfolding_all rfl)
    k_extra "walk"
    refine ⟨a, d, _, rfl, by k_extra "at", by k_extra "at", rfl, ?_⟩
    k_extra "walk"
    rw [hcf]
    refine hint ?_
    k_extra "walk"
    have hkp : Kept σ (upd σ dx (AO.list [])) [] := by k_extra "kept"
    generalize upd σ dx (AO.list []) = σ₁ at hkp ⊢
    refine oc_f0 (put_ok (RF.kept hkp hf' (by simp)) nd fun σ' l hl hk' ha hd hkk hnd hrf => ?_) (Nat.le_of_ble_eq_true rfl) (fun _ => rfl) rfl
    refine ⟨rfl, ?_⟩
    have hfp : Kept σ σ' (a :: d :: il :: (lks cs ++ [])) := Kept.trans (hkp.more (by simp)) hk'
    have ha := Fresh.back hkp ha
    have hd := Fresh.back hkp hd
    have hkk := Fresh.back hkp hkk
    clear hk' hf' h1 h2 h3 h4 h5 hR hR' hint hkp
    k_extra "walk"
    · rename_i hcut
      have hcut := (cut_one x jn).mp hcut
      exact fun σ'' hk'' => kx jn σ'' (Kept.trans hfp (hk''.more (by simp))) (by rw [hrg]; exact run_openn rfl hcut)
    · rename_i hcut
      have hcut := fun q => hcut ((cut_one x jn).mpr q)
      have hst : ∀ y ∈ (a :: d :: il :: (lks cs ++ [] : List Addr)), σ y ≠ none := hfs
      have hne : ∀ y ∈ [l.a, l.d, l.k], y ∉ (a :: d :: il :: (lks cs ++ [] : List Addr)) := by
        intro y hy
        simp only [List.mem_cons, List.not_mem_nil, or_false] at hy
        rcases hy with rfl | rfl | rfl
        · exact Fresh.notin ha hst
        · exact Fresh.notin hd hst
        · exact Fresh.notin hkk hst
      have hfe : Rf.fp ⟨a, d, il, .num, cs ++ [l], .nil⟩ = (a :: d :: il :: (lks cs ++ [] : List Addr)) ++ [l.a, l.d, l.k] := by simp [Rf.fp, lks_snoc, G.all]
      refine k jn ⟨a, d, il, .num, cs ++ [l], .nil⟩ σ' (by omega) hle rfl hfp (hrf _) ?_ ?_ ?_ ⟨by simp, rfl⟩ ⟨fun _ q => hcut q, nofun⟩ ?_
      · rw [hfe]
        exact List.nodup_append.mpr ⟨nd, hnd, fun y hy z hz q => hne z hz (q ▸ hy)⟩
      · intro y hy
        rw [hfe] at hy
        rcases List.mem_append.mp hy with hy | hy
        · exact .inl hy
        · right
          simp only [List.mem_cons, List.not_mem_nil, or_false] at hy
          rcases hy with rfl | rfl | rfl
          · exact ha
          · exact hd
          · exact hkk
      · rw [hfe]; simp [Rf.fp, G.all]
      · rw [hrg]
        show run top (⟨.num, (cs ++ [l]).map Lk.n, .nil⟩ :: st) _ _ = _
        rw [List.map_append, List.map_cons, List.map_nil, hl]

inductive J14 (x : List Nat) (σ : AH) (z : Nat) (m₁ : List (Option V)) (σ₁ : AH) : Prop where
  | mk (fl : Addr) (gs : List Rf) (i : Nat) (v : Option V) (h0 : m₁ = [some (.bytes x), some (.ref fl), some (.int i), v]) (h1 : RI x σ σ₁ fl gs i) (h2 : i ≤ x.length) (h3 : z = x.length - i) : J14 x σ z m₁ σ₁
theorem read_ok {w : World} {σ : AH} {Q : V → AH → Prop} {X : Int → AH → Prop} {x : List Nat} (hz : x.length ≤ 30000)
    (k : ∀ r σ' g, Kept σ σ' [] → Fresh σ r → σ' r = some (.list (G.vals g)) → RN σ' g → parse x = .ok g.er → Q (.ref r) σ')
    (kx : ∀ (i : Nat) σ', Kept σ σ' [] → parse x = .error i → X i σ') : ACall w 5 true 179 [.bytes x] σ Q X := by
  refine' acall ["octets"] ["frames", "at", "frame"] ["Frame", "OPENING", "CLOSING", "WireFault", "read_member", "len"] ["octets", "frames", "at", "frame"] [some (.bytes x), none, none, none] (f := 179) ?h1 ?h2 ?h3 ?h4 ?h5 ?h6 ?h7 ?hdb ?h8 ?h9 ?h10 ?h11 ?hns ?hm ?h12
  k_extra "enter"
  case h3 => intro vs hv; obtain ⟨a, rfl, _⟩ := map_one hv; rfl
  intro g' s0 A L l c
  have hz' : x.length ≤ sizeLine := by rw [sizeLine_eq]; omega
  k_extra "walk"
  rename_i nx nd nl hnd hnx hnl hn1 hn2 hn3 fl hfl dt hdt
  refine ax_whileQ (J14 x σ) x.length xe_pass ?_ ?_
  · refine ⟨fl, [⟨nx, nd, nl, .new, [], .nil⟩], 0, _, rfl, ?_, by omega, by omega⟩
    have d1 : nl ≠ fl := hfl nl (.list []) (by k_extra "at")
    have d2 : nd ≠ fl := hfl nd _ (by k_extra "at")
    have d3 : nx ≠ fl := hfl nx _ (by k_extra "at")
    have hfl0 : Fresh σ fl := Fresh.of_new (Fresh.of_new (Fresh.of_new hfl))
    have dt1 : fl ≠ dt := hdt fl _ (by k_extra "at")
    have dt2 : nx ≠ dt := hdt nx (.inst 161 nd) (by k_extra "at")
    have dt3 : nd ≠ dt := hdt nd (.ns [("first", .none), ("last", .none), ("inner", .ref nl)]) (by k_extra "at")
    have dt4 : nl ≠ dt := hdt nl (.list []) (by k_extra "at")
    have hdt0 : Fresh σ dt := Fresh.of_new (Fresh.of_new (Fresh.of_new (Fresh.of_new hdt)))
    refine RI.init ?_ hfl0 hnx hnd hnl hn1 hn2 hn3 d3 d2 d1 (by k_extra "at") (RF.new (by k_extra "at") (by k_extra "at") (by k_extra "at"))
    k_extra "kept"
  · rintro z m₁ σ₁ ⟨fl, gs, i, v, rfl, hI, hi, rfl⟩ R F hn hb hr
    obtain ⟨hs1, hs2⟩ := hI.sizes
    cases gs with
    | nil => exact absurd rfl hI.ne
    | cons f r =>
    have hl : σ₁ fl = some (.list ((r.map (fun f => V.ref f.a)).reverse ++ [V.ref f.a])) := by rw [hI.lst]; simp
    have hf := hI.rf f (.head _)
    have nf : f.fp.Nodup := by
      have := hI.nd
      rw [List.nodup_cons, List.flatMap_cons] at this
      exact (List.nodup_append.mp this.2).1
    rcases Nat.lt_or_ge i x.length with hlt | hge
    · obtain ⟨c0, hx⟩ : ∃ c0, x[i]? = some c0 := ⟨_, List.getElem?_eq_getElem hlt⟩
      by_cases h40 : c0 = 40
      · subst h40
        k_extra "walk"
        rename_i nx nd nl hnd hnx hnl hn1 hn2 hn3
        refine (hn _ _ ?_).1
        exact ⟨_, by omega, fl, _, i + 1, _, rfl, RI.open hI hx hnx hnd hnl hn1 hn2 hn3 hl, by omega, rfl⟩
      · cases r with
        | nil =>
          dsimp only [List.map, List.reverse] at hl
          k_extra "walk"
          refine fun σ' hk' => kx i σ' (Kept.trans hI.kept hk') ?_
          rw [← hI.rn, drop_at hx]
          show run _ [] _ _ = _
          rw [run_10, if_neg h40]
        | cons p r =>
          by_cases h41 : c0 = 41
          · subst h41
            rw [List.map_cons, List.reverse_cons] at hl
            obtain ⟨p1, p2, p3, p4, p5⟩ := hI.rf p (by simp)
            have nd := hI.nd
            rw [List.nodup_cons, List.flatMap_cons, List.flatMap_cons] at nd
            obtain ⟨n1, n2⟩ := nd
            have e1 : p.a ≠ fl := fun q => n1 (by simp [← q, Rf.fp])
            have e2 : p.d ≠ fl := fun q => n1 (by simp [← q, Rf.fp])
            have e3 : p.il ≠ fl := fun q => n1 (by simp [← q, Rf.fp])
            have e4 : ∀ y ∈ f.fp, y ∉ [fl] := fun y hy q => n1 (by rw [← List.mem_singleton.mp q]; simp [hy])
            have hs3 := hs2 f (by simp)
            have hs4 := hs2 p (by simp)
            k_extra "walk"
            refine ae_meth (f := 158) (cl_frame _) (fi158 _) (ty158 _) (kp158 _) ?_ (by with_unfolding_all rfl) (by with_unfolding_all rfl)
            k_extra "walk"
            have hf2 : RF (upd σ₁ fl (AO.list ((List.map (fun f => V.ref f.a) r).reverse ++ [V.ref p.a]))) f := RF.kept (S := [fl]) (by k_extra "kept") hf e4
            obtain ⟨f1, f2, f3, f4, f5⟩ := id hf2
            refine ⟨f.a, f.d, _, rfl, f1, f2, rfl, ?_⟩
            k_extra "walk"
            refine oc_fx (closed_ok hf2 nf (by omega) (fun r0 t σ₂ tv te tr hk tn ts tl hc1 hc2 => ?_) fun σ' hk' hc => ?_) (Nat.le_of_ble_eq_true rfl) (fun _ => rfl) rfl (fun _ _ h => h)
            · have key := RI.close hI hx hc1 hc2 (by simp) hk tv te tr tn ts tl
              k_extra "walk"
              refine oc_append key.1 (by rw [sizeLine_eq]; omega) ?_
              k_extra "walk"
              refine (hn _ _ ?_).1
              exact ⟨_, by omega, fl, _, i + 1, _, rfl, key.2, by omega, rfl⟩
            · refine kx i σ' ?_ (RI.bad hI hx hc)
              refine fun a o e _ => hk' a o ?_ (by simp)
              exact upd_some (hI.kept.get e) (hI.ffl a o e)
          · k_extra "walk"
            refine oc_fx (member_ok (by omega) hx h40 h41 hf nf hI.ok.1 (hI.hd f p r rfl) hI.rn (fun j f' σ₂ hij hj ha hk hf' nf' hs hln hko hho hrn => ?_) fun j σ' hk' hR => ?_) (Nat.le_of_ble_eq_true rfl) (fun _ => rfl) rfl (fun _ _ h => h)
            · have key := RI.mem hI hij ha hk hf' nf' hs hln hko hho hrn
              k_extra "walk"
              refine (hn _ _ ?_).1
              exact ⟨_, by omega, fl, _, j, _, rfl, key, hj, rfl⟩
            · refine kx j σ' (fun a o e _ => hk' a o (hI.kept.get e) fun q => ?_) hR
              exact hI.fr a (by simp [q]) a o e rfl
    · cases r with
      | nil =>
        dsimp only [List.map, List.reverse, List.nil_append, List.reverseAux] at hl
        obtain ⟨f1, f2, f3, f4, f5⟩ := hf
        k_extra "walk"
        refine (hb _ _ ?_).2
        k_extra "walk"
        refine k _ _ f.inner hI.kept (hI.fr _ (by simp [Rf.fp])) f3 f5 ?_
        rw [← hI.rn, drop_end hge]
        show run f.inner.er [] [] _ = _
        rw [run_00]
      | cons p r =>
        k_extra "walk"
        refine (hb _ _ ?_).2
        k_extra "walk"
        refine fun σ' hk' => kx i σ' (Kept.trans hI.kept hk') ?_
        rw [← hI.rn, drop_end hge]
        show run _ (f.fs :: _) [] _ = _
        rw [run_01]

inductive J15 (x : List Nat) (σ : AH) (z : Nat) (m₁ : List (Option V)) (σ₁ : AH) : Prop where
  | mk (ln : Addr) (top : F) (as : List (Addr × Fs)) (i : Nat) (v1 v2 v3 : Option V) (h0 : m₁ = [some (.bytes x), some (.ref ln), some (.int i), v1, v2, v3]) (h1 : LI x σ σ₁ ln top as i) (h2 : i ≤ x.length) (h3 : z = x.length - i) : J15 x σ z m₁ σ₁
inductive J15b (x : List Nat) (σ : AH) (ln : Addr) (i : Nat) (c0 : Nat) (a : Addr) (s : Fs) (r : List (Addr × Fs)) (z : Nat) (m₁ : List (Option V)) (σ₂ : AH) : Prop where
  | mk (n : Nat) (h0 : m₁ = [some (.bytes x), some (.ref ln), some (.int i), some (.str [c0]), some (.str s.k.txt), some (.int n)]) (h1 : LW σ σ₂ ln ((a, s) :: r)) (h2 : σ₂ ln = some (.list ((r.map (fun p => V.ref p.1)).reverse ++ [V.ref a]))) (h3 : 1 ≤ n) (h4 : i + n ≤ x.length) (h5 : (∀ m, i ≤ m → m < i + n → ∃ c, x[m]? = some c ∧ isDig c = true)) (h6 : z = x.length - (i + n)) : J15b x σ ln i c0 a s r z m₁ σ₂
theorem stop_walk {w : World} {σ : AH} {Q : V → AH → Prop} {X : Int → AH → Prop} {x : List Nat} {h : Bool} (hz : x.length ≤ 1000000) (hb0 : ∀ c ∈ x, c < 256)
    (k : ∀ σ', Kept σ σ' [] → Q (.int (stopOf x)) σ') : ACall w 1 h 245 [.bytes x] σ Q X := by
  refine' acall ["octets"] ["line", "at", "sign", "state", "count"] ["len", "chr"] ["octets", "line", "at", "sign", "state", "count"] [some (.bytes x), none, none, none, none, none] (f := 245) ?h1 ?h2 ?h3 ?h4 ?h5 ?h6 ?h7 ?hdb ?h8 ?h9 ?h10 ?h11 ?hns ?hm ?h12
  k_extra "enter"
  case h3 => intro vs hv; obtain ⟨a, rfl, _⟩ := map_one hv; rfl
  intro g' s0 A L l c
  have hz' : x.length ≤ sizeLine := by rw [sizeLine_eq]; omega
  k_extra "walk"
  rename_i ln hln dt hdt
  refine ax_whileQ (J15 x σ) x.length xe_pass ?_ ?_
  · refine ⟨ln, .nil, [], 0, _, _, _, rfl, ⟨⟨?_, hln, nofun, nofun⟩, ?_, rfl, by simp⟩, by omega, by omega⟩
    · k_extra "kept"
    · show _ = some (AO.list [])
      k_extra "at"
  · rintro z m₁ σ₁ ⟨ln, top, as, i, v1, v2, v3, rfl, hI, hi, rfl⟩ R F hn hb hr
    have hlen := hI.len
    have stops : ∀ m σ', parse x = .error i → Kept σ σ' [] → R (.ret (.int (i : Int))) m σ' := fun m σ' e kk => hr _ _ _ (by rw [← stop_err e]; exact k _ kk)
    rcases Nat.lt_or_ge i x.length with hlt | hge
    · obtain ⟨c0, hx⟩ : ∃ c0, x[i]? = some c0 := ⟨_, List.getElem?_eq_getElem hlt⟩
      have hc256 : c0 < 256 := hb0 c0 (List.mem_of_getElem? hx)
      rcases as with _ | ⟨⟨a, s⟩, r⟩
      · have hl : σ₁ ln = some (.list []) := by rw [hI.lst]; rfl
        k_extra "walk"
        · rename_i hc _ _ _ _
          subst hc
          refine (hn _ _ ?_).1
          exact ⟨_, by omega, ln, top, _, i + 1, _, _, _, rfl, hI.push (hI.lw.new (by assumption)) hx nofun (by assumption) (by k_extra "at") rfl, by omega, rfl⟩
        all_goals
          refine stops _ _ ?_ (Kept.trans hI.lw.kept (by k_extra "kept"))
          rw [← hI.rn, drop_at hx]
          show run top [] _ _ = _
          rw [run_10, if_neg (by assumption)]
      · have hl : σ₁ ln = some (.list ((r.map (fun p => V.ref p.1)).reverse ++ [V.ref a])) := by rw [hI.lst]; simp
        obtain ⟨ha, hne⟩ := hI.lw.it (a, s) (.head _)
        dsimp only at ha
        have hlw := hI.lw
        have hst : ∀ j : Nat, run top (s :: r.map (·.2)) (x.drop i) i = .error j → parse x = .error j := fun j q => by rw [← hI.rn]; exact q
        by_cases hc0 : c0 = 40
        · subst hc0
          k_extra "walk"
          · refine (hn _ _ ?_).1
            exact ⟨_, by omega, ln, top, _, i + 1, _, _, _, rfl, hI.push (hI.lw.new (by assumption)) hx (fun p r e => by cases e; exact txt_num' (by assumption)) (by assumption) (by k_extra "at") (by simp), by omega, rfl⟩
          · exact stops _ _ (hst i (run_err hx (fun _ => txt_num (by assumption)) nofun nofun (fun q => by omega))) (Kept.trans hI.lw.kept (by k_extra "kept"))
        by_cases hc1 : c0 = 41
        · subst hc1
          rcases r with _ | ⟨⟨a2, s2⟩, r⟩
          · replace hl : σ₁ ln = some (.list ([] ++ [V.ref a])) := hl
            k_extra "walk"
            · refine (hn _ _ ?_).1
              exact ⟨_, by omega, ln, _, [], i + 1, _, _, _, rfl, hI.pop0 (LW.new (LW.set (LW.new hI.lw.tail (by assumption))) (by assumption)) (by k_extra "at") hx (step_num (by assumption)), by omega, rfl⟩
            · refine (hn _ _ ?_).1
              exact ⟨_, by omega, ln, _, [], i + 1, _, _, _, rfl, hI.pop0 (LW.new (LW.set (LW.new hI.lw.tail (by assumption))) (by assumption)) (by k_extra "at") hx (step_lists (by assumption) (by assumption)), by omega, rfl⟩
            · exact stops _ _ (hst i (run_err hx nofun (fun _ => step_no1 (by assumption) (by assumption) (by assumption)) nofun (fun q => by omega))) (Kept.trans hI.lw.kept (by k_extra "kept"))
            · exact stops _ _ (hst i (run_err hx nofun (fun _ => step_no (by assumption) (by assumption)) nofun (fun q => by omega))) (Kept.trans hI.lw.kept (by k_extra "kept"))
          · replace hl : σ₁ ln = some (.list ((r.map (fun p => V.ref p.1)).reverse ++ [V.ref a2] ++ [V.ref a])) := by rw [hl]; simp
            obtain ⟨ha2, hne2⟩ := hI.lw.it (a2, s2) (by simp)
            dsimp only at ha2
            k_extra "walk"
            · refine (hn _ _ ?_).1
              exact ⟨_, by omega, ln, top, _, i + 1, _, _, _, rfl, hI.popn (LW.add (LW.new (LW.set (LW.new hI.lw.tail.tail (by assumption))) (by assumption)) (by assumption) (by k_extra "at") rfl (cnt_add hI.lw (p := (a2, s2)) (by simp) _ _) nofun) (upd_at rfl) hx (step_num (by assumption)), by omega, rfl⟩
            · refine (hn _ _ ?_).1
              exact ⟨_, by omega, ln, top, _, i + 1, _, _, _, rfl, hI.popn (LW.add (LW.new (LW.set (LW.new hI.lw.tail.tail (by assumption))) (by assumption)) (by assumption) (by k_extra "at") rfl (cnt_add hI.lw (p := (a2, s2)) (by simp) _ _) nofun) (upd_at rfl) hx (step_lists (by assumption) (by assumption)), by omega, rfl⟩
            · exact stops _ _ (hst i (run_err hx nofun (fun _ => step_no1 (by assumption) (by assumption) (by assumption)) nofun (fun q => by omega))) (Kept.trans hI.lw.kept (by k_extra "kept"))
            · exact stops _ _ (hst i (run_err hx nofun (fun _ => step_no (by assumption) (by assumption)) nofun (fun q => by omega))) (Kept.trans hI.lw.kept (by k_extra "kept"))
        by_cases hc2 : c0 = 32
        · subst hc2
          k_extra "walk"
          · have hk := txt_num (by assumption : s.k.txt = [110, 117, 109, 98, 101, 114])
            refine (hn _ _ ?_).1
            exact ⟨_, by omega, ln, top, _, i + 1, _, _, _, rfl, hI.setb (LW.add (LW.new hI.lw.tail (by assumption)) (by assumption) (by k_extra "at") rfl rfl fun _ => hI.lw.inv (a, s) (.head _) (by rw [hk]; nofun)) (upd_at rfl) hx hk, by omega, rfl⟩
          · exact stops _ _ (hst i (run_err hx nofun nofun (fun _ => txt_num' (by assumption)) (fun q => by omega))) (Kept.trans hI.lw.kept (by k_extra "kept"))
        by_cases hc3 : 49 ≤ c0 ∧ c0 ≤ 57
        · k_extra "walk"
          · have hk := txt_nb (by assumption)
            refine ax_whileQ (J15b x σ ln i c0 a s r) (x.length - (i + 1)) xe_pass ?_ ?_
            · refine ⟨1, rfl, LW.new (LW.new hI.lw (by assumption)) (by assumption), by k_extra "at", Nat.le_refl _, hlt, fun m a b => ?_, rfl⟩
              obtain rfl : m = i := by omega
              exact ⟨_, hx, decide_eq_true (by omega)⟩
            · rintro z m₁ σ₂ ⟨n, rfl, hw, hl2, h1, h2, h3, rfl⟩ R2 F2 hn2 hb2 hr2
              have go : (∀ c, x[i + n]? = some c → isDig c = false) → F2 [some (.bytes x), some (.ref ln), some (.int i), some (.str [c0]), some (.str s.k.txt), some (.int n)] σ₂ := by
                intro hnd
                have hfl := figs_at x i (i + n) (by omega) h3 hnd
                have hfn : (figs (x.drop i)).length = n := by omega
                refine (hb2 _ _ ?_).2
                k_extra "walk"
                · refine stops _ _ (hI.many hx hk hc0 (by omega)) (Kept.trans hw.kept (by k_extra "kept"))
                · refine (hn _ _ ?_).1
                  refine ⟨_, ?_, ln, top, _, i + (figs (x.drop i)).length, some (.str [c0]), some (.str s.k.txt), some (.int n), ?_, hI.setn (LW.add hw.tail (by assumption) (by k_extra "at") rfl rfl fun _ => hI.lw.inv (a, s) (.head _) (by rcases hk with q | q <;> rw [q] <;> nofun)) (upd_at rfl) hx hc3 hk (by omega), by omega, rfl⟩
                  · omega
                  · rw [hfn, show (i : Int) + n - 1 + 1 = ((i + n : Nat) : Int) by omega]
              rcases Nat.lt_or_ge (i + n) x.length with hlt2 | hge2
              · obtain ⟨c1, hx1⟩ : ∃ c1, x[i + n]? = some c1 := ⟨_, List.getElem?_eq_getElem hlt2⟩
                k_extra "walk"
                · refine (hn2 _ _ ?_).1
                  refine ⟨_, ?_, n + 1, rfl, hw, hl2, by omega, by omega, fun m a b => ?_, rfl⟩
                  · omega
                  · by_cases q : m = i + n
                    · subst q; exact ⟨_, hx1, decide_eq_true (by omega)⟩
                    · exact h3 m a (by omega)
                all_goals exact go fun c e => by rw [hx1] at e; cases e; exact decide_eq_false (by omega)
              · k_extra "walk"
                exact go fun c e => by rw [List.getElem?_eq_none hge2] at e; cases e
          · exact stops _ _ (hst i (run_err hx (fun q => absurd q hc0) (fun q => absurd q hc1) (fun q => absurd q hc2) (fun q => txt_nb' (by assumption)))) (Kept.trans hI.lw.kept (by k_extra "kept"))
        · k_extra "walk"
          exact stops _ _ (hst i (run_err hx (fun q => absurd q hc0) (fun q => absurd q hc1) (fun q => absurd q hc2) (fun q => absurd q hc3))) (Kept.trans hI.lw.kept (by k_extra "kept"))
    · rcases as with _ | ⟨⟨a, s⟩, r⟩
      · have hl : σ₁ ln = some (.list []) := by rw [hI.lst]; rfl
        k_extra "walk"
        refine (hb _ _ ?_).2
        k_extra "walk"
        have e : parse x = .ok top := by rw [← hI.rn, drop_end hge]; exact run_00
        show Q (.int (-1)) _
        rw [← stop_ok e]
        exact k _ (Kept.trans hI.lw.kept (by k_extra "kept"))
      · have hl : σ₁ ln = some (.list ((r.map (fun p => V.ref p.1)).reverse ++ [V.ref a])) := by rw [hI.lst]; simp
        k_extra "walk"
        refine (hb _ _ ?_).2
        k_extra "walk"
        have hxi : i = x.length := by omega
        have e : parse x = .error i := by rw [← hI.rn, drop_end hge]; exact run_01
        show Q (.int (x.length : Int)) _
        rw [← hxi, ← stop_err e]
        exact k _ (Kept.trans hI.lw.kept (by k_extra "kept"))

theorem heard_ok {w : World} {σ : AH} {Q : V → AH → Prop} {X : Int → AH → Prop} {x : List Nat} (hz : x.length ≤ 30000)
    (k : ∀ r σ' g, Kept σ σ' [] → Fresh σ r → σ' r = some (.list (G.vals g)) → RN σ' g → parse x = .ok g.er → Q (.ref r) σ')
    (kn : ∀ (i : Nat) σ', Kept σ σ' [] → parse x = .error i → Q .none σ') : ACall w 6 true 259 [.bytes x] σ Q X := by
  refine' acall ["octets"] [] ["read_threads", "WireFault"] ["octets"] [some (.bytes x)] (f := 259) ?h1 ?h2 ?h3 ?h4 ?h5 ?h6 ?h7 ?hdb ?h8 ?h9 ?h10 ?h11 ?hns ?hm ?h12
  k_extra "enter"
  case h3 => intro vs hv; obtain ⟨a, rfl, _⟩ := map_one hv; rfl
  intro g' s0 A L l c
  k_extra "walk"
  refine ax_try0 (X := fun i σ' => Kept σ σ' [] ∧ ∃ n : Nat, parse x = .error n) rfl (by k_extra "hit") ?_ fun σ₁ e d kv i g hov hda h1 h2 ⟨h3, n, h4⟩ => ?_
  · k_extra "walk"
    exact oc_fn (read_ok hz k fun i σ' hk he => ⟨hk, i, he⟩) (Nat.le_of_ble_eq_true rfl) (fun _ => rfl) rfl fun _ _ h => h
  · k_extra "walk"
    exact kn n σ₁ h3 h4
theorem is_right_ok {w : World} {σ : AH} {Q : V → AH → Prop} {X : Int → AH → Prop} {x : List Nat} (hz : x.length ≤ 30000) (hb : ∀ c ∈ x, c < 256)
    (k : ∀ σ', Kept σ σ' [] → Q (.bool true) σ') : ACall w 6 true 266 [.bytes x] σ Q X := by
  refine' acall ["octets"] ["nodes", "fault"] ["read_threads", "WireFault", "_law_stop", "show_threads"] ["octets", "nodes", "fault"] [some (.bytes x), none, none] (f := 266) ?h1 ?h2 ?h3 ?h4 ?h5 ?h6 ?h7 ?hdb ?h8 ?h9 ?h10 ?h11 ?hns ?hm ?h12
  k_extra "enter"
  case h3 => intro vs hv; obtain ⟨a, rfl, _⟩ := map_one hv; rfl
  intro g' s0 A L l c
  k_extra "walk"
  refine ax_try_as (X := fun i σ' => Kept σ σ' [] ∧ ∃ n : Nat, i = n ∧ parse x = .error n) rfl (by k_extra "hit") ?_ fun σ₁ e d kv i g hov hda h1 h2 ⟨h3, n, hi, h4⟩ => ?_
  · k_extra "walk"
    refine oc_fn (read_ok hz (fun r σ' g hk hf hr hn hp => ?_) fun i σ' hk he => ⟨hk, i, rfl, he⟩) (Nat.le_of_ble_eq_true rfl) (fun _ => rfl) rfl fun _ _ h => h
    obtain ⟨hg, ht⟩ := parse_sound hp
    k_extra "walk"
    refine oc_f0 (stop_walk (h := true) (by omega) hb fun σ₂ hk2 => ?_) (Nat.le_of_ble_eq_true rfl) (fun _ => rfl) rfl
    rw [stop_ok hp]
    have hsz : g.size ≤ 30000 := by
      have := T_size g.er true hg (.inl rfl)
      rw [ht] at this
      exact Nat.le_trans this hz
    k_extra "walk"
    refine oc_f0 (show_ok (hk2.get hr) (RN.kept hk2 hn) (by omega) hg (by rw [ht]; omega) (fun n hn => T_ascii _ _ n hn) fun σ₃ hk3 => ?_) (Nat.le_of_ble_eq_true rfl) (fun _ => rfl) rfl
    rw [ht]
    k_extra "walk"
    simp only [decide_true]
    exact k σ₃ (hk.trans (hk2.trans hk3))
  · refine ⟨[some (.bytes x), none, some (.ref e)], by k_extra "hit", ?_⟩
    k_extra "walk"
    refine oa_flt (by constructor) hda h1 h2 (by intro i h; cases h) ?_
    k_extra "walk"
    refine oc_f0 (stop_walk (h := false) (by omega) hb fun σ₂ hk2 => ?_) (Nat.le_of_ble_eq_true rfl) nofun rfl
    rw [stop_err h4]
    k_extra "walk"
    subst hi
    simp only [decide_true]
    exact k σ₂ (h3.trans hk2)

theorem sack_ok {w : World} {σ : AH} {Q : V → AH → Prop} {X : Int → AH → Prop} {a : Addr} {ns : List Int} {gr : Gr} {vs : List Value} {n0 : Nat} (ha : gr.g.get? a = some { cls := .type "list", data := .seq vs.toArray n0 }) (hn0 : vs.length ≤ sizeLine) (hv0 : vs.map er = ns.map V.int)
    (k : ∀ sk cl σ', Kept σ σ' [] → Fresh σ sk → Fresh σ cl → Sack σ' sk cl → Q (.ref sk) σ') : ACallAt gr w 2 true 191 [.ref a] σ Q X := by
  refine' acallAt ["script"] ["cells"] ["sum"] ["script", "cells"] [some (.ref a), none] (f := 191) ?h1 ?h2 ?h3 ?h4 ?h5 ?h6 ?h7 ?hdb ?h8 ?h9 ?h10 ?h11 ?hns ?hm ?h12
  k_extra "enter"
  case h3 => intro vs hv; obtain ⟨a, rfl, _⟩ := map_one hv; rfl
  intro s0 A L l c
  have hcl : (cutAt (ns.map V.int) none (some 40)).length ≤ 40 := by rw [cut_take, List.length_take]; omega
  have hci : ∀ (i : Nat) (v : V), (cutAt (ns.map V.int) none (some 40))[i]? = some v → ∃ n : Int, v = V.int n := fun i v h => by
    rw [← cut_map, List.getElem?_map] at h
    obtain ⟨n, _, rfl⟩ := Option.map_eq_some_iff.mp h
    exact ⟨n, rfl⟩
  k_extra "walk"
  refine ax_compl [] ["cell"] ["abs", "int"] rfl (comp_ok (by decide) rfl (by decide) (by rfl) (by decide +kernel) (by decide +kernel) (by decide) (by decide +kernel)) (by with_unfolding_all rfl) ?_ (by intro v; rfl)
  refine ae_cutg ha hn0 ?_
  k_extra "walk"
  refine ⟨rfl, none, some 40, rfl, rfl, fun dl hdl => ?_⟩
  rw [hv0]
  k_extra "walk"
  generalize cutAt (ns.map V.int) none (some 40) = cut at hcl hci ⊢
  have hkl : Kept σ (upd σ dl (AO.list cut)) [] := by k_extra "kept"
  refine ⟨fun i ys σ' => ys.length ≤ i ∧ Kept (upd σ dl (AO.list cut)) σ' [] ∧ ∃ cs : List Int, ys = cs.map V.int, ⟨Nat.le_refl _, Kept.rfl, [], rfl⟩, ?_, ?_, ?_, ?_⟩
  · rintro i ys σ' ⟨_, q, _⟩; exact q.get (upd_same ..)
  · rintro i ys σ' ⟨q, _⟩; exact q
  · rintro C g₁ i v ys σ' hi hv ⟨q1, q2, cs, rfl⟩
    obtain ⟨n, rfl⟩ := hci i v hv
    refine ag_name (m' := [some (.int n)]) (by k_extra "hit") ?_
    refine ct_nil ⟨fun _ => ?_, by nofun⟩
    k_extra "walk"
    exact ⟨by rw [List.length_append]; exact Nat.succ_le_succ q1, q2, cs ++ [_], by rw [List.map_append]; rfl⟩
  · rintro dc ys σ' ⟨_, q2, cs, rfl⟩ hdc
    have q3 : Kept σ σ' [] := hkl.trans q2
    k_extra "walk"
    refine oc_sum (ns := cs) rfl (by k_extra "at") ?_
    k_extra "walk"
    rename_i sk hsk
    have hsk0 : Fresh σ sk := Fresh.back q3 (Fresh.of_new hsk)
    have hne : dc ≠ sk := Fresh.ne hsk
    exact k sk dc _ (by k_extra "kept") hsk0 (Fresh.back q3 hdc) ⟨cs, _, _, by k_extra "at", by k_extra "at", hne⟩
theorem bent_chars {x : List Nat} (hb : ∀ c ∈ x, c < 256) (n m : Nat) (mid : List Nat) (hm : ∀ c ∈ mid, c < 256) (hl : mid.length ≤ 1) (hnm : n ≤ m) : (x.take n ++ mid ++ x.drop m).length ≤ x.length + 1 ∧ ∀ c ∈ x.take n ++ mid ++ x.drop m, c < 256 := by
  refine ⟨by simp only [List.length_append, List.length_take, List.length_drop]; omega, fun c hc => ?_⟩
  simp only [List.mem_append] at hc
  rcases hc with (hc | hc) | hc
  · exact hb c (List.mem_of_mem_take hc)
  · exact hm c hc
  · exact hb c (List.mem_of_mem_drop hc)
theorem bent_ok {w : World} {σ : AH} {Q : V → AH → Prop} {X : Int → AH → Prop} {sk cl : Addr} {x : List Nat} (hs : Sack σ sk cl) (hz : x.length ≤ 20000) (hb : ∀ c ∈ x, c < 256)
    (k : ∀ y σ', y.length ≤ x.length + 1 → (∀ c ∈ y, c < 256) → Sack σ' sk cl → Kept σ σ' [sk, cl] → Q (.bytes y) σ') : ACall w 2 true 252 [.ref sk, .bytes x] σ Q X := by
  refine' acall ["sack", "octets"] ["at", "way", "sign"] ["_law_pull", "len", "_law_odd", "bytes"] ["sack", "octets", "at", "way", "sign"] [some (.ref sk), some (.bytes x), none, none, none] (f := 252) ?h1 ?h2 ?h3 ?h4 ?h5 ?h6 ?h7 ?hdb ?h8 ?h9 ?h10 ?h11 ?hns ?hm ?h12
  k_extra "enter"
  case h3 => intro vs hv; obtain ⟨a, b, rfl, _, _⟩ := map_two hv; rfl
  intro g' s0 A L l c
  have hz' : x.length ≤ sizeLine := by rw [sizeLine_eq]; omega
  k_extra "walk"
  refine oc_f0 (pull_ok (h := true) hs (by omega) (by omega) fun r1 σ1 r10 r11 hs1 hk1 => ?_) (Nat.le_of_ble_eq_true rfl) (fun _ => rfl) rfl
  obtain ⟨n1, rfl⟩ := Int.eq_ofNat_of_zero_le r10
  k_extra "walk"
  refine oc_f0 (pull_ok (h := true) hs1 (by omega) (by omega) fun r2 σ2 r20 r21 hs2 hk2 => ?_) (Nat.le_of_ble_eq_true rfl) (fun _ => rfl) rfl
  k_extra "walk"
  rename_i dt hdt
  have hs3 : Sack (upd σ2 dt (AO.tuple [V.int n1, V.int r2])) sk cl := hs2.kept (by k_extra "kept")
  have hk3 : Kept σ (upd σ2 dt (AO.tuple [V.int n1, V.int r2])) [sk, cl] := Kept.new hdt (hk1.trans hk2)
  clear hk1 hk2 hs1 hs2 hdt
  generalize upd σ2 dt (AO.tuple [V.int n1, V.int r2]) = σ3 at hs3 hk3 ⊢
  refine oc_f0 (pull_ok (h := true) hs3 (by omega) (by omega) fun r4 σ4 r40 r41 hs4 hk4 => ?_) (Nat.le_of_ble_eq_true rfl) (fun _ => rfl) rfl
  k_extra "walk"
  all_goals refine oc_f0 (pull_ok (h := true) hs4 (by decide) (by decide) fun r5 σ5 r50 r51 hs5 hk5 => ?_) (Nat.le_of_ble_eq_true rfl) (fun _ => rfl) rfl
  all_goals
    obtain ⟨n5, rfl⟩ := Int.eq_ofNat_of_zero_le r50
    have hk6 : Kept σ σ5 [sk, cl] := hk3.trans (hk4.trans hk5)
    clear hk3 hk4 hk5 hs3 hs4
  · have hodd : ∀ n, n < 15 → ∃ v, [40, 41, 32, 48, 40, 41, 57, 9, 13, 10, 43, 45, 95, 49, 32][n]? = some v ∧ v < 256 := by decide
    have h15 : (n5 : Int) < 15 := r51
    obtain ⟨v, hv, hv2⟩ := hodd n5 (by omega)
    k_extra "walk"
    · refine oc_bytes (ns := [v]) rfl (upd_same _ _ _) (by simpa using hv2) ?_
      k_extra "walk"
      refine o2_catb (by have := cut_length x none (some n1); rw [sizeLine_eq]; simp only [List.length_cons, List.length_nil, List.map_nil]; omega) ?_
      k_extra "walk"
      all_goals
        refine o2_catb (by
          have h1 := cut_length x none (some n1)
          rw [sizeLine_eq, List.length_append]
          refine Nat.le_trans (Nat.add_le_add (Nat.add_le_add h1 (Nat.le_refl _)) (cut_length x _ _)) ?_
          simp only [List.length_cons, List.length_nil, List.map_nil]; omega) ?_
        k_extra "walk"
        have key := fun m hm => bent_chars hb n1 m [v] (by simpa using hv2) (by simp) hm
        first
        | exact k _ _ (key n1 (Nat.le_refl _)).1 (key n1 (Nat.le_refl _)).2 (hs5.kept (by k_extra "kept")) (hk6.trans (Kept.more (S := []) (by k_extra "kept") (by simp)))
        | exact k _ _ (key (n1 + 1) (Nat.le_succ _)).1 (key (n1 + 1) (Nat.le_succ _)).2 (hs5.kept (by k_extra "kept")) (hk6.trans (Kept.more (S := []) (by k_extra "kept") (by simp)))
    · k_extra "walk"
      refine o2_catb (by have := cut_length x none (some n1); rw [sizeLine_eq]; simp only [List.length_cons, List.length_nil, List.map_nil]; omega) ?_
      k_extra "walk"
      all_goals
        refine o2_catb (by
          have h1 := cut_length x none (some n1)
          rw [sizeLine_eq, List.length_append]
          refine Nat.le_trans (Nat.add_le_add (Nat.add_le_add h1 (Nat.le_refl _)) (cut_length x _ _)) ?_
          simp only [List.length_cons, List.length_nil, List.map_nil]; omega) ?_
        k_extra "walk"
        have key := fun m hm => bent_chars hb n1 m [] (by simp) (by simp) hm
        first
        | exact k _ _ (key n1 (Nat.le_refl _)).1 (key n1 (Nat.le_refl _)).2 (hs5.kept (by k_extra "kept")) (hk6.trans (Kept.more (S := []) (by k_extra "kept") (by simp)))
        | exact k _ _ (key (n1 + 1) (Nat.le_succ _)).1 (key (n1 + 1) (Nat.le_succ _)).2 (hs5.kept (by k_extra "kept")) (hk6.trans (Kept.more (S := []) (by k_extra "kept") (by simp)))
  · have h15 : (n5 : Int) < 256 := r51
    k_extra "walk"
    · refine oc_bytes (ns := [n5]) rfl (upd_same _ _ _) (by simp; omega) ?_
      k_extra "walk"
      refine o2_catb (by have := cut_length x none (some n1); rw [sizeLine_eq]; simp only [List.length_cons, List.length_nil, List.map_nil]; omega) ?_
      k_extra "walk"
      all_goals
        refine o2_catb (by
          have h1 := cut_length x none (some n1)
          rw [sizeLine_eq, List.length_append]
          refine Nat.le_trans (Nat.add_le_add (Nat.add_le_add h1 (Nat.le_refl _)) (cut_length x _ _)) ?_
          simp only [List.length_cons, List.length_nil, List.map_nil]; omega) ?_
        k_extra "walk"
        have key := fun m hm => bent_chars hb n1 m [n5] (by simp; omega) (by simp) hm
        first
        | exact k _ _ (key n1 (Nat.le_refl _)).1 (key n1 (Nat.le_refl _)).2 (hs5.kept (by k_extra "kept")) (hk6.trans (Kept.more (S := []) (by k_extra "kept") (by simp)))
        | exact k _ _ (key (n1 + 1) (Nat.le_succ _)).1 (key (n1 + 1) (Nat.le_succ _)).2 (hs5.kept (by k_extra "kept")) (hk6.trans (Kept.more (S := []) (by k_extra "kept") (by simp)))
    · k_extra "walk"
      refine o2_catb (by have := cut_length x none (some n1); rw [sizeLine_eq]; simp only [List.length_cons, List.length_nil, List.map_nil]; omega) ?_
      k_extra "walk"
      all_goals
        refine o2_catb (by
          have h1 := cut_length x none (some n1)
          rw [sizeLine_eq, List.length_append]
          refine Nat.le_trans (Nat.add_le_add (Nat.add_le_add h1 (Nat.le_refl _)) (cut_length x _ _)) ?_
          simp only [List.length_cons, List.length_nil, List.map_nil]; omega) ?_
        k_extra "walk"
        have key := fun m hm => bent_chars hb n1 m [] (by simp) (by simp) hm
        first
        | exact k _ _ (key n1 (Nat.le_refl _)).1 (key n1 (Nat.le_refl _)).2 (hs5.kept (by k_extra "kept")) (hk6.trans (Kept.more (S := []) (by k_extra "kept") (by simp)))
        | exact k _ _ (key (n1 + 1) (Nat.le_succ _)).1 (key (n1 + 1) (Nat.le_succ _)).2 (hs5.kept (by k_extra "kept")) (hk6.trans (Kept.more (S := []) (by k_extra "kept") (by simp)))

inductive J18 (σ : AH) (a : Addr) (L : Nat) (g : G) (z : Nat) (m₁ : List (Option V)) (σ₁ : AH) : Prop where
  | mk (td : Addr) (its : List (Addr × Wi)) (fd : List Nat) (v1 v2 : Option V) (h0 : m₁ = [some (.ref a), some (.str fd), some (.ref td), v1, v2]) (h1 : Kept σ σ₁ []) (h2 : Fresh σ td) (h3 : td ≠ L + 1) (h4 : (∃ cv, σ₁ (L + 1) = some (.cell cv))) (h5 : σ₁ td = some (.list (its.map (fun p => V.ref p.1)).reverse)) (h6 : (∀ p ∈ its, WI σ σ₁ td (L + 1) p)) (h7 : fd ++ (its.map (·.2)).flatMap Wi.txt = T true g.er) (h8 : z ≤ 2000) (h9 : z = ((its.map (·.2)).map Wi.wt).sum) : J18 σ a L g z m₁ σ₁
inductive M18 (σ : AH) (a : Addr) (td : Addr) (L : Nat) (fd : List Nat) (b : Bool) (kd : List Nat) (v2 : Option V) (σ₁ : AH) (b' : Addr) (its : List (Addr × Wi)) (m' : List (Option V)) (σ₂ : AH) : Prop where
  | mk (ends : List (Addr × Wi)) (h0 : m' = [some (.ref a), some (.str (fd ++ if b = true then [40] else [])), some (.ref td), some (.str kd), v2]) (h1 : Kept σ₁ σ₂ [td, L + 1]) (h2 : σ₂ (L + 1) = some (.cell (some (.ref b')))) (h3 : σ₂ td = some (.list (((ends ++ its).map (fun p => V.ref p.1)).reverse))) (h4 : (∀ p ∈ ends, WI σ σ₂ td (L + 1) p)) (h5 : (ends.map (·.2)) = (if b = true then [Wi.fin] else [])) : M18 σ a td L fd b kd v2 σ₁ b' its m' σ₂
theorem text_ok {w : World} {σ : AH} {Q : V → AH → Prop} {X : Int → AH → Prop} {a : Addr} {g : G} (ha : σ a = some (.list g.vals)) (hg : RD σ g) (hz : g.size ≤ 1000) (hs : Small g.er) (ht : (T true g.er).length ≤ 100000)
    (k : ∀ σ', Kept σ σ' [] → Q (.str (T true g.er)) σ') : ACall w 1 true 231 [.ref a] σ Q X := by
  refine' acall_cell "forest" "tree" ["found", "todo", "kind", "number"] ["str"] ["forest", "found", "todo", "kind", "number"] [some (.ref a), none, none, none, none] (f := 231) ?h1 ?h2 ?h3 ?h4 ?h5 ?h6 ?hdb ?hcf ?h9 ?h10 ?h11 ?hns ?hm ?h12
  case h1 => k_is
  case h2 => k_is
  case h3 => intro v; rfl
  case h4 => decide
  case h5 => decide +kernel
  case h6 => decide +kernel
  case hdb => decide +kernel
  case hcf => intro n; rfl
  case h9 => rfl
  case h10 => rfl
  case h11 => rfl
  case hns => rfl
  case hm => rfl
  intro g' s0 A L l hL c
  obtain ⟨l0, hl0⟩ := wis_ex true hg
  have hvl := wis_len hl0
  have hgv : g.vals.length ≤ g.size := by rw [G.vals_len]; exact F.len_le _
  have hrl : g.vals.reverse.length ≤ 1000 := by rw [List.length_reverse]; omega
  k_extra "walk"
  refine ae_compl [] ["tree"] [] rfl (comp_ok (by decide) rfl (by decide) (by rfl) (by decide +kernel) (by decide +kernel) (by decide) (by decide +kernel)) ?_ (by intro v; rfl)
  k_extra "walk"
  rename_i dl hdl
  have hdlC : L + 1 ≠ dl := hdl _ _ (upd_same ..)
  have hk0 : Kept σ (upd (upd σ (L + 1) (AO.cell none)) dl (AO.list g.vals.reverse)) [] := Kept.new hdl (Kept.new hL Kept.rfl)
  have hc0 : upd (upd σ (L + 1) (AO.cell none)) dl (AO.list g.vals.reverse) (L + 1) = some (AO.cell none) := by k_extra "at"
  have hd0 : upd (upd σ (L + 1) (AO.cell none)) dl (AO.list g.vals.reverse) dl = some (AO.list g.vals.reverse) := upd_same ..
  generalize upd (upd σ (L + 1) (AO.cell none)) dl (AO.list g.vals.reverse) = σ0 at hk0 hc0 hd0 ⊢
  refine ⟨fun i ys σ' => ∃ ts, ys = ts.map V.ref ∧ Tups σ0 σ' [108, 105, 115, 116] g.vals.reverse i ts, ⟨[], rfl, .nil⟩, ?_, ?_, ?_, ?_⟩
  · rintro i ys σ' ⟨ts, rfl, q⟩; exact q.kept.get hd0
  · rintro i ys σ' ⟨ts, rfl, q⟩; rw [List.length_map, q.len]; exact Nat.le_refl _
  · rintro C g₁ i v ys σ' hi hv ⟨ts, rfl, q⟩
    refine ag_name (m' := [some v]) (by k_extra "hit") ?_
    refine ct_nil ⟨fun _ => ?_, by nofun⟩
    k_extra "walk"
    rename_i d hd
    exact ⟨ts ++ [d], by rw [List.map_append]; rfl, q.snoc hd hv⟩
  · rintro dc ys σ' ⟨ts, rfl, q⟩ hdc
    rw [List.length_reverse] at q
    have hq := Tups.zip (l := l0) (by rw [wis_val hl0]; exact q) hvl.symm
    have hkd : Kept σ σ' [] := hk0.trans q.kept
    have hcd : σ' (L + 1) = some (AO.cell none) := q.kept.get hc0
    have hlz : ts.reverse.length = l0.length := by rw [List.length_reverse, q.len, hvl]
    k_extra "walk"
    rename_i tp htp
    have htd : Fresh σ dc := Fresh.back hkd hdc
    have hcn : dc ≠ L + 1 := Ne.symm (hdc _ _ hcd)
    have htm : (l0.map Wi.wt).sum ≤ 2000 := by rw [wis_wt hl0]; omega
    refine ax_whileQ (J18 σ a L g) (l0.map Wi.wt).sum xe_pass ?_ ?_
    · have htp0 : Fresh σ' tp := Fresh.of_new htp
      have hdt : dc ≠ tp := Fresh.ne htp
      have hkt : Kept σ' (upd (upd σ' dc (AO.list (ts.map V.ref))) tp (AO.tuple [V.str [], V.ref dc])) [] := by k_extra "kept"
      obtain ⟨w1, w2, w3⟩ := Tups.wis (td := dl) (C := L + 1) q hl0 hvl.symm rfl hg hs ⟨_, hd0⟩ ⟨_, hc0⟩
      refine ⟨dc, ts.reverse.zip l0, [], _, _, rfl, Kept.trans hkd hkt, htd, hcn, ⟨none, hkt.get hcd⟩, ?_, fun p hp => ?_, ?_, htm, ?_⟩
      · rw [w3, List.reverse_reverse]; k_extra "at"
      · have w := w1 p hp
        exact ⟨⟨hkt.get w.1.1, hdc _ _ w.1.1, w.1.2.2⟩, w.2⟩
      · rw [w2, wis_txt hl0]; rfl
      · rw [w2]
    · rintro z m₁ σ₁ ⟨td, its, fd, v1, v2, rfl, hk, htd, htc, ⟨cv, hcv⟩, hl, hit, htx, hz2, rfl⟩ R F hn hb hr
      rcases its with _ | ⟨⟨t, it⟩, its⟩
      · replace hl : σ₁ td = some (.list []) := hl
        k_extra "walk"
        refine (hb _ _ ?_).2
        k_extra "walk"
        have : fd = T true g.er := by simpa using htx
        rw [← this] at k
        exact k _ (Kept.trans hk (by k_extra "kept"))
      · have hl2 : σ₁ td = some (.list ((its.map (fun p => V.ref p.1)).reverse ++ [V.ref t])) := by rw [hl]; simp
        clear hl
        obtain ⟨⟨h1, h2, h3⟩, h4, h5⟩ := hit _ (.head _)
        have hit2 : ∀ p ∈ its, _ := fun p hp => hit p (.tail _ hp)
        clear hit
        dsimp only at h1 h2 h3 h4 h5
        have htl : (T true g.er).length = fd.length + (it.txt.length + ((its.map (·.2)).flatMap Wi.txt).length) := by rw [← htx]; simp
        have hw1 : it.wt + ((its.map (·.2)).map Wi.wt).sum ≤ 2000 := by simpa using hz2
        cases it with
        | fin =>
          dsimp only [Wi.kind, Wi.val] at h1
          k_extra "walk"
          refine (hn _ _ ?_).2
          rename_i d hd _ _
          have hkt : Kept σ₁ (upd (upd (upd σ₁ d (AO.list [])) td (AO.list (its.map (fun p => V.ref p.1)).reverse)) (L + 1) (AO.cell (some V.none))) [td, L + 1] := by k_extra "kept"
          refine ⟨_, ?_, td, its, fd ++ [41], _, _, rfl, ?_, htd, htc, ⟨_, upd_same ..⟩, by k_extra "at", fun p hp => (hit2 p hp).keep hkt, ?_, by omega, rfl⟩
          · simp only [List.map_cons, List.sum_cons, Wi.wt]; omega
          · exact fun a o e _ => hkt a o (hk.get e) (by simp; exact ⟨htd a o e, hL a o e⟩)
          · rw [← htx]; simp [Wi.txt]
        | tr b b' k' n tl ks =>
          obtain ⟨h6, h7, h8, h9, h10⟩ := h4
          have h11 := h5 _ _ _ _ _ _ rfl
          have hlog := log_small h9 h10
          have hks : ks.vals.length ≤ 1000 := by
            have : ks.vals.length ≤ ks.size := by rw [G.vals_len]; exact Mine.F.len_le _
            simp only [Wi.wt] at hw1; omega
          simp only [Wi.txt] at htl
          rw [txt_tr] at htl
          simp only [List.length_append] at htl
          have hnum : (num n).length ≤ 100000 := by omega
          obtain ⟨lk, hlk⟩ := wis_ex (decide (1 < ks.er.len)) h8
          have hvk := wis_len hlk
          have hvl2 := G.vals_len ks
          have hdg := digs_le h9 h10
          have hil : its.length ≤ 2000 := by have := wt_len its; omega
          have hdn : 0 < n → digs n ≠ [] := fun q => by obtain ⟨c, l, e, _⟩ := digs_head q; rw [e]; nofun
          dsimp only [Wi.kind, Wi.val] at h1
          generalize hkd : (if b = true then [108, 105, 115, 116] else [114, 101, 115, 116]) = kd at h1
          have hkl : (kd = [108, 105, 115, 116]) ↔ b = true := by rw [← hkd]; cases b <;> simp
          have hkn : kd ≠ [101, 110, 100] := by rw [← hkd]; cases b <;> simp
          k_extra "tos"
          refine ax_cons ?_
          k_extra "tos"
          · exact absurd (by assumption) hkn
          refine ax_meetR (M18 σ a td L fd b kd v2 σ₁ b' its) ?_ ?_
          · intro R' hR
            k_extra "walk"
            · rename_i d hd _ _ hkk e he
              have hb1 := hkl.mp hkk
              have hd1 : td ≠ d := hd _ _ hl2
              have hd2 : L + 1 ≠ d := hd _ _ hcv
              have hde : d ≠ e := he _ (AO.list []) (upd_get hd2.symm (upd_get hd1.symm (upd_same ..)))
              refine hR _ _ ⟨[(e, .fin)], by rw [hb1]; rfl, ?_, ?_, ?_, fun p hp => ?_, by rw [hb1]; rfl⟩
              · k_extra "kept"
              · k_extra "at"
              · rw [show (List.map (fun p => V.ref p.1) ([(e, Wi.fin)] ++ its)).reverse = (List.map (fun p => V.ref p.1) its).reverse ++ [V.ref e] by simp]
                k_extra "at"
              · rw [List.mem_singleton.mp hp]
                refine ⟨⟨?_, ?_, ?_⟩, trivial, nofun⟩
                · show _ = some (AO.tuple [V.str [101, 110, 100], V.none])
                  k_extra "at"
                · k_extra "apart"
                · k_extra "apart"
            · have hb1 : b = false := by cases b with | true => exact absurd (hkl.mpr rfl) (by assumption) | false => rfl
              refine hR _ _ ⟨[], by rw [hb1]; simp, ?_, ?_, ?_, nofun, by rw [hb1]; rfl⟩
              · k_extra "kept"
              · k_extra "at"
              · rw [List.nil_append]
                k_extra "at"
          · rintro m' σ₂ ⟨ends, rfl, hk2, hc2, hl2, he, hem⟩
            have hK : Kept σ σ₂ [] := fun a o e _ => hk2 a o (hk.get e) (by simp; exact ⟨htd a o e, hL a o e⟩)
            have hb2 : σ₂ b' = some (dk n k' tl) := hK.get h6
            have hb3 : σ₂ k' = some (.list ks.vals) := hK.get h7
            k_extra "to"
            refine av_meet (V.str (num n)) ?_ ?_
            · k_extra "walk"
              · rw [num, if_pos (by assumption)]; exact ⟨rfl, rfl⟩
              · rw [num, if_neg (by omega)]; exact ⟨rfl, rfl⟩
            have hnn : num n = [] ↔ ¬ 0 < n := by
              by_cases q : 0 < n
              · rw [num, if_pos q]; simp [q, hdn q]
              · rw [num, if_neg q]; simp [q]
            have hkz : ks.vals = [] ↔ ks.er.len = 0 := by rw [← hvl2]; simp
            k_extra "to"
            refine AV.mono (Q := fun v σ₃ => v = V.str (if 0 < n ∧ ks.er.len ≠ 0 then [32] else []) ∧ Kept σ₂ σ₃ []) ?_ ?_
            · k_extra "walk"
              · exact ⟨by rw [if_pos ⟨Classical.not_not.mp (fun q => (by assumption : ¬ num n = []) (hnn.mpr q)), fun q => (by assumption : ¬ ks.vals = []) (hkz.mpr q)⟩], by k_extra "kept"⟩
              · exact ⟨by rw [if_neg (fun q => q.2 (hkz.mp (by assumption)))], by k_extra "kept"⟩
              · exact ⟨by rw [if_neg (fun q => hnn.mp (by assumption) q.1)], by k_extra "kept"⟩
            rintro _ σ₃ ⟨rfl, hk3⟩
            have hsl : (if b = true then [40] else []).length ≤ 1 := by cases b <;> simp
            have hsp : (if 0 < n ∧ ks.er.len ≠ 0 then [32] else []).length ≤ 1 := by split <;> simp
            have hK3 : Kept σ σ₃ [] := Kept.trans hK hk3
            have hc3 : σ₃ (L + 1) = some (.cell (some (.ref b'))) := hk3.get hc2
            have hb3 : σ₃ b' = some (dk n k' tl) := hK3.get h6
            have hkk3 : σ₃ k' = some (.list ks.vals) := hK3.get h7
            have hl3 : σ₃ td = some (.list (((ends ++ its).map (fun p => V.ref p.1)).reverse)) := hk3.get hl2
            have hrv : ks.vals.reverse.length ≤ 1000 := by rw [List.length_reverse]; exact hks
            generalize hsz : (if 0 < n ∧ ks.er.len ≠ 0 then [32] else []) = sp at hsp ⊢
            k_extra "walk"
            refine ae_compl [(Str.ofString "tree", L + 1)] ["kid"] ["len"] rfl (comp_ok (by decide) rfl (by decide) (by rfl) (by decide +kernel) (by decide +kernel) (by decide) (by decide +kernel)) ?_ (by intro v; rfl)
            k_extra "walk"
            rename_i dr hdr
            generalize hσ₄ : upd σ₃ dr (AO.list ks.vals.reverse) = σ₄
            have hk4 : Kept σ₃ σ₄ [] := by rw [← hσ₄]; exact Kept.new hdr Kept.rfl
            have hd4 : σ₄ dr = some (.list ks.vals.reverse) := by rw [← hσ₄]; exact upd_same ..
            clear hσ₄
            generalize hkd2 : (if decide (1 < ks.er.len) = true then [108, 105, 115, 116] else [114, 101, 115, 116]) = kd2
            refine ⟨fun i ys σ' => ∃ ts, ys = ts.map V.ref ∧ Tups σ₄ σ' kd2 ks.vals.reverse i ts, ⟨[], rfl, .nil⟩, ?_, ?_, ?_, ?_⟩
            · rintro i ys σ' ⟨ts, rfl, q⟩; exact q.kept.get hd4
            · rintro i ys σ' ⟨ts, rfl, q⟩; rw [List.length_map, q.len]; exact Nat.le_refl _
            · rintro C g₁ i v ys σ' hi hv ⟨ts, rfl, q⟩
              have hc5 := q.kept.get (hk4.get hc3); have hb5 := q.kept.get (hk4.get hb3); have hk5 := q.kept.get (hk4.get hkk3)
              refine ag_name (m' := [some v]) (by k_extra "hit") ?_
              refine ct_nil ⟨fun _ => ?_, by nofun⟩
              k_extra "to"
              refine av_meet (V.str kd2) ?_ ?_
              · k_extra "walk"
                · exact ⟨by rw [← hkd2, if_pos (by simp; omega)], rfl⟩
                · exact ⟨by rw [← hkd2, if_neg (by simp; omega)], rfl⟩
              k_extra "walk"
              rename_i d hd
              exact ⟨ts ++ [d], by rw [List.map_append]; rfl, q.snoc hd hv⟩
            · rintro dc2 ys σ' ⟨ts, rfl, q⟩ hdc2
              rw [List.length_reverse] at q
              have hk5 : Kept σ₃ σ' [] := hk4.trans q.kept
              have hl5 := hk5.get hl3
              have hts : (ts.map V.ref).length ≤ 1000 := by rw [List.length_map, q.len]; exact hks
              have hel : ends.length ≤ 1 := by
                have := congrArg List.length hem
                rw [List.length_map] at this
                rw [this]; cases b <;> simp
              have hlr : (List.map (fun p => V.ref p.1) (ends ++ its)).reverse.length ≤ 3000 := by simp; omega
              obtain ⟨w1, w2, w3⟩ := Tups.wis (σ := σ) (td := td) (C := L + 1) q hlk hvk.symm hkd2.symm h8 h11 ⟨_, hk4.get hl3⟩ ⟨_, hk4.get hc3⟩
              k_extra "walk"
              refine (hn _ _ ?_).1
              have hk6 : Kept σ' (upd (upd σ' dc2 (AO.list (ts.map V.ref))) td (AO.list ((List.map (fun p => V.ref p.1) (ends ++ its)).reverse ++ ts.map V.ref))) [td, L + 1] := Kept.at (by simp) (Kept.new hdc2 Kept.rfl)
              have hk7 : Kept σ₂ (upd (upd σ' dc2 (AO.list (ts.map V.ref))) td (AO.list ((List.map (fun p => V.ref p.1) (ends ++ its)).reverse ++ ts.map V.ref))) [td, L + 1] := fun a o e n => hk6 a o (hk5.get (hk3.get e)) n
              have hdcn : L + 1 ≠ dc2 := hdc2 _ _ (hk5.get hc3)
              refine ⟨_, ?_, td, ts.reverse.zip lk ++ (ends ++ its), ((fd ++ if b = true then [40] else []) ++ num n) ++ sp, _, _, rfl, ?_, htd, htc, ⟨some (.ref b'), ?_⟩, ?_, fun p hp => ?_, ?_, ?_, rfl⟩
              · simp only [List.map_append, List.sum_append, w2, wis_wt hlk, hem, List.map_cons, List.sum_cons, Wi.wt]
                cases b <;> simp [Wi.wt] <;> omega
              · exact fun a o e _ => (hk2.trans hk7) a o (hk.get e) (by simp; exact ⟨htd a o e, hL a o e⟩)
              · exact upd_get (Ne.symm htc) (upd_get hdcn (hk5.get hc3))
              · rw [show (List.map (fun p => V.ref p.1) (ts.reverse.zip lk ++ (ends ++ its))).reverse = (List.map (fun p => V.ref p.1) (ends ++ its)).reverse ++ ts.map V.ref by rw [List.map_append, List.reverse_append, w3, List.reverse_reverse]]
                exact upd_same ..
              · rcases List.mem_append.mp hp with hp | hp
                · exact (w1 p hp).keep hk6
                · rcases List.mem_append.mp hp with hp | hp
                  · exact (he p hp).keep hk7
                  · exact (hit2 p hp).keep (hk2.trans hk7)
              · rw [← htx, ← hsz]
                simp only [List.map_append, List.flatMap_append, w2, wis_txt hlk, hem, List.map_cons, List.flatMap_cons, Wi.txt]
                rw [txt_tr]
                cases b <;> simp [Wi.txt]
              · simp only [Wi.wt] at hw1
                have hem' : ((ends.map (·.2)).map Wi.wt).sum ≤ 1 := by rw [hem]; cases b <;> decide
                rw [List.map_append, List.map_append, List.map_append, List.map_append, List.sum_append, List.sum_append, w2, wis_wt hlk]
                omega

inductive J19 (σ : AH) (sk : Addr) (cl : Addr) (i : Nat) (m₁ : List (Option V)) (σ₁ : AH) : Prop where
  | mk t k' n ks v2 v3 v4 (h0 : m₁ = [some (.ref sk), some (.ref t), v2, v3, v4]) (h1 : Sack σ₁ sk cl) (h2 : Kept σ σ₁ [sk, cl]) (h3 : Grow σ σ₁) (h4 : BT σ σ₁ t k' n ks) (h5 : ks.size ≤ 2 * i) : J19 σ sk cl i m₁ σ₁
theorem deep_ok {w : World} {σ : AH} {Q : V → AH → Prop} {X : Int → AH → Prop} {sk cl : Addr} (hs : Sack σ sk cl)
    (k : ∀ r σ' g, Sack σ' sk cl → Kept σ σ' [sk, cl] → BF σ σ' r g → g.size ≤ 121 → Q (.ref r) σ') : ACall w 2 true 212 [.ref sk] σ Q X := by
  refine' acall ["sack"] ["tree", "at", "way", "beside"] ["range", "_law_pull"] ["sack", "tree", "at", "way", "beside"] [some (.ref sk), none, none, none, none] (f := 212) ?h1 ?h2 ?h3 ?h4 ?h5 ?h6 ?h7 ?hdb ?h8 ?h9 ?h10 ?h11 ?hns ?hm ?h12
  k_extra "enter"
  case h3 => intro vs hv; obtain ⟨a, rfl, _⟩ := map_one hv; rfl
  intro g' s0 A L l c
  k_extra "walk"
  rename_i t0 ht0 k0 hk0
  have hne0 : t0 ≠ k0 := Fresh.ne hk0
  have hkt : Kept σ (upd (upd (upd σ t0 (AO.dict [])) k0 (AO.list [])) t0 (dk 99 k0 [])) [] := by k_extra "kept"
  have hbt : BT σ (upd (upd (upd σ t0 (AO.dict [])) k0 (AO.list [])) t0 (dk 99 k0 [])) t0 k0 99 .nil := by
    have hk1 := Fresh.of_new hk0
    refine ⟨⟨⟨[], by k_extra "at", .inl rfl⟩, (by k_extra "at" : _ = some (AO.list [])), trivial, trivial⟩, by simp [G.alk, hne0], fun x hx => ?_, trivial, nofun, by decide⟩
    simp only [G.alk, List.mem_cons, List.not_mem_nil, or_false] at hx
    rcases hx with rfl | rfl
    · exact ht0
    · exact hk1
  have hsk : Sack (upd (upd (upd σ t0 (AO.dict [])) k0 (AO.list [])) t0 (dk 99 k0 [])) sk cl := hs.kept hkt
  show AX1 c _ [some (V.ref sk), some (V.ref t0), none, none, none] (upd (upd (upd σ t0 (AO.dict [])) k0 (AO.list [])) t0 (dk 99 k0 [])) _ _
  generalize upd (upd (upd σ t0 (AO.dict [])) k0 (AO.list [])) t0 (dk 99 k0 []) = σ1 at hkt hbt hsk ⊢
  refine ax_forr rfl xe_pass (by k_extra "hit") ?_ (by with_unfolding_all rfl) (by with_unfolding_all rfl) (by intro v; rfl)
  k_extra "walk"
  refine oc_f0 (pull_ok (h := true) hsk (by omega) (by omega) fun r1 σ2 r10 r11 hs2 hk2 => ?_) (Nat.le_of_ble_eq_true rfl) (fun _ => rfl) rfl
  obtain ⟨n1, rfl⟩ := Int.eq_ofNat_of_zero_le r10
  k_extra "walk"
  refine ⟨58 + n1, by simp, by omega, ?_⟩
  have hg1 : Grow σ σ1 := .kept hkt
  have hg2 : Grow σ σ2 := hg1.trans (.sack hk2 hs2)
  refine ⟨(J19 σ sk cl), ?_, fun _ _ _ _ => trivial, ?_, ?_⟩
  · refine ⟨_, _, _, _, _, _, _, rfl, hs2, (hkt.more (by simp)).trans hk2, hg2, hbt.kept hk2 fun x hx => ?_, Nat.le_refl _⟩
    obtain ⟨q1, q2⟩ := hs.sk_ne (hbt.new x hx)
    simp [q1, q2]
  · rintro i v m₁ σ₁ g₁ hov hi rfl ⟨t, k', n, ks, v2, v3, v4, rfl, hs3, hk3, hg3, hb3, hz3⟩
    refine ⟨_, by k_extra "hit", ?_⟩
    k_extra "walk"
    refine oc_f0 (pull_ok (h := true) hs3 (by omega) (by omega) fun r2 σ3 r20 r21 hs4 hk4 => ?_) (Nat.le_of_ble_eq_true rfl) (fun _ => rfl) rfl
    have hb4 := hb3.kept hk4 fun x hx => by
      obtain ⟨q1, q2⟩ := hs.sk_ne (hb3.new x hx)
      simp [q1, q2]
    have hk5 : Kept σ σ3 [sk, cl] := hk3.trans hk4
    have hg4 : Grow σ σ3 := hg3.trans (.sack hk4 hs4)
    have fin : ∀ τ t' k'' js lb, Kept σ3 τ [] → BT σ τ t' k'' ((i : Int) + 1) js ∧ js.size ≤ ks.size + 2 → J19 σ sk cl (i + 1) [some (V.ref sk), some (V.ref t'), some (V.int ↑i), some (V.int r2), some (V.ref lb)] τ :=
      fun τ t' k'' js lb q1 q2 => ⟨t', k'', _, js, _, _, _, rfl, hs4.kept q1, hk5.trans (q1.more (by simp)), hg4.trans (.kept q1), q2.1, by omega⟩
    have hi100 : (i : Int) < 100 := by omega
    have hps : (0 : Int) < (i : Int) + 1 ∧ (i : Int) + 1 < 10 ^ 20 := ⟨by omega, by omega⟩
    have hps2 : (0 : Int) < 100 + (i : Int) ∧ 100 + (i : Int) < 10 ^ 20 := ⟨by omega, by omega⟩
    k_extra "walk"
    · rename_i bd hb kb hkb lb hlb t' ht' hr0 l1 hl1 l2 hl2 hr1 l3 hl3 k'' hk''
      refine fin _ _ _ (.cons bd 0 kb (100 + (i : Int)) .nil (.cons t 0 k' n ks .nil)) _ (by k_extra "kept") (BT.up hb4 (by k_extra "kept") (.inr ⟨bd, kb, 100 + (i : Int), .inl rfl, (by k_extra "at" : _ = some (AO.dict [("number", V.int (100 + (i : Int))), ("kids", V.ref kb)])), (by k_extra "at" : _ = some (AO.list [])), hps2.1, hps2.2, by k_extra "new", by k_extra "new", by k_extra "apart", by k_extra "apart", by k_extra "apart", by k_extra "apart", by k_extra "apart"⟩) hg4
        (by k_extra "at" : _ = some (AO.dict [("number", V.int ((i : Int) + 1)), ("kids", V.ref k'')])) (by k_extra "at" : _ = some (AO.list ([V.ref bd] ++ [V.ref t] ++ []))) (by k_extra "new") (by k_extra "new") (by k_extra "apart") hps)
    · rename_i bd hb kb hkb lb hlb t' ht' hr0 l1 hl1 l2 hl2 l3 hl3 hr1 k'' hk''
      refine fin _ _ _ (.cons t 0 k' n ks (.cons bd 0 kb (100 + (i : Int)) .nil .nil)) _ (by k_extra "kept") (BT.up hb4 (by k_extra "kept") (.inr ⟨bd, kb, 100 + (i : Int), .inr rfl, (by k_extra "at" : _ = some (AO.dict [("number", V.int (100 + (i : Int))), ("kids", V.ref kb)])), (by k_extra "at" : _ = some (AO.list [])), hps2.1, hps2.2, by k_extra "new", by k_extra "new", by k_extra "apart", by k_extra "apart", by k_extra "apart", by k_extra "apart", by k_extra "apart"⟩) hg4
        (by k_extra "at" : _ = some (AO.dict [("number", V.int ((i : Int) + 1)), ("kids", V.ref k'')])) (by k_extra "at" : _ = some (AO.list ([] ++ [V.ref t] ++ [V.ref bd]))) (by k_extra "new") (by k_extra "new") (by k_extra "apart") hps)
    · rename_i bd hb kb hkb lb hlb t' ht' hr0 l1 hl1 l2 hl2 l3 hl3 hr1 l4 hl4 k'' hk''
      refine fin _ _ _ (.cons t 0 k' n ks .nil) _ (by k_extra "kept") (BT.up hb4 (by k_extra "kept") (.inl rfl) hg4
        (by k_extra "at" : _ = some (AO.dict [("number", V.int ((i : Int) + 1)), ("kids", V.ref k'')])) (by k_extra "at" : _ = some (AO.list ([] ++ [V.ref t] ++ []))) (by k_extra "new") (by k_extra "new") (by k_extra "apart") hps)
  · rintro m₁ σ₁ ⟨t, k', n, ks, v2, v3, v4, rfl, hs3, hk3, hg3, hb3, hz3⟩
    k_extra "walk"
    rename_i r hr
    have hr2 := hr.notin hb3.stands
    refine k r _ (.cons t 0 k' n ks .nil) (hs3.kept (by k_extra "kept")) (Kept.new hr hk3) ⟨upd_same .., RD.kept (Kept.new hr Kept.rfl) hb3.rd, by rw [G.alk_one, List.nodup_cons]; exact ⟨hr2, hb3.nd⟩, by rw [G.alk_one]; exact fun x hx => (List.mem_cons.mp hx).elim (fun q => by rw [q]; exact hr.grow hg3) (hb3.new x), .inl hb3.pos, hb3.one, hb3.good, trivial⟩ ?_
    simp only [G.size, G.er, F.size] at hz3 ⊢; omega

theorem big_of {r : Int} (h0 : 0 ≤ r) (h1 : r < 5) : ∃ v : Int, [V.int 0, V.int 100, V.int (10 ^ Int.toNat 6), V.int (10 ^ Int.toNat 18), V.int (10 ^ Int.toNat 19)][r.toNat]? = some (V.int v) ∧ 0 ≤ v ∧ v ≤ 10 ^ 19 := by
  obtain ⟨n, rfl⟩ := Int.eq_ofNat_of_zero_le h0
  have h2 : n < 5 := by omega
  match n, h2 with
  | 0, _ => exact ⟨_, rfl, by decide, by decide⟩
  | 1, _ => exact ⟨_, rfl, by decide, by decide⟩
  | 2, _ => exact ⟨_, rfl, by decide, by decide⟩
  | 3, _ => exact ⟨_, rfl, by decide, by decide⟩
  | 4, _ => exact ⟨_, rfl, by decide, by decide⟩
inductive J20 (σ : AH) (sk : Addr) (cl : Addr) (fd : Addr) (tp : Addr) (i : Nat) (m₁ : List (Option V)) (σ₁ : AH) : Prop where
  | mk (fs : List Addr) (g : G) (v2 v3 v4 : Option V) (h0 : m₁ = [some (.ref sk), some (.ref fd), some (.ref tp), v2, v3, v4]) (h1 : Sack σ₁ sk cl) (h2 : Kept σ σ₁ [sk, cl]) (h3 : Grow σ σ₁) (h4 : σ₁ fd = some (.list (fs.map V.ref))) (h5 : BF σ σ₁ tp g) (h6 : fs.length = i) (h7 : g.size = i) (h8 : (∀ a ∈ fs, a ∈ g.pre)) (h9 : fd ∉ tp :: g.alk) : J20 σ sk cl fd tp i m₁ σ₁
theorem drawn_ok {w : World} {σ : AH} {Q : V → AH → Prop} {X : Int → AH → Prop} {sk cl : Addr} (hs : Sack σ sk cl)
    (k : ∀ r σ' g, Sack σ' sk cl → Kept σ σ' [sk, cl] → BF σ σ' r g → g.size ≤ 12 → Q (.ref r) σ') : ACall w 2 true 205 [.ref sk] σ Q X := by
  refine' acall ["sack"] ["found", "tops", "at", "spot", "tree"] ["range", "_law_pull"] ["sack", "found", "tops", "at", "spot", "tree"] [some (.ref sk), none, none, none, none, none] (f := 205) ?h1 ?h2 ?h3 ?h4 ?h5 ?h6 ?h7 ?hdb ?h8 ?h9 ?h10 ?h11 ?hns ?hm ?h12
  k_extra "enter"
  case h3 => intro vs hv; obtain ⟨a, rfl, _⟩ := map_one hv; rfl
  intro g' s0 A L l c
  k_extra "walk"
  rename_i fd hfd tp htp tu htu
  have hft : fd ≠ tp := Fresh.ne htp
  have htp1 := Fresh.of_new htp
  have hk1 : Kept σ (upd (upd (upd σ fd (AO.list [])) tp (AO.list [])) tu (AO.tuple [V.ref fd, V.ref tp])) [] := by k_extra "kept"
  have hf1 : upd (upd (upd σ fd (AO.list [])) tp (AO.list [])) tu (AO.tuple [V.ref fd, V.ref tp]) fd = some (AO.list []) := by k_extra "at"
  have ht1 : upd (upd (upd σ fd (AO.list [])) tp (AO.list [])) tu (AO.tuple [V.ref fd, V.ref tp]) tp = some (AO.list []) := by k_extra "at"
  have hs1 := hs.kept hk1
  generalize upd (upd (upd σ fd (AO.list [])) tp (AO.list [])) tu (AO.tuple [V.ref fd, V.ref tp]) = σ1 at hk1 hf1 ht1 hs1 ⊢
  have hg1 : Grow σ σ1 := .kept hk1
  have nfd := hs.sk_ne hfd
  have ntp := hs.sk_ne htp1
  refine ax_forr rfl xe_pass (by k_extra "hit") ?_ (by with_unfolding_all rfl) (by with_unfolding_all rfl) (by intro v; rfl)
  k_extra "walk"
  refine oc_f0 (pull_ok (h := true) hs1 (by omega) (by omega) fun r1 σ2 r10 r11 hs2 hk2 => ?_) (Nat.le_of_ble_eq_true rfl) (fun _ => rfl) rfl
  obtain ⟨n1, rfl⟩ := Int.eq_ofNat_of_zero_le r10
  k_extra "walk"
  refine ⟨1 + n1, by simp, by omega, ?_⟩
  refine ⟨(J20 σ sk cl fd tp), ?_, fun _ _ _ _ => trivial, ?_, ?_⟩
  · refine ⟨[], .nil, _, _, _, rfl, hs2, (hk1.more (by simp)).trans hk2, hg1.trans (.sack hk2 hs2), hk2 _ _ hf1 (by simp [nfd]), ⟨hk2 _ _ ht1 (by simp [ntp]), trivial, by simp [G.alk], fun x hx => ?_, trivial⟩, rfl, rfl, nofun, by simpa [G.alk] using hft⟩
    simp only [G.alk, List.mem_cons, List.not_mem_nil, or_false] at hx
    rw [hx]; exact htp1
  · rintro i v m₁ σ₁ g₁ hov hi rfl ⟨fs, g, v2, v3, v4, rfl, hs3, hk3, hg3, hf3, hb3, hl3, hz3, hp3, hn3⟩
    refine ⟨_, by k_extra "hit", ?_⟩
    have hi12 : (i : Int) < 12 := by omega
    k_extra "walk"
    refine oc_f0 (pull_ok (h := true) hs3 (by omega) (by omega) fun r2 σ3 r20 r21 hs4 hk4 => ?_) (Nat.le_of_ble_eq_true rfl) (fun _ => rfl) rfl
    have hb4 := hb3.kept hk4 fun x hx => by
      obtain ⟨q1, q2⟩ := hs.sk_ne (hb3.new x hx)
      simp [q1, q2]
    have hf4 := hk4 _ _ hf3 (by simp [nfd])
    have hk5 : Kept σ σ3 [sk, cl] := hk3.trans hk4
    have hg4 : Grow σ σ3 := hg3.trans (.sack hk4 hs4)
    k_extra "walk"
    rename_i t ht ln hln
    have htl : t ≠ ln := Fresh.ne hln
    have hk6 : Kept σ3 (upd (upd σ3 t (AO.dict [])) ln (AO.list [V.int 0, V.int 100, V.int (10 ^ Int.toNat 6), V.int (10 ^ Int.toNat 18), V.int (10 ^ Int.toNat 19)])) [] := by k_extra "kept"
    have ht6 : upd (upd σ3 t (AO.dict [])) ln (AO.list [V.int 0, V.int 100, V.int (10 ^ Int.toNat 6), V.int (10 ^ Int.toNat 18), V.int (10 ^ Int.toNat 19)]) t = some (AO.dict []) := by k_extra "at"
    have hl6 : upd (upd σ3 t (AO.dict [])) ln (AO.list [V.int 0, V.int 100, V.int (10 ^ Int.toNat 6), V.int (10 ^ Int.toNat 18), V.int (10 ^ Int.toNat 19)]) ln = some (AO.list [V.int 0, V.int 100, V.int (10 ^ Int.toNat 6), V.int (10 ^ Int.toNat 18), V.int (10 ^ Int.toNat 19)]) := upd_same ..
    have hln3 : Fresh σ3 ln := Fresh.of_new hln
    generalize upd (upd σ3 t (AO.dict [])) ln (AO.list [V.int 0, V.int 100, V.int (10 ^ Int.toNat 6), V.int (10 ^ Int.toNat 18), V.int (10 ^ Int.toNat 19)]) = σ4 at hk6 ht6 hl6 ⊢
    refine oc_f0 (pull_ok (h := true) (hs4.kept hk6) (by omega) (by omega) fun r3 σ5 r30 r31 hs5 hk7 => ?_) (Nat.le_of_ble_eq_true rfl) (fun _ => rfl) rfl
    obtain ⟨bv, hbv, hbv0, hbv1⟩ := big_of r30 r31
    have nt := hs4.sk_ne ht
    have nln := hs4.sk_ne hln3
    have hk8 : Kept σ3 σ5 [sk, cl] := (hk6.more (by simp)).trans hk7
    have ht7 : σ5 t = some (AO.dict []) := hk7 _ _ ht6 (by simp [nt])
    have hl7 := hk7 _ _ hl6 (by simp [nln])
    have hb7 := hb4.kept hk8 fun x hx => by
      obtain ⟨q1, q2⟩ := hs.sk_ne (hb4.new x hx)
      simp [q1, q2]
    have hf7 := hk8 _ _ hf4 (by simp [nfd])
    have hg7 : Grow σ3 σ5 := (Grow.kept hk6).trans (.sack hk7 hs5)
    have tst : ∀ x ∈ tp :: g.alk, x ≠ t := fun x hx q => ht.notin hb4.stands (q ▸ hx)
    k_extra "walk"
    refine o2_item (by k_extra "at") r30 hbv ?_ (by intro _ _; rfl)
    k_extra "walk"
    all_goals
      rename_i kk hkk hr2
      have hkk3 : Fresh σ3 kk := hkk.grow hg7
      have htk : t ≠ kk := hkk _ _ ht7
      have hk9 : Kept σ3 (upd (upd σ5 kk (AO.list [])) t (AO.dict [("number", V.int (↑i + 1 + bv)), ("kids", V.ref kk)])) [sk, cl] := Kept.put ht (Kept.new hkk hk8)
      have hk10 : Kept σ5 (upd (upd σ5 kk (AO.list [])) t (AO.dict [("number", V.int (↑i + 1 + bv)), ("kids", V.ref kk)])) [t] := Kept.at (by simp) (Kept.new hkk Kept.rfl)
      have hg9 : Grow σ3 (upd (upd σ5 kk (AO.list [])) t (AO.dict [("number", V.int (↑i + 1 + bv)), ("kids", V.ref kk)])) := hg7.upd.upd
      have hs9 : Sack (upd (upd σ5 kk (AO.list [])) t (AO.dict [("number", V.int (↑i + 1 + bv)), ("kids", V.ref kk)])) sk cl := hs5.keptS hk10 (by simpa using Ne.symm nt.1) (by simpa using Ne.symm nt.2)
      have hb9 := hb4.kept hk9 fun x hx => by
        obtain ⟨q1, q2⟩ := hs.sk_ne (hb4.new x hx)
        simp [q1, q2]
      have ht9 : upd (upd σ5 kk (AO.list [])) t (AO.dict [("number", V.int (↑i + 1 + bv)), ("kids", V.ref kk)]) t = some (dk (↑i + 1 + bv) kk []) := upd_same ..
      have hkk9 : upd (upd σ5 kk (AO.list [])) t (AO.dict [("number", V.int (↑i + 1 + bv)), ("kids", V.ref kk)]) kk = some (AO.list []) := by k_extra "at"
      have hf9 := hk9 _ _ hf4 (by simp [nfd])
      generalize upd (upd σ5 kk (AO.list [])) t (AO.dict [("number", V.int (↑i + 1 + bv)), ("kids", V.ref kk)]) = σ6 at hk9 hg9 hs9 hb9 ht9 hkk9 hf9 ⊢
      clear hk10
      have n1 := ht.notin hb4.stands
      have n2 := hkk3.notin hb4.stands
      have hkf : kk ≠ fd := fun q => hkk3 _ _ hf4 q.symm
      have htf : t ≠ fd := fun q => ht _ _ hf4 q.symm
      have hgF : Grow σ σ6 := hg4.trans hg9
      have hkF : Kept σ σ6 [sk, cl] := hk5.trans hk9
      have hps : (0 : Int) < ↑i + 1 + bv ∧ ↑i + 1 + bv < 10 ^ 20 := ⟨by omega, by omega⟩
      have hfz : fs.length ≤ 100 := by omega
      have fin : ∀ (a : Addr) σ7 g', Fresh σ a → a ≠ fd → Kept σ6 σ7 [a] → Grow σ6 σ7 → BF σ σ7 tp g' → fd ∉ tp :: g'.alk → g'.size = i + 1 → (∀ x ∈ g.pre, x ∈ g'.pre) → t ∈ g'.pre → J20 σ sk cl fd tp (i + 1) [some (V.ref sk), some (V.ref fd), some (V.ref tp), some (V.int ↑i), some (V.int r2), some (V.ref t)] (upd σ7 fd (AO.list (fs.map V.ref ++ [V.ref t]))) := by
        intro a σ7 g' q1 q2 q3 q4 q5 q6 q7 q8 q9
        have na := hs.sk_ne q1
        have q10 : Kept σ7 (upd σ7 fd (AO.list (fs.map V.ref ++ [V.ref t]))) [fd] := Kept.at (by simp) Kept.rfl
        refine ⟨fs ++ [t], g', _, _, _, rfl, (hs9.keptS q3 (by simpa using Ne.symm na.1) (by simpa using Ne.symm na.2)).keptS q10 (by simpa using Ne.symm nfd.1) (by simpa using Ne.symm nfd.2), Kept.put hfd fun b o e n => q3 b o (hkF b o e n) (by simpa using q1 b o e), (hgF.trans q4).upd, by rw [List.map_append]; exact upd_same .., q5.kept q10 fun x hx q => q6 (by rw [← List.mem_singleton.mp q]; exact hx), by simp [hl3], q7, fun x hx => ?_, q6⟩
        rcases List.mem_append.mp hx with hx | hx
        · exact q8 x (hp3 x hx)
        · rw [List.mem_singleton.mp hx]; exact q9
    · have htp9 := hb9.at_
      refine ⟨tp, _, rfl, htp9, ?_⟩
      have hgl : g.vals.length ≤ 100 := by
        rw [G.vals_len]
        have : g.er.len ≤ g.size := Mine.F.len_le g.er
        omega
      have hft' := Ne.symm hft
      k_extra "walk"
      refine fin tp _ _ htp1 hft' (Kept.at (by simp) Kept.rfl) Grow.rfl.upd (hb9.leaf (Kept.at (by simp) Kept.rfl) (upd_same ..) (upd_get (fun q => n1 (by rw [← q]; exact .head _)) ht9) (upd_get (fun q => n2 (by rw [← q]; exact .head _)) hkk9) n1 n2 (ht.grow hg4) (hkk3.grow hg4) htk hps) ?_ ?_ ?_ ?_
      · rw [G.alk_app]
        simp only [List.mem_cons, not_or, G.alk, List.mem_append, List.append_nil, List.not_mem_nil, not_false_eq_true, and_true] at hn3 ⊢
        exact ⟨hn3.1, hn3.2, Ne.symm htf, Ne.symm hkf⟩
      · show (g.app _).er.size = _
        rw [G.er_app, Mine.F.size_app, show g.er.size = i from hz3]; rfl
      · intro x hx; rw [G.pre_app]; exact List.mem_append_left _ hx
      · rw [G.pre_app]; simp [G.pre]
    · obtain ⟨a, ha⟩ : ∃ a, fs[(r2 - 1).toNat]? = some a := ⟨_, List.getElem?_eq_getElem (by omega)⟩
      obtain ⟨m, k', tl, ks, e1, e2, e3, e4, e5⟩ := Ed.ex hb9.rd (hp3 a (List.mem_of_getElem? ha))
      obtain ⟨g', ed⟩ := e5 k' (ks.app (.cons t 0 kk (↑i + 1 + bv) .nil .nil))
      obtain ⟨ma, mk⟩ := ed.mem
      have hkf' : k' ≠ fd := fun q => hn3 (by rw [← q]; exact .tail _ mk)
      refine o2_item hf9 (by omega) (by rw [List.getElem?_map, ha]; rfl) ?_ (by intro _ _; rfl)
      have hks : (ks.app (.cons t 0 kk (↑i + 1 + bv) .nil .nil)).size = ks.size + 1 := by show (ks.app _).er.size = _; rw [G.er_app, Mine.F.size_app]; rfl
      have hvl : ks.vals.length ≤ 100 := by
        obtain ⟨_, ed0⟩ := e5 k' .nil
        have h1 := ed0.size
        have h2 : ks.er.len ≤ ks.size := Mine.F.len_le ks.er
        have h3 : G.nil.size = 0 := rfl
        rw [G.vals_len]
        omega
      obtain ⟨z1, z2, z3⟩ := ed.goodK hb9.good
      have hed := ed.size
      k_extra "walk"
      obtain ⟨b1, b2⟩ := BF.leafK (σ' := upd σ6 k' (AO.list (ks.vals ++ [V.ref t]))) hb9 ed e4 e1 e2 (Kept.at (by simp) Kept.rfl) (upd_same ..) (upd_get (fun q => n1 (by rw [q]; exact .tail _ mk)) ht9) (upd_get (fun q => n2 (by rw [q]; exact .tail _ mk)) hkk9) n1 n2 (ht.grow hg4) (hkk3.grow hg4) htk hps (fun q => by omega) z1 z3
      have hpre := ed.pre fun x hx => by rw [G.pre_app]; exact List.mem_append_left _ hx
      refine fin k' _ g' (hb9.new _ (.tail _ mk)) hkf' (Kept.at (by simp) Kept.rfl) Grow.rfl.upd b1 ?_ (by omega) hpre.1 (hpre.2 t (by rw [G.pre_app]; simp [G.pre]))
      rw [(b2.cons tp).mem_iff]
      simp only [List.mem_cons, not_or, List.mem_append, List.not_mem_nil, not_false_eq_true, and_true] at hn3 ⊢
      exact ⟨hn3.1, hn3.2, Ne.symm htf, Ne.symm hkf⟩
  · rintro m₁ σ₁ ⟨fs, g, v2, v3, v4, rfl, hs3, hk3, hg3, hf3, hb3, hl3, hz3, hp3, hn3⟩
    k_extra "walk"
    exact k tp _ g hs3 hk3 hb3 (by omega)

inductive J21 (sk : Addr) (cl : Addr) (r0 : Addr) (ro : Addr) (g : G) (i : Nat) (m₁ : List (Option V)) (σ₁ : AH) : Prop where
  | mk (g' : G) (v2 v3 : Option V) (h0 : m₁ = [some (.ref sk), some (.ref r0), v2, v3]) (h1 : Sack σ₁ sk cl) (h2 : σ₁ ro = some (.list (g.pre.map V.ref))) (h3 : σ₁ r0 = some (.list g'.vals)) (h4 : RD σ₁ g') (h5 : g'.alk.Nodup) (h6 : (∀ x ∈ ro :: r0 :: g'.alk, x ≠ sk ∧ x ≠ cl)) (h7 : Good g'.er) (h8 : g'.size ≤ g.size + i) (h9 : (∀ x ∈ g.pre, x ∈ g'.pre)) : J21 sk cl r0 ro g i m₁ σ₁
inductive J21b (sk : Addr) (cl : Addr) (i : Nat) (m₁ : List (Option V)) (σ₁ : AH) : Prop where
  | mk (g' : G) (r : Addr) (v2 v3 : Option V) (h0 : m₁ = [some (.ref sk), some (.ref r), v2, v3]) (h1 : Sack σ₁ sk cl) (h2 : σ₁ r = some (.list g'.vals)) (h3 : RD σ₁ g') (h4 : g'.alk.Nodup) (h5 : (∀ x ∈ r :: g'.alk, x ≠ sk ∧ x ≠ cl)) (h6 : Good g'.er) (h7 : g'.size ≤ 242 + i) : J21b sk cl i m₁ σ₁
theorem hidden_ok {w : World} {σ : AH} {Q : V → AH → Prop} {X : Int → AH → Prop} {sk cl r0 : Addr} {g : G} (hs : Sack σ sk cl) (hb : RD σ g) (hr : σ r0 = some (.list g.vals)) (hn : g.alk.Nodup) (hsk : ∀ x ∈ r0 :: g.alk, x ≠ sk ∧ x ≠ cl) (hg : Good g.er) (hz : g.size ≤ 121)
    (k : ∀ r σ' g', Sack σ' sk cl → σ' r = some (.list g'.vals) → RD σ' g' → g'.alk.Nodup → Good g'.er → g'.size ≤ 300 → Q (.ref r) σ') : ACall w 3 true 226 [.ref sk, .ref r0] σ Q X := by
  refine' acall ["sack", "forest"] ["tree", "lap"] ["_law_order", "len", "_law_pull", "range"] ["sack", "forest", "tree", "lap"] [some (.ref sk), some (.ref r0), none, none] (f := 226) ?h1 ?h2 ?h3 ?h4 ?h5 ?h6 ?h7 ?hdb ?h8 ?h9 ?h10 ?h11 ?hns ?hm ?h12
  k_extra "enter"
  case h3 => intro vs hv; obtain ⟨a, b, rfl, _, _⟩ := map_two hv; rfl
  intro g' s0 A L l c
  k_extra "walk"
  refine ax_forl rfl xe_pass ?_ (by intro v; rfl)
  k_extra "walk"
  refine oc_f0 (order_ok (h := true) hr hb (by omega) fun ro σ1 hk1 hro ho => ?_) (Nat.le_of_ble_eq_true rfl) (fun _ => rfl) rfl
  refine ⟨ro, _, rfl, ho, ?_⟩
  have hpl : (g.pre.map V.ref).length = g.size := by rw [List.length_map, G.pre_len]
  have nro := hs.sk_ne hro
  refine ⟨(J21 sk cl r0 ro g), ?_, ?_, ?_, ?_⟩
  · refine ⟨g, _, _, rfl, hs.kept hk1, ho, hk1.get hr, hb.kept hk1, hn, fun x hx => ?_, hg, by omega, fun x hx => hx⟩
    rcases List.mem_cons.mp hx with rfl | hx
    · exact nro
    · exact hsk x hx
  · rintro i m₁ σ₁ ⟨g', v2, v3, rfl, hs2, ho2, _⟩; exact ho2
  · rintro i v m₁ σ₁ g₁ hov hi hv ⟨g', v2, v3, rfl, hs2, ho2, hr2, hb2, hn2, hsk2, hg2, hz2, hp2⟩
    rw [List.getElem?_map] at hv
    obtain ⟨a, ha, rfl⟩ := Option.map_eq_some_iff.mp hv
    have hi' : i < g.size := by omega
    have ha' := hp2 a (List.mem_of_getElem? ha)
    obtain ⟨m, k', tl, ks, e1, e2, e3, e4, e5⟩ := Ed.ex hb2 ha'
    refine ⟨_, by k_extra "hit", ?_⟩
    have hvl : ks.vals.length ≤ 1000 := by
      obtain ⟨_, ed0⟩ := e5 k' .nil
      have h1 := ed0.size
      have h2 : ks.er.len ≤ ks.size := Mine.F.len_le ks.er
      have h3 : G.nil.size = 0 := rfl
      rw [G.vals_len]
      omega
    k_extra "walk"
    · refine oc_f0 (pull_ok (h := true) hs2 (by omega) (by omega) fun r2 σ3 r20 r21 hs3 hk3 => ?_) (Nat.le_of_ble_eq_true rfl) (fun _ => rfl) rfl
      have off : ∀ x ∈ ro :: r0 :: g'.alk, x ∉ [sk, cl] := fun x hx => by
        obtain ⟨q1, q2⟩ := hsk2 x hx
        simp [q1, q2]
      have ho3 := hk3 _ _ ho2 (off ro (.head _))
      have hr3 := hk3 _ _ hr2 (off r0 (.tail _ (.head _)))
      have hb3 : RD σ3 g' := hb2.keptA hk3 fun x hx => off x (.tail _ (.tail _ hx))
      have e1 := hk3 _ _ e1 (off a (.tail _ (.tail _ (G.pre_alk a ha'))))
      obtain ⟨_, ed0⟩ := e5 k' ks
      obtain ⟨ma, mk⟩ := ed0.mem
      have e3 := hk3 _ _ e3 (off k' (.tail _ (.tail _ mk)))
      obtain ⟨R, p1, _⟩ := ed0.perm
      have e4 : RD σ3 ks := e4.keptA hk3 fun x hx => off x (.tail _ (.tail _ (p1.mem_iff.mpr (.tail _ (.tail _ (List.mem_append_left _ hx))))))
      k_extra "walk"
      · rename_i hl2 _ _ z hz3 k3 hk33 lz hlz l2 hl2'
        have hl2 : 2 < ks.vals.length := by omega
        obtain ⟨x, r, rfl, hx⟩ := G.two (g := ks) (by rw [← G.vals_len]; omega)
        have hc1 : cutAt (x.app r).vals none (some 2) = x.vals := by rw [cut_take, G.vals_app, ← hx, List.take_left]
        have hc2 : cutAt (x.app r).vals (some 2) none = r.vals := by rw [cut_drop, G.vals_app, ← hx, List.drop_left]
        rw [hc1, hc2]
        have hrl : r.vals.length ≤ 1000 := by rw [G.vals_app, List.length_append] at hvl; omega
        k_extra "walk"
        rename_i k2 hk2
        obtain ⟨τ, hτ⟩ : ∃ τ, τ = upd (upd (upd (upd (upd (upd σ3 z (AO.dict [])) k3 (AO.list x.vals)) z (AO.dict [("number", V.int 0), ("kids", V.ref k3)])) lz (AO.list [V.ref z])) l2 (AO.list r.vals)) k2 (AO.list ([V.ref z] ++ r.vals)) := ⟨_, rfl⟩
        rw [← hτ]
        have t1 : Kept σ3 τ [] := by rw [hτ]; k_extra "kept"
        have t2 : τ z = some (AO.dict [("number", V.int 0), ("kids", V.ref k3)]) := by rw [hτ]; k_extra "at"
        have t3 : τ k3 = some (AO.list x.vals) := by rw [hτ]; k_extra "at"
        have t4 : τ k2 = some (AO.list ([V.ref z] ++ r.vals)) := by rw [hτ]; exact upd_same ..
        have f2 : Fresh σ3 k3 := by k_extra "new"
        have f3 : Fresh σ3 k2 := by k_extra "new"
        have d1 : z ≠ k3 := by k_extra "apart"
        have d2 : z ≠ k2 := hk2 z _ (by k_extra "at" : _ = some (AO.dict [("number", V.int 0), ("kids", V.ref k3)]))
        have d3 : k3 ≠ k2 := hk2 k3 _ (by k_extra "at" : _ = some (AO.list x.vals))
        clear hτ
        have htl : tl.length ≤ 1 := by rcases e2 with rfl | ⟨v, rfl⟩ <;> simp
        refine os_key (x := "kids") (t1.get e1) (by simp only [List.length_cons, sizeLine_eq]; omega) ?_
        rw [show put (("number", V.int m) :: ("kids", V.ref k') :: tl) "kids" (V.ref k2) = ("number", V.int m) :: ("kids", V.ref k2) :: tl by simp [put]]
        obtain ⟨g2, ed⟩ := e5 k2 (.cons z 0 k3 0 x r)
        have ak : Kept τ (upd τ a (dk m k2 tl)) [a] := Kept.at (by simp) Kept.rfl
        obtain ⟨s1, s2, s3, s4, s5, s6, s7⟩ := Ed.step (τ := upd τ a (dk m k2 tl)) ed hb3 hn2 hg2 hx hl2 e4 ((t1.more (by simp)).trans ak) (upd_same ..) e2 (ak _ _ t4 (by simpa using (f3 a _ e1).symm)) (ak _ _ t2 (by simpa using (hz3 a _ e1).symm)) (ak _ _ t3 (by simpa using (f2 a _ e1).symm)) hz3 f2 f3 d1 d2 d3
        k_extra "walk"
        have na : ∀ (y : Addr) xs, σ3 y = some (AO.list xs) → y ≠ a := fun y xs h q => by rw [q, e1] at h; cases h
        have oa := hsk2 a (.tail _ (.tail _ (G.pre_alk a ha')))
        refine ⟨g2, _, _, rfl, (hs3.kept t1).keptS ak (by simpa using oa.1.symm) (by simpa using oa.2.symm), ak _ _ (t1.get ho3) (by simpa using na _ _ ho3), by rw [s7]; exact ak _ _ (t1.get hr3) (by simpa using na _ _ hr3), s1, s2, fun y hy => ?_, s3, by omega, fun y hy => s5 y (hp2 y hy)⟩
        rcases List.mem_cons.mp hy with rfl | hy
        · exact hsk2 _ (.head _)
        rcases List.mem_cons.mp hy with rfl | hy
        · exact hsk2 _ (.tail _ (.head _))
        rcases s6 y hy with q | q
        · exact hsk2 y (.tail _ (.tail _ q))
        · exact hs3.sk_ne q
      · exact ⟨g', _, _, rfl, hs3, ho3, hr3, hb3, hn2, hsk2, hg2, by omega, hp2⟩
    · exact ⟨g', _, _, rfl, hs2, ho2, hr2, hb2, hn2, hsk2, hg2, by omega, hp2⟩
  · rintro m₁ σ₁ ⟨g', v2, v3, rfl, hs2, ho2, hr2, hb2, hn2, hsk2, hg2, hz2, hp2⟩
    have hz3 : g'.size ≤ 242 := by omega
    replace hsk2 : ∀ x ∈ r0 :: g'.alk, x ≠ sk ∧ x ≠ cl := fun x hx => hsk2 x (.tail _ hx)
    clear hz2 hp2 ho2
    k_extra "walk"
    refine ax_forr rfl xe_pass (by k_extra "hit") ?_ (by with_unfolding_all rfl) (by with_unfolding_all rfl) (by intro v; rfl)
    k_extra "walk"
    refine ⟨2, rfl, by omega, ?_⟩
    refine ⟨(J21b sk cl), ⟨g', r0, _, _, rfl, hs2, hr2, hb2, hn2, hsk2, hg2, hz3⟩, fun _ _ _ _ => trivial, ?_, ?_⟩
    · clear hs2 hr2 hb2 hn2 hsk2 hg2 hz3 hs hb hr hn hsk hg
      rintro i v m₁ σ₁ g₁ hov hi rfl ⟨g', r0, v2, v3, rfl, hs2, hr2, hb2, hn2, hsk2, hg2, hz3⟩
      refine ⟨_, by k_extra "hit", ?_⟩
      have hgl : g'.vals.length ≤ 1000 := by
        have : g'.er.len ≤ g'.size := Mine.F.len_le g'.er
        rw [G.vals_len]; omega
      k_extra "walk"
      · refine oc_f0 (pull_ok (h := true) hs2 (by omega) (by omega) fun r2 σ3 r20 r21 hs3 hk3 => ?_) (Nat.le_of_ble_eq_true rfl) (fun _ => rfl) rfl
        have off : ∀ x ∈ r0 :: g'.alk, x ∉ [sk, cl] := fun x hx => by
          obtain ⟨q1, q2⟩ := hsk2 x hx
          simp [q1, q2]
        have hr3 := hk3 _ _ hr2 (off r0 (.head _))
        have hb3 : RD σ3 g' := hb2.keptA hk3 fun x hx => off x (.tail _ hx)
        k_extra "walk"
        · rename_i hl2 _ _ z hz3' k3 hk33 lz hlz l2 hl2'
          obtain ⟨x, r, rfl, hx⟩ := G.two (g := g') (by rw [← G.vals_len]; omega)
          have hc1 : cutAt (x.app r).vals none (some 2) = x.vals := by rw [cut_take, G.vals_app, ← hx, List.take_left]
          have hc2 : cutAt (x.app r).vals (some 2) none = r.vals := by rw [cut_drop, G.vals_app, ← hx, List.drop_left]
          rw [hc1, hc2]
          have hrl : r.vals.length ≤ 1000 := by rw [G.vals_app, List.length_append] at hgl; omega
          have st := hb3.stands
          have n1 := hz3'.notin st
          have f2 : Fresh σ3 k3 := by k_extra "new"
          have n2 := f2.notin st
          have d1 : z ≠ k3 := by k_extra "apart"
          k_extra "walk"
          rename_i k2 hk2
          refine ⟨.cons z 0 k3 0 x r, k2, _, _, rfl, hs3.kept (by k_extra "kept"), upd_same .., G.fold_rd (S := []) hb3 (by k_extra "kept") (fun _ _ => List.not_mem_nil) (by k_extra "at" : _ = some (AO.dict [("number", V.int 0), ("kids", V.ref k3)])) (by k_extra "at" : _ = some (AO.list x.vals)), ?_, fun y hy => ?_, G.fold_good hg2 hx, by rw [G.fold_size]; omega⟩
          · rw [G.fold_alk, List.nodup_cons, List.nodup_cons]
            exact ⟨by simp only [List.mem_cons, not_or]; exact ⟨d1, n1⟩, n2, hn2⟩
          · rw [G.fold_alk] at hy
            simp only [List.mem_cons] at hy
            rcases hy with rfl | rfl | rfl | hy
            · exact hs3.sk_ne (by k_extra "new")
            · exact hs3.sk_ne hz3'
            · exact hs3.sk_ne f2
            · exact hsk2 y (.tail _ hy)
        · exact ⟨g', r0, _, _, rfl, hs3, hr3, hb3, hn2, hsk2, hg2, by omega⟩
      · exact ⟨g', r0, _, _, rfl, hs2, hr2, hb2, hn2, hsk2, hg2, by omega⟩
    · rintro m₁ σ₁ ⟨g', r, v2, v3, rfl, hs2, hr2, hb2, hn2, hsk2, hg2, hz3⟩
      k_extra "walk"
      exact k r _ g' hs2 hr2 hb2 hn2 hg2 (by omega)

inductive M22a (a : Addr) (sk : Addr) (cl : Addr) (r2 : Int) (m : List (Option V)) (τ : AH) : Prop where
  | mk (r : Addr) (g : G) (h0 : m = [some (.ref a), some (.ref sk), some (.int r2), some (.ref r), none, none, none, none, none, none, none]) (h1 : Sack τ sk cl) (h2 : τ r = some (.list g.vals)) (h3 : RD τ g) (h4 : g.alk.Nodup) (h5 : Good g.er) (h6 : g.size ≤ 300) : M22a a sk cl r2 m τ
inductive J22 (a : Addr) (sk : Addr) (cl : Addr) (r2 : Int) (r : Addr) (ro : Addr) (rl : Addr) (g : G) (i : Nat) (m₁ : List (Option V)) (σ₁ : AH) : Prop where
  | mk (ν : G) (v5 : Option V) (h0 : m₁ = [some (.ref a), some (.ref sk), some (.int r2), some (.ref r), some (.ref ro), v5, none, none, none, none, none]) (h1 : Sack σ₁ sk cl) (h2 : σ₁ rl = some (.list (g.pre.map V.ref).reverse)) (h3 : σ₁ ro = some (.list (g.pre.map V.ref))) (h4 : σ₁ r = some (.list g.vals)) (h5 : RD σ₁ g) (h6 : ND σ₁ (G.suf (g.size - i) g) ν) (h7 : RN σ₁ ν) : J22 a sk cl r2 r ro rl g i m₁ σ₁
inductive M22b (a : Addr) (sk : Addr) (r2 : Int) (r : Addr) (ro : Addr) (v5 : Option V) (σ₁ : AH) (ν : G) (m' : List (Option V)) (σ' : AH) : Prop where
  | mk nl (h0 : m' = [some (.ref a), some (.ref sk), some (.int r2), some (.ref r), some (.ref ro), v5, some (.ref nl), none, none, none, none]) (h1 : Kept σ₁ σ' []) (h2 : σ' nl = some (.list ν.vals)) : M22b a sk r2 r ro v5 σ₁ ν m' σ'
inductive M22c (a : Addr) (sk : Addr) (r2 : Int) (r : Addr) (ro : Addr) (v5 : Option V) (nl : Addr) (σ4 : AH) (g : G) (m' : List (Option V)) (σ' : AH) : Prop where
  | mk rr (h0 : m' = [some (.ref a), some (.ref sk), some (.int r2), some (.ref r), some (.ref ro), v5, some (.ref nl), some (.ref rr), none, none, none]) (h1 : Kept σ4 σ' []) (h2 : RowsAt σ' rr g.er.rows) : M22c a sk r2 r ro v5 nl σ4 g m' σ'
inductive M22d (a : Addr) (sk : Addr) (r2 : Int) (r : Addr) (ro : Addr) (v5 : Option V) (nl : Addr) (rr : Addr) (σ5 : AH) (g : G) (m' : List (Option V)) (σ' : AH) : Prop where
  | mk  (h0 : m' = [some (.ref a), some (.ref sk), some (.int r2), some (.ref r), some (.ref ro), v5, some (.ref nl), some (.ref rr), some (.bytes (T true g.er)), none, none]) (h1 : Kept σ5 σ' []) : M22d a sk r2 r ro v5 nl rr σ5 g m' σ'
inductive M22e (a : Addr) (sk : Addr) (r2 : Int) (r : Addr) (ro : Addr) (v5 : Option V) (nl : Addr) (rr : Addr) (σ7 : AH) (g : G) (m' : List (Option V)) (σ' : AH) : Prop where
  | mk (hr : Addr) (gh : G) (h0 : m' = [some (.ref a), some (.ref sk), some (.int r2), some (.ref r), some (.ref ro), v5, some (.ref nl), some (.ref rr), some (.bytes (T true g.er)), some (.ref hr), none]) (h1 : Kept σ7 σ' []) (h2 : σ' hr = some (.list gh.vals)) (h3 : RN σ' gh) (h4 : gh.er = g.er) : M22e a sk r2 r ro v5 nl rr σ7 g m' σ'
inductive M22f (a : Addr) (sk : Addr) (r2 : Int) (r : Addr) (ro : Addr) (v5 : Option V) (nl : Addr) (rr : Addr) (hr : Addr) (σ8 : AH) (g : G) (m' : List (Option V)) (σ' : AH) : Prop where
  | mk  (h0 : m' = [some (.ref a), some (.ref sk), some (.int r2), some (.ref r), some (.ref ro), v5, some (.ref nl), some (.ref rr), some (.bytes (T true g.er)), some (.ref hr), none]) (h1 : Kept σ8 σ' []) : M22f a sk r2 r ro v5 nl rr hr σ8 g m' σ'
inductive M22g (a : Addr) (sk : Addr) (r2 : Int) (r : Addr) (ro : Addr) (v5 : Option V) (nl : Addr) (rr : Addr) (hr : Addr) (σ11 : AH) (g : G) (m' : List (Option V)) (σ' : AH) : Prop where
  | mk  (h0 : m' = [some (.ref a), some (.ref sk), some (.int r2), some (.ref r), some (.ref ro), v5, some (.ref nl), some (.ref rr), some (.bytes (T true g.er)), some (.ref hr), none]) (h1 : Kept σ11 σ' []) : M22g a sk r2 r ro v5 nl rr hr σ11 g m' σ'
theorem law_ok {w : World} {σ : AH} {Q : V → AH → Prop} {X : Int → AH → Prop} {a : Addr} {ns : List Int} {gr : Gr} {vs : List Value} {n0 : Nat} (ha : gr.g.get? a = some { cls := .type "list", data := .seq vs.toArray n0 }) (hn0 : vs.length ≤ sizeLine) (hv0 : vs.map er = ns.map V.int)
    (k : ∀ σ', Q (.bool true) σ') : ACallAt gr w 7 true 271 [.ref a] σ Q X := by
  refine' acallAt ["script"] ["sack", "sort", "forest", "order", "tree", "nodes", "rows", "octets", "heard", "bent"] ["_law_sack", "_law_pull", "_law_hidden", "_law_deep", "_law_drawn", "_law_order", "Node", "_law_text", "bytes", "_law_heard", "show_threads", "_law_rows", "numbers_told", "_law_bent", "_law_is_right"] ["script", "sack", "sort", "forest", "order", "tree", "nodes", "rows", "octets", "heard", "bent"] [some (.ref a), none, none, none, none, none, none, none, none, none, none] (f := 271) ?h1 ?h2 ?h3 ?h4 ?h5 ?h6 ?h7 ?hdb ?h8 ?h9 ?h10 ?h11 ?hns ?hm ?h12
  k_extra "enter"
  case h3 => intro vs hv; obtain ⟨a, rfl, _⟩ := map_one hv; rfl
  intro s0 A L l c
  k_extra "walk"
  refine oc_at (fun gr' hgr => sack_ok (hgr _ _ ha) hn0 hv0 fun sk cl σ1 hk1 hf1 hf2 hs1 => ?_) (Nat.le_of_ble_eq_true rfl) (fun _ => rfl) rfl (fun _ _ h => fz_no h)
  k_extra "walk"
  refine oc_f0 (pull_ok (h := true) hs1 (by omega) (by omega) fun r2 σ2 r20 r21 hs2 hk2 => ?_) (Nat.le_of_ble_eq_true rfl) (fun _ => rfl) rfl
  k_extra "tos"
  rename_i f0 hf0
  refine ax_meetR (M22a a sk cl r2) ?_ ?_
  · intro R hR
    have hs3 := hs2.kept (Kept.new hf0 Kept.rfl : Kept σ2 (upd σ2 f0 (AO.list [])) [])
    have hf3 : upd σ2 f0 (AO.list []) f0 = some (AO.list []) := upd_same ..
    generalize upd σ2 f0 (AO.list []) = σ3 at hs3 hf3 ⊢
    k_extra "walk"
    · refine oc_f0 (deep_ok hs3 fun r σ4 g hs4 hk4 hb4 hz4 => ?_) (Nat.le_of_ble_eq_true rfl) (fun _ => rfl) rfl
      k_extra "walk"
      refine oc_f0 (hidden_ok hs4 hb4.rd hb4.at_ (List.nodup_cons.mp hb4.nd).2 (fun x hx => hs3.sk_ne (hb4.new x hx)) hb4.good hz4 fun r5 σ5 g5 hs5 h1 h2 h3 h4 h5 => ?_) (Nat.le_of_ble_eq_true rfl) (fun _ => rfl) rfl
      k_extra "walk"
      exact hR _ _ ⟨r5, g5, rfl, hs5, h1, h2, h3, h4, h5⟩
    · refine oc_f0 (drawn_ok hs3 fun r σ4 g hs4 hk4 hb4 hz4 => ?_) (Nat.le_of_ble_eq_true rfl) (fun _ => rfl) rfl
      k_extra "walk"
      refine oc_f0 (hidden_ok hs4 hb4.rd hb4.at_ (List.nodup_cons.mp hb4.nd).2 (fun x hx => hs3.sk_ne (hb4.new x hx)) hb4.good (by omega) fun r5 σ5 g5 hs5 h1 h2 h3 h4 h5 => ?_) (Nat.le_of_ble_eq_true rfl) (fun _ => rfl) rfl
      k_extra "walk"
      exact hR _ _ ⟨r5, g5, rfl, hs5, h1, h2, h3, h4, h5⟩
    · exact hR _ _ ⟨f0, .nil, rfl, hs3, hf3, trivial, List.nodup_nil, trivial, by decide⟩
  · rintro m τ ⟨r, g, rfl, hs3, hr, hb, hn, hg, hz⟩
    clear hf0 hf1 hf2 hk1 hk2 hs1 hs2 ha r20 r21
    k_extra "walk"
    refine oc_f0 (order_ok (h := true) hr hb (by omega) fun ro σ1 hk1 hro ho => ?_) (Nat.le_of_ble_eq_true rfl) (fun _ => rfl) rfl
    have hpl : (g.pre.map V.ref).length = g.size := by rw [List.length_map, G.pre_len]
    have hpl' : g.pre.length = g.size := G.pre_len g
    have hrl : (g.pre.map V.ref).reverse.length ≤ 1000 := by rw [List.length_reverse]; omega
    have hnp := G.pre_nodup hn
    k_extra "tos"
    refine ax_forl rfl xe_pass ?_ (by intro v; rfl)
    k_extra "walk"
    rename_i rl hrl'
    have hk2 : Kept τ (upd σ1 rl (AO.list (g.pre.map V.ref).reverse)) [] := Kept.new hrl' hk1
    refine ⟨(J22 a sk cl r2 r ro rl g), ?_, ?_, ?_, ?_⟩
    · refine ⟨.nil, _, rfl, hs3.kept hk2, upd_same .., by k_extra "at", hk2.get hr, hb.kept hk2, ?_, trivial⟩
      have : G.suf (g.size - 0) g = .nil := by rw [Nat.sub_zero, ← hpl']; exact G.suf_end g
      rw [this]; trivial
    · rintro i m₁ σ₁ ⟨ν, v5, rfl, _, h, _⟩; exact h
    · clear hs3 hr hb hro ho hk1 hrl' hk2
      rintro i v m₁ σ₁ g₁ hov hi hv ⟨ν, v5, rfl, hs2, hl2, ho2, hr2, hb2, hd2, hn2⟩
      have hi' : i < g.size := by rw [List.length_reverse] at hi; omega
      rw [List.getElem?_reverse (by omega), List.getElem?_map, hpl] at hv
      obtain ⟨t, ht, rfl⟩ := Option.map_eq_some_iff.mp hv
      obtain ⟨d0, kt, n, ks, r', hq, hdr⟩ := G.suf_at ht
      have hstep := G.suf_step _ _ hq
      rw [show g.size - 1 - i + 1 = g.size - i by omega] at hstep
      rw [hstep] at hd2
      obtain ⟨κ, ρ, rfl, hd3, hd4⟩ := ND.app hd2
      have hbs := G.suf_rd (g.size - 1 - i) hb2
      rw [hq] at hbs
      obtain ⟨⟨tl, e1, e2⟩, e3, e4, e5⟩ := hbs
      refine ⟨_, by k_extra "hit", ?_⟩
      have hlen : κ.vals.length = ks.vals.length := by rw [G.vals_len, G.vals_len, hd3.er]
      have hsub : ∀ x ∈ g.pre.drop (g.size - 1 - i), x ∈ g.pre := fun x hx => List.mem_of_mem_drop hx
      have hksz : ks.vals.length ≤ 1000 := by
        have h1 : ks.er.len ≤ ks.size := Mine.F.len_le ks.er
        have h2 := congrArg List.length hdr
        simp only [List.length_drop, List.length_cons, List.length_append, G.pre_len] at h2
        rw [G.vals_len]
        have h3 : ks.size = ks.er.size := rfl
        have h4 : g.size = g.er.size := rfl
        omega
      k_extra "walk"
      refine ae_compl [] ["kid"] [] rfl (comp_ok (by decide) rfl (by decide) (by rfl) (by decide +kernel) (by decide +kernel) (by decide) (by decide +kernel)) ?_ (by intro v; rfl)
      k_extra "walk"
      refine ⟨fun i ys σ' => Kept σ₁ σ' [] ∧ ys = κ.vals.take i, ⟨Kept.rfl, rfl⟩, fun i ys σ' q => q.1.get e3, fun i ys σ' q => by rw [q.2, List.length_take]; omega, ?_, ?_⟩
      · rintro C g₂ j v ys σ' hj hv ⟨q1, rfl⟩
        obtain ⟨t', n', k', b', rfl, p1, p2⟩ := hd3.val j v hv
        have p3 := q1.get p1
        refine ag_name (m' := [some (.ref t')]) (by k_extra "hit") ?_
        refine ct_nil ⟨fun _ => ?_, by nofun⟩
        k_extra "walk"
        exact ⟨q1, by rw [List.take_add_one, p2]; rfl⟩
      · rintro lk ys σ' ⟨q1, rfl⟩ hlk
        rw [← hlen, List.take_length]
        have q2 : Kept σ₁ (upd σ' lk (AO.list κ.vals)) [] := Kept.new hlk q1
        have q3 : upd σ' lk (AO.list κ.vals) lk = some (AO.list κ.vals) := upd_same ..
        have q4 : Fresh σ₁ lk := Fresh.back q1 hlk
        generalize upd σ' lk (AO.list κ.vals) = σ5 at q2 q3 ⊢
        clear q1 hlk
        k_extra "walk"
        rename_i b db hdb hb' hbd
        have q5 : Kept σ₁ (upd (upd σ5 db (AO.ns [("number", V.int n), ("kids", V.ref lk)])) b (AO.inst 102 db)) [] := Kept.put (Fresh.back q2 hb') (Kept.new hdb q2)
        have q6 : upd (upd σ5 db (AO.ns [("number", V.int n), ("kids", V.ref lk)])) b (AO.inst 102 db) b = some (AO.inst 102 db) := upd_same ..
        have q7 : upd (upd σ5 db (AO.ns [("number", V.int n), ("kids", V.ref lk)])) b (AO.inst 102 db) db = some (AO.ns [("number", V.int n), ("kids", V.ref lk)]) := by k_extra "at"
        have q8 : upd (upd σ5 db (AO.ns [("number", V.int n), ("kids", V.ref lk)])) b (AO.inst 102 db) lk = some (AO.list κ.vals) := by k_extra "at"
        generalize upd (upd σ5 db (AO.ns [("number", V.int n), ("kids", V.ref lk)])) b (AO.inst 102 db) = σ6 at q5 q6 q7 q8 ⊢
        have htl : tl.length ≤ 1 := by rcases e2 with rfl | ⟨v, rfl⟩ <;> simp
        have e1' := q5.get e1
        refine os_key (x := "node") e1' (by simp only [List.length_cons, sizeLine_eq]; omega) ?_
        rw [put_node e2]
        have ak : Kept σ6 (upd σ6 t (dk n kt [("node", V.ref b)])) [t] := Kept.at (by simp) Kept.rfl
        obtain ⟨p1, p2, p3⟩ := ND.step hnp hb2 hq hdr hn2 hd3 hd4 e1 q5 q8 q6 q7
        obtain ⟨p4, p5⟩ := (hs2.kept q5).nodict e1'
        k_extra "walk"
        exact ⟨_, _, rfl, (hs2.kept q5).keptS ak (by simpa using p4) (by simpa using p5), ak _ _ (q5.get hl2) (ld_ne (q5.get hl2) e1'), ak _ _ (q5.get ho2) (ld_ne (q5.get ho2) e1'), ak _ _ (q5.get hr2) (ld_ne (q5.get hr2) e1'), p1, by rw [show g.size - (i + 1) = g.size - 1 - i by omega]; exact p2, p3⟩
    · rintro m₁ σ₁ ⟨ν, v5, rfl, hs2, hl2, ho2, hr2, hb2, hd2, hn2⟩
      have hd : ND σ₁ g ν := by
        have : g.size - (g.pre.map V.ref).reverse.length = 0 := by rw [List.length_reverse]; omega
        rw [this] at hd2; exact hd2
      have her := hd.er
      have hvl : ν.vals.length = g.vals.length := by rw [G.vals_len, G.vals_len, her]
      have hgl : g.vals.length ≤ 1000 := by
        have h1 : g.er.len ≤ g.size := Mine.F.len_le g.er
        rw [G.vals_len]; omega
      have hrows : g.er.rows.length = g.size := Mine.F.rows_len g.er
      have hT : (T true g.er).length ≤ 10000 := by
        have h1 := T_len g.er true hg
        have h2 : g.size = g.er.size := rfl
        omega
      have hTa := T_ascii g.er true
      have hpo : (g.pre.map V.ref).length ≤ 1000 := by omega
      clear hs3 hr hb hro ho hk1 hrl' hk2 hd2 hl2 hnp hn hrl
      refine ax_meetR (M22b a sk r2 r ro v5 σ₁ ν) ?_ ?_
      · intro R hR
        refine ax_compl [] ["tree"] [] rfl (comp_ok (by decide) rfl (by decide) (by rfl) (by decide +kernel) (by decide +kernel) (by decide) (by decide +kernel)) (by with_unfolding_all rfl) ?_ (by intro v; rfl)
        k_extra "walk"
        refine ⟨fun i ys σ' => Kept σ₁ σ' [] ∧ ys = ν.vals.take i, ⟨Kept.rfl, rfl⟩, fun i ys σ' q => q.1.get hr2, fun i ys σ' q => by rw [q.2, List.length_take]; omega, ?_, ?_⟩
        · rintro C g₂ j v ys σ' hj hv ⟨q1, rfl⟩
          obtain ⟨t', n', k', b', rfl, p1, p2⟩ := hd.val j v hv
          have p3 := q1.get p1
          refine ag_name (m' := [some (.ref t')]) (by k_extra "hit") ?_
          refine ct_nil ⟨fun _ => ?_, by nofun⟩
          k_extra "walk"
          exact ⟨q1, by rw [List.take_add_one, p2]; rfl⟩
        · rintro nl ys σ' ⟨q1, rfl⟩ hnl
          rw [← hvl, List.take_length]
          k_extra "walk"
          exact hR _ _ ⟨nl, rfl, Kept.new hnl q1, upd_same ..⟩
      rintro m' σ4 ⟨nl, rfl, q2, hnl4⟩
      have hs4 := hs2.kept q2
      have ho4 := q2.get ho2
      have hr4 := q2.get hr2
      have hb4 := hb2.kept q2
      have hn4 := hn2.kept q2
      clear hs2 ho2 hr2 hb2 hn2 hd q2
      refine ax_meetR (M22c a sk r2 r ro v5 nl σ4 g) ?_ ?_
      · intro R hR
        refine ax_compl [] ["tree"] ["len"] rfl (comp_ok (by decide) rfl (by decide) (by rfl) (by decide +kernel) (by decide +kernel) (by decide) (by decide +kernel)) (by with_unfolding_all rfl) ?_ (by intro v; rfl)
        k_extra "walk"
        refine ⟨fun i ys σ' => ∃ ts, ys = ts.map V.ref ∧ Tw σ4 σ' g.er.rows i ts, ⟨[], rfl, .nil⟩, ?_, ?_, ?_, ?_⟩
        · rintro i ys σ' ⟨ts, rfl, q⟩; exact q.kept.get ho4
        · rintro i ys σ' ⟨ts, rfl, q⟩; rw [List.length_map, q.len]; exact Nat.le_refl _
        · rintro C g₂ j v ys σ' hj hv ⟨ts, rfl, q⟩
          rw [List.getElem?_map] at hv
          obtain ⟨t', ht, rfl⟩ := Option.map_eq_some_iff.mp hv
          obtain ⟨k', n', tl', xs, e1, e2, e3, e4, e5⟩ := hb4.at j t' ht
          have f1 := q.kept.get e1
          have f2 := q.kept.get e3
          refine ag_name (m' := [some (.ref t')]) (by k_extra "hit") ?_
          refine ct_nil ⟨fun _ => ?_, by nofun⟩
          k_extra "walk"
          rename_i d hd
          exact ⟨ts ++ [d], by rw [List.map_append]; rfl, q.snoc hd e4⟩
        · rintro rr ys σ' ⟨ts, rfl, q⟩ hrr
          k_extra "walk"
          exact hR _ _ ⟨rr, rfl, Kept.new hrr q.kept, ts, upd_same .., by rw [q.len, hpl, hrows], fun j t r h1 h2 => upd_get (hrr _ _ (q.at_ j t r h1 h2)) (q.at_ j t r h1 h2)⟩
      rintro m' σ5 ⟨rr, rfl, q3, hra⟩
      have hs5 := hs4.kept q3
      have hr5 := q3.get hr4
      have hb5 := hb4.kept q3
      have hn5 := hn4.kept q3
      have hnl5 := q3.get hnl4
      clear hs4 ho4 hr4 hb4 hn4 hnl4 q3
      have hTb : ∀ c ∈ T true g.er, c < 256 := fun c hc => by have := hTa c hc; omega
      refine ax_meetR (M22d a sk r2 r ro v5 nl rr σ5 g) ?_ ?_
      · intro R hR
        k_extra "walk"
        refine ae_comps [] ["sign"] ["ord"] rfl (comp_ok (by decide) rfl (by decide) (by rfl) (by decide +kernel) (by decide +kernel) (by decide) (by decide +kernel)) ?_ (by intro v; rfl)
        k_extra "walk"
        refine oc_f0 (text_ok hr5 hb5 (by omega) (good_small hg) (by omega) fun σ6 hk6 => ?_) (Nat.le_of_ble_eq_true rfl) (fun _ => rfl) rfl
        k_extra "walk"
        refine ⟨fun i ys σ' => ys.length ≤ i ∧ Kept σ6 σ' [] ∧ ys = ((T true g.er).take i).map (fun (n : Nat) => V.int n), ⟨Nat.le_refl _, Kept.rfl, rfl⟩, fun _ _ _ _ => trivial, ?_, ?_, ?_⟩
        · rintro i ys σ' ⟨q, _⟩; exact q
        · rintro C g₂ i v ys σ' hi ⟨n, hn, rfl⟩ ⟨q1, q2, q3⟩
          refine ag_name (m' := [some (.str [n])]) (by k_extra "hit") ?_
          refine ct_nil ⟨fun _ => ?_, by nofun⟩
          k_extra "walk"
          refine ⟨by simp only [List.length_append, List.length_cons, List.length_nil]; omega, q2, ?_⟩
          rw [q3, List.take_add_one, hn]; simp
        · rintro bl ys σ' ⟨_, q2, q3⟩ hbl
          rw [List.take_length] at q3
          k_extra "walk"
          refine oc_bytes (ns := T true g.er) rfl (by rw [upd_same, q3]) hTb ?_
          k_extra "walk"
          exact hR _ _ ⟨rfl, Kept.new hbl (hk6.trans q2)⟩
      rintro m' σ7 ⟨rfl, q4⟩
      have hs7 := hs5.kept q4
      have hn7 := hn5.kept q4
      have hnl7 := q4.get hnl5
      have hra7 := hra.kept q4
      clear hs5 hr5 hb5 hn5 hnl5 hra q4
      refine ax_meetR (M22e a sk r2 r ro v5 nl rr σ7 g) ?_ ?_
      · intro R hR
        k_extra "walk"
        refine oc_f0 (heard_ok (x := T true g.er) (by omega) (fun hr σ8 gh hk8 hf8 hh8 hgh hp => ?_) fun i σ' _ he => by rw [parse_back hg] at he; cases he) (Nat.le_of_ble_eq_true rfl) (fun _ => rfl) rfl
        rw [parse_back hg] at hp
        k_extra "walk"
        exact hR _ _ ⟨hr, gh, rfl, hk8, hh8, hgh, by injection hp with h; exact h.symm⟩
      rintro m' σ8 ⟨hr, gh, rfl, hk8, hh8, hgh, hge⟩
      have hs8 := hs7.kept hk8
      have hn8 := hn7.kept hk8
      have hnl8 := hk8.get hnl7
      have hra8 := hra7.kept hk8
      clear hs7 hn7 hnl7 hra7 hk8
      have hzn : ν.size ≤ 300 := by show ν.er.size ≤ 300; rw [her]; exact hz
      have hzh : gh.size ≤ 300 := by show gh.er.size ≤ 300; rw [hge]; exact hz
      refine ax_meetR (M22f a sk r2 r ro v5 nl rr hr σ8 g) ?_ ?_
      · intro R hR
        k_extra "walk"
        refine oc_f0 (show_ok hnl8 hn8 (by omega) (by rw [her]; exact hg) (by rw [her]; omega) (by rw [her]; exact hTa) fun σ9 hk9 => ?_) (Nat.le_of_ble_eq_true rfl) (fun _ => rfl) rfl
        rw [her]
        k_extra "walk"
        refine oc_f0 (rows_ok (h := true) (hk9.get hnl8) (hn8.kept hk9) (by omega) fun r1 σ10 hk10 hf10 hr10 => ?_) (Nat.le_of_ble_eq_true rfl) (fun _ => rfl) rfl
        rw [her] at hr10
        have hk10' : Kept σ8 σ10 [] := hk9.trans hk10
        have hra10 := hra8.kept hk10'
        k_extra "walk"
        refine o2_ne_rows hr10 hra10 ?_
        rw [decide_eq_true (rfl : g.er.rows = g.er.rows)]
        k_extra "walk"
        refine oc_f0 (rows_ok (h := true) (hk10'.get hh8) (hgh.kept hk10') (by omega) fun r2' σ11 hk11 hf11 hr11 => ?_) (Nat.le_of_ble_eq_true rfl) (fun _ => rfl) rfl
        rw [hge] at hr11
        have hra11 := hra10.kept hk11
        k_extra "walk"
        refine o2_ne_rows hr11 hra11 ?_
        rw [decide_eq_true (rfl : g.er.rows = g.er.rows)]
        k_extra "walk"
        exact hR _ _ ⟨rfl, hk10'.trans hk11⟩
      rintro m' σ11 ⟨rfl, hk11⟩
      have hs11 := hs8.kept hk11
      have hn11 := hn8.kept hk11
      have hnl11 := hk11.get hnl8
      have hra11 := hra8.kept hk11
      clear hs8 hn8 hnl8 hra8 hh8 hgh
      refine ax_meetR (M22g a sk r2 r ro v5 nl rr hr σ11 g) ?_ ?_
      · intro R hR
        k_extra "walk"
        refine oc_f0 (told_ok hnl11 hn11 (by omega) fun tl σ12 hk12 hf12 htl => ?_) (Nat.le_of_ble_eq_true rfl) (fun _ => rfl) rfl
        rw [her] at htl
        obtain ⟨ts, hts, htn, hat⟩ := hra11.kept hk12
        have htz : (ts.map V.ref).length ≤ 1000 := by rw [List.length_map]; omega
        k_extra "walk"
        refine ae_compl [] ["number", "count"] [] rfl (comp_ok (by decide) rfl (by decide) (by rfl) (by decide +kernel) (by decide +kernel) (by decide) (by decide +kernel)) ?_ (by intro v; rfl)
        k_extra "walk"
        refine ⟨fun i ys σ' => ys.length ≤ i ∧ Kept σ12 σ' [] ∧ ys = (((g.er.rows.take i).map (·.1)).filter (fun n => decide (0 < n))).map V.int, ⟨Nat.le_refl _, Kept.rfl, rfl⟩, ?_, ?_, ?_, ?_⟩
        · rintro i ys σ' ⟨_, q, _⟩; exact q.get hts
        · rintro i ys σ' ⟨q, _⟩; exact q
        · rintro C g₂ j v ys σ' hj hv ⟨q1, q2, q3⟩
          rw [List.getElem?_map] at hv
          obtain ⟨t, ht, rfl⟩ := Option.map_eq_some_iff.mp hv
          obtain ⟨⟨n, m⟩, hnm⟩ : ∃ x, g.er.rows[j]? = some x := ⟨_, List.getElem?_eq_getElem (by rw [List.length_map] at hj; omega)⟩
          have f1 := q2.get (hat j t _ ht hnm)
          dsimp only at f1
          have tk : (g.er.rows.take (j + 1)).map (·.1) = (g.er.rows.take j).map (·.1) ++ [n] := by
            rw [List.take_add_one, hnm]; simp
          refine ag_pair f1 ?_ (by with_unfolding_all rfl)
          refine ag_name (m' := [some (.int n), none]) (by k_extra "hit") ?_
          refine ag_name (m' := [some (.int n), some (.int m)]) (by k_extra "hit") ?_
          refine ct_one ?_
          k_extra "walk"
          all_goals (try dsimp only)
          all_goals refine ⟨by first | omega | (simp only [List.length_append, List.length_cons, List.length_nil]; omega), q2, ?_⟩
          · rw [tk, q3]; simp [‹0 < n›]
          · rw [tk, q3]; simp; omega
        · rintro ol ys σ' ⟨_, q2, q3⟩ hol
          rw [show g.er.rows.take (ts.map V.ref).length = g.er.rows by rw [List.length_map, htn, List.take_length]] at q3
          have q4 : Kept σ12 (upd σ' ol (AO.list ys)) [] := Kept.new hol q2
          have q5 : upd σ' ol (AO.list ys) ol = some (AO.list (((g.er.rows.map (·.1)).filter (fun n => decide (0 < n))).map V.int)) := by rw [upd_same, q3]
          refine o2_ne_ints (q4.get htl) q5 ?_
          rw [decide_eq_true (rfl : (g.er.rows.map (·.1)).filter (fun n => decide (0 < n)) = _)]
          generalize upd σ' ol (AO.list ys) = σ13 at q4 ⊢
          have q6 : Kept σ11 σ13 [] := hk12.trans q4
          clear q2 q3 hol q5 q4
          k_extra "walk"
          refine oc_f0 (heard_ok (x := []) (by decide) (fun h0 σ14 g0 hk14 hf14 hh14 hg14 hp => ?_) fun i σ' _ he => by rw [show parse [] = .ok .nil from parse_back (f := .nil) trivial] at he; cases he) (Nat.le_of_ble_eq_true rfl) (fun _ => rfl) rfl
          rw [show parse [] = .ok .nil from parse_back (f := .nil) trivial] at hp
          have hz0 : g0 = .nil := by
            cases g0 with
            | nil => rfl
            | cons => injection hp with h; cases h
          subst hz0
          replace hh14 : σ14 h0 = some (AO.list []) := hh14
          have q7 : Kept σ11 σ14 [] := q6.trans hk14
          clear q6 hk14 hf14 hg14 hp
          k_extra "walk"
          rename_i z hz
          refine oc_f0 (show_ok (g := .nil) (upd_same ..) trivial (by decide) trivial (by decide) (by decide) fun σ15 hk15 => ?_) (Nat.le_of_ble_eq_true rfl) (fun _ => rfl) rfl
          have q8 : Kept σ11 σ15 [] := Kept.trans (by k_extra "kept") hk15
          rw [show T true G.nil.er = [] from rfl]
          k_extra "walk"
          exact hR _ _ ⟨rfl, q8⟩
      rintro m' σ12 ⟨rfl, hk12⟩
      have hs12 := hs11.kept hk12
      clear hs11 hn11 hnl11 hra11
      k_extra "walk"
      refine oc_f0 (bent_ok hs12 (by omega) hTb fun y σ13 hy1 hy2 hs13 hk13 => ?_) (Nat.le_of_ble_eq_true rfl) (fun _ => rfl) rfl
      k_extra "walk"
      refine oc_f0 (is_right_ok (x := T true g.er) (by omega) hTb fun σ14 hk14 => ?_) (Nat.le_of_ble_eq_true rfl) (fun _ => rfl) rfl
      refine ⟨true, rfl, fun _ => ?_, nofun⟩
      k_extra "walk"
      refine oc_f0 (is_right_ok (x := y) (by omega) hy2 fun σ15 hk15 => ?_) (Nat.le_of_ble_eq_true rfl) (fun _ => rfl) rfl
      refine ⟨true, rfl, fun _ => ?_, nofun⟩
      k_extra "walk"
      refine oc_f0 (bent_ok (hs13.kept (hk14.trans hk15)) (by omega) hy2 fun y2 σ16 hy3 hy4 hs16 hk16 => ?_) (Nat.le_of_ble_eq_true rfl) (fun _ => rfl) rfl
      k_extra "walk"
      refine oc_f0 (is_right_ok (x := y2) (by omega) hy4 fun σ17 hk17 => ?_) (Nat.le_of_ble_eq_true rfl) (fun _ => rfl) rfl
      exact k σ17

theorem ints_of {R : WRecords} : ∀ {xs : List WData}, WShape.hasItems R xs .int = true → ∃ ns : List Int, xs = ns.map .int
  | [], _ => ⟨[], rfl⟩
  | d :: xs, h => by
    simp only [WShape.hasItems, Bool.and_eq_true] at h
    obtain ⟨i, rfl⟩ := hasW_int h.1
    obtain ⟨ns, rfl⟩ := ints_of h.2
    exact ⟨i :: ns, rfl⟩
theorem ers_of {P : Params} {h : Heap} : ∀ {ns : List Int} {vs : List Value}, WellAll P h vs (ns.map .int) → vs.map er = ns.map V.int
  | [], vs, x => by cases x; rfl
  | n :: ns, vs, x => by
    cases x with
    | cons x y =>
      cases x
      rw [List.map_cons, List.map_cons, ers_of y]; rfl
theorem joined {w : World} {s₁ : Shared} {a : Addr} {vs : List Value} {ns : List Int} {E : Value → Shared → Prop} {R : Value → Shared → Prop} (G : Gnd w s₁.heap) (ha : s₁.heap.get? a = some { cls := .type "list", data := .seq vs.toArray }) (hn : vs.length ≤ sizeLine) (hv : vs.map er = ns.map V.int)
    (k : ∀ v s', er v = .bool true → (∀ b o, s₁.heap.get? b = some o → s'.heap.get? b = some o) → s'.os = s₁.os → s'.gens = s₁.gens → R v s') : wpAny (model PySem.Challenge.pw_pq0932_01 w) callerA (PySem.call (.ref 271) [.ref a]) R E s₁ := by
  have H := law_ok (w := w) (σ := fun _ => none) (gr := ⟨s₁.heap, {}⟩) (Q := fun v _ => v = .bool true) (X := fun _ _ => False) ha hn hv (fun _ => rfl)
  refine wpAny_call (codeAny_mono (H s₁ callerA [] E s₁ [.ref a] G ⟨by decide, by decide⟩ (.inl rfl) rfl ⟨fun _ h => absurd h List.not_mem_nil, fun a o e => ?_⟩ ⟨fun _ _ h => (by cases h), fun _ _ e => e, fun _ _ _ => rfl, fun a o e => ?_, fun a o e => ?_, _, _, rfl⟩ rfl fun v s' z => ?_) fun r s' z => ?_)
  · cases e
  · cases e
  · cases e
  · obtain ⟨_, _, _, _, _, _, _, _, _, _, _, _, _, _, _, z⟩ := z
    exact z.elim
  · rcases r with e | (v | _ | _ | _)
    · exact z
    all_goals first
      | exact z.elim
      | (obtain ⟨σ', S, q⟩ := z
         obtain ⟨h, tk, rfl⟩ := S.same
         exact k _ _ q S.keep rfl rfl)
theorem row_holds : PySem.Challenge.rw_pq0932_01.Holds := by
  refine Mine.hd ?_
  intro w s₀ s₁ mg mb G hK a o pm cd doc dV kV ho hod hcd hdf hmg hgens args vals as hpre hlay hrd hwell hnot
  obtain ⟨h1, h2⟩ := pre_splitW hpre
  obtain ⟨d, r, rfl, h3, h4⟩ := hasAllW_cons h1
  obtain rfl := hasAllW_nil h4
  obtain ⟨xs, rfl, h5⟩ := hasW_list h3
  obtain ⟨ns, rfl⟩ := ints_of h5
  have hmg' : mg (Str.ofString "law") = some (.ref 271) := mg_of hK G.T.g (by kernel_rfl)
  have hf : (.ref a : Value) = .ref 271 := by
    have : mg (Str.ofString "law") = some (.ref a) := hmg
    rw [hmg'] at this
    exact (Option.some.inj this).symm
  rw [hf]
  cases hwell with
  | cons x y =>
    cases y
    cases x with
    | list hb hx =>
      rename_i b vs
      have hl : (WData.list (ns.map .int)).layable = true := by
        have := hlay
        simpa [WData.layableAll] using this
      have hn : vs.length ≤ sizeLine := by
        have e := ers_of hx
        have q := congrArg List.length e
        rw [List.length_map, List.length_map] at q
        have q2 := length_le_weightAllW (ns.map WData.int)
        rw [List.length_map] at q2
        have q3 := (layableW_iff.mp hl).2.2
        simp only [WData.weight] at q3
        rw [sizeLine_eq]
        omega
      refine joined ⟨hK, _, _, _, mg, mb, G.T⟩ hb hn (ers_of hx) fun v s' hv hkeep hos hg => ?_
      cases v <;> simp [er] at hv
      subst hv
      refine ⟨.inl ⟨_, .bool true, [], rfl, fun _ => rfl, .bool true, by kernel_rfl, fun _ => ⟨List.nodup_nil, nofun⟩⟩, .of_keep hkeep, hos, .of_eq (hg.trans hgens)⟩

end Mine
end
theorem PySem.Challenge.cw_pq0932_01_holds : PySem.Challenge.rw_pq0932_01.Holds := by
  exact Mine.row_holds
