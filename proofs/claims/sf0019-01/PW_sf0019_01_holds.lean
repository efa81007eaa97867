import PyProof.Rows.All
import Wide.All
import OpenK.AllK
import Wide.FinOn
import PySem.Challenge.RW_sf0019_01
open PySem PySem.W PyProof.Rows
set_option Elab.async false
namespace Mine
set_option maxRecDepth 100000
set_option maxHeartbeats 0
set_option compiler.extract_closed false
noncomputable def stAt (i : Nat) : Option Stmt := PySem.Challenge.pw_sf0019_01.main.body[i]?
noncomputable def inAt (i j : Nat) : Option Stmt := match stAt i with
  | some (.ClassDef _ _ _ b _ _ _ _ _ _ _) => b[j]?
  | _ => none
noncomputable def hd.heap_39 : Params → Frag :=
  letI p0 : Arguments := _; letI b0 : List Stmt := _; letI c0 : Scope := _; haveI : stAt 0 = some (.FunctionDef _ p0 b0 _ _ _ c0 _ _ _) := rfl
  letI p1 : Arguments := _; letI b1 : List Stmt := _; letI c1 : Scope := _; haveI : stAt 3 = some (.FunctionDef _ p1 b1 _ _ _ c1 _ _ _) := rfl
  letI p2 : Arguments := _; letI b2 : List Stmt := _; letI c2 : Scope := _; haveI : stAt 4 = some (.FunctionDef _ p2 b2 _ _ _ c2 _ _ _) := rfl
  letI p3 : Arguments := _; letI b3 : List Stmt := _; letI c3 : Scope := _; haveI : inAt 11 0 = some (.FunctionDef _ p3 b3 _ _ _ c3 _ _ _) := rfl
  letI p4 : Arguments := _; letI b4 : List Stmt := _; letI c4 : Scope := _; haveI : inAt 11 1 = some (.FunctionDef _ p4 b4 _ _ _ c4 _ _ _) := rfl
  letI p5 : Arguments := _; letI b5 : List Stmt := _; letI c5 : Scope := _; haveI : stAt 12 = some (.FunctionDef _ p5 b5 _ _ _ c5 _ _ _) := rfl
  letI p6 : Arguments := _; letI b6 : List Stmt := _; letI c6 : Scope := _; haveI : inAt 13 0 = some (.FunctionDef _ p6 b6 _ _ _ c6 _ _ _) := rfl
  letI p7 : Arguments := _; letI b7 : List Stmt := _; letI c7 : Scope := _; haveI : inAt 13 1 = some (.FunctionDef _ p7 b7 _ _ _ c7 _ _ _) := rfl
  letI p8 : Arguments := _; letI b8 : List Stmt := _; letI c8 : Scope := _; haveI : inAt 15 0 = some (.FunctionDef _ p8 b8 _ _ _ c8 _ _ _) := rfl
  letI p9 : Arguments := _; letI b9 : List Stmt := _; letI c9 : Scope := _; haveI : inAt 15 1 = some (.FunctionDef _ p9 b9 _ _ _ c9 _ _ _) := rfl
  letI p10 : Arguments := _; letI b10 : List Stmt := _; letI c10 : Scope := _; haveI : inAt 15 2 = some (.FunctionDef _ p10 b10 _ _ _ c10 _ _ _) := rfl
  letI p11 : Arguments := _; letI b11 : List Stmt := _; letI c11 : Scope := _; haveI : inAt 15 3 = some (.FunctionDef _ p11 b11 _ _ _ c11 _ _ _) := rfl
  letI p12 : Arguments := _; letI b12 : List Stmt := _; letI c12 : Scope := _; haveI : inAt 15 4 = some (.FunctionDef _ p12 b12 _ _ _ c12 _ _ _) := rfl
  letI p13 : Arguments := _; letI b13 : List Stmt := _; letI c13 : Scope := _; haveI : inAt 15 5 = some (.FunctionDef _ p13 b13 _ _ _ c13 _ _ _) := rfl
  letI p14 : Arguments := _; letI b14 : List Stmt := _; letI c14 : Scope := _; haveI : inAt 15 6 = some (.FunctionDef _ p14 b14 _ _ _ c14 _ _ _) := rfl
  letI p15 : Arguments := _; letI b15 : List Stmt := _; letI c15 : Scope := _; haveI : inAt 15 7 = some (.FunctionDef _ p15 b15 _ _ _ c15 _ _ _) := rfl
  letI p16 : Arguments := _; letI b16 : List Stmt := _; letI c16 : Scope := _; haveI : inAt 15 8 = some (.FunctionDef _ p16 b16 _ _ _ c16 _ _ _) := rfl
  letI p17 : Arguments := _; letI b17 : List Stmt := _; letI c17 : Scope := _; haveI : inAt 15 9 = some (.FunctionDef _ p17 b17 _ _ _ c17 _ _ _) := rfl
  letI p18 : Arguments := _; letI b18 : List Stmt := _; letI c18 : Scope := _; haveI : inAt 15 10 = some (.FunctionDef _ p18 b18 _ _ _ c18 _ _ _) := rfl
  letI p19 : Arguments := _; letI b19 : List Stmt := _; letI c19 : Scope := _; haveI : inAt 15 11 = some (.FunctionDef _ p19 b19 _ _ _ c19 _ _ _) := rfl
  letI p20 : Arguments := _; letI b20 : List Stmt := _; letI c20 : Scope := _; haveI : inAt 15 12 = some (.FunctionDef _ p20 b20 _ _ _ c20 _ _ _) := rfl
  letI p21 : Arguments := _; letI b21 : List Stmt := _; letI c21 : Scope := _; haveI : inAt 15 13 = some (.FunctionDef _ p21 b21 _ _ _ c21 _ _ _) := rfl
  letI p22 : Arguments := _; letI b22 : List Stmt := _; letI c22 : Scope := _; haveI : inAt 15 14 = some (.FunctionDef _ p22 b22 _ _ _ c22 _ _ _) := rfl
  letI p23 : Arguments := _; letI b23 : List Stmt := _; letI c23 : Scope := _; haveI : inAt 15 15 = some (.FunctionDef _ p23 b23 _ _ _ c23 _ _ _) := rfl
  letI p24 : Arguments := _; letI b24 : List Stmt := _; letI c24 : Scope := _; haveI : stAt 16 = some (.FunctionDef _ p24 b24 _ _ _ c24 _ _ _) := rfl
  letI p25 : Arguments := _; letI b25 : List Stmt := _; letI c25 : Scope := _; haveI : stAt 17 = some (.FunctionDef _ p25 b25 _ _ _ c25 _ _ _) := rfl
  letI p26 : Arguments := _; letI b26 : List Stmt := _; letI c26 : Scope := _; haveI : stAt 18 = some (.FunctionDef _ p26 b26 _ _ _ c26 _ _ _) := rfl
  letI p27 : Arguments := _; letI b27 : List Stmt := _; letI c27 : Scope := _; haveI : stAt 22 = some (.FunctionDef _ p27 b27 _ _ _ c27 _ _ _) := rfl
  letI p28 : Arguments := _; letI b28 : List Stmt := _; letI c28 : Scope := _; haveI : inAt 23 0 = some (.FunctionDef _ p28 b28 _ _ _ c28 _ _ _) := rfl
  letI p29 : Arguments := _; letI b29 : List Stmt := _; letI c29 : Scope := _; haveI : inAt 23 1 = some (.FunctionDef _ p29 b29 _ _ _ c29 _ _ _) := rfl
  letI p30 : Arguments := _; letI b30 : List Stmt := _; letI c30 : Scope := _; haveI : inAt 23 2 = some (.FunctionDef _ p30 b30 _ _ _ c30 _ _ _) := rfl
  letI p31 : Arguments := _; letI b31 : List Stmt := _; letI c31 : Scope := _; haveI : inAt 24 0 = some (.FunctionDef _ p31 b31 _ _ _ c31 _ _ _) := rfl
  letI p32 : Arguments := _; letI b32 : List Stmt := _; letI c32 : Scope := _; haveI : inAt 24 1 = some (.FunctionDef _ p32 b32 _ _ _ c32 _ _ _) := rfl
  letI p33 : Arguments := _; letI b33 : List Stmt := _; letI c33 : Scope := _; haveI : inAt 24 2 = some (.FunctionDef _ p33 b33 _ _ _ c33 _ _ _) := rfl
  letI p34 : Arguments := _; letI b34 : List Stmt := _; letI c34 : Scope := _; haveI : inAt 24 3 = some (.FunctionDef _ p34 b34 _ _ _ c34 _ _ _) := rfl
  letI p35 : Arguments := _; letI b35 : List Stmt := _; letI c35 : Scope := _; haveI : inAt 24 4 = some (.FunctionDef _ p35 b35 _ _ _ c35 _ _ _) := rfl
  letI p36 : Arguments := _; letI b36 : List Stmt := _; letI c36 : Scope := _; haveI : inAt 24 5 = some (.FunctionDef _ p36 b36 _ _ _ c36 _ _ _) := rfl
  letI p37 : Arguments := _; letI b37 : List Stmt := _; letI c37 : Scope := _; haveI : inAt 24 6 = some (.FunctionDef _ p37 b37 _ _ _ c37 _ _ _) := rfl
  letI p38 : Arguments := _; letI b38 : List Stmt := _; letI c38 : Scope := _; haveI : inAt 24 7 = some (.FunctionDef _ p38 b38 _ _ _ c38 _ _ _) := rfl
  letI p39 : Arguments := _; letI b39 : List Stmt := _; letI c39 : Scope := _; haveI : inAt 24 8 = some (.FunctionDef _ p39 b39 _ _ _ c39 _ _ _) := rfl
  letI p40 : Arguments := _; letI b40 : List Stmt := _; letI c40 : Scope := _; haveI : inAt 24 9 = some (.FunctionDef _ p40 b40 _ _ _ c40 _ _ _) := rfl
  letI p41 : Arguments := _; letI b41 : List Stmt := _; letI c41 : Scope := _; haveI : inAt 24 10 = some (.FunctionDef _ p41 b41 _ _ _ c41 _ _ _) := rfl
  letI p42 : Arguments := _; letI b42 : List Stmt := _; letI c42 : Scope := _; haveI : inAt 24 11 = some (.FunctionDef _ p42 b42 _ _ _ c42 _ _ _) := rfl
  letI p43 : Arguments := _; letI b43 : List Stmt := _; letI c43 : Scope := _; haveI : inAt 24 12 = some (.FunctionDef _ p43 b43 _ _ _ c43 _ _ _) := rfl
  letI p44 : Arguments := _; letI b44 : List Stmt := _; letI c44 : Scope := _; haveI : inAt 24 13 = some (.FunctionDef _ p44 b44 _ _ _ c44 _ _ _) := rfl
  letI p45 : Arguments := _; letI b45 : List Stmt := _; letI c45 : Scope := _; haveI : stAt 26 = some (.FunctionDef _ p45 b45 _ _ _ c45 _ _ _) := rfl
  letI p46 : Arguments := _; letI b46 : List Stmt := _; letI c46 : Scope := _; haveI : stAt 27 = some (.FunctionDef _ p46 b46 _ _ _ c46 _ _ _) := rfl
  letI p47 : Arguments := _; letI b47 : List Stmt := _; letI c47 : Scope := _; haveI : stAt 28 = some (.FunctionDef _ p47 b47 _ _ _ c47 _ _ _) := rfl
  letI p48 : Arguments := _; letI b48 : List Stmt := _; letI c48 : Scope := _; haveI : stAt 29 = some (.FunctionDef _ p48 b48 _ _ _ c48 _ _ _) := rfl
  letI p49 : Arguments := _; letI b49 : List Stmt := _; letI c49 : Scope := _; haveI : stAt 30 = some (.FunctionDef _ p49 b49 _ _ _ c49 _ _ _) := rfl
  letI p50 : Arguments := _; letI b50 : List Stmt := _; letI c50 : Scope := _; haveI : stAt 31 = some (.FunctionDef _ p50 b50 _ _ _ c50 _ _ _) := rfl
  fun P => (nat_lit 2,⟨.none,none,(.dict #[⟨(PySem.PyData.keyHash P (.ofString "type.__subclasses__.Exception.0")),(.str (.ofString "type.__subclasses__.Exception.0") 339),(.int 96 0)⟩,⟨(PySem.PyData.keyHash P (.ofString "type.__subclasses__.Exception.n")),(.str (.ofString "type.__subclasses__.Exception.n") 340),(.int 1 0)⟩] 2),#[]⟩) ::
  (nat_lit 3,⟨(.type "dict"),none,(.dict (List.toArray (⟨(PySem.PyData.keyHash P (.ofString "__name__")),(.str (.ofString "__name__") 165),(.str (.ofString "law_sf0019_01") 742)⟩ :: ⟨(PySem.PyData.keyHash P (.ofString "__doc__")),(.str (.ofString "__doc__") 166),.none⟩ :: ⟨(PySem.PyData.keyHash P (.ofString "__package__")),(.str (.ofString "__package__") 167),.none⟩ :: ⟨(PySem.PyData.keyHash P (.ofString "__loader__")),(.str (.ofString "__loader__") 168),(.builtin "__main__.__loader__#opaque")⟩ :: ⟨(PySem.PyData.keyHash P (.ofString "__spec__")),(.str (.ofString "__spec__") 169),.none⟩ :: ⟨(PySem.PyData.keyHash P (.ofString "__annotations__")),(.str (.ofString "__annotations__") 170),(.ref 6)⟩ :: ⟨(PySem.PyData.keyHash P (.ofString "__builtins__")),(.str (.ofString "__builtins__") 171),(.ref 4)⟩ :: ⟨(PySem.PyData.keyHash P (.ofString "__file__")),(.str (.ofString "__file__") 173),(.str (.ofString "/claim/cut.py") 172)⟩ :: ⟨(PySem.PyData.keyHash P (.ofString "__cached__")),(.str (.ofString "__cached__") 174),.none⟩ :: ⟨(PySem.PyData.keyHash P (.ofString "_wall")),(.str (.ofString "_wall") 193),(.ref 21)⟩ :: ⟨(PySem.PyData.keyHash P (.ofString "PART")),(.str (.ofString "PART") 197),(.int 500 196)⟩ :: ⟨(PySem.PyData.keyHash P (.ofString "mask_item")),(.str (.ofString "mask_item") 206),(.ref 28)⟩ :: ⟨(PySem.PyData.keyHash P (.ofString "read_masks")),(.str (.ofString "read_masks") 219),(.ref 35)⟩ :: ⟨(PySem.PyData.keyHash P (.ofString "FIGURES")),(.str (.ofString "FIGURES") 223),(.str (.ofString "0123456789") 222)⟩ :: ⟨(PySem.PyData.keyHash P (.ofString "HEX_SIGNS")),(.str (.ofString "HEX_SIGNS") 226),(.str (.ofString "0123456789abcdefABCDEF") 225)⟩ :: ⟨(PySem.PyData.keyHash P (.ofString "OCTAL_SIGNS")),(.str (.ofString "OCTAL_SIGNS") 228),(.str (.ofString "01234567") 227)⟩ :: ⟨(PySem.PyData.keyHash P (.ofString "MOST_FIGURES_source")),(.str (.ofString "MOST_FIGURES_source") 230),(.int 4000 229)⟩ :: ⟨(PySem.PyData.keyHash P (.ofString "PLAIN_ESCAPES")),(.str (.ofString "PLAIN_ESCAPES") 252),(.ref 36)⟩ :: ⟨(PySem.PyData.keyHash P (.ofString "Position")),(.str (.ofString "Position") 292),(.ref 60)⟩ :: ⟨(PySem.PyData.keyHash P (.ofString "position_of")),(.str (.ofString "position_of") 304),(.ref 71)⟩ :: ⟨(PySem.PyData.keyHash P (.ofString "ToolError")),(.str (.ofString "ToolError") 342),(.ref 96)⟩ :: ⟨(PySem.PyData.keyHash P (.ofString "TableError")),(.str (.ofString "TableError") 358),(.ref 109)⟩ :: ⟨(PySem.PyData.keyHash P (.ofString "Cursor")),(.str (.ofString "Cursor") 517),(.ref 236)⟩ :: ⟨(PySem.PyData.keyHash P (.ofString "hex_escape")),(.str (.ofString "hex_escape") 525),(.ref 247)⟩ :: ⟨(PySem.PyData.keyHash P (.ofString "escaped_sign")),(.str (.ofString "escaped_sign") 534),(.ref 254)⟩ :: ⟨(PySem.PyData.keyHash P (.ofString "escaped")),(.str (.ofString "escaped") 540),(.ref 259)⟩ :: ⟨(PySem.PyData.keyHash P (.ofString "MOST_DEPTH")),(.str (.ofString "MOST_DEPTH") 544),(.int 2 543)⟩ :: ⟨(PySem.PyData.keyHash P (.ofString "MOST_FIGURES_lines")),(.str (.ofString "MOST_FIGURES_lines") 546),(.int 160 545)⟩ :: ⟨(PySem.PyData.keyHash P (.ofString "show_item")),(.str (.ofString "show_item") 552),(.ref 264)⟩ :: ⟨(PySem.PyData.keyHash P (.ofString "LineWriter")),(.str (.ofString "LineWriter") 594),(.ref 293)⟩ :: ⟨(PySem.PyData.keyHash P (.ofString "LineReader")),(.str (.ofString "LineReader") 741),(.ref 407)⟩ :: ⟨(PySem.PyData.keyHash P (.ofString "_law_jug")),(.str (.ofString "_law_jug") 749),(.ref 416)⟩ :: ⟨(PySem.PyData.keyHash P (.ofString "_law_sip")),(.str (.ofString "_law_sip") 760),(.ref 423)⟩ :: ⟨(PySem.PyData.keyHash P (.ofString "_law_parts")),(.str (.ofString "_law_parts") 766),(.ref 428)⟩ :: ⟨(PySem.PyData.keyHash P (.ofString "_law_line")),(.str (.ofString "_law_line") 773),(.ref 435)⟩ :: ⟨(PySem.PyData.keyHash P (.ofString "_law_read")),(.str (.ofString "_law_read") 783),(.ref 442)⟩ :: ⟨(PySem.PyData.keyHash P (.ofString "law")),(.str (.ofString "law") 789),(.ref 447)⟩ :: [])) 37),#[]⟩) ::
  (nat_lit 15,⟨(.type "tuple"),none,(.seq #[] 0),#[]⟩) ::
  (nat_lit 17,⟨(.type "tuple"),none,(.seq #[(.str (.ofString "k") 190)] 0),#[]⟩) ::
  (nat_lit 18,⟨(.type "tuple"),none,(.seq #[] 0),#[]⟩) ::
  (nat_lit 20,⟨(.type "code"),none,(.fields #[(.str (.ofString "_wall") 187),(.str (.ofString "_wall") 188),(.str (.ofString "/claim/cut.py") 189),(.int 1 0),(.int 1 0),(.int 0 0),(.int 0 0),(.int 3 0),(.ref 15),(.bool true),(.int 181 0),(.ref 16),.none,(.ref 17),(.ref 18),(.ref 19),(.int 191 0),(.int 1 0),(.str (.ofString "/claim/cut.py") 192)]),#[]⟩) ::
  (nat_lit 21,⟨(.type "function"),none,(.func ⟨(.ofString "_wall"),(.ofString "_wall"),p0,(.stmts b0),c0,3,[],.none,.none,.none,(.str (.ofString "__main__") 164),none,(.ref 20),.none,0⟩),#[]⟩) ::
  (nat_lit 22,⟨(.type "tuple"),none,(.seq #[] 0),#[]⟩) ::
  (nat_lit 24,⟨(.type "tuple"),none,(.seq #[(.str (.ofString "mask") 201),(.str (.ofString "parts") 202),(.str (.ofString "left") 203)] 0),#[]⟩) ::
  (nat_lit 25,⟨(.type "tuple"),none,(.seq #[] 0),#[]⟩) ::
  (nat_lit 27,⟨(.type "code"),none,(.fields #[(.str (.ofString "mask_item") 198),(.str (.ofString "mask_item") 199),(.str (.ofString "/claim/cut.py") 200),(.int 6 0),(.int 1 0),(.int 0 0),(.int 0 0),(.int 3 0),(.ref 22),(.bool true),(.int 181 0),(.ref 23),.none,(.ref 24),(.ref 25),(.ref 26),(.int 204 0),(.int 6 0),(.str (.ofString "/claim/cut.py") 205)]),#[]⟩) ::
  (nat_lit 28,⟨(.type "function"),none,(.func ⟨(.ofString "mask_item"),(.ofString "mask_item"),p1,(.stmts b1),c1,3,[],.none,.none,.none,(.str (.ofString "grammarmill.texts") 194),none,(.ref 27),.none,0⟩),#[]⟩) ::
  (nat_lit 29,⟨(.type "tuple"),none,(.seq #[] 0),#[]⟩) ::
  (nat_lit 31,⟨(.type "tuple"),none,(.seq #[(.str (.ofString "reader") 210),(.str (.ofString "many") 211),(.str (.ofString "found") 212),(.str (.ofString "item") 213),(.str (.ofString "mask") 214),(.str (.ofString "parts") 215),(.str (.ofString "at") 216)] 0),#[]⟩) ::
  (nat_lit 32,⟨(.type "tuple"),none,(.seq #[] 0),#[]⟩) ::
  (nat_lit 34,⟨(.type "code"),none,(.fields #[(.str (.ofString "read_masks") 207),(.str (.ofString "read_masks") 208),(.str (.ofString "/claim/cut.py") 209),(.int 13 0),(.int 2 0),(.int 0 0),(.int 0 0),(.int 3 0),(.ref 29),(.bool true),(.int 181 0),(.ref 30),.none,(.ref 31),(.ref 32),(.ref 33),(.int 217 0),(.int 13 0),(.str (.ofString "/claim/cut.py") 218)]),#[]⟩) ::
  (nat_lit 35,⟨(.type "function"),none,(.func ⟨(.ofString "read_masks"),(.ofString "read_masks"),p2,(.stmts b2),c2,3,[],.none,.none,.none,(.str (.ofString "grammarmill.texts") 194),none,(.ref 34),.none,0⟩),#[]⟩) ::
  (nat_lit 36,⟨(.type "dict"),none,(.dict #[⟨(PySem.PyData.keyHash P (.ofString "n")),(.str (.ofString "n") 231),(.int 10 232)⟩,⟨(PySem.PyData.keyHash P (.ofString "t")),(.str (.ofString "t") 233),(.int 9 234)⟩,⟨(PySem.PyData.keyHash P (.ofString "r")),(.str (.ofString "r") 235),(.int 13 236)⟩,⟨(PySem.PyData.keyHash P (.ofString "f")),(.str (.ofString "f") 237),(.int 12 238)⟩,⟨(PySem.PyData.keyHash P (.ofString "v")),(.str (.ofString "v") 239),(.int 11 240)⟩,⟨(PySem.PyData.keyHash P (.ofString "a")),(.str (.ofString "a") 241),(.int 7 242)⟩,⟨(PySem.PyData.keyHash P (.ofString "b")),(.str (.ofString "b") 243),(.int 8 244)⟩] 7),#[]⟩) ::
  (nat_lit 44,⟨(.type "tuple"),none,(.seq #[] 0),#[]⟩) ::
  (nat_lit 46,⟨(.type "tuple"),none,(.seq #[(.str (.ofString "self") 268),(.str (.ofString "offset") 269),(.str (.ofString "line") 270),(.str (.ofString "column") 271)] 0),#[]⟩) ::
  (nat_lit 47,⟨(.type "tuple"),none,(.seq #[] 0),#[]⟩) ::
  (nat_lit 49,⟨(.type "code"),none,(.fields #[(.str (.ofString "__init__") 265),(.str (.ofString "Position.__init__") 266),(.str (.ofString "/claim/cut.py") 267),(.int 36 0),(.int 4 0),(.int 0 0),(.int 0 0),(.int 3 0),(.ref 44),(.bool true),(.int 181 0),(.ref 45),.none,(.ref 46),(.ref 47),(.ref 48),(.int 272 0),(.int 36 0),(.str (.ofString "/claim/cut.py") 273)]),#[]⟩) ::
  (nat_lit 50,⟨(.type "function"),none,(.func ⟨(.ofString "__init__"),(.ofString "Position.__init__"),p3,(.stmts b3),c3,3,[],.none,.none,.none,(.str (.ofString "grammarmill.source") 220),none,(.ref 49),.none,0⟩),#[]⟩) ::
  (nat_lit 51,⟨(.type "tuple"),none,(.seq #[] 0),#[]⟩) ::
  (nat_lit 53,⟨(.type "tuple"),none,(.seq #[(.str (.ofString "self") 278)] 0),#[]⟩) ::
  (nat_lit 54,⟨(.type "tuple"),none,(.seq #[] 0),#[]⟩) ::
  (nat_lit 56,⟨(.type "code"),none,(.fields #[(.str (.ofString "told") 275),(.str (.ofString "Position.told") 276),(.str (.ofString "/claim/cut.py") 277),(.int 41 0),(.int 1 0),(.int 0 0),(.int 0 0),(.int 3 0),(.ref 51),(.bool true),(.int 181 0),(.ref 52),.none,(.ref 53),(.ref 54),(.ref 55),(.int 279 0),(.int 41 0),(.str (.ofString "/claim/cut.py") 280)]),#[]⟩) ::
  (nat_lit 57,⟨(.type "function"),none,(.func ⟨(.ofString "told"),(.ofString "Position.told"),p4,(.stmts b4),c4,3,[],.none,.none,.none,(.str (.ofString "grammarmill.source") 220),none,(.ref 56),.none,0⟩),#[]⟩) ::
  (nat_lit 58,⟨(.type "tuple"),none,(.seq #[(.str (.ofString "column") 282),(.str (.ofString "line") 283),(.str (.ofString "offset") 284)] 0),#[]⟩) ::
  (nat_lit 59,⟨(.type "dict"),none,(.dict #[⟨(PySem.PyData.keyHash P (.ofString "__module__")),(.str (.ofString "__module__") 260),(.str (.ofString "grammarmill.source") 220)⟩,⟨(PySem.PyData.keyHash P (.ofString "__firstlineno__")),(.str (.ofString "__firstlineno__") 264),(.int 34 263)⟩,⟨(PySem.PyData.keyHash P (.ofString "__init__")),(.str (.ofString "__init__") 274),(.ref 50)⟩,⟨(PySem.PyData.keyHash P (.ofString "told")),(.str (.ofString "told") 281),(.ref 57)⟩,⟨(PySem.PyData.keyHash P (.ofString "__static_attributes__")),(.str (.ofString "__static_attributes__") 285),(.ref 58)⟩,⟨(PySem.PyData.keyHash P (.ofString "__dict__")),(.str (.ofString "__dict__") 287),(.ref 61)⟩,⟨(PySem.PyData.keyHash P (.ofString "__weakref__")),(.str (.ofString "__weakref__") 289),(.ref 62)⟩,⟨(PySem.PyData.keyHash P (.ofString "__doc__")),(.str (.ofString "__doc__") 290),.none⟩] 4),#[]⟩) ::
  (nat_lit 60,⟨(.type "type"),none,(.cls ⟨(.ofString "Position"),[(.type "object")],[(.ref 60),(.type "object")],59,(.ofString "Position"),true,[],[],false,none,false⟩),#[none,none,(some (.str (.ofString "Position") 253)),(some (.str (.ofString "Position") 261)),(some (.builtin "object.__new__")),(some (.bool true))]⟩) ::
  (nat_lit 61,⟨(.type "getset_descriptor"),none,(.fields #[(.str (.ofString "__dict__") 286),(.ref 60),(.builtin "function.__dict__"),(.builtin "function.__dict__#set")]),#[]⟩) ::
  (nat_lit 62,⟨(.type "getset_descriptor"),none,(.fields #[(.str (.ofString "__weakref__") 288),(.ref 60),(.builtin "ExceptionGroup.__weakref__"),.none]),#[]⟩) ::
  (nat_lit 65,⟨(.type "tuple"),none,(.seq #[] 0),#[]⟩) ::
  (nat_lit 67,⟨(.type "tuple"),none,(.seq #[(.str (.ofString "text") 296),(.str (.ofString "offset") 297),(.str (.ofString "at") 298),(.str (.ofString "line") 299),(.str (.ofString "begun") 300),(.str (.ofString "here") 301)] 0),#[]⟩) ::
  (nat_lit 68,⟨(.type "tuple"),none,(.seq #[] 0),#[]⟩) ::
  (nat_lit 70,⟨(.type "code"),none,(.fields #[(.str (.ofString "position_of") 293),(.str (.ofString "position_of") 294),(.str (.ofString "/claim/cut.py") 295),(.int 43 0),(.int 2 0),(.int 0 0),(.int 0 0),(.int 3 0),(.ref 65),(.bool true),(.int 181 0),(.ref 66),.none,(.ref 67),(.ref 68),(.ref 69),(.int 302 0),(.int 43 0),(.str (.ofString "/claim/cut.py") 303)]),#[]⟩) ::
  (nat_lit 71,⟨(.type "function"),none,(.func ⟨(.ofString "position_of"),(.ofString "position_of"),p5,(.stmts b5),c5,3,[],.none,.none,.none,(.str (.ofString "grammarmill.source") 220),none,(.ref 70),.none,0⟩),#[]⟩) ::
  (nat_lit 72,⟨(.type "tuple"),none,(.seq #[(.type "Exception")] 0),#[]⟩) ::
  (nat_lit 79,⟨(.type "tuple"),none,(.seq #[.none] 0),#[]⟩) ::
  (nat_lit 80,⟨(.type "tuple"),none,(.seq #[] 0),#[]⟩) ::
  (nat_lit 82,⟨(.type "tuple"),none,(.seq #[(.str (.ofString "self") 320),(.str (.ofString "what") 321),(.str (.ofString "at") 322)] 0),#[]⟩) ::
  (nat_lit 83,⟨(.type "tuple"),none,(.seq #[] 0),#[]⟩) ::
  (nat_lit 85,⟨(.type "code"),none,(.fields #[(.str (.ofString "__init__") 317),(.str (.ofString "ToolError.__init__") 318),(.str (.ofString "/claim/cut.py") 319),(.int 54 0),(.int 3 0),(.int 0 0),(.int 0 0),(.int 3 0),(.ref 80),(.bool true),(.int 181 0),(.ref 81),.none,(.ref 82),(.ref 83),(.ref 84),(.int 323 0),(.int 54 0),(.str (.ofString "/claim/cut.py") 324)]),#[]⟩) ::
  (nat_lit 86,⟨(.type "function"),none,(.func ⟨(.ofString "__init__"),(.ofString "ToolError.__init__"),p6,(.stmts b6),c6,3,[],(.ref 79),.none,.none,(.str (.ofString "grammarmill.source") 220),none,(.ref 85),.none,0⟩),#[]⟩) ::
  (nat_lit 87,⟨(.type "tuple"),none,(.seq #[] 0),#[]⟩) ::
  (nat_lit 89,⟨(.type "tuple"),none,(.seq #[(.str (.ofString "self") 329)] 0),#[]⟩) ::
  (nat_lit 90,⟨(.type "tuple"),none,(.seq #[] 0),#[]⟩) ::
  (nat_lit 92,⟨(.type "code"),none,(.fields #[(.str (.ofString "told") 326),(.str (.ofString "ToolError.told") 327),(.str (.ofString "/claim/cut.py") 328),(.int 59 0),(.int 1 0),(.int 0 0),(.int 0 0),(.int 3 0),(.ref 87),(.bool true),(.int 181 0),(.ref 88),.none,(.ref 89),(.ref 90),(.ref 91),(.int 330 0),(.int 59 0),(.str (.ofString "/claim/cut.py") 331)]),#[]⟩) ::
  (nat_lit 93,⟨(.type "function"),none,(.func ⟨(.ofString "told"),(.ofString "ToolError.told"),p7,(.stmts b7),c4,3,[],.none,.none,.none,(.str (.ofString "grammarmill.source") 220),none,(.ref 92),.none,0⟩),#[]⟩) ::
  (nat_lit 94,⟨(.type "tuple"),none,(.seq #[(.str (.ofString "at") 333),(.str (.ofString "what") 334)] 0),#[]⟩) ::
  (nat_lit 95,⟨(.type "dict"),none,(.dict #[⟨(PySem.PyData.keyHash P (.ofString "__module__")),(.str (.ofString "__module__") 312),(.str (.ofString "grammarmill.source") 220)⟩,⟨(PySem.PyData.keyHash P (.ofString "__firstlineno__")),(.str (.ofString "__firstlineno__") 316),(.int 52 315)⟩,⟨(PySem.PyData.keyHash P (.ofString "__init__")),(.str (.ofString "__init__") 325),(.ref 86)⟩,⟨(PySem.PyData.keyHash P (.ofString "told")),(.str (.ofString "told") 332),(.ref 93)⟩,⟨(PySem.PyData.keyHash P (.ofString "__static_attributes__")),(.str (.ofString "__static_attributes__") 335),(.ref 94)⟩,⟨(PySem.PyData.keyHash P (.ofString "__weakref__")),(.str (.ofString "__weakref__") 337),(.ref 97)⟩,⟨(PySem.PyData.keyHash P (.ofString "__doc__")),(.str (.ofString "__doc__") 338),.none⟩] 3),#[]⟩) ::
  (nat_lit 96,⟨(.type "type"),none,(.cls ⟨(.ofString "ToolError"),[(.type "Exception")],[(.ref 96),(.type "Exception"),(.type "BaseException"),(.type "object")],95,(.ofString "ToolError"),true,[],[(.ref 109)],false,none,false⟩),#[(some (.ref 72)),none,(some (.str (.ofString "ToolError") 305)),(some (.str (.ofString "ToolError") 313)),(some (.builtin "Exception.__new__")),(some (.bool true))]⟩) ::
  (nat_lit 97,⟨(.type "getset_descriptor"),none,(.fields #[(.str (.ofString "__weakref__") 336),(.ref 96),(.builtin "ExceptionGroup.__weakref__"),.none]),#[]⟩) ::
  (nat_lit 100,⟨(.type "tuple"),none,(.seq #[(.ref 96)] 0),#[]⟩) ::
  (nat_lit 107,⟨(.type "tuple"),none,(.seq #[] 0),#[]⟩) ::
  (nat_lit 108,⟨(.type "dict"),none,(.dict #[⟨(PySem.PyData.keyHash P (.ofString "__module__")),(.str (.ofString "__module__") 350),(.str (.ofString "grammarmill.source") 220)⟩,⟨(PySem.PyData.keyHash P (.ofString "__firstlineno__")),(.str (.ofString "__firstlineno__") 354),(.int 63 353)⟩,⟨(PySem.PyData.keyHash P (.ofString "__static_attributes__")),(.str (.ofString "__static_attributes__") 355),(.ref 107)⟩,⟨(PySem.PyData.keyHash P (.ofString "__doc__")),(.str (.ofString "__doc__") 356),.none⟩] 2),#[]⟩) ::
  (nat_lit 109,⟨(.type "type"),none,(.cls ⟨(.ofString "TableError"),[(.ref 96)],[(.ref 109),(.ref 96),(.type "Exception"),(.type "BaseException"),(.type "object")],108,(.ofString "TableError"),true,[],[],false,none,false⟩),#[(some (.ref 100)),none,(some (.str (.ofString "TableError") 343)),(some (.str (.ofString "TableError") 351)),(some (.builtin "Exception.__new__")),(some (.bool true))]⟩) ::
  (nat_lit 119,⟨(.type "tuple"),none,(.seq #[(.int 0 371)] 0),#[]⟩) ::
  (nat_lit 120,⟨(.type "tuple"),none,(.seq #[] 0),#[]⟩) ::
  (nat_lit 122,⟨(.type "tuple"),none,(.seq #[(.str (.ofString "self") 375),(.str (.ofString "text") 376),(.str (.ofString "at") 377)] 0),#[]⟩) ::
  (nat_lit 123,⟨(.type "tuple"),none,(.seq #[] 0),#[]⟩) ::
  (nat_lit 125,⟨(.type "code"),none,(.fields #[(.str (.ofString "__init__") 372),(.str (.ofString "Cursor.__init__") 373),(.str (.ofString "/claim/cut.py") 374),(.int 67 0),(.int 3 0),(.int 0 0),(.int 0 0),(.int 3 0),(.ref 120),(.bool true),(.int 181 0),(.ref 121),.none,(.ref 122),(.ref 123),(.ref 124),(.int 378 0),(.int 67 0),(.str (.ofString "/claim/cut.py") 379)]),#[]⟩) ::
  (nat_lit 126,⟨(.type "function"),none,(.func ⟨(.ofString "__init__"),(.ofString "Cursor.__init__"),p8,(.stmts b8),c8,3,[],(.ref 119),.none,.none,(.str (.ofString "grammarmill.source") 220),none,(.ref 125),.none,0⟩),#[]⟩) ::
  (nat_lit 127,⟨(.type "tuple"),none,(.seq #[] 0),#[]⟩) ::
  (nat_lit 129,⟨(.type "tuple"),none,(.seq #[(.str (.ofString "self") 384)] 0),#[]⟩) ::
  (nat_lit 130,⟨(.type "tuple"),none,(.seq #[] 0),#[]⟩) ::
  (nat_lit 132,⟨(.type "code"),none,(.fields #[(.str (.ofString "is_done") 381),(.str (.ofString "Cursor.is_done") 382),(.str (.ofString "/claim/cut.py") 383),(.int 71 0),(.int 1 0),(.int 0 0),(.int 0 0),(.int 3 0),(.ref 127),(.bool true),(.int 181 0),(.ref 128),.none,(.ref 129),(.ref 130),(.ref 131),(.int 385 0),(.int 71 0),(.str (.ofString "/claim/cut.py") 386)]),#[]⟩) ::
  (nat_lit 133,⟨(.type "function"),none,(.func ⟨(.ofString "is_done"),(.ofString "Cursor.is_done"),p9,(.stmts b9),c9,3,[],.none,.none,.none,(.str (.ofString "grammarmill.source") 220),none,(.ref 132),.none,0⟩),#[]⟩) ::
  (nat_lit 134,⟨(.type "tuple"),none,(.seq #[(.int 0 388)] 0),#[]⟩) ::
  (nat_lit 135,⟨(.type "tuple"),none,(.seq #[] 0),#[]⟩) ::
  (nat_lit 137,⟨(.type "tuple"),none,(.seq #[(.str (.ofString "self") 392),(.str (.ofString "ahead") 393),(.str (.ofString "at") 394)] 0),#[]⟩) ::
  (nat_lit 138,⟨(.type "tuple"),none,(.seq #[] 0),#[]⟩) ::
  (nat_lit 140,⟨(.type "code"),none,(.fields #[(.str (.ofString "peek") 389),(.str (.ofString "Cursor.peek") 390),(.str (.ofString "/claim/cut.py") 391),(.int 74 0),(.int 2 0),(.int 0 0),(.int 0 0),(.int 3 0),(.ref 135),(.bool true),(.int 181 0),(.ref 136),.none,(.ref 137),(.ref 138),(.ref 139),(.int 395 0),(.int 74 0),(.str (.ofString "/claim/cut.py") 396)]),#[]⟩) ::
  (nat_lit 141,⟨(.type "function"),none,(.func ⟨(.ofString "peek"),(.ofString "Cursor.peek"),p10,(.stmts b10),c10,3,[],(.ref 134),.none,.none,(.str (.ofString "grammarmill.source") 220),none,(.ref 140),.none,0⟩),#[]⟩) ::
  (nat_lit 142,⟨(.type "tuple"),none,(.seq #[] 0),#[]⟩) ::
  (nat_lit 144,⟨(.type "tuple"),none,(.seq #[(.str (.ofString "self") 401),(.str (.ofString "word") 402)] 0),#[]⟩) ::
  (nat_lit 145,⟨(.type "tuple"),none,(.seq #[] 0),#[]⟩) ::
  (nat_lit 147,⟨(.type "code"),none,(.fields #[(.str (.ofString "starts") 398),(.str (.ofString "Cursor.starts") 399),(.str (.ofString "/claim/cut.py") 400),(.int 80 0),(.int 2 0),(.int 0 0),(.int 0 0),(.int 3 0),(.ref 142),(.bool true),(.int 181 0),(.ref 143),.none,(.ref 144),(.ref 145),(.ref 146),(.int 403 0),(.int 80 0),(.str (.ofString "/claim/cut.py") 404)]),#[]⟩) ::
  (nat_lit 148,⟨(.type "function"),none,(.func ⟨(.ofString "starts"),(.ofString "Cursor.starts"),p11,(.stmts b11),c11,3,[],.none,.none,.none,(.str (.ofString "grammarmill.source") 220),none,(.ref 147),.none,0⟩),#[]⟩) ::
  (nat_lit 149,⟨(.type "tuple"),none,(.seq #[] 0),#[]⟩) ::
  (nat_lit 151,⟨(.type "tuple"),none,(.seq #[(.str (.ofString "self") 409),(.str (.ofString "sign") 410)] 0),#[]⟩) ::
  (nat_lit 152,⟨(.type "tuple"),none,(.seq #[] 0),#[]⟩) ::
  (nat_lit 154,⟨(.type "code"),none,(.fields #[(.str (.ofString "take") 406),(.str (.ofString "Cursor.take") 407),(.str (.ofString "/claim/cut.py") 408),(.int 83 0),(.int 1 0),(.int 0 0),(.int 0 0),(.int 3 0),(.ref 149),(.bool true),(.int 181 0),(.ref 150),.none,(.ref 151),(.ref 152),(.ref 153),(.int 411 0),(.int 83 0),(.str (.ofString "/claim/cut.py") 412)]),#[]⟩) ::
  (nat_lit 155,⟨(.type "function"),none,(.func ⟨(.ofString "take"),(.ofString "Cursor.take"),p12,(.stmts b12),c12,3,[],.none,.none,.none,(.str (.ofString "grammarmill.source") 220),none,(.ref 154),.none,0⟩),#[]⟩) ::
  (nat_lit 156,⟨(.type "tuple"),none,(.seq #[] 0),#[]⟩) ::
  (nat_lit 158,⟨(.type "tuple"),none,(.seq #[(.str (.ofString "self") 417),(.str (.ofString "word") 418)] 0),#[]⟩) ::
  (nat_lit 159,⟨(.type "tuple"),none,(.seq #[] 0),#[]⟩) ::
  (nat_lit 161,⟨(.type "code"),none,(.fields #[(.str (.ofString "skip") 414),(.str (.ofString "Cursor.skip") 415),(.str (.ofString "/claim/cut.py") 416),(.int 90 0),(.int 2 0),(.int 0 0),(.int 0 0),(.int 3 0),(.ref 156),(.bool true),(.int 181 0),(.ref 157),.none,(.ref 158),(.ref 159),(.ref 160),(.int 419 0),(.int 90 0),(.str (.ofString "/claim/cut.py") 420)]),#[]⟩) ::
  (nat_lit 162,⟨(.type "function"),none,(.func ⟨(.ofString "skip"),(.ofString "Cursor.skip"),p13,(.stmts b13),c11,3,[],.none,.none,.none,(.str (.ofString "grammarmill.source") 220),none,(.ref 161),.none,0⟩),#[]⟩) ::
  (nat_lit 163,⟨(.type "tuple"),none,(.seq #[] 0),#[]⟩) ::
  (nat_lit 165,⟨(.type "tuple"),none,(.seq #[(.str (.ofString "self") 425),(.str (.ofString "signs") 426),(.str (.ofString "begun") 427)] 0),#[]⟩) ::
  (nat_lit 166,⟨(.type "tuple"),none,(.seq #[] 0),#[]⟩) ::
  (nat_lit 168,⟨(.type "code"),none,(.fields #[(.str (.ofString "take_while") 422),(.str (.ofString "Cursor.take_while") 423),(.str (.ofString "/claim/cut.py") 424),(.int 96 0),(.int 2 0),(.int 0 0),(.int 0 0),(.int 3 0),(.ref 163),(.bool true),(.int 181 0),(.ref 164),.none,(.ref 165),(.ref 166),(.ref 167),(.int 428 0),(.int 96 0),(.str (.ofString "/claim/cut.py") 429)]),#[]⟩) ::
  (nat_lit 169,⟨(.type "function"),none,(.func ⟨(.ofString "take_while"),(.ofString "Cursor.take_while"),p14,(.stmts b14),c14,3,[],.none,.none,.none,(.str (.ofString "grammarmill.source") 220),none,(.ref 168),.none,0⟩),#[]⟩) ::
  (nat_lit 170,⟨(.type "tuple"),none,(.seq #[] 0),#[]⟩) ::
  (nat_lit 172,⟨(.type "tuple"),none,(.seq #[(.str (.ofString "self") 434)] 0),#[]⟩) ::
  (nat_lit 173,⟨(.type "tuple"),none,(.seq #[] 0),#[]⟩) ::
  (nat_lit 175,⟨(.type "code"),none,(.fields #[(.str (.ofString "take_line") 431),(.str (.ofString "Cursor.take_line") 432),(.str (.ofString "/claim/cut.py") 433),(.int 102 0),(.int 1 0),(.int 0 0),(.int 0 0),(.int 3 0),(.ref 170),(.bool true),(.int 181 0),(.ref 171),.none,(.ref 172),(.ref 173),(.ref 174),(.int 435 0),(.int 102 0),(.str (.ofString "/claim/cut.py") 436)]),#[]⟩) ::
  (nat_lit 176,⟨(.type "function"),none,(.func ⟨(.ofString "take_line"),(.ofString "Cursor.take_line"),p15,(.stmts b15),c15,3,[],.none,.none,.none,(.str (.ofString "grammarmill.source") 220),none,(.ref 175),.none,0⟩),#[]⟩) ::
  (nat_lit 177,⟨(.type "tuple"),none,(.seq #[(.str (.ofString " \t") 438)] 0),#[]⟩) ::
  (nat_lit 178,⟨(.type "tuple"),none,(.seq #[] 0),#[]⟩) ::
  (nat_lit 180,⟨(.type "tuple"),none,(.seq #[(.str (.ofString "self") 442),(.str (.ofString "signs") 443)] 0),#[]⟩) ::
  (nat_lit 181,⟨(.type "tuple"),none,(.seq #[] 0),#[]⟩) ::
  (nat_lit 183,⟨(.type "code"),none,(.fields #[(.str (.ofString "skip_blanks") 439),(.str (.ofString "Cursor.skip_blanks") 440),(.str (.ofString "/claim/cut.py") 441),(.int 105 0),(.int 2 0),(.int 0 0),(.int 0 0),(.int 3 0),(.ref 178),(.bool true),(.int 181 0),(.ref 179),.none,(.ref 180),(.ref 181),(.ref 182),(.int 444 0),(.int 105 0),(.str (.ofString "/claim/cut.py") 445)]),#[]⟩) ::
  (nat_lit 184,⟨(.type "function"),none,(.func ⟨(.ofString "skip_blanks"),(.ofString "Cursor.skip_blanks"),p16,(.stmts b16),c16,3,[],(.ref 177),.none,.none,(.str (.ofString "grammarmill.source") 220),none,(.ref 183),.none,0⟩),#[]⟩) ::
  (nat_lit 185,⟨(.type "tuple"),none,(.seq #[] 0),#[]⟩) ::
  (nat_lit 187,⟨(.type "tuple"),none,(.seq #[(.str (.ofString "self") 450)] 0),#[]⟩) ::
  (nat_lit 188,⟨(.type "tuple"),none,(.seq #[] 0),#[]⟩) ::
  (nat_lit 190,⟨(.type "code"),none,(.fields #[(.str (.ofString "name") 447),(.str (.ofString "Cursor.name") 448),(.str (.ofString "/claim/cut.py") 449),(.int 108 0),(.int 1 0),(.int 0 0),(.int 0 0),(.int 3 0),(.ref 185),(.bool true),(.int 181 0),(.ref 186),.none,(.ref 187),(.ref 188),(.ref 189),(.int 451 0),(.int 108 0),(.str (.ofString "/claim/cut.py") 452)]),#[]⟩) ::
  (nat_lit 191,⟨(.type "function"),none,(.func ⟨(.ofString "name"),(.ofString "Cursor.name"),p17,(.stmts b17),c15,3,[],.none,.none,.none,(.str (.ofString "grammarmill.source") 220),none,(.ref 190),.none,0⟩),#[]⟩) ::
  (nat_lit 192,⟨(.type "tuple"),none,(.seq #[] 0),#[]⟩) ::
  (nat_lit 194,⟨(.type "tuple"),none,(.seq #[(.str (.ofString "self") 457),(.str (.ofString "begun") 458),(.str (.ofString "figures") 459)] 0),#[]⟩) ::
  (nat_lit 195,⟨(.type "tuple"),none,(.seq #[] 0),#[]⟩) ::
  (nat_lit 197,⟨(.type "code"),none,(.fields #[(.str (.ofString "number") 454),(.str (.ofString "Cursor.number") 455),(.str (.ofString "/claim/cut.py") 456),(.int 111 0),(.int 1 0),(.int 0 0),(.int 0 0),(.int 3 0),(.ref 192),(.bool true),(.int 181 0),(.ref 193),.none,(.ref 194),(.ref 195),(.ref 196),(.int 460 0),(.int 111 0),(.str (.ofString "/claim/cut.py") 461)]),#[]⟩) ::
  (nat_lit 198,⟨(.type "function"),none,(.func ⟨(.ofString "number"),(.ofString "Cursor.number"),p18,(.stmts b18),c18,3,[],.none,.none,.none,(.str (.ofString "grammarmill.source") 220),none,(.ref 197),.none,0⟩),#[]⟩) ::
  (nat_lit 199,⟨(.type "tuple"),none,(.seq #[] 0),#[]⟩) ::
  (nat_lit 201,⟨(.type "tuple"),none,(.seq #[(.str (.ofString "self") 466)] 0),#[]⟩) ::
  (nat_lit 202,⟨(.type "tuple"),none,(.seq #[] 0),#[]⟩) ::
  (nat_lit 204,⟨(.type "code"),none,(.fields #[(.str (.ofString "position") 463),(.str (.ofString "Cursor.position") 464),(.str (.ofString "/claim/cut.py") 465),(.int 119 0),(.int 1 0),(.int 0 0),(.int 0 0),(.int 3 0),(.ref 199),(.bool true),(.int 181 0),(.ref 200),.none,(.ref 201),(.ref 202),(.ref 203),(.int 467 0),(.int 119 0),(.str (.ofString "/claim/cut.py") 468)]),#[]⟩) ::
  (nat_lit 205,⟨(.type "function"),none,(.func ⟨(.ofString "position"),(.ofString "Cursor.position"),p19,(.stmts b19),c19,3,[],.none,.none,.none,(.str (.ofString "grammarmill.source") 220),none,(.ref 204),.none,0⟩),#[]⟩) ::
  (nat_lit 206,⟨(.type "tuple"),none,(.seq #[] 0),#[]⟩) ::
  (nat_lit 208,⟨(.type "tuple"),none,(.seq #[(.str (.ofString "self") 473),(.str (.ofString "offset") 474)] 0),#[]⟩) ::
  (nat_lit 209,⟨(.type "tuple"),none,(.seq #[] 0),#[]⟩) ::
  (nat_lit 211,⟨(.type "code"),none,(.fields #[(.str (.ofString "position_at") 470),(.str (.ofString "Cursor.position_at") 471),(.str (.ofString "/claim/cut.py") 472),(.int 122 0),(.int 2 0),(.int 0 0),(.int 0 0),(.int 3 0),(.ref 206),(.bool true),(.int 181 0),(.ref 207),.none,(.ref 208),(.ref 209),(.ref 210),(.int 475 0),(.int 122 0),(.str (.ofString "/claim/cut.py") 476)]),#[]⟩) ::
  (nat_lit 212,⟨(.type "function"),none,(.func ⟨(.ofString "position_at"),(.ofString "Cursor.position_at"),p20,(.stmts b20),c20,3,[],.none,.none,.none,(.str (.ofString "grammarmill.source") 220),none,(.ref 211),.none,0⟩),#[]⟩) ::
  (nat_lit 213,⟨(.type "tuple"),none,(.seq #[] 0),#[]⟩) ::
  (nat_lit 215,⟨(.type "tuple"),none,(.seq #[(.str (.ofString "self") 481),(.str (.ofString "signs") 482),(.str (.ofString "most") 483),(.str (.ofString "base") 484),(.str (.ofString "code") 485),(.str (.ofString "taken") 486)] 0),#[]⟩) ::
  (nat_lit 216,⟨(.type "tuple"),none,(.seq #[] 0),#[]⟩) ::
  (nat_lit 218,⟨(.type "code"),none,(.fields #[(.str (.ofString "coded") 478),(.str (.ofString "Cursor.coded") 479),(.str (.ofString "/claim/cut.py") 480),(.int 125 0),(.int 4 0),(.int 0 0),(.int 0 0),(.int 3 0),(.ref 213),(.bool true),(.int 181 0),(.ref 214),.none,(.ref 215),(.ref 216),(.ref 217),(.int 487 0),(.int 125 0),(.str (.ofString "/claim/cut.py") 488)]),#[]⟩) ::
  (nat_lit 219,⟨(.type "function"),none,(.func ⟨(.ofString "coded"),(.ofString "Cursor.coded"),p21,(.stmts b21),c21,3,[],.none,.none,.none,(.str (.ofString "grammarmill.source") 220),none,(.ref 218),.none,0⟩),#[]⟩) ::
  (nat_lit 220,⟨(.type "tuple"),none,(.seq #[] 0),#[]⟩) ::
  (nat_lit 222,⟨(.type "tuple"),none,(.seq #[(.str (.ofString "self") 493),(.str (.ofString "sign") 494)] 0),#[]⟩) ::
  (nat_lit 223,⟨(.type "tuple"),none,(.seq #[] 0),#[]⟩) ::
  (nat_lit 225,⟨(.type "code"),none,(.fields #[(.str (.ofString "escape") 490),(.str (.ofString "Cursor.escape") 491),(.str (.ofString "/claim/cut.py") 492),(.int 133 0),(.int 1 0),(.int 0 0),(.int 0 0),(.int 3 0),(.ref 220),(.bool true),(.int 181 0),(.ref 221),.none,(.ref 222),(.ref 223),(.ref 224),(.int 495 0),(.int 133 0),(.str (.ofString "/claim/cut.py") 496)]),#[]⟩) ::
  (nat_lit 226,⟨(.type "function"),none,(.func ⟨(.ofString "escape"),(.ofString "Cursor.escape"),p22,(.stmts b22),c22,3,[],.none,.none,.none,(.str (.ofString "grammarmill.source") 220),none,(.ref 225),.none,0⟩),#[]⟩) ::
  (nat_lit 227,⟨(.type "tuple"),none,(.seq #[] 0),#[]⟩) ::
  (nat_lit 229,⟨(.type "tuple"),none,(.seq #[(.str (.ofString "self") 501),(.str (.ofString "end") 502),(.str (.ofString "signs") 503),(.str (.ofString "sign") 504)] 0),#[]⟩) ::
  (nat_lit 230,⟨(.type "tuple"),none,(.seq #[] 0),#[]⟩) ::
  (nat_lit 232,⟨(.type "code"),none,(.fields #[(.str (.ofString "quoted") 498),(.str (.ofString "Cursor.quoted") 499),(.str (.ofString "/claim/cut.py") 500),(.int 147 0),(.int 2 0),(.int 0 0),(.int 0 0),(.int 3 0),(.ref 227),(.bool true),(.int 181 0),(.ref 228),.none,(.ref 229),(.ref 230),(.ref 231),(.int 505 0),(.int 147 0),(.str (.ofString "/claim/cut.py") 506)]),#[]⟩) ::
  (nat_lit 233,⟨(.type "function"),none,(.func ⟨(.ofString "quoted"),(.ofString "Cursor.quoted"),p23,(.stmts b23),c23,3,[],.none,.none,.none,(.str (.ofString "grammarmill.source") 220),none,(.ref 232),.none,0⟩),#[]⟩) ::
  (nat_lit 234,⟨(.type "tuple"),none,(.seq #[(.str (.ofString "at") 508),(.str (.ofString "text") 509)] 0),#[]⟩) ::
  (nat_lit 235,⟨(.type "dict"),none,(.dict (List.toArray (⟨(PySem.PyData.keyHash P (.ofString "__module__")),(.str (.ofString "__module__") 366),(.str (.ofString "grammarmill.source") 220)⟩ :: ⟨(PySem.PyData.keyHash P (.ofString "__firstlineno__")),(.str (.ofString "__firstlineno__") 370),(.int 65 369)⟩ :: ⟨(PySem.PyData.keyHash P (.ofString "__init__")),(.str (.ofString "__init__") 380),(.ref 126)⟩ :: ⟨(PySem.PyData.keyHash P (.ofString "is_done")),(.str (.ofString "is_done") 387),(.ref 133)⟩ :: ⟨(PySem.PyData.keyHash P (.ofString "peek")),(.str (.ofString "peek") 397),(.ref 141)⟩ :: ⟨(PySem.PyData.keyHash P (.ofString "starts")),(.str (.ofString "starts") 405),(.ref 148)⟩ :: ⟨(PySem.PyData.keyHash P (.ofString "take")),(.str (.ofString "take") 413),(.ref 155)⟩ :: ⟨(PySem.PyData.keyHash P (.ofString "skip")),(.str (.ofString "skip") 421),(.ref 162)⟩ :: ⟨(PySem.PyData.keyHash P (.ofString "take_while")),(.str (.ofString "take_while") 430),(.ref 169)⟩ :: ⟨(PySem.PyData.keyHash P (.ofString "take_line")),(.str (.ofString "take_line") 437),(.ref 176)⟩ :: ⟨(PySem.PyData.keyHash P (.ofString "skip_blanks")),(.str (.ofString "skip_blanks") 446),(.ref 184)⟩ :: ⟨(PySem.PyData.keyHash P (.ofString "name")),(.str (.ofString "name") 453),(.ref 191)⟩ :: ⟨(PySem.PyData.keyHash P (.ofString "number")),(.str (.ofString "number") 462),(.ref 198)⟩ :: ⟨(PySem.PyData.keyHash P (.ofString "position")),(.str (.ofString "position") 469),(.ref 205)⟩ :: ⟨(PySem.PyData.keyHash P (.ofString "position_at")),(.str (.ofString "position_at") 477),(.ref 212)⟩ :: ⟨(PySem.PyData.keyHash P (.ofString "coded")),(.str (.ofString "coded") 489),(.ref 219)⟩ :: ⟨(PySem.PyData.keyHash P (.ofString "escape")),(.str (.ofString "escape") 497),(.ref 226)⟩ :: ⟨(PySem.PyData.keyHash P (.ofString "quoted")),(.str (.ofString "quoted") 507),(.ref 233)⟩ :: ⟨(PySem.PyData.keyHash P (.ofString "__static_attributes__")),(.str (.ofString "__static_attributes__") 510),(.ref 234)⟩ :: ⟨(PySem.PyData.keyHash P (.ofString "__dict__")),(.str (.ofString "__dict__") 512),(.ref 237)⟩ :: ⟨(PySem.PyData.keyHash P (.ofString "__weakref__")),(.str (.ofString "__weakref__") 514),(.ref 238)⟩ :: ⟨(PySem.PyData.keyHash P (.ofString "__doc__")),(.str (.ofString "__doc__") 515),.none⟩ :: [])) 4),#[]⟩) ::
  (nat_lit 236,⟨(.type "type"),none,(.cls ⟨(.ofString "Cursor"),[(.type "object")],[(.ref 236),(.type "object")],235,(.ofString "Cursor"),true,[],[],false,none,false⟩),#[none,none,(some (.str (.ofString "Cursor") 359)),(some (.str (.ofString "Cursor") 367)),(some (.builtin "object.__new__")),(some (.bool true))]⟩) ::
  (nat_lit 237,⟨(.type "getset_descriptor"),none,(.fields #[(.str (.ofString "__dict__") 511),(.ref 236),(.builtin "function.__dict__"),(.builtin "function.__dict__#set")]),#[]⟩) ::
  (nat_lit 238,⟨(.type "getset_descriptor"),none,(.fields #[(.str (.ofString "__weakref__") 513),(.ref 236),(.builtin "ExceptionGroup.__weakref__"),.none]),#[]⟩) ::
  (nat_lit 241,⟨(.type "tuple"),none,(.seq #[] 0),#[]⟩) ::
  (nat_lit 243,⟨(.type "tuple"),none,(.seq #[(.str (.ofString "code") 521),(.str (.ofString "figures") 522)] 0),#[]⟩) ::
  (nat_lit 244,⟨(.type "tuple"),none,(.seq #[] 0),#[]⟩) ::
  (nat_lit 246,⟨(.type "code"),none,(.fields #[(.str (.ofString "hex_escape") 518),(.str (.ofString "hex_escape") 519),(.str (.ofString "/claim/cut.py") 520),(.int 159 0),(.int 1 0),(.int 0 0),(.int 0 0),(.int 3 0),(.ref 241),(.bool true),(.int 181 0),(.ref 242),.none,(.ref 243),(.ref 244),(.ref 245),(.int 523 0),(.int 159 0),(.str (.ofString "/claim/cut.py") 524)]),#[]⟩) ::
  (nat_lit 247,⟨(.type "function"),none,(.func ⟨(.ofString "hex_escape"),(.ofString "hex_escape"),p24,(.stmts b24),c24,3,[],.none,.none,.none,(.str (.ofString "grammarmill.source") 220),none,(.ref 246),.none,0⟩),#[]⟩) ::
  (nat_lit 248,⟨(.type "tuple"),none,(.seq #[] 0),#[]⟩) ::
  (nat_lit 250,⟨(.type "tuple"),none,(.seq #[(.str (.ofString "sign") 529),(.str (.ofString "marks") 530),(.str (.ofString "code") 531)] 0),#[]⟩) ::
  (nat_lit 251,⟨(.type "tuple"),none,(.seq #[] 0),#[]⟩) ::
  (nat_lit 253,⟨(.type "code"),none,(.fields #[(.str (.ofString "escaped_sign") 526),(.str (.ofString "escaped_sign") 527),(.str (.ofString "/claim/cut.py") 528),(.int 162 0),(.int 2 0),(.int 0 0),(.int 0 0),(.int 3 0),(.ref 248),(.bool true),(.int 181 0),(.ref 249),.none,(.ref 250),(.ref 251),(.ref 252),(.int 532 0),(.int 162 0),(.str (.ofString "/claim/cut.py") 533)]),#[]⟩) ::
  (nat_lit 254,⟨(.type "function"),none,(.func ⟨(.ofString "escaped_sign"),(.ofString "escaped_sign"),p25,(.stmts b25),c25,3,[],.none,.none,.none,(.str (.ofString "grammarmill.source") 220),none,(.ref 253),.none,0⟩),#[]⟩) ::
  (nat_lit 255,⟨(.type "tuple"),none,(.seq #[] 0),#[]⟩) ::
  (nat_lit 258,⟨(.type "code"),none,(.fields #[(.str (.ofString "escaped") 535),(.str (.ofString "escaped") 536),(.str (.ofString "/claim/cut.py") 537),(.int 175 0),(.int 2 0),(.int 0 0),(.int 0 0),(.int 3 0),(.ref 255),(.bool true),(.int 181 0),(.ref 256),.none,.none,.none,(.ref 257),(.int 538 0),(.int 175 0),(.str (.ofString "/claim/cut.py") 539)]),#[]⟩) ::
  (nat_lit 259,⟨(.type "function"),none,(.func ⟨(.ofString "escaped"),(.ofString "escaped"),p26,(.stmts b26),c26,3,[],.none,.none,.none,(.str (.ofString "grammarmill.source") 220),none,(.ref 258),.none,0⟩),#[]⟩) ::
  (nat_lit 260,⟨(.type "tuple"),none,(.seq #[] 0),#[]⟩) ::
  (nat_lit 263,⟨(.type "code"),none,(.fields #[(.str (.ofString "show_item") 547),(.str (.ofString "show_item") 548),(.str (.ofString "/claim/cut.py") 549),(.int 180 0),(.int 1 0),(.int 0 0),(.int 0 0),(.int 3 0),(.ref 260),(.bool true),(.int 181 0),(.ref 261),.none,.none,.none,(.ref 262),(.int 550 0),(.int 180 0),(.str (.ofString "/claim/cut.py") 551)]),#[]⟩) ::
  (nat_lit 264,⟨(.type "function"),none,(.func ⟨(.ofString "show_item"),(.ofString "show_item"),p27,(.stmts b27),c27,3,[],.none,.none,.none,(.str (.ofString "grammarmill.lines") 541),none,(.ref 263),.none,0⟩),#[]⟩) ::
  (nat_lit 272,⟨(.type "tuple"),none,(.seq #[] 0),#[]⟩) ::
  (nat_lit 274,⟨(.type "tuple"),none,(.seq #[(.str (.ofString "self") 568),(.str (.ofString "head") 569)] 0),#[]⟩) ::
  (nat_lit 275,⟨(.type "tuple"),none,(.seq #[] 0),#[]⟩) ::
  (nat_lit 277,⟨(.type "code"),none,(.fields #[(.str (.ofString "__init__") 565),(.str (.ofString "LineWriter.__init__") 566),(.str (.ofString "/claim/cut.py") 567),(.int 190 0),(.int 2 0),(.int 0 0),(.int 0 0),(.int 3 0),(.ref 272),(.bool true),(.int 181 0),(.ref 273),.none,(.ref 274),(.ref 275),(.ref 276),(.int 570 0),(.int 190 0),(.str (.ofString "/claim/cut.py") 571)]),#[]⟩) ::
  (nat_lit 278,⟨(.type "function"),none,(.func ⟨(.ofString "__init__"),(.ofString "LineWriter.__init__"),p28,(.stmts b28),c28,3,[],.none,.none,.none,(.str (.ofString "grammarmill.lines") 541),none,(.ref 277),.none,0⟩),#[]⟩) ::
  (nat_lit 279,⟨(.type "tuple"),none,(.seq #[] 0),#[]⟩) ::
  (nat_lit 282,⟨(.type "code"),none,(.fields #[(.str (.ofString "add") 573),(.str (.ofString "LineWriter.add") 574),(.str (.ofString "/claim/cut.py") 575),(.int 193 0),(.int 3 0),(.int 0 0),(.int 0 0),(.int 3 0),(.ref 279),(.bool true),(.int 181 0),(.ref 280),.none,.none,.none,(.ref 281),(.int 576 0),(.int 193 0),(.str (.ofString "/claim/cut.py") 577)]),#[]⟩) ::
  (nat_lit 283,⟨(.type "function"),none,(.func ⟨(.ofString "add"),(.ofString "LineWriter.add"),p29,(.stmts b29),c29,3,[],.none,.none,.none,(.str (.ofString "grammarmill.lines") 541),none,(.ref 282),.none,0⟩),#[]⟩) ::
  (nat_lit 284,⟨(.type "tuple"),none,(.seq #[] 0),#[]⟩) ::
  (nat_lit 286,⟨(.type "tuple"),none,(.seq #[(.str (.ofString "self") 582)] 0),#[]⟩) ::
  (nat_lit 287,⟨(.type "tuple"),none,(.seq #[] 0),#[]⟩) ::
  (nat_lit 289,⟨(.type "code"),none,(.fields #[(.str (.ofString "text") 579),(.str (.ofString "LineWriter.text") 580),(.str (.ofString "/claim/cut.py") 581),(.int 196 0),(.int 1 0),(.int 0 0),(.int 0 0),(.int 3 0),(.ref 284),(.bool true),(.int 181 0),(.ref 285),.none,(.ref 286),(.ref 287),(.ref 288),(.int 583 0),(.int 196 0),(.str (.ofString "/claim/cut.py") 584)]),#[]⟩) ::
  (nat_lit 290,⟨(.type "function"),none,(.func ⟨(.ofString "text"),(.ofString "LineWriter.text"),p30,(.stmts b30),c30,3,[],.none,.none,.none,(.str (.ofString "grammarmill.lines") 541),none,(.ref 289),.none,0⟩),#[]⟩) ::
  (nat_lit 291,⟨(.type "tuple"),none,(.seq #[(.str (.ofString "lines") 586)] 0),#[]⟩) ::
  (nat_lit 292,⟨(.type "dict"),none,(.dict #[⟨(PySem.PyData.keyHash P (.ofString "__module__")),(.str (.ofString "__module__") 560),(.str (.ofString "grammarmill.lines") 541)⟩,⟨(PySem.PyData.keyHash P (.ofString "__firstlineno__")),(.str (.ofString "__firstlineno__") 564),(.int 188 563)⟩,⟨(PySem.PyData.keyHash P (.ofString "__init__")),(.str (.ofString "__init__") 572),(.ref 278)⟩,⟨(PySem.PyData.keyHash P (.ofString "add")),(.str (.ofString "add") 578),(.ref 283)⟩,⟨(PySem.PyData.keyHash P (.ofString "text")),(.str (.ofString "text") 585),(.ref 290)⟩,⟨(PySem.PyData.keyHash P (.ofString "__static_attributes__")),(.str (.ofString "__static_attributes__") 587),(.ref 291)⟩,⟨(PySem.PyData.keyHash P (.ofString "__dict__")),(.str (.ofString "__dict__") 589),(.ref 294)⟩,⟨(PySem.PyData.keyHash P (.ofString "__weakref__")),(.str (.ofString "__weakref__") 591),(.ref 295)⟩,⟨(PySem.PyData.keyHash P (.ofString "__doc__")),(.str (.ofString "__doc__") 592),.none⟩] 4),#[]⟩) ::
  (nat_lit 293,⟨(.type "type"),none,(.cls ⟨(.ofString "LineWriter"),[(.type "object")],[(.ref 293),(.type "object")],292,(.ofString "LineWriter"),true,[],[],false,none,false⟩),#[none,none,(some (.str (.ofString "LineWriter") 553)),(some (.str (.ofString "LineWriter") 561)),(some (.builtin "object.__new__")),(some (.bool true))]⟩) ::
  (nat_lit 294,⟨(.type "getset_descriptor"),none,(.fields #[(.str (.ofString "__dict__") 588),(.ref 293),(.builtin "function.__dict__"),(.builtin "function.__dict__#set")]),#[]⟩) ::
  (nat_lit 295,⟨(.type "getset_descriptor"),none,(.fields #[(.str (.ofString "__weakref__") 590),(.ref 293),(.builtin "ExceptionGroup.__weakref__"),.none]),#[]⟩) ::
  (nat_lit 305,⟨(.type "tuple"),none,(.seq #[] 0),#[]⟩) ::
  (nat_lit 307,⟨(.type "tuple"),none,(.seq #[(.str (.ofString "self") 610),(.str (.ofString "text") 611)] 0),#[]⟩) ::
  (nat_lit 308,⟨(.type "tuple"),none,(.seq #[] 0),#[]⟩) ::
  (nat_lit 310,⟨(.type "code"),none,(.fields #[(.str (.ofString "__init__") 607),(.str (.ofString "LineReader.__init__") 608),(.str (.ofString "/claim/cut.py") 609),(.int 200 0),(.int 2 0),(.int 0 0),(.int 0 0),(.int 3 0),(.ref 305),(.bool true),(.int 181 0),(.ref 306),.none,(.ref 307),(.ref 308),(.ref 309),(.int 612 0),(.int 200 0),(.str (.ofString "/claim/cut.py") 613)]),#[]⟩) ::
  (nat_lit 311,⟨(.type "function"),none,(.func ⟨(.ofString "__init__"),(.ofString "LineReader.__init__"),p31,(.stmts b31),c31,3,[],.none,.none,.none,(.str (.ofString "grammarmill.lines") 541),none,(.ref 310),.none,0⟩),#[]⟩) ::
  (nat_lit 312,⟨(.type "tuple"),none,(.seq #[] 0),#[]⟩) ::
  (nat_lit 314,⟨(.type "tuple"),none,(.seq #[(.str (.ofString "self") 618),(.str (.ofString "what") 619)] 0),#[]⟩) ::
  (nat_lit 315,⟨(.type "tuple"),none,(.seq #[] 0),#[]⟩) ::
  (nat_lit 317,⟨(.type "code"),none,(.fields #[(.str (.ofString "fail") 615),(.str (.ofString "LineReader.fail") 616),(.str (.ofString "/claim/cut.py") 617),(.int 204 0),(.int 2 0),(.int 0 0),(.int 0 0),(.int 3 0),(.ref 312),(.bool true),(.int 181 0),(.ref 313),.none,(.ref 314),(.ref 315),(.ref 316),(.int 620 0),(.int 204 0),(.str (.ofString "/claim/cut.py") 621)]),#[]⟩) ::
  (nat_lit 318,⟨(.type "function"),none,(.func ⟨(.ofString "fail"),(.ofString "LineReader.fail"),p32,(.stmts b32),c32,3,[],.none,.none,.none,(.str (.ofString "grammarmill.lines") 541),none,(.ref 317),.none,0⟩),#[]⟩) ::
  (nat_lit 319,⟨(.type "tuple"),none,(.seq #[] 0),#[]⟩) ::
  (nat_lit 321,⟨(.type "tuple"),none,(.seq #[(.str (.ofString "self") 626),(.str (.ofString "word") 627)] 0),#[]⟩) ::
  (nat_lit 322,⟨(.type "tuple"),none,(.seq #[] 0),#[]⟩) ::
  (nat_lit 324,⟨(.type "code"),none,(.fields #[(.str (.ofString "need") 623),(.str (.ofString "LineReader.need") 624),(.str (.ofString "/claim/cut.py") 625),(.int 207 0),(.int 2 0),(.int 0 0),(.int 0 0),(.int 3 0),(.ref 319),(.bool true),(.int 181 0),(.ref 320),.none,(.ref 321),(.ref 322),(.ref 323),(.int 628 0),(.int 207 0),(.str (.ofString "/claim/cut.py") 629)]),#[]⟩) ::
  (nat_lit 325,⟨(.type "function"),none,(.func ⟨(.ofString "need"),(.ofString "LineReader.need"),p33,(.stmts b33),c33,3,[],.none,.none,.none,(.str (.ofString "grammarmill.lines") 541),none,(.ref 324),.none,0⟩),#[]⟩) ::
  (nat_lit 326,⟨(.type "tuple"),none,(.seq #[] 0),#[]⟩) ::
  (nat_lit 328,⟨(.type "tuple"),none,(.seq #[(.str (.ofString "self") 634),(.str (.ofString "word") 635)] 0),#[]⟩) ::
  (nat_lit 329,⟨(.type "tuple"),none,(.seq #[] 0),#[]⟩) ::
  (nat_lit 331,⟨(.type "code"),none,(.fields #[(.str (.ofString "head") 631),(.str (.ofString "LineReader.head") 632),(.str (.ofString "/claim/cut.py") 633),(.int 211 0),(.int 2 0),(.int 0 0),(.int 0 0),(.int 3 0),(.ref 326),(.bool true),(.int 181 0),(.ref 327),.none,(.ref 328),(.ref 329),(.ref 330),(.int 636 0),(.int 211 0),(.str (.ofString "/claim/cut.py") 637)]),#[]⟩) ::
  (nat_lit 332,⟨(.type "function"),none,(.func ⟨(.ofString "head"),(.ofString "LineReader.head"),p34,(.stmts b34),c33,3,[],.none,.none,.none,(.str (.ofString "grammarmill.lines") 541),none,(.ref 331),.none,0⟩),#[]⟩) ::
  (nat_lit 333,⟨(.type "tuple"),none,(.seq #[] 0),#[]⟩) ::
  (nat_lit 335,⟨(.type "tuple"),none,(.seq #[(.str (.ofString "self") 642)] 0),#[]⟩) ::
  (nat_lit 336,⟨(.type "tuple"),none,(.seq #[] 0),#[]⟩) ::
  (nat_lit 338,⟨(.type "code"),none,(.fields #[(.str (.ofString "end_line") 639),(.str (.ofString "LineReader.end_line") 640),(.str (.ofString "/claim/cut.py") 641),(.int 215 0),(.int 1 0),(.int 0 0),(.int 0 0),(.int 3 0),(.ref 333),(.bool true),(.int 181 0),(.ref 334),.none,(.ref 335),(.ref 336),(.ref 337),(.int 643 0),(.int 215 0),(.str (.ofString "/claim/cut.py") 644)]),#[]⟩) ::
  (nat_lit 339,⟨(.type "function"),none,(.func ⟨(.ofString "end_line"),(.ofString "LineReader.end_line"),p35,(.stmts b35),c4,3,[],.none,.none,.none,(.str (.ofString "grammarmill.lines") 541),none,(.ref 338),.none,0⟩),#[]⟩) ::
  (nat_lit 340,⟨(.type "tuple"),none,(.seq #[] 0),#[]⟩) ::
  (nat_lit 342,⟨(.type "tuple"),none,(.seq #[(.str (.ofString "self") 649),(.str (.ofString "sign") 650),(.str (.ofString "figures") 651)] 0),#[]⟩) ::
  (nat_lit 343,⟨(.type "tuple"),none,(.seq #[] 0),#[]⟩) ::
  (nat_lit 345,⟨(.type "code"),none,(.fields #[(.str (.ofString "whole") 646),(.str (.ofString "LineReader.whole") 647),(.str (.ofString "/claim/cut.py") 648),(.int 219 0),(.int 1 0),(.int 0 0),(.int 0 0),(.int 3 0),(.ref 340),(.bool true),(.int 181 0),(.ref 341),.none,(.ref 342),(.ref 343),(.ref 344),(.int 652 0),(.int 219 0),(.str (.ofString "/claim/cut.py") 653)]),#[]⟩) ::
  (nat_lit 346,⟨(.type "function"),none,(.func ⟨(.ofString "whole"),(.ofString "LineReader.whole"),p36,(.stmts b36),c36,3,[],.none,.none,.none,(.str (.ofString "grammarmill.lines") 541),none,(.ref 345),.none,0⟩),#[]⟩) ::
  (nat_lit 347,⟨(.type "tuple"),none,(.seq #[(.int 0 655)] 0),#[]⟩) ::
  (nat_lit 348,⟨(.type "tuple"),none,(.seq #[] 0),#[]⟩) ::
  (nat_lit 350,⟨(.type "tuple"),none,(.seq #[(.str (.ofString "self") 659),(.str (.ofString "depth") 660),(.str (.ofString "found") 661)] 0),#[]⟩) ::
  (nat_lit 351,⟨(.type "tuple"),none,(.seq #[] 0),#[]⟩) ::
  (nat_lit 353,⟨(.type "code"),none,(.fields #[(.str (.ofString "item") 656),(.str (.ofString "LineReader.item") 657),(.str (.ofString "/claim/cut.py") 658),(.int 226 0),(.int 2 0),(.int 0 0),(.int 0 0),(.int 3 0),(.ref 348),(.bool true),(.int 181 0),(.ref 349),.none,(.ref 350),(.ref 351),(.ref 352),(.int 662 0),(.int 226 0),(.str (.ofString "/claim/cut.py") 663)]),#[]⟩) ::
  (nat_lit 354,⟨(.type "function"),none,(.func ⟨(.ofString "item"),(.ofString "LineReader.item"),p37,(.stmts b37),c37,3,[],(.ref 347),.none,.none,(.str (.ofString "grammarmill.lines") 541),none,(.ref 353),.none,0⟩),#[]⟩) ::
  (nat_lit 355,⟨(.type "tuple"),none,(.seq #[] 0),#[]⟩) ::
  (nat_lit 357,⟨(.type "tuple"),none,(.seq #[(.str (.ofString "self") 668),(.str (.ofString "depth") 669),(.str (.ofString "found") 670)] 0),#[]⟩) ::
  (nat_lit 358,⟨(.type "tuple"),none,(.seq #[] 0),#[]⟩) ::
  (nat_lit 360,⟨(.type "code"),none,(.fields #[(.str (.ofString "bracket") 665),(.str (.ofString "LineReader.bracket") 666),(.str (.ofString "/claim/cut.py") 667),(.int 239 0),(.int 2 0),(.int 0 0),(.int 0 0),(.int 3 0),(.ref 355),(.bool true),(.int 181 0),(.ref 356),.none,(.ref 357),(.ref 358),(.ref 359),(.int 671 0),(.int 239 0),(.str (.ofString "/claim/cut.py") 672)]),#[]⟩) ::
  (nat_lit 361,⟨(.type "function"),none,(.func ⟨(.ofString "bracket"),(.ofString "LineReader.bracket"),p38,(.stmts b38),c38,3,[],.none,.none,.none,(.str (.ofString "grammarmill.lines") 541),none,(.ref 360),.none,0⟩),#[]⟩) ::
  (nat_lit 362,⟨(.type "tuple"),none,(.seq #[] 0),#[]⟩) ::
  (nat_lit 364,⟨(.type "tuple"),none,(.seq #[(.str (.ofString "self") 677),(.str (.ofString "word") 678),(.str (.ofString "many") 679),(.str (.ofString "found") 680),(.str (.ofString "turn") 681)] 0),#[]⟩) ::
  (nat_lit 365,⟨(.type "tuple"),none,(.seq #[] 0),#[]⟩) ::
  (nat_lit 367,⟨(.type "code"),none,(.fields #[(.str (.ofString "items") 674),(.str (.ofString "LineReader.items") 675),(.str (.ofString "/claim/cut.py") 676),(.int 251 0),(.int 2 0),(.int 0 0),(.int 0 0),(.int 3 0),(.ref 362),(.bool true),(.int 181 0),(.ref 363),.none,(.ref 364),(.ref 365),(.ref 366),(.int 682 0),(.int 251 0),(.str (.ofString "/claim/cut.py") 683)]),#[]⟩) ::
  (nat_lit 368,⟨(.type "function"),none,(.func ⟨(.ofString "items"),(.ofString "LineReader.items"),p39,(.stmts b39),c39,3,[],.none,.none,.none,(.str (.ofString "grammarmill.lines") 541),none,(.ref 367),.none,0⟩),#[]⟩) ::
  (nat_lit 369,⟨(.type "tuple"),none,(.seq #[.none,.none,.none] 0),#[]⟩) ::
  (nat_lit 370,⟨(.type "tuple"),none,(.seq #[] 0),#[]⟩) ::
  (nat_lit 372,⟨(.type "tuple"),none,(.seq #[(.str (.ofString "self") 688),(.str (.ofString "word") 689),(.str (.ofString "least") 690),(.str (.ofString "most") 691),(.str (.ofString "many") 692),(.str (.ofString "found") 693),(.str (.ofString "item") 694),(.str (.ofString "is_out") 695)] 0),#[]⟩) ::
  (nat_lit 373,⟨(.type "tuple"),none,(.seq #[] 0),#[]⟩) ::
  (nat_lit 375,⟨(.type "code"),none,(.fields #[(.str (.ofString "numbers") 685),(.str (.ofString "LineReader.numbers") 686),(.str (.ofString "/claim/cut.py") 687),(.int 262 0),(.int 5 0),(.int 0 0),(.int 0 0),(.int 3 0),(.ref 370),(.bool true),(.int 181 0),(.ref 371),.none,(.ref 372),(.ref 373),(.ref 374),(.int 696 0),(.int 262 0),(.str (.ofString "/claim/cut.py") 697)]),#[]⟩) ::
  (nat_lit 376,⟨(.type "function"),none,(.func ⟨(.ofString "numbers"),(.ofString "LineReader.numbers"),p40,(.stmts b40),c40,3,[],(.ref 369),.none,.none,(.str (.ofString "grammarmill.lines") 541),none,(.ref 375),.none,0⟩),#[]⟩) ::
  (nat_lit 377,⟨(.type "tuple"),none,(.seq #[] 0),#[]⟩) ::
  (nat_lit 379,⟨(.type "tuple"),none,(.seq #[(.str (.ofString "self") 702),(.str (.ofString "word") 703),(.str (.ofString "least") 704),(.str (.ofString "most") 705)] 0),#[]⟩) ::
  (nat_lit 380,⟨(.type "tuple"),none,(.seq #[] 0),#[]⟩) ::
  (nat_lit 382,⟨(.type "code"),none,(.fields #[(.str (.ofString "one") 699),(.str (.ofString "LineReader.one") 700),(.str (.ofString "/claim/cut.py") 701),(.int 272 0),(.int 4 0),(.int 0 0),(.int 0 0),(.int 3 0),(.ref 377),(.bool true),(.int 181 0),(.ref 378),.none,(.ref 379),(.ref 380),(.ref 381),(.int 706 0),(.int 272 0),(.str (.ofString "/claim/cut.py") 707)]),#[]⟩) ::
  (nat_lit 383,⟨(.type "function"),none,(.func ⟨(.ofString "one"),(.ofString "LineReader.one"),p41,(.stmts b41),c41,3,[],.none,.none,.none,(.str (.ofString "grammarmill.lines") 541),none,(.ref 382),.none,0⟩),#[]⟩) ::
  (nat_lit 384,⟨(.type "tuple"),none,(.seq #[] 0),#[]⟩) ::
  (nat_lit 386,⟨(.type "tuple"),none,(.seq #[(.str (.ofString "self") 712),(.str (.ofString "word") 713)] 0),#[]⟩) ::
  (nat_lit 387,⟨(.type "tuple"),none,(.seq #[] 0),#[]⟩) ::
  (nat_lit 389,⟨(.type "code"),none,(.fields #[(.str (.ofString "texts") 709),(.str (.ofString "LineReader.texts") 710),(.str (.ofString "/claim/cut.py") 711),(.int 275 0),(.int 2 0),(.int 0 0),(.int 0 0),(.int 3 0),(.ref 384),(.bool true),(.int 181 0),(.ref 385),.none,(.ref 386),(.ref 387),(.ref 388),(.int 714 0),(.int 275 0),(.str (.ofString "/claim/cut.py") 715)]),#[]⟩) ::
  (nat_lit 390,⟨(.type "function"),none,(.func ⟨(.ofString "texts"),(.ofString "LineReader.texts"),p42,(.stmts b42),c42,3,[],.none,.none,.none,(.str (.ofString "grammarmill.lines") 541),none,(.ref 389),.none,0⟩),#[]⟩) ::
  (nat_lit 391,⟨(.type "tuple"),none,(.seq #[] 0),#[]⟩) ::
  (nat_lit 393,⟨(.type "tuple"),none,(.seq #[(.str (.ofString "self") 720)] 0),#[]⟩) ::
  (nat_lit 394,⟨(.type "tuple"),none,(.seq #[] 0),#[]⟩) ::
  (nat_lit 396,⟨(.type "code"),none,(.fields #[(.str (.ofString "finish") 717),(.str (.ofString "LineReader.finish") 718),(.str (.ofString "/claim/cut.py") 719),(.int 278 0),(.int 1 0),(.int 0 0),(.int 0 0),(.int 3 0),(.ref 391),(.bool true),(.int 181 0),(.ref 392),.none,(.ref 393),(.ref 394),(.ref 395),(.int 721 0),(.int 278 0),(.str (.ofString "/claim/cut.py") 722)]),#[]⟩) ::
  (nat_lit 397,⟨(.type "function"),none,(.func ⟨(.ofString "finish"),(.ofString "LineReader.finish"),p43,(.stmts b43),c4,3,[],.none,.none,.none,(.str (.ofString "grammarmill.lines") 541),none,(.ref 396),.none,0⟩),#[]⟩) ::
  (nat_lit 398,⟨(.type "tuple"),none,(.seq #[] 0),#[]⟩) ::
  (nat_lit 400,⟨(.type "tuple"),none,(.seq #[(.str (.ofString "self") 727),(.str (.ofString "text") 728)] 0),#[]⟩) ::
  (nat_lit 401,⟨(.type "tuple"),none,(.seq #[] 0),#[]⟩) ::
  (nat_lit 403,⟨(.type "code"),none,(.fields #[(.str (.ofString "need_same") 724),(.str (.ofString "LineReader.need_same") 725),(.str (.ofString "/claim/cut.py") 726),(.int 286 0),(.int 2 0),(.int 0 0),(.int 0 0),(.int 3 0),(.ref 398),(.bool true),(.int 181 0),(.ref 399),.none,(.ref 400),(.ref 401),(.ref 402),(.int 729 0),(.int 286 0),(.str (.ofString "/claim/cut.py") 730)]),#[]⟩) ::
  (nat_lit 404,⟨(.type "function"),none,(.func ⟨(.ofString "need_same"),(.ofString "LineReader.need_same"),p44,(.stmts b44),c44,3,[],.none,.none,.none,(.str (.ofString "grammarmill.lines") 541),none,(.ref 403),.none,0⟩),#[]⟩) ::
  (nat_lit 405,⟨(.type "tuple"),none,(.seq #[(.str (.ofString "cursor") 732),(.str (.ofString "lines") 733)] 0),#[]⟩) ::
  (nat_lit 406,⟨(.type "dict"),none,(.dict (List.toArray (⟨(PySem.PyData.keyHash P (.ofString "__module__")),(.str (.ofString "__module__") 602),(.str (.ofString "grammarmill.lines") 541)⟩ :: ⟨(PySem.PyData.keyHash P (.ofString "__firstlineno__")),(.str (.ofString "__firstlineno__") 606),(.int 198 605)⟩ :: ⟨(PySem.PyData.keyHash P (.ofString "__init__")),(.str (.ofString "__init__") 614),(.ref 311)⟩ :: ⟨(PySem.PyData.keyHash P (.ofString "fail")),(.str (.ofString "fail") 622),(.ref 318)⟩ :: ⟨(PySem.PyData.keyHash P (.ofString "need")),(.str (.ofString "need") 630),(.ref 325)⟩ :: ⟨(PySem.PyData.keyHash P (.ofString "head")),(.str (.ofString "head") 638),(.ref 332)⟩ :: ⟨(PySem.PyData.keyHash P (.ofString "end_line")),(.str (.ofString "end_line") 645),(.ref 339)⟩ :: ⟨(PySem.PyData.keyHash P (.ofString "whole")),(.str (.ofString "whole") 654),(.ref 346)⟩ :: ⟨(PySem.PyData.keyHash P (.ofString "item")),(.str (.ofString "item") 664),(.ref 354)⟩ :: ⟨(PySem.PyData.keyHash P (.ofString "bracket")),(.str (.ofString "bracket") 673),(.ref 361)⟩ :: ⟨(PySem.PyData.keyHash P (.ofString "items")),(.str (.ofString "items") 684),(.ref 368)⟩ :: ⟨(PySem.PyData.keyHash P (.ofString "numbers")),(.str (.ofString "numbers") 698),(.ref 376)⟩ :: ⟨(PySem.PyData.keyHash P (.ofString "one")),(.str (.ofString "one") 708),(.ref 383)⟩ :: ⟨(PySem.PyData.keyHash P (.ofString "texts")),(.str (.ofString "texts") 716),(.ref 390)⟩ :: ⟨(PySem.PyData.keyHash P (.ofString "finish")),(.str (.ofString "finish") 723),(.ref 397)⟩ :: ⟨(PySem.PyData.keyHash P (.ofString "need_same")),(.str (.ofString "need_same") 731),(.ref 404)⟩ :: ⟨(PySem.PyData.keyHash P (.ofString "__static_attributes__")),(.str (.ofString "__static_attributes__") 734),(.ref 405)⟩ :: ⟨(PySem.PyData.keyHash P (.ofString "__dict__")),(.str (.ofString "__dict__") 736),(.ref 408)⟩ :: ⟨(PySem.PyData.keyHash P (.ofString "__weakref__")),(.str (.ofString "__weakref__") 738),(.ref 409)⟩ :: ⟨(PySem.PyData.keyHash P (.ofString "__doc__")),(.str (.ofString "__doc__") 739),.none⟩ :: [])) 4),#[]⟩) ::
  (nat_lit 407,⟨(.type "type"),none,(.cls ⟨(.ofString "LineReader"),[(.type "object")],[(.ref 407),(.type "object")],406,(.ofString "LineReader"),true,[],[],false,none,false⟩),#[none,none,(some (.str (.ofString "LineReader") 595)),(some (.str (.ofString "LineReader") 603)),(some (.builtin "object.__new__")),(some (.bool true))]⟩) ::
  (nat_lit 408,⟨(.type "getset_descriptor"),none,(.fields #[(.str (.ofString "__dict__") 735),(.ref 407),(.builtin "function.__dict__"),(.builtin "function.__dict__#set")]),#[]⟩) ::
  (nat_lit 409,⟨(.type "getset_descriptor"),none,(.fields #[(.str (.ofString "__weakref__") 737),(.ref 407),(.builtin "ExceptionGroup.__weakref__"),.none]),#[]⟩) ::
  (nat_lit 412,⟨(.type "tuple"),none,(.seq #[] 0),#[]⟩) ::
  (nat_lit 415,⟨(.type "code"),none,(.fields #[(.str (.ofString "_law_jug") 744),(.str (.ofString "_law_jug") 745),(.str (.ofString "/claim/cut.py") 746),(.int 289 0),(.int 1 0),(.int 0 0),(.int 0 0),(.int 3 0),(.ref 412),(.bool true),(.int 181 0),(.ref 413),.none,.none,.none,(.ref 414),(.int 747 0),(.int 289 0),(.str (.ofString "/claim/cut.py") 748)]),#[]⟩) ::
  (nat_lit 416,⟨(.type "function"),none,(.func ⟨(.ofString "_law_jug"),(.ofString "_law_jug"),p45,(.stmts b45),c45,3,[],.none,.none,.none,(.str (.ofString "law_sf0019_01") 742),none,(.ref 415),.none,0⟩),#[]⟩) ::
  (nat_lit 417,⟨(.type "tuple"),none,(.seq #[] 0),#[]⟩) ::
  (nat_lit 419,⟨(.type "tuple"),none,(.seq #[(.str (.ofString "jug") 753),(.str (.ofString "many") 754),(.str (.ofString "cells") 755),(.str (.ofString "turn") 756),(.str (.ofString "worth") 757)] 0),#[]⟩) ::
  (nat_lit 420,⟨(.type "tuple"),none,(.seq #[] 0),#[]⟩) ::
  (nat_lit 422,⟨(.type "code"),none,(.fields #[(.str (.ofString "_law_sip") 750),(.str (.ofString "_law_sip") 751),(.str (.ofString "/claim/cut.py") 752),(.int 291 0),(.int 2 0),(.int 0 0),(.int 0 0),(.int 3 0),(.ref 417),(.bool true),(.int 181 0),(.ref 418),.none,(.ref 419),(.ref 420),(.ref 421),(.int 758 0),(.int 291 0),(.str (.ofString "/claim/cut.py") 759)]),#[]⟩) ::
  (nat_lit 423,⟨(.type "function"),none,(.func ⟨(.ofString "_law_sip"),(.ofString "_law_sip"),p46,(.stmts b46),c46,3,[],.none,.none,.none,(.str (.ofString "law_sf0019_01") 742),none,(.ref 422),.none,0⟩),#[]⟩) ::
  (nat_lit 424,⟨(.type "tuple"),none,(.seq #[] 0),#[]⟩) ::
  (nat_lit 427,⟨(.type "code"),none,(.fields #[(.str (.ofString "_law_parts") 761),(.str (.ofString "_law_parts") 762),(.str (.ofString "/claim/cut.py") 763),(.int 299 0),(.int 1 0),(.int 0 0),(.int 0 0),(.int 3 0),(.ref 424),(.bool true),(.int 181 0),(.ref 425),.none,.none,.none,(.ref 426),(.int 764 0),(.int 299 0),(.str (.ofString "/claim/cut.py") 765)]),#[]⟩) ::
  (nat_lit 428,⟨(.type "function"),none,(.func ⟨(.ofString "_law_parts"),(.ofString "_law_parts"),p47,(.stmts b47),c47,3,[],.none,.none,.none,(.str (.ofString "law_sf0019_01") 742),none,(.ref 427),.none,0⟩),#[]⟩) ::
  (nat_lit 429,⟨(.type "tuple"),none,(.seq #[] 0),#[]⟩) ::
  (nat_lit 431,⟨(.type "tuple"),none,(.seq #[(.str (.ofString "items") 770)] 0),#[]⟩) ::
  (nat_lit 432,⟨(.type "tuple"),none,(.seq #[] 0),#[]⟩) ::
  (nat_lit 434,⟨(.type "code"),none,(.fields #[(.str (.ofString "_law_line") 767),(.str (.ofString "_law_line") 768),(.str (.ofString "/claim/cut.py") 769),(.int 307 0),(.int 1 0),(.int 0 0),(.int 0 0),(.int 3 0),(.ref 429),(.bool true),(.int 181 0),(.ref 430),.none,(.ref 431),(.ref 432),(.ref 433),(.int 771 0),(.int 307 0),(.str (.ofString "/claim/cut.py") 772)]),#[]⟩) ::
  (nat_lit 435,⟨(.type "function"),none,(.func ⟨(.ofString "_law_line"),(.ofString "_law_line"),p48,(.stmts b48),c48,3,[],.none,.none,.none,(.str (.ofString "law_sf0019_01") 742),none,(.ref 434),.none,0⟩),#[]⟩) ::
  (nat_lit 436,⟨(.type "tuple"),none,(.seq #[] 0),#[]⟩) ::
  (nat_lit 438,⟨(.type "tuple"),none,(.seq #[(.str (.ofString "line") 777),(.str (.ofString "many") 778),(.str (.ofString "reader") 779),(.str (.ofString "given") 780)] 0),#[]⟩) ::
  (nat_lit 439,⟨(.type "tuple"),none,(.seq #[] 0),#[]⟩) ::
  (nat_lit 441,⟨(.type "code"),none,(.fields #[(.str (.ofString "_law_read") 774),(.str (.ofString "_law_read") 775),(.str (.ofString "/claim/cut.py") 776),(.int 309 0),(.int 2 0),(.int 0 0),(.int 0 0),(.int 3 0),(.ref 436),(.bool true),(.int 181 0),(.ref 437),.none,(.ref 438),(.ref 439),(.ref 440),(.int 781 0),(.int 309 0),(.str (.ofString "/claim/cut.py") 782)]),#[]⟩) ::
  (nat_lit 442,⟨(.type "function"),none,(.func ⟨(.ofString "_law_read"),(.ofString "_law_read"),p49,(.stmts b49),c49,3,[],.none,.none,.none,(.str (.ofString "law_sf0019_01") 742),none,(.ref 441),.none,0⟩),#[]⟩) ::
  (nat_lit 443,⟨(.type "tuple"),none,(.seq #[] 0),#[]⟩) ::
  (nat_lit 446,⟨(.type "code"),none,(.fields #[(.str (.ofString "law") 784),(.str (.ofString "law") 785),(.str (.ofString "/claim/cut.py") 786),(.int 317 0),(.int 1 0),(.int 0 0),(.int 0 0),(.int 3 0),(.ref 443),(.bool true),(.int 181 0),(.ref 444),.none,.none,.none,(.ref 445),(.int 787 0),(.int 317 0),(.str (.ofString "/claim/cut.py") 788)]),#[]⟩) ::
  (nat_lit 447,⟨(.type "function"),none,(.func ⟨(.ofString "law"),(.ofString "law"),p50,(.stmts b50),c50,3,[],.none,.none,.none,(.str (.ofString "law_sf0019_01") 742),none,(.ref 446),.none,0⟩),#[]⟩) :: []
noncomputable def hd.view_39 : Program :=
  letI a0 : Stmt := _
  letI a1 : Stmt := _
  letI a2 : Stmt := _
  letI a3 : Stmt := _
  letI a4 : Stmt := _
  letI a5 : Stmt := _
  letI a6 : Stmt := _
  letI a7 : Stmt := _
  letI a8 : Stmt := _
  letI a9 : Stmt := _
  letI a10 : Stmt := _
  letI a11 : Stmt := _
  letI a12 : Stmt := _
  letI a13 : Stmt := _
  letI a14 : Stmt := _
  letI a15 : Stmt := _
  letI a16 : Stmt := _
  letI a17 : Stmt := _
  letI a18 : Stmt := _
  letI a19 : Stmt := _
  letI a20 : Stmt := _
  letI a21 : Stmt := _
  letI a22 : Stmt := _
  letI a23 : Stmt := _
  letI a24 : Stmt := _
  letI a25 : Stmt := _
  letI a26 : Stmt := _
  letI a27 : Stmt := _
  letI a28 : Stmt := _
  letI a29 : Stmt := _
  letI a30 : Stmt := _
  letI a31 : Stmt := _
  haveI : PySem.Challenge.pw_sf0019_01.main.body = [a0, a1, a2, a3, a4, a5, a6, a7, a8, a9, a10, a11, a12, a13, a14, a15, a16, a17, a18, a19, a20, a21, a22, a23, a24, a25, a26, a27, a28, a29, a30, a31] := rfl
  { PySem.Challenge.rw_sf0019_01.row.toRowW.1 with main := { PySem.Challenge.rw_sf0019_01.row.toRowW.1.main with body := [a0, a2, a3, a4, a6, a7, a8, a9, a10, a11, a12, a13, a14, a15, a16, a17, a18, a20, a21, a22, a23, a24, a26, a27, a28, a29, a30, a31] } }
theorem left_run {p q : Program} {loose : List Str} {Xt : Shared → Bool} {α : Type} {Yf : Shared → α} {Ya : World → α} {N M : Nat} {H : Params → Heap} {gs : Array GenState} {d : Drawn} {k m₀ : Nat} {ann : Option Value}
    (ho : ∀ w : World, (fencedOpening treeTable p w N).map (fun s => (s.heap, s.gens, s.drawn, s.toks)) = some (H w.params, gs, d, k))
    (hz : ∀ w : World, ((H w.params).isNs mainGlobals && gs.size == 0, (H w.params).objs.size, (H w.params).nsMap mainGlobals "__annotations__") = (true, m₀, ann))
    (le : M ≤ N)
    (run : ∀ (w : World) (os : OsState), ∃ s, topRun treeTable p w m₀ ann M ⟨H w.params, gs, d, k, os⟩ (topStub p) = some s ∧
      ((staticsOk (importedModules p.main.body) (H w.params) s.heap && namesBound p s.heap && gensDone s && laidKept (H w.params) s.heap), openSeen q loose (importedModules p.main.body) Xt true s, Yf s) = (true, openGood q loose, Ya w)) :
    LeftO p q loose Xt Yf Ya N := fun w => by
  obtain ⟨⟨h, gs', d', k', os⟩, e, e'⟩ := Option.map_eq_some_iff.mp (ho w)
  simp only [Prod.mk.injEq] at e'
  obtain ⟨rfl, rfl, rfl, rfl⟩ := e'
  have z := hz w
  simp only [Prod.mk.injEq] at z
  obtain ⟨z1, z2, z3⟩ := z
  obtain ⟨s, r, l⟩ := run w os
  simp only [Prod.mk.injEq] at l
  obtain ⟨l1, l2, l3⟩ := l
  have r2 := topRun_mono (N - M) _ _ _ _ r
  rw [Nat.add_sub_cancel' le] at r2
  unfold openEnds
  rw [e, Option.bind_some]
  unfold topFrom
  dsimp only
  rw [z1, z2, z3, r2, Option.bind_some]
  dsimp only
  rw [l1]
  dsimp only
  rw [Option.map_some, l2, l3]
noncomputable abbrev pE : Program := PySem.Challenge.rw_sf0019_01.row.toRowW.1
noncomputable abbrev bE : List Stmt := behindTheImports pE
noncomputable def envE : Env := { scope := pE.main.scope, locals := mainNs, globals := mainNs, cells := [], code := .ref 13, frame := some 14 }
noncomputable abbrev cE : Code := .body bE envE
noncomputable abbrev q0 : Pos := ⟨0, 0, 0, 0⟩
noncomputable abbrev fr0 : List Frame := [topFrame q0]
noncomputable abbrev ann0 : Option Value := some (.ref 6)
noncomputable abbrev aO : Obj := { cls := .type "tuple", data := .seq #[] 0 }
noncomputable abbrev bO : Obj := { cls := .none, data := .fields #[] }
noncomputable abbrev cO : Obj := { cls := .type "code", data := .fields #[.str (.ofString "<module>") 182, .str (.ofString "<module>") 183, .str (.ofString "/claim/cut.py") 184, .int 1 0, .int 0 0, .int 0 0, .int 0 0, .int 0 0, .ref 11, .bool false, .int 181 0, .ref 12, .none, .none, .none, .none, .int 185 0, .int 1 0, .str (.ofString "/claim/cut.py") 186] }
noncomputable abbrev dO : Obj := { cls := .type "frame", data := .plain, slots := #[some (.ref 13), some (.ref 3), some (.ref 3), none, some (.str (.ofString "__main__") 164), none, some (.ref 0)] }
noncomputable def heapA (P : Params) : Heap := { objs := ⟨[boot_o_0 P, boot_o_1 P, boot_o_2 P, boot_o_3 P, boot_o_4 P, boot_o_5 P, boot_o_6 P, boot_o_7 P, boot_o_8 P, boot_o_9 P, boot_o_10 P, aO, bO, cO, dO]⟩ }
noncomputable def treeA (P : Params) : BT :=
  .node (boot_o_0 P)
    (.node (boot_o_1 P) (.node (boot_o_3 P) (.node (boot_o_7 P) .nil .nil) (.node aO .nil .nil)) (.node (boot_o_5 P) (.node (boot_o_9 P) .nil .nil) (.node cO .nil .nil)))
    (.node (boot_o_2 P) (.node (boot_o_4 P) (.node (boot_o_8 P) .nil .nil) (.node bO .nil .nil)) (.node (boot_o_6 P) (.node (boot_o_10 P) .nil .nil) (.node dO .nil .nil)))
noncomputable abbrev stA (w : World) (os : OsState) : Shared := ⟨heapA w.params, #[], {}, 187, os⟩
noncomputable abbrev stB (w : World) (os : OsState) : SharedT := ⟨treeA w.params, 15, {}, #[], {}, 187, os⟩
noncomputable abbrev lo0 : List Str := [.ofString "HEX_SIGNS", .ofString "PLAIN_ESCAPES", .ofString "ToolError"]
noncomputable abbrev lv0 : List (Str × WData) := [(.ofString "HEX_SIGNS", .str ⟨#[48, 49, 50, 51, 52, 53, 54, 55, 56, 57, 97, 98, 99, 100, 101, 102, 65, 66, 67, 68, 69, 70]⟩)]
noncomputable abbrev xt0 : Shared → Bool := fun s => xlAt hd.view_39 lv0 s && recOk (RowW.records PySem.Challenge.rw_sf0019_01.row.toRowW) s
noncomputable abbrev AS39 : List Addr := [nat_lit 2, nat_lit 3, nat_lit 15, nat_lit 17, nat_lit 18, nat_lit 20, nat_lit 21, nat_lit 22, nat_lit 24, nat_lit 25, nat_lit 27, nat_lit 28, nat_lit 29, nat_lit 31, nat_lit 32, nat_lit 34, nat_lit 35, nat_lit 36, nat_lit 44, nat_lit 46, nat_lit 47, nat_lit 49, nat_lit 50, nat_lit 51, nat_lit 53, nat_lit 54, nat_lit 56, nat_lit 57, nat_lit 58, nat_lit 59, nat_lit 60, nat_lit 61, nat_lit 62, nat_lit 65, nat_lit 67, nat_lit 68, nat_lit 70, nat_lit 71, nat_lit 72, nat_lit 79, nat_lit 80, nat_lit 82, nat_lit 83, nat_lit 85, nat_lit 86, nat_lit 87, nat_lit 89, nat_lit 90, nat_lit 92, nat_lit 93, nat_lit 94, nat_lit 95, nat_lit 96, nat_lit 97, nat_lit 100, nat_lit 107, nat_lit 108, nat_lit 109, nat_lit 119, nat_lit 120, nat_lit 122, nat_lit 123, nat_lit 125, nat_lit 126, nat_lit 127, nat_lit 129, nat_lit 130, nat_lit 132, nat_lit 133, nat_lit 134, nat_lit 135, nat_lit 137, nat_lit 138, nat_lit 140, nat_lit 141, nat_lit 142, nat_lit 144, nat_lit 145, nat_lit 147, nat_lit 148, nat_lit 149, nat_lit 151, nat_lit 152, nat_lit 154, nat_lit 155, nat_lit 156, nat_lit 158, nat_lit 159, nat_lit 161, nat_lit 162, nat_lit 163, nat_lit 165, nat_lit 166, nat_lit 168, nat_lit 169, nat_lit 170, nat_lit 172, nat_lit 173, nat_lit 175, nat_lit 176, nat_lit 177, nat_lit 178, nat_lit 180, nat_lit 181, nat_lit 183, nat_lit 184, nat_lit 185, nat_lit 187, nat_lit 188, nat_lit 190, nat_lit 191, nat_lit 192, nat_lit 194, nat_lit 195, nat_lit 197, nat_lit 198, nat_lit 199, nat_lit 201, nat_lit 202, nat_lit 204, nat_lit 205, nat_lit 206, nat_lit 208, nat_lit 209, nat_lit 211, nat_lit 212, nat_lit 213, nat_lit 215, nat_lit 216, nat_lit 218, nat_lit 219, nat_lit 220, nat_lit 222, nat_lit 223, nat_lit 225, nat_lit 226, nat_lit 227, nat_lit 229, nat_lit 230, nat_lit 232, nat_lit 233, nat_lit 234, nat_lit 235, nat_lit 236, nat_lit 237, nat_lit 238, nat_lit 241, nat_lit 243, nat_lit 244, nat_lit 246, nat_lit 247, nat_lit 248, nat_lit 250, nat_lit 251, nat_lit 253, nat_lit 254, nat_lit 255, nat_lit 258, nat_lit 259, nat_lit 260, nat_lit 263, nat_lit 264, nat_lit 272, nat_lit 274, nat_lit 275, nat_lit 277, nat_lit 278, nat_lit 279, nat_lit 282, nat_lit 283, nat_lit 284, nat_lit 286, nat_lit 287, nat_lit 289, nat_lit 290, nat_lit 291, nat_lit 292, nat_lit 293, nat_lit 294, nat_lit 295, nat_lit 305, nat_lit 307, nat_lit 308, nat_lit 310, nat_lit 311, nat_lit 312, nat_lit 314, nat_lit 315, nat_lit 317, nat_lit 318, nat_lit 319, nat_lit 321, nat_lit 322, nat_lit 324, nat_lit 325, nat_lit 326, nat_lit 328, nat_lit 329, nat_lit 331, nat_lit 332, nat_lit 333, nat_lit 335, nat_lit 336, nat_lit 338, nat_lit 339, nat_lit 340, nat_lit 342, nat_lit 343, nat_lit 345, nat_lit 346, nat_lit 347, nat_lit 348, nat_lit 350, nat_lit 351, nat_lit 353, nat_lit 354, nat_lit 355, nat_lit 357, nat_lit 358, nat_lit 360, nat_lit 361, nat_lit 362, nat_lit 364, nat_lit 365, nat_lit 367, nat_lit 368, nat_lit 369, nat_lit 370, nat_lit 372, nat_lit 373, nat_lit 375, nat_lit 376, nat_lit 377, nat_lit 379, nat_lit 380, nat_lit 382, nat_lit 383, nat_lit 384, nat_lit 386, nat_lit 387, nat_lit 389, nat_lit 390, nat_lit 391, nat_lit 393, nat_lit 394, nat_lit 396, nat_lit 397, nat_lit 398, nat_lit 400, nat_lit 401, nat_lit 403, nat_lit 404, nat_lit 405, nat_lit 406, nat_lit 407, nat_lit 408, nat_lit 409, nat_lit 412, nat_lit 415, nat_lit 416, nat_lit 417, nat_lit 419, nat_lit 420, nat_lit 422, nat_lit 423, nat_lit 424, nat_lit 427, nat_lit 428, nat_lit 429, nat_lit 431, nat_lit 432, nat_lit 434, nat_lit 435, nat_lit 436, nat_lit 438, nat_lit 439, nat_lit 441, nat_lit 442, nat_lit 443, nat_lit 446, nat_lit 447]
theorem as_eq (P : Params) : AS39 = (hd.heap_39 P).map (·.1) := by kernel_rfl
noncomputable abbrev hook0 : Hook := kHook hd.heap_39 AS39 as_eq
theorem open_w : ∀ w : World, (fencedOpening treeTable pE w 6162).map (fun s => (s.heap, s.gens, s.drawn, s.toks)) = some (boot_heap w.params, ⟨[]⟩, boot_drawn, boot_toks) :=
  boot_open (by kernel_rfl) (by decide) (fun s => by kernel_rfl)
theorem size_w : ∀ w : World, ((boot_heap w.params).isNs mainGlobals && (⟨[]⟩ : Array GenState).size == 0, (boot_heap w.params).objs.size, (boot_heap w.params).nsMap mainGlobals "__annotations__") = (true, 11, ann0) := fun w => by kernel_rfl
theorem pre_w (w : World) : (fun os => topGo treeTable pE w 11 ann0 12 ⟨boot_heap w.params, ⟨[]⟩, boot_drawn, boot_toks, os⟩ (topStub pE)) = fun os => some (stA w os, ⟨denote treeTable cE, cE, q0, fr0⟩) := by kernel_rfl
theorem block_w (w : World) : (fun os => segRun treeTable pE w 11 ann0 1 1 (stA w os) (blockOf bE envE cE q0 fr0)) = fun os => some (.next, (stB w os).abs, cE, q0) := by kernel_rfl
noncomputable def prm : Option Stmt → Arguments
  | some (.FunctionDef _ a _ _ _ _ _ _ _ _) => a
  | _ => default
noncomputable def bdy : Option Stmt → List Stmt
  | some (.FunctionDef _ _ b _ _ _ _ _ _ _) => b
  | _ => []
noncomputable def scp : Option Stmt → Scope
  | some (.FunctionDef _ _ _ _ _ _ c _ _ _) => c
  | _ => default

noncomputable def finL (P : Params) : List Obj := [(boot_o_0 P), (boot_o_1 P), ⟨.none,none,(.dict #[⟨(PySem.PyData.keyHash P (.ofString "type.__subclasses__.Exception.0")),(.str (.ofString "type.__subclasses__.Exception.0") 339),(.int 96 0)⟩,⟨(PySem.PyData.keyHash P (.ofString "type.__subclasses__.Exception.n")),(.str (.ofString "type.__subclasses__.Exception.n") 340),(.int 1 0)⟩] 2),#[]⟩, ⟨(.type "dict"),none,(.dict #[⟨(PySem.PyData.keyHash P (.ofString "__name__")),(.str (.ofString "__name__") 165),(.str (.ofString "law_sf0019_01") 742)⟩,⟨(PySem.PyData.keyHash P (.ofString "__doc__")),(.str (.ofString "__doc__") 166),.none⟩,⟨(PySem.PyData.keyHash P (.ofString "__package__")),(.str (.ofString "__package__") 167),.none⟩,⟨(PySem.PyData.keyHash P (.ofString "__loader__")),(.str (.ofString "__loader__") 168),(.builtin "__main__.__loader__#opaque")⟩,⟨(PySem.PyData.keyHash P (.ofString "__spec__")),(.str (.ofString "__spec__") 169),.none⟩,⟨(PySem.PyData.keyHash P (.ofString "__annotations__")),(.str (.ofString "__annotations__") 170),(.ref 6)⟩,⟨(PySem.PyData.keyHash P (.ofString "__builtins__")),(.str (.ofString "__builtins__") 171),(.ref 4)⟩,⟨(PySem.PyData.keyHash P (.ofString "__file__")),(.str (.ofString "__file__") 173),(.str (.ofString "/claim/cut.py") 172)⟩,⟨(PySem.PyData.keyHash P (.ofString "__cached__")),(.str (.ofString "__cached__") 174),.none⟩,⟨(PySem.PyData.keyHash P (.ofString "_wall")),(.str (.ofString "_wall") 193),(.ref 21)⟩,⟨(PySem.PyData.keyHash P (.ofString "PART")),(.str (.ofString "PART") 197),(.int 500 196)⟩,⟨(PySem.PyData.keyHash P (.ofString "mask_item")),(.str (.ofString "mask_item") 206),(.ref 28)⟩,⟨(PySem.PyData.keyHash P (.ofString "read_masks")),(.str (.ofString "read_masks") 219),(.ref 35)⟩,⟨(PySem.PyData.keyHash P (.ofString "FIGURES")),(.str (.ofString "FIGURES") 223),(.str (.ofString "0123456789") 222)⟩,⟨(PySem.PyData.keyHash P (.ofString "HEX_SIGNS")),(.str (.ofString "HEX_SIGNS") 226),(.str (.ofString "0123456789abcdefABCDEF") 225)⟩,⟨(PySem.PyData.keyHash P (.ofString "OCTAL_SIGNS")),(.str (.ofString "OCTAL_SIGNS") 228),(.str (.ofString "01234567") 227)⟩,⟨(PySem.PyData.keyHash P (.ofString "MOST_FIGURES_source")),(.str (.ofString "MOST_FIGURES_source") 230),(.int 4000 229)⟩,⟨(PySem.PyData.keyHash P (.ofString "PLAIN_ESCAPES")),(.str (.ofString "PLAIN_ESCAPES") 252),(.ref 36)⟩,⟨(PySem.PyData.keyHash P (.ofString "Position")),(.str (.ofString "Position") 292),(.ref 60)⟩,⟨(PySem.PyData.keyHash P (.ofString "position_of")),(.str (.ofString "position_of") 304),(.ref 71)⟩,⟨(PySem.PyData.keyHash P (.ofString "ToolError")),(.str (.ofString "ToolError") 342),(.ref 96)⟩,⟨(PySem.PyData.keyHash P (.ofString "TableError")),(.str (.ofString "TableError") 358),(.ref 109)⟩,⟨(PySem.PyData.keyHash P (.ofString "Cursor")),(.str (.ofString "Cursor") 517),(.ref 236)⟩,⟨(PySem.PyData.keyHash P (.ofString "hex_escape")),(.str (.ofString "hex_escape") 525),(.ref 247)⟩,⟨(PySem.PyData.keyHash P (.ofString "escaped_sign")),(.str (.ofString "escaped_sign") 534),(.ref 254)⟩,⟨(PySem.PyData.keyHash P (.ofString "escaped")),(.str (.ofString "escaped") 540),(.ref 259)⟩,⟨(PySem.PyData.keyHash P (.ofString "MOST_DEPTH")),(.str (.ofString "MOST_DEPTH") 544),(.int 2 543)⟩,⟨(PySem.PyData.keyHash P (.ofString "MOST_FIGURES_lines")),(.str (.ofString "MOST_FIGURES_lines") 546),(.int 160 545)⟩,⟨(PySem.PyData.keyHash P (.ofString "show_item")),(.str (.ofString "show_item") 552),(.ref 264)⟩,⟨(PySem.PyData.keyHash P (.ofString "LineWriter")),(.str (.ofString "LineWriter") 594),(.ref 293)⟩,⟨(PySem.PyData.keyHash P (.ofString "LineReader")),(.str (.ofString "LineReader") 741),(.ref 407)⟩,⟨(PySem.PyData.keyHash P (.ofString "_law_jug")),(.str (.ofString "_law_jug") 749),(.ref 416)⟩,⟨(PySem.PyData.keyHash P (.ofString "_law_sip")),(.str (.ofString "_law_sip") 760),(.ref 423)⟩,⟨(PySem.PyData.keyHash P (.ofString "_law_parts")),(.str (.ofString "_law_parts") 766),(.ref 428)⟩,⟨(PySem.PyData.keyHash P (.ofString "_law_line")),(.str (.ofString "_law_line") 773),(.ref 435)⟩,⟨(PySem.PyData.keyHash P (.ofString "_law_read")),(.str (.ofString "_law_read") 783),(.ref 442)⟩,⟨(PySem.PyData.keyHash P (.ofString "law")),(.str (.ofString "law") 789),(.ref 447)⟩] 37),#[]⟩, (boot_o_4 P), (boot_o_5 P), (boot_o_6 P), (boot_o_7 P), (boot_o_8 P), (boot_o_9 P), (boot_o_10 P), ⟨(.type "tuple"),none,(.seq #[] 0),#[]⟩, ⟨.none,none,(.fields #[(.int 1 0),(.int 0 0),(.ref 20),(.int 6 0),(.int 0 0),(.ref 27),(.int 13 0),(.int 0 0),(.ref 34),(.int 34 0),(.int 0 0),(.ref 42),(.int 43 0),(.int 0 0),(.ref 70),(.int 52 0),(.int 0 0),(.ref 77),(.int 63 0),(.int 0 0),(.ref 105),(.int 65 0),(.int 0 0),(.ref 117),(.int 159 0),(.int 0 0),(.ref 246),(.int 162 0),(.int 0 0),(.ref 253),(.int 175 0),(.int 0 0),(.ref 258),(.int 180 0),(.int 0 0),(.ref 263),(.int 188 0),(.int 0 0),(.ref 270),(.int 198 0),(.int 0 0),(.ref 303),(.int 289 0),(.int 0 0),(.ref 415),(.int 291 0),(.int 0 0),(.ref 422),(.int 299 0),(.int 0 0),(.ref 427),(.int 307 0),(.int 0 0),(.ref 434),(.int 309 0),(.int 0 0),(.ref 441),(.int 317 0),(.int 0 0),(.ref 446)]),#[]⟩, ⟨(.type "code"),none,(.fields #[(.str (.ofString "<module>") 182),(.str (.ofString "<module>") 183),(.str (.ofString "/claim/cut.py") 184),(.int 1 0),(.int 0 0),(.int 0 0),(.int 0 0),(.int 0 0),(.ref 11),(.bool false),(.int 181 0),(.ref 12),.none,.none,.none,.none,(.int 185 0),(.int 1 0),(.str (.ofString "/claim/cut.py") 186)]),#[]⟩, ⟨(.type "frame"),none,.plain,#[(some (.ref 13)),(some (.ref 3)),(some (.ref 3)),none,(some (.str (.ofString "__main__") 164)),none,(some (.ref 0))]⟩, ⟨(.type "tuple"),none,(.seq #[] 0),#[]⟩, ⟨.none,none,(.fields #[]),#[]⟩, ⟨(.type "tuple"),none,(.seq #[(.str (.ofString "k") 190)] 0),#[]⟩, ⟨(.type "tuple"),none,(.seq #[] 0),#[]⟩, ⟨.none,none,(.func ⟨(.ofString "_wall"),(.ofString "_wall"),(prm (stAt 0)),(.stmts (bdy (stAt 0))),(scp (stAt 0)),0,[],.none,.none,.none,.none,none,.none,.none,0⟩),#[]⟩, ⟨(.type "code"),none,(.fields #[(.str (.ofString "_wall") 187),(.str (.ofString "_wall") 188),(.str (.ofString "/claim/cut.py") 189),(.int 1 0),(.int 1 0),(.int 0 0),(.int 0 0),(.int 3 0),(.ref 15),(.bool true),(.int 181 0),(.ref 16),.none,(.ref 17),(.ref 18),(.ref 19),(.int 191 0),(.int 1 0),(.str (.ofString "/claim/cut.py") 192)]),#[]⟩, ⟨(.type "function"),none,(.func ⟨(.ofString "_wall"),(.ofString "_wall"),(prm (stAt 0)),(.stmts (bdy (stAt 0))),(scp (stAt 0)),3,[],.none,.none,.none,(.str (.ofString "__main__") 164),none,(.ref 20),.none,0⟩),#[]⟩, ⟨(.type "tuple"),none,(.seq #[] 0),#[]⟩, ⟨.none,none,(.fields #[]),#[]⟩, ⟨(.type "tuple"),none,(.seq #[(.str (.ofString "mask") 201),(.str (.ofString "parts") 202),(.str (.ofString "left") 203)] 0),#[]⟩, ⟨(.type "tuple"),none,(.seq #[] 0),#[]⟩, ⟨.none,none,(.func ⟨(.ofString "mask_item"),(.ofString "mask_item"),(prm (stAt 3)),(.stmts (bdy (stAt 3))),(scp (stAt 3)),0,[],.none,.none,.none,.none,none,.none,.none,0⟩),#[]⟩, ⟨(.type "code"),none,(.fields #[(.str (.ofString "mask_item") 198),(.str (.ofString "mask_item") 199),(.str (.ofString "/claim/cut.py") 200),(.int 6 0),(.int 1 0),(.int 0 0),(.int 0 0),(.int 3 0),(.ref 22),(.bool true),(.int 181 0),(.ref 23),.none,(.ref 24),(.ref 25),(.ref 26),(.int 204 0),(.int 6 0),(.str (.ofString "/claim/cut.py") 205)]),#[]⟩, ⟨(.type "function"),none,(.func ⟨(.ofString "mask_item"),(.ofString "mask_item"),(prm (stAt 3)),(.stmts (bdy (stAt 3))),(scp (stAt 3)),3,[],.none,.none,.none,(.str (.ofString "grammarmill.texts") 194),none,(.ref 27),.none,0⟩),#[]⟩, ⟨(.type "tuple"),none,(.seq #[] 0),#[]⟩, ⟨.none,none,(.fields #[]),#[]⟩, ⟨(.type "tuple"),none,(.seq #[(.str (.ofString "reader") 210),(.str (.ofString "many") 211),(.str (.ofString "found") 212),(.str (.ofString "item") 213),(.str (.ofString "mask") 214),(.str (.ofString "parts") 215),(.str (.ofString "at") 216)] 0),#[]⟩, ⟨(.type "tuple"),none,(.seq #[] 0),#[]⟩, ⟨.none,none,(.func ⟨(.ofString "read_masks"),(.ofString "read_masks"),(prm (stAt 4)),(.stmts (bdy (stAt 4))),(scp (stAt 4)),0,[],.none,.none,.none,.none,none,.none,.none,0⟩),#[]⟩, ⟨(.type "code"),none,(.fields #[(.str (.ofString "read_masks") 207),(.str (.ofString "read_masks") 208),(.str (.ofString "/claim/cut.py") 209),(.int 13 0),(.int 2 0),(.int 0 0),(.int 0 0),(.int 3 0),(.ref 29),(.bool true),(.int 181 0),(.ref 30),.none,(.ref 31),(.ref 32),(.ref 33),(.int 217 0),(.int 13 0),(.str (.ofString "/claim/cut.py") 218)]),#[]⟩, ⟨(.type "function"),none,(.func ⟨(.ofString "read_masks"),(.ofString "read_masks"),(prm (stAt 4)),(.stmts (bdy (stAt 4))),(scp (stAt 4)),3,[],.none,.none,.none,(.str (.ofString "grammarmill.texts") 194),none,(.ref 34),.none,0⟩),#[]⟩, ⟨(.type "dict"),none,(.dict #[⟨(PySem.PyData.keyHash P (.ofString "n")),(.str (.ofString "n") 231),(.int 10 232)⟩,⟨(PySem.PyData.keyHash P (.ofString "t")),(.str (.ofString "t") 233),(.int 9 234)⟩,⟨(PySem.PyData.keyHash P (.ofString "r")),(.str (.ofString "r") 235),(.int 13 236)⟩,⟨(PySem.PyData.keyHash P (.ofString "f")),(.str (.ofString "f") 237),(.int 12 238)⟩,⟨(PySem.PyData.keyHash P (.ofString "v")),(.str (.ofString "v") 239),(.int 11 240)⟩,⟨(PySem.PyData.keyHash P (.ofString "a")),(.str (.ofString "a") 241),(.int 7 242)⟩,⟨(PySem.PyData.keyHash P (.ofString "b")),(.str (.ofString "b") 243),(.int 8 244)⟩] 7),#[]⟩, ⟨(.type "tuple"),none,(.seq #[] 0),#[]⟩, ⟨(.type "builtin_function_or_method"),none,(.fields #[(.builtin "type.__prepare__"),(.type "type")]),#[]⟩, ⟨(.type "dict"),none,(.dict #[⟨(PySem.PyData.keyHash P (.ofString "__module__")),(.str (.ofString "__module__") 260),(.str (.ofString "grammarmill.source") 220)⟩,⟨(PySem.PyData.keyHash P (.ofString "__qualname__")),(.str (.ofString "__qualname__") 262),(.str (.ofString "Position") 261)⟩,⟨(PySem.PyData.keyHash P (.ofString "__firstlineno__")),(.str (.ofString "__firstlineno__") 264),(.int 34 263)⟩,⟨(PySem.PyData.keyHash P (.ofString "__init__")),(.str (.ofString "__init__") 274),(.ref 50)⟩,⟨(PySem.PyData.keyHash P (.ofString "told")),(.str (.ofString "told") 281),(.ref 57)⟩,⟨(PySem.PyData.keyHash P (.ofString "__static_attributes__")),(.str (.ofString "__static_attributes__") 285),(.ref 58)⟩] 6),#[]⟩, ⟨(.type "tuple"),none,(.seq #[] 0),#[]⟩, ⟨.none,none,(.fields #[(.int 36 0),(.int 4 0),(.ref 49),(.int 41 0),(.int 4 0),(.ref 56)]),#[]⟩, ⟨(.type "code"),none,(.fields #[(.str (.ofString "Position") 255),(.str (.ofString "Position") 256),(.str (.ofString "/claim/cut.py") 257),(.int 34 0),(.int 0 0),(.int 0 0),(.int 0 0),(.int 0 0),(.ref 40),(.bool false),(.int 181 0),(.ref 41),.none,.none,.none,.none,(.int 258 0),(.int 34 0),(.str (.ofString "/claim/cut.py") 259)]),#[]⟩, ⟨(.type "frame"),none,.plain,#[(some (.ref 42)),(some (.ref 3)),(some (.ref 39)),none,(some (.str (.ofString "grammarmill.source") 220)),none,(some (.ref 0))]⟩, ⟨(.type "tuple"),none,(.seq #[] 0),#[]⟩, ⟨.none,none,(.fields #[]),#[]⟩, ⟨(.type "tuple"),none,(.seq #[(.str (.ofString "self") 268),(.str (.ofString "offset") 269),(.str (.ofString "line") 270),(.str (.ofString "column") 271)] 0),#[]⟩, ⟨(.type "tuple"),none,(.seq #[] 0),#[]⟩, ⟨.none,none,(.func ⟨(.ofString "__init__"),(.ofString "Position.__init__"),(prm (inAt 11 0)),(.stmts (bdy (inAt 11 0))),(scp (inAt 11 0)),0,[],.none,.none,.none,.none,none,.none,.none,0⟩),#[]⟩, ⟨(.type "code"),none,(.fields #[(.str (.ofString "__init__") 265),(.str (.ofString "Position.__init__") 266),(.str (.ofString "/claim/cut.py") 267),(.int 36 0),(.int 4 0),(.int 0 0),(.int 0 0),(.int 3 0),(.ref 44),(.bool true),(.int 181 0),(.ref 45),.none,(.ref 46),(.ref 47),(.ref 48),(.int 272 0),(.int 36 0),(.str (.ofString "/claim/cut.py") 273)]),#[]⟩, ⟨(.type "function"),none,(.func ⟨(.ofString "__init__"),(.ofString "Position.__init__"),(prm (inAt 11 0)),(.stmts (bdy (inAt 11 0))),(scp (inAt 11 0)),3,[],.none,.none,.none,(.str (.ofString "grammarmill.source") 220),none,(.ref 49),.none,0⟩),#[]⟩, ⟨(.type "tuple"),none,(.seq #[] 0),#[]⟩, ⟨.none,none,(.fields #[]),#[]⟩, ⟨(.type "tuple"),none,(.seq #[(.str (.ofString "self") 278)] 0),#[]⟩, ⟨(.type "tuple"),none,(.seq #[] 0),#[]⟩, ⟨.none,none,(.func ⟨(.ofString "told"),(.ofString "Position.told"),(prm (inAt 11 1)),(.stmts (bdy (inAt 11 1))),(scp (inAt 11 1)),0,[],.none,.none,.none,.none,none,.none,.none,0⟩),#[]⟩, ⟨(.type "code"),none,(.fields #[(.str (.ofString "told") 275),(.str (.ofString "Position.told") 276),(.str (.ofString "/claim/cut.py") 277),(.int 41 0),(.int 1 0),(.int 0 0),(.int 0 0),(.int 3 0),(.ref 51),(.bool true),(.int 181 0),(.ref 52),.none,(.ref 53),(.ref 54),(.ref 55),(.int 279 0),(.int 41 0),(.str (.ofString "/claim/cut.py") 280)]),#[]⟩, ⟨(.type "function"),none,(.func ⟨(.ofString "told"),(.ofString "Position.told"),(prm (inAt 11 1)),(.stmts (bdy (inAt 11 1))),(scp (inAt 11 1)),3,[],.none,.none,.none,(.str (.ofString "grammarmill.source") 220),none,(.ref 56),.none,0⟩),#[]⟩, ⟨(.type "tuple"),none,(.seq #[(.str (.ofString "column") 282),(.str (.ofString "line") 283),(.str (.ofString "offset") 284)] 0),#[]⟩, ⟨(.type "dict"),none,(.dict #[⟨(PySem.PyData.keyHash P (.ofString "__module__")),(.str (.ofString "__module__") 260),(.str (.ofString "grammarmill.source") 220)⟩,⟨(PySem.PyData.keyHash P (.ofString "__firstlineno__")),(.str (.ofString "__firstlineno__") 264),(.int 34 263)⟩,⟨(PySem.PyData.keyHash P (.ofString "__init__")),(.str (.ofString "__init__") 274),(.ref 50)⟩,⟨(PySem.PyData.keyHash P (.ofString "told")),(.str (.ofString "told") 281),(.ref 57)⟩,⟨(PySem.PyData.keyHash P (.ofString "__static_attributes__")),(.str (.ofString "__static_attributes__") 285),(.ref 58)⟩,⟨(PySem.PyData.keyHash P (.ofString "__dict__")),(.str (.ofString "__dict__") 287),(.ref 61)⟩,⟨(PySem.PyData.keyHash P (.ofString "__weakref__")),(.str (.ofString "__weakref__") 289),(.ref 62)⟩,⟨(PySem.PyData.keyHash P (.ofString "__doc__")),(.str (.ofString "__doc__") 290),.none⟩] 4),#[]⟩, ⟨(.type "type"),none,(.cls ⟨(.ofString "Position"),[(.type "object")],[(.ref 60),(.type "object")],59,(.ofString "Position"),true,[],[],false,none,false⟩),#[none,none,(some (.str (.ofString "Position") 253)),(some (.str (.ofString "Position") 261)),(some (.builtin "object.__new__")),(some (.bool true))]⟩, ⟨(.type "getset_descriptor"),none,(.fields #[(.str (.ofString "__dict__") 286),(.ref 60),(.builtin "function.__dict__"),(.builtin "function.__dict__#set")]),#[]⟩, ⟨(.type "getset_descriptor"),none,(.fields #[(.str (.ofString "__weakref__") 288),(.ref 60),(.builtin "ExceptionGroup.__weakref__"),.none]),#[]⟩, ⟨(.type "super"),none,(.fields #[(.ref 60),(.ref 60),(.ref 60)]),#[]⟩, ⟨(.type "builtin_function_or_method"),none,(.fields #[(.builtin "object.__init_subclass__"),(.ref 60)]),#[]⟩, ⟨(.type "tuple"),none,(.seq #[] 0),#[]⟩, ⟨.none,none,(.fields #[]),#[]⟩, ⟨(.type "tuple"),none,(.seq #[(.str (.ofString "text") 296),(.str (.ofString "offset") 297),(.str (.ofString "at") 298),(.str (.ofString "line") 299),(.str (.ofString "begun") 300),(.str (.ofString "here") 301)] 0),#[]⟩, ⟨(.type "tuple"),none,(.seq #[] 0),#[]⟩, ⟨.none,none,(.func ⟨(.ofString "position_of"),(.ofString "position_of"),(prm (stAt 12)),(.stmts (bdy (stAt 12))),(scp (stAt 12)),0,[],.none,.none,.none,.none,none,.none,.none,0⟩),#[]⟩, ⟨(.type "code"),none,(.fields #[(.str (.ofString "position_of") 293),(.str (.ofString "position_of") 294),(.str (.ofString "/claim/cut.py") 295),(.int 43 0),(.int 2 0),(.int 0 0),(.int 0 0),(.int 3 0),(.ref 65),(.bool true),(.int 181 0),(.ref 66),.none,(.ref 67),(.ref 68),(.ref 69),(.int 302 0),(.int 43 0),(.str (.ofString "/claim/cut.py") 303)]),#[]⟩, ⟨(.type "function"),none,(.func ⟨(.ofString "position_of"),(.ofString "position_of"),(prm (stAt 12)),(.stmts (bdy (stAt 12))),(scp (stAt 12)),3,[],.none,.none,.none,(.str (.ofString "grammarmill.source") 220),none,(.ref 70),.none,0⟩),#[]⟩, ⟨(.type "tuple"),none,(.seq #[(.type "Exception")] 0),#[]⟩, ⟨(.type "builtin_function_or_method"),none,(.fields #[(.builtin "type.__prepare__"),(.type "type")]),#[]⟩, ⟨(.type "dict"),none,(.dict #[⟨(PySem.PyData.keyHash P (.ofString "__module__")),(.str (.ofString "__module__") 312),(.str (.ofString "grammarmill.source") 220)⟩,⟨(PySem.PyData.keyHash P (.ofString "__qualname__")),(.str (.ofString "__qualname__") 314),(.str (.ofString "ToolError") 313)⟩,⟨(PySem.PyData.keyHash P (.ofString "__firstlineno__")),(.str (.ofString "__firstlineno__") 316),(.int 52 315)⟩,⟨(PySem.PyData.keyHash P (.ofString "__init__")),(.str (.ofString "__init__") 325),(.ref 86)⟩,⟨(PySem.PyData.keyHash P (.ofString "told")),(.str (.ofString "told") 332),(.ref 93)⟩,⟨(PySem.PyData.keyHash P (.ofString "__static_attributes__")),(.str (.ofString "__static_attributes__") 335),(.ref 94)⟩] 6),#[]⟩, ⟨(.type "tuple"),none,(.seq #[] 0),#[]⟩, ⟨.none,none,(.fields #[(.int 54 0),(.int 4 0),(.ref 85),(.int 59 0),(.int 4 0),(.ref 92)]),#[]⟩, ⟨(.type "code"),none,(.fields #[(.str (.ofString "ToolError") 307),(.str (.ofString "ToolError") 308),(.str (.ofString "/claim/cut.py") 309),(.int 52 0),(.int 0 0),(.int 0 0),(.int 0 0),(.int 0 0),(.ref 75),(.bool false),(.int 181 0),(.ref 76),.none,.none,.none,.none,(.int 310 0),(.int 52 0),(.str (.ofString "/claim/cut.py") 311)]),#[]⟩, ⟨(.type "frame"),none,.plain,#[(some (.ref 77)),(some (.ref 3)),(some (.ref 74)),none,(some (.str (.ofString "grammarmill.source") 220)),none,(some (.ref 0))]⟩, ⟨(.type "tuple"),none,(.seq #[.none] 0),#[]⟩, ⟨(.type "tuple"),none,(.seq #[] 0),#[]⟩, ⟨.none,none,(.fields #[]),#[]⟩, ⟨(.type "tuple"),none,(.seq #[(.str (.ofString "self") 320),(.str (.ofString "what") 321),(.str (.ofString "at") 322)] 0),#[]⟩, ⟨(.type "tuple"),none,(.seq #[] 0),#[]⟩, ⟨.none,none,(.func ⟨(.ofString "__init__"),(.ofString "ToolError.__init__"),(prm (inAt 13 0)),(.stmts (bdy (inAt 13 0))),(scp (inAt 13 0)),0,[],.none,.none,.none,.none,none,.none,.none,0⟩),#[]⟩, ⟨(.type "code"),none,(.fields #[(.str (.ofString "__init__") 317),(.str (.ofString "ToolError.__init__") 318),(.str (.ofString "/claim/cut.py") 319),(.int 54 0),(.int 3 0),(.int 0 0),(.int 0 0),(.int 3 0),(.ref 80),(.bool true),(.int 181 0),(.ref 81),.none,(.ref 82),(.ref 83),(.ref 84),(.int 323 0),(.int 54 0),(.str (.ofString "/claim/cut.py") 324)]),#[]⟩, ⟨(.type "function"),none,(.func ⟨(.ofString "__init__"),(.ofString "ToolError.__init__"),(prm (inAt 13 0)),(.stmts (bdy (inAt 13 0))),(scp (inAt 13 0)),3,[],(.ref 79),.none,.none,(.str (.ofString "grammarmill.source") 220),none,(.ref 85),.none,0⟩),#[]⟩, ⟨(.type "tuple"),none,(.seq #[] 0),#[]⟩, ⟨.none,none,(.fields #[]),#[]⟩, ⟨(.type "tuple"),none,(.seq #[(.str (.ofString "self") 329)] 0),#[]⟩, ⟨(.type "tuple"),none,(.seq #[] 0),#[]⟩, ⟨.none,none,(.func ⟨(.ofString "told"),(.ofString "ToolError.told"),(prm (inAt 13 1)),(.stmts (bdy (inAt 13 1))),(scp (inAt 11 1)),0,[],.none,.none,.none,.none,none,.none,.none,0⟩),#[]⟩, ⟨(.type "code"),none,(.fields #[(.str (.ofString "told") 326),(.str (.ofString "ToolError.told") 327),(.str (.ofString "/claim/cut.py") 328),(.int 59 0),(.int 1 0),(.int 0 0),(.int 0 0),(.int 3 0),(.ref 87),(.bool true),(.int 181 0),(.ref 88),.none,(.ref 89),(.ref 90),(.ref 91),(.int 330 0),(.int 59 0),(.str (.ofString "/claim/cut.py") 331)]),#[]⟩, ⟨(.type "function"),none,(.func ⟨(.ofString "told"),(.ofString "ToolError.told"),(prm (inAt 13 1)),(.stmts (bdy (inAt 13 1))),(scp (inAt 11 1)),3,[],.none,.none,.none,(.str (.ofString "grammarmill.source") 220),none,(.ref 92),.none,0⟩),#[]⟩, ⟨(.type "tuple"),none,(.seq #[(.str (.ofString "at") 333),(.str (.ofString "what") 334)] 0),#[]⟩, ⟨(.type "dict"),none,(.dict #[⟨(PySem.PyData.keyHash P (.ofString "__module__")),(.str (.ofString "__module__") 312),(.str (.ofString "grammarmill.source") 220)⟩,⟨(PySem.PyData.keyHash P (.ofString "__firstlineno__")),(.str (.ofString "__firstlineno__") 316),(.int 52 315)⟩,⟨(PySem.PyData.keyHash P (.ofString "__init__")),(.str (.ofString "__init__") 325),(.ref 86)⟩,⟨(PySem.PyData.keyHash P (.ofString "told")),(.str (.ofString "told") 332),(.ref 93)⟩,⟨(PySem.PyData.keyHash P (.ofString "__static_attributes__")),(.str (.ofString "__static_attributes__") 335),(.ref 94)⟩,⟨(PySem.PyData.keyHash P (.ofString "__weakref__")),(.str (.ofString "__weakref__") 337),(.ref 97)⟩,⟨(PySem.PyData.keyHash P (.ofString "__doc__")),(.str (.ofString "__doc__") 338),.none⟩] 3),#[]⟩, ⟨(.type "type"),none,(.cls ⟨(.ofString "ToolError"),[(.type "Exception")],[(.ref 96),(.type "Exception"),(.type "BaseException"),(.type "object")],95,(.ofString "ToolError"),true,[],[(.ref 109)],false,none,false⟩),#[(some (.ref 72)),none,(some (.str (.ofString "ToolError") 305)),(some (.str (.ofString "ToolError") 313)),(some (.builtin "Exception.__new__")),(some (.bool true))]⟩, ⟨(.type "getset_descriptor"),none,(.fields #[(.str (.ofString "__weakref__") 336),(.ref 96),(.builtin "ExceptionGroup.__weakref__"),.none]),#[]⟩, ⟨(.type "super"),none,(.fields #[(.ref 96),(.ref 96),(.ref 96)]),#[]⟩, ⟨(.type "builtin_function_or_method"),none,(.fields #[(.builtin "object.__init_subclass__"),(.ref 96)]),#[]⟩, ⟨(.type "tuple"),none,(.seq #[(.ref 96)] 0),#[]⟩, ⟨(.type "builtin_function_or_method"),none,(.fields #[(.builtin "type.__prepare__"),(.type "type")]),#[]⟩, ⟨(.type "dict"),none,(.dict #[⟨(PySem.PyData.keyHash P (.ofString "__module__")),(.str (.ofString "__module__") 350),(.str (.ofString "grammarmill.source") 220)⟩,⟨(PySem.PyData.keyHash P (.ofString "__qualname__")),(.str (.ofString "__qualname__") 352),(.str (.ofString "TableError") 351)⟩,⟨(PySem.PyData.keyHash P (.ofString "__firstlineno__")),(.str (.ofString "__firstlineno__") 354),(.int 63 353)⟩,⟨(PySem.PyData.keyHash P (.ofString "__static_attributes__")),(.str (.ofString "__static_attributes__") 355),(.ref 107)⟩] 4),#[]⟩, ⟨(.type "tuple"),none,(.seq #[] 0),#[]⟩, ⟨.none,none,(.fields #[]),#[]⟩, ⟨(.type "code"),none,(.fields #[(.str (.ofString "TableError") 345),(.str (.ofString "TableError") 346),(.str (.ofString "/claim/cut.py") 347),(.int 63 0),(.int 0 0),(.int 0 0),(.int 0 0),(.int 0 0),(.ref 103),(.bool false),(.int 181 0),(.ref 104),.none,.none,.none,.none,(.int 348 0),(.int 63 0),(.str (.ofString "/claim/cut.py") 349)]),#[]⟩, ⟨(.type "frame"),none,.plain,#[(some (.ref 105)),(some (.ref 3)),(some (.ref 102)),none,(some (.str (.ofString "grammarmill.source") 220)),none,(some (.ref 0))]⟩, ⟨(.type "tuple"),none,(.seq #[] 0),#[]⟩, ⟨(.type "dict"),none,(.dict #[⟨(PySem.PyData.keyHash P (.ofString "__module__")),(.str (.ofString "__module__") 350),(.str (.ofString "grammarmill.source") 220)⟩,⟨(PySem.PyData.keyHash P (.ofString "__firstlineno__")),(.str (.ofString "__firstlineno__") 354),(.int 63 353)⟩,⟨(PySem.PyData.keyHash P (.ofString "__static_attributes__")),(.str (.ofString "__static_attributes__") 355),(.ref 107)⟩,⟨(PySem.PyData.keyHash P (.ofString "__doc__")),(.str (.ofString "__doc__") 356),.none⟩] 2),#[]⟩, ⟨(.type "type"),none,(.cls ⟨(.ofString "TableError"),[(.ref 96)],[(.ref 109),(.ref 96),(.type "Exception"),(.type "BaseException"),(.type "object")],108,(.ofString "TableError"),true,[],[],false,none,false⟩),#[(some (.ref 100)),none,(some (.str (.ofString "TableError") 343)),(some (.str (.ofString "TableError") 351)),(some (.builtin "Exception.__new__")),(some (.bool true))]⟩, ⟨(.type "super"),none,(.fields #[(.ref 109),(.ref 109),(.ref 109)]),#[]⟩, ⟨(.type "builtin_function_or_method"),none,(.fields #[(.builtin "object.__init_subclass__"),(.ref 109)]),#[]⟩, ⟨(.type "tuple"),none,(.seq #[] 0),#[]⟩, ⟨(.type "builtin_function_or_method"),none,(.fields #[(.builtin "type.__prepare__"),(.type "type")]),#[]⟩, ⟨(.type "dict"),none,(.dict #[⟨(PySem.PyData.keyHash P (.ofString "__module__")),(.str (.ofString "__module__") 366),(.str (.ofString "grammarmill.source") 220)⟩,⟨(PySem.PyData.keyHash P (.ofString "__qualname__")),(.str (.ofString "__qualname__") 368),(.str (.ofString "Cursor") 367)⟩,⟨(PySem.PyData.keyHash P (.ofString "__firstlineno__")),(.str (.ofString "__firstlineno__") 370),(.int 65 369)⟩,⟨(PySem.PyData.keyHash P (.ofString "__init__")),(.str (.ofString "__init__") 380),(.ref 126)⟩,⟨(PySem.PyData.keyHash P (.ofString "is_done")),(.str (.ofString "is_done") 387),(.ref 133)⟩,⟨(PySem.PyData.keyHash P (.ofString "peek")),(.str (.ofString "peek") 397),(.ref 141)⟩,⟨(PySem.PyData.keyHash P (.ofString "starts")),(.str (.ofString "starts") 405),(.ref 148)⟩,⟨(PySem.PyData.keyHash P (.ofString "take")),(.str (.ofString "take") 413),(.ref 155)⟩,⟨(PySem.PyData.keyHash P (.ofString "skip")),(.str (.ofString "skip") 421),(.ref 162)⟩,⟨(PySem.PyData.keyHash P (.ofString "take_while")),(.str (.ofString "take_while") 430),(.ref 169)⟩,⟨(PySem.PyData.keyHash P (.ofString "take_line")),(.str (.ofString "take_line") 437),(.ref 176)⟩,⟨(PySem.PyData.keyHash P (.ofString "skip_blanks")),(.str (.ofString "skip_blanks") 446),(.ref 184)⟩,⟨(PySem.PyData.keyHash P (.ofString "name")),(.str (.ofString "name") 453),(.ref 191)⟩,⟨(PySem.PyData.keyHash P (.ofString "number")),(.str (.ofString "number") 462),(.ref 198)⟩,⟨(PySem.PyData.keyHash P (.ofString "position")),(.str (.ofString "position") 469),(.ref 205)⟩,⟨(PySem.PyData.keyHash P (.ofString "position_at")),(.str (.ofString "position_at") 477),(.ref 212)⟩,⟨(PySem.PyData.keyHash P (.ofString "coded")),(.str (.ofString "coded") 489),(.ref 219)⟩,⟨(PySem.PyData.keyHash P (.ofString "escape")),(.str (.ofString "escape") 497),(.ref 226)⟩,⟨(PySem.PyData.keyHash P (.ofString "quoted")),(.str (.ofString "quoted") 507),(.ref 233)⟩,⟨(PySem.PyData.keyHash P (.ofString "__static_attributes__")),(.str (.ofString "__static_attributes__") 510),(.ref 234)⟩] 20),#[]⟩, ⟨(.type "tuple"),none,(.seq #[] 0),#[]⟩, ⟨.none,none,(.fields #[(.int 67 0),(.int 4 0),(.ref 125),(.int 71 0),(.int 4 0),(.ref 132),(.int 74 0),(.int 4 0),(.ref 140),(.int 80 0),(.int 4 0),(.ref 147),(.int 83 0),(.int 4 0),(.ref 154),(.int 90 0),(.int 4 0),(.ref 161),(.int 96 0),(.int 4 0),(.ref 168),(.int 102 0),(.int 4 0),(.ref 175),(.int 105 0),(.int 4 0),(.ref 183),(.int 108 0),(.int 4 0),(.ref 190),(.int 111 0),(.int 4 0),(.ref 197),(.int 119 0),(.int 4 0),(.ref 204),(.int 122 0),(.int 4 0),(.ref 211),(.int 125 0),(.int 4 0),(.ref 218),(.int 133 0),(.int 4 0),(.ref 225),(.int 147 0),(.int 4 0),(.ref 232)]),#[]⟩, ⟨(.type "code"),none,(.fields #[(.str (.ofString "Cursor") 361),(.str (.ofString "Cursor") 362),(.str (.ofString "/claim/cut.py") 363),(.int 65 0),(.int 0 0),(.int 0 0),(.int 0 0),(.int 0 0),(.ref 115),(.bool false),(.int 181 0),(.ref 116),.none,.none,.none,.none,(.int 364 0),(.int 65 0),(.str (.ofString "/claim/cut.py") 365)]),#[]⟩, ⟨(.type "frame"),none,.plain,#[(some (.ref 117)),(some (.ref 3)),(some (.ref 114)),none,(some (.str (.ofString "grammarmill.source") 220)),none,(some (.ref 0))]⟩, ⟨(.type "tuple"),none,(.seq #[(.int 0 371)] 0),#[]⟩, ⟨(.type "tuple"),none,(.seq #[] 0),#[]⟩, ⟨.none,none,(.fields #[]),#[]⟩, ⟨(.type "tuple"),none,(.seq #[(.str (.ofString "self") 375),(.str (.ofString "text") 376),(.str (.ofString "at") 377)] 0),#[]⟩, ⟨(.type "tuple"),none,(.seq #[] 0),#[]⟩, ⟨.none,none,(.func ⟨(.ofString "__init__"),(.ofString "Cursor.__init__"),(prm (inAt 15 0)),(.stmts (bdy (inAt 15 0))),(scp (inAt 15 0)),0,[],.none,.none,.none,.none,none,.none,.none,0⟩),#[]⟩, ⟨(.type "code"),none,(.fields #[(.str (.ofString "__init__") 372),(.str (.ofString "Cursor.__init__") 373),(.str (.ofString "/claim/cut.py") 374),(.int 67 0),(.int 3 0),(.int 0 0),(.int 0 0),(.int 3 0),(.ref 120),(.bool true),(.int 181 0),(.ref 121),.none,(.ref 122),(.ref 123),(.ref 124),(.int 378 0),(.int 67 0),(.str (.ofString "/claim/cut.py") 379)]),#[]⟩, ⟨(.type "function"),none,(.func ⟨(.ofString "__init__"),(.ofString "Cursor.__init__"),(prm (inAt 15 0)),(.stmts (bdy (inAt 15 0))),(scp (inAt 15 0)),3,[],(.ref 119),.none,.none,(.str (.ofString "grammarmill.source") 220),none,(.ref 125),.none,0⟩),#[]⟩, ⟨(.type "tuple"),none,(.seq #[] 0),#[]⟩, ⟨.none,none,(.fields #[]),#[]⟩, ⟨(.type "tuple"),none,(.seq #[(.str (.ofString "self") 384)] 0),#[]⟩, ⟨(.type "tuple"),none,(.seq #[] 0),#[]⟩, ⟨.none,none,(.func ⟨(.ofString "is_done"),(.ofString "Cursor.is_done"),(prm (inAt 15 1)),(.stmts (bdy (inAt 15 1))),(scp (inAt 15 1)),0,[],.none,.none,.none,.none,none,.none,.none,0⟩),#[]⟩, ⟨(.type "code"),none,(.fields #[(.str (.ofString "is_done") 381),(.str (.ofString "Cursor.is_done") 382),(.str (.ofString "/claim/cut.py") 383),(.int 71 0),(.int 1 0),(.int 0 0),(.int 0 0),(.int 3 0),(.ref 127),(.bool true),(.int 181 0),(.ref 128),.none,(.ref 129),(.ref 130),(.ref 131),(.int 385 0),(.int 71 0),(.str (.ofString "/claim/cut.py") 386)]),#[]⟩, ⟨(.type "function"),none,(.func ⟨(.ofString "is_done"),(.ofString "Cursor.is_done"),(prm (inAt 15 1)),(.stmts (bdy (inAt 15 1))),(scp (inAt 15 1)),3,[],.none,.none,.none,(.str (.ofString "grammarmill.source") 220),none,(.ref 132),.none,0⟩),#[]⟩, ⟨(.type "tuple"),none,(.seq #[(.int 0 388)] 0),#[]⟩, ⟨(.type "tuple"),none,(.seq #[] 0),#[]⟩, ⟨.none,none,(.fields #[]),#[]⟩, ⟨(.type "tuple"),none,(.seq #[(.str (.ofString "self") 392),(.str (.ofString "ahead") 393),(.str (.ofString "at") 394)] 0),#[]⟩, ⟨(.type "tuple"),none,(.seq #[] 0),#[]⟩, ⟨.none,none,(.func ⟨(.ofString "peek"),(.ofString "Cursor.peek"),(prm (inAt 15 2)),(.stmts (bdy (inAt 15 2))),(scp (inAt 15 2)),0,[],.none,.none,.none,.none,none,.none,.none,0⟩),#[]⟩, ⟨(.type "code"),none,(.fields #[(.str (.ofString "peek") 389),(.str (.ofString "Cursor.peek") 390),(.str (.ofString "/claim/cut.py") 391),(.int 74 0),(.int 2 0),(.int 0 0),(.int 0 0),(.int 3 0),(.ref 135),(.bool true),(.int 181 0),(.ref 136),.none,(.ref 137),(.ref 138),(.ref 139),(.int 395 0),(.int 74 0),(.str (.ofString "/claim/cut.py") 396)]),#[]⟩, ⟨(.type "function"),none,(.func ⟨(.ofString "peek"),(.ofString "Cursor.peek"),(prm (inAt 15 2)),(.stmts (bdy (inAt 15 2))),(scp (inAt 15 2)),3,[],(.ref 134),.none,.none,(.str (.ofString "grammarmill.source") 220),none,(.ref 140),.none,0⟩),#[]⟩, ⟨(.type "tuple"),none,(.seq #[] 0),#[]⟩, ⟨.none,none,(.fields #[]),#[]⟩, ⟨(.type "tuple"),none,(.seq #[(.str (.ofString "self") 401),(.str (.ofString "word") 402)] 0),#[]⟩, ⟨(.type "tuple"),none,(.seq #[] 0),#[]⟩, ⟨.none,none,(.func ⟨(.ofString "starts"),(.ofString "Cursor.starts"),(prm (inAt 15 3)),(.stmts (bdy (inAt 15 3))),(scp (inAt 15 3)),0,[],.none,.none,.none,.none,none,.none,.none,0⟩),#[]⟩, ⟨(.type "code"),none,(.fields #[(.str (.ofString "starts") 398),(.str (.ofString "Cursor.starts") 399),(.str (.ofString "/claim/cut.py") 400),(.int 80 0),(.int 2 0),(.int 0 0),(.int 0 0),(.int 3 0),(.ref 142),(.bool true),(.int 181 0),(.ref 143),.none,(.ref 144),(.ref 145),(.ref 146),(.int 403 0),(.int 80 0),(.str (.ofString "/claim/cut.py") 404)]),#[]⟩, ⟨(.type "function"),none,(.func ⟨(.ofString "starts"),(.ofString "Cursor.starts"),(prm (inAt 15 3)),(.stmts (bdy (inAt 15 3))),(scp (inAt 15 3)),3,[],.none,.none,.none,(.str (.ofString "grammarmill.source") 220),none,(.ref 147),.none,0⟩),#[]⟩, ⟨(.type "tuple"),none,(.seq #[] 0),#[]⟩, ⟨.none,none,(.fields #[]),#[]⟩, ⟨(.type "tuple"),none,(.seq #[(.str (.ofString "self") 409),(.str (.ofString "sign") 410)] 0),#[]⟩, ⟨(.type "tuple"),none,(.seq #[] 0),#[]⟩, ⟨.none,none,(.func ⟨(.ofString "take"),(.ofString "Cursor.take"),(prm (inAt 15 4)),(.stmts (bdy (inAt 15 4))),(scp (inAt 15 4)),0,[],.none,.none,.none,.none,none,.none,.none,0⟩),#[]⟩, ⟨(.type "code"),none,(.fields #[(.str (.ofString "take") 406),(.str (.ofString "Cursor.take") 407),(.str (.ofString "/claim/cut.py") 408),(.int 83 0),(.int 1 0),(.int 0 0),(.int 0 0),(.int 3 0),(.ref 149),(.bool true),(.int 181 0),(.ref 150),.none,(.ref 151),(.ref 152),(.ref 153),(.int 411 0),(.int 83 0),(.str (.ofString "/claim/cut.py") 412)]),#[]⟩, ⟨(.type "function"),none,(.func ⟨(.ofString "take"),(.ofString "Cursor.take"),(prm (inAt 15 4)),(.stmts (bdy (inAt 15 4))),(scp (inAt 15 4)),3,[],.none,.none,.none,(.str (.ofString "grammarmill.source") 220),none,(.ref 154),.none,0⟩),#[]⟩, ⟨(.type "tuple"),none,(.seq #[] 0),#[]⟩, ⟨.none,none,(.fields #[]),#[]⟩, ⟨(.type "tuple"),none,(.seq #[(.str (.ofString "self") 417),(.str (.ofString "word") 418)] 0),#[]⟩, ⟨(.type "tuple"),none,(.seq #[] 0),#[]⟩, ⟨.none,none,(.func ⟨(.ofString "skip"),(.ofString "Cursor.skip"),(prm (inAt 15 5)),(.stmts (bdy (inAt 15 5))),(scp (inAt 15 3)),0,[],.none,.none,.none,.none,none,.none,.none,0⟩),#[]⟩, ⟨(.type "code"),none,(.fields #[(.str (.ofString "skip") 414),(.str (.ofString "Cursor.skip") 415),(.str (.ofString "/claim/cut.py") 416),(.int 90 0),(.int 2 0),(.int 0 0),(.int 0 0),(.int 3 0),(.ref 156),(.bool true),(.int 181 0),(.ref 157),.none,(.ref 158),(.ref 159),(.ref 160),(.int 419 0),(.int 90 0),(.str (.ofString "/claim/cut.py") 420)]),#[]⟩, ⟨(.type "function"),none,(.func ⟨(.ofString "skip"),(.ofString "Cursor.skip"),(prm (inAt 15 5)),(.stmts (bdy (inAt 15 5))),(scp (inAt 15 3)),3,[],.none,.none,.none,(.str (.ofString "grammarmill.source") 220),none,(.ref 161),.none,0⟩),#[]⟩, ⟨(.type "tuple"),none,(.seq #[] 0),#[]⟩, ⟨.none,none,(.fields #[]),#[]⟩, ⟨(.type "tuple"),none,(.seq #[(.str (.ofString "self") 425),(.str (.ofString "signs") 426),(.str (.ofString "begun") 427)] 0),#[]⟩, ⟨(.type "tuple"),none,(.seq #[] 0),#[]⟩, ⟨.none,none,(.func ⟨(.ofString "take_while"),(.ofString "Cursor.take_while"),(prm (inAt 15 6)),(.stmts (bdy (inAt 15 6))),(scp (inAt 15 6)),0,[],.none,.none,.none,.none,none,.none,.none,0⟩),#[]⟩, ⟨(.type "code"),none,(.fields #[(.str (.ofString "take_while") 422),(.str (.ofString "Cursor.take_while") 423),(.str (.ofString "/claim/cut.py") 424),(.int 96 0),(.int 2 0),(.int 0 0),(.int 0 0),(.int 3 0),(.ref 163),(.bool true),(.int 181 0),(.ref 164),.none,(.ref 165),(.ref 166),(.ref 167),(.int 428 0),(.int 96 0),(.str (.ofString "/claim/cut.py") 429)]),#[]⟩, ⟨(.type "function"),none,(.func ⟨(.ofString "take_while"),(.ofString "Cursor.take_while"),(prm (inAt 15 6)),(.stmts (bdy (inAt 15 6))),(scp (inAt 15 6)),3,[],.none,.none,.none,(.str (.ofString "grammarmill.source") 220),none,(.ref 168),.none,0⟩),#[]⟩, ⟨(.type "tuple"),none,(.seq #[] 0),#[]⟩, ⟨.none,none,(.fields #[]),#[]⟩, ⟨(.type "tuple"),none,(.seq #[(.str (.ofString "self") 434)] 0),#[]⟩, ⟨(.type "tuple"),none,(.seq #[] 0),#[]⟩, ⟨.none,none,(.func ⟨(.ofString "take_line"),(.ofString "Cursor.take_line"),(prm (inAt 15 7)),(.stmts (bdy (inAt 15 7))),(scp (inAt 15 7)),0,[],.none,.none,.none,.none,none,.none,.none,0⟩),#[]⟩, ⟨(.type "code"),none,(.fields #[(.str (.ofString "take_line") 431),(.str (.ofString "Cursor.take_line") 432),(.str (.ofString "/claim/cut.py") 433),(.int 102 0),(.int 1 0),(.int 0 0),(.int 0 0),(.int 3 0),(.ref 170),(.bool true),(.int 181 0),(.ref 171),.none,(.ref 172),(.ref 173),(.ref 174),(.int 435 0),(.int 102 0),(.str (.ofString "/claim/cut.py") 436)]),#[]⟩, ⟨(.type "function"),none,(.func ⟨(.ofString "take_line"),(.ofString "Cursor.take_line"),(prm (inAt 15 7)),(.stmts (bdy (inAt 15 7))),(scp (inAt 15 7)),3,[],.none,.none,.none,(.str (.ofString "grammarmill.source") 220),none,(.ref 175),.none,0⟩),#[]⟩, ⟨(.type "tuple"),none,(.seq #[(.str (.ofString " \t") 438)] 0),#[]⟩, ⟨(.type "tuple"),none,(.seq #[] 0),#[]⟩, ⟨.none,none,(.fields #[]),#[]⟩, ⟨(.type "tuple"),none,(.seq #[(.str (.ofString "self") 442),(.str (.ofString "signs") 443)] 0),#[]⟩, ⟨(.type "tuple"),none,(.seq #[] 0),#[]⟩, ⟨.none,none,(.func ⟨(.ofString "skip_blanks"),(.ofString "Cursor.skip_blanks"),(prm (inAt 15 8)),(.stmts (bdy (inAt 15 8))),(scp (inAt 15 8)),0,[],.none,.none,.none,.none,none,.none,.none,0⟩),#[]⟩, ⟨(.type "code"),none,(.fields #[(.str (.ofString "skip_blanks") 439),(.str (.ofString "Cursor.skip_blanks") 440),(.str (.ofString "/claim/cut.py") 441),(.int 105 0),(.int 2 0),(.int 0 0),(.int 0 0),(.int 3 0),(.ref 178),(.bool true),(.int 181 0),(.ref 179),.none,(.ref 180),(.ref 181),(.ref 182),(.int 444 0),(.int 105 0),(.str (.ofString "/claim/cut.py") 445)]),#[]⟩, ⟨(.type "function"),none,(.func ⟨(.ofString "skip_blanks"),(.ofString "Cursor.skip_blanks"),(prm (inAt 15 8)),(.stmts (bdy (inAt 15 8))),(scp (inAt 15 8)),3,[],(.ref 177),.none,.none,(.str (.ofString "grammarmill.source") 220),none,(.ref 183),.none,0⟩),#[]⟩, ⟨(.type "tuple"),none,(.seq #[] 0),#[]⟩, ⟨.none,none,(.fields #[]),#[]⟩, ⟨(.type "tuple"),none,(.seq #[(.str (.ofString "self") 450)] 0),#[]⟩, ⟨(.type "tuple"),none,(.seq #[] 0),#[]⟩, ⟨.none,none,(.func ⟨(.ofString "name"),(.ofString "Cursor.name"),(prm (inAt 15 9)),(.stmts (bdy (inAt 15 9))),(scp (inAt 15 7)),0,[],.none,.none,.none,.none,none,.none,.none,0⟩),#[]⟩, ⟨(.type "code"),none,(.fields #[(.str (.ofString "name") 447),(.str (.ofString "Cursor.name") 448),(.str (.ofString "/claim/cut.py") 449),(.int 108 0),(.int 1 0),(.int 0 0),(.int 0 0),(.int 3 0),(.ref 185),(.bool true),(.int 181 0),(.ref 186),.none,(.ref 187),(.ref 188),(.ref 189),(.int 451 0),(.int 108 0),(.str (.ofString "/claim/cut.py") 452)]),#[]⟩, ⟨(.type "function"),none,(.func ⟨(.ofString "name"),(.ofString "Cursor.name"),(prm (inAt 15 9)),(.stmts (bdy (inAt 15 9))),(scp (inAt 15 7)),3,[],.none,.none,.none,(.str (.ofString "grammarmill.source") 220),none,(.ref 190),.none,0⟩),#[]⟩, ⟨(.type "tuple"),none,(.seq #[] 0),#[]⟩, ⟨.none,none,(.fields #[]),#[]⟩, ⟨(.type "tuple"),none,(.seq #[(.str (.ofString "self") 457),(.str (.ofString "begun") 458),(.str (.ofString "figures") 459)] 0),#[]⟩, ⟨(.type "tuple"),none,(.seq #[] 0),#[]⟩, ⟨.none,none,(.func ⟨(.ofString "number"),(.ofString "Cursor.number"),(prm (inAt 15 10)),(.stmts (bdy (inAt 15 10))),(scp (inAt 15 10)),0,[],.none,.none,.none,.none,none,.none,.none,0⟩),#[]⟩, ⟨(.type "code"),none,(.fields #[(.str (.ofString "number") 454),(.str (.ofString "Cursor.number") 455),(.str (.ofString "/claim/cut.py") 456),(.int 111 0),(.int 1 0),(.int 0 0),(.int 0 0),(.int 3 0),(.ref 192),(.bool true),(.int 181 0),(.ref 193),.none,(.ref 194),(.ref 195),(.ref 196),(.int 460 0),(.int 111 0),(.str (.ofString "/claim/cut.py") 461)]),#[]⟩, ⟨(.type "function"),none,(.func ⟨(.ofString "number"),(.ofString "Cursor.number"),(prm (inAt 15 10)),(.stmts (bdy (inAt 15 10))),(scp (inAt 15 10)),3,[],.none,.none,.none,(.str (.ofString "grammarmill.source") 220),none,(.ref 197),.none,0⟩),#[]⟩, ⟨(.type "tuple"),none,(.seq #[] 0),#[]⟩, ⟨.none,none,(.fields #[]),#[]⟩, ⟨(.type "tuple"),none,(.seq #[(.str (.ofString "self") 466)] 0),#[]⟩, ⟨(.type "tuple"),none,(.seq #[] 0),#[]⟩, ⟨.none,none,(.func ⟨(.ofString "position"),(.ofString "Cursor.position"),(prm (inAt 15 11)),(.stmts (bdy (inAt 15 11))),(scp (inAt 15 11)),0,[],.none,.none,.none,.none,none,.none,.none,0⟩),#[]⟩, ⟨(.type "code"),none,(.fields #[(.str (.ofString "position") 463),(.str (.ofString "Cursor.position") 464),(.str (.ofString "/claim/cut.py") 465),(.int 119 0),(.int 1 0),(.int 0 0),(.int 0 0),(.int 3 0),(.ref 199),(.bool true),(.int 181 0),(.ref 200),.none,(.ref 201),(.ref 202),(.ref 203),(.int 467 0),(.int 119 0),(.str (.ofString "/claim/cut.py") 468)]),#[]⟩, ⟨(.type "function"),none,(.func ⟨(.ofString "position"),(.ofString "Cursor.position"),(prm (inAt 15 11)),(.stmts (bdy (inAt 15 11))),(scp (inAt 15 11)),3,[],.none,.none,.none,(.str (.ofString "grammarmill.source") 220),none,(.ref 204),.none,0⟩),#[]⟩, ⟨(.type "tuple"),none,(.seq #[] 0),#[]⟩, ⟨.none,none,(.fields #[]),#[]⟩, ⟨(.type "tuple"),none,(.seq #[(.str (.ofString "self") 473),(.str (.ofString "offset") 474)] 0),#[]⟩, ⟨(.type "tuple"),none,(.seq #[] 0),#[]⟩, ⟨.none,none,(.func ⟨(.ofString "position_at"),(.ofString "Cursor.position_at"),(prm (inAt 15 12)),(.stmts (bdy (inAt 15 12))),(scp (inAt 15 12)),0,[],.none,.none,.none,.none,none,.none,.none,0⟩),#[]⟩, ⟨(.type "code"),none,(.fields #[(.str (.ofString "position_at") 470),(.str (.ofString "Cursor.position_at") 471),(.str (.ofString "/claim/cut.py") 472),(.int 122 0),(.int 2 0),(.int 0 0),(.int 0 0),(.int 3 0),(.ref 206),(.bool true),(.int 181 0),(.ref 207),.none,(.ref 208),(.ref 209),(.ref 210),(.int 475 0),(.int 122 0),(.str (.ofString "/claim/cut.py") 476)]),#[]⟩, ⟨(.type "function"),none,(.func ⟨(.ofString "position_at"),(.ofString "Cursor.position_at"),(prm (inAt 15 12)),(.stmts (bdy (inAt 15 12))),(scp (inAt 15 12)),3,[],.none,.none,.none,(.str (.ofString "grammarmill.source") 220),none,(.ref 211),.none,0⟩),#[]⟩, ⟨(.type "tuple"),none,(.seq #[] 0),#[]⟩, ⟨.none,none,(.fields #[]),#[]⟩, ⟨(.type "tuple"),none,(.seq #[(.str (.ofString "self") 481),(.str (.ofString "signs") 482),(.str (.ofString "most") 483),(.str (.ofString "base") 484),(.str (.ofString "code") 485),(.str (.ofString "taken") 486)] 0),#[]⟩, ⟨(.type "tuple"),none,(.seq #[] 0),#[]⟩, ⟨.none,none,(.func ⟨(.ofString "coded"),(.ofString "Cursor.coded"),(prm (inAt 15 13)),(.stmts (bdy (inAt 15 13))),(scp (inAt 15 13)),0,[],.none,.none,.none,.none,none,.none,.none,0⟩),#[]⟩, ⟨(.type "code"),none,(.fields #[(.str (.ofString "coded") 478),(.str (.ofString "Cursor.coded") 479),(.str (.ofString "/claim/cut.py") 480),(.int 125 0),(.int 4 0),(.int 0 0),(.int 0 0),(.int 3 0),(.ref 213),(.bool true),(.int 181 0),(.ref 214),.none,(.ref 215),(.ref 216),(.ref 217),(.int 487 0),(.int 125 0),(.str (.ofString "/claim/cut.py") 488)]),#[]⟩, ⟨(.type "function"),none,(.func ⟨(.ofString "coded"),(.ofString "Cursor.coded"),(prm (inAt 15 13)),(.stmts (bdy (inAt 15 13))),(scp (inAt 15 13)),3,[],.none,.none,.none,(.str (.ofString "grammarmill.source") 220),none,(.ref 218),.none,0⟩),#[]⟩, ⟨(.type "tuple"),none,(.seq #[] 0),#[]⟩, ⟨.none,none,(.fields #[]),#[]⟩, ⟨(.type "tuple"),none,(.seq #[(.str (.ofString "self") 493),(.str (.ofString "sign") 494)] 0),#[]⟩, ⟨(.type "tuple"),none,(.seq #[] 0),#[]⟩, ⟨.none,none,(.func ⟨(.ofString "escape"),(.ofString "Cursor.escape"),(prm (inAt 15 14)),(.stmts (bdy (inAt 15 14))),(scp (inAt 15 14)),0,[],.none,.none,.none,.none,none,.none,.none,0⟩),#[]⟩, ⟨(.type "code"),none,(.fields #[(.str (.ofString "escape") 490),(.str (.ofString "Cursor.escape") 491),(.str (.ofString "/claim/cut.py") 492),(.int 133 0),(.int 1 0),(.int 0 0),(.int 0 0),(.int 3 0),(.ref 220),(.bool true),(.int 181 0),(.ref 221),.none,(.ref 222),(.ref 223),(.ref 224),(.int 495 0),(.int 133 0),(.str (.ofString "/claim/cut.py") 496)]),#[]⟩, ⟨(.type "function"),none,(.func ⟨(.ofString "escape"),(.ofString "Cursor.escape"),(prm (inAt 15 14)),(.stmts (bdy (inAt 15 14))),(scp (inAt 15 14)),3,[],.none,.none,.none,(.str (.ofString "grammarmill.source") 220),none,(.ref 225),.none,0⟩),#[]⟩, ⟨(.type "tuple"),none,(.seq #[] 0),#[]⟩, ⟨.none,none,(.fields #[]),#[]⟩, ⟨(.type "tuple"),none,(.seq #[(.str (.ofString "self") 501),(.str (.ofString "end") 502),(.str (.ofString "signs") 503),(.str (.ofString "sign") 504)] 0),#[]⟩, ⟨(.type "tuple"),none,(.seq #[] 0),#[]⟩, ⟨.none,none,(.func ⟨(.ofString "quoted"),(.ofString "Cursor.quoted"),(prm (inAt 15 15)),(.stmts (bdy (inAt 15 15))),(scp (inAt 15 15)),0,[],.none,.none,.none,.none,none,.none,.none,0⟩),#[]⟩, ⟨(.type "code"),none,(.fields #[(.str (.ofString "quoted") 498),(.str (.ofString "Cursor.quoted") 499),(.str (.ofString "/claim/cut.py") 500),(.int 147 0),(.int 2 0),(.int 0 0),(.int 0 0),(.int 3 0),(.ref 227),(.bool true),(.int 181 0),(.ref 228),.none,(.ref 229),(.ref 230),(.ref 231),(.int 505 0),(.int 147 0),(.str (.ofString "/claim/cut.py") 506)]),#[]⟩, ⟨(.type "function"),none,(.func ⟨(.ofString "quoted"),(.ofString "Cursor.quoted"),(prm (inAt 15 15)),(.stmts (bdy (inAt 15 15))),(scp (inAt 15 15)),3,[],.none,.none,.none,(.str (.ofString "grammarmill.source") 220),none,(.ref 232),.none,0⟩),#[]⟩, ⟨(.type "tuple"),none,(.seq #[(.str (.ofString "at") 508),(.str (.ofString "text") 509)] 0),#[]⟩, ⟨(.type "dict"),none,(.dict #[⟨(PySem.PyData.keyHash P (.ofString "__module__")),(.str (.ofString "__module__") 366),(.str (.ofString "grammarmill.source") 220)⟩,⟨(PySem.PyData.keyHash P (.ofString "__firstlineno__")),(.str (.ofString "__firstlineno__") 370),(.int 65 369)⟩,⟨(PySem.PyData.keyHash P (.ofString "__init__")),(.str (.ofString "__init__") 380),(.ref 126)⟩,⟨(PySem.PyData.keyHash P (.ofString "is_done")),(.str (.ofString "is_done") 387),(.ref 133)⟩,⟨(PySem.PyData.keyHash P (.ofString "peek")),(.str (.ofString "peek") 397),(.ref 141)⟩,⟨(PySem.PyData.keyHash P (.ofString "starts")),(.str (.ofString "starts") 405),(.ref 148)⟩,⟨(PySem.PyData.keyHash P (.ofString "take")),(.str (.ofString "take") 413),(.ref 155)⟩,⟨(PySem.PyData.keyHash P (.ofString "skip")),(.str (.ofString "skip") 421),(.ref 162)⟩,⟨(PySem.PyData.keyHash P (.ofString "take_while")),(.str (.ofString "take_while") 430),(.ref 169)⟩,⟨(PySem.PyData.keyHash P (.ofString "take_line")),(.str (.ofString "take_line") 437),(.ref 176)⟩,⟨(PySem.PyData.keyHash P (.ofString "skip_blanks")),(.str (.ofString "skip_blanks") 446),(.ref 184)⟩,⟨(PySem.PyData.keyHash P (.ofString "name")),(.str (.ofString "name") 453),(.ref 191)⟩,⟨(PySem.PyData.keyHash P (.ofString "number")),(.str (.ofString "number") 462),(.ref 198)⟩,⟨(PySem.PyData.keyHash P (.ofString "position")),(.str (.ofString "position") 469),(.ref 205)⟩,⟨(PySem.PyData.keyHash P (.ofString "position_at")),(.str (.ofString "position_at") 477),(.ref 212)⟩,⟨(PySem.PyData.keyHash P (.ofString "coded")),(.str (.ofString "coded") 489),(.ref 219)⟩,⟨(PySem.PyData.keyHash P (.ofString "escape")),(.str (.ofString "escape") 497),(.ref 226)⟩,⟨(PySem.PyData.keyHash P (.ofString "quoted")),(.str (.ofString "quoted") 507),(.ref 233)⟩,⟨(PySem.PyData.keyHash P (.ofString "__static_attributes__")),(.str (.ofString "__static_attributes__") 510),(.ref 234)⟩,⟨(PySem.PyData.keyHash P (.ofString "__dict__")),(.str (.ofString "__dict__") 512),(.ref 237)⟩,⟨(PySem.PyData.keyHash P (.ofString "__weakref__")),(.str (.ofString "__weakref__") 514),(.ref 238)⟩,⟨(PySem.PyData.keyHash P (.ofString "__doc__")),(.str (.ofString "__doc__") 515),.none⟩] 4),#[]⟩, ⟨(.type "type"),none,(.cls ⟨(.ofString "Cursor"),[(.type "object")],[(.ref 236),(.type "object")],235,(.ofString "Cursor"),true,[],[],false,none,false⟩),#[none,none,(some (.str (.ofString "Cursor") 359)),(some (.str (.ofString "Cursor") 367)),(some (.builtin "object.__new__")),(some (.bool true))]⟩, ⟨(.type "getset_descriptor"),none,(.fields #[(.str (.ofString "__dict__") 511),(.ref 236),(.builtin "function.__dict__"),(.builtin "function.__dict__#set")]),#[]⟩, ⟨(.type "getset_descriptor"),none,(.fields #[(.str (.ofString "__weakref__") 513),(.ref 236),(.builtin "ExceptionGroup.__weakref__"),.none]),#[]⟩, ⟨(.type "super"),none,(.fields #[(.ref 236),(.ref 236),(.ref 236)]),#[]⟩, ⟨(.type "builtin_function_or_method"),none,(.fields #[(.builtin "object.__init_subclass__"),(.ref 236)]),#[]⟩, ⟨(.type "tuple"),none,(.seq #[] 0),#[]⟩, ⟨.none,none,(.fields #[]),#[]⟩, ⟨(.type "tuple"),none,(.seq #[(.str (.ofString "code") 521),(.str (.ofString "figures") 522)] 0),#[]⟩, ⟨(.type "tuple"),none,(.seq #[] 0),#[]⟩, ⟨.none,none,(.func ⟨(.ofString "hex_escape"),(.ofString "hex_escape"),(prm (stAt 16)),(.stmts (bdy (stAt 16))),(scp (stAt 16)),0,[],.none,.none,.none,.none,none,.none,.none,0⟩),#[]⟩, ⟨(.type "code"),none,(.fields #[(.str (.ofString "hex_escape") 518),(.str (.ofString "hex_escape") 519),(.str (.ofString "/claim/cut.py") 520),(.int 159 0),(.int 1 0),(.int 0 0),(.int 0 0),(.int 3 0),(.ref 241),(.bool true),(.int 181 0),(.ref 242),.none,(.ref 243),(.ref 244),(.ref 245),(.int 523 0),(.int 159 0),(.str (.ofString "/claim/cut.py") 524)]),#[]⟩, ⟨(.type "function"),none,(.func ⟨(.ofString "hex_escape"),(.ofString "hex_escape"),(prm (stAt 16)),(.stmts (bdy (stAt 16))),(scp (stAt 16)),3,[],.none,.none,.none,(.str (.ofString "grammarmill.source") 220),none,(.ref 246),.none,0⟩),#[]⟩, ⟨(.type "tuple"),none,(.seq #[] 0),#[]⟩, ⟨.none,none,(.fields #[]),#[]⟩, ⟨(.type "tuple"),none,(.seq #[(.str (.ofString "sign") 529),(.str (.ofString "marks") 530),(.str (.ofString "code") 531)] 0),#[]⟩, ⟨(.type "tuple"),none,(.seq #[] 0),#[]⟩, ⟨.none,none,(.func ⟨(.ofString "escaped_sign"),(.ofString "escaped_sign"),(prm (stAt 17)),(.stmts (bdy (stAt 17))),(scp (stAt 17)),0,[],.none,.none,.none,.none,none,.none,.none,0⟩),#[]⟩, ⟨(.type "code"),none,(.fields #[(.str (.ofString "escaped_sign") 526),(.str (.ofString "escaped_sign") 527),(.str (.ofString "/claim/cut.py") 528),(.int 162 0),(.int 2 0),(.int 0 0),(.int 0 0),(.int 3 0),(.ref 248),(.bool true),(.int 181 0),(.ref 249),.none,(.ref 250),(.ref 251),(.ref 252),(.int 532 0),(.int 162 0),(.str (.ofString "/claim/cut.py") 533)]),#[]⟩, ⟨(.type "function"),none,(.func ⟨(.ofString "escaped_sign"),(.ofString "escaped_sign"),(prm (stAt 17)),(.stmts (bdy (stAt 17))),(scp (stAt 17)),3,[],.none,.none,.none,(.str (.ofString "grammarmill.source") 220),none,(.ref 253),.none,0⟩),#[]⟩, ⟨(.type "tuple"),none,(.seq #[] 0),#[]⟩, ⟨.none,none,(.fields #[]),#[]⟩, ⟨.none,none,(.func ⟨(.ofString "escaped"),(.ofString "escaped"),(prm (stAt 18)),(.stmts (bdy (stAt 18))),(scp (stAt 18)),0,[],.none,.none,.none,.none,none,.none,.none,0⟩),#[]⟩, ⟨(.type "code"),none,(.fields #[(.str (.ofString "escaped") 535),(.str (.ofString "escaped") 536),(.str (.ofString "/claim/cut.py") 537),(.int 175 0),(.int 2 0),(.int 0 0),(.int 0 0),(.int 3 0),(.ref 255),(.bool true),(.int 181 0),(.ref 256),.none,.none,.none,(.ref 257),(.int 538 0),(.int 175 0),(.str (.ofString "/claim/cut.py") 539)]),#[]⟩, ⟨(.type "function"),none,(.func ⟨(.ofString "escaped"),(.ofString "escaped"),(prm (stAt 18)),(.stmts (bdy (stAt 18))),(scp (stAt 18)),3,[],.none,.none,.none,(.str (.ofString "grammarmill.source") 220),none,(.ref 258),.none,0⟩),#[]⟩, ⟨(.type "tuple"),none,(.seq #[] 0),#[]⟩, ⟨.none,none,(.fields #[]),#[]⟩, ⟨.none,none,(.func ⟨(.ofString "show_item"),(.ofString "show_item"),(prm (stAt 22)),(.stmts (bdy (stAt 22))),(scp (stAt 22)),0,[],.none,.none,.none,.none,none,.none,.none,0⟩),#[]⟩, ⟨(.type "code"),none,(.fields #[(.str (.ofString "show_item") 547),(.str (.ofString "show_item") 548),(.str (.ofString "/claim/cut.py") 549),(.int 180 0),(.int 1 0),(.int 0 0),(.int 0 0),(.int 3 0),(.ref 260),(.bool true),(.int 181 0),(.ref 261),.none,.none,.none,(.ref 262),(.int 550 0),(.int 180 0),(.str (.ofString "/claim/cut.py") 551)]),#[]⟩, ⟨(.type "function"),none,(.func ⟨(.ofString "show_item"),(.ofString "show_item"),(prm (stAt 22)),(.stmts (bdy (stAt 22))),(scp (stAt 22)),3,[],.none,.none,.none,(.str (.ofString "grammarmill.lines") 541),none,(.ref 263),.none,0⟩),#[]⟩, ⟨(.type "tuple"),none,(.seq #[] 0),#[]⟩, ⟨(.type "builtin_function_or_method"),none,(.fields #[(.builtin "type.__prepare__"),(.type "type")]),#[]⟩, ⟨(.type "dict"),none,(.dict #[⟨(PySem.PyData.keyHash P (.ofString "__module__")),(.str (.ofString "__module__") 560),(.str (.ofString "grammarmill.lines") 541)⟩,⟨(PySem.PyData.keyHash P (.ofString "__qualname__")),(.str (.ofString "__qualname__") 562),(.str (.ofString "LineWriter") 561)⟩,⟨(PySem.PyData.keyHash P (.ofString "__firstlineno__")),(.str (.ofString "__firstlineno__") 564),(.int 188 563)⟩,⟨(PySem.PyData.keyHash P (.ofString "__init__")),(.str (.ofString "__init__") 572),(.ref 278)⟩,⟨(PySem.PyData.keyHash P (.ofString "add")),(.str (.ofString "add") 578),(.ref 283)⟩,⟨(PySem.PyData.keyHash P (.ofString "text")),(.str (.ofString "text") 585),(.ref 290)⟩,⟨(PySem.PyData.keyHash P (.ofString "__static_attributes__")),(.str (.ofString "__static_attributes__") 587),(.ref 291)⟩] 7),#[]⟩, ⟨(.type "tuple"),none,(.seq #[] 0),#[]⟩, ⟨.none,none,(.fields #[(.int 190 0),(.int 4 0),(.ref 277),(.int 193 0),(.int 4 0),(.ref 282),(.int 196 0),(.int 4 0),(.ref 289)]),#[]⟩, ⟨(.type "code"),none,(.fields #[(.str (.ofString "LineWriter") 555),(.str (.ofString "LineWriter") 556),(.str (.ofString "/claim/cut.py") 557),(.int 188 0),(.int 0 0),(.int 0 0),(.int 0 0),(.int 0 0),(.ref 268),(.bool false),(.int 181 0),(.ref 269),.none,.none,.none,.none,(.int 558 0),(.int 188 0),(.str (.ofString "/claim/cut.py") 559)]),#[]⟩, ⟨(.type "frame"),none,.plain,#[(some (.ref 270)),(some (.ref 3)),(some (.ref 267)),none,(some (.str (.ofString "grammarmill.lines") 541)),none,(some (.ref 0))]⟩, ⟨(.type "tuple"),none,(.seq #[] 0),#[]⟩, ⟨.none,none,(.fields #[]),#[]⟩, ⟨(.type "tuple"),none,(.seq #[(.str (.ofString "self") 568),(.str (.ofString "head") 569)] 0),#[]⟩, ⟨(.type "tuple"),none,(.seq #[] 0),#[]⟩, ⟨.none,none,(.func ⟨(.ofString "__init__"),(.ofString "LineWriter.__init__"),(prm (inAt 23 0)),(.stmts (bdy (inAt 23 0))),(scp (inAt 23 0)),0,[],.none,.none,.none,.none,none,.none,.none,0⟩),#[]⟩, ⟨(.type "code"),none,(.fields #[(.str (.ofString "__init__") 565),(.str (.ofString "LineWriter.__init__") 566),(.str (.ofString "/claim/cut.py") 567),(.int 190 0),(.int 2 0),(.int 0 0),(.int 0 0),(.int 3 0),(.ref 272),(.bool true),(.int 181 0),(.ref 273),.none,(.ref 274),(.ref 275),(.ref 276),(.int 570 0),(.int 190 0),(.str (.ofString "/claim/cut.py") 571)]),#[]⟩, ⟨(.type "function"),none,(.func ⟨(.ofString "__init__"),(.ofString "LineWriter.__init__"),(prm (inAt 23 0)),(.stmts (bdy (inAt 23 0))),(scp (inAt 23 0)),3,[],.none,.none,.none,(.str (.ofString "grammarmill.lines") 541),none,(.ref 277),.none,0⟩),#[]⟩, ⟨(.type "tuple"),none,(.seq #[] 0),#[]⟩, ⟨.none,none,(.fields #[]),#[]⟩, ⟨.none,none,(.func ⟨(.ofString "add"),(.ofString "LineWriter.add"),(prm (inAt 23 1)),(.stmts (bdy (inAt 23 1))),(scp (inAt 23 1)),0,[],.none,.none,.none,.none,none,.none,.none,0⟩),#[]⟩, ⟨(.type "code"),none,(.fields #[(.str (.ofString "add") 573),(.str (.ofString "LineWriter.add") 574),(.str (.ofString "/claim/cut.py") 575),(.int 193 0),(.int 3 0),(.int 0 0),(.int 0 0),(.int 3 0),(.ref 279),(.bool true),(.int 181 0),(.ref 280),.none,.none,.none,(.ref 281),(.int 576 0),(.int 193 0),(.str (.ofString "/claim/cut.py") 577)]),#[]⟩, ⟨(.type "function"),none,(.func ⟨(.ofString "add"),(.ofString "LineWriter.add"),(prm (inAt 23 1)),(.stmts (bdy (inAt 23 1))),(scp (inAt 23 1)),3,[],.none,.none,.none,(.str (.ofString "grammarmill.lines") 541),none,(.ref 282),.none,0⟩),#[]⟩, ⟨(.type "tuple"),none,(.seq #[] 0),#[]⟩, ⟨.none,none,(.fields #[]),#[]⟩, ⟨(.type "tuple"),none,(.seq #[(.str (.ofString "self") 582)] 0),#[]⟩, ⟨(.type "tuple"),none,(.seq #[] 0),#[]⟩, ⟨.none,none,(.func ⟨(.ofString "text"),(.ofString "LineWriter.text"),(prm (inAt 23 2)),(.stmts (bdy (inAt 23 2))),(scp (inAt 23 2)),0,[],.none,.none,.none,.none,none,.none,.none,0⟩),#[]⟩, ⟨(.type "code"),none,(.fields #[(.str (.ofString "text") 579),(.str (.ofString "LineWriter.text") 580),(.str (.ofString "/claim/cut.py") 581),(.int 196 0),(.int 1 0),(.int 0 0),(.int 0 0),(.int 3 0),(.ref 284),(.bool true),(.int 181 0),(.ref 285),.none,(.ref 286),(.ref 287),(.ref 288),(.int 583 0),(.int 196 0),(.str (.ofString "/claim/cut.py") 584)]),#[]⟩, ⟨(.type "function"),none,(.func ⟨(.ofString "text"),(.ofString "LineWriter.text"),(prm (inAt 23 2)),(.stmts (bdy (inAt 23 2))),(scp (inAt 23 2)),3,[],.none,.none,.none,(.str (.ofString "grammarmill.lines") 541),none,(.ref 289),.none,0⟩),#[]⟩, ⟨(.type "tuple"),none,(.seq #[(.str (.ofString "lines") 586)] 0),#[]⟩, ⟨(.type "dict"),none,(.dict #[⟨(PySem.PyData.keyHash P (.ofString "__module__")),(.str (.ofString "__module__") 560),(.str (.ofString "grammarmill.lines") 541)⟩,⟨(PySem.PyData.keyHash P (.ofString "__firstlineno__")),(.str (.ofString "__firstlineno__") 564),(.int 188 563)⟩,⟨(PySem.PyData.keyHash P (.ofString "__init__")),(.str (.ofString "__init__") 572),(.ref 278)⟩,⟨(PySem.PyData.keyHash P (.ofString "add")),(.str (.ofString "add") 578),(.ref 283)⟩,⟨(PySem.PyData.keyHash P (.ofString "text")),(.str (.ofString "text") 585),(.ref 290)⟩,⟨(PySem.PyData.keyHash P (.ofString "__static_attributes__")),(.str (.ofString "__static_attributes__") 587),(.ref 291)⟩,⟨(PySem.PyData.keyHash P (.ofString "__dict__")),(.str (.ofString "__dict__") 589),(.ref 294)⟩,⟨(PySem.PyData.keyHash P (.ofString "__weakref__")),(.str (.ofString "__weakref__") 591),(.ref 295)⟩,⟨(PySem.PyData.keyHash P (.ofString "__doc__")),(.str (.ofString "__doc__") 592),.none⟩] 4),#[]⟩, ⟨(.type "type"),none,(.cls ⟨(.ofString "LineWriter"),[(.type "object")],[(.ref 293),(.type "object")],292,(.ofString "LineWriter"),true,[],[],false,none,false⟩),#[none,none,(some (.str (.ofString "LineWriter") 553)),(some (.str (.ofString "LineWriter") 561)),(some (.builtin "object.__new__")),(some (.bool true))]⟩, ⟨(.type "getset_descriptor"),none,(.fields #[(.str (.ofString "__dict__") 588),(.ref 293),(.builtin "function.__dict__"),(.builtin "function.__dict__#set")]),#[]⟩, ⟨(.type "getset_descriptor"),none,(.fields #[(.str (.ofString "__weakref__") 590),(.ref 293),(.builtin "ExceptionGroup.__weakref__"),.none]),#[]⟩, ⟨(.type "super"),none,(.fields #[(.ref 293),(.ref 293),(.ref 293)]),#[]⟩, ⟨(.type "builtin_function_or_method"),none,(.fields #[(.builtin "object.__init_subclass__"),(.ref 293)]),#[]⟩, ⟨(.type "tuple"),none,(.seq #[] 0),#[]⟩, ⟨(.type "builtin_function_or_method"),none,(.fields #[(.builtin "type.__prepare__"),(.type "type")]),#[]⟩, ⟨(.type "dict"),none,(.dict #[⟨(PySem.PyData.keyHash P (.ofString "__module__")),(.str (.ofString "__module__") 602),(.str (.ofString "grammarmill.lines") 541)⟩,⟨(PySem.PyData.keyHash P (.ofString "__qualname__")),(.str (.ofString "__qualname__") 604),(.str (.ofString "LineReader") 603)⟩,⟨(PySem.PyData.keyHash P (.ofString "__firstlineno__")),(.str (.ofString "__firstlineno__") 606),(.int 198 605)⟩,⟨(PySem.PyData.keyHash P (.ofString "__init__")),(.str (.ofString "__init__") 614),(.ref 311)⟩,⟨(PySem.PyData.keyHash P (.ofString "fail")),(.str (.ofString "fail") 622),(.ref 318)⟩,⟨(PySem.PyData.keyHash P (.ofString "need")),(.str (.ofString "need") 630),(.ref 325)⟩,⟨(PySem.PyData.keyHash P (.ofString "head")),(.str (.ofString "head") 638),(.ref 332)⟩,⟨(PySem.PyData.keyHash P (.ofString "end_line")),(.str (.ofString "end_line") 645),(.ref 339)⟩,⟨(PySem.PyData.keyHash P (.ofString "whole")),(.str (.ofString "whole") 654),(.ref 346)⟩,⟨(PySem.PyData.keyHash P (.ofString "item")),(.str (.ofString "item") 664),(.ref 354)⟩,⟨(PySem.PyData.keyHash P (.ofString "bracket")),(.str (.ofString "bracket") 673),(.ref 361)⟩,⟨(PySem.PyData.keyHash P (.ofString "items")),(.str (.ofString "items") 684),(.ref 368)⟩,⟨(PySem.PyData.keyHash P (.ofString "numbers")),(.str (.ofString "numbers") 698),(.ref 376)⟩,⟨(PySem.PyData.keyHash P (.ofString "one")),(.str (.ofString "one") 708),(.ref 383)⟩,⟨(PySem.PyData.keyHash P (.ofString "texts")),(.str (.ofString "texts") 716),(.ref 390)⟩,⟨(PySem.PyData.keyHash P (.ofString "finish")),(.str (.ofString "finish") 723),(.ref 397)⟩,⟨(PySem.PyData.keyHash P (.ofString "need_same")),(.str (.ofString "need_same") 731),(.ref 404)⟩,⟨(PySem.PyData.keyHash P (.ofString "__static_attributes__")),(.str (.ofString "__static_attributes__") 734),(.ref 405)⟩] 18),#[]⟩, ⟨(.type "tuple"),none,(.seq #[] 0),#[]⟩, ⟨.none,none,(.fields #[(.int 200 0),(.int 4 0),(.ref 310),(.int 204 0),(.int 4 0),(.ref 317),(.int 207 0),(.int 4 0),(.ref 324),(.int 211 0),(.int 4 0),(.ref 331),(.int 215 0),(.int 4 0),(.ref 338),(.int 219 0),(.int 4 0),(.ref 345),(.int 226 0),(.int 4 0),(.ref 353),(.int 239 0),(.int 4 0),(.ref 360),(.int 251 0),(.int 4 0),(.ref 367),(.int 262 0),(.int 4 0),(.ref 375),(.int 272 0),(.int 4 0),(.ref 382),(.int 275 0),(.int 4 0),(.ref 389),(.int 278 0),(.int 4 0),(.ref 396),(.int 286 0),(.int 4 0),(.ref 403)]),#[]⟩, ⟨(.type "code"),none,(.fields #[(.str (.ofString "LineReader") 597),(.str (.ofString "LineReader") 598),(.str (.ofString "/claim/cut.py") 599),(.int 198 0),(.int 0 0),(.int 0 0),(.int 0 0),(.int 0 0),(.ref 301),(.bool false),(.int 181 0),(.ref 302),.none,.none,.none,.none,(.int 600 0),(.int 198 0),(.str (.ofString "/claim/cut.py") 601)]),#[]⟩, ⟨(.type "frame"),none,.plain,#[(some (.ref 303)),(some (.ref 3)),(some (.ref 300)),none,(some (.str (.ofString "grammarmill.lines") 541)),none,(some (.ref 0))]⟩, ⟨(.type "tuple"),none,(.seq #[] 0),#[]⟩, ⟨.none,none,(.fields #[]),#[]⟩, ⟨(.type "tuple"),none,(.seq #[(.str (.ofString "self") 610),(.str (.ofString "text") 611)] 0),#[]⟩, ⟨(.type "tuple"),none,(.seq #[] 0),#[]⟩, ⟨.none,none,(.func ⟨(.ofString "__init__"),(.ofString "LineReader.__init__"),(prm (inAt 24 0)),(.stmts (bdy (inAt 24 0))),(scp (inAt 24 0)),0,[],.none,.none,.none,.none,none,.none,.none,0⟩),#[]⟩, ⟨(.type "code"),none,(.fields #[(.str (.ofString "__init__") 607),(.str (.ofString "LineReader.__init__") 608),(.str (.ofString "/claim/cut.py") 609),(.int 200 0),(.int 2 0),(.int 0 0),(.int 0 0),(.int 3 0),(.ref 305),(.bool true),(.int 181 0),(.ref 306),.none,(.ref 307),(.ref 308),(.ref 309),(.int 612 0),(.int 200 0),(.str (.ofString "/claim/cut.py") 613)]),#[]⟩, ⟨(.type "function"),none,(.func ⟨(.ofString "__init__"),(.ofString "LineReader.__init__"),(prm (inAt 24 0)),(.stmts (bdy (inAt 24 0))),(scp (inAt 24 0)),3,[],.none,.none,.none,(.str (.ofString "grammarmill.lines") 541),none,(.ref 310),.none,0⟩),#[]⟩, ⟨(.type "tuple"),none,(.seq #[] 0),#[]⟩, ⟨.none,none,(.fields #[]),#[]⟩, ⟨(.type "tuple"),none,(.seq #[(.str (.ofString "self") 618),(.str (.ofString "what") 619)] 0),#[]⟩, ⟨(.type "tuple"),none,(.seq #[] 0),#[]⟩, ⟨.none,none,(.func ⟨(.ofString "fail"),(.ofString "LineReader.fail"),(prm (inAt 24 1)),(.stmts (bdy (inAt 24 1))),(scp (inAt 24 1)),0,[],.none,.none,.none,.none,none,.none,.none,0⟩),#[]⟩, ⟨(.type "code"),none,(.fields #[(.str (.ofString "fail") 615),(.str (.ofString "LineReader.fail") 616),(.str (.ofString "/claim/cut.py") 617),(.int 204 0),(.int 2 0),(.int 0 0),(.int 0 0),(.int 3 0),(.ref 312),(.bool true),(.int 181 0),(.ref 313),.none,(.ref 314),(.ref 315),(.ref 316),(.int 620 0),(.int 204 0),(.str (.ofString "/claim/cut.py") 621)]),#[]⟩, ⟨(.type "function"),none,(.func ⟨(.ofString "fail"),(.ofString "LineReader.fail"),(prm (inAt 24 1)),(.stmts (bdy (inAt 24 1))),(scp (inAt 24 1)),3,[],.none,.none,.none,(.str (.ofString "grammarmill.lines") 541),none,(.ref 317),.none,0⟩),#[]⟩, ⟨(.type "tuple"),none,(.seq #[] 0),#[]⟩, ⟨.none,none,(.fields #[]),#[]⟩, ⟨(.type "tuple"),none,(.seq #[(.str (.ofString "self") 626),(.str (.ofString "word") 627)] 0),#[]⟩, ⟨(.type "tuple"),none,(.seq #[] 0),#[]⟩, ⟨.none,none,(.func ⟨(.ofString "need"),(.ofString "LineReader.need"),(prm (inAt 24 2)),(.stmts (bdy (inAt 24 2))),(scp (inAt 24 2)),0,[],.none,.none,.none,.none,none,.none,.none,0⟩),#[]⟩, ⟨(.type "code"),none,(.fields #[(.str (.ofString "need") 623),(.str (.ofString "LineReader.need") 624),(.str (.ofString "/claim/cut.py") 625),(.int 207 0),(.int 2 0),(.int 0 0),(.int 0 0),(.int 3 0),(.ref 319),(.bool true),(.int 181 0),(.ref 320),.none,(.ref 321),(.ref 322),(.ref 323),(.int 628 0),(.int 207 0),(.str (.ofString "/claim/cut.py") 629)]),#[]⟩, ⟨(.type "function"),none,(.func ⟨(.ofString "need"),(.ofString "LineReader.need"),(prm (inAt 24 2)),(.stmts (bdy (inAt 24 2))),(scp (inAt 24 2)),3,[],.none,.none,.none,(.str (.ofString "grammarmill.lines") 541),none,(.ref 324),.none,0⟩),#[]⟩, ⟨(.type "tuple"),none,(.seq #[] 0),#[]⟩, ⟨.none,none,(.fields #[]),#[]⟩, ⟨(.type "tuple"),none,(.seq #[(.str (.ofString "self") 634),(.str (.ofString "word") 635)] 0),#[]⟩, ⟨(.type "tuple"),none,(.seq #[] 0),#[]⟩, ⟨.none,none,(.func ⟨(.ofString "head"),(.ofString "LineReader.head"),(prm (inAt 24 3)),(.stmts (bdy (inAt 24 3))),(scp (inAt 24 2)),0,[],.none,.none,.none,.none,none,.none,.none,0⟩),#[]⟩, ⟨(.type "code"),none,(.fields #[(.str (.ofString "head") 631),(.str (.ofString "LineReader.head") 632),(.str (.ofString "/claim/cut.py") 633),(.int 211 0),(.int 2 0),(.int 0 0),(.int 0 0),(.int 3 0),(.ref 326),(.bool true),(.int 181 0),(.ref 327),.none,(.ref 328),(.ref 329),(.ref 330),(.int 636 0),(.int 211 0),(.str (.ofString "/claim/cut.py") 637)]),#[]⟩, ⟨(.type "function"),none,(.func ⟨(.ofString "head"),(.ofString "LineReader.head"),(prm (inAt 24 3)),(.stmts (bdy (inAt 24 3))),(scp (inAt 24 2)),3,[],.none,.none,.none,(.str (.ofString "grammarmill.lines") 541),none,(.ref 331),.none,0⟩),#[]⟩, ⟨(.type "tuple"),none,(.seq #[] 0),#[]⟩, ⟨.none,none,(.fields #[]),#[]⟩, ⟨(.type "tuple"),none,(.seq #[(.str (.ofString "self") 642)] 0),#[]⟩, ⟨(.type "tuple"),none,(.seq #[] 0),#[]⟩, ⟨.none,none,(.func ⟨(.ofString "end_line"),(.ofString "LineReader.end_line"),(prm (inAt 24 4)),(.stmts (bdy (inAt 24 4))),(scp (inAt 11 1)),0,[],.none,.none,.none,.none,none,.none,.none,0⟩),#[]⟩, ⟨(.type "code"),none,(.fields #[(.str (.ofString "end_line") 639),(.str (.ofString "LineReader.end_line") 640),(.str (.ofString "/claim/cut.py") 641),(.int 215 0),(.int 1 0),(.int 0 0),(.int 0 0),(.int 3 0),(.ref 333),(.bool true),(.int 181 0),(.ref 334),.none,(.ref 335),(.ref 336),(.ref 337),(.int 643 0),(.int 215 0),(.str (.ofString "/claim/cut.py") 644)]),#[]⟩, ⟨(.type "function"),none,(.func ⟨(.ofString "end_line"),(.ofString "LineReader.end_line"),(prm (inAt 24 4)),(.stmts (bdy (inAt 24 4))),(scp (inAt 11 1)),3,[],.none,.none,.none,(.str (.ofString "grammarmill.lines") 541),none,(.ref 338),.none,0⟩),#[]⟩, ⟨(.type "tuple"),none,(.seq #[] 0),#[]⟩, ⟨.none,none,(.fields #[]),#[]⟩, ⟨(.type "tuple"),none,(.seq #[(.str (.ofString "self") 649),(.str (.ofString "sign") 650),(.str (.ofString "figures") 651)] 0),#[]⟩, ⟨(.type "tuple"),none,(.seq #[] 0),#[]⟩, ⟨.none,none,(.func ⟨(.ofString "whole"),(.ofString "LineReader.whole"),(prm (inAt 24 5)),(.stmts (bdy (inAt 24 5))),(scp (inAt 24 5)),0,[],.none,.none,.none,.none,none,.none,.none,0⟩),#[]⟩, ⟨(.type "code"),none,(.fields #[(.str (.ofString "whole") 646),(.str (.ofString "LineReader.whole") 647),(.str (.ofString "/claim/cut.py") 648),(.int 219 0),(.int 1 0),(.int 0 0),(.int 0 0),(.int 3 0),(.ref 340),(.bool true),(.int 181 0),(.ref 341),.none,(.ref 342),(.ref 343),(.ref 344),(.int 652 0),(.int 219 0),(.str (.ofString "/claim/cut.py") 653)]),#[]⟩, ⟨(.type "function"),none,(.func ⟨(.ofString "whole"),(.ofString "LineReader.whole"),(prm (inAt 24 5)),(.stmts (bdy (inAt 24 5))),(scp (inAt 24 5)),3,[],.none,.none,.none,(.str (.ofString "grammarmill.lines") 541),none,(.ref 345),.none,0⟩),#[]⟩, ⟨(.type "tuple"),none,(.seq #[(.int 0 655)] 0),#[]⟩, ⟨(.type "tuple"),none,(.seq #[] 0),#[]⟩, ⟨.none,none,(.fields #[]),#[]⟩, ⟨(.type "tuple"),none,(.seq #[(.str (.ofString "self") 659),(.str (.ofString "depth") 660),(.str (.ofString "found") 661)] 0),#[]⟩, ⟨(.type "tuple"),none,(.seq #[] 0),#[]⟩, ⟨.none,none,(.func ⟨(.ofString "item"),(.ofString "LineReader.item"),(prm (inAt 24 6)),(.stmts (bdy (inAt 24 6))),(scp (inAt 24 6)),0,[],.none,.none,.none,.none,none,.none,.none,0⟩),#[]⟩, ⟨(.type "code"),none,(.fields #[(.str (.ofString "item") 656),(.str (.ofString "LineReader.item") 657),(.str (.ofString "/claim/cut.py") 658),(.int 226 0),(.int 2 0),(.int 0 0),(.int 0 0),(.int 3 0),(.ref 348),(.bool true),(.int 181 0),(.ref 349),.none,(.ref 350),(.ref 351),(.ref 352),(.int 662 0),(.int 226 0),(.str (.ofString "/claim/cut.py") 663)]),#[]⟩, ⟨(.type "function"),none,(.func ⟨(.ofString "item"),(.ofString "LineReader.item"),(prm (inAt 24 6)),(.stmts (bdy (inAt 24 6))),(scp (inAt 24 6)),3,[],(.ref 347),.none,.none,(.str (.ofString "grammarmill.lines") 541),none,(.ref 353),.none,0⟩),#[]⟩, ⟨(.type "tuple"),none,(.seq #[] 0),#[]⟩, ⟨.none,none,(.fields #[]),#[]⟩, ⟨(.type "tuple"),none,(.seq #[(.str (.ofString "self") 668),(.str (.ofString "depth") 669),(.str (.ofString "found") 670)] 0),#[]⟩, ⟨(.type "tuple"),none,(.seq #[] 0),#[]⟩, ⟨.none,none,(.func ⟨(.ofString "bracket"),(.ofString "LineReader.bracket"),(prm (inAt 24 7)),(.stmts (bdy (inAt 24 7))),(scp (inAt 24 7)),0,[],.none,.none,.none,.none,none,.none,.none,0⟩),#[]⟩, ⟨(.type "code"),none,(.fields #[(.str (.ofString "bracket") 665),(.str (.ofString "LineReader.bracket") 666),(.str (.ofString "/claim/cut.py") 667),(.int 239 0),(.int 2 0),(.int 0 0),(.int 0 0),(.int 3 0),(.ref 355),(.bool true),(.int 181 0),(.ref 356),.none,(.ref 357),(.ref 358),(.ref 359),(.int 671 0),(.int 239 0),(.str (.ofString "/claim/cut.py") 672)]),#[]⟩, ⟨(.type "function"),none,(.func ⟨(.ofString "bracket"),(.ofString "LineReader.bracket"),(prm (inAt 24 7)),(.stmts (bdy (inAt 24 7))),(scp (inAt 24 7)),3,[],.none,.none,.none,(.str (.ofString "grammarmill.lines") 541),none,(.ref 360),.none,0⟩),#[]⟩, ⟨(.type "tuple"),none,(.seq #[] 0),#[]⟩, ⟨.none,none,(.fields #[]),#[]⟩, ⟨(.type "tuple"),none,(.seq #[(.str (.ofString "self") 677),(.str (.ofString "word") 678),(.str (.ofString "many") 679),(.str (.ofString "found") 680),(.str (.ofString "turn") 681)] 0),#[]⟩, ⟨(.type "tuple"),none,(.seq #[] 0),#[]⟩, ⟨.none,none,(.func ⟨(.ofString "items"),(.ofString "LineReader.items"),(prm (inAt 24 8)),(.stmts (bdy (inAt 24 8))),(scp (inAt 24 8)),0,[],.none,.none,.none,.none,none,.none,.none,0⟩),#[]⟩, ⟨(.type "code"),none,(.fields #[(.str (.ofString "items") 674),(.str (.ofString "LineReader.items") 675),(.str (.ofString "/claim/cut.py") 676),(.int 251 0),(.int 2 0),(.int 0 0),(.int 0 0),(.int 3 0),(.ref 362),(.bool true),(.int 181 0),(.ref 363),.none,(.ref 364),(.ref 365),(.ref 366),(.int 682 0),(.int 251 0),(.str (.ofString "/claim/cut.py") 683)]),#[]⟩, ⟨(.type "function"),none,(.func ⟨(.ofString "items"),(.ofString "LineReader.items"),(prm (inAt 24 8)),(.stmts (bdy (inAt 24 8))),(scp (inAt 24 8)),3,[],.none,.none,.none,(.str (.ofString "grammarmill.lines") 541),none,(.ref 367),.none,0⟩),#[]⟩, ⟨(.type "tuple"),none,(.seq #[.none,.none,.none] 0),#[]⟩, ⟨(.type "tuple"),none,(.seq #[] 0),#[]⟩, ⟨.none,none,(.fields #[]),#[]⟩, ⟨(.type "tuple"),none,(.seq #[(.str (.ofString "self") 688),(.str (.ofString "word") 689),(.str (.ofString "least") 690),(.str (.ofString "most") 691),(.str (.ofString "many") 692),(.str (.ofString "found") 693),(.str (.ofString "item") 694),(.str (.ofString "is_out") 695)] 0),#[]⟩, ⟨(.type "tuple"),none,(.seq #[] 0),#[]⟩, ⟨.none,none,(.func ⟨(.ofString "numbers"),(.ofString "LineReader.numbers"),(prm (inAt 24 9)),(.stmts (bdy (inAt 24 9))),(scp (inAt 24 9)),0,[],.none,.none,.none,.none,none,.none,.none,0⟩),#[]⟩, ⟨(.type "code"),none,(.fields #[(.str (.ofString "numbers") 685),(.str (.ofString "LineReader.numbers") 686),(.str (.ofString "/claim/cut.py") 687),(.int 262 0),(.int 5 0),(.int 0 0),(.int 0 0),(.int 3 0),(.ref 370),(.bool true),(.int 181 0),(.ref 371),.none,(.ref 372),(.ref 373),(.ref 374),(.int 696 0),(.int 262 0),(.str (.ofString "/claim/cut.py") 697)]),#[]⟩, ⟨(.type "function"),none,(.func ⟨(.ofString "numbers"),(.ofString "LineReader.numbers"),(prm (inAt 24 9)),(.stmts (bdy (inAt 24 9))),(scp (inAt 24 9)),3,[],(.ref 369),.none,.none,(.str (.ofString "grammarmill.lines") 541),none,(.ref 375),.none,0⟩),#[]⟩, ⟨(.type "tuple"),none,(.seq #[] 0),#[]⟩, ⟨.none,none,(.fields #[]),#[]⟩, ⟨(.type "tuple"),none,(.seq #[(.str (.ofString "self") 702),(.str (.ofString "word") 703),(.str (.ofString "least") 704),(.str (.ofString "most") 705)] 0),#[]⟩, ⟨(.type "tuple"),none,(.seq #[] 0),#[]⟩, ⟨.none,none,(.func ⟨(.ofString "one"),(.ofString "LineReader.one"),(prm (inAt 24 10)),(.stmts (bdy (inAt 24 10))),(scp (inAt 24 10)),0,[],.none,.none,.none,.none,none,.none,.none,0⟩),#[]⟩, ⟨(.type "code"),none,(.fields #[(.str (.ofString "one") 699),(.str (.ofString "LineReader.one") 700),(.str (.ofString "/claim/cut.py") 701),(.int 272 0),(.int 4 0),(.int 0 0),(.int 0 0),(.int 3 0),(.ref 377),(.bool true),(.int 181 0),(.ref 378),.none,(.ref 379),(.ref 380),(.ref 381),(.int 706 0),(.int 272 0),(.str (.ofString "/claim/cut.py") 707)]),#[]⟩, ⟨(.type "function"),none,(.func ⟨(.ofString "one"),(.ofString "LineReader.one"),(prm (inAt 24 10)),(.stmts (bdy (inAt 24 10))),(scp (inAt 24 10)),3,[],.none,.none,.none,(.str (.ofString "grammarmill.lines") 541),none,(.ref 382),.none,0⟩),#[]⟩, ⟨(.type "tuple"),none,(.seq #[] 0),#[]⟩, ⟨.none,none,(.fields #[]),#[]⟩, ⟨(.type "tuple"),none,(.seq #[(.str (.ofString "self") 712),(.str (.ofString "word") 713)] 0),#[]⟩, ⟨(.type "tuple"),none,(.seq #[] 0),#[]⟩, ⟨.none,none,(.func ⟨(.ofString "texts"),(.ofString "LineReader.texts"),(prm (inAt 24 11)),(.stmts (bdy (inAt 24 11))),(scp (inAt 24 11)),0,[],.none,.none,.none,.none,none,.none,.none,0⟩),#[]⟩, ⟨(.type "code"),none,(.fields #[(.str (.ofString "texts") 709),(.str (.ofString "LineReader.texts") 710),(.str (.ofString "/claim/cut.py") 711),(.int 275 0),(.int 2 0),(.int 0 0),(.int 0 0),(.int 3 0),(.ref 384),(.bool true),(.int 181 0),(.ref 385),.none,(.ref 386),(.ref 387),(.ref 388),(.int 714 0),(.int 275 0),(.str (.ofString "/claim/cut.py") 715)]),#[]⟩, ⟨(.type "function"),none,(.func ⟨(.ofString "texts"),(.ofString "LineReader.texts"),(prm (inAt 24 11)),(.stmts (bdy (inAt 24 11))),(scp (inAt 24 11)),3,[],.none,.none,.none,(.str (.ofString "grammarmill.lines") 541),none,(.ref 389),.none,0⟩),#[]⟩, ⟨(.type "tuple"),none,(.seq #[] 0),#[]⟩, ⟨.none,none,(.fields #[]),#[]⟩, ⟨(.type "tuple"),none,(.seq #[(.str (.ofString "self") 720)] 0),#[]⟩, ⟨(.type "tuple"),none,(.seq #[] 0),#[]⟩, ⟨.none,none,(.func ⟨(.ofString "finish"),(.ofString "LineReader.finish"),(prm (inAt 24 12)),(.stmts (bdy (inAt 24 12))),(scp (inAt 11 1)),0,[],.none,.none,.none,.none,none,.none,.none,0⟩),#[]⟩, ⟨(.type "code"),none,(.fields #[(.str (.ofString "finish") 717),(.str (.ofString "LineReader.finish") 718),(.str (.ofString "/claim/cut.py") 719),(.int 278 0),(.int 1 0),(.int 0 0),(.int 0 0),(.int 3 0),(.ref 391),(.bool true),(.int 181 0),(.ref 392),.none,(.ref 393),(.ref 394),(.ref 395),(.int 721 0),(.int 278 0),(.str (.ofString "/claim/cut.py") 722)]),#[]⟩, ⟨(.type "function"),none,(.func ⟨(.ofString "finish"),(.ofString "LineReader.finish"),(prm (inAt 24 12)),(.stmts (bdy (inAt 24 12))),(scp (inAt 11 1)),3,[],.none,.none,.none,(.str (.ofString "grammarmill.lines") 541),none,(.ref 396),.none,0⟩),#[]⟩, ⟨(.type "tuple"),none,(.seq #[] 0),#[]⟩, ⟨.none,none,(.fields #[]),#[]⟩, ⟨(.type "tuple"),none,(.seq #[(.str (.ofString "self") 727),(.str (.ofString "text") 728)] 0),#[]⟩, ⟨(.type "tuple"),none,(.seq #[] 0),#[]⟩, ⟨.none,none,(.func ⟨(.ofString "need_same"),(.ofString "LineReader.need_same"),(prm (inAt 24 13)),(.stmts (bdy (inAt 24 13))),(scp (inAt 24 13)),0,[],.none,.none,.none,.none,none,.none,.none,0⟩),#[]⟩, ⟨(.type "code"),none,(.fields #[(.str (.ofString "need_same") 724),(.str (.ofString "LineReader.need_same") 725),(.str (.ofString "/claim/cut.py") 726),(.int 286 0),(.int 2 0),(.int 0 0),(.int 0 0),(.int 3 0),(.ref 398),(.bool true),(.int 181 0),(.ref 399),.none,(.ref 400),(.ref 401),(.ref 402),(.int 729 0),(.int 286 0),(.str (.ofString "/claim/cut.py") 730)]),#[]⟩, ⟨(.type "function"),none,(.func ⟨(.ofString "need_same"),(.ofString "LineReader.need_same"),(prm (inAt 24 13)),(.stmts (bdy (inAt 24 13))),(scp (inAt 24 13)),3,[],.none,.none,.none,(.str (.ofString "grammarmill.lines") 541),none,(.ref 403),.none,0⟩),#[]⟩, ⟨(.type "tuple"),none,(.seq #[(.str (.ofString "cursor") 732),(.str (.ofString "lines") 733)] 0),#[]⟩, ⟨(.type "dict"),none,(.dict #[⟨(PySem.PyData.keyHash P (.ofString "__module__")),(.str (.ofString "__module__") 602),(.str (.ofString "grammarmill.lines") 541)⟩,⟨(PySem.PyData.keyHash P (.ofString "__firstlineno__")),(.str (.ofString "__firstlineno__") 606),(.int 198 605)⟩,⟨(PySem.PyData.keyHash P (.ofString "__init__")),(.str (.ofString "__init__") 614),(.ref 311)⟩,⟨(PySem.PyData.keyHash P (.ofString "fail")),(.str (.ofString "fail") 622),(.ref 318)⟩,⟨(PySem.PyData.keyHash P (.ofString "need")),(.str (.ofString "need") 630),(.ref 325)⟩,⟨(PySem.PyData.keyHash P (.ofString "head")),(.str (.ofString "head") 638),(.ref 332)⟩,⟨(PySem.PyData.keyHash P (.ofString "end_line")),(.str (.ofString "end_line") 645),(.ref 339)⟩,⟨(PySem.PyData.keyHash P (.ofString "whole")),(.str (.ofString "whole") 654),(.ref 346)⟩,⟨(PySem.PyData.keyHash P (.ofString "item")),(.str (.ofString "item") 664),(.ref 354)⟩,⟨(PySem.PyData.keyHash P (.ofString "bracket")),(.str (.ofString "bracket") 673),(.ref 361)⟩,⟨(PySem.PyData.keyHash P (.ofString "items")),(.str (.ofString "items") 684),(.ref 368)⟩,⟨(PySem.PyData.keyHash P (.ofString "numbers")),(.str (.ofString "numbers") 698),(.ref 376)⟩,⟨(PySem.PyData.keyHash P (.ofString "one")),(.str (.ofString "one") 708),(.ref 383)⟩,⟨(PySem.PyData.keyHash P (.ofString "texts")),(.str (.ofString "texts") 716),(.ref 390)⟩,⟨(PySem.PyData.keyHash P (.ofString "finish")),(.str (.ofString "finish") 723),(.ref 397)⟩,⟨(PySem.PyData.keyHash P (.ofString "need_same")),(.str (.ofString "need_same") 731),(.ref 404)⟩,⟨(PySem.PyData.keyHash P (.ofString "__static_attributes__")),(.str (.ofString "__static_attributes__") 734),(.ref 405)⟩,⟨(PySem.PyData.keyHash P (.ofString "__dict__")),(.str (.ofString "__dict__") 736),(.ref 408)⟩,⟨(PySem.PyData.keyHash P (.ofString "__weakref__")),(.str (.ofString "__weakref__") 738),(.ref 409)⟩,⟨(PySem.PyData.keyHash P (.ofString "__doc__")),(.str (.ofString "__doc__") 739),.none⟩] 4),#[]⟩, ⟨(.type "type"),none,(.cls ⟨(.ofString "LineReader"),[(.type "object")],[(.ref 407),(.type "object")],406,(.ofString "LineReader"),true,[],[],false,none,false⟩),#[none,none,(some (.str (.ofString "LineReader") 595)),(some (.str (.ofString "LineReader") 603)),(some (.builtin "object.__new__")),(some (.bool true))]⟩, ⟨(.type "getset_descriptor"),none,(.fields #[(.str (.ofString "__dict__") 735),(.ref 407),(.builtin "function.__dict__"),(.builtin "function.__dict__#set")]),#[]⟩, ⟨(.type "getset_descriptor"),none,(.fields #[(.str (.ofString "__weakref__") 737),(.ref 407),(.builtin "ExceptionGroup.__weakref__"),.none]),#[]⟩, ⟨(.type "super"),none,(.fields #[(.ref 407),(.ref 407),(.ref 407)]),#[]⟩, ⟨(.type "builtin_function_or_method"),none,(.fields #[(.builtin "object.__init_subclass__"),(.ref 407)]),#[]⟩, ⟨(.type "tuple"),none,(.seq #[] 0),#[]⟩, ⟨.none,none,(.fields #[]),#[]⟩, ⟨.none,none,(.func ⟨(.ofString "_law_jug"),(.ofString "_law_jug"),(prm (stAt 26)),(.stmts (bdy (stAt 26))),(scp (stAt 26)),0,[],.none,.none,.none,.none,none,.none,.none,0⟩),#[]⟩, ⟨(.type "code"),none,(.fields #[(.str (.ofString "_law_jug") 744),(.str (.ofString "_law_jug") 745),(.str (.ofString "/claim/cut.py") 746),(.int 289 0),(.int 1 0),(.int 0 0),(.int 0 0),(.int 3 0),(.ref 412),(.bool true),(.int 181 0),(.ref 413),.none,.none,.none,(.ref 414),(.int 747 0),(.int 289 0),(.str (.ofString "/claim/cut.py") 748)]),#[]⟩, ⟨(.type "function"),none,(.func ⟨(.ofString "_law_jug"),(.ofString "_law_jug"),(prm (stAt 26)),(.stmts (bdy (stAt 26))),(scp (stAt 26)),3,[],.none,.none,.none,(.str (.ofString "law_sf0019_01") 742),none,(.ref 415),.none,0⟩),#[]⟩, ⟨(.type "tuple"),none,(.seq #[] 0),#[]⟩, ⟨.none,none,(.fields #[]),#[]⟩, ⟨(.type "tuple"),none,(.seq #[(.str (.ofString "jug") 753),(.str (.ofString "many") 754),(.str (.ofString "cells") 755),(.str (.ofString "turn") 756),(.str (.ofString "worth") 757)] 0),#[]⟩, ⟨(.type "tuple"),none,(.seq #[] 0),#[]⟩, ⟨.none,none,(.func ⟨(.ofString "_law_sip"),(.ofString "_law_sip"),(prm (stAt 27)),(.stmts (bdy (stAt 27))),(scp (stAt 27)),0,[],.none,.none,.none,.none,none,.none,.none,0⟩),#[]⟩, ⟨(.type "code"),none,(.fields #[(.str (.ofString "_law_sip") 750),(.str (.ofString "_law_sip") 751),(.str (.ofString "/claim/cut.py") 752),(.int 291 0),(.int 2 0),(.int 0 0),(.int 0 0),(.int 3 0),(.ref 417),(.bool true),(.int 181 0),(.ref 418),.none,(.ref 419),(.ref 420),(.ref 421),(.int 758 0),(.int 291 0),(.str (.ofString "/claim/cut.py") 759)]),#[]⟩, ⟨(.type "function"),none,(.func ⟨(.ofString "_law_sip"),(.ofString "_law_sip"),(prm (stAt 27)),(.stmts (bdy (stAt 27))),(scp (stAt 27)),3,[],.none,.none,.none,(.str (.ofString "law_sf0019_01") 742),none,(.ref 422),.none,0⟩),#[]⟩, ⟨(.type "tuple"),none,(.seq #[] 0),#[]⟩, ⟨.none,none,(.fields #[]),#[]⟩, ⟨.none,none,(.func ⟨(.ofString "_law_parts"),(.ofString "_law_parts"),(prm (stAt 28)),(.stmts (bdy (stAt 28))),(scp (stAt 28)),0,[],.none,.none,.none,.none,none,.none,.none,0⟩),#[]⟩, ⟨(.type "code"),none,(.fields #[(.str (.ofString "_law_parts") 761),(.str (.ofString "_law_parts") 762),(.str (.ofString "/claim/cut.py") 763),(.int 299 0),(.int 1 0),(.int 0 0),(.int 0 0),(.int 3 0),(.ref 424),(.bool true),(.int 181 0),(.ref 425),.none,.none,.none,(.ref 426),(.int 764 0),(.int 299 0),(.str (.ofString "/claim/cut.py") 765)]),#[]⟩, ⟨(.type "function"),none,(.func ⟨(.ofString "_law_parts"),(.ofString "_law_parts"),(prm (stAt 28)),(.stmts (bdy (stAt 28))),(scp (stAt 28)),3,[],.none,.none,.none,(.str (.ofString "law_sf0019_01") 742),none,(.ref 427),.none,0⟩),#[]⟩, ⟨(.type "tuple"),none,(.seq #[] 0),#[]⟩, ⟨.none,none,(.fields #[]),#[]⟩, ⟨(.type "tuple"),none,(.seq #[(.str (.ofString "items") 770)] 0),#[]⟩, ⟨(.type "tuple"),none,(.seq #[] 0),#[]⟩, ⟨.none,none,(.func ⟨(.ofString "_law_line"),(.ofString "_law_line"),(prm (stAt 29)),(.stmts (bdy (stAt 29))),(scp (stAt 29)),0,[],.none,.none,.none,.none,none,.none,.none,0⟩),#[]⟩, ⟨(.type "code"),none,(.fields #[(.str (.ofString "_law_line") 767),(.str (.ofString "_law_line") 768),(.str (.ofString "/claim/cut.py") 769),(.int 307 0),(.int 1 0),(.int 0 0),(.int 0 0),(.int 3 0),(.ref 429),(.bool true),(.int 181 0),(.ref 430),.none,(.ref 431),(.ref 432),(.ref 433),(.int 771 0),(.int 307 0),(.str (.ofString "/claim/cut.py") 772)]),#[]⟩, ⟨(.type "function"),none,(.func ⟨(.ofString "_law_line"),(.ofString "_law_line"),(prm (stAt 29)),(.stmts (bdy (stAt 29))),(scp (stAt 29)),3,[],.none,.none,.none,(.str (.ofString "law_sf0019_01") 742),none,(.ref 434),.none,0⟩),#[]⟩, ⟨(.type "tuple"),none,(.seq #[] 0),#[]⟩, ⟨.none,none,(.fields #[]),#[]⟩, ⟨(.type "tuple"),none,(.seq #[(.str (.ofString "line") 777),(.str (.ofString "many") 778),(.str (.ofString "reader") 779),(.str (.ofString "given") 780)] 0),#[]⟩, ⟨(.type "tuple"),none,(.seq #[] 0),#[]⟩, ⟨.none,none,(.func ⟨(.ofString "_law_read"),(.ofString "_law_read"),(prm (stAt 30)),(.stmts (bdy (stAt 30))),(scp (stAt 30)),0,[],.none,.none,.none,.none,none,.none,.none,0⟩),#[]⟩, ⟨(.type "code"),none,(.fields #[(.str (.ofString "_law_read") 774),(.str (.ofString "_law_read") 775),(.str (.ofString "/claim/cut.py") 776),(.int 309 0),(.int 2 0),(.int 0 0),(.int 0 0),(.int 3 0),(.ref 436),(.bool true),(.int 181 0),(.ref 437),.none,(.ref 438),(.ref 439),(.ref 440),(.int 781 0),(.int 309 0),(.str (.ofString "/claim/cut.py") 782)]),#[]⟩, ⟨(.type "function"),none,(.func ⟨(.ofString "_law_read"),(.ofString "_law_read"),(prm (stAt 30)),(.stmts (bdy (stAt 30))),(scp (stAt 30)),3,[],.none,.none,.none,(.str (.ofString "law_sf0019_01") 742),none,(.ref 441),.none,0⟩),#[]⟩, ⟨(.type "tuple"),none,(.seq #[] 0),#[]⟩, ⟨.none,none,(.fields #[]),#[]⟩, ⟨.none,none,(.func ⟨(.ofString "law"),(.ofString "law"),(prm (stAt 31)),(.stmts (bdy (stAt 31))),(scp (stAt 31)),0,[],.none,.none,.none,.none,none,.none,.none,0⟩),#[]⟩, ⟨(.type "code"),none,(.fields #[(.str (.ofString "law") 784),(.str (.ofString "law") 785),(.str (.ofString "/claim/cut.py") 786),(.int 317 0),(.int 1 0),(.int 0 0),(.int 0 0),(.int 3 0),(.ref 443),(.bool true),(.int 181 0),(.ref 444),.none,.none,.none,(.ref 445),(.int 787 0),(.int 317 0),(.str (.ofString "/claim/cut.py") 788)]),#[]⟩, ⟨(.type "function"),none,(.func ⟨(.ofString "law"),(.ofString "law"),(prm (stAt 31)),(.stmts (bdy (stAt 31))),(scp (stAt 31)),3,[],.none,.none,.none,(.str (.ofString "law_sf0019_01") 742),none,(.ref 446),.none,0⟩),#[]⟩]
noncomputable def finT (P : Params) : BT := .node (boot_o_0 P) (.node (boot_o_1 P) (.node ⟨(.type "dict"),none,(.dict #[⟨(PySem.PyData.keyHash P (.ofString "__name__")),(.str (.ofString "__name__") 165),(.str (.ofString "law_sf0019_01") 742)⟩,⟨(PySem.PyData.keyHash P (.ofString "__doc__")),(.str (.ofString "__doc__") 166),.none⟩,⟨(PySem.PyData.keyHash P (.ofString "__package__")),(.str (.ofString "__package__") 167),.none⟩,⟨(PySem.PyData.keyHash P (.ofString "__loader__")),(.str (.ofString "__loader__") 168),(.builtin "__main__.__loader__#opaque")⟩,⟨(PySem.PyData.keyHash P (.ofString "__spec__")),(.str (.ofString "__spec__") 169),.none⟩,⟨(PySem.PyData.keyHash P (.ofString "__annotations__")),(.str (.ofString "__annotations__") 170),(.ref 6)⟩,⟨(PySem.PyData.keyHash P (.ofString "__builtins__")),(.str (.ofString "__builtins__") 171),(.ref 4)⟩,⟨(PySem.PyData.keyHash P (.ofString "__file__")),(.str (.ofString "__file__") 173),(.str (.ofString "/claim/cut.py") 172)⟩,⟨(PySem.PyData.keyHash P (.ofString "__cached__")),(.str (.ofString "__cached__") 174),.none⟩,⟨(PySem.PyData.keyHash P (.ofString "_wall")),(.str (.ofString "_wall") 193),(.ref 21)⟩,⟨(PySem.PyData.keyHash P (.ofString "PART")),(.str (.ofString "PART") 197),(.int 500 196)⟩,⟨(PySem.PyData.keyHash P (.ofString "mask_item")),(.str (.ofString "mask_item") 206),(.ref 28)⟩,⟨(PySem.PyData.keyHash P (.ofString "read_masks")),(.str (.ofString "read_masks") 219),(.ref 35)⟩,⟨(PySem.PyData.keyHash P (.ofString "FIGURES")),(.str (.ofString "FIGURES") 223),(.str (.ofString "0123456789") 222)⟩,⟨(PySem.PyData.keyHash P (.ofString "HEX_SIGNS")),(.str (.ofString "HEX_SIGNS") 226),(.str (.ofString "0123456789abcdefABCDEF") 225)⟩,⟨(PySem.PyData.keyHash P (.ofString "OCTAL_SIGNS")),(.str (.ofString "OCTAL_SIGNS") 228),(.str (.ofString "01234567") 227)⟩,⟨(PySem.PyData.keyHash P (.ofString "MOST_FIGURES_source")),(.str (.ofString "MOST_FIGURES_source") 230),(.int 4000 229)⟩,⟨(PySem.PyData.keyHash P (.ofString "PLAIN_ESCAPES")),(.str (.ofString "PLAIN_ESCAPES") 252),(.ref 36)⟩,⟨(PySem.PyData.keyHash P (.ofString "Position")),(.str (.ofString "Position") 292),(.ref 60)⟩,⟨(PySem.PyData.keyHash P (.ofString "position_of")),(.str (.ofString "position_of") 304),(.ref 71)⟩,⟨(PySem.PyData.keyHash P (.ofString "ToolError")),(.str (.ofString "ToolError") 342),(.ref 96)⟩,⟨(PySem.PyData.keyHash P (.ofString "TableError")),(.str (.ofString "TableError") 358),(.ref 109)⟩,⟨(PySem.PyData.keyHash P (.ofString "Cursor")),(.str (.ofString "Cursor") 517),(.ref 236)⟩,⟨(PySem.PyData.keyHash P (.ofString "hex_escape")),(.str (.ofString "hex_escape") 525),(.ref 247)⟩,⟨(PySem.PyData.keyHash P (.ofString "escaped_sign")),(.str (.ofString "escaped_sign") 534),(.ref 254)⟩,⟨(PySem.PyData.keyHash P (.ofString "escaped")),(.str (.ofString "escaped") 540),(.ref 259)⟩,⟨(PySem.PyData.keyHash P (.ofString "MOST_DEPTH")),(.str (.ofString "MOST_DEPTH") 544),(.int 2 543)⟩,⟨(PySem.PyData.keyHash P (.ofString "MOST_FIGURES_lines")),(.str (.ofString "MOST_FIGURES_lines") 546),(.int 160 545)⟩,⟨(PySem.PyData.keyHash P (.ofString "show_item")),(.str (.ofString "show_item") 552),(.ref 264)⟩,⟨(PySem.PyData.keyHash P (.ofString "LineWriter")),(.str (.ofString "LineWriter") 594),(.ref 293)⟩,⟨(PySem.PyData.keyHash P (.ofString "LineReader")),(.str (.ofString "LineReader") 741),(.ref 407)⟩,⟨(PySem.PyData.keyHash P (.ofString "_law_jug")),(.str (.ofString "_law_jug") 749),(.ref 416)⟩,⟨(PySem.PyData.keyHash P (.ofString "_law_sip")),(.str (.ofString "_law_sip") 760),(.ref 423)⟩,⟨(PySem.PyData.keyHash P (.ofString "_law_parts")),(.str (.ofString "_law_parts") 766),(.ref 428)⟩,⟨(PySem.PyData.keyHash P (.ofString "_law_line")),(.str (.ofString "_law_line") 773),(.ref 435)⟩,⟨(PySem.PyData.keyHash P (.ofString "_law_read")),(.str (.ofString "_law_read") 783),(.ref 442)⟩,⟨(PySem.PyData.keyHash P (.ofString "law")),(.str (.ofString "law") 789),(.ref 447)⟩] 37),#[]⟩ (.node (boot_o_7 P) (.node ⟨(.type "tuple"),none,(.seq #[] 0),#[]⟩ (.node ⟨(.type "tuple"),none,(.seq #[(.str (.ofString "reader") 210),(.str (.ofString "many") 211),(.str (.ofString "found") 212),(.str (.ofString "item") 213),(.str (.ofString "mask") 214),(.str (.ofString "parts") 215),(.str (.ofString "at") 216)] 0),#[]⟩ (.node ⟨(.type "super"),none,(.fields #[(.ref 60),(.ref 60),(.ref 60)]),#[]⟩ (.node ⟨(.type "tuple"),none,(.seq #[] 0),#[]⟩ (.node ⟨(.type "tuple"),none,(.seq #[] 0),#[]⟩ .nil .nil) (.node ⟨(.type "function"),none,(.func ⟨(.ofString "one"),(.ofString "LineReader.one"),(prm (inAt 24 10)),(.stmts (bdy (inAt 24 10))),(scp (inAt 24 10)),3,[],.none,.none,.none,(.str (.ofString "grammarmill.lines") 541),none,(.ref 382),.none,0⟩),#[]⟩ .nil .nil)) (.node ⟨(.type "function"),none,(.func ⟨(.ofString "name"),(.ofString "Cursor.name"),(prm (inAt 15 9)),(.stmts (bdy (inAt 15 9))),(scp (inAt 15 7)),3,[],.none,.none,.none,(.str (.ofString "grammarmill.source") 220),none,(.ref 190),.none,0⟩),#[]⟩ (.node ⟨(.type "tuple"),none,(.seq #[] 0),#[]⟩ .nil .nil) (.node ⟨(.type "function"),none,(.func ⟨(.ofString "law"),(.ofString "law"),(prm (stAt 31)),(.stmts (bdy (stAt 31))),(scp (stAt 31)),3,[],.none,.none,.none,(.str (.ofString "law_sf0019_01") 742),none,(.ref 446),.none,0⟩),#[]⟩ .nil .nil))) (.node ⟨(.type "dict"),none,(.dict #[⟨(PySem.PyData.keyHash P (.ofString "__module__")),(.str (.ofString "__module__") 312),(.str (.ofString "grammarmill.source") 220)⟩,⟨(PySem.PyData.keyHash P (.ofString "__firstlineno__")),(.str (.ofString "__firstlineno__") 316),(.int 52 315)⟩,⟨(PySem.PyData.keyHash P (.ofString "__init__")),(.str (.ofString "__init__") 325),(.ref 86)⟩,⟨(PySem.PyData.keyHash P (.ofString "told")),(.str (.ofString "told") 332),(.ref 93)⟩,⟨(PySem.PyData.keyHash P (.ofString "__static_attributes__")),(.str (.ofString "__static_attributes__") 335),(.ref 94)⟩,⟨(PySem.PyData.keyHash P (.ofString "__weakref__")),(.str (.ofString "__weakref__") 337),(.ref 97)⟩,⟨(PySem.PyData.keyHash P (.ofString "__doc__")),(.str (.ofString "__doc__") 338),.none⟩] 3),#[]⟩ (.node ⟨(.type "tuple"),none,(.seq #[] 0),#[]⟩ (.node ⟨(.type "tuple"),none,(.seq #[] 0),#[]⟩ .nil .nil) (.node ⟨(.type "code"),none,(.fields #[(.str (.ofString "_law_jug") 744),(.str (.ofString "_law_jug") 745),(.str (.ofString "/claim/cut.py") 746),(.int 289 0),(.int 1 0),(.int 0 0),(.int 0 0),(.int 3 0),(.ref 412),(.bool true),(.int 181 0),(.ref 413),.none,.none,.none,(.ref 414),(.int 747 0),(.int 289 0),(.str (.ofString "/claim/cut.py") 748)]),#[]⟩ .nil .nil)) (.node ⟨(.type "tuple"),none,(.seq #[] 0),#[]⟩ (.node ⟨(.type "tuple"),none,(.seq #[] 0),#[]⟩ .nil .nil) .nil))) (.node ⟨(.type "tuple"),none,(.seq #[] 0),#[]⟩ (.node ⟨(.type "tuple"),none,(.seq #[.none] 0),#[]⟩ (.node ⟨.none,none,(.fields #[]),#[]⟩ (.node ⟨(.type "frame"),none,.plain,#[(some (.ref 270)),(some (.ref 3)),(some (.ref 267)),none,(some (.str (.ofString "grammarmill.lines") 541)),none,(some (.ref 0))]⟩ .nil .nil) (.node ⟨.none,none,(.fields #[]),#[]⟩ .nil .nil)) (.node ⟨.none,none,(.fields #[]),#[]⟩ (.node ⟨(.type "tuple"),none,(.seq #[(.str (.ofString "self") 642)] 0),#[]⟩ .nil .nil) .nil)) (.node ⟨(.type "builtin_function_or_method"),none,(.fields #[(.builtin "object.__init_subclass__"),(.ref 109)]),#[]⟩ (.node ⟨(.type "code"),none,(.fields #[(.str (.ofString "take_line") 431),(.str (.ofString "Cursor.take_line") 432),(.str (.ofString "/claim/cut.py") 433),(.int 102 0),(.int 1 0),(.int 0 0),(.int 0 0),(.int 3 0),(.ref 170),(.bool true),(.int 181 0),(.ref 171),.none,(.ref 172),(.ref 173),(.ref 174),(.int 435 0),(.int 102 0),(.str (.ofString "/claim/cut.py") 436)]),#[]⟩ (.node ⟨(.type "code"),none,(.fields #[(.str (.ofString "LineReader") 597),(.str (.ofString "LineReader") 598),(.str (.ofString "/claim/cut.py") 599),(.int 198 0),(.int 0 0),(.int 0 0),(.int 0 0),(.int 0 0),(.ref 301),(.bool false),(.int 181 0),(.ref 302),.none,.none,.none,.none,(.int 600 0),(.int 198 0),(.str (.ofString "/claim/cut.py") 601)]),#[]⟩ .nil .nil) (.node ⟨(.type "tuple"),none,(.seq #[(.str (.ofString "items") 770)] 0),#[]⟩ .nil .nil)) (.node ⟨(.type "super"),none,(.fields #[(.ref 236),(.ref 236),(.ref 236)]),#[]⟩ (.node ⟨(.type "code"),none,(.fields #[(.str (.ofString "items") 674),(.str (.ofString "LineReader.items") 675),(.str (.ofString "/claim/cut.py") 676),(.int 251 0),(.int 2 0),(.int 0 0),(.int 0 0),(.int 3 0),(.ref 362),(.bool true),(.int 181 0),(.ref 363),.none,(.ref 364),(.ref 365),(.ref 366),(.int 682 0),(.int 251 0),(.str (.ofString "/claim/cut.py") 683)]),#[]⟩ .nil .nil) .nil)))) (.node ⟨.none,none,(.fields #[]),#[]⟩ (.node ⟨(.type "dict"),none,(.dict #[⟨(PySem.PyData.keyHash P (.ofString "__module__")),(.str (.ofString "__module__") 260),(.str (.ofString "grammarmill.source") 220)⟩,⟨(PySem.PyData.keyHash P (.ofString "__qualname__")),(.str (.ofString "__qualname__") 262),(.str (.ofString "Position") 261)⟩,⟨(PySem.PyData.keyHash P (.ofString "__firstlineno__")),(.str (.ofString "__firstlineno__") 264),(.int 34 263)⟩,⟨(PySem.PyData.keyHash P (.ofString "__init__")),(.str (.ofString "__init__") 274),(.ref 50)⟩,⟨(PySem.PyData.keyHash P (.ofString "told")),(.str (.ofString "told") 281),(.ref 57)⟩,⟨(PySem.PyData.keyHash P (.ofString "__static_attributes__")),(.str (.ofString "__static_attributes__") 285),(.ref 58)⟩] 6),#[]⟩ (.node ⟨(.type "function"),none,(.func ⟨(.ofString "position_of"),(.ofString "position_of"),(prm (stAt 12)),(.stmts (bdy (stAt 12))),(scp (stAt 12)),3,[],.none,.none,.none,(.str (.ofString "grammarmill.source") 220),none,(.ref 70),.none,0⟩),#[]⟩ (.node ⟨(.type "tuple"),none,(.seq #[] 0),#[]⟩ (.node ⟨(.type "code"),none,(.fields #[(.str (.ofString "show_item") 547),(.str (.ofString "show_item") 548),(.str (.ofString "/claim/cut.py") 549),(.int 180 0),(.int 1 0),(.int 0 0),(.int 0 0),(.int 3 0),(.ref 260),(.bool true),(.int 181 0),(.ref 261),.none,.none,.none,(.ref 262),(.int 550 0),(.int 180 0),(.str (.ofString "/claim/cut.py") 551)]),#[]⟩ .nil .nil) (.node ⟨(.type "tuple"),none,(.seq #[] 0),#[]⟩ .nil .nil)) (.node ⟨(.type "tuple"),none,(.seq #[] 0),#[]⟩ (.node ⟨.none,none,(.fields #[]),#[]⟩ .nil .nil) .nil)) (.node ⟨(.type "tuple"),none,(.seq #[] 0),#[]⟩ (.node ⟨.none,none,(.func ⟨(.ofString "take_while"),(.ofString "Cursor.take_while"),(prm (inAt 15 6)),(.stmts (bdy (inAt 15 6))),(scp (inAt 15 6)),0,[],.none,.none,.none,.none,none,.none,.none,0⟩),#[]⟩ (.node ⟨(.type "getset_descriptor"),none,(.fields #[(.str (.ofString "__weakref__") 590),(.ref 293),(.builtin "ExceptionGroup.__weakref__"),.none]),#[]⟩ .nil .nil) (.node ⟨(.type "function"),none,(.func ⟨(.ofString "_law_sip"),(.ofString "_law_sip"),(prm (stAt 27)),(.stmts (bdy (stAt 27))),(scp (stAt 27)),3,[],.none,.none,.none,(.str (.ofString "law_sf0019_01") 742),none,(.ref 422),.none,0⟩),#[]⟩ .nil .nil)) (.node ⟨.none,none,(.func ⟨(.ofString "quoted"),(.ofString "Cursor.quoted"),(prm (inAt 15 15)),(.stmts (bdy (inAt 15 15))),(scp (inAt 15 15)),0,[],.none,.none,.none,.none,none,.none,.none,0⟩),#[]⟩ (.node ⟨.none,none,(.func ⟨(.ofString "bracket"),(.ofString "LineReader.bracket"),(prm (inAt 24 7)),(.stmts (bdy (inAt 24 7))),(scp (inAt 24 7)),0,[],.none,.none,.none,.none,none,.none,.none,0⟩),#[]⟩ .nil .nil) .nil))) (.node ⟨.none,none,(.func ⟨(.ofString "told"),(.ofString "Position.told"),(prm (inAt 11 1)),(.stmts (bdy (inAt 11 1))),(scp (inAt 11 1)),0,[],.none,.none,.none,.none,none,.none,.none,0⟩),#[]⟩ (.node ⟨(.type "tuple"),none,(.seq #[] 0),#[]⟩ (.node ⟨(.type "tuple"),none,(.seq #[(.str (.ofString "self") 409),(.str (.ofString "sign") 410)] 0),#[]⟩ (.node ⟨(.type "tuple"),none,(.seq #[] 0),#[]⟩ .nil .nil) (.node ⟨(.type "type"),none,(.cls ⟨(.ofString "LineReader"),[(.type "object")],[(.ref 407),(.type "object")],406,(.ofString "LineReader"),true,[],[],false,none,false⟩),#[none,none,(some (.str (.ofString "LineReader") 595)),(some (.str (.ofString "LineReader") 603)),(some (.builtin "object.__new__")),(some (.bool true))]⟩ .nil .nil)) (.node ⟨(.type "tuple"),none,(.seq #[(.str (.ofString "self") 481),(.str (.ofString "signs") 482),(.str (.ofString "most") 483),(.str (.ofString "base") 484),(.str (.ofString "code") 485),(.str (.ofString "taken") 486)] 0),#[]⟩ (.node ⟨(.type "tuple"),none,(.seq #[] 0),#[]⟩ .nil .nil) .nil)) (.node ⟨(.type "tuple"),none,(.seq #[(.int 0 371)] 0),#[]⟩ (.node ⟨(.type "code"),none,(.fields #[(.str (.ofString "skip_blanks") 439),(.str (.ofString "Cursor.skip_blanks") 440),(.str (.ofString "/claim/cut.py") 441),(.int 105 0),(.int 2 0),(.int 0 0),(.int 0 0),(.int 3 0),(.ref 178),(.bool true),(.int 181 0),(.ref 179),.none,(.ref 180),(.ref 181),(.ref 182),(.int 444 0),(.int 105 0),(.str (.ofString "/claim/cut.py") 445)]),#[]⟩ (.node ⟨(.type "function"),none,(.func ⟨(.ofString "__init__"),(.ofString "LineReader.__init__"),(prm (inAt 24 0)),(.stmts (bdy (inAt 24 0))),(scp (inAt 24 0)),3,[],.none,.none,.none,(.str (.ofString "grammarmill.lines") 541),none,(.ref 310),.none,0⟩),#[]⟩ .nil .nil) (.node ⟨(.type "tuple"),none,(.seq #[] 0),#[]⟩ .nil .nil)) (.node ⟨(.type "function"),none,(.func ⟨(.ofString "hex_escape"),(.ofString "hex_escape"),(prm (stAt 16)),(.stmts (bdy (stAt 16))),(scp (stAt 16)),3,[],.none,.none,.none,(.str (.ofString "grammarmill.source") 220),none,(.ref 246),.none,0⟩),#[]⟩ (.node ⟨(.type "code"),none,(.fields #[(.str (.ofString "numbers") 685),(.str (.ofString "LineReader.numbers") 686),(.str (.ofString "/claim/cut.py") 687),(.int 262 0),(.int 5 0),(.int 0 0),(.int 0 0),(.int 3 0),(.ref 370),(.bool true),(.int 181 0),(.ref 371),.none,(.ref 372),(.ref 373),(.ref 374),(.int 696 0),(.int 262 0),(.str (.ofString "/claim/cut.py") 697)]),#[]⟩ .nil .nil) .nil))))) (.node ⟨(.type "tuple"),none,(.seq #[] 0),#[]⟩ (.node ⟨.none,none,(.func ⟨(.ofString "_wall"),(.ofString "_wall"),(prm (stAt 0)),(.stmts (bdy (stAt 0))),(scp (stAt 0)),0,[],.none,.none,.none,.none,none,.none,.none,0⟩),#[]⟩ (.node ⟨(.type "function"),none,(.func ⟨(.ofString "read_masks"),(.ofString "read_masks"),(prm (stAt 4)),(.stmts (bdy (stAt 4))),(scp (stAt 4)),3,[],.none,.none,.none,(.str (.ofString "grammarmill.texts") 194),none,(.ref 34),.none,0⟩),#[]⟩ (.node ⟨(.type "tuple"),none,(.seq #[(.str (.ofString "text") 296),(.str (.ofString "offset") 297),(.str (.ofString "at") 298),(.str (.ofString "line") 299),(.str (.ofString "begun") 300),(.str (.ofString "here") 301)] 0),#[]⟩ (.node ⟨.none,none,(.func ⟨(.ofString "is_done"),(.ofString "Cursor.is_done"),(prm (inAt 15 1)),(.stmts (bdy (inAt 15 1))),(scp (inAt 15 1)),0,[],.none,.none,.none,.none,none,.none,.none,0⟩),#[]⟩ (.node ⟨(.type "function"),none,(.func ⟨(.ofString "escaped"),(.ofString "escaped"),(prm (stAt 18)),(.stmts (bdy (stAt 18))),(scp (stAt 18)),3,[],.none,.none,.none,(.str (.ofString "grammarmill.source") 220),none,(.ref 258),.none,0⟩),#[]⟩ .nil .nil) (.node ⟨(.type "tuple"),none,(.seq #[] 0),#[]⟩ .nil .nil)) (.node ⟨(.type "tuple"),none,(.seq #[] 0),#[]⟩ (.node ⟨.none,none,(.func ⟨(.ofString "need"),(.ofString "LineReader.need"),(prm (inAt 24 2)),(.stmts (bdy (inAt 24 2))),(scp (inAt 24 2)),0,[],.none,.none,.none,.none,none,.none,.none,0⟩),#[]⟩ .nil .nil) .nil)) (.node ⟨(.type "builtin_function_or_method"),none,(.fields #[(.builtin "object.__init_subclass__"),(.ref 96)]),#[]⟩ (.node ⟨(.type "tuple"),none,(.seq #[] 0),#[]⟩ (.node ⟨(.type "tuple"),none,(.seq #[(.str (.ofString "lines") 586)] 0),#[]⟩ .nil .nil) (.node ⟨(.type "tuple"),none,(.seq #[(.str (.ofString "jug") 753),(.str (.ofString "many") 754),(.str (.ofString "cells") 755),(.str (.ofString "turn") 756),(.str (.ofString "worth") 757)] 0),#[]⟩ .nil .nil)) (.node ⟨(.type "tuple"),none,(.seq #[] 0),#[]⟩ (.node ⟨(.type "tuple"),none,(.seq #[] 0),#[]⟩ .nil .nil) .nil))) (.node ⟨(.type "tuple"),none,(.seq #[] 0),#[]⟩ (.node ⟨(.type "tuple"),none,(.seq #[] 0),#[]⟩ (.node ⟨(.type "code"),none,(.fields #[(.str (.ofString "starts") 398),(.str (.ofString "Cursor.starts") 399),(.str (.ofString "/claim/cut.py") 400),(.int 80 0),(.int 2 0),(.int 0 0),(.int 0 0),(.int 3 0),(.ref 142),(.bool true),(.int 181 0),(.ref 143),.none,(.ref 144),(.ref 145),(.ref 146),(.int 403 0),(.int 80 0),(.str (.ofString "/claim/cut.py") 404)]),#[]⟩ (.node ⟨(.type "tuple"),none,(.seq #[] 0),#[]⟩ .nil .nil) (.node ⟨(.type "code"),none,(.fields #[(.str (.ofString "need_same") 724),(.str (.ofString "LineReader.need_same") 725),(.str (.ofString "/claim/cut.py") 726),(.int 286 0),(.int 2 0),(.int 0 0),(.int 0 0),(.int 3 0),(.ref 398),(.bool true),(.int 181 0),(.ref 399),.none,(.ref 400),(.ref 401),(.ref 402),(.int 729 0),(.int 286 0),(.str (.ofString "/claim/cut.py") 730)]),#[]⟩ .nil .nil)) (.node ⟨(.type "code"),none,(.fields #[(.str (.ofString "position_at") 470),(.str (.ofString "Cursor.position_at") 471),(.str (.ofString "/claim/cut.py") 472),(.int 122 0),(.int 2 0),(.int 0 0),(.int 0 0),(.int 3 0),(.ref 206),(.bool true),(.int 181 0),(.ref 207),.none,(.ref 208),(.ref 209),(.ref 210),(.int 475 0),(.int 122 0),(.str (.ofString "/claim/cut.py") 476)]),#[]⟩ (.node ⟨(.type "function"),none,(.func ⟨(.ofString "end_line"),(.ofString "LineReader.end_line"),(prm (inAt 24 4)),(.stmts (bdy (inAt 24 4))),(scp (inAt 11 1)),3,[],.none,.none,.none,(.str (.ofString "grammarmill.lines") 541),none,(.ref 338),.none,0⟩),#[]⟩ .nil .nil) .nil)) (.node ⟨(.type "tuple"),none,(.seq #[] 0),#[]⟩ (.node ⟨.none,none,(.fields #[]),#[]⟩ (.node ⟨(.type "tuple"),none,(.seq #[(.str (.ofString "self") 610),(.str (.ofString "text") 611)] 0),#[]⟩ .nil .nil) (.node ⟨(.type "function"),none,(.func ⟨(.ofString "_law_line"),(.ofString "_law_line"),(prm (stAt 29)),(.stmts (bdy (stAt 29))),(scp (stAt 29)),3,[],.none,.none,.none,(.str (.ofString "law_sf0019_01") 742),none,(.ref 434),.none,0⟩),#[]⟩ .nil .nil)) (.node ⟨(.type "tuple"),none,(.seq #[(.str (.ofString "code") 521),(.str (.ofString "figures") 522)] 0),#[]⟩ (.node ⟨.none,none,(.fields #[]),#[]⟩ .nil .nil) .nil)))) (.node ⟨(.type "code"),none,(.fields #[(.str (.ofString "mask_item") 198),(.str (.ofString "mask_item") 199),(.str (.ofString "/claim/cut.py") 200),(.int 6 0),(.int 1 0),(.int 0 0),(.int 0 0),(.int 3 0),(.ref 22),(.bool true),(.int 181 0),(.ref 23),.none,(.ref 24),(.ref 25),(.ref 26),(.int 204 0),(.int 6 0),(.str (.ofString "/claim/cut.py") 205)]),#[]⟩ (.node ⟨(.type "frame"),none,.plain,#[(some (.ref 42)),(some (.ref 3)),(some (.ref 39)),none,(some (.str (.ofString "grammarmill.source") 220)),none,(some (.ref 0))]⟩ (.node ⟨(.type "tuple"),none,(.seq #[] 0),#[]⟩ (.node ⟨.none,none,(.func ⟨(.ofString "peek"),(.ofString "Cursor.peek"),(prm (inAt 15 2)),(.stmts (bdy (inAt 15 2))),(scp (inAt 15 2)),0,[],.none,.none,.none,.none,none,.none,.none,0⟩),#[]⟩ (.node ⟨(.type "dict"),none,(.dict #[⟨(PySem.PyData.keyHash P (.ofString "__module__")),(.str (.ofString "__module__") 560),(.str (.ofString "grammarmill.lines") 541)⟩,⟨(PySem.PyData.keyHash P (.ofString "__qualname__")),(.str (.ofString "__qualname__") 562),(.str (.ofString "LineWriter") 561)⟩,⟨(PySem.PyData.keyHash P (.ofString "__firstlineno__")),(.str (.ofString "__firstlineno__") 564),(.int 188 563)⟩,⟨(PySem.PyData.keyHash P (.ofString "__init__")),(.str (.ofString "__init__") 572),(.ref 278)⟩,⟨(PySem.PyData.keyHash P (.ofString "add")),(.str (.ofString "add") 578),(.ref 283)⟩,⟨(PySem.PyData.keyHash P (.ofString "text")),(.str (.ofString "text") 585),(.ref 290)⟩,⟨(PySem.PyData.keyHash P (.ofString "__static_attributes__")),(.str (.ofString "__static_attributes__") 587),(.ref 291)⟩] 7),#[]⟩ .nil .nil) (.node ⟨.none,none,(.func ⟨(.ofString "finish"),(.ofString "LineReader.finish"),(prm (inAt 24 12)),(.stmts (bdy (inAt 24 12))),(scp (inAt 11 1)),0,[],.none,.none,.none,.none,none,.none,.none,0⟩),#[]⟩ .nil .nil)) (.node ⟨.none,none,(.func ⟨(.ofString "position"),(.ofString "Cursor.position"),(prm (inAt 15 11)),(.stmts (bdy (inAt 15 11))),(scp (inAt 15 11)),0,[],.none,.none,.none,.none,none,.none,.none,0⟩),#[]⟩ (.node ⟨(.type "code"),none,(.fields #[(.str (.ofString "head") 631),(.str (.ofString "LineReader.head") 632),(.str (.ofString "/claim/cut.py") 633),(.int 211 0),(.int 2 0),(.int 0 0),(.int 0 0),(.int 3 0),(.ref 326),(.bool true),(.int 181 0),(.ref 327),.none,(.ref 328),(.ref 329),(.ref 330),(.int 636 0),(.int 211 0),(.str (.ofString "/claim/cut.py") 637)]),#[]⟩ .nil .nil) .nil)) (.node ⟨(.type "tuple"),none,(.seq #[] 0),#[]⟩ (.node ⟨.none,none,(.fields #[]),#[]⟩ (.node ⟨(.type "builtin_function_or_method"),none,(.fields #[(.builtin "type.__prepare__"),(.type "type")]),#[]⟩ .nil .nil) (.node ⟨(.type "code"),none,(.fields #[(.str (.ofString "_law_parts") 761),(.str (.ofString "_law_parts") 762),(.str (.ofString "/claim/cut.py") 763),(.int 299 0),(.int 1 0),(.int 0 0),(.int 0 0),(.int 3 0),(.ref 424),(.bool true),(.int 181 0),(.ref 425),.none,.none,.none,(.ref 426),(.int 764 0),(.int 299 0),(.str (.ofString "/claim/cut.py") 765)]),#[]⟩ .nil .nil)) (.node ⟨(.type "dict"),none,(.dict #[⟨(PySem.PyData.keyHash P (.ofString "__module__")),(.str (.ofString "__module__") 366),(.str (.ofString "grammarmill.source") 220)⟩,⟨(PySem.PyData.keyHash P (.ofString "__firstlineno__")),(.str (.ofString "__firstlineno__") 370),(.int 65 369)⟩,⟨(PySem.PyData.keyHash P (.ofString "__init__")),(.str (.ofString "__init__") 380),(.ref 126)⟩,⟨(PySem.PyData.keyHash P (.ofString "is_done")),(.str (.ofString "is_done") 387),(.ref 133)⟩,⟨(PySem.PyData.keyHash P (.ofString "peek")),(.str (.ofString "peek") 397),(.ref 141)⟩,⟨(PySem.PyData.keyHash P (.ofString "starts")),(.str (.ofString "starts") 405),(.ref 148)⟩,⟨(PySem.PyData.keyHash P (.ofString "take")),(.str (.ofString "take") 413),(.ref 155)⟩,⟨(PySem.PyData.keyHash P (.ofString "skip")),(.str (.ofString "skip") 421),(.ref 162)⟩,⟨(PySem.PyData.keyHash P (.ofString "take_while")),(.str (.ofString "take_while") 430),(.ref 169)⟩,⟨(PySem.PyData.keyHash P (.ofString "take_line")),(.str (.ofString "take_line") 437),(.ref 176)⟩,⟨(PySem.PyData.keyHash P (.ofString "skip_blanks")),(.str (.ofString "skip_blanks") 446),(.ref 184)⟩,⟨(PySem.PyData.keyHash P (.ofString "name")),(.str (.ofString "name") 453),(.ref 191)⟩,⟨(PySem.PyData.keyHash P (.ofString "number")),(.str (.ofString "number") 462),(.ref 198)⟩,⟨(PySem.PyData.keyHash P (.ofString "position")),(.str (.ofString "position") 469),(.ref 205)⟩,⟨(PySem.PyData.keyHash P (.ofString "position_at")),(.str (.ofString "position_at") 477),(.ref 212)⟩,⟨(PySem.PyData.keyHash P (.ofString "coded")),(.str (.ofString "coded") 489),(.ref 219)⟩,⟨(PySem.PyData.keyHash P (.ofString "escape")),(.str (.ofString "escape") 497),(.ref 226)⟩,⟨(PySem.PyData.keyHash P (.ofString "quoted")),(.str (.ofString "quoted") 507),(.ref 233)⟩,⟨(PySem.PyData.keyHash P (.ofString "__static_attributes__")),(.str (.ofString "__static_attributes__") 510),(.ref 234)⟩,⟨(PySem.PyData.keyHash P (.ofString "__dict__")),(.str (.ofString "__dict__") 512),(.ref 237)⟩,⟨(PySem.PyData.keyHash P (.ofString "__weakref__")),(.str (.ofString "__weakref__") 514),(.ref 238)⟩,⟨(PySem.PyData.keyHash P (.ofString "__doc__")),(.str (.ofString "__doc__") 515),.none⟩] 4),#[]⟩ (.node ⟨.none,none,(.fields #[]),#[]⟩ .nil .nil) .nil))) (.node ⟨(.type "dict"),none,(.dict #[⟨(PySem.PyData.keyHash P (.ofString "__module__")),(.str (.ofString "__module__") 260),(.str (.ofString "grammarmill.source") 220)⟩,⟨(PySem.PyData.keyHash P (.ofString "__firstlineno__")),(.str (.ofString "__firstlineno__") 264),(.int 34 263)⟩,⟨(PySem.PyData.keyHash P (.ofString "__init__")),(.str (.ofString "__init__") 274),(.ref 50)⟩,⟨(PySem.PyData.keyHash P (.ofString "told")),(.str (.ofString "told") 281),(.ref 57)⟩,⟨(PySem.PyData.keyHash P (.ofString "__static_attributes__")),(.str (.ofString "__static_attributes__") 285),(.ref 58)⟩,⟨(PySem.PyData.keyHash P (.ofString "__dict__")),(.str (.ofString "__dict__") 287),(.ref 61)⟩,⟨(PySem.PyData.keyHash P (.ofString "__weakref__")),(.str (.ofString "__weakref__") 289),(.ref 62)⟩,⟨(PySem.PyData.keyHash P (.ofString "__doc__")),(.str (.ofString "__doc__") 290),.none⟩] 4),#[]⟩ (.node ⟨.none,none,(.func ⟨(.ofString "told"),(.ofString "ToolError.told"),(prm (inAt 13 1)),(.stmts (bdy (inAt 13 1))),(scp (inAt 11 1)),0,[],.none,.none,.none,.none,none,.none,.none,0⟩),#[]⟩ (.node ⟨(.type "function"),none,(.func ⟨(.ofString "take"),(.ofString "Cursor.take"),(prm (inAt 15 4)),(.stmts (bdy (inAt 15 4))),(scp (inAt 15 4)),3,[],.none,.none,.none,(.str (.ofString "grammarmill.source") 220),none,(.ref 154),.none,0⟩),#[]⟩ (.node ⟨(.type "function"),none,(.func ⟨(.ofString "add"),(.ofString "LineWriter.add"),(prm (inAt 23 1)),(.stmts (bdy (inAt 23 1))),(scp (inAt 23 1)),3,[],.none,.none,.none,(.str (.ofString "grammarmill.lines") 541),none,(.ref 282),.none,0⟩),#[]⟩ .nil .nil) (.node ⟨(.type "builtin_function_or_method"),none,(.fields #[(.builtin "object.__init_subclass__"),(.ref 407)]),#[]⟩ .nil .nil)) (.node ⟨(.type "function"),none,(.func ⟨(.ofString "coded"),(.ofString "Cursor.coded"),(prm (inAt 15 13)),(.stmts (bdy (inAt 15 13))),(scp (inAt 15 13)),3,[],.none,.none,.none,(.str (.ofString "grammarmill.source") 220),none,(.ref 218),.none,0⟩),#[]⟩ (.node ⟨(.type "tuple"),none,(.seq #[(.int 0 655)] 0),#[]⟩ .nil .nil) .nil)) (.node ⟨(.type "tuple"),none,(.seq #[] 0),#[]⟩ (.node ⟨(.type "tuple"),none,(.seq #[(.str (.ofString "self") 450)] 0),#[]⟩ (.node ⟨(.type "tuple"),none,(.seq #[] 0),#[]⟩ .nil .nil) (.node ⟨(.type "tuple"),none,(.seq #[] 0),#[]⟩ .nil .nil)) (.node ⟨(.type "tuple"),none,(.seq #[] 0),#[]⟩ (.node ⟨(.type "tuple"),none,(.seq #[(.str (.ofString "self") 702),(.str (.ofString "word") 703),(.str (.ofString "least") 704),(.str (.ofString "most") 705)] 0),#[]⟩ .nil .nil) .nil)))))) (.node (boot_o_5 P) (.node (boot_o_9 P) (.node ⟨(.type "tuple"),none,(.seq #[(.str (.ofString "k") 190)] 0),#[]⟩ (.node ⟨.none,none,(.func ⟨(.ofString "read_masks"),(.ofString "read_masks"),(prm (stAt 4)),(.stmts (bdy (stAt 4))),(scp (stAt 4)),0,[],.none,.none,.none,.none,none,.none,.none,0⟩),#[]⟩ (.node ⟨(.type "tuple"),none,(.seq #[] 0),#[]⟩ (.node ⟨(.type "tuple"),none,(.seq #[(.str (.ofString "self") 384)] 0),#[]⟩ (.node ⟨.none,none,(.func ⟨(.ofString "escaped"),(.ofString "escaped"),(prm (stAt 18)),(.stmts (bdy (stAt 18))),(scp (stAt 18)),0,[],.none,.none,.none,.none,none,.none,.none,0⟩),#[]⟩ .nil .nil) (.node ⟨.none,none,(.fields #[]),#[]⟩ .nil .nil)) (.node ⟨.none,none,(.fields #[]),#[]⟩ (.node ⟨(.type "tuple"),none,(.seq #[(.str (.ofString "self") 626),(.str (.ofString "word") 627)] 0),#[]⟩ .nil .nil) .nil)) (.node ⟨(.type "getset_descriptor"),none,(.fields #[(.str (.ofString "__weakref__") 336),(.ref 96),(.builtin "ExceptionGroup.__weakref__"),.none]),#[]⟩ (.node ⟨(.type "code"),none,(.fields #[(.str (.ofString "skip") 414),(.str (.ofString "Cursor.skip") 415),(.str (.ofString "/claim/cut.py") 416),(.int 90 0),(.int 2 0),(.int 0 0),(.int 0 0),(.int 3 0),(.ref 156),(.bool true),(.int 181 0),(.ref 157),.none,(.ref 158),(.ref 159),(.ref 160),(.int 419 0),(.int 90 0),(.str (.ofString "/claim/cut.py") 420)]),#[]⟩ (.node ⟨(.type "code"),none,(.fields #[(.str (.ofString "text") 579),(.str (.ofString "LineWriter.text") 580),(.str (.ofString "/claim/cut.py") 581),(.int 196 0),(.int 1 0),(.int 0 0),(.int 0 0),(.int 3 0),(.ref 284),(.bool true),(.int 181 0),(.ref 285),.none,(.ref 286),(.ref 287),(.ref 288),(.int 583 0),(.int 196 0),(.str (.ofString "/claim/cut.py") 584)]),#[]⟩ .nil .nil) (.node ⟨(.type "tuple"),none,(.seq #[] 0),#[]⟩ .nil .nil)) (.node ⟨(.type "code"),none,(.fields #[(.str (.ofString "escape") 490),(.str (.ofString "Cursor.escape") 491),(.str (.ofString "/claim/cut.py") 492),(.int 133 0),(.int 1 0),(.int 0 0),(.int 0 0),(.int 3 0),(.ref 220),(.bool true),(.int 181 0),(.ref 221),.none,(.ref 222),(.ref 223),(.ref 224),(.int 495 0),(.int 133 0),(.str (.ofString "/claim/cut.py") 496)]),#[]⟩ (.node ⟨(.type "code"),none,(.fields #[(.str (.ofString "item") 656),(.str (.ofString "LineReader.item") 657),(.str (.ofString "/claim/cut.py") 658),(.int 226 0),(.int 2 0),(.int 0 0),(.int 0 0),(.int 3 0),(.ref 348),(.bool true),(.int 181 0),(.ref 349),.none,(.ref 350),(.ref 351),(.ref 352),(.int 662 0),(.int 226 0),(.str (.ofString "/claim/cut.py") 663)]),#[]⟩ .nil .nil) .nil))) (.node ⟨(.type "code"),none,(.fields #[(.str (.ofString "__init__") 265),(.str (.ofString "Position.__init__") 266),(.str (.ofString "/claim/cut.py") 267),(.int 36 0),(.int 4 0),(.int 0 0),(.int 0 0),(.int 3 0),(.ref 44),(.bool true),(.int 181 0),(.ref 45),.none,(.ref 46),(.ref 47),(.ref 48),(.int 272 0),(.int 36 0),(.str (.ofString "/claim/cut.py") 273)]),#[]⟩ (.node ⟨.none,none,(.fields #[]),#[]⟩ (.node ⟨(.type "tuple"),none,(.seq #[] 0),#[]⟩ (.node ⟨.none,none,(.fields #[]),#[]⟩ .nil .nil) (.node ⟨(.type "tuple"),none,(.seq #[] 0),#[]⟩ .nil .nil)) (.node ⟨(.type "tuple"),none,(.seq #[] 0),#[]⟩ (.node ⟨.none,none,(.func ⟨(.ofString "end_line"),(.ofString "LineReader.end_line"),(prm (inAt 24 4)),(.stmts (bdy (inAt 24 4))),(scp (inAt 11 1)),0,[],.none,.none,.none,.none,none,.none,.none,0⟩),#[]⟩ .nil .nil) .nil)) (.node ⟨(.type "builtin_function_or_method"),none,(.fields #[(.builtin "type.__prepare__"),(.type "type")]),#[]⟩ (.node ⟨(.type "tuple"),none,(.seq #[(.str (.ofString " \t") 438)] 0),#[]⟩ (.node ⟨(.type "tuple"),none,(.seq #[] 0),#[]⟩ .nil .nil) (.node ⟨.none,none,(.func ⟨(.ofString "_law_line"),(.ofString "_law_line"),(prm (stAt 29)),(.stmts (bdy (stAt 29))),(scp (stAt 29)),0,[],.none,.none,.none,.none,none,.none,.none,0⟩),#[]⟩ .nil .nil)) (.node ⟨(.type "tuple"),none,(.seq #[] 0),#[]⟩ (.node ⟨(.type "tuple"),none,(.seq #[.none,.none,.none] 0),#[]⟩ .nil .nil) .nil)))) (.node ⟨(.type "tuple"),none,(.seq #[] 0),#[]⟩ (.node ⟨.none,none,(.fields #[(.int 36 0),(.int 4 0),(.ref 49),(.int 41 0),(.int 4 0),(.ref 56)]),#[]⟩ (.node ⟨(.type "builtin_function_or_method"),none,(.fields #[(.builtin "type.__prepare__"),(.type "type")]),#[]⟩ (.node ⟨(.type "tuple"),none,(.seq #[(.str (.ofString "self") 392),(.str (.ofString "ahead") 393),(.str (.ofString "at") 394)] 0),#[]⟩ (.node ⟨(.type "tuple"),none,(.seq #[] 0),#[]⟩ .nil .nil) (.node ⟨(.type "tuple"),none,(.seq #[(.str (.ofString "self") 720)] 0),#[]⟩ .nil .nil)) (.node ⟨(.type "tuple"),none,(.seq #[(.str (.ofString "self") 466)] 0),#[]⟩ (.node ⟨(.type "tuple"),none,(.seq #[] 0),#[]⟩ .nil .nil) .nil)) (.node ⟨(.type "code"),none,(.fields #[(.str (.ofString "TableError") 345),(.str (.ofString "TableError") 346),(.str (.ofString "/claim/cut.py") 347),(.int 63 0),(.int 0 0),(.int 0 0),(.int 0 0),(.int 0 0),(.ref 103),(.bool false),(.int 181 0),(.ref 104),.none,.none,.none,.none,(.int 348 0),(.int 63 0),(.str (.ofString "/claim/cut.py") 349)]),#[]⟩ (.node ⟨(.type "function"),none,(.func ⟨(.ofString "take_while"),(.ofString "Cursor.take_while"),(prm (inAt 15 6)),(.stmts (bdy (inAt 15 6))),(scp (inAt 15 6)),3,[],.none,.none,.none,(.str (.ofString "grammarmill.source") 220),none,(.ref 168),.none,0⟩),#[]⟩ (.node ⟨(.type "builtin_function_or_method"),none,(.fields #[(.builtin "object.__init_subclass__"),(.ref 293)]),#[]⟩ .nil .nil) (.node ⟨.none,none,(.fields #[]),#[]⟩ .nil .nil)) (.node ⟨(.type "function"),none,(.func ⟨(.ofString "quoted"),(.ofString "Cursor.quoted"),(prm (inAt 15 15)),(.stmts (bdy (inAt 15 15))),(scp (inAt 15 15)),3,[],.none,.none,.none,(.str (.ofString "grammarmill.source") 220),none,(.ref 232),.none,0⟩),#[]⟩ (.node ⟨(.type "function"),none,(.func ⟨(.ofString "bracket"),(.ofString "LineReader.bracket"),(prm (inAt 24 7)),(.stmts (bdy (inAt 24 7))),(scp (inAt 24 7)),3,[],.none,.none,.none,(.str (.ofString "grammarmill.lines") 541),none,(.ref 360),.none,0⟩),#[]⟩ .nil .nil) .nil))) (.node ⟨(.type "function"),none,(.func ⟨(.ofString "told"),(.ofString "Position.told"),(prm (inAt 11 1)),(.stmts (bdy (inAt 11 1))),(scp (inAt 11 1)),3,[],.none,.none,.none,(.str (.ofString "grammarmill.source") 220),none,(.ref 56),.none,0⟩),#[]⟩ (.node ⟨(.type "tuple"),none,(.seq #[(.str (.ofString "self") 329)] 0),#[]⟩ (.node ⟨.none,none,(.func ⟨(.ofString "take"),(.ofString "Cursor.take"),(prm (inAt 15 4)),(.stmts (bdy (inAt 15 4))),(scp (inAt 15 4)),0,[],.none,.none,.none,.none,none,.none,.none,0⟩),#[]⟩ (.node ⟨.none,none,(.func ⟨(.ofString "add"),(.ofString "LineWriter.add"),(prm (inAt 23 1)),(.stmts (bdy (inAt 23 1))),(scp (inAt 23 1)),0,[],.none,.none,.none,.none,none,.none,.none,0⟩),#[]⟩ .nil .nil) (.node ⟨(.type "getset_descriptor"),none,(.fields #[(.str (.ofString "__weakref__") 737),(.ref 407),(.builtin "ExceptionGroup.__weakref__"),.none]),#[]⟩ .nil .nil)) (.node ⟨.none,none,(.func ⟨(.ofString "coded"),(.ofString "Cursor.coded"),(prm (inAt 15 13)),(.stmts (bdy (inAt 15 13))),(scp (inAt 15 13)),0,[],.none,.none,.none,.none,none,.none,.none,0⟩),#[]⟩ (.node ⟨(.type "code"),none,(.fields #[(.str (.ofString "whole") 646),(.str (.ofString "LineReader.whole") 647),(.str (.ofString "/claim/cut.py") 648),(.int 219 0),(.int 1 0),(.int 0 0),(.int 0 0),(.int 3 0),(.ref 340),(.bool true),(.int 181 0),(.ref 341),.none,(.ref 342),(.ref 343),(.ref 344),(.int 652 0),(.int 219 0),(.str (.ofString "/claim/cut.py") 653)]),#[]⟩ .nil .nil) .nil)) (.node ⟨.none,none,(.fields #[]),#[]⟩ (.node ⟨(.type "tuple"),none,(.seq #[] 0),#[]⟩ (.node ⟨.none,none,(.fields #[]),#[]⟩ .nil .nil) (.node ⟨(.type "code"),none,(.fields #[(.str (.ofString "_law_read") 774),(.str (.ofString "_law_read") 775),(.str (.ofString "/claim/cut.py") 776),(.int 309 0),(.int 2 0),(.int 0 0),(.int 0 0),(.int 3 0),(.ref 436),(.bool true),(.int 181 0),(.ref 437),.none,(.ref 438),(.ref 439),(.ref 440),(.int 781 0),(.int 309 0),(.str (.ofString "/claim/cut.py") 782)]),#[]⟩ .nil .nil)) (.node ⟨.none,none,(.fields #[]),#[]⟩ (.node ⟨(.type "tuple"),none,(.seq #[] 0),#[]⟩ .nil .nil) .nil))))) (.node ⟨(.type "code"),none,(.fields #[(.str (.ofString "<module>") 182),(.str (.ofString "<module>") 183),(.str (.ofString "/claim/cut.py") 184),(.int 1 0),(.int 0 0),(.int 0 0),(.int 0 0),(.int 0 0),(.ref 11),(.bool false),(.int 181 0),(.ref 12),.none,.none,.none,.none,(.int 185 0),(.int 1 0),(.str (.ofString "/claim/cut.py") 186)]),#[]⟩ (.node ⟨(.type "function"),none,(.func ⟨(.ofString "_wall"),(.ofString "_wall"),(prm (stAt 0)),(.stmts (bdy (stAt 0))),(scp (stAt 0)),3,[],.none,.none,.none,(.str (.ofString "__main__") 164),none,(.ref 20),.none,0⟩),#[]⟩ (.node ⟨(.type "tuple"),none,(.seq #[] 0),#[]⟩ (.node ⟨.none,none,(.func ⟨(.ofString "position_of"),(.ofString "position_of"),(prm (stAt 12)),(.stmts (bdy (stAt 12))),(scp (stAt 12)),0,[],.none,.none,.none,.none,none,.none,.none,0⟩),#[]⟩ (.node ⟨(.type "function"),none,(.func ⟨(.ofString "is_done"),(.ofString "Cursor.is_done"),(prm (inAt 15 1)),(.stmts (bdy (inAt 15 1))),(scp (inAt 15 1)),3,[],.none,.none,.none,(.str (.ofString "grammarmill.source") 220),none,(.ref 132),.none,0⟩),#[]⟩ (.node ⟨.none,none,(.fields #[]),#[]⟩ .nil .nil) (.node ⟨(.type "code"),none,(.fields #[(.str (.ofString "texts") 709),(.str (.ofString "LineReader.texts") 710),(.str (.ofString "/claim/cut.py") 711),(.int 275 0),(.int 2 0),(.int 0 0),(.int 0 0),(.int 3 0),(.ref 384),(.bool true),(.int 181 0),(.ref 385),.none,(.ref 386),(.ref 387),(.ref 388),(.int 714 0),(.int 275 0),(.str (.ofString "/claim/cut.py") 715)]),#[]⟩ .nil .nil)) (.node ⟨(.type "code"),none,(.fields #[(.str (.ofString "number") 454),(.str (.ofString "Cursor.number") 455),(.str (.ofString "/claim/cut.py") 456),(.int 111 0),(.int 1 0),(.int 0 0),(.int 0 0),(.int 3 0),(.ref 192),(.bool true),(.int 181 0),(.ref 193),.none,(.ref 194),(.ref 195),(.ref 196),(.int 460 0),(.int 111 0),(.str (.ofString "/claim/cut.py") 461)]),#[]⟩ (.node ⟨(.type "function"),none,(.func ⟨(.ofString "need"),(.ofString "LineReader.need"),(prm (inAt 24 2)),(.stmts (bdy (inAt 24 2))),(scp (inAt 24 2)),3,[],.none,.none,.none,(.str (.ofString "grammarmill.lines") 541),none,(.ref 324),.none,0⟩),#[]⟩ .nil .nil) .nil)) (.node ⟨(.type "builtin_function_or_method"),none,(.fields #[(.builtin "type.__prepare__"),(.type "type")]),#[]⟩ (.node ⟨(.type "tuple"),none,(.seq #[(.str (.ofString "self") 425),(.str (.ofString "signs") 426),(.str (.ofString "begun") 427)] 0),#[]⟩ (.node ⟨(.type "type"),none,(.cls ⟨(.ofString "LineWriter"),[(.type "object")],[(.ref 293),(.type "object")],292,(.ofString "LineWriter"),true,[],[],false,none,false⟩),#[none,none,(some (.str (.ofString "LineWriter") 553)),(some (.str (.ofString "LineWriter") 561)),(some (.builtin "object.__new__")),(some (.bool true))]⟩ .nil .nil) (.node ⟨.none,none,(.func ⟨(.ofString "_law_sip"),(.ofString "_law_sip"),(prm (stAt 27)),(.stmts (bdy (stAt 27))),(scp (stAt 27)),0,[],.none,.none,.none,.none,none,.none,.none,0⟩),#[]⟩ .nil .nil)) (.node ⟨(.type "tuple"),none,(.seq #[(.str (.ofString "self") 501),(.str (.ofString "end") 502),(.str (.ofString "signs") 503),(.str (.ofString "sign") 504)] 0),#[]⟩ (.node ⟨(.type "tuple"),none,(.seq #[(.str (.ofString "self") 668),(.str (.ofString "depth") 669),(.str (.ofString "found") 670)] 0),#[]⟩ .nil .nil) .nil))) (.node ⟨(.type "tuple"),none,(.seq #[(.str (.ofString "self") 278)] 0),#[]⟩ (.node ⟨(.type "code"),none,(.fields #[(.str (.ofString "__init__") 317),(.str (.ofString "ToolError.__init__") 318),(.str (.ofString "/claim/cut.py") 319),(.int 54 0),(.int 3 0),(.int 0 0),(.int 0 0),(.int 3 0),(.ref 80),(.bool true),(.int 181 0),(.ref 81),.none,(.ref 82),(.ref 83),(.ref 84),(.int 323 0),(.int 54 0),(.str (.ofString "/claim/cut.py") 324)]),#[]⟩ (.node ⟨(.type "tuple"),none,(.seq #[] 0),#[]⟩ (.node ⟨(.type "code"),none,(.fields #[(.str (.ofString "__init__") 565),(.str (.ofString "LineWriter.__init__") 566),(.str (.ofString "/claim/cut.py") 567),(.int 190 0),(.int 2 0),(.int 0 0),(.int 0 0),(.int 3 0),(.ref 272),(.bool true),(.int 181 0),(.ref 273),.none,(.ref 274),(.ref 275),(.ref 276),(.int 570 0),(.int 190 0),(.str (.ofString "/claim/cut.py") 571)]),#[]⟩ .nil .nil) (.node ⟨(.type "tuple"),none,(.seq #[(.str (.ofString "cursor") 732),(.str (.ofString "lines") 733)] 0),#[]⟩ .nil .nil)) (.node ⟨(.type "tuple"),none,(.seq #[] 0),#[]⟩ (.node ⟨.none,none,(.fields #[]),#[]⟩ .nil .nil) .nil)) (.node ⟨(.type "code"),none,(.fields #[(.str (.ofString "Cursor") 361),(.str (.ofString "Cursor") 362),(.str (.ofString "/claim/cut.py") 363),(.int 65 0),(.int 0 0),(.int 0 0),(.int 0 0),(.int 0 0),(.ref 115),(.bool false),(.int 181 0),(.ref 116),.none,.none,.none,.none,(.int 364 0),(.int 65 0),(.str (.ofString "/claim/cut.py") 365)]),#[]⟩ (.node ⟨(.type "tuple"),none,(.seq #[] 0),#[]⟩ (.node ⟨.none,none,(.func ⟨(.ofString "__init__"),(.ofString "LineReader.__init__"),(prm (inAt 24 0)),(.stmts (bdy (inAt 24 0))),(scp (inAt 24 0)),0,[],.none,.none,.none,.none,none,.none,.none,0⟩),#[]⟩ .nil .nil) (.node ⟨.none,none,(.fields #[]),#[]⟩ .nil .nil)) (.node ⟨.none,none,(.func ⟨(.ofString "hex_escape"),(.ofString "hex_escape"),(prm (stAt 16)),(.stmts (bdy (stAt 16))),(scp (stAt 16)),0,[],.none,.none,.none,.none,none,.none,.none,0⟩),#[]⟩ (.node ⟨(.type "tuple"),none,(.seq #[] 0),#[]⟩ .nil .nil) .nil)))) (.node ⟨(.type "tuple"),none,(.seq #[] 0),#[]⟩ (.node ⟨.none,none,(.fields #[]),#[]⟩ (.node ⟨(.type "code"),none,(.fields #[(.str (.ofString "ToolError") 307),(.str (.ofString "ToolError") 308),(.str (.ofString "/claim/cut.py") 309),(.int 52 0),(.int 0 0),(.int 0 0),(.int 0 0),(.int 0 0),(.ref 75),(.bool false),(.int 181 0),(.ref 76),.none,.none,.none,.none,(.int 310 0),(.int 52 0),(.str (.ofString "/claim/cut.py") 311)]),#[]⟩ (.node ⟨(.type "function"),none,(.func ⟨(.ofString "peek"),(.ofString "Cursor.peek"),(prm (inAt 15 2)),(.stmts (bdy (inAt 15 2))),(scp (inAt 15 2)),3,[],(.ref 134),.none,.none,(.str (.ofString "grammarmill.source") 220),none,(.ref 140),.none,0⟩),#[]⟩ (.node ⟨.none,none,(.fields #[(.int 190 0),(.int 4 0),(.ref 277),(.int 193 0),(.int 4 0),(.ref 282),(.int 196 0),(.int 4 0),(.ref 289)]),#[]⟩ .nil .nil) (.node ⟨(.type "function"),none,(.func ⟨(.ofString "finish"),(.ofString "LineReader.finish"),(prm (inAt 24 12)),(.stmts (bdy (inAt 24 12))),(scp (inAt 11 1)),3,[],.none,.none,.none,(.str (.ofString "grammarmill.lines") 541),none,(.ref 396),.none,0⟩),#[]⟩ .nil .nil)) (.node ⟨(.type "function"),none,(.func ⟨(.ofString "position"),(.ofString "Cursor.position"),(prm (inAt 15 11)),(.stmts (bdy (inAt 15 11))),(scp (inAt 15 11)),3,[],.none,.none,.none,(.str (.ofString "grammarmill.source") 220),none,(.ref 204),.none,0⟩),#[]⟩ (.node ⟨(.type "tuple"),none,(.seq #[] 0),#[]⟩ .nil .nil) .nil)) (.node ⟨(.type "type"),none,(.cls ⟨(.ofString "TableError"),[(.ref 96)],[(.ref 109),(.ref 96),(.type "Exception"),(.type "BaseException"),(.type "object")],108,(.ofString "TableError"),true,[],[],false,none,false⟩),#[(some (.ref 100)),none,(some (.str (.ofString "TableError") 343)),(some (.str (.ofString "TableError") 351)),(some (.builtin "Exception.__new__")),(some (.bool true))]⟩ (.node ⟨(.type "tuple"),none,(.seq #[] 0),#[]⟩ (.node ⟨(.type "tuple"),none,(.seq #[] 0),#[]⟩ .nil .nil) (.node ⟨(.type "tuple"),none,(.seq #[] 0),#[]⟩ .nil .nil)) (.node ⟨(.type "getset_descriptor"),none,(.fields #[(.str (.ofString "__dict__") 511),(.ref 236),(.builtin "function.__dict__"),(.builtin "function.__dict__#set")]),#[]⟩ (.node ⟨(.type "tuple"),none,(.seq #[] 0),#[]⟩ .nil .nil) .nil))) (.node ⟨(.type "getset_descriptor"),none,(.fields #[(.str (.ofString "__dict__") 286),(.ref 60),(.builtin "function.__dict__"),(.builtin "function.__dict__#set")]),#[]⟩ (.node ⟨(.type "function"),none,(.func ⟨(.ofString "told"),(.ofString "ToolError.told"),(prm (inAt 13 1)),(.stmts (bdy (inAt 13 1))),(scp (inAt 11 1)),3,[],.none,.none,.none,(.str (.ofString "grammarmill.source") 220),none,(.ref 92),.none,0⟩),#[]⟩ (.node ⟨.none,none,(.fields #[]),#[]⟩ (.node ⟨.none,none,(.fields #[]),#[]⟩ .nil .nil) (.node ⟨.none,none,(.fields #[]),#[]⟩ .nil .nil)) (.node ⟨.none,none,(.fields #[]),#[]⟩ (.node ⟨.none,none,(.fields #[]),#[]⟩ .nil .nil) .nil)) (.node ⟨(.type "code"),none,(.fields #[(.str (.ofString "__init__") 372),(.str (.ofString "Cursor.__init__") 373),(.str (.ofString "/claim/cut.py") 374),(.int 67 0),(.int 3 0),(.int 0 0),(.int 0 0),(.int 3 0),(.ref 120),(.bool true),(.int 181 0),(.ref 121),.none,(.ref 122),(.ref 123),(.ref 124),(.int 378 0),(.int 67 0),(.str (.ofString "/claim/cut.py") 379)]),#[]⟩ (.node ⟨.none,none,(.func ⟨(.ofString "name"),(.ofString "Cursor.name"),(prm (inAt 15 9)),(.stmts (bdy (inAt 15 9))),(scp (inAt 15 7)),0,[],.none,.none,.none,.none,none,.none,.none,0⟩),#[]⟩ (.node ⟨(.type "code"),none,(.fields #[(.str (.ofString "fail") 615),(.str (.ofString "LineReader.fail") 616),(.str (.ofString "/claim/cut.py") 617),(.int 204 0),(.int 2 0),(.int 0 0),(.int 0 0),(.int 3 0),(.ref 312),(.bool true),(.int 181 0),(.ref 313),.none,(.ref 314),(.ref 315),(.ref 316),(.int 620 0),(.int 204 0),(.str (.ofString "/claim/cut.py") 621)]),#[]⟩ .nil .nil) (.node ⟨.none,none,(.func ⟨(.ofString "law"),(.ofString "law"),(prm (stAt 31)),(.stmts (bdy (stAt 31))),(scp (stAt 31)),0,[],.none,.none,.none,.none,none,.none,.none,0⟩),#[]⟩ .nil .nil)) (.node ⟨(.type "code"),none,(.fields #[(.str (.ofString "escaped_sign") 526),(.str (.ofString "escaped_sign") 527),(.str (.ofString "/claim/cut.py") 528),(.int 162 0),(.int 2 0),(.int 0 0),(.int 0 0),(.int 3 0),(.ref 248),(.bool true),(.int 181 0),(.ref 249),.none,(.ref 250),(.ref 251),(.ref 252),(.int 532 0),(.int 162 0),(.str (.ofString "/claim/cut.py") 533)]),#[]⟩ (.node ⟨.none,none,(.func ⟨(.ofString "one"),(.ofString "LineReader.one"),(prm (inAt 24 10)),(.stmts (bdy (inAt 24 10))),(scp (inAt 24 10)),0,[],.none,.none,.none,.none,none,.none,.none,0⟩),#[]⟩ .nil .nil) .nil))))))) (.node ⟨.none,none,(.dict #[⟨(PySem.PyData.keyHash P (.ofString "type.__subclasses__.Exception.0")),(.str (.ofString "type.__subclasses__.Exception.0") 339),(.int 96 0)⟩,⟨(PySem.PyData.keyHash P (.ofString "type.__subclasses__.Exception.n")),(.str (.ofString "type.__subclasses__.Exception.n") 340),(.int 1 0)⟩] 2),#[]⟩ (.node (boot_o_4 P) (.node (boot_o_8 P) (.node ⟨.none,none,(.fields #[]),#[]⟩ (.node ⟨(.type "tuple"),none,(.seq #[] 0),#[]⟩ (.node ⟨(.type "builtin_function_or_method"),none,(.fields #[(.builtin "object.__init_subclass__"),(.ref 60)]),#[]⟩ (.node ⟨.none,none,(.fields #[]),#[]⟩ (.node ⟨.none,none,(.fields #[]),#[]⟩ .nil .nil) (.node ⟨(.type "tuple"),none,(.seq #[] 0),#[]⟩ .nil .nil)) (.node ⟨(.type "tuple"),none,(.seq #[] 0),#[]⟩ (.node ⟨.none,none,(.fields #[]),#[]⟩ .nil .nil) .nil)) (.node ⟨(.type "type"),none,(.cls ⟨(.ofString "ToolError"),[(.type "Exception")],[(.ref 96),(.type "Exception"),(.type "BaseException"),(.type "object")],95,(.ofString "ToolError"),true,[],[(.ref 109)],false,none,false⟩),#[(some (.ref 72)),none,(some (.str (.ofString "ToolError") 305)),(some (.str (.ofString "ToolError") 313)),(some (.builtin "Exception.__new__")),(some (.bool true))]⟩ (.node ⟨.none,none,(.func ⟨(.ofString "skip"),(.ofString "Cursor.skip"),(prm (inAt 15 5)),(.stmts (bdy (inAt 15 5))),(scp (inAt 15 3)),0,[],.none,.none,.none,.none,none,.none,.none,0⟩),#[]⟩ (.node ⟨.none,none,(.func ⟨(.ofString "text"),(.ofString "LineWriter.text"),(prm (inAt 23 2)),(.stmts (bdy (inAt 23 2))),(scp (inAt 23 2)),0,[],.none,.none,.none,.none,none,.none,.none,0⟩),#[]⟩ .nil .nil) (.node ⟨(.type "function"),none,(.func ⟨(.ofString "_law_jug"),(.ofString "_law_jug"),(prm (stAt 26)),(.stmts (bdy (stAt 26))),(scp (stAt 26)),3,[],.none,.none,.none,(.str (.ofString "law_sf0019_01") 742),none,(.ref 415),.none,0⟩),#[]⟩ .nil .nil)) (.node ⟨.none,none,(.func ⟨(.ofString "escape"),(.ofString "Cursor.escape"),(prm (inAt 15 14)),(.stmts (bdy (inAt 15 14))),(scp (inAt 15 14)),0,[],.none,.none,.none,.none,none,.none,.none,0⟩),#[]⟩ (.node ⟨.none,none,(.func ⟨(.ofString "item"),(.ofString "LineReader.item"),(prm (inAt 24 6)),(.stmts (bdy (inAt 24 6))),(scp (inAt 24 6)),0,[],.none,.none,.none,.none,none,.none,.none,0⟩),#[]⟩ .nil .nil) .nil))) (.node ⟨.none,none,(.func ⟨(.ofString "__init__"),(.ofString "Position.__init__"),(prm (inAt 11 0)),(.stmts (bdy (inAt 11 0))),(scp (inAt 11 0)),0,[],.none,.none,.none,.none,none,.none,.none,0⟩),#[]⟩ (.node ⟨(.type "tuple"),none,(.seq #[] 0),#[]⟩ (.node ⟨(.type "tuple"),none,(.seq #[(.str (.ofString "self") 401),(.str (.ofString "word") 402)] 0),#[]⟩ (.node ⟨(.type "tuple"),none,(.seq #[] 0),#[]⟩ .nil .nil) (.node ⟨(.type "tuple"),none,(.seq #[(.str (.ofString "self") 727),(.str (.ofString "text") 728)] 0),#[]⟩ .nil .nil)) (.node ⟨(.type "tuple"),none,(.seq #[(.str (.ofString "self") 473),(.str (.ofString "offset") 474)] 0),#[]⟩ (.node ⟨(.type "tuple"),none,(.seq #[] 0),#[]⟩ .nil .nil) .nil)) (.node ⟨(.type "tuple"),none,(.seq #[] 0),#[]⟩ (.node ⟨(.type "function"),none,(.func ⟨(.ofString "take_line"),(.ofString "Cursor.take_line"),(prm (inAt 15 7)),(.stmts (bdy (inAt 15 7))),(scp (inAt 15 7)),3,[],.none,.none,.none,(.str (.ofString "grammarmill.source") 220),none,(.ref 175),.none,0⟩),#[]⟩ (.node ⟨(.type "frame"),none,.plain,#[(some (.ref 303)),(some (.ref 3)),(some (.ref 300)),none,(some (.str (.ofString "grammarmill.lines") 541)),none,(some (.ref 0))]⟩ .nil .nil) (.node ⟨(.type "tuple"),none,(.seq #[] 0),#[]⟩ .nil .nil)) (.node ⟨(.type "builtin_function_or_method"),none,(.fields #[(.builtin "object.__init_subclass__"),(.ref 236)]),#[]⟩ (.node ⟨(.type "function"),none,(.func ⟨(.ofString "items"),(.ofString "LineReader.items"),(prm (inAt 24 8)),(.stmts (bdy (inAt 24 8))),(scp (inAt 24 8)),3,[],.none,.none,.none,(.str (.ofString "grammarmill.lines") 541),none,(.ref 367),.none,0⟩),#[]⟩ .nil .nil) .nil)))) (.node ⟨(.type "tuple"),none,(.seq #[(.str (.ofString "mask") 201),(.str (.ofString "parts") 202),(.str (.ofString "left") 203)] 0),#[]⟩ (.node ⟨(.type "tuple"),none,(.seq #[] 0),#[]⟩ (.node ⟨(.type "tuple"),none,(.seq #[(.type "Exception")] 0),#[]⟩ (.node ⟨.none,none,(.fields #[]),#[]⟩ (.node ⟨(.type "function"),none,(.func ⟨(.ofString "show_item"),(.ofString "show_item"),(prm (stAt 22)),(.stmts (bdy (stAt 22))),(scp (stAt 22)),3,[],.none,.none,.none,(.str (.ofString "grammarmill.lines") 541),none,(.ref 263),.none,0⟩),#[]⟩ .nil .nil) (.node ⟨.none,none,(.fields #[]),#[]⟩ .nil .nil)) (.node ⟨.none,none,(.fields #[]),#[]⟩ (.node ⟨(.type "tuple"),none,(.seq #[(.str (.ofString "self") 634),(.str (.ofString "word") 635)] 0),#[]⟩ .nil .nil) .nil)) (.node ⟨.none,none,(.fields #[]),#[]⟩ (.node ⟨(.type "code"),none,(.fields #[(.str (.ofString "take_while") 422),(.str (.ofString "Cursor.take_while") 423),(.str (.ofString "/claim/cut.py") 424),(.int 96 0),(.int 2 0),(.int 0 0),(.int 0 0),(.int 3 0),(.ref 163),(.bool true),(.int 181 0),(.ref 164),.none,(.ref 165),(.ref 166),(.ref 167),(.int 428 0),(.int 96 0),(.str (.ofString "/claim/cut.py") 429)]),#[]⟩ (.node ⟨(.type "super"),none,(.fields #[(.ref 293),(.ref 293),(.ref 293)]),#[]⟩ .nil .nil) (.node ⟨(.type "tuple"),none,(.seq #[] 0),#[]⟩ .nil .nil)) (.node ⟨(.type "code"),none,(.fields #[(.str (.ofString "quoted") 498),(.str (.ofString "Cursor.quoted") 499),(.str (.ofString "/claim/cut.py") 500),(.int 147 0),(.int 2 0),(.int 0 0),(.int 0 0),(.int 3 0),(.ref 227),(.bool true),(.int 181 0),(.ref 228),.none,(.ref 229),(.ref 230),(.ref 231),(.int 505 0),(.int 147 0),(.str (.ofString "/claim/cut.py") 506)]),#[]⟩ (.node ⟨(.type "code"),none,(.fields #[(.str (.ofString "bracket") 665),(.str (.ofString "LineReader.bracket") 666),(.str (.ofString "/claim/cut.py") 667),(.int 239 0),(.int 2 0),(.int 0 0),(.int 0 0),(.int 3 0),(.ref 355),(.bool true),(.int 181 0),(.ref 356),.none,(.ref 357),(.ref 358),(.ref 359),(.int 671 0),(.int 239 0),(.str (.ofString "/claim/cut.py") 672)]),#[]⟩ .nil .nil) .nil))) (.node ⟨(.type "code"),none,(.fields #[(.str (.ofString "told") 275),(.str (.ofString "Position.told") 276),(.str (.ofString "/claim/cut.py") 277),(.int 41 0),(.int 1 0),(.int 0 0),(.int 0 0),(.int 3 0),(.ref 51),(.bool true),(.int 181 0),(.ref 52),.none,(.ref 53),(.ref 54),(.ref 55),(.int 279 0),(.int 41 0),(.str (.ofString "/claim/cut.py") 280)]),#[]⟩ (.node ⟨.none,none,(.fields #[]),#[]⟩ (.node ⟨(.type "tuple"),none,(.seq #[] 0),#[]⟩ (.node ⟨.none,none,(.fields #[]),#[]⟩ .nil .nil) (.node ⟨(.type "getset_descriptor"),none,(.fields #[(.str (.ofString "__dict__") 735),(.ref 407),(.builtin "function.__dict__"),(.builtin "function.__dict__#set")]),#[]⟩ .nil .nil)) (.node ⟨(.type "tuple"),none,(.seq #[] 0),#[]⟩ (.node ⟨.none,none,(.func ⟨(.ofString "whole"),(.ofString "LineReader.whole"),(prm (inAt 24 5)),(.stmts (bdy (inAt 24 5))),(scp (inAt 24 5)),0,[],.none,.none,.none,.none,none,.none,.none,0⟩),#[]⟩ .nil .nil) .nil)) (.node ⟨(.type "tuple"),none,(.seq #[] 0),#[]⟩ (.node ⟨(.type "function"),none,(.func ⟨(.ofString "skip_blanks"),(.ofString "Cursor.skip_blanks"),(prm (inAt 15 8)),(.stmts (bdy (inAt 15 8))),(scp (inAt 15 8)),3,[],(.ref 177),.none,.none,(.str (.ofString "grammarmill.source") 220),none,(.ref 183),.none,0⟩),#[]⟩ (.node ⟨(.type "tuple"),none,(.seq #[] 0),#[]⟩ .nil .nil) (.node ⟨.none,none,(.func ⟨(.ofString "_law_read"),(.ofString "_law_read"),(prm (stAt 30)),(.stmts (bdy (stAt 30))),(scp (stAt 30)),0,[],.none,.none,.none,.none,none,.none,.none,0⟩),#[]⟩ .nil .nil)) (.node ⟨(.type "tuple"),none,(.seq #[] 0),#[]⟩ (.node ⟨(.type "function"),none,(.func ⟨(.ofString "numbers"),(.ofString "LineReader.numbers"),(prm (inAt 24 9)),(.stmts (bdy (inAt 24 9))),(scp (inAt 24 9)),3,[],(.ref 369),.none,.none,(.str (.ofString "grammarmill.lines") 541),none,(.ref 375),.none,0⟩),#[]⟩ .nil .nil) .nil))))) (.node ⟨.none,none,(.fields #[(.int 1 0),(.int 0 0),(.ref 20),(.int 6 0),(.int 0 0),(.ref 27),(.int 13 0),(.int 0 0),(.ref 34),(.int 34 0),(.int 0 0),(.ref 42),(.int 43 0),(.int 0 0),(.ref 70),(.int 52 0),(.int 0 0),(.ref 77),(.int 63 0),(.int 0 0),(.ref 105),(.int 65 0),(.int 0 0),(.ref 117),(.int 159 0),(.int 0 0),(.ref 246),(.int 162 0),(.int 0 0),(.ref 253),(.int 175 0),(.int 0 0),(.ref 258),(.int 180 0),(.int 0 0),(.ref 263),(.int 188 0),(.int 0 0),(.ref 270),(.int 198 0),(.int 0 0),(.ref 303),(.int 289 0),(.int 0 0),(.ref 415),(.int 291 0),(.int 0 0),(.ref 422),(.int 299 0),(.int 0 0),(.ref 427),(.int 307 0),(.int 0 0),(.ref 434),(.int 309 0),(.int 0 0),(.ref 441),(.int 317 0),(.int 0 0),(.ref 446)]),#[]⟩ (.node ⟨(.type "code"),none,(.fields #[(.str (.ofString "_wall") 187),(.str (.ofString "_wall") 188),(.str (.ofString "/claim/cut.py") 189),(.int 1 0),(.int 1 0),(.int 0 0),(.int 0 0),(.int 3 0),(.ref 15),(.bool true),(.int 181 0),(.ref 16),.none,(.ref 17),(.ref 18),(.ref 19),(.int 191 0),(.int 1 0),(.str (.ofString "/claim/cut.py") 192)]),#[]⟩ (.node ⟨(.type "dict"),none,(.dict #[⟨(PySem.PyData.keyHash P (.ofString "n")),(.str (.ofString "n") 231),(.int 10 232)⟩,⟨(PySem.PyData.keyHash P (.ofString "t")),(.str (.ofString "t") 233),(.int 9 234)⟩,⟨(PySem.PyData.keyHash P (.ofString "r")),(.str (.ofString "r") 235),(.int 13 236)⟩,⟨(PySem.PyData.keyHash P (.ofString "f")),(.str (.ofString "f") 237),(.int 12 238)⟩,⟨(PySem.PyData.keyHash P (.ofString "v")),(.str (.ofString "v") 239),(.int 11 240)⟩,⟨(PySem.PyData.keyHash P (.ofString "a")),(.str (.ofString "a") 241),(.int 7 242)⟩,⟨(PySem.PyData.keyHash P (.ofString "b")),(.str (.ofString "b") 243),(.int 8 244)⟩] 7),#[]⟩ (.node ⟨(.type "tuple"),none,(.seq #[] 0),#[]⟩ (.node ⟨(.type "code"),none,(.fields #[(.str (.ofString "is_done") 381),(.str (.ofString "Cursor.is_done") 382),(.str (.ofString "/claim/cut.py") 383),(.int 71 0),(.int 1 0),(.int 0 0),(.int 0 0),(.int 3 0),(.ref 127),(.bool true),(.int 181 0),(.ref 128),.none,(.ref 129),(.ref 130),(.ref 131),(.int 385 0),(.int 71 0),(.str (.ofString "/claim/cut.py") 386)]),#[]⟩ (.node ⟨(.type "tuple"),none,(.seq #[] 0),#[]⟩ .nil .nil) (.node ⟨.none,none,(.func ⟨(.ofString "texts"),(.ofString "LineReader.texts"),(prm (inAt 24 11)),(.stmts (bdy (inAt 24 11))),(scp (inAt 24 11)),0,[],.none,.none,.none,.none,none,.none,.none,0⟩),#[]⟩ .nil .nil)) (.node ⟨.none,none,(.func ⟨(.ofString "number"),(.ofString "Cursor.number"),(prm (inAt 15 10)),(.stmts (bdy (inAt 15 10))),(scp (inAt 15 10)),0,[],.none,.none,.none,.none,none,.none,.none,0⟩),#[]⟩ (.node ⟨(.type "code"),none,(.fields #[(.str (.ofString "need") 623),(.str (.ofString "LineReader.need") 624),(.str (.ofString "/claim/cut.py") 625),(.int 207 0),(.int 2 0),(.int 0 0),(.int 0 0),(.int 3 0),(.ref 319),(.bool true),(.int 181 0),(.ref 320),.none,(.ref 321),(.ref 322),(.ref 323),(.int 628 0),(.int 207 0),(.str (.ofString "/claim/cut.py") 629)]),#[]⟩ .nil .nil) .nil)) (.node ⟨(.type "tuple"),none,(.seq #[(.ref 96)] 0),#[]⟩ (.node ⟨.none,none,(.fields #[]),#[]⟩ (.node ⟨(.type "dict"),none,(.dict #[⟨(PySem.PyData.keyHash P (.ofString "__module__")),(.str (.ofString "__module__") 560),(.str (.ofString "grammarmill.lines") 541)⟩,⟨(PySem.PyData.keyHash P (.ofString "__firstlineno__")),(.str (.ofString "__firstlineno__") 564),(.int 188 563)⟩,⟨(PySem.PyData.keyHash P (.ofString "__init__")),(.str (.ofString "__init__") 572),(.ref 278)⟩,⟨(PySem.PyData.keyHash P (.ofString "add")),(.str (.ofString "add") 578),(.ref 283)⟩,⟨(PySem.PyData.keyHash P (.ofString "text")),(.str (.ofString "text") 585),(.ref 290)⟩,⟨(PySem.PyData.keyHash P (.ofString "__static_attributes__")),(.str (.ofString "__static_attributes__") 587),(.ref 291)⟩,⟨(PySem.PyData.keyHash P (.ofString "__dict__")),(.str (.ofString "__dict__") 589),(.ref 294)⟩,⟨(PySem.PyData.keyHash P (.ofString "__weakref__")),(.str (.ofString "__weakref__") 591),(.ref 295)⟩,⟨(PySem.PyData.keyHash P (.ofString "__doc__")),(.str (.ofString "__doc__") 592),.none⟩] 4),#[]⟩ .nil .nil) (.node ⟨(.type "tuple"),none,(.seq #[] 0),#[]⟩ .nil .nil)) (.node ⟨.none,none,(.fields #[]),#[]⟩ (.node ⟨.none,none,(.fields #[]),#[]⟩ .nil .nil) .nil))) (.node ⟨.none,none,(.fields #[]),#[]⟩ (.node ⟨.none,none,(.func ⟨(.ofString "__init__"),(.ofString "ToolError.__init__"),(prm (inAt 13 0)),(.stmts (bdy (inAt 13 0))),(scp (inAt 13 0)),0,[],.none,.none,.none,.none,none,.none,.none,0⟩),#[]⟩ (.node ⟨(.type "function"),none,(.func ⟨(.ofString "starts"),(.ofString "Cursor.starts"),(prm (inAt 15 3)),(.stmts (bdy (inAt 15 3))),(scp (inAt 15 3)),3,[],.none,.none,.none,(.str (.ofString "grammarmill.source") 220),none,(.ref 147),.none,0⟩),#[]⟩ (.node ⟨.none,none,(.func ⟨(.ofString "__init__"),(.ofString "LineWriter.__init__"),(prm (inAt 23 0)),(.stmts (bdy (inAt 23 0))),(scp (inAt 23 0)),0,[],.none,.none,.none,.none,none,.none,.none,0⟩),#[]⟩ .nil .nil) (.node ⟨(.type "function"),none,(.func ⟨(.ofString "need_same"),(.ofString "LineReader.need_same"),(prm (inAt 24 13)),(.stmts (bdy (inAt 24 13))),(scp (inAt 24 13)),3,[],.none,.none,.none,(.str (.ofString "grammarmill.lines") 541),none,(.ref 403),.none,0⟩),#[]⟩ .nil .nil)) (.node ⟨(.type "function"),none,(.func ⟨(.ofString "position_at"),(.ofString "Cursor.position_at"),(prm (inAt 15 12)),(.stmts (bdy (inAt 15 12))),(scp (inAt 15 12)),3,[],.none,.none,.none,(.str (.ofString "grammarmill.source") 220),none,(.ref 211),.none,0⟩),#[]⟩ (.node ⟨(.type "tuple"),none,(.seq #[] 0),#[]⟩ .nil .nil) .nil)) (.node ⟨.none,none,(.fields #[(.int 67 0),(.int 4 0),(.ref 125),(.int 71 0),(.int 4 0),(.ref 132),(.int 74 0),(.int 4 0),(.ref 140),(.int 80 0),(.int 4 0),(.ref 147),(.int 83 0),(.int 4 0),(.ref 154),(.int 90 0),(.int 4 0),(.ref 161),(.int 96 0),(.int 4 0),(.ref 168),(.int 102 0),(.int 4 0),(.ref 175),(.int 105 0),(.int 4 0),(.ref 183),(.int 108 0),(.int 4 0),(.ref 190),(.int 111 0),(.int 4 0),(.ref 197),(.int 119 0),(.int 4 0),(.ref 204),(.int 122 0),(.int 4 0),(.ref 211),(.int 125 0),(.int 4 0),(.ref 218),(.int 133 0),(.int 4 0),(.ref 225),(.int 147 0),(.int 4 0),(.ref 232)]),#[]⟩ (.node ⟨(.type "tuple"),none,(.seq #[(.str (.ofString "self") 442),(.str (.ofString "signs") 443)] 0),#[]⟩ (.node ⟨(.type "tuple"),none,(.seq #[] 0),#[]⟩ .nil .nil) (.node ⟨(.type "tuple"),none,(.seq #[] 0),#[]⟩ .nil .nil)) (.node ⟨(.type "tuple"),none,(.seq #[] 0),#[]⟩ (.node ⟨(.type "tuple"),none,(.seq #[(.str (.ofString "self") 688),(.str (.ofString "word") 689),(.str (.ofString "least") 690),(.str (.ofString "most") 691),(.str (.ofString "many") 692),(.str (.ofString "found") 693),(.str (.ofString "item") 694),(.str (.ofString "is_out") 695)] 0),#[]⟩ .nil .nil) .nil)))) (.node ⟨(.type "function"),none,(.func ⟨(.ofString "mask_item"),(.ofString "mask_item"),(prm (stAt 3)),(.stmts (bdy (stAt 3))),(scp (stAt 3)),3,[],.none,.none,.none,(.str (.ofString "grammarmill.texts") 194),none,(.ref 27),.none,0⟩),#[]⟩ (.node ⟨(.type "tuple"),none,(.seq #[] 0),#[]⟩ (.node ⟨.none,none,(.fields #[(.int 54 0),(.int 4 0),(.ref 85),(.int 59 0),(.int 4 0),(.ref 92)]),#[]⟩ (.node ⟨(.type "code"),none,(.fields #[(.str (.ofString "peek") 389),(.str (.ofString "Cursor.peek") 390),(.str (.ofString "/claim/cut.py") 391),(.int 74 0),(.int 2 0),(.int 0 0),(.int 0 0),(.int 3 0),(.ref 135),(.bool true),(.int 181 0),(.ref 136),.none,(.ref 137),(.ref 138),(.ref 139),(.int 395 0),(.int 74 0),(.str (.ofString "/claim/cut.py") 396)]),#[]⟩ (.node ⟨(.type "tuple"),none,(.seq #[] 0),#[]⟩ .nil .nil) (.node ⟨(.type "code"),none,(.fields #[(.str (.ofString "finish") 717),(.str (.ofString "LineReader.finish") 718),(.str (.ofString "/claim/cut.py") 719),(.int 278 0),(.int 1 0),(.int 0 0),(.int 0 0),(.int 3 0),(.ref 391),(.bool true),(.int 181 0),(.ref 392),.none,(.ref 393),(.ref 394),(.ref 395),(.int 721 0),(.int 278 0),(.str (.ofString "/claim/cut.py") 722)]),#[]⟩ .nil .nil)) (.node ⟨(.type "code"),none,(.fields #[(.str (.ofString "position") 463),(.str (.ofString "Cursor.position") 464),(.str (.ofString "/claim/cut.py") 465),(.int 119 0),(.int 1 0),(.int 0 0),(.int 0 0),(.int 3 0),(.ref 199),(.bool true),(.int 181 0),(.ref 200),.none,(.ref 201),(.ref 202),(.ref 203),(.int 467 0),(.int 119 0),(.str (.ofString "/claim/cut.py") 468)]),#[]⟩ (.node ⟨(.type "function"),none,(.func ⟨(.ofString "head"),(.ofString "LineReader.head"),(prm (inAt 24 3)),(.stmts (bdy (inAt 24 3))),(scp (inAt 24 2)),3,[],.none,.none,.none,(.str (.ofString "grammarmill.lines") 541),none,(.ref 331),.none,0⟩),#[]⟩ .nil .nil) .nil)) (.node ⟨(.type "dict"),none,(.dict #[⟨(PySem.PyData.keyHash P (.ofString "__module__")),(.str (.ofString "__module__") 350),(.str (.ofString "grammarmill.source") 220)⟩,⟨(PySem.PyData.keyHash P (.ofString "__firstlineno__")),(.str (.ofString "__firstlineno__") 354),(.int 63 353)⟩,⟨(PySem.PyData.keyHash P (.ofString "__static_attributes__")),(.str (.ofString "__static_attributes__") 355),(.ref 107)⟩,⟨(PySem.PyData.keyHash P (.ofString "__doc__")),(.str (.ofString "__doc__") 356),.none⟩] 2),#[]⟩ (.node ⟨(.type "tuple"),none,(.seq #[(.str (.ofString "self") 434)] 0),#[]⟩ (.node ⟨(.type "dict"),none,(.dict #[⟨(PySem.PyData.keyHash P (.ofString "__module__")),(.str (.ofString "__module__") 602),(.str (.ofString "grammarmill.lines") 541)⟩,⟨(PySem.PyData.keyHash P (.ofString "__qualname__")),(.str (.ofString "__qualname__") 604),(.str (.ofString "LineReader") 603)⟩,⟨(PySem.PyData.keyHash P (.ofString "__firstlineno__")),(.str (.ofString "__firstlineno__") 606),(.int 198 605)⟩,⟨(PySem.PyData.keyHash P (.ofString "__init__")),(.str (.ofString "__init__") 614),(.ref 311)⟩,⟨(PySem.PyData.keyHash P (.ofString "fail")),(.str (.ofString "fail") 622),(.ref 318)⟩,⟨(PySem.PyData.keyHash P (.ofString "need")),(.str (.ofString "need") 630),(.ref 325)⟩,⟨(PySem.PyData.keyHash P (.ofString "head")),(.str (.ofString "head") 638),(.ref 332)⟩,⟨(PySem.PyData.keyHash P (.ofString "end_line")),(.str (.ofString "end_line") 645),(.ref 339)⟩,⟨(PySem.PyData.keyHash P (.ofString "whole")),(.str (.ofString "whole") 654),(.ref 346)⟩,⟨(PySem.PyData.keyHash P (.ofString "item")),(.str (.ofString "item") 664),(.ref 354)⟩,⟨(PySem.PyData.keyHash P (.ofString "bracket")),(.str (.ofString "bracket") 673),(.ref 361)⟩,⟨(PySem.PyData.keyHash P (.ofString "items")),(.str (.ofString "items") 684),(.ref 368)⟩,⟨(PySem.PyData.keyHash P (.ofString "numbers")),(.str (.ofString "numbers") 698),(.ref 376)⟩,⟨(PySem.PyData.keyHash P (.ofString "one")),(.str (.ofString "one") 708),(.ref 383)⟩,⟨(PySem.PyData.keyHash P (.ofString "texts")),(.str (.ofString "texts") 716),(.ref 390)⟩,⟨(PySem.PyData.keyHash P (.ofString "finish")),(.str (.ofString "finish") 723),(.ref 397)⟩,⟨(PySem.PyData.keyHash P (.ofString "need_same")),(.str (.ofString "need_same") 731),(.ref 404)⟩,⟨(PySem.PyData.keyHash P (.ofString "__static_attributes__")),(.str (.ofString "__static_attributes__") 734),(.ref 405)⟩] 18),#[]⟩ .nil .nil) (.node ⟨(.type "function"),none,(.func ⟨(.ofString "_law_parts"),(.ofString "_law_parts"),(prm (stAt 28)),(.stmts (bdy (stAt 28))),(scp (stAt 28)),3,[],.none,.none,.none,(.str (.ofString "law_sf0019_01") 742),none,(.ref 427),.none,0⟩),#[]⟩ .nil .nil)) (.node ⟨(.type "type"),none,(.cls ⟨(.ofString "Cursor"),[(.type "object")],[(.ref 236),(.type "object")],235,(.ofString "Cursor"),true,[],[],false,none,false⟩),#[none,none,(some (.str (.ofString "Cursor") 359)),(some (.str (.ofString "Cursor") 367)),(some (.builtin "object.__new__")),(some (.bool true))]⟩ (.node ⟨(.type "tuple"),none,(.seq #[(.str (.ofString "self") 677),(.str (.ofString "word") 678),(.str (.ofString "many") 679),(.str (.ofString "found") 680),(.str (.ofString "turn") 681)] 0),#[]⟩ .nil .nil) .nil))) (.node ⟨(.type "type"),none,(.cls ⟨(.ofString "Position"),[(.type "object")],[(.ref 60),(.type "object")],59,(.ofString "Position"),true,[],[],false,none,false⟩),#[none,none,(some (.str (.ofString "Position") 253)),(some (.str (.ofString "Position") 261)),(some (.builtin "object.__new__")),(some (.bool true))]⟩ (.node ⟨(.type "code"),none,(.fields #[(.str (.ofString "told") 326),(.str (.ofString "ToolError.told") 327),(.str (.ofString "/claim/cut.py") 328),(.int 59 0),(.int 1 0),(.int 0 0),(.int 0 0),(.int 3 0),(.ref 87),(.bool true),(.int 181 0),(.ref 88),.none,(.ref 89),(.ref 90),(.ref 91),(.int 330 0),(.int 59 0),(.str (.ofString "/claim/cut.py") 331)]),#[]⟩ (.node ⟨(.type "tuple"),none,(.seq #[] 0),#[]⟩ (.node ⟨(.type "tuple"),none,(.seq #[] 0),#[]⟩ .nil .nil) (.node ⟨(.type "tuple"),none,(.seq #[] 0),#[]⟩ .nil .nil)) (.node ⟨(.type "tuple"),none,(.seq #[] 0),#[]⟩ (.node ⟨(.type "tuple"),none,(.seq #[] 0),#[]⟩ .nil .nil) .nil)) (.node ⟨.none,none,(.func ⟨(.ofString "__init__"),(.ofString "Cursor.__init__"),(prm (inAt 15 0)),(.stmts (bdy (inAt 15 0))),(scp (inAt 15 0)),0,[],.none,.none,.none,.none,none,.none,.none,0⟩),#[]⟩ (.node ⟨(.type "tuple"),none,(.seq #[] 0),#[]⟩ (.node ⟨.none,none,(.func ⟨(.ofString "fail"),(.ofString "LineReader.fail"),(prm (inAt 24 1)),(.stmts (bdy (inAt 24 1))),(scp (inAt 24 1)),0,[],.none,.none,.none,.none,none,.none,.none,0⟩),#[]⟩ .nil .nil) (.node ⟨.none,none,(.fields #[]),#[]⟩ .nil .nil)) (.node ⟨.none,none,(.func ⟨(.ofString "escaped_sign"),(.ofString "escaped_sign"),(prm (stAt 17)),(.stmts (bdy (stAt 17))),(scp (stAt 17)),0,[],.none,.none,.none,.none,none,.none,.none,0⟩),#[]⟩ (.node ⟨(.type "tuple"),none,(.seq #[] 0),#[]⟩ .nil .nil) .nil)))))) (.node (boot_o_6 P) (.node (boot_o_10 P) (.node ⟨(.type "tuple"),none,(.seq #[] 0),#[]⟩ (.node ⟨(.type "code"),none,(.fields #[(.str (.ofString "read_masks") 207),(.str (.ofString "read_masks") 208),(.str (.ofString "/claim/cut.py") 209),(.int 13 0),(.int 2 0),(.int 0 0),(.int 0 0),(.int 3 0),(.ref 29),(.bool true),(.int 181 0),(.ref 30),.none,(.ref 31),(.ref 32),(.ref 33),(.int 217 0),(.int 13 0),(.str (.ofString "/claim/cut.py") 218)]),#[]⟩ (.node ⟨.none,none,(.fields #[]),#[]⟩ (.node ⟨(.type "tuple"),none,(.seq #[] 0),#[]⟩ (.node ⟨(.type "code"),none,(.fields #[(.str (.ofString "escaped") 535),(.str (.ofString "escaped") 536),(.str (.ofString "/claim/cut.py") 537),(.int 175 0),(.int 2 0),(.int 0 0),(.int 0 0),(.int 3 0),(.ref 255),(.bool true),(.int 181 0),(.ref 256),.none,.none,.none,(.ref 257),(.int 538 0),(.int 175 0),(.str (.ofString "/claim/cut.py") 539)]),#[]⟩ .nil .nil) (.node ⟨(.type "tuple"),none,(.seq #[(.str (.ofString "self") 712),(.str (.ofString "word") 713)] 0),#[]⟩ .nil .nil)) (.node ⟨(.type "tuple"),none,(.seq #[(.str (.ofString "self") 457),(.str (.ofString "begun") 458),(.str (.ofString "figures") 459)] 0),#[]⟩ (.node ⟨(.type "tuple"),none,(.seq #[] 0),#[]⟩ .nil .nil) .nil)) (.node ⟨(.type "super"),none,(.fields #[(.ref 96),(.ref 96),(.ref 96)]),#[]⟩ (.node ⟨(.type "function"),none,(.func ⟨(.ofString "skip"),(.ofString "Cursor.skip"),(prm (inAt 15 5)),(.stmts (bdy (inAt 15 5))),(scp (inAt 15 3)),3,[],.none,.none,.none,(.str (.ofString "grammarmill.source") 220),none,(.ref 161),.none,0⟩),#[]⟩ (.node ⟨(.type "function"),none,(.func ⟨(.ofString "text"),(.ofString "LineWriter.text"),(prm (inAt 23 2)),(.stmts (bdy (inAt 23 2))),(scp (inAt 23 2)),3,[],.none,.none,.none,(.str (.ofString "grammarmill.lines") 541),none,(.ref 289),.none,0⟩),#[]⟩ .nil .nil) (.node ⟨.none,none,(.fields #[]),#[]⟩ .nil .nil)) (.node ⟨(.type "function"),none,(.func ⟨(.ofString "escape"),(.ofString "Cursor.escape"),(prm (inAt 15 14)),(.stmts (bdy (inAt 15 14))),(scp (inAt 15 14)),3,[],.none,.none,.none,(.str (.ofString "grammarmill.source") 220),none,(.ref 225),.none,0⟩),#[]⟩ (.node ⟨(.type "function"),none,(.func ⟨(.ofString "item"),(.ofString "LineReader.item"),(prm (inAt 24 6)),(.stmts (bdy (inAt 24 6))),(scp (inAt 24 6)),3,[],(.ref 347),.none,.none,(.str (.ofString "grammarmill.lines") 541),none,(.ref 353),.none,0⟩),#[]⟩ .nil .nil) .nil))) (.node ⟨(.type "function"),none,(.func ⟨(.ofString "__init__"),(.ofString "Position.__init__"),(prm (inAt 11 0)),(.stmts (bdy (inAt 11 0))),(scp (inAt 11 0)),3,[],.none,.none,.none,(.str (.ofString "grammarmill.source") 220),none,(.ref 49),.none,0⟩),#[]⟩ (.node ⟨(.type "tuple"),none,(.seq #[(.str (.ofString "self") 320),(.str (.ofString "what") 321),(.str (.ofString "at") 322)] 0),#[]⟩ (.node ⟨.none,none,(.func ⟨(.ofString "starts"),(.ofString "Cursor.starts"),(prm (inAt 15 3)),(.stmts (bdy (inAt 15 3))),(scp (inAt 15 3)),0,[],.none,.none,.none,.none,none,.none,.none,0⟩),#[]⟩ (.node ⟨(.type "tuple"),none,(.seq #[(.str (.ofString "self") 568),(.str (.ofString "head") 569)] 0),#[]⟩ .nil .nil) (.node ⟨.none,none,(.func ⟨(.ofString "need_same"),(.ofString "LineReader.need_same"),(prm (inAt 24 13)),(.stmts (bdy (inAt 24 13))),(scp (inAt 24 13)),0,[],.none,.none,.none,.none,none,.none,.none,0⟩),#[]⟩ .nil .nil)) (.node ⟨.none,none,(.func ⟨(.ofString "position_at"),(.ofString "Cursor.position_at"),(prm (inAt 15 12)),(.stmts (bdy (inAt 15 12))),(scp (inAt 15 12)),0,[],.none,.none,.none,.none,none,.none,.none,0⟩),#[]⟩ (.node ⟨(.type "code"),none,(.fields #[(.str (.ofString "end_line") 639),(.str (.ofString "LineReader.end_line") 640),(.str (.ofString "/claim/cut.py") 641),(.int 215 0),(.int 1 0),(.int 0 0),(.int 0 0),(.int 3 0),(.ref 333),(.bool true),(.int 181 0),(.ref 334),.none,(.ref 335),(.ref 336),(.ref 337),(.int 643 0),(.int 215 0),(.str (.ofString "/claim/cut.py") 644)]),#[]⟩ .nil .nil) .nil)) (.node ⟨(.type "dict"),none,(.dict #[⟨(PySem.PyData.keyHash P (.ofString "__module__")),(.str (.ofString "__module__") 366),(.str (.ofString "grammarmill.source") 220)⟩,⟨(PySem.PyData.keyHash P (.ofString "__qualname__")),(.str (.ofString "__qualname__") 368),(.str (.ofString "Cursor") 367)⟩,⟨(PySem.PyData.keyHash P (.ofString "__firstlineno__")),(.str (.ofString "__firstlineno__") 370),(.int 65 369)⟩,⟨(PySem.PyData.keyHash P (.ofString "__init__")),(.str (.ofString "__init__") 380),(.ref 126)⟩,⟨(PySem.PyData.keyHash P (.ofString "is_done")),(.str (.ofString "is_done") 387),(.ref 133)⟩,⟨(PySem.PyData.keyHash P (.ofString "peek")),(.str (.ofString "peek") 397),(.ref 141)⟩,⟨(PySem.PyData.keyHash P (.ofString "starts")),(.str (.ofString "starts") 405),(.ref 148)⟩,⟨(PySem.PyData.keyHash P (.ofString "take")),(.str (.ofString "take") 413),(.ref 155)⟩,⟨(PySem.PyData.keyHash P (.ofString "skip")),(.str (.ofString "skip") 421),(.ref 162)⟩,⟨(PySem.PyData.keyHash P (.ofString "take_while")),(.str (.ofString "take_while") 430),(.ref 169)⟩,⟨(PySem.PyData.keyHash P (.ofString "take_line")),(.str (.ofString "take_line") 437),(.ref 176)⟩,⟨(PySem.PyData.keyHash P (.ofString "skip_blanks")),(.str (.ofString "skip_blanks") 446),(.ref 184)⟩,⟨(PySem.PyData.keyHash P (.ofString "name")),(.str (.ofString "name") 453),(.ref 191)⟩,⟨(PySem.PyData.keyHash P (.ofString "number")),(.str (.ofString "number") 462),(.ref 198)⟩,⟨(PySem.PyData.keyHash P (.ofString "position")),(.str (.ofString "position") 469),(.ref 205)⟩,⟨(PySem.PyData.keyHash P (.ofString "position_at")),(.str (.ofString "position_at") 477),(.ref 212)⟩,⟨(PySem.PyData.keyHash P (.ofString "coded")),(.str (.ofString "coded") 489),(.ref 219)⟩,⟨(PySem.PyData.keyHash P (.ofString "escape")),(.str (.ofString "escape") 497),(.ref 226)⟩,⟨(PySem.PyData.keyHash P (.ofString "quoted")),(.str (.ofString "quoted") 507),(.ref 233)⟩,⟨(PySem.PyData.keyHash P (.ofString "__static_attributes__")),(.str (.ofString "__static_attributes__") 510),(.ref 234)⟩] 20),#[]⟩ (.node ⟨(.type "tuple"),none,(.seq #[] 0),#[]⟩ (.node ⟨.none,none,(.fields #[]),#[]⟩ .nil .nil) (.node ⟨(.type "code"),none,(.fields #[(.str (.ofString "_law_line") 767),(.str (.ofString "_law_line") 768),(.str (.ofString "/claim/cut.py") 769),(.int 307 0),(.int 1 0),(.int 0 0),(.int 0 0),(.int 3 0),(.ref 429),(.bool true),(.int 181 0),(.ref 430),.none,(.ref 431),(.ref 432),(.ref 433),(.int 771 0),(.int 307 0),(.str (.ofString "/claim/cut.py") 772)]),#[]⟩ .nil .nil)) (.node ⟨.none,none,(.fields #[]),#[]⟩ (.node ⟨(.type "tuple"),none,(.seq #[] 0),#[]⟩ .nil .nil) .nil)))) (.node ⟨.none,none,(.func ⟨(.ofString "mask_item"),(.ofString "mask_item"),(prm (stAt 3)),(.stmts (bdy (stAt 3))),(scp (stAt 3)),0,[],.none,.none,.none,.none,none,.none,.none,0⟩),#[]⟩ (.node ⟨(.type "code"),none,(.fields #[(.str (.ofString "Position") 255),(.str (.ofString "Position") 256),(.str (.ofString "/claim/cut.py") 257),(.int 34 0),(.int 0 0),(.int 0 0),(.int 0 0),(.int 0 0),(.ref 40),(.bool false),(.int 181 0),(.ref 41),.none,.none,.none,.none,(.int 258 0),(.int 34 0),(.str (.ofString "/claim/cut.py") 259)]),#[]⟩ (.node ⟨(.type "dict"),none,(.dict #[⟨(PySem.PyData.keyHash P (.ofString "__module__")),(.str (.ofString "__module__") 312),(.str (.ofString "grammarmill.source") 220)⟩,⟨(PySem.PyData.keyHash P (.ofString "__qualname__")),(.str (.ofString "__qualname__") 314),(.str (.ofString "ToolError") 313)⟩,⟨(PySem.PyData.keyHash P (.ofString "__firstlineno__")),(.str (.ofString "__firstlineno__") 316),(.int 52 315)⟩,⟨(PySem.PyData.keyHash P (.ofString "__init__")),(.str (.ofString "__init__") 325),(.ref 86)⟩,⟨(PySem.PyData.keyHash P (.ofString "told")),(.str (.ofString "told") 332),(.ref 93)⟩,⟨(PySem.PyData.keyHash P (.ofString "__static_attributes__")),(.str (.ofString "__static_attributes__") 335),(.ref 94)⟩] 6),#[]⟩ (.node ⟨(.type "tuple"),none,(.seq #[] 0),#[]⟩ (.node ⟨(.type "builtin_function_or_method"),none,(.fields #[(.builtin "type.__prepare__"),(.type "type")]),#[]⟩ .nil .nil) (.node ⟨(.type "tuple"),none,(.seq #[] 0),#[]⟩ .nil .nil)) (.node ⟨(.type "tuple"),none,(.seq #[] 0),#[]⟩ (.node ⟨.none,none,(.func ⟨(.ofString "head"),(.ofString "LineReader.head"),(prm (inAt 24 3)),(.stmts (bdy (inAt 24 3))),(scp (inAt 24 2)),0,[],.none,.none,.none,.none,none,.none,.none,0⟩),#[]⟩ .nil .nil) .nil)) (.node ⟨(.type "frame"),none,.plain,#[(some (.ref 105)),(some (.ref 3)),(some (.ref 102)),none,(some (.str (.ofString "grammarmill.source") 220)),none,(some (.ref 0))]⟩ (.node ⟨(.type "tuple"),none,(.seq #[] 0),#[]⟩ (.node ⟨(.type "tuple"),none,(.seq #[] 0),#[]⟩ .nil .nil) (.node ⟨.none,none,(.func ⟨(.ofString "_law_parts"),(.ofString "_law_parts"),(prm (stAt 28)),(.stmts (bdy (stAt 28))),(scp (stAt 28)),0,[],.none,.none,.none,.none,none,.none,.none,0⟩),#[]⟩ .nil .nil)) (.node ⟨(.type "tuple"),none,(.seq #[(.str (.ofString "at") 508),(.str (.ofString "text") 509)] 0),#[]⟩ (.node ⟨(.type "tuple"),none,(.seq #[] 0),#[]⟩ .nil .nil) .nil))) (.node ⟨(.type "tuple"),none,(.seq #[(.str (.ofString "column") 282),(.str (.ofString "line") 283),(.str (.ofString "offset") 284)] 0),#[]⟩ (.node ⟨(.type "tuple"),none,(.seq #[] 0),#[]⟩ (.node ⟨(.type "code"),none,(.fields #[(.str (.ofString "take") 406),(.str (.ofString "Cursor.take") 407),(.str (.ofString "/claim/cut.py") 408),(.int 83 0),(.int 1 0),(.int 0 0),(.int 0 0),(.int 3 0),(.ref 149),(.bool true),(.int 181 0),(.ref 150),.none,(.ref 151),(.ref 152),(.ref 153),(.int 411 0),(.int 83 0),(.str (.ofString "/claim/cut.py") 412)]),#[]⟩ (.node ⟨(.type "code"),none,(.fields #[(.str (.ofString "add") 573),(.str (.ofString "LineWriter.add") 574),(.str (.ofString "/claim/cut.py") 575),(.int 193 0),(.int 3 0),(.int 0 0),(.int 0 0),(.int 3 0),(.ref 279),(.bool true),(.int 181 0),(.ref 280),.none,.none,.none,(.ref 281),(.int 576 0),(.int 193 0),(.str (.ofString "/claim/cut.py") 577)]),#[]⟩ .nil .nil) (.node ⟨(.type "super"),none,(.fields #[(.ref 407),(.ref 407),(.ref 407)]),#[]⟩ .nil .nil)) (.node ⟨(.type "code"),none,(.fields #[(.str (.ofString "coded") 478),(.str (.ofString "Cursor.coded") 479),(.str (.ofString "/claim/cut.py") 480),(.int 125 0),(.int 4 0),(.int 0 0),(.int 0 0),(.int 3 0),(.ref 213),(.bool true),(.int 181 0),(.ref 214),.none,(.ref 215),(.ref 216),(.ref 217),(.int 487 0),(.int 125 0),(.str (.ofString "/claim/cut.py") 488)]),#[]⟩ (.node ⟨(.type "function"),none,(.func ⟨(.ofString "whole"),(.ofString "LineReader.whole"),(prm (inAt 24 5)),(.stmts (bdy (inAt 24 5))),(scp (inAt 24 5)),3,[],.none,.none,.none,(.str (.ofString "grammarmill.lines") 541),none,(.ref 345),.none,0⟩),#[]⟩ .nil .nil) .nil)) (.node ⟨(.type "tuple"),none,(.seq #[(.str (.ofString "self") 375),(.str (.ofString "text") 376),(.str (.ofString "at") 377)] 0),#[]⟩ (.node ⟨.none,none,(.fields #[]),#[]⟩ (.node ⟨(.type "tuple"),none,(.seq #[(.str (.ofString "self") 618),(.str (.ofString "what") 619)] 0),#[]⟩ .nil .nil) (.node ⟨(.type "function"),none,(.func ⟨(.ofString "_law_read"),(.ofString "_law_read"),(prm (stAt 30)),(.stmts (bdy (stAt 30))),(scp (stAt 30)),3,[],.none,.none,.none,(.str (.ofString "law_sf0019_01") 742),none,(.ref 441),.none,0⟩),#[]⟩ .nil .nil)) (.node ⟨(.type "tuple"),none,(.seq #[(.str (.ofString "sign") 529),(.str (.ofString "marks") 530),(.str (.ofString "code") 531)] 0),#[]⟩ (.node ⟨.none,none,(.fields #[]),#[]⟩ .nil .nil) .nil))))) (.node ⟨(.type "frame"),none,.plain,#[(some (.ref 13)),(some (.ref 3)),(some (.ref 3)),none,(some (.str (.ofString "__main__") 164)),none,(some (.ref 0))]⟩ (.node ⟨(.type "tuple"),none,(.seq #[] 0),#[]⟩ (.node ⟨(.type "builtin_function_or_method"),none,(.fields #[(.builtin "type.__prepare__"),(.type "type")]),#[]⟩ (.node ⟨(.type "code"),none,(.fields #[(.str (.ofString "position_of") 293),(.str (.ofString "position_of") 294),(.str (.ofString "/claim/cut.py") 295),(.int 43 0),(.int 2 0),(.int 0 0),(.int 0 0),(.int 3 0),(.ref 65),(.bool true),(.int 181 0),(.ref 66),.none,(.ref 67),(.ref 68),(.ref 69),(.int 302 0),(.int 43 0),(.str (.ofString "/claim/cut.py") 303)]),#[]⟩ (.node ⟨(.type "tuple"),none,(.seq #[(.int 0 388)] 0),#[]⟩ (.node ⟨.none,none,(.func ⟨(.ofString "show_item"),(.ofString "show_item"),(prm (stAt 22)),(.stmts (bdy (stAt 22))),(scp (stAt 22)),0,[],.none,.none,.none,.none,none,.none,.none,0⟩),#[]⟩ .nil .nil) (.node ⟨(.type "function"),none,(.func ⟨(.ofString "texts"),(.ofString "LineReader.texts"),(prm (inAt 24 11)),(.stmts (bdy (inAt 24 11))),(scp (inAt 24 11)),3,[],.none,.none,.none,(.str (.ofString "grammarmill.lines") 541),none,(.ref 389),.none,0⟩),#[]⟩ .nil .nil)) (.node ⟨(.type "function"),none,(.func ⟨(.ofString "number"),(.ofString "Cursor.number"),(prm (inAt 15 10)),(.stmts (bdy (inAt 15 10))),(scp (inAt 15 10)),3,[],.none,.none,.none,(.str (.ofString "grammarmill.source") 220),none,(.ref 197),.none,0⟩),#[]⟩ (.node ⟨(.type "tuple"),none,(.seq #[] 0),#[]⟩ .nil .nil) .nil)) (.node ⟨(.type "dict"),none,(.dict #[⟨(PySem.PyData.keyHash P (.ofString "__module__")),(.str (.ofString "__module__") 350),(.str (.ofString "grammarmill.source") 220)⟩,⟨(PySem.PyData.keyHash P (.ofString "__qualname__")),(.str (.ofString "__qualname__") 352),(.str (.ofString "TableError") 351)⟩,⟨(PySem.PyData.keyHash P (.ofString "__firstlineno__")),(.str (.ofString "__firstlineno__") 354),(.int 63 353)⟩,⟨(PySem.PyData.keyHash P (.ofString "__static_attributes__")),(.str (.ofString "__static_attributes__") 355),(.ref 107)⟩] 4),#[]⟩ (.node ⟨(.type "tuple"),none,(.seq #[] 0),#[]⟩ (.node ⟨(.type "getset_descriptor"),none,(.fields #[(.str (.ofString "__dict__") 588),(.ref 293),(.builtin "function.__dict__"),(.builtin "function.__dict__#set")]),#[]⟩ .nil .nil) (.node ⟨(.type "code"),none,(.fields #[(.str (.ofString "_law_sip") 750),(.str (.ofString "_law_sip") 751),(.str (.ofString "/claim/cut.py") 752),(.int 291 0),(.int 2 0),(.int 0 0),(.int 0 0),(.int 3 0),(.ref 417),(.bool true),(.int 181 0),(.ref 418),.none,(.ref 419),(.ref 420),(.ref 421),(.int 758 0),(.int 291 0),(.str (.ofString "/claim/cut.py") 759)]),#[]⟩ .nil .nil)) (.node ⟨(.type "tuple"),none,(.seq #[] 0),#[]⟩ (.node ⟨(.type "tuple"),none,(.seq #[] 0),#[]⟩ .nil .nil) .nil))) (.node ⟨(.type "tuple"),none,(.seq #[] 0),#[]⟩ (.node ⟨(.type "function"),none,(.func ⟨(.ofString "__init__"),(.ofString "ToolError.__init__"),(prm (inAt 13 0)),(.stmts (bdy (inAt 13 0))),(scp (inAt 13 0)),3,[],(.ref 79),.none,.none,(.str (.ofString "grammarmill.source") 220),none,(.ref 85),.none,0⟩),#[]⟩ (.node ⟨.none,none,(.fields #[]),#[]⟩ (.node ⟨(.type "function"),none,(.func ⟨(.ofString "__init__"),(.ofString "LineWriter.__init__"),(prm (inAt 23 0)),(.stmts (bdy (inAt 23 0))),(scp (inAt 23 0)),3,[],.none,.none,.none,(.str (.ofString "grammarmill.lines") 541),none,(.ref 277),.none,0⟩),#[]⟩ .nil .nil) (.node ⟨(.type "dict"),none,(.dict #[⟨(PySem.PyData.keyHash P (.ofString "__module__")),(.str (.ofString "__module__") 602),(.str (.ofString "grammarmill.lines") 541)⟩,⟨(PySem.PyData.keyHash P (.ofString "__firstlineno__")),(.str (.ofString "__firstlineno__") 606),(.int 198 605)⟩,⟨(PySem.PyData.keyHash P (.ofString "__init__")),(.str (.ofString "__init__") 614),(.ref 311)⟩,⟨(PySem.PyData.keyHash P (.ofString "fail")),(.str (.ofString "fail") 622),(.ref 318)⟩,⟨(PySem.PyData.keyHash P (.ofString "need")),(.str (.ofString "need") 630),(.ref 325)⟩,⟨(PySem.PyData.keyHash P (.ofString "head")),(.str (.ofString "head") 638),(.ref 332)⟩,⟨(PySem.PyData.keyHash P (.ofString "end_line")),(.str (.ofString "end_line") 645),(.ref 339)⟩,⟨(PySem.PyData.keyHash P (.ofString "whole")),(.str (.ofString "whole") 654),(.ref 346)⟩,⟨(PySem.PyData.keyHash P (.ofString "item")),(.str (.ofString "item") 664),(.ref 354)⟩,⟨(PySem.PyData.keyHash P (.ofString "bracket")),(.str (.ofString "bracket") 673),(.ref 361)⟩,⟨(PySem.PyData.keyHash P (.ofString "items")),(.str (.ofString "items") 684),(.ref 368)⟩,⟨(PySem.PyData.keyHash P (.ofString "numbers")),(.str (.ofString "numbers") 698),(.ref 376)⟩,⟨(PySem.PyData.keyHash P (.ofString "one")),(.str (.ofString "one") 708),(.ref 383)⟩,⟨(PySem.PyData.keyHash P (.ofString "texts")),(.str (.ofString "texts") 716),(.ref 390)⟩,⟨(PySem.PyData.keyHash P (.ofString "finish")),(.str (.ofString "finish") 723),(.ref 397)⟩,⟨(PySem.PyData.keyHash P (.ofString "need_same")),(.str (.ofString "need_same") 731),(.ref 404)⟩,⟨(PySem.PyData.keyHash P (.ofString "__static_attributes__")),(.str (.ofString "__static_attributes__") 734),(.ref 405)⟩,⟨(PySem.PyData.keyHash P (.ofString "__dict__")),(.str (.ofString "__dict__") 736),(.ref 408)⟩,⟨(PySem.PyData.keyHash P (.ofString "__weakref__")),(.str (.ofString "__weakref__") 738),(.ref 409)⟩,⟨(PySem.PyData.keyHash P (.ofString "__doc__")),(.str (.ofString "__doc__") 739),.none⟩] 4),#[]⟩ .nil .nil)) (.node ⟨.none,none,(.fields #[]),#[]⟩ (.node ⟨(.type "tuple"),none,(.seq #[(.str (.ofString "self") 649),(.str (.ofString "sign") 650),(.str (.ofString "figures") 651)] 0),#[]⟩ .nil .nil) .nil)) (.node ⟨(.type "frame"),none,.plain,#[(some (.ref 117)),(some (.ref 3)),(some (.ref 114)),none,(some (.str (.ofString "grammarmill.source") 220)),none,(some (.ref 0))]⟩ (.node ⟨.none,none,(.func ⟨(.ofString "skip_blanks"),(.ofString "Cursor.skip_blanks"),(prm (inAt 15 8)),(.stmts (bdy (inAt 15 8))),(scp (inAt 15 8)),0,[],.none,.none,.none,.none,none,.none,.none,0⟩),#[]⟩ (.node ⟨(.type "code"),none,(.fields #[(.str (.ofString "__init__") 607),(.str (.ofString "LineReader.__init__") 608),(.str (.ofString "/claim/cut.py") 609),(.int 200 0),(.int 2 0),(.int 0 0),(.int 0 0),(.int 3 0),(.ref 305),(.bool true),(.int 181 0),(.ref 306),.none,(.ref 307),(.ref 308),(.ref 309),(.int 612 0),(.int 200 0),(.str (.ofString "/claim/cut.py") 613)]),#[]⟩ .nil .nil) (.node ⟨(.type "tuple"),none,(.seq #[(.str (.ofString "line") 777),(.str (.ofString "many") 778),(.str (.ofString "reader") 779),(.str (.ofString "given") 780)] 0),#[]⟩ .nil .nil)) (.node ⟨(.type "code"),none,(.fields #[(.str (.ofString "hex_escape") 518),(.str (.ofString "hex_escape") 519),(.str (.ofString "/claim/cut.py") 520),(.int 159 0),(.int 1 0),(.int 0 0),(.int 0 0),(.int 3 0),(.ref 241),(.bool true),(.int 181 0),(.ref 242),.none,(.ref 243),(.ref 244),(.ref 245),(.int 523 0),(.int 159 0),(.str (.ofString "/claim/cut.py") 524)]),#[]⟩ (.node ⟨.none,none,(.func ⟨(.ofString "numbers"),(.ofString "LineReader.numbers"),(prm (inAt 24 9)),(.stmts (bdy (inAt 24 9))),(scp (inAt 24 9)),0,[],.none,.none,.none,.none,none,.none,.none,0⟩),#[]⟩ .nil .nil) .nil)))) (.node ⟨.none,none,(.fields #[]),#[]⟩ (.node ⟨(.type "tuple"),none,(.seq #[(.str (.ofString "self") 268),(.str (.ofString "offset") 269),(.str (.ofString "line") 270),(.str (.ofString "column") 271)] 0),#[]⟩ (.node ⟨(.type "frame"),none,.plain,#[(some (.ref 77)),(some (.ref 3)),(some (.ref 74)),none,(some (.str (.ofString "grammarmill.source") 220)),none,(some (.ref 0))]⟩ (.node ⟨(.type "tuple"),none,(.seq #[] 0),#[]⟩ (.node ⟨(.type "code"),none,(.fields #[(.str (.ofString "LineWriter") 555),(.str (.ofString "LineWriter") 556),(.str (.ofString "/claim/cut.py") 557),(.int 188 0),(.int 0 0),(.int 0 0),(.int 0 0),(.int 0 0),(.ref 268),(.bool false),(.int 181 0),(.ref 269),.none,.none,.none,.none,(.int 558 0),(.int 188 0),(.str (.ofString "/claim/cut.py") 559)]),#[]⟩ .nil .nil) (.node ⟨(.type "tuple"),none,(.seq #[] 0),#[]⟩ .nil .nil)) (.node ⟨(.type "tuple"),none,(.seq #[] 0),#[]⟩ (.node ⟨.none,none,(.fields #[]),#[]⟩ .nil .nil) .nil)) (.node ⟨(.type "super"),none,(.fields #[(.ref 109),(.ref 109),(.ref 109)]),#[]⟩ (.node ⟨.none,none,(.func ⟨(.ofString "take_line"),(.ofString "Cursor.take_line"),(prm (inAt 15 7)),(.stmts (bdy (inAt 15 7))),(scp (inAt 15 7)),0,[],.none,.none,.none,.none,none,.none,.none,0⟩),#[]⟩ (.node ⟨.none,none,(.fields #[(.int 200 0),(.int 4 0),(.ref 310),(.int 204 0),(.int 4 0),(.ref 317),(.int 207 0),(.int 4 0),(.ref 324),(.int 211 0),(.int 4 0),(.ref 331),(.int 215 0),(.int 4 0),(.ref 338),(.int 219 0),(.int 4 0),(.ref 345),(.int 226 0),(.int 4 0),(.ref 353),(.int 239 0),(.int 4 0),(.ref 360),(.int 251 0),(.int 4 0),(.ref 367),(.int 262 0),(.int 4 0),(.ref 375),(.int 272 0),(.int 4 0),(.ref 382),(.int 275 0),(.int 4 0),(.ref 389),(.int 278 0),(.int 4 0),(.ref 396),(.int 286 0),(.int 4 0),(.ref 403)]),#[]⟩ .nil .nil) (.node ⟨.none,none,(.fields #[]),#[]⟩ .nil .nil)) (.node ⟨(.type "getset_descriptor"),none,(.fields #[(.str (.ofString "__weakref__") 513),(.ref 236),(.builtin "ExceptionGroup.__weakref__"),.none]),#[]⟩ (.node ⟨.none,none,(.func ⟨(.ofString "items"),(.ofString "LineReader.items"),(prm (inAt 24 8)),(.stmts (bdy (inAt 24 8))),(scp (inAt 24 8)),0,[],.none,.none,.none,.none,none,.none,.none,0⟩),#[]⟩ .nil .nil) .nil))) (.node ⟨(.type "getset_descriptor"),none,(.fields #[(.str (.ofString "__weakref__") 288),(.ref 60),(.builtin "ExceptionGroup.__weakref__"),.none]),#[]⟩ (.node ⟨(.type "tuple"),none,(.seq #[(.str (.ofString "at") 333),(.str (.ofString "what") 334)] 0),#[]⟩ (.node ⟨(.type "tuple"),none,(.seq #[(.str (.ofString "self") 417),(.str (.ofString "word") 418)] 0),#[]⟩ (.node ⟨(.type "tuple"),none,(.seq #[(.str (.ofString "self") 582)] 0),#[]⟩ .nil .nil) (.node ⟨.none,none,(.func ⟨(.ofString "_law_jug"),(.ofString "_law_jug"),(prm (stAt 26)),(.stmts (bdy (stAt 26))),(scp (stAt 26)),0,[],.none,.none,.none,.none,none,.none,.none,0⟩),#[]⟩ .nil .nil)) (.node ⟨(.type "tuple"),none,(.seq #[(.str (.ofString "self") 493),(.str (.ofString "sign") 494)] 0),#[]⟩ (.node ⟨(.type "tuple"),none,(.seq #[(.str (.ofString "self") 659),(.str (.ofString "depth") 660),(.str (.ofString "found") 661)] 0),#[]⟩ .nil .nil) .nil)) (.node ⟨(.type "function"),none,(.func ⟨(.ofString "__init__"),(.ofString "Cursor.__init__"),(prm (inAt 15 0)),(.stmts (bdy (inAt 15 0))),(scp (inAt 15 0)),3,[],(.ref 119),.none,.none,(.str (.ofString "grammarmill.source") 220),none,(.ref 125),.none,0⟩),#[]⟩ (.node ⟨(.type "code"),none,(.fields #[(.str (.ofString "name") 447),(.str (.ofString "Cursor.name") 448),(.str (.ofString "/claim/cut.py") 449),(.int 108 0),(.int 1 0),(.int 0 0),(.int 0 0),(.int 3 0),(.ref 185),(.bool true),(.int 181 0),(.ref 186),.none,(.ref 187),(.ref 188),(.ref 189),(.int 451 0),(.int 108 0),(.str (.ofString "/claim/cut.py") 452)]),#[]⟩ (.node ⟨(.type "function"),none,(.func ⟨(.ofString "fail"),(.ofString "LineReader.fail"),(prm (inAt 24 1)),(.stmts (bdy (inAt 24 1))),(scp (inAt 24 1)),3,[],.none,.none,.none,(.str (.ofString "grammarmill.lines") 541),none,(.ref 317),.none,0⟩),#[]⟩ .nil .nil) (.node ⟨(.type "code"),none,(.fields #[(.str (.ofString "law") 784),(.str (.ofString "law") 785),(.str (.ofString "/claim/cut.py") 786),(.int 317 0),(.int 1 0),(.int 0 0),(.int 0 0),(.int 3 0),(.ref 443),(.bool true),(.int 181 0),(.ref 444),.none,.none,.none,(.ref 445),(.int 787 0),(.int 317 0),(.str (.ofString "/claim/cut.py") 788)]),#[]⟩ .nil .nil)) (.node ⟨(.type "function"),none,(.func ⟨(.ofString "escaped_sign"),(.ofString "escaped_sign"),(prm (stAt 17)),(.stmts (bdy (stAt 17))),(scp (stAt 17)),3,[],.none,.none,.none,(.str (.ofString "grammarmill.source") 220),none,(.ref 253),.none,0⟩),#[]⟩ (.node ⟨(.type "code"),none,(.fields #[(.str (.ofString "one") 699),(.str (.ofString "LineReader.one") 700),(.str (.ofString "/claim/cut.py") 701),(.int 272 0),(.int 4 0),(.int 0 0),(.int 0 0),(.int 3 0),(.ref 377),(.bool true),(.int 181 0),(.ref 378),.none,(.ref 379),(.ref 380),(.ref 381),(.int 706 0),(.int 272 0),(.str (.ofString "/claim/cut.py") 707)]),#[]⟩ .nil .nil) .nil)))))))
noncomputable def finH (P : Params) : Heap := ⟨⟨finL P⟩, {}⟩
noncomputable abbrev posM : Pos := ⟨317, 0, 333, 58⟩
noncomputable abbrev stM (w : World) (os : OsState) : SharedT := ⟨finT w.params, 448, {}, #[], {}, 790, os⟩
noncomputable abbrev stF (w : World) (os : OsState) : Shared := ⟨finH w.params, #[], {}, 790, os⟩
noncomputable abbrev looks0 (w : World) (s : Shared) := (staticsOk (importedModules pE.main.body) (boot_heap w.params) s.heap && namesBound pE s.heap && gensDone s && laidKept (boot_heap w.params) s.heap,
  openSeen hd.view_39 lo0 (importedModules pE.main.body) xt0 true s, hook0.obs s)
noncomputable def walkA (w : World) (os : OsState) := PySem.W.Fast.tw10110043849684766642 PySem.W.Fast.tw14364793385576792824 pE w 11 ann0 1 4000 (stB w os) (piecesOf bE envE cE q0 fr0)
theorem walkA_eq (w : World) (os : OsState) : walkA w os = segRunT treeTable pE w 11 ann0 1 4000 (stB w os) (piecesOf bE envE cE q0 fr0) := by
  unfold walkA
  rw [← PySem.W.Fast.te10110043849684766642, ← PySem.W.Fast.te14364793385576792824]
theorem all_f (w : World) : (fun os => walkA (w.withFollow "special-get-raises" false) os) = fun os => some (.next, stM (w.withFollow "special-get-raises" false) os, cE, posM) := by kernel_rfl
theorem all_t (w : World) : (fun os => walkA (w.withFollow "special-get-raises" true) os) = fun os => some (.next, stM (w.withFollow "special-get-raises" true) os, cE, posM) := by kernel_rfl
theorem all_w : ∀ w : World, (fun os => walkA w os) = fun os => some (.next, stM w os, cE, posM) := byRow2 "special-get-raises" all_f all_t
theorem fin_w (w : World) : (fun os => topRun treeTable pE w 11 ann0 9 (stM w os).abs ⟨doneF .next, cE, posM, fr0⟩) = fun os => some (stF w os) := by kernel_rfl
theorem looks_w (w : World) : (fun os => looks0 w (stF w os)) = fun _ => (true, openGood hd.view_39 lo0, hook0.val w) := by kernel_rfl
theorem run_w (w : World) (os : OsState) : ∃ s, topRun treeTable pE w 11 ann0 (12 + (1 + (4000 + 9))) ⟨boot_heap w.params, ⟨[]⟩, boot_drawn, boot_toks, os⟩ (topStub pE) = some s ∧ looks0 w s = (true, openGood hd.view_39 lo0, hook0.val w) := by
  refine ⟨stF w os, go_top (congrFun (pre_w w) os) (piece_block (congrFun (block_w w) os) ?_), congrFun (looks_w w) os⟩
  have k := piece_app (rest := []) (segRun_of ((walkA_eq w os).symm.trans (congrFun (all_w w) os))) (piece_nil (congrFun (fin_w w) os))
  rw [List.append_nil] at k
  exact k
theorem said_q : PySem.W.Fast.tw9446332074065402090 PySem.Challenge.rw_sf0019_01 = true := by kernel_rfl
theorem said_w : PySem.W.OpenLaw.wellSaid PySem.Challenge.rw_sf0019_01 = true := by
  rw [PySem.W.Fast.te9446332074065402090]
  exact said_q
theorem left_w : LeftO pE hd.view_39 lo0 xt0 hook0.obs hook0.val 6162 := left_run open_w size_w (by decide) run_w
example : (fun (_ : OpenLaw) (_ : Params → Frag) => True) PySem.Challenge.rw_sf0019_01 hd.heap_39 := by
  k_fill
  trivial
example : True := by
  w_top off
  k_with_none
  trivial
/-- the text T stands at p, and suf lies ahead -/
def At (T : Str) (p : Nat) (suf : List Nat) : Prop := p ≤ T.length ∧ T.cps.toList.drop p = suf
theorem At.le {T : Str} {p : Nat} {suf : List Nat} (h : At T p suf) : p ≤ T.length := h.1
theorem At.len {T : Str} {p : Nat} {suf : List Nat} (h : At T p suf) : p + suf.length = T.length := by
  have h1 := h.1
  rw [← h.2, List.length_drop]
  have : T.cps.toList.length = T.length := Array.length_toList
  omega
theorem At.app {T : Str} {p : Nat} {a suf : List Nat} (h : At T p (a ++ suf)) : At T (p + a.length) suf := by
  refine ⟨?_, ?_⟩
  · have := h.len; rw [List.length_append] at this; omega
  · rw [← List.drop_drop, h.2, List.drop_left]
theorem At.cons {T : Str} {p : Nat} {c : Nat} {suf : List Nat} (h : At T p (c :: suf)) : At T (p + 1) suf := At.app (a := [c]) h
theorem At.start (T : Str) : At T 0 T.cps.toList := ⟨Nat.zero_le _, rfl⟩
theorem At.sub {T : Str} {p : Nat} {suf : List Nat} (h : At T p suf) (k : Nat) (hk : k ≤ suf.length) : p + k ≤ T.length := by have := h.len; omega
theorem str_beq (x y : Str) : (x == y) = decide (x.cps.toList = y.cps.toList) := by
  rw [Bool.eq_iff_iff, beq_iff_eq, decide_eq_true_eq]
  constructor
  · intro h; rw [h]
  · intro h; exact Str.ext' (Array.ext' h)
theorem slice_at {T : Str} {p k : Nat} (h : p + k ≤ T.length) : Txt.slice T (some (p : Int)) (some ((p : Int) + (k : Int))) = ⟨((T.cps.toList.drop p).take k).toArray⟩ := by
  have e := StrLaws.sliceText_nat T (a := p) (b := p + k) (Nat.le_add_right _ _) h
  rw [Nat.add_sub_cancel_left] at e
  exact e
theorem slice_at2 {T : Str} {p q : Nat} (h1 : p ≤ q) (h : q ≤ T.length) : Txt.slice T (some (p : Int)) (some (q : Int)) = ⟨((T.cps.toList.drop p).take (q - p)).toArray⟩ :=
  StrLaws.sliceText_nat T (a := p) (b := q) h1 h
theorem item_at {T : Str} {p c : Nat} {suf : List Nat} (h : At T p (c :: suf)) : Txt.item T (p : Int) = ⟨#[c]⟩ := by
  have hl := h.len
  rw [List.length_cons] at hl
  rw [item_meets ⟨by omega, by omega⟩]
  have e : T.cps.getD p 0 = c := by
    have h2 := congrArg (fun l => l[0]?) h.2
    simp only [List.getElem?_drop, Nat.add_zero, List.getElem?_cons_zero] at h2
    rw [Array.getD_eq_getD_getElem?, ← Array.getElem?_toList, h2]; rfl
  rw [show ((p : Int)).toNat = p from Int.toNat_natCast p, e]

example : True := by
  w_top off
  k_with_none
  trivial
def CallOk (w : World) (mean : ExcName → Option Value) (mg mb : Str → Option Value) (nd nu : Nat) (f : Value) (vs : List Value) (news : List (Addr × Obj)) (K : (Value → List (Addr × Obj) → Prop) → Prop) (KR : (List (Addr × Obj) → Prop) → Prop) : Prop :=
  ∀ (dp un : Nat) (gd : Option (List Code)) (cn : Str) (cs : Scope) (a : Addr) (ccd : Value) (cl : List (Str × Addr)) (outer : List Env) (A₀ : Around) (base h₀ : Heap) (L : Addr) (m : Str → Option Value) (s : Shared) (Q E : Value → Shared → Prop),
    Below A₀ base outer h₀ → Fr h₀ L s.heap m → (hd.heap_39 w.params).In h₀ → News h₀ L s.heap news → Top hd.view_39 (looseW hd.view_39 ["HEX_SIGNS", "PLAIN_ESCAPES", "ToolError"]) mean mg mb h₀ → cs.kind = .function → dp + nd < recursionLimit → un + nu < cLine →
    K (fun r news' => ∀ h' tk', Fr h₀ L h' m → News h₀ L h' news' → Q r { s with heap := h', toks := tk' }) →
    KR (fun newsR => ∀ e t vs' h' tk' G, Fr h₀ L G m → RaisedS base G (envX cn cs L a ccd cl :: outer) e (.ref 109) t vs' newsR h' → G.UpToSlots h' → E (.ref e) { s with heap := h', toks := tk' }) →
    wpAny (model PySem.Challenge.rw_sf0019_01.row.prog w) (ktrTop dp un gd cn cs L a ccd cl outer) (call f vs) Q E s

theorem CallOk.use {w : World} {mean : ExcName → Option Value} {mg mb : Str → Option Value} {nd nu : Nat} {f : Value} {vs : List Value} {news : List (Addr × Obj)} {K : (Value → List (Addr × Obj) → Prop) → Prop} {KR : (List (Addr × Obj) → Prop) → Prop}
    {dp un : Nat} {gd : Option (List Code)} {cn : Str} {cs : Scope} {a : Addr} {ccd : Value} {cl : List (Str × Addr)} {outer : List Env} {A₀ : Around} {base h₀ : Heap} {L : Addr} {m : Str → Option Value} {s : Shared} {Q E : Value → Shared → Prop}
    (F : Fr h₀ L s.heap m) (N : News h₀ L s.heap news) (C : CallOk w mean mg mb nd nu f vs news K KR)
    (B : Below A₀ base outer h₀) (X : (hd.heap_39 w.params).In h₀) (T : Top hd.view_39 (looseW hd.view_39 ["HEX_SIGNS", "PLAIN_ESCAPES", "ToolError"]) mean mg mb h₀) (hk : cs.kind = .function) (hd : dp + nd < recursionLimit) (hu : un + nu < cLine)
    (ret : K (fun r news' => ∀ h' tk', Fr h₀ L h' m → News h₀ L h' news' → Q r { s with heap := h', toks := tk' }))
    (rse : KR (fun newsR => ∀ e t vs' h' tk' G, Fr h₀ L G m → RaisedS base G (envX cn cs L a ccd cl :: outer) e (.ref 109) t vs' newsR h' → G.UpToSlots h' → E (.ref e) { s with heap := h', toks := tk' })) :
    wpAny (model PySem.Challenge.rw_sf0019_01.row.prog w) (ktrTop dp un gd cn cs L a ccd cl outer) (call f vs) Q E s :=
  C dp un gd cn cs a ccd cl outer A₀ base h₀ L m s Q E B F X N T hk hd hu ret rse

theorem CallOk.go {w : World} {mean : ExcName → Option Value} {mg mb : Str → Option Value} {nd nu : Nat} {f : Value} {vs : List Value} {news : List (Addr × Obj)} {K : (Value → List (Addr × Obj) → Prop) → Prop} {KR : (List (Addr × Obj) → Prop) → Prop}
    {dp un : Nat} {gd : Option (List Code)} {cn : Str} {cs : Scope} {a : Addr} {ccd : Value} {cl : List (Str × Addr)} {outer : List Env} {A₀ : Around} {base h₀ : Heap} {L : Addr} {m : Str → Option Value} {s : Shared} {Q E : Value → Shared → Prop}
    (F : Fr h₀ L s.heap m := by k_asm) (N : News h₀ L s.heap news := by walk_at "m.news2") (C : CallOk w mean mg mb nd nu f vs news K KR)
    (B : Below A₀ base outer h₀ := by k_asm) (X : (hd.heap_39 w.params).In h₀ := by k_asm) (T : Top hd.view_39 (looseW hd.view_39 ["HEX_SIGNS", "PLAIN_ESCAPES", "ToolError"]) mean mg mb h₀ := by k_asm) (hk : cs.kind = .function := by first | exact rfl | assumption) (hd : dp + nd < recursionLimit := by walk_at "m.room") (hu : un + nu < cLine := by walk_at "m.units")
    (ret : K (fun r news' => ∀ h' tk', Fr h₀ L h' m → News h₀ L h' news' → Q r { s with heap := h', toks := tk' }))
    (rse : KR (fun newsR => ∀ e t vs' h' tk' G, Fr h₀ L G m → RaisedS base G (envX cn cs L a ccd cl :: outer) e (.ref 109) t vs' newsR h' → G.UpToSlots h' → E (.ref e) { s with heap := h', toks := tk' }) := by exact trivial) :
    wpAny (model PySem.Challenge.rw_sf0019_01.row.prog w) (ktrTop dp un gd cn cs L a ccd cl outer) (call f vs) Q E s :=
  C dp un gd cn cs a ccd cl outer A₀ base h₀ L m s Q E B F X N T hk hd hu ret rse
theorem enter1 {prog : Program} {w : World} {A A₀ : Around} {base h₀ : Heap} {s : Shared} {K : Frag} {L : Addr} {m : Str → Option Value} {news : List (Addr × Obj)} {p : Program} {loose : List Str} {mean : ExcName → Option Value} {mg mb : Str → Option Value}
    {env : Env} {outer : List Env} {R : Result → Shared → Prop} {name qual : Str} {params : Arguments} {body : List Stmt} {scope : Scope} {dV kV doc pm cdv ct oc : Value} {an od : Option Addr} {osl : Array (Option Value)} {f : Addr} {args : Args} {binds : List (Str × Value)}
    (hA : A.frames = some (env :: outer) := by exact rfl) (hf : env.frame = some L := by exact rfl) (hke : env.scope.kind = .function := by assumption) (B : Below A₀ base outer h₀ := by k_asm) (F : Fr h₀ L s.heap m := by k_asm) (X₀ : K.In h₀ := by k_asm) (N : News h₀ L s.heap news := by k_asm) (T : Top p loose mean mg mb h₀ := by k_asm)
    (ho : K.lookup f = some ⟨oc, od, .func (fnOf name qual params body scope dV kV doc pm an cdv ct), osl⟩ := by k_is) (hcd : codeIn K cdv qual = true := by k_is) (hroom : A.depth < recursionLimit := by walk_at "m.room")
    (hbind : BindsTo s (fnOf name qual params body scope dV kV doc pm an cdv ct) args binds := by first | exact BindsTo.of_eq rfl | exact binds_K (by k_in) rfl (by k_is) rfl rfl rfl) (hcell : ∀ x ∈ scope.names, x.2 ≠ .cell := by decide) (hloc : ∀ y ∈ binds, scope.names.lookup y.1 = some .local := by exact locs rfl)
    (hco : scope.isCoroutine = false := by exact rfl) (hgen : scope.isGenerator = false := by exact rfl) (hk : scope.kind = .function := by exact rfl)
    (h : ∀ g L' h₁, Fr h₀ L g m → Fr g L' h₁ (fun y => binds.reverse.lookup y) → News g L' h₁ news → Below A base (env :: outer) g → K.In g → Top p loose mean mg mb g →
      wpAny (model prog w) (A.deeper (envOf qual scope L' f cdv)) (execs body (envOf qual scope L' f cdv))
        (fun fl s' => LeaveK h₀ L m g R (match fl with | .ret v => v | _ => .none) s')
        (fun e s' => wpAny (model prog w) (A.deeper (envOf qual scope L' f cdv)) (leaving (envOf qual scope L' f cdv) e) (fun _ s'' => R (.error e) s'') (fun e' s'' => R (.error e') s'') s')
        { s with heap := h₁, toks := s.toks + binds.length }) : codeAny (model prog w) A (.call (.ref f) args) R s :=
  code_def B F X₀ N T hA hf hke ho hcd hroom hbind hloc h hco hgen hk hcell
theorem lt_lim {a b c n : Nat} (h : a + n < c) (l : b ≤ n) : a + b < c := Nat.lt_of_le_of_lt (Nat.add_le_add_left l a) h

inductive Pick (q : Addr × Obj) : List (Addr × Obj) → List (Addr × Obj) → Prop
  | head {r} : Pick q (q :: r) r
  | tail {p r r'} : Pick q r r' → Pick q (p :: r) (p :: r')
theorem Pick.news {h₀ h : Heap} {L : Addr} {q : Addr × Obj} {l r : List (Addr × Obj)} (N : News h₀ L h l) (P : Pick q l r) : News h₀ L h (q :: r) := by
  induction P with
  | head => exact N
  | tail _ ih =>
    intro z hz
    have ih' := ih fun z hz => N z (.tail _ hz)
    rcases List.mem_cons.mp hz with rfl | hz
    · exact ih' _ (.head _)
    · rcases List.mem_cons.mp hz with rfl | hz
      · exact N _ (.head _)
      · exact ih' _ (.tail _ hz)
theorem news_push {h₀ h : Heap} {L : Addr} {q : Addr × Obj} {l r : List (Addr × Obj)} (N : News h₀ L h l) (P : Pick q l r) (N' : News h₀ L h r) : News h₀ L h (q :: r) := P.news N
theorem news_pick1 {h₀ h : Heap} {L : Addr} {q : Addr × Obj} {l r : List (Addr × Obj)} (N : News h₀ L h l) (P : Pick q l r) : News h₀ L h (q :: r) := P.news N
theorem news_pick2 {h₀ h : Heap} {L : Addr} {q1 q2 : Addr × Obj} {l l1 r : List (Addr × Obj)} (N : News h₀ L h l) (P2 : Pick q2 l l1) (P1 : Pick q1 l1 r) : News h₀ L h (q1 :: q2 :: r) := by
  have a := P1.news (l := l1) fun z hz => P2.news N z (.tail _ hz)
  intro z hz
  rcases List.mem_cons.mp hz with rfl | hz
  · exact a _ (.head _)
  · rcases List.mem_cons.mp hz with rfl | hz
    · exact P2.news N _ (.head _)
    · exact a _ (.tail _ hz)

theorem news_sub {h₀ h : Heap} {L : Addr} {l l' : List (Addr × Obj)} (N : News h₀ L h l) (hs : ∀ q ∈ l', q ∈ l) : News h₀ L h l' := fun q hq => N q (hs q hq)
theorem sub_cons {α : Type} {r l : List α} {p : α} (h : ∀ q ∈ r, q ∈ l) : ∀ q ∈ r, q ∈ p :: l := fun q hq => .tail _ (h q hq)
theorem sub_left {α : Type} {r l l' : List α} (h : ∀ q ∈ r, q ∈ l) : ∀ q ∈ r, q ∈ l ++ l' := fun q hq => List.mem_append.mpr (.inl (h q hq))
theorem sub_right {α : Type} {r l l' : List α} (h : ∀ q ∈ r, q ∈ l) : ∀ q ∈ r, q ∈ l' ++ l := fun q hq => List.mem_append.mpr (.inr (h q hq))
theorem sub_of_append {α : Type} {r r' l : List α} (h : ∀ q ∈ r, q ∈ l) (h' : ∀ q ∈ r', q ∈ l) : ∀ q ∈ r ++ r', q ∈ l := fun q hq => (List.mem_append.mp hq).elim (h q) (h' q)
noncomputable abbrev curD (h1 h2 : Int) (k1 k2 t1 t2 : Tok) (T : Str) (p : Nat) : Obj := dictOf [⟨h1, .str (Str.ofString "text") k1, .str T t1⟩, ⟨h2, .str (Str.ofString "at") k2, .int (p : Int) t2⟩] 2

-- texts
local macro_rules | `(tactic| walk_at "call builtin:len") => `(tactic| (k_here; (with_reducible show wpAny _ _ (call (Value.builtin "len") [Value.str _ _]) _ _ _); (refine P.len_str (by omega) ?_)))
local macro_rules | `(tactic| walk_at "subscriptTail") => `(tactic| (k_here; (with_reducible show wpAny _ _ (subscriptTail _ (Expr.Slice (some _) (some _) none _) (Value.str _ _) (Value.ref _)) _ _ _); (with_reducible rename Fr _ _ _ _ => F'); (with_reducible rename News _ _ _ _ => N'); (refine slice_strN_ss (hsz := ?hsz) (s := ⟨_, _, _, _, _⟩) F' N' ?_); (case hsz => (rw [sizeLine_eq]; omega)); intro _ _ _ _ _))
-- the ledger
local macro_rules | `(tactic| walk_at "m.pick") => `(tactic| first | with_reducible exact Pick.head | (refine' Pick.tail ?pkz; (case pkz => walk_at "m.pick")))
local macro_rules | `(tactic| k_all) => `(tactic| with_reducible assumption)
local macro_rules | `(tactic| walk_at "m.news2") => `(tactic| (refine' news_pick2 ?N ?P2 ?P1; (case N => k_asm); (case P2 => walk_at "m.pick"); (case P1 => walk_at "m.pick")))
local macro_rules | `(tactic| walk_at "m.room") => `(tactic| ((try simp only [depth_mark, depth_under_make, depth_under_kw, depth_in1, depth_deeper, depth_caller, ktrTop, recursionLimit] at *); omega))
local macro_rules | `(tactic| walk_at "m.room") => `(tactic| ((try simp only [depth_mark, depth_under_make, depth_under_kw, depth_in1, depth_deeper, depth_caller, ktrTop, Nat.add_assoc, Nat.reduceAdd]); exact lt_lim (by with_reducible assumption) (by decide)))
local macro_rules | `(tactic| walk_at "m.units") => `(tactic| ((have hcL9 := cLine_is); (try simp only [units_in1, units_deeper, Around.mark_units, units_caller, ktrTop] at *); omega))
local macro_rules | `(tactic| walk_at "m.units") => `(tactic| ((try simp only [units_in1, units_deeper, Around.mark_units, units_caller, ktrTop, Nat.add_assoc, Nat.reduceAdd]); exact lt_lim (by with_reducible assumption) (by decide)))

local macro_rules | `(tactic| k_room) => `(tactic| walk_at "m.room")
local macro_rules | `(tactic| k_units) => `(tactic| walk_at "m.units")
local macro_rules | `(tactic| walk_at "m.enter") => `(tactic| (refine wpAny_call ?_; k_dflt (refine enter1 (h := ?_); k_whole; intro _ _ _ _ _ _ _ _ _; (try dsimp only); (try k_fold))))
local macro_rules | `(tactic| walk_at "m.mem") => `(tactic| first | exact List.Mem.head _ | (refine' List.Mem.tail _ ?mmz; (case mmz => walk_at "m.mem")) | (refine' List.mem_append.mpr (Or.inl ?mmz); (case mmz => walk_at "m.mem")) | (refine' List.mem_append.mpr (Or.inr ?mmz); (case mmz => walk_at "m.mem")))
local macro_rules | `(tactic| walk_at "m.tail") => `(tactic| first | exact fun _ h => h | (refine' sub_cons ?mtz; (case mtz => walk_at "m.tail")) | (refine' sub_left ?mtz; (case mtz => walk_at "m.tail")) | (refine' sub_right ?mtz; (case mtz => walk_at "m.tail")))
local macro_rules | `(tactic| walk_at "m.all") => `(tactic| first | exact List.forall_mem_nil _ | (refine' List.forall_mem_cons.mpr ⟨?ma, ?mb⟩; (case ma => walk_at "m.mem"); (case mb => walk_at "m.all")) | (refine' sub_of_append ?ma ?mb; (case ma => walk_at "m.all"); (case mb => walk_at "m.all")) | walk_at "m.tail")
local macro_rules | `(tactic| walk_at "m.sub") => `(tactic| (refine' news_sub ?kN ?sub; (case kN => assumption); (case sub => walk_at "m.all")))
local macro_rules | `(tactic| walk_at "m.om") => `(tactic| first | with_reducible assumption | omega)
local macro_rules | `(tactic| walk_at "m.len") => `(tactic| ((with_reducible rename At _ _ _ => a9); (have l9 := At.len a9); (try simp only [List.length_append, List.length_cons, List.length_nil] at l9); (try k_sweep)))
local macro_rules | `(tactic| k_ne) => `(tactic| ((try dsimp only); with_reducible first | exact Nat.ne_of_gt (by assumption) | exact Nat.ne_of_lt (by assumption) | assumption))
local macro_rules | `(tactic| walk_at "m.end") => `(tactic| ((try dsimp only); intros; walk_at "m.len"))
local macro_rules | `(tactic| walk_at "m.fin") => `(tactic| ((try dsimp only); intros; (try k_sweep)))

example : True := by
  w_top off
  k_with_none
  trivial
/-- a goal that the walk leaves alone -/
structure Hold (P : Prop) : Prop where
  out : P
section
variable {prog : Program} {w : World} {A : Around} {E : Value → Shared → Prop} {s : Shared} {env : Env} {test : PySem.Expr} {body orelse : List Stmt} {Q : Flow → Shared → Prop} {h₀ : Heap} {L : Addr}
/-- the end of a turn of a while: the state goes on, lowered, or the loop is left -/
def WhEnd {σ : Type} (h₀ : Heap) (L : Addr) (mp : σ → Str → Option Value) (led : σ → List (Addr × Obj)) (μ : σ → Nat) (I : σ → Prop) (s : Shared) (Q : Flow → Shared → Prop) (x : σ) (f : Flow) (s₃ : Shared) : Prop :=
  match f with
  | .brk => Q .next s₃
  | .ret v => Q (.ret v) s₃
  | _ => ∃ x' h' tk', I x' ∧ μ x' < μ x ∧ s₃ = { s with heap := h', toks := tk' } ∧ Fr h₀ L h' (mp x') ∧ News h₀ L h' (led x')
theorem while_led {σ : Type} (mp : σ → Str → Option Value) (led : σ → List (Addr × Obj)) (μ : σ → Nat) (I : σ → Prop) (x₀ : σ) {pos : Pos}
    (F : Fr h₀ L s.heap (mp x₀)) (N : News h₀ L s.heap (led x₀)) (hI : I x₀) (hE : PassesOwn (model prog w) A env E)
    (step : Hold (∀ x h tk, I x → Fr h₀ L h (mp x) → News h₀ L h (led x) →
      wpAny (model prog w) A (isTrue test env (eval test env)) (fun b s₂ => WhlIf b (wpAny (model prog w) A (execs body env) (WhEnd h₀ L mp led μ I s Q x) E s₂) (wpAny (model prog w) A (execs orelse env) Q E s₂)) E { s with heap := h, toks := tk })) :
    wpAny (model prog w) A (exec (.While test body orelse pos) env) Q E s := by
  have all : ∀ n x h tk, μ x < n → I x → Fr h₀ L h (mp x) → News h₀ L h (led x) → WhlRest prog w A E env test body orelse Q n { s with heap := h, toks := tk } := by
    intro n
    induction n with
    | zero => intro x h tk hm; exact absurd hm (Nat.not_lt_zero _)
    | succ n ih =>
      intro x h tk hm hi F N
      refine whl_turn hE (wpAny_mono (step.out x h tk hi F N) (fun b s₂ hb => ?_) fun _ _ e => e)
      cases b with
      | false => exact WhlIf.no rfl (by have := hb; unfold WhlIf at this; rw [if_neg Bool.false_ne_true] at this; exact this)
      | true =>
        refine WhlIf.yes rfl (wpAny_mono (Q := WhEnd h₀ L mp led μ I s Q x) (by have := hb; unfold WhlIf at this; rw [if_pos rfl] at this; exact this) (fun f s₃ hf => ?_) fun _ _ e => e)
        cases f with
        | brk => exact hf
        | ret v => exact hf
        | next =>
          obtain ⟨x', h', tk', hi', hm', rfl, F', N'⟩ := hf
          exact ih x' h' tk' (by omega) hi' F' N'
        | cont =>
          obtain ⟨x', h', tk', hi', hm', rfl, F', N'⟩ := hf
          exact ih x' h' tk' (by omega) hi' F' N'
  exact whl_start (μ x₀ + 1) (all (μ x₀ + 1) x₀ s.heap s.toks (Nat.lt_succ_self _) hI F N)
theorem while_led0 {σ : Type} {m : Str → Option Value} (led : σ → List (Addr × Obj)) (μ : σ → Nat) (I : σ → Prop) (x₀ : σ) {pos : Pos}
    (F : Fr h₀ L s.heap m) (N : News h₀ L s.heap (led x₀)) (hI : I x₀) (hE : PassesOwn (model prog w) A env E)
    (step : Hold (∀ x h tk, I x → Fr h₀ L h m → News h₀ L h (led x) →
      wpAny (model prog w) A (isTrue test env (eval test env)) (fun b s₂ => WhlIf b (wpAny (model prog w) A (execs body env) (WhEnd h₀ L (fun _ => m) led μ I s Q x) E s₂) (wpAny (model prog w) A (execs orelse env) Q E s₂)) E { s with heap := h, toks := tk })) :
    wpAny (model prog w) A (exec (.While test body orelse pos) env) Q E s := while_led (fun _ => m) led μ I x₀ F N hI hE step
theorem while_ledA {σ : Type} {fl : Addr} {m : Str → Option Value} (led : Addr → σ → List (Addr × Obj)) (μ : σ → Nat) (I : σ → Prop) (x₀ : σ) {pos : Pos}
    (F : Fr h₀ L s.heap m) (N : News h₀ L s.heap (led fl x₀)) (hI : I x₀) (hE : PassesOwn (model prog w) A env E)
    (step : Hold (∀ x h tk, I x → Fr h₀ L h m → News h₀ L h (led fl x) →
      wpAny (model prog w) A (isTrue test env (eval test env)) (fun b s₂ => WhlIf b (wpAny (model prog w) A (execs body env) (WhEnd h₀ L (fun _ => m) (led fl) μ I s Q x) E s₂) (wpAny (model prog w) A (execs orelse env) Q E s₂)) E { s with heap := h, toks := tk })) :
    wpAny (model prog w) A (exec (.While test body orelse pos) env) Q E s := while_led (fun _ => m) (led fl) μ I x₀ F N hI hE step
theorem WhEnd.next {σ : Type} {mp : σ → Str → Option Value} {led : σ → List (Addr × Obj)} {μ : σ → Nat} {I : σ → Prop} {x : σ} (x' : σ) {h' : Heap} {tk' : Nat} (hI : I x') (hm : μ x' < μ x) (F : Fr h₀ L h' (mp x')) (N : News h₀ L h' (led x')) :
    WhEnd h₀ L mp led μ I s Q x .next { s with heap := h', toks := tk' } := ⟨x', h', tk', hI, hm, rfl, F, N⟩
end
section
variable {prog : Program} {w : World} {A : Around} {E : Value → Shared → Prop} {s : Shared} {Q : Value → Shared → Prop}
theorem news_pick4 {h₀ h : Heap} {L : Addr} {q1 q2 q3 q4 : Addr × Obj} {l l1 l2 l3 r : List (Addr × Obj)} (N : News h₀ L h l) (P4 : Pick q4 l l1) (P3 : Pick q3 l1 l2) (P2 : Pick q2 l2 l3) (P1 : Pick q1 l3 r) : News h₀ L h (q1 :: q2 :: q3 :: q4 :: r) := by
  have a4 := P4.news N
  have a3 := P3.news (l := l1) fun z hz => a4 z (.tail _ hz)
  have a2 := P2.news (l := l2) fun z hz => a3 z (.tail _ hz)
  have a1 := P1.news (l := l3) fun z hz => a2 z (.tail _ hz)
  intro z hz
  rcases List.mem_cons.mp hz with rfl | hz
  · exact a1 _ (.head _)
  rcases List.mem_cons.mp hz with rfl | hz
  · exact a2 _ (.head _)
  rcases List.mem_cons.mp hz with rfl | hz
  · exact a3 _ (.head _)
  rcases List.mem_cons.mp hz with rfl | hz
  · exact a4 _ (.head _)
  · exact a1 _ (.tail _ hz)
theorem forall_app {α : Type} {P : α → Prop} {a b : List α} (ha : ∀ q ∈ a, P q) (hb : ∀ q ∈ b, P q) : ∀ q ∈ a ++ b, P q := fun q hq => (List.mem_append.mp hq).elim (ha q) (hb q)
theorem item_my {value slice : PySem.Expr} {T : Str} {t u : Tok} {i : Int} {q c : Nat} {suf : List Nat} (h : At T q (c :: suf)) (hi : i = (q : Int)) (hT : T.length ≤ 100000)
    (hq : Q (.str ⟨#[c]⟩ s.toks) { s with toks := s.toks + 1 })
    (hs : subscripted slice false (.str T t) (.int i u) = operate [.str T t, .int i u] (getItem (.str T t) (.int i u)) := by with_unfolding_all rfl)
    (ht : ∀ r, letTemporaryGo value (.str T t) r = pure () := by intro _; with_unfolding_all rfl) :
    wpAny (model prog w) A (subscriptTail value slice (.str T t) (.int i u)) Q E s := by
  subst hi
  have hl := h.len
  rw [List.length_cons] at hl
  refine item_str (fitsSsize_of (N := 9223372036854775808) (by omega) (by omega) (Int.le_refl _)) (by omega) (by omega) (fun _ => ?_) hs ht
  rw [item_at h]; exact hq
theorem in_my {x : Str} {c : Nat} {t u : Tok} (h : Q (.bool (decide (c ∈ x.cps.toList))) s) : wpAny (model prog w) A (compareOp .In (.str ⟨#[c]⟩ u) (.str x t)) Q E s := by
  refine in_str ?_
  rw [StrLaws.found_one]; exact h
theorem notin_my {x : Str} {c : Nat} {t u : Tok} (h : Q (.bool (!decide (c ∈ x.cps.toList))) s) : wpAny (model prog w) A (compareOp .NotIn (.str ⟨#[c]⟩ u) (.str x t)) Q E s := by
  refine SB.notContains ?_
  unfold Txt.contains
  rw [StrLaws.found_one]; exact h
end
local macro_rules | `(tactic| walk_at "subscriptTail") => `(tactic| (k_here; (with_reducible show wpAny _ _ (subscriptTail _ _ (Value.str _ _) (Value.int _ _)) _ _ _); (refine item_my (by assumption) (by first | rfl | omega) (by assumption) ?_)))
local macro_rules | `(tactic| walk_at "compareOp In str str") => `(tactic| (k_here; (with_reducible refine in_my ?_)))
local macro_rules | `(tactic| walk_at "compareOp NotIn str str") => `(tactic| (k_here; (with_reducible refine notin_my ?_)))
local macro_rules | `(tactic| walk_at "WhlIf") => `(tactic| (first | (refine WhlIf.yes (by (simp only [Bool.not_eq_true', decide_eq_true_eq, decide_eq_false_iff_not, Bool.not_eq_false']; omega)) ?_) | (refine WhlIf.no (by (simp only [Bool.not_eq_true', decide_eq_true_eq, decide_eq_false_iff_not, Bool.not_eq_false']; omega)) ?_)))
local macro_rules | `(tactic| walk_at "m.news4") => `(tactic| (refine' news_pick4 ?N ?P4 ?P3 ?P2 ?P1; (case N => k_asm); (case P4 => walk_at "m.pick"); (case P3 => walk_at "m.pick"); (case P2 => walk_at "m.pick"); (case P1 => walk_at "m.pick")))
local macro_rules | `(tactic| k_all) => `(tactic| (with_reducible (refine' forall_app ?fa ?fb); (case fa => k_all); (case fb => k_all)))
local macro_rules | `(tactic| k_all) => `(tactic| with_reducible assumption)

example : True := by
  w_top off
  k_with_none
  trivial
section
variable {w : World} {mean : ExcName → Option Value} {mg mb : Str → Option Value}
theorem starts_ok {cu cx : Nat} {h1 h2 : Int} {k1 k2 t1 t2 : Tok} {T W : Str} {tw : Tok} {p : Nat} {rest : List (Addr × Obj)}
    (hT : T.length ≤ 100000 := by walk_at "m.om") (hp : p + W.length ≤ T.length := by walk_at "m.om") :
    CallOk w mean mg mb 1 10 (.ref 148) [.ref cu, .str W tw] ((cx, curD h1 h2 k1 k2 t1 t2 T p) :: (cu, instObj 236 cx) :: rest)
      (fun C => C (.bool (decide ((T.cps.toList.drop p).take W.length = W.cps.toList))) ((cx, curD h1 h2 k1 k2 t1 t2 T p) :: (cu, instObj 236 cx) :: rest)) (fun _ => True) := by
  intro dp un gd cn cs a ccd cl outer A₀ base h₀ L m s Q E B F X N Tp hk hd hu hret hrse
  dsimp only at hret hrse
  walk_at "m.enter"
  k_steps
  rw [slice_at hp, str_beq]
  exact hret _ _ (by assumption) (by assumption)
local macro_rules | `(tactic| walk_at "call ref") => `(tactic| ((with_reducible show wpAny _ _ (call (Value.ref 148) _) _ _ _); k_dflt (refine CallOk.go (C := starts_ok) (ret := ?_)); walk_at "m.fin"))
theorem skip_yes {cu cx : Nat} {h1 h2 : Int} {k1 k2 t1 t2 : Tok} {T W : Str} {tw : Tok} {p : Nat} {suf : List Nat} {rest : List (Addr × Obj)} (hne : cx < cu := by walk_at "m.om") (hr : ∀ q ∈ rest, q.1 ≠ cx := by k_all)
    (hT : T.length ≤ 100000 := by walk_at "m.om") (hp : At T p (W.cps.toList ++ suf) := by assumption) :
    CallOk w mean mg mb 2 20 (.ref 162) [.ref cu, .str W tw] ((cx, curD h1 h2 k1 k2 t1 t2 T p) :: (cu, instObj 236 cx) :: rest)
      (fun C => ∀ t' p', At T p' suf → C (.bool true) ((cx, curD h1 h2 k1 k2 t1 t' T p') :: (cu, instObj 236 cx) :: rest)) (fun _ => True) := by
  intro dp un gd cn cs a ccd cl outer A₀ base h₀ L m s Q E B F X N Tp hk hd hu hret hrse
  dsimp only at hret hrse
  have hl := hp.len
  have hW : W.cps.toList.length = W.length := Array.length_toList
  have hin : List.take W.length (List.drop p T.cps.toList) = W.cps.toList := by rw [hp.2, ← hW, List.take_left]
  rw [List.length_append, hW] at hl
  walk_at "m.enter"
  k_steps
  exact hret _ (p + W.length) (hW ▸ hp.app) _ _ (by assumption) (by assumption)
theorem skip_no {cu cx : Nat} {h1 h2 : Int} {k1 k2 t1 t2 : Tok} {T W : Str} {tw : Tok} {p c : Nat} {suf : List Nat} {rest : List (Addr × Obj)} (hne : cx < cu) (hr : ∀ q ∈ rest, q.1 ≠ cx)
    (hT : T.length ≤ 100000) (hp : At T p (c :: suf)) (hW : W.length = 1) (hc : W.cps.toList ≠ [c]) :
    CallOk w mean mg mb 2 20 (.ref 162) [.ref cu, .str W tw] ((cx, curD h1 h2 k1 k2 t1 t2 T p) :: (cu, instObj 236 cx) :: rest)
      (fun C => C (.bool false) ((cx, curD h1 h2 k1 k2 t1 t2 T p) :: (cu, instObj 236 cx) :: rest)) (fun _ => True) := by
  intro dp un gd cn cs a ccd cl outer A₀ base h₀ L m s Q E B F X N Tp hk hd hu hret hrse
  dsimp only at hret hrse
  have hl := hp.len
  rw [List.length_cons] at hl
  have hin : ¬ List.take W.length (List.drop p T.cps.toList) = W.cps.toList := by rw [hp.2, hW]; exact fun e => hc e.symm
  walk_at "m.enter"
  k_steps
  exact hret _ _ (by assumption) (by assumption)
theorem skip_lit {cu cx : Nat} {h1 h2 : Int} {k1 k2 t1 t2 : Tok} {T W : Str} {tw : Tok} {p d : Nat} {suf : List Nat} {rest : List (Addr × Obj)} (hne : cx < cu := by walk_at "m.om") (hr : ∀ q ∈ rest, q.1 ≠ cx := by k_all)
    (hT : T.length ≤ 100000 := by walk_at "m.om") (hW : W = ⟨#[d]⟩ := by first | exact lit_minus | exact lit_quote | exact lit_open | exact lit_shut) (hp : At T p (d :: suf) := by assumption) :
    CallOk w mean mg mb 2 20 (.ref 162) [.ref cu, .str W tw] ((cx, curD h1 h2 k1 k2 t1 t2 T p) :: (cu, instObj 236 cx) :: rest)
      (fun C => ∀ t' p', At T p' suf → C (.bool true) ((cx, curD h1 h2 k1 k2 t1 t' T p') :: (cu, instObj 236 cx) :: rest)) (fun _ => True) :=
  skip_yes hne hr hT (by subst hW; exact hp)
theorem skip_lit_no {cu cx : Nat} {h1 h2 : Int} {k1 k2 t1 t2 : Tok} {T W : Str} {tw : Tok} {p c d : Nat} {suf : List Nat} {rest : List (Addr × Obj)} (hne : cx < cu := by walk_at "m.om") (hr : ∀ q ∈ rest, q.1 ≠ cx := by k_all)
    (hT : T.length ≤ 100000 := by walk_at "m.om") (hW : W = ⟨#[d]⟩ := by first | exact lit_minus | exact lit_quote | exact lit_open | exact lit_shut) (hp : At T p (c :: suf) := by assumption) (hc : d ≠ c := by walk_at "m.om") :
    CallOk w mean mg mb 2 20 (.ref 162) [.ref cu, .str W tw] ((cx, curD h1 h2 k1 k2 t1 t2 T p) :: (cu, instObj 236 cx) :: rest)
      (fun C => C (.bool false) ((cx, curD h1 h2 k1 k2 t1 t2 T p) :: (cu, instObj 236 cx) :: rest)) (fun _ => True) :=
  skip_no hne hr hT hp (by subst hW; rfl) (by subst hW; intro e; exact hc (List.cons.inj e).1)
theorem lit_minus : Str.ofString "-" = ⟨#[45]⟩ := by decide +kernel
theorem lit_quote : Str.ofString "\"" = ⟨#[34]⟩ := by decide +kernel
theorem lit_open : Str.ofString "(" = ⟨#[40]⟩ := by decide +kernel
theorem lit_shut : Str.ofString ")" = ⟨#[41]⟩ := by decide +kernel
theorem peek0_ok {cu cx : Nat} {h1 h2 : Int} {k1 k2 t1 t2 : Tok} {T : Str} {p c : Nat} {suf : List Nat} {rest : List (Addr × Obj)}
    (hT : T.length ≤ 100000 := by walk_at "m.om") (hp : At T p (c :: suf) := by assumption) :
    CallOk w mean mg mb 1 10 (.ref 141) [.ref cu] ((cx, curD h1 h2 k1 k2 t1 t2 T p) :: (cu, instObj 236 cx) :: rest)
      (fun C => ∀ t', C (.str ⟨#[c]⟩ t') ((cx, curD h1 h2 k1 k2 t1 t2 T p) :: (cu, instObj 236 cx) :: rest)) (fun _ => True) := by
  intro dp un gd cn cs a ccd cl outer A₀ base h₀ L m s Q E B F X N Tp hk hd hu hret hrse
  dsimp only at hret hrse
  have hl := hp.len
  rw [List.length_cons] at hl
  walk_at "m.enter"
  k_steps
  exact hret _ _ _ (by assumption) (by assumption)
theorem peek1_ok {cu cx : Nat} {h1 h2 : Int} {k1 k2 t1 t2 : Tok} {T : Str} {p c₀ c : Nat} {suf : List Nat} {rest : List (Addr × Obj)} {tk : Tok}
    (hT : T.length ≤ 100000 := by walk_at "m.om") (hp : At T p (c₀ :: c :: suf) := by assumption) :
    CallOk w mean mg mb 1 10 (.ref 141) [.ref cu, .int 1 tk] ((cx, curD h1 h2 k1 k2 t1 t2 T p) :: (cu, instObj 236 cx) :: rest)
      (fun C => ∀ t', C (.str ⟨#[c]⟩ t') ((cx, curD h1 h2 k1 k2 t1 t2 T p) :: (cu, instObj 236 cx) :: rest)) (fun _ => True) := by
  intro dp un gd cn cs a ccd cl outer A₀ base h₀ L m s Q E B F X N Tp hk hd hu hret hrse
  dsimp only at hret hrse
  have hp1 := hp.cons
  have hl := hp.len
  rw [List.length_cons, List.length_cons] at hl
  walk_at "m.enter"
  k_steps
  exact hret _ _ _ (by assumption) (by assumption)
theorem take_ok {cu cx : Nat} {h1 h2 : Int} {k1 k2 t1 t2 : Tok} {T : Str} {p c : Nat} {suf : List Nat} {rest : List (Addr × Obj)} (hne : cx < cu := by first | assumption | omega) (hr : ∀ q ∈ rest, q.1 ≠ cx := by k_all)
    (hT : T.length ≤ 100000 := by walk_at "m.om") (hp : At T p (c :: suf) := by assumption) :
    CallOk w mean mg mb 2 20 (.ref 155) [.ref cu] ((cx, curD h1 h2 k1 k2 t1 t2 T p) :: (cu, instObj 236 cx) :: rest)
      (fun C => ∀ t' t'' p', At T p' suf → C (.str ⟨#[c]⟩ t'') ((cx, curD h1 h2 k1 k2 t1 t' T p') :: (cu, instObj 236 cx) :: rest)) (fun _ => True) := by
  intro dp un gd cn cs a ccd cl outer A₀ base h₀ L m s Q E B F X N Tp hk hd hu hret hrse
  dsimp only at hret hrse
  have hl := hp.len
  rw [List.length_cons] at hl
  walk_at "m.enter"
  k_steps
  exact hret _ _ (p + 1) hp.cons _ _ (by assumption) (by assumption)
end
local macro_rules | `(tactic| walk_at "call ref") => `(tactic| ((with_reducible show wpAny _ _ (call (Value.ref 148) _) _ _ _); k_dflt (refine CallOk.go (C := starts_ok) (ret := ?_)); walk_at "m.fin"))

example : True := by
  w_top off
  k_with_none
  trivial
section
variable {w : World} {mean : ExcName → Option Value} {mg mb : Str → Option Value}
theorem take_while_ok {cu cx : Nat} {h1 h2 : Int} {k1 k2 t1 t2 : Tok} {T W : Str} {tw : Tok} {p c : Nat} {ds suf : List Nat} {rest : List (Addr × Obj)} (hne : cx < cu := by walk_at "m.om") (hr : ∀ q ∈ rest, q.1 ≠ cx := by k_all)
    (hT : T.length ≤ 100000 := by walk_at "m.om") (hp : At T p (ds ++ c :: suf) := by assumption) (hds : ∀ d ∈ ds, d ∈ W.cps.toList := by assumption) (hc : c ∉ W.cps.toList := by assumption) :
    CallOk w mean mg mb 2 20 (.ref 169) [.ref cu, .str W tw] ((cx, curD h1 h2 k1 k2 t1 t2 T p) :: (cu, instObj 236 cx) :: rest)
      (fun C => ∀ t' t'' p', At T p' (c :: suf) → C (.str ⟨ds.toArray⟩ t'') ((cx, curD h1 h2 k1 k2 t1 t' T p') :: (cu, instObj 236 cx) :: rest)) (fun _ => True) := by
  intro dp un gd cn cs a ccd cl outer A₀ base h₀ L m s Q E B F X N Tp hk hd hu hret hrse
  dsimp only at hret hrse
  have hl := hp.len
  rw [List.length_append, List.length_cons] at hl
  walk_at "m.enter"
  k_with_none
  (k_with "exec While" => (k_dflt (refine' while_led0 (σ := Nat × Tok) (fun x => (cx, curD h1 h2 k1 k2 t1 x.2 T (p + x.1)) :: (cu, instObj 236 cx) :: rest) (fun x => ds.length - x.1) (fun x => x.1 ≤ ds.length) (0, t2) ?wF ?wN ?wI ?wE ?wS); (case wF => k_asm); (case wN => k_asm); (case wI => exact Nat.zero_le _); (case wE => passes_own)))
  k_steps
  · refine ⟨?_⟩
    rintro ⟨k, tk'⟩ h tk hk F9 N9
    dsimp only at hk N9 ⊢
    by_cases hlt : k < ds.length
    · have hat : At T (p + k) (ds[k] :: (ds.drop (k + 1) ++ c :: suf)) := by
        have e : ds = ds.take k ++ ds[k] :: ds.drop (k + 1) := by rw [List.getElem_cons_drop, List.take_append_drop]
        have h2 : At T p (ds.take k ++ (ds[k] :: (ds.drop (k + 1) ++ c :: suf))) := by
          have h3 := hp
          rw [e, List.append_assoc] at h3
          exact h3
        have h4 := h2.app
        rwa [List.length_take, Nat.min_eq_left (by omega)] at h4
      have hin := hds ds[k] (List.getElem_mem hlt)
      k_steps
      all_goals first | exact absurd hin (by assumption) | skip
      · exact WhEnd.next (k + 1, _) hlt (by show ds.length - (k + 1) < ds.length - k; omega) (by assumption) (by assumption)
    · have hke : k = ds.length := by omega
      have hat : At T (p + k) (c :: suf) := by rw [hke]; exact hp.app
      k_steps
      all_goals first | exact absurd (by assumption) hc | skip
      · rw [slice_at2 (by omega) (by omega), hp.2, hke, Nat.add_sub_cancel_left, List.take_left]
        subst hke
        exact hret _ _ _ hat _ _ (by assumption) (by assumption)
end

example : True := by
  w_top off
  k_with_none
  trivial
local macro_rules | `(tactic| walk_at "call ref") => `(tactic| ((with_reducible show wpAny _ _ (call (Value.ref 155) _) _ _ _); k_dflt (refine CallOk.go (C := take_ok) (ret := ?_)); walk_at "m.end"))
section
variable {w : World} {mean : ExcName → Option Value} {mg mb : Str → Option Value}
theorem quoted_ok {cu cx : Nat} {h1 h2 : Int} {k1 k2 t1 t2 : Tok} {T : Str} {tw : Tok} {p : Nat} {suf : List Nat} {rest : List (Addr × Obj)} (hne : cx < cu := by walk_at "m.om") (hr : ∀ q ∈ rest, q.1 ≠ cx := by k_all)
    (hT : T.length ≤ 100000 := by walk_at "m.om") (hp : At T p (53 :: 34 :: suf) := by assumption) :
    CallOk w mean mg mb 4 40 (.ref 233) [.ref cu, .str (Str.ofString "\"") tw] ((cx, curD h1 h2 k1 k2 t1 t2 T p) :: (cu, instObj 236 cx) :: rest)
      (fun C => ∀ t' t'' p', At T p' suf → C (.str ⟨#[53]⟩ t'') ((cx, curD h1 h2 k1 k2 t1 t' T p') :: (cu, instObj 236 cx) :: rest)) (fun _ => True) := by
  intro dp un gd cn cs a ccd cl outer A₀ base h₀ L m s Q E B F X N Tp hk hd hu hret hrse
  dsimp only at hret hrse
  have hp1 := hp.cons
  have hl := hp.len
  rw [List.length_cons, List.length_cons] at hl
  walk_at "m.enter"
  k_with_none
  (k_with "exec While" => (k_dflt (refine whl_start 3 ?_)))
  k_steps
  rw [show Txt.join (Str.ofString "") [Str.ofString "5"] = ⟨#[53]⟩ from by decide +kernel]
  exact hret _ _ _ (by assumption) _ _ (by assumption) (by walk_at "m.sub")
theorem position_ok {cu cx : Nat} {h1 h2 : Int} {k1 k2 t1 t2 : Tok} {T : Str} {p : Nat} {rest : List (Addr × Obj)} (hne : cx < cu := by walk_at "m.om") (hr : ∀ q ∈ rest, q.1 ≠ cx := by k_all)
    (hT : T.length ≤ 100000 := by walk_at "m.om") (hp : p ≤ T.length := by walk_at "m.om") :
    CallOk w mean mg mb 4 40 (.ref 205) [.ref cu] ((cx, curD h1 h2 k1 k2 t1 t2 T p) :: (cu, instObj 236 cx) :: rest)
      (fun C => ∀ x, C (.ref x) ((cx, curD h1 h2 k1 k2 t1 t2 T p) :: (cu, instObj 236 cx) :: rest)) (fun _ => True) := by
  intro dp un gd cn cs a ccd cl outer A₀ base h₀ L m s Q E B F X N Tp hk hd hu hret hrse
  dsimp only at hret hrse
  walk_at "m.enter"
  k_with_none
  k_steps
  exact hret _ _ _ (by assumption) (by walk_at "m.sub")
end

example : True := by
  w_top off
  k_with_none
  trivial
-- numbers as texts
noncomputable def digs (n : Nat) : List Nat := (Nat.toDigits 10 n).map Char.toNat
theorem digs_digit {n c : Nat} (h : c ∈ digs n) : 48 ≤ c ∧ c ≤ 57 := by
  obtain ⟨ch, hch, e⟩ := List.mem_map.mp h
  have r := digit_range (Nat.isDigit_of_mem_toDigits (by decide) (by decide) hch)
  rw [← e]; exact r
theorem digs_ne (n : Nat) : digs n ≠ [] := by
  intro e
  have h := toDigits_len_ge 10 n
  rw [List.map_eq_nil_iff.mp e] at h
  exact absurd h (by decide)
theorem digs_cons (n : Nat) : ∃ d ds, digs n = d :: ds ∧ 48 ≤ d ∧ d ≤ 57 := by
  cases h : digs n with
  | nil => exact absurd h (digs_ne n)
  | cons d ds => exact ⟨d, ds, rfl, digs_digit (by rw [h]; exact .head _)⟩
theorem digs_str (n : Nat) : (Str.ofString (toString ((n : Nat) : Int))).cps.toList = digs n := KIN.signs_num n
theorem digs_len {n k : Nat} (hk : 0 < k) (h : n < 10 ^ k) : (digs n).length ≤ k := by
  rw [← digs_str, Array.length_toList]
  exact toString_length_le (by omega) hk (by exact_mod_cast h)
theorem digs_val (n : Nat) : NumText.digitsVal (digs n) = n := KIN.val_back n
theorem digs_int {n : Nat} (h : (digs n).length ≤ 160) : PySem.intText? ⟨(digs n).toArray⟩ = some (n : Int) := by
  have e := intText_digits (x := ⟨(digs n).toArray⟩) (fun c hc => digs_digit hc) (digs_ne n) (by show (digs n).toArray.size ≤ 4300; rw [List.size_toArray]; omega)
  rw [show (⟨(digs n).toArray⟩ : Str).cps.toList = digs n from rfl, digs_val] at e
  exact e
theorem figs_toList : (Str.ofString "0123456789").cps.toList = [48, 49, 50, 51, 52, 53, 54, 55, 56, 57] := by decide +kernel
theorem figs_range : (Str.ofString "0123456789").cps.toList = List.range' 48 10 := figs_toList
theorem figs_in {d : Nat} (h1 : 48 ≤ d) (h2 : d ≤ 57) : d ∈ (Str.ofString "0123456789").cps.toList := by
  rw [figs_range]
  exact List.mem_range'_1.mpr ⟨h1, Nat.lt_succ_of_le h2⟩
theorem figs_out {d : Nat} (h : ¬ (48 ≤ d ∧ d ≤ 57)) : d ∉ (Str.ofString "0123456789").cps.toList := by
  rw [figs_range]
  exact fun m => h ⟨(List.mem_range'_1.mp m).1, Nat.le_of_lt_succ (List.mem_range'_1.mp m).2⟩
noncomputable def intTxt (z : Int) : List Nat := if z < 0 then 45 :: digs z.natAbs else digs z.natAbs
-- the cursor's calls, by their contracts
local macro_rules | `(tactic| walk_at "call ref") => `(tactic| ((with_reducible show wpAny _ _ (call (Value.ref 162) _) _ _ _); k_dflt (refine CallOk.go (C := skip_yes) (ret := ?_)); walk_at "m.end"))
local macro_rules | `(tactic| walk_at "call ref") => `(tactic| ((with_reducible show wpAny _ _ (call (Value.ref 162) [_, Value.str (PySem.Str.ofString _) _]) _ _ _); k_dflt (refine CallOk.go (C := skip_lit) (ret := ?_)); walk_at "m.end"))
local macro_rules | `(tactic| walk_at "call ref") => `(tactic| ((with_reducible show wpAny _ _ (call (Value.ref 162) [_, Value.str (PySem.Str.ofString _) _]) _ _ _); k_dflt (refine CallOk.go (C := skip_lit_no) (ret := ?_)); walk_at "m.fin"))
local macro_rules | `(tactic| walk_at "call ref") => `(tactic| ((with_reducible show wpAny _ _ (call (Value.ref 169) _) _ _ _); k_dflt (refine CallOk.go (C := take_while_ok) (ret := ?_)); walk_at "m.end"))
local macro_rules | `(tactic| walk_at "call ref") => `(tactic| ((with_reducible show wpAny _ _ (call (Value.ref 141) _) _ _ _); k_dflt (refine CallOk.go (C := peek0_ok) (ret := ?_)); walk_at "m.fin"))
local macro_rules | `(tactic| walk_at "call ref") => `(tactic| ((with_reducible show wpAny _ _ (call (Value.ref 141) _) _ _ _); k_dflt (refine CallOk.go (C := peek1_ok) (ret := ?_)); walk_at "m.fin"))

example : True := by
  w_top off
  k_with_none
  trivial
noncomputable abbrev rdD (h3 h4 : Int) (k3 k4 t4 : Tok) (cu : Nat) (n : Int) : Obj := dictOf [⟨h3, .str (Str.ofString "cursor") k3, .ref cu⟩, ⟨h4, .str (Str.ofString "lines") k4, .int n t4⟩] 2
theorem eq_empty_no {prog : Program} {w : World} {A : Around} {E : Value → Shared → Prop} {s : Shared} {Q : Value → Shared → Prop} {l : List Nat} {t u : Tok} (h : l ≠ []) (hq : Q (.bool false) s) :
    wpAny (model prog w) A (compareOp .Eq (.str ⟨l.toArray⟩ t) (.str (Str.ofString "") u)) Q E s := by
  refine PyProof.Rows.eq_str ?_
  have e : ((⟨l.toArray⟩ : Str) == Str.ofString "") = false := by
    rw [str_beq]
    exact decide_eq_false (by rw [show (Str.ofString "").cps.toList = [] from by decide +kernel]; exact h)
  rw [e]; exact hq
local macro_rules | `(tactic| walk_at "compareOp Eq str str") => `(tactic| (k_here; (with_reducible refine eq_empty_no (by assumption) ?_)))
section
variable {w : World} {mean : ExcName → Option Value} {mg mb : Str → Option Value}
theorem need_ok {rd rx cu cx : Nat} {h1 h2 h3 h4 : Int} {k1 k2 k3 k4 t1 t2 t4 : Tok} {T W : Str} {tw : Tok} {n : Int} {p : Nat} {suf : List Nat} {rest : List (Addr × Obj)} (o1 : rx < rd := by walk_at "m.om") (o2 : rd < cx := by walk_at "m.om") (o3 : cx < cu := by walk_at "m.om") (hr : ∀ q ∈ rest, q.1 ≠ cx := by k_all)
    (hT : T.length ≤ 100000 := by walk_at "m.om") (hp : At T p (W.cps.toList ++ suf) := by assumption) :
    CallOk w mean mg mb 4 40 (.ref 325) [.ref rd, .str W tw] ((cx, curD h1 h2 k1 k2 t1 t2 T p) :: (cu, instObj 236 cx) :: (rx, rdD h3 h4 k3 k4 t4 cu n) :: (rd, instObj 407 rx) :: rest)
      (fun C => ∀ t' p', At T p' suf → C .none ((cx, curD h1 h2 k1 k2 t1 t' T p') :: (cu, instObj 236 cx) :: (rx, rdD h3 h4 k3 k4 t4 cu n) :: (rd, instObj 407 rx) :: rest)) (fun _ => True) := by
  intro dp un gd cn cs a ccd cl outer A₀ base h₀ L m s Q E B F X N Tp hk hd hu hret hrse
  dsimp only at hret hrse
  have hl := hp.len
  rw [List.length_append] at hl
  walk_at "m.enter"
  k_with_none
  k_steps
  exact hret _ _ (by assumption) _ _ (by assumption) (by walk_at "m.sub")
theorem whole_ok {rd rx cu cx : Nat} {h1 h2 h3 h4 : Int} {k1 k2 k3 k4 t1 t2 t4 : Tok} {T : Str} {n : Int} {p c : Nat} {z : Int} {suf : List Nat} {rest : List (Addr × Obj)} (o1 : rx < rd := by walk_at "m.om") (o2 : rd < cx := by walk_at "m.om") (o3 : cx < cu := by walk_at "m.om") (hr : ∀ q ∈ rest, q.1 ≠ cx := by k_all)
    (hT : T.length ≤ 100000 := by walk_at "m.om") (hp : At T p (intTxt z ++ c :: suf) := by assumption) (hz : z.natAbs < 10 ^ 160 := by assumption) (hc : ¬ (48 ≤ c ∧ c ≤ 57) := by first | assumption | omega) :
    CallOk w mean mg mb 4 40 (.ref 346) [.ref rd] ((cx, curD h1 h2 k1 k2 t1 t2 T p) :: (cu, instObj 236 cx) :: (rx, rdD h3 h4 k3 k4 t4 cu n) :: (rd, instObj 407 rx) :: rest)
      (fun C => ∀ t' t'' p', At T p' (c :: suf) → C (.int z t'') ((cx, curD h1 h2 k1 k2 t1 t' T p') :: (cu, instObj 236 cx) :: (rx, rdD h3 h4 k3 k4 t4 cu n) :: (rd, instObj 407 rx) :: rest)) (fun _ => True) := by
  intro dp un gd cn cs a ccd cl outer A₀ base h₀ L m s Q E B F X N Tp hk hd hu hret hrse
  dsimp only at hret hrse
  have hl := hp.len
  rw [List.length_append, List.length_cons] at hl
  have hds : ∀ d ∈ digs z.natAbs, d ∈ (Str.ofString "0123456789").cps.toList := fun d hd => figs_in (digs_digit hd).1 (digs_digit hd).2
  have hco := figs_out hc
  have hlen := digs_len (k := 160) (by decide) hz
  obtain ⟨d, ds, hdd, hd1, hd2⟩ := digs_cons z.natAbs
  have hint := digs_int hlen
  have hlen' : (⟨(digs z.natAbs).toArray⟩ : Str).length ≤ 160 := by show (digs z.natAbs).toArray.size ≤ 160; rw [List.size_toArray]; exact hlen
  have hne := digs_ne z.natAbs
  by_cases hneg : z < 0
  · have hp0 : At T p (45 :: (digs z.natAbs ++ c :: suf)) := by
      have := hp
      rwa [intTxt, if_pos hneg] at this
    clear hp
    walk_at "m.enter"
    k_with_none
    k_steps
    rw [show (-1 * (z.natAbs : Int)) = z from by omega]
    exact hret _ _ _ (by assumption) _ _ (by assumption) (by walk_at "m.sub")
  · have hp0 : At T p (digs z.natAbs ++ c :: suf) := by
      have := hp
      rwa [intTxt, if_neg hneg] at this
    have hp1 : At T p (d :: (ds ++ c :: suf)) := by rw [hdd] at hp0; exact hp0
    clear hp
    walk_at "m.enter"
    k_with_none
    k_steps
    rw [show (1 * (z.natAbs : Int)) = z from by omega]
    exact hret _ _ _ (by assumption) _ _ (by assumption) (by walk_at "m.sub")
end

example : True := by
  w_top off
  k_with_none
  trivial
theorem lit_space : Str.ofString " " = ⟨#[32]⟩ := by decide +kernel
theorem lit_colon : Str.ofString ":" = ⟨#[58]⟩ := by decide +kernel
theorem lit_line : Str.ofString "\n" = ⟨#[10]⟩ := by decide +kernel
section
variable {w : World} {mean : ExcName → Option Value} {mg mb : Str → Option Value}
theorem need_lit {rd rx cu cx : Nat} {h1 h2 h3 h4 : Int} {k1 k2 k3 k4 t1 t2 t4 : Tok} {T W : Str} {tw : Tok} {n : Int} {p d : Nat} {suf : List Nat} {rest : List (Addr × Obj)} (o1 : rx < rd := by walk_at "m.om") (o2 : rd < cx := by walk_at "m.om") (o3 : cx < cu := by walk_at "m.om") (hr : ∀ q ∈ rest, q.1 ≠ cx := by k_all)
    (hT : T.length ≤ 100000 := by walk_at "m.om") (hW : W = ⟨#[d]⟩ := by with_reducible first | exact lit_space | exact lit_colon | exact lit_line) (hp : At T p (d :: suf) := by assumption) :
    CallOk w mean mg mb 4 40 (.ref 325) [.ref rd, .str W tw] ((cx, curD h1 h2 k1 k2 t1 t2 T p) :: (cu, instObj 236 cx) :: (rx, rdD h3 h4 k3 k4 t4 cu n) :: (rd, instObj 407 rx) :: rest)
      (fun C => ∀ t' p', At T p' suf → C .none ((cx, curD h1 h2 k1 k2 t1 t' T p') :: (cu, instObj 236 cx) :: (rx, rdD h3 h4 k3 k4 t4 cu n) :: (rd, instObj 407 rx) :: rest)) (fun _ => True) :=
  need_ok o1 o2 o3 hr hT (by subst hW; exact hp)
end
local macro_rules | `(tactic| walk_at "call ref") => `(tactic| ((with_reducible show wpAny _ _ (call (Value.ref 325) _) _ _ _); k_dflt (refine CallOk.go (N := by walk_at "m.news4") (C := need_ok) (ret := ?_)); walk_at "m.end"))
local macro_rules | `(tactic| walk_at "call ref") => `(tactic| ((with_reducible show wpAny _ _ (call (Value.ref 325) [_, Value.str (PySem.Str.ofString _) _]) _ _ _); k_dflt (refine CallOk.go (N := by walk_at "m.news4") (C := need_lit) (ret := ?_)); walk_at "m.end"))
local macro_rules | `(tactic| walk_at "call ref") => `(tactic| ((with_reducible show wpAny _ _ (call (Value.ref 346) _) _ _ _); k_dflt (refine CallOk.go (N := by walk_at "m.news4") (C := whole_ok) (ret := ?_)); walk_at "m.end"))
theorem eq_sign {prog : Program} {w : World} {A : Around} {E : Value → Shared → Prop} {s : Shared} {Q : Value → Shared → Prop} {W : Str} {c d : Nat} {t u : Tok} (hW : W = ⟨#[d]⟩) (hq : Q (.bool (decide (c = d))) s) :
    wpAny (model prog w) A (compareOp .Eq (.str ⟨#[c]⟩ t) (.str W u)) Q E s := by
  subst hW
  refine eq_str ?_
  have e : ((⟨#[c]⟩ : Str) == ⟨#[d]⟩) = decide (c = d) := by
    rw [str_beq]
    exact decide_eq_decide.mpr ⟨fun h => (List.cons.inj h).1, fun h => by rw [h]⟩
  rw [e]; exact hq
local macro_rules | `(tactic| walk_at "compareOp Eq str str") => `(tactic| (k_here; (with_reducible refine eq_sign lit_minus ?_)))
local macro_rules | `(tactic| walk_at "compareOp Eq str str") => `(tactic| (k_here; (with_reducible refine eq_empty_no (List.cons_ne_nil _ _) ?_)))
section
variable {w : World} {mean : ExcName → Option Value} {mg mb : Str → Option Value}
theorem end_line_ok {rd rx cu cx : Nat} {h1 h2 h3 h4 : Int} {k1 k2 k3 k4 t1 t2 t4 : Tok} {T : Str} {n : Int} {p : Nat} {suf : List Nat} {rest : List (Addr × Obj)} (o1 : rx < rd := by walk_at "m.om") (o2 : rd < cx := by walk_at "m.om") (o3 : cx < cu := by walk_at "m.om") (hr : ∀ q ∈ rest, q.1 ≠ cx := by k_all) (hr' : ∀ q ∈ rest, q.1 ≠ rx := by k_all)
    (hT : T.length ≤ 100000 := by walk_at "m.om") (hp : At T p (10 :: suf) := by assumption) (hn : 0 ≤ n ∧ n < 100 := by walk_at "m.om") :
    CallOk w mean mg mb 6 60 (.ref 339) [.ref rd] ((cx, curD h1 h2 k1 k2 t1 t2 T p) :: (cu, instObj 236 cx) :: (rx, rdD h3 h4 k3 k4 t4 cu n) :: (rd, instObj 407 rx) :: rest)
      (fun C => ∀ t' t'' p', At T p' suf → C .none ((cx, curD h1 h2 k1 k2 t1 t' T p') :: (cu, instObj 236 cx) :: (rx, rdD h3 h4 k3 k4 t'' cu (n + 1)) :: (rd, instObj 407 rx) :: rest)) (fun _ => True) := by
  intro dp un gd cn cs a ccd cl outer A₀ base h₀ L m s Q E B F X N Tp hk hd hu hret hrse
  dsimp only at hret hrse
  walk_at "m.enter"
  k_with_none
  k_steps
  exact hret _ _ _ (by assumption) _ _ (by assumption) (by walk_at "m.sub")
theorem item_num0 {rd rx cu cx : Nat} {h1 h2 h3 h4 : Int} {k1 k2 k3 k4 t1 t2 t4 : Tok} {T : Str} {n : Int} {p c : Nat} {z : Int} {suf : List Nat} {rest : List (Addr × Obj)} (o1 : rx < rd) (o2 : rd < cx) (o3 : cx < cu) (hr : ∀ q ∈ rest, q.1 ≠ cx)
    (hT : T.length ≤ 100000) (hp : At T p (intTxt z ++ c :: suf)) (hz : z.natAbs < 10 ^ 160) (hc : ¬ (48 ≤ c ∧ c ≤ 57)) :
    CallOk w mean mg mb 6 60 (.ref 354) [.ref rd] ((cx, curD h1 h2 k1 k2 t1 t2 T p) :: (cu, instObj 236 cx) :: (rx, rdD h3 h4 k3 k4 t4 cu n) :: (rd, instObj 407 rx) :: rest)
      (fun C => ∀ t' t'' p', At T p' (c :: suf) → C (.int z t'') ((cx, curD h1 h2 k1 k2 t1 t' T p') :: (cu, instObj 236 cx) :: (rx, rdD h3 h4 k3 k4 t4 cu n) :: (rd, instObj 407 rx) :: rest)) (fun _ => True) := by
  intro dp un gd cn cs a ccd cl outer A₀ base h₀ L m s Q E B F X N Tp hk hd hu hret hrse
  dsimp only at hret hrse
  obtain ⟨d, ds, hdd, hd1, hd2⟩ := digs_cons z.natAbs
  have hfd := figs_in hd1 hd2
  by_cases hneg : z < 0
  · have hp0 : At T p (45 :: d :: (ds ++ c :: suf)) := by
      have := hp
      rwa [intTxt, if_pos hneg, hdd] at this
    walk_at "m.enter"
    k_with_none
    k_steps
    all_goals first | exact hret _ _ _ (by assumption) _ _ (by assumption) (by walk_at "m.sub") | exact absurd hfd (by assumption)
  · have hp0 : At T p (d :: (ds ++ c :: suf)) := by
      have := hp
      rwa [intTxt, if_neg hneg, hdd] at this
    walk_at "m.enter"
    k_with_none
    k_steps
    all_goals first | exact hret _ _ _ (by assumption) _ _ (by assumption) (by walk_at "m.sub") | exact absurd hfd (by assumption)
theorem item_num1 {rd rx cu cx : Nat} {h1 h2 h3 h4 : Int} {k1 k2 k3 k4 t1 t2 t4 : Tok} {T : Str} {td : Tok} {n : Int} {p c : Nat} {z : Int} {suf : List Nat} {rest : List (Addr × Obj)} (o1 : rx < rd := by walk_at "m.om") (o2 : rd < cx := by walk_at "m.om") (o3 : cx < cu := by walk_at "m.om") (hr : ∀ q ∈ rest, q.1 ≠ cx := by k_all)
    (hT : T.length ≤ 100000 := by walk_at "m.om") (hp : At T p (intTxt z ++ c :: suf) := by assumption) (hz : z.natAbs < 10 ^ 160 := by assumption) (hc : ¬ (48 ≤ c ∧ c ≤ 57) := by assumption) :
    CallOk w mean mg mb 6 60 (.ref 354) [.ref rd, .int 1 td] ((cx, curD h1 h2 k1 k2 t1 t2 T p) :: (cu, instObj 236 cx) :: (rx, rdD h3 h4 k3 k4 t4 cu n) :: (rd, instObj 407 rx) :: rest)
      (fun C => ∀ t' t'' p', At T p' (c :: suf) → C (.int z t'') ((cx, curD h1 h2 k1 k2 t1 t' T p') :: (cu, instObj 236 cx) :: (rx, rdD h3 h4 k3 k4 t4 cu n) :: (rd, instObj 407 rx) :: rest)) (fun _ => True) := by
  intro dp un gd cn cs a ccd cl outer A₀ base h₀ L m s Q E B F X N Tp hk hd hu hret hrse
  dsimp only at hret hrse
  obtain ⟨d, ds, hdd, hd1, hd2⟩ := digs_cons z.natAbs
  have hfd := figs_in hd1 hd2
  by_cases hneg : z < 0
  · have hp0 : At T p (45 :: d :: (ds ++ c :: suf)) := by
      have := hp
      rwa [intTxt, if_pos hneg, hdd] at this
    walk_at "m.enter"
    k_with_none
    k_steps
    all_goals first | exact hret _ _ _ (by assumption) _ _ (by assumption) (by walk_at "m.sub") | exact absurd hfd (by assumption)
  · have hp0 : At T p (d :: (ds ++ c :: suf)) := by
      have := hp
      rwa [intTxt, if_neg hneg, hdd] at this
    walk_at "m.enter"
    k_with_none
    k_steps
    all_goals first | exact hret _ _ _ (by assumption) _ _ (by assumption) (by walk_at "m.sub") | exact absurd hfd (by assumption)
end

example : True := by
  w_top off
  k_with_none
  trivial
local macro_rules | `(tactic| walk_at "call ref") => `(tactic| ((with_reducible show wpAny _ _ (call (Value.ref 339) _) _ _ _); k_dflt (refine CallOk.go (N := by walk_at "m.news4") (C := end_line_ok) (ret := ?_)); walk_at "m.end"))
local macro_rules | `(tactic| walk_at "call ref") => `(tactic| ((with_reducible show wpAny _ _ (call (Value.ref 354) [_, Value.int _ _]) _ _ _); k_dflt (refine CallOk.go (N := by walk_at "m.news4") (C := item_num1) (ret := ?_)); walk_at "m.end"))
/-- the numbers behind a bracket's first one -/
noncomputable def tailTxt (r : List Int) : List Nat := r.flatMap (fun z => 32 :: intTxt z)
theorem tail_cons (r : List Int) (suf : List Nat) : ∃ c s', tailTxt r ++ 41 :: suf = c :: s' ∧ ¬ (48 ≤ c ∧ c ≤ 57) := by
  cases r with
  | nil => exact ⟨41, suf, rfl, by omega⟩
  | cons z r => exact ⟨32, intTxt z ++ (tailTxt r ++ 41 :: suf), by simp [tailTxt], by omega⟩
theorem tail_step (z : Int) (r : List Int) (suf : List Nat) : tailTxt (z :: r) ++ suf = 32 :: (intTxt z ++ (tailTxt r ++ suf)) := by simp [tailTxt]
noncomputable abbrev tupO (vs : List Value) : Obj := { cls := .type "tuple", data := .seq vs.toArray }
theorem ints_push {arr : Array Value} {pre : List Int} {z : Int} {t : Tok} (h : IntsAre arr.toList pre) : IntsAre (arr.push (.int z t)).toList (pre ++ [z]) := by
  rw [Array.toList_push]
  exact h.append (.cons z t .nil)
local macro_rules | `(tactic| walk_at "call type:tuple") => `(tactic| (k_here; (with_reducible show wpAny _ _ (call (Value.type _) [Value.ref _]) _ _ _); k_dflt (refine' kde_tupleOf ?k1 ?k2 ?k3 ?k4 rfl ?_; (case k1 => k_asm); (case k2 => k_asm); (case k3 => exact News.isList (by k_asm) (by walk_at "m.mem")); (case k4 => omega); k_whole); intro D' h' F' N' l1; (try k_lt l1); (try k_sweep)))
section
variable {w : World} {mean : ExcName → Option Value} {mg mb : Str → Option Value}
theorem bracket_ok {rd rx cu cx : Nat} {h1 h2 h3 h4 : Int} {k1 k2 k3 k4 t1 t2 t4 : Tok} {T : Str} {td : Tok} {n : Int} {p : Nat} {z : Int} {zs : List Int} {suf : List Nat} {rest : List (Addr × Obj)} (o1 : rx < rd := by walk_at "m.om") (o2 : rd < cx := by walk_at "m.om") (o3 : cx < cu := by walk_at "m.om") (hr : ∀ q ∈ rest, q.1 ≠ cx := by k_all)
    (hT : T.length ≤ 100000 := by walk_at "m.om") (hp : At T p (intTxt z ++ (tailTxt zs ++ 41 :: suf)) := by assumption) (hz : ∀ y ∈ z :: zs, y.natAbs < 10 ^ 160 := by assumption) (hn : zs.length ≤ 10 := by assumption) :
    CallOk w mean mg mb 8 80 (.ref 361) [.ref rd, .int 1 td] ((cx, curD h1 h2 k1 k2 t1 t2 T p) :: (cu, instObj 236 cx) :: (rx, rdD h3 h4 k3 k4 t4 cu n) :: (rd, instObj 407 rx) :: rest)
      (fun C => ∀ x vs t' p', IntsAre vs (z :: zs) → At T p' suf → cu < x → AllLt x rest → C (.ref x) ((cx, curD h1 h2 k1 k2 t1 t' T p') :: (cu, instObj 236 cx) :: (rx, rdD h3 h4 k3 k4 t4 cu n) :: (rd, instObj 407 rx) :: (x, tupO vs) :: rest)) (fun _ => True) := by
  intro dp un gd cn cs a ccd cl outer A₀ base h₀ L m s Q E B F X N Tp hk hd hu hret hrse
  dsimp only at hret hrse
  obtain ⟨c₁, s₁, e₁, hc₁⟩ := tail_cons zs suf
  rw [e₁] at hp
  have hz0 := hz z (.head _)
  have hl := hp.len
  obtain ⟨d, ds, hdd, hd1, hd2⟩ := digs_cons z.natAbs
  have hp1 : ∃ d' s', intTxt z ++ c₁ :: s₁ = d' :: s' ∧ d' ≠ 41 ∧ d' ≠ 32 := by
    unfold intTxt
    split
    · exact ⟨45, _, rfl, by omega, by omega⟩
    · exact ⟨d, ds ++ c₁ :: s₁, by rw [hdd]; rfl, by omega, by omega⟩
  obtain ⟨d', s', e', hd41, hd32⟩ := hp1
  have hp2 : At T p (d' :: s') := by rw [← e']; exact hp
  walk_at "m.enter"
  k_with_none
  (k_with "exec While" => (k_dflt (refine' while_ledA (σ := Array Value × List Int × List Int × Nat × Tok × Nat) (fun fl x => (fl, listOf x.1 x.2.2.2.1) :: (cx, curD h1 h2 k1 k2 t1 x.2.2.2.2.1 T x.2.2.2.2.2) :: (cu, instObj 236 cx) :: (rx, rdD h3 h4 k3 k4 t4 cu n) :: (rd, instObj 407 rx) :: rest) (fun x => x.2.2.1.length) (fun x => x.2.1 ++ x.2.2.1 = z :: zs ∧ IntsAre x.1.toList x.2.1 ∧ At T x.2.2.2.2.2 (tailTxt x.2.2.1 ++ 41 :: suf)) (_, [z], zs, _, _, _) ?wF ?wN ?wI ?wE ?wS); (case wF => k_asm); (case wN => (dsimp only; walk_at "m.sub")); (case wI => exact ⟨rfl, .cons _ _ .nil, by rw [e₁]; assumption⟩); (case wE => passes_own)))
  k_steps
  · refine ⟨?_⟩
    rintro ⟨arr, pre, post, ne, tk', p'⟩ h tk ⟨hpre, hI, hat⟩ F9 N9
    dsimp only at hpre hI hat N9 ⊢
    have hlenA : arr.size = pre.length := by rw [← Array.length_toList]; exact hI.length
    have hlp : pre.length + post.length = zs.length + 1 := by
      have := congrArg List.length hpre
      simpa using this
    have hlat := hat.len
    cases post with
    | nil =>
      have hat' : At T p' (41 :: suf) := hat
      rw [List.append_nil] at hpre
      subst hpre
      k_steps
      exact hret _ _ _ _ hI (by assumption) (by omega) (by simp only [*]) _ _ (by assumption) (by walk_at "m.sub")
    | cons y r =>
      rw [tail_step] at hat
      obtain ⟨c₂, s₂, e₂, hc₂⟩ := tail_cons r suf
      rw [e₂] at hat
      have hzy := hz y (by rw [← hpre]; simp)
      simp only [List.length_cons] at hlp
      k_steps
      exact WhEnd.next (_, pre ++ [y], r, _, _, _) ⟨by rw [List.append_assoc]; exact hpre, ints_push hI, by rw [e₂]; assumption⟩ (Nat.lt_succ_self _) (by assumption) (by walk_at "m.sub")
end

example : True := by
  w_top off
  k_with_none
  trivial
section
variable {prog : Program} {w : World} {A : Around} {E : Value → Shared → Prop} {s : Shared} {env : Env} {h₀ : Heap} {nm : Str} {body : List Stmt} {Q : Flow → Shared → Prop}
/-- the end of a turn of a for: the state goes on, or the loop is left -/
def FoEnd {σ : Type} (h₀ : Heap) (L : Addr) (nm : Str) (mp : σ → Str → Option Value) (led : σ → List (Addr × Obj)) (I : Nat → σ → Prop) (i : Nat) (own : List (Addr × Obj)) (s : Shared) (Q : Flow → Shared → Prop) (f : Flow) (s₃ : Shared) : Prop :=
  match f with
  | .brk => Q .next s₃
  | .ret v => Q (.ret v) s₃
  | _ => ∃ x' v' h' tk', I (i + 1) x' ∧ s₃ = { s with heap := h', toks := tk' } ∧ Fr h₀ L h' (fun y => if y = nm then v' else mp x' y) ∧ News h₀ L h' (led x' ++ own) ∧ (∀ p ∈ own, ∀ q ∈ led x', p.1 ≠ q.1)
theorem FoEnd.next {σ : Type} {L : Addr} {mp : σ → Str → Option Value} {led : σ → List (Addr × Obj)} {I : Nat → σ → Prop} {i : Nat} {own : List (Addr × Obj)} (x' : σ) {v' : Option Value} {h' : Heap} {tk' : Nat} (hI : I (i + 1) x')
    (F : Fr h₀ L h' (fun y => if y = nm then v' else mp x' y)) (N : News h₀ L h' (led x' ++ own)) (ho : ∀ p ∈ own, ∀ q ∈ led x', p.1 ≠ q.1) :
    FoEnd h₀ L nm mp led I i own s Q .next { s with heap := h', toks := tk' } := ⟨x', v', h', tk', hI, rfl, F, N, ho⟩
theorem if_if {nm : Str} {v : Value} {v' : Option Value} {m : Str → Option Value} : (fun y => if y = nm then some v else (fun y => if y = nm then v' else m y) y) = fun y => if y = nm then some v else m y := by
  funext y
  by_cases h : y = nm <;> simp [h]
theorem range_led {σ : Type} {r : Addr} {a₀ b₀ : Int} {t₀ u₀ v₀ : Tok} {n : Nat} (mp : σ → Str → Option Value) (led : σ → List (Addr × Obj)) (I : Nat → σ → Prop) (x₀ : σ) {m₀ : Str → Option Value}
    (F : Fr h₀ env.locals s.heap m₀) (hm : m₀ = fun y => if y = nm then m₀ nm else mp x₀ y) (N : News h₀ env.locals s.heap (led x₀)) (hI : I 0 x₀)
    (hh : A.handled = none) (hr : IsRange s.heap r a₀ b₀ 1 t₀ u₀ v₀) (hsmall : Builtin.Range.small a₀ b₀ 1 = true) (hn : Builtin.Range.rangeSize a₀ b₀ 1 = (n : Int))
    (turn : Hold (∀ i (x : σ) tk' h tk own, i < n → I i x → (∀ p ∈ own, ∀ q ∈ led x, p.1 ≠ q.1) → Fr h₀ env.locals h (fun y => if y = nm then some (.int (a₀ + (i : Int)) tk') else mp x y) → News h₀ env.locals h (led x ++ own) →
      wpAny (model prog w) A (execs body env) (FoEnd h₀ env.locals nm mp led I i own s Q) E { s with heap := h, toks := tk }))
    (done : Hold (∀ (x : σ) v' h tk, I n x → Fr h₀ env.locals h (fun y => if y = nm then v' else mp x y) → News h₀ env.locals h (led x) → Q .next { s with heap := h, toks := tk })) :
    wpAny (model prog w) A (pyIter (.ref r)) (fun it s₂ => LoopAtV prog w A h₀ env nm body Q E it s₂) E s := by
  refine wpAny_pyIter_range hr hsmall ?_
  have W : Walks prog w A s.heap.objs.size [s.heap.objs.size] [s.heap.objs.size] n (fun i v => i < n ∧ ∃ t, v = .int (a₀ + i * 1) t)
      (fun i h => IsRangeIter h s.heap.objs.size (a₀ + (i : Nat) * 1) ((n : Int) - (i : Nat)) 1) := (Walks.range hh _ a₀ 1 n).bound
  refine ⟨s.heap.objs.size, _, _, n, _, _, m₀, led x₀, (fun i m nx => ∃ x v', m = (fun y => if y = nm then v' else mp x y) ∧ nx = led x ∧ I i x), rfl, W, ?_, ?_, ?_, (by show IsRangeIter _ _ _ _ _; rw [hn]; simpa using Heap.get?_push_size _ rfl), F.push _, (fun p hp => ⟨Heap.get?_push_of_some _ (N p hp).1, (N p hp).2⟩), ⟨x₀, m₀ nm, hm, rfl, hI⟩, ?_, ?_⟩
  · intro hm
    exact absurd F.ns.lt ((List.mem_singleton.mp hm) ▸ Nat.lt_irrefl _)
  · intro b hb
    rw [List.mem_singleton.mp hb]
    exact next_is_new F
  · intro p hp hI
    exact absurd (Heap.lt_size (N p hp).1) ((List.mem_singleton.mp hI) ▸ Nat.lt_irrefl _)
  · rintro i v m₁ nx s₁ own ⟨hh', tk', rfl⟩ hi ⟨_, t, rfl⟩ ⟨x, v', rfl, rfl, hIx⟩ hoff hown hget hall hst F₁ N₁
    have e1 : a₀ + (i : Int) * 1 = a₀ + (i : Int) := by omega
    rw [e1, if_if] at F₁
    have hlive : ∃ o, hh'.get? s.heap.objs.size = some o := ⟨_, hst⟩
    obtain ⟨oI, hoI⟩ := hlive
    have hIown : (s.heap.objs.size, oI) ∈ own := hall _ (List.mem_singleton.mpr rfl) (next_is_new F) _ hoI
    refine wpAny_mono (turn.out i x t hh' tk' own hi hIx (fun p hp q hq e => hoff q hq (e ▸ hown p hp)) F₁ (fun p hp => N₁ p ((List.mem_append.mp hp).elim (fun h => List.mem_append.mpr (.inr h)) fun h => List.mem_append.mpr (.inl h)))) (fun f s₂ p => ?_) fun _ _ e => e
    have fin : (∃ x' v' h' tk'', I (i + 1) x' ∧ s₂ = { s with heap := h', toks := tk'' } ∧ Fr h₀ env.locals h' (fun y => if y = nm then v' else mp x' y) ∧ News h₀ env.locals h' (led x' ++ own) ∧ (∀ p ∈ own, ∀ q ∈ led x', p.1 ≠ q.1)) →
        LoopStepU h₀ env.locals [s.heap.objs.size] own (fun m nx => ∃ x v', m = (fun y => if y = nm then v' else mp x y) ∧ nx = led x ∧ I (i + 1) x) { s with heap := hh', toks := tk' } .next s₂ := by
      rintro ⟨x', v', h', tk'', hI', rfl, F', N', ho⟩
      exact ⟨rfl, h', tk'', _, led x', rfl, F', fun p hp => N' p ((List.mem_append.mp hp).elim (fun h => List.mem_append.mpr (.inr h)) fun h => List.mem_append.mpr (.inl h)), fun p hp hq => ho _ hIown p hp (List.mem_singleton.mp hq).symm, x', v', rfl, rfl, hI'⟩
    cases f with
    | ret v => exact .ret p
    | brk => exact .brk p
    | next => exact .next (fin p)
    | cont => exact .cont (fin p)
  · rintro h' tk m' news' F' N' _ ⟨x, v', rfl, rfl, hIx⟩
    exact done.out x v' h' tk hIx F' N'
theorem range_ledA {σ : Type} {fl : Addr} {r : Addr} {a₀ b₀ : Int} {t₀ u₀ v₀ : Tok} {n : Nat} {m₀ : Str → Option Value} (led : Addr → σ → List (Addr × Obj)) (I : Addr → Nat → σ → Prop) (x₀ : σ)
    (F : Fr h₀ env.locals s.heap m₀) (N : News h₀ env.locals s.heap (led fl x₀)) (hI : I fl 0 x₀)
    (hh : A.handled = none) (hr : IsRange s.heap r a₀ b₀ 1 t₀ u₀ v₀) (hsmall : Builtin.Range.small a₀ b₀ 1 = true) (hn : Builtin.Range.rangeSize a₀ b₀ 1 = (n : Int))
    (turn : Hold (∀ i (x : σ) tk' h tk own, i < n → I fl i x → (∀ p ∈ own, ∀ q ∈ led fl x, p.1 ≠ q.1) → Fr h₀ env.locals h (fun y => if y = nm then some (.int (a₀ + (i : Int)) tk') else m₀ y) → News h₀ env.locals h (led fl x ++ own) →
      wpAny (model prog w) A (execs body env) (FoEnd h₀ env.locals nm (fun _ => m₀) (led fl) (I fl) i own s Q) E { s with heap := h, toks := tk }))
    (done : Hold (∀ (x : σ) v' h tk, I fl n x → Fr h₀ env.locals h (fun y => if y = nm then v' else m₀ y) → News h₀ env.locals h (led fl x) → Q .next { s with heap := h, toks := tk })) :
    wpAny (model prog w) A (pyIter (.ref r)) (fun it s₂ => LoopAtV prog w A h₀ env nm body Q E it s₂) E s :=
  range_led (fun _ => m₀) (led fl) (I fl) x₀ F (by funext y; by_cases h : y = nm <;> simp [h]) N hI hh hr hsmall hn turn done
theorem list_led {σ : Type} {l : Addr} {vs : List Value} {nn : Nat} (mp : σ → Str → Option Value) (led : Addr → σ → List (Addr × Obj)) (I : Nat → σ → Prop) (x₀ : σ) {m₀ : Str → Option Value}
    (F : Fr h₀ env.locals s.heap m₀) (hm : m₀ = fun y => if y = nm then m₀ nm else mp x₀ y) (N : News h₀ env.locals s.heap (led l x₀)) (hI : I 0 x₀)
    (hh : A.handled = none) (hl : ∀ x, (l, listOf vs.toArray nn) ∈ led l x)
    (turn : Hold (∀ i (x : σ) v h tk own, vs[i]? = some v → I i x → (∀ p ∈ own, ∀ q ∈ led l x, p.1 ≠ q.1) → Fr h₀ env.locals h (fun y => if y = nm then some v else mp x y) → News h₀ env.locals h (led l x ++ own) →
      wpAny (model prog w) A (execs body env) (FoEnd h₀ env.locals nm mp (led l) I i own s Q) E { s with heap := h, toks := tk }))
    (done : Hold (∀ (x : σ) v' h tk, I vs.length x → Fr h₀ env.locals h (fun y => if y = nm then v' else mp x y) → News h₀ env.locals h (led l x) → Q .next { s with heap := h, toks := tk })) :
    wpAny (model prog w) A (pyIter (.ref l)) (fun it s₂ => LoopAtV prog w A h₀ env nm body Q E it s₂) E s := by
  have hol : s.heap.get? l = some (listOf vs.toArray nn) := (N _ (hl x₀)).1
  have hls : s.heap.IsList l vs.toArray := ⟨_, hol, rfl, nn, rfl⟩
  have hne : l ≠ s.heap.objs.size := Nat.ne_of_lt (Heap.lt_size hol)
  refine wpAny_pyIter_list hls ?_
  have W := Walks.list (prog := prog) (w := w) hh s.heap.objs.size l hne vs.toArray
  refine ⟨s.heap.objs.size, _, _, vs.toArray.size, _, _, m₀, led l x₀, (fun i m nx => ∃ x v', m = (fun y => if y = nm then v' else mp x y) ∧ nx = led l x ∧ I i x), rfl, W, ?_, ?_, ?_, ⟨⟨_, Heap.get?_push_size _ rfl, rfl, rfl⟩, hls.at fun o e => Heap.get?_push_of_some _ e⟩, F.push _, (fun p hp => ⟨Heap.get?_push_of_some _ (N p hp).1, (N p hp).2⟩), ⟨x₀, m₀ nm, hm, rfl, hI⟩, ?_, ?_⟩
  · intro hm
    rcases List.mem_cons.mp hm with e | hm
    · exact absurd F.ns.lt (e ▸ Nat.lt_irrefl _)
    · exact (N _ (hl x₀)).2.1 ((List.mem_singleton.mp hm).symm)
  · intro b hb
    rw [List.mem_singleton.mp hb]
    exact next_is_new F
  · intro p hp hI
    exact absurd (Heap.lt_size (N p hp).1) ((List.mem_singleton.mp hI) ▸ Nat.lt_irrefl _)
  · rintro i v m₁ nx s₁ own ⟨hh', tk', rfl⟩ hi hP ⟨x, v', rfl, rfl, hIx⟩ hoff hown hget hall hst F₁ N₁
    rw [if_if] at F₁
    obtain ⟨⟨oI, hoI, _⟩, _⟩ := id hst
    have hIown : (s.heap.objs.size, oI) ∈ own := hall _ (List.mem_cons.mpr (.inl rfl)) (next_is_new F) _ hoI
    have hlo : hh'.get? l = some (listOf vs.toArray nn) := (N₁ _ (List.mem_append.mpr (.inr (hl x)))).1
    have hP' : vs[i]? = some v := by simpa using hP
    refine wpAny_mono (turn.out i x v hh' tk' (own.filter fun p => decide (p.1 = s.heap.objs.size)) hP' hIx (fun p hp q hq e => hoff q hq (List.mem_singleton.mpr (by rw [← e]; simpa using (List.mem_filter.mp hp).2))) F₁
      (fun p hp => N₁ p ((List.mem_append.mp hp).elim (fun h => List.mem_append.mpr (.inr h)) fun h => List.mem_append.mpr (.inl (List.mem_filter.mp h).1)))) (fun f s₂ p => ?_) fun _ _ e => e
    have fin : (∃ x' v' h' tk'', I (i + 1) x' ∧ s₂ = { s with heap := h', toks := tk'' } ∧ Fr h₀ env.locals h' (fun y => if y = nm then v' else mp x' y) ∧ News h₀ env.locals h' (led l x' ++ own.filter fun p => decide (p.1 = s.heap.objs.size)) ∧ (∀ p ∈ own.filter fun p => decide (p.1 = s.heap.objs.size), ∀ q ∈ led l x', p.1 ≠ q.1)) →
        LoopStepU h₀ env.locals [s.heap.objs.size] own (fun m nx => ∃ x v', m = (fun y => if y = nm then v' else mp x y) ∧ nx = led l x ∧ I (i + 1) x) { s with heap := hh', toks := tk' } .next s₂ := by
      rintro ⟨x', v', h', tk'', hI', rfl, F', N', ho⟩
      refine ⟨rfl, h', tk'', _, led l x', rfl, F', fun p hp => ?_, fun p hp hq => ho _ (List.mem_filter.mpr ⟨hIown, by simp⟩) p hp (List.mem_singleton.mp hq).symm, x', v', rfl, rfl, hI'⟩
      rcases List.mem_append.mp hp with h | h
      · by_cases hI : p.1 = s.heap.objs.size
        · exact N' p (List.mem_append.mpr (.inr (List.mem_filter.mpr ⟨h, by simpa using hI⟩)))
        · have h1 : p.1 = l := by
            rcases List.mem_cons.mp (hown p h) with h2 | h2
            · exact absurd h2 hI
            · exact List.mem_singleton.mp h2
          have h2 : hh'.get? p.1 = some p.2 := hget p h
          rw [h1, hlo] at h2
          have h3 : p = (l, listOf vs.toArray nn) := Prod.ext h1 (Option.some.inj h2).symm
          rw [h3]
          exact N' _ (List.mem_append.mpr (.inl (hl x')))
      · exact N' p (List.mem_append.mpr (.inl h))
    cases f with
    | ret v => exact .ret p
    | brk => exact .brk p
    | next => exact .next (fin p)
    | cont => exact .cont (fin p)
  · rintro h' tk m' news' F' N' _ ⟨x, v', rfl, rfl, hIx⟩
    exact done.out x v' h' tk (by simpa using hIx) F' N'
end

example : True := by
  w_top off
  k_with_none
  trivial
local macro_rules | `(tactic| walk_at "call ref") => `(tactic| ((with_reducible show wpAny _ _ (call (Value.ref 361) _) _ _ _); k_dflt (refine CallOk.go (N := by walk_at "m.news4") (C := bracket_ok) (ret := ?_)); walk_at "m.end"))
local macro_rules | `(tactic| walk_at "call ref") => `(tactic| ((with_reducible show wpAny _ _ (call (Value.ref 233) _) _ _ _); k_dflt (refine CallOk.go (C := quoted_ok) (ret := ?_)); walk_at "m.end"))
inductive It where
  | num (z : Int)
  | tup (z : Int) (zs : List Int)
  | txt
noncomputable def itTxt : It → List Nat
  | .num z => intTxt z
  | .tup z zs => 40 :: (intTxt z ++ (tailTxt zs ++ [41]))
  | .txt => [34, 53, 34]
def It.Ok : It → Prop
  | .num z => z.natAbs < 10 ^ 160
  | .tup z zs => (∀ y ∈ z :: zs, y.natAbs < 10 ^ 160) ∧ zs.length ≤ 10
  | .txt => True
inductive ItIn (news : List (Addr × Obj)) : Value → It → Prop
  | num (z : Int) (t : Tok) : ItIn news (.int z t) (.num z)
  | tup {x : Addr} {vs : List Value} {z : Int} {zs : List Int} : (x, tupO vs) ∈ news → IntsAre vs (z :: zs) → ItIn news (.ref x) (.tup z zs)
  | txt (t : Tok) : ItIn news (.str ⟨#[53]⟩ t) .txt
theorem ItIn.mono {news news' : List (Addr × Obj)} {v : Value} {it : It} (h : ItIn news v it) (hs : ∀ p ∈ news, p ∈ news') : ItIn news' v it := by
  cases h with
  | num z t => exact .num z t
  | tup hm hi => exact .tup (hs _ hm) hi
  | txt t => exact .txt t
section
variable {w : World} {mean : ExcName → Option Value} {mg mb : Str → Option Value}
theorem CallOk.weaken {nd nu : Nat} {f : Value} {vs : List Value} {news : List (Addr × Obj)} {K K' : (Value → List (Addr × Obj) → Prop) → Prop} {KR : (List (Addr × Obj) → Prop) → Prop} (h : CallOk w mean mg mb nd nu f vs news K KR) (hK : ∀ C, K' C → K C)
    {nd' nu' : Nat} (hd : nd ≤ nd' := by omega) (hu : nu ≤ nu' := by omega) : CallOk w mean mg mb nd' nu' f vs news K' KR := by
  intro dp un gd cn cs a ccd cl outer A₀ base h₀ L m s Q E B F X N Tp hk hd' hu' hret hrse
  exact h dp un gd cn cs a ccd cl outer A₀ base h₀ L m s Q E B F X N Tp hk (by omega) (by omega) (hK _ hret) hrse
theorem item_tup1 {rd rx cu cx : Nat} {h1 h2 h3 h4 : Int} {k1 k2 k3 k4 t1 t2 t4 : Tok} {T : Str} {n : Int} {p : Nat} {z : Int} {zs : List Int} {suf : List Nat} {rest : List (Addr × Obj)} (o1 : rx < rd) (o2 : rd < cx) (o3 : cx < cu) (hr : ∀ q ∈ rest, q.1 ≠ cx)
    (hT : T.length ≤ 100000) (hp : At T p (40 :: (intTxt z ++ (tailTxt zs ++ 41 :: suf)))) (hz : ∀ y ∈ z :: zs, y.natAbs < 10 ^ 160) (hn : zs.length ≤ 10) :
    CallOk w mean mg mb 10 100 (.ref 354) [.ref rd] ((cx, curD h1 h2 k1 k2 t1 t2 T p) :: (cu, instObj 236 cx) :: (rx, rdD h3 h4 k3 k4 t4 cu n) :: (rd, instObj 407 rx) :: rest)
      (fun C => ∀ x vs t' p', IntsAre vs (z :: zs) → At T p' suf → cu < x → AllLt x rest → C (.ref x) ((cx, curD h1 h2 k1 k2 t1 t' T p') :: (cu, instObj 236 cx) :: (rx, rdD h3 h4 k3 k4 t4 cu n) :: (rd, instObj 407 rx) :: (rest ++ [(x, tupO vs)]))) (fun _ => True) := by
  intro dp un gd cn cs a ccd cl outer A₀ base h₀ L m s Q E B F X N Tp hk hd hu hret hrse
  dsimp only at hret hrse
  walk_at "m.enter"
  k_with_none
  k_steps
  all_goals first | exact hret _ _ _ _ (by assumption) (by assumption) (by assumption) (by assumption) _ _ (by assumption) (by walk_at "m.sub")
theorem item_txt0 {rd rx cu cx : Nat} {h1 h2 h3 h4 : Int} {k1 k2 k3 k4 t1 t2 t4 : Tok} {T : Str} {n : Int} {p : Nat} {suf : List Nat} {rest : List (Addr × Obj)} (o1 : rx < rd) (o2 : rd < cx) (o3 : cx < cu) (hr : ∀ q ∈ rest, q.1 ≠ cx)
    (hT : T.length ≤ 100000) (hp : At T p (34 :: 53 :: 34 :: suf)) :
    CallOk w mean mg mb 10 100 (.ref 354) [.ref rd] ((cx, curD h1 h2 k1 k2 t1 t2 T p) :: (cu, instObj 236 cx) :: (rx, rdD h3 h4 k3 k4 t4 cu n) :: (rd, instObj 407 rx) :: rest)
      (fun C => ∀ t' t'' p', At T p' suf → C (.str ⟨#[53]⟩ t'') ((cx, curD h1 h2 k1 k2 t1 t' T p') :: (cu, instObj 236 cx) :: (rx, rdD h3 h4 k3 k4 t4 cu n) :: (rd, instObj 407 rx) :: rest)) (fun _ => True) := by
  intro dp un gd cn cs a ccd cl outer A₀ base h₀ L m s Q E B F X N Tp hk hd hu hret hrse
  dsimp only at hret hrse
  walk_at "m.enter"
  k_with_none
  k_steps
  all_goals first | exact hret _ _ _ (by assumption) _ _ (by assumption) (by walk_at "m.sub")
theorem item_ok (it : It) {rd rx cu cx : Nat} {h1 h2 h3 h4 : Int} {k1 k2 k3 k4 t1 t2 t4 : Tok} {T : Str} {n : Int} {p c : Nat} {suf : List Nat} {rest : List (Addr × Obj)} (o1 : rx < rd := by walk_at "m.om") (o2 : rd < cx := by walk_at "m.om") (o3 : cx < cu := by walk_at "m.om") (hr : ∀ q ∈ rest, q.1 ≠ cx := by k_all)
    (hT : T.length ≤ 100000 := by walk_at "m.om") (hp : At T p (itTxt it ++ c :: suf) := by assumption) (hc : ¬ (48 ≤ c ∧ c ≤ 57) := by assumption) (hok : it.Ok := by assumption) :
    CallOk w mean mg mb 10 100 (.ref 354) [.ref rd] ((cx, curD h1 h2 k1 k2 t1 t2 T p) :: (cu, instObj 236 cx) :: (rx, rdD h3 h4 k3 k4 t4 cu n) :: (rd, instObj 407 rx) :: rest)
      (fun C => ∀ v tl t' p', ItIn tl v it → At T p' (c :: suf) → (∀ q ∈ tl, cu < q.1 ∧ AllLt q.1 rest) → C v ((cx, curD h1 h2 k1 k2 t1 t' T p') :: (cu, instObj 236 cx) :: (rx, rdD h3 h4 k3 k4 t4 cu n) :: (rd, instObj 407 rx) :: (rest ++ tl))) (fun _ => True) := by
  cases it with
  | num z => exact (item_num0 o1 o2 o3 hr hT hp hok hc).weaken fun C h t' t'' p' hat => by have := h _ [] t' p' (.num z t'') hat (fun _ hq => nomatch hq); rwa [List.append_nil] at this
  | tup z zs =>
    refine (item_tup1 (z := z) (zs := zs) (suf := c :: suf) o1 o2 o3 hr hT ?_ hok.1 hok.2).weaken fun C h x vs t' p' hI hat hx hlt => h _ [(x, tupO vs)] t' p' (.tup (.head _) hI) hat fun q hq => ?_
    · have := hp
      simp only [itTxt, List.cons_append, List.append_assoc, List.nil_append] at this
      exact this
    · rw [List.mem_singleton.mp hq]; exact ⟨hx, hlt⟩
  | txt => exact (item_txt0 (suf := c :: suf) o1 o2 o3 hr hT hp).weaken fun C h t' t'' p' hat => by have := h _ [] t' p' (.txt t'') hat (fun _ hq => nomatch hq); rwa [List.append_nil] at this
end

example : True := by
  w_top off
  k_with_none
  trivial
theorem allLt_append {d : Addr} : ∀ {a b : List (Addr × Obj)}, AllLt d (a ++ b) ↔ AllLt d a ∧ AllLt d b
  | [], _ => ⟨fun h => ⟨trivial, h⟩, fun h => h.2⟩
  | p :: a, b => by
    show _ ∧ AllLt d (a ++ b) ↔ (_ ∧ AllLt d a) ∧ AllLt d b
    rw [allLt_append, and_assoc]
local macro_rules | `(tactic| k_all) => `(tactic| (intro q9 hq9; (have c9 := (by assumption : ∀ q ∈ _, _ < q.1 ∧ AllLt q.1 _) q9 hq9); simp only [AllLt, allLt_append, and_true] at c9; refine neN ?_; (try dsimp only); omega))
local macro_rules | `(tactic| k_all) => `(tactic| with_reducible assumption)
local macro_rules | `(tactic| walk_at "call ref") => `(tactic| ((with_reducible show wpAny _ _ (call (Value.ref 354) _) _ _ _); k_dflt (refine CallOk.go (N := by walk_at "m.news4") (C := item_ok _) (ret := ?_)); (try dsimp only); intro v9 tl9 t9' p9 i9 a9 b9 h9 t9 F9 N9; (simp only [List.cons_append] at N9); walk_at "m.len"))
noncomputable def itsTxt (its : List It) : List Nat := its.flatMap (fun it => 32 :: itTxt it)
theorem its_cons (r : List It) (suf : List Nat) : ∃ c s', itsTxt r ++ 10 :: suf = c :: s' ∧ ¬ (48 ≤ c ∧ c ≤ 57) := by
  cases r with
  | nil => exact ⟨10, suf, rfl, by omega⟩
  | cons it r => exact ⟨32, itTxt it ++ (itsTxt r ++ 10 :: suf), by simp [itsTxt], by omega⟩
theorem its_step (it : It) (r : List It) (suf : List Nat) : itsTxt (it :: r) ++ suf = 32 :: (itTxt it ++ (itsTxt r ++ suf)) := by simp [itsTxt]
inductive ItsIn (news : List (Addr × Obj)) : List Value → List It → Prop
  | nil : ItsIn news [] []
  | cons {v : Value} {it : It} {vs : List Value} {its : List It} : ItIn news v it → ItsIn news vs its → ItsIn news (v :: vs) (it :: its)
theorem ItsIn.mono {news news' : List (Addr × Obj)} (hs : ∀ p ∈ news, p ∈ news') {vs : List Value} {its : List It} (H : ItsIn news vs its) : ItsIn news' vs its := by
  induction H with
  | nil => exact .nil
  | cons h _ ih => exact .cons (h.mono hs) ih
theorem ItsIn.length {news : List (Addr × Obj)} {vs : List Value} {its : List It} (H : ItsIn news vs its) : vs.length = its.length := by
  induction H with
  | nil => rfl
  | cons _ _ ih => exact congrArg (· + 1) ih
theorem ItsIn.snoc {news : List (Addr × Obj)} {v : Value} {it : It} (h : ItIn news v it) {vs : List Value} {its : List It} (H : ItsIn news vs its) : ItsIn news (vs ++ [v]) (its ++ [it]) := by
  induction H with
  | nil => exact .cons h .nil
  | cons h' _ ih => exact .cons h' ih
theorem ItsIn.get {news : List (Addr × Obj)} {vs : List Value} {its : List It} (H : ItsIn news vs its) : ∀ {i : Nat} {v : Value}, vs[i]? = some v → ∃ it, its[i]? = some it ∧ ItIn news v it := by
  induction H with
  | nil => intro i v e; cases List.getElem?_nil.symm.trans e
  | cons h _ ih =>
    intro i v e
    cases i with
    | zero => exact ⟨_, rfl, Option.some.inj e ▸ h⟩
    | succ i => exact ih (i := i) e
section
variable {w : World} {mean : ExcName → Option Value} {mg mb : Str → Option Value}
theorem items_ok {its : List It} {rd rx cu cx : Nat} {h1 h2 h3 h4 : Int} {k1 k2 k3 k4 t1 t2 t4 : Tok} {T W : Str} {tw : Tok} {n : Int} {p : Nat} {suf : List Nat} {rest : List (Addr × Obj)} (o1 : rx < rd := by walk_at "m.om") (o2 : rd < cx := by walk_at "m.om") (o3 : cx < cu := by walk_at "m.om") (hr : ∀ q ∈ rest, q.1 ≠ cx := by k_all) (hr' : ∀ q ∈ rest, q.1 ≠ rx := by k_all)
    (hT : T.length ≤ 100000 := by walk_at "m.om") (hW : W.length ≤ 100 := by decide +kernel) (hp : At T p ((W ++ Str.ofString " ").cps.toList ++ (intTxt its.length ++ 58 :: (itsTxt its ++ 10 :: suf))) := by assumption) (hok : ∀ it ∈ its, it.Ok := by assumption) (hlen : its.length ≤ 10 := by walk_at "m.om") (hn : 0 ≤ n ∧ n < 100 := by walk_at "m.om") :
    CallOk w mean mg mb 14 140 (.ref 368) [.ref rd, .str W tw] ((cx, curD h1 h2 k1 k2 t1 t2 T p) :: (cu, instObj 236 cx) :: (rx, rdD h3 h4 k3 k4 t4 cu n) :: (rd, instObj 407 rx) :: rest)
      (fun C => ∀ fl vs ep tl t' t'' p', ItsIn tl vs its → At T p' suf → cu < fl → AllLt fl rest → (∀ q ∈ tl, fl < q.1 ∧ AllLt q.1 rest) →
        C (.ref fl) ((fl, listOf vs.toArray ep) :: (cx, curD h1 h2 k1 k2 t1 t' T p') :: (cu, instObj 236 cx) :: (rx, rdD h3 h4 k3 k4 t'' cu (n + 1)) :: (rd, instObj 407 rx) :: (rest ++ tl))) (fun _ => True) := by
  intro dp un gd cn cs a ccd cl outer A₀ base h₀ L m s Q E B F X N Tp hk hd hu hret hrse
  dsimp only at hret hrse
  have hl := hp.len
  have hz : ((its.length : Nat) : Int).natAbs < 10 ^ 160 := Nat.lt_of_le_of_lt (show ((its.length : Nat) : Int).natAbs ≤ 10 by omega) (by decide)
  walk_at "m.enter"
  k_with_none
  (k_with "pyIter ref" => (k_dflt (refine' range_ledA (σ := Array Value × List (Addr × Obj) × Nat × Tok × Nat) (n := its.length) (fun fl x => (fl, listOf x.1 x.2.2.1) :: (cx, curD h1 h2 k1 k2 t1 x.2.2.2.1 T x.2.2.2.2) :: (cu, instObj 236 cx) :: (rx, rdD h3 h4 k3 k4 t4 cu n) :: (rd, instObj 407 rx) :: (rest ++ x.2.1)) (fun fl i x => (cu < fl ∧ AllLt fl rest) ∧ ItsIn x.2.1 x.1.toList (its.take i) ∧ At T x.2.2.2.2 (itsTxt (its.drop i) ++ 10 :: suf) ∧ (∀ q ∈ x.2.1, fl < q.1 ∧ cu < q.1 ∧ AllLt q.1 rest)) (_, [], _, _, _) ?wF ?wN ?wI ?wh ?wr ?ws ?wn ?wT ?wD); (case wF => k_asm); (case wN => (dsimp only; rw [List.append_nil]; walk_at "m.sub")); (case wI => exact ⟨⟨by omega, by simp only [*]⟩, .nil, by assumption, fun _ hq => nomatch hq⟩); (case wh => rfl); (case wr => assumption); (case ws => exact small_one (by omega) (by omega) (by omega) (by omega)); (case wn => rw [rangeSize_nat]; omega)))
  k_steps
  · refine ⟨?_⟩
    rintro i ⟨arr, tl, ep, tk', p'⟩ tki h tk own hi ⟨hfl, hI, hat, htl⟩ hoff F9 N9
    dsimp only at hfl hI hat htl hoff N9 ⊢
    simp only [List.cons_append] at N9
    have hlenA : arr.size = i := by
      rw [← Array.length_toList, hI.length, List.length_take]; omega
    have hlat := hat.len
    have hdr : its.drop i = its[i] :: its.drop (i + 1) := (List.getElem_cons_drop hi).symm
    rw [hdr, its_step] at hat
    obtain ⟨c₂, s₂, e₂, hc₂⟩ := its_cons (its.drop (i + 1)) suf
    rw [e₂] at hat
    have hoki := hok its[i] (List.getElem_mem hi)
    simp only [List.forall_mem_cons] at hoff
    have hx1 : ∀ q ∈ rest ++ tl ++ own, q.1 ≠ cx := forall_app (forall_app hr fun q hq => Nat.ne_of_gt (Nat.lt_trans o3 (htl q hq).2.1)) fun q hq => (hoff q hq).2.1
    have hx2 : ∀ q ∈ rest ++ tl ++ own, q.1 ≠ rx := forall_app (forall_app hr' fun q hq => Nat.ne_of_gt (Nat.lt_trans (show rx < cu by omega) (htl q hq).2.1)) fun q hq => (hoff q hq).2.2.2.1
    have hx3 : ∀ q ∈ rest ++ tl ++ own, q.1 ≠ _ := forall_app (forall_app (fun q hq => Nat.ne_of_lt (ktn_ltOf hfl.2 q hq)) fun q hq => Nat.ne_of_gt (htl q hq).1) fun q hq => (hoff q hq).1
    k_steps
    rename_i v9 tl9 t9' p9 i9 a9 b9 h9 t9 l9 h' F' N'
    have htk : its.take (i + 1) = its.take i ++ [its[i]] := by rw [List.take_add_one]; simp [hi]
    refine FoEnd.next (_, tl ++ tl9, _, _, _) ?_ (by assumption) (by walk_at "m.sub") ?_
    · refine ⟨hfl, ?_, ?_, ?_⟩
      · show ItsIn (tl ++ tl9) (arr.push v9).toList (its.take (i + 1))
        rw [Array.toList_push, htk]
        exact (hI.mono (sub_left fun _ h => h)).snoc (i9.mono (sub_right fun _ h => h))
      · rw [e₂]; exact a9
      · refine forall_app htl fun q hq => ?_
        have h := b9 q hq
        simp only [AllLt, allLt_append] at h
        exact ⟨h.2.1, h.1, h.2.2.1.1⟩
    · intro p hp
      have h0 := hoff p hp
      simp only [List.forall_mem_cons] at h0 ⊢
      refine ⟨h0.1, h0.2.1, h0.2.2.1, h0.2.2.2.1, h0.2.2.2.2.1, forall_app (fun q hq => h0.2.2.2.2.2 q (List.mem_append_left _ hq)) (forall_app (fun q hq => h0.2.2.2.2.2 q (List.mem_append_right _ hq)) fun q hq => ?_)⟩
      have h := b9 q hq
      simp only [AllLt, allLt_append] at h
      exact Nat.ne_of_lt (ktn_ltOf h.2.2.2 p hp)
  · refine ⟨?_⟩
    rintro ⟨arr, tl, ep, tk', p'⟩ v' h tk ⟨hfl, hI, hat, htl⟩ F9 N9
    dsimp only at hfl hI hat htl N9 ⊢
    rw [List.drop_length] at hat
    have hat' : At T p' (10 :: suf) := hat
    rw [List.take_length] at hI
    have hx1 : ∀ q ∈ rest ++ tl, q.1 ≠ cx := forall_app hr fun q hq => Nat.ne_of_gt (Nat.lt_trans o3 (htl q hq).2.1)
    have hx2 : ∀ q ∈ rest ++ tl, q.1 ≠ rx := forall_app hr' fun q hq => Nat.ne_of_gt (Nat.lt_trans (show rx < cu by omega) (htl q hq).2.1)
    k_steps
    exact hret _ arr.toList _ tl _ _ _ hI (by assumption) hfl.1 hfl.2 (fun q hq => ⟨(htl q hq).1, (htl q hq).2.2⟩) _ _ (by assumption) (by walk_at "m.sub")
end

example : True := by
  w_top off
  k_with_none
  trivial
section
open Builtin Builtin.ObjectAttr
variable {prog : Program} {w : World} {A : Around} {K : Frag} {C : Addr} {R : Result → Shared → Prop} {h : Heap} {g : Array GenState} {d : Drawn} {t : Nat} {os : OsState}
noncomputable abbrev excEnd : List Value := [.type "Exception", .type "BaseException", .type "object"]
noncomputable def excTail : List Value → Bool
  | .ref _ :: r => excTail r
  | l => decide (l = excEnd)
theorem excTail_cases : ∀ {l : List Value}, excTail l = true → l = excEnd ∨ ∃ c r, l = .ref c :: r ∧ excTail r = true
  | [], e => nomatch e
  | .ref c :: r, e => .inr ⟨c, r, rfl, e⟩
  | v :: r, e => by cases v <;> first | exact .inr ⟨_, r, rfl, e⟩ | exact .inl (of_decide_eq_true e)
theorem excTail_refuse (self : Value) : ∀ {l : List Value}, excTail l = true → refuseLoop self "__setattr__" l = pure ()
  | l, e => by
    induction l with
    | nil => cases e
    | cons v r ih =>
      rcases excTail_cases e with q | ⟨c, r', q, e'⟩
      · rw [q]; exact PySem.F.store_Exception.passes self
      · injection q with q1 q2
        subst q1 q2
        rw [refuseLoop_ref]; exact ih e'
theorem excTail_has : ∀ {l : List Value}, excTail l = true → l.contains (.type "object") = true ∧ l.contains (.type "Exception") = true ∧ l.contains (.type "BaseException") = true ∧ l.contains (.type "AttributeError") = false ∧ l.contains (.type "NameError") = false ∧ l.isEmpty = false
  | l, e => by
    induction l with
    | nil => cases e
    | cons v r ih =>
      rcases excTail_cases e with q | ⟨c, r', q, e'⟩
      · rw [q]; decide +kernel
      · injection q with q1 q2
        subst q1 q2
        have := ih e'
        simp only [List.contains_cons, this.1, this.2.1, this.2.2.1, this.2.2.2.1, this.2.2.2.2.1, Bool.or_true, Bool.or_false]
        exact ⟨trivial, trivial, trivial, rfl, rfl, rfl⟩
noncomputable def excOver (K : Frag) (C : Addr) : Bool := match K.lookup C with
  | some ⟨.type "type", _, .cls cd, sl⟩ => !cd.abstract && !cd.hasDel && cd.hasDict && (sl.toList[4]?).join == some (.builtin "Exception.__new__") && excTail cd.mro && cd.mro.head? == some (.ref C) &&
      specialIn K (.ref C) "__call__" == some (some (.builtin "type.__call__")) && instIn K (.ref C) (.type "type") == some true
  | _ => false
structure ExcOver (M : Model) (K : Frag) (h : Heap) (C : Addr) : Prop where
  obj : ∃ od cd sl, K.lookup C = some ⟨.type "type", od, .cls cd, sl⟩ ∧ cd.abstract = false ∧ cd.hasDel = false ∧ cd.hasDict = true ∧ excTail cd.mro = true ∧ ∃ bm, cd.mro = .ref C :: bm
  here_ : ∀ {o : Obj}, K.lookup C = some o → h.get? C = some o
  made : Looks M h (Bind.madeBy (.ref C)) (some "Exception.__new__")
  base : Looks M h (Bind.staticBase (.ref C)) (.ref C)
  call : Looks M h (specialOf (.ref C) "__call__") (some (.builtin "type.__call__"))
  typ : Looks M h (isInstance (.ref C) (.type "type")) true
  sub : ∀ {b : Value} {l : Bool}, (∃ cd, clsIn K C = some cd ∧ cd.mro.contains b = l) → Looks M h (isSubtype (.ref C) b) l
  has : ∀ {cd : ClassData}, clsIn K C = some cd → excTail cd.mro = true ∧ cd.mro.contains (.ref C) = true
  some_ : ∃ cd, clsIn K C = some cd
theorem excOver_of {M : Model} (X : K.In h) (e : excOver K C = true) : ExcOver M K h C := by
  unfold excOver at e
  split at e
  · rename_i od cd sl ho
    simp only [Bool.and_eq_true, Bool.not_eq_true', beq_iff_eq] at e
    obtain ⟨⟨⟨⟨⟨⟨⟨e1, e2⟩, e0⟩, e3⟩, e4⟩, e5⟩, e6⟩, e7⟩ := e
    have hc : clsIn K C = some cd := by unfold clsIn; rw [ho]
    have hm : Looks M h (mroOf (.ref C)) cd.mro := (looks_clsIn X hc).andThen .now
    obtain ⟨l, hl⟩ : ∃ l, cd.mro = .ref C :: l := by
      cases q : cd.mro with
      | nil => rw [q] at e5; cases e5
      | cons c l => rw [q] at e5; cases e5; exact ⟨l, rfl⟩
    have made : Looks M h (Bind.madeBy (.ref C)) (some "Exception.__new__") := by
      intro A Q E s k q
      unfold Bind.madeBy
      refine wpAny_bind (hm A _ E s k ?_)
      rw [hl, List.forIn_cons]
      refine wpAny_bind (wpAny_bind (wpAny_bind (wpAny_bind (wpAny_loadPart (k _ _ (X _ _ ho)) (wpAny_pure ?_)))))
      dsimp only
      rw [← Array.getElem?_toList, e3]
      exact wpAny_pure (wpAny_pure (wpAny_pure q))
    refine ⟨⟨od, cd, sl, ho, e1, e2, e0, e4, l, hl⟩, fun ho => X _ _ ho, made, ?_, looks_specialIn X e6, looks_instIn X e7, ?_, ?_, cd, hc⟩
    · intro A Q E s k q
      unfold Bind.staticBase
      refine wpAny_bind (hm A _ E s k ?_)
      rw [hl, List.forIn_cons]
      exact wpAny_bind (wpAny_bind (wpAny_bind (made A _ E s k (wpAny_pure (wpAny_pure (wpAny_pure q))))))
    · rintro b r ⟨cd', hc', hr⟩
      rw [hc] at hc'; cases hc'
      refine looks_mroIn X ?_
      unfold mroIn; rw [hc, Option.bind_some, if_neg (by rw [(excTail_has e4).2.2.2.2.2]; decide), hr]
    · intro cd' hc'
      rw [hc] at hc'; cases hc'
      exact ⟨e4, by rw [hl]; simp⟩
  · cases e
noncomputable abbrev excT (t : Addr) : Data := .fields #[.ref t, .none, .none, .none, .bool false, .none]
theorem xnew {rest : List Value} (Y : ExcOver (model prog w) K h C)
    (hq : R (.ok (.ret (.ref (h.objs.size + 1)))) ⟨(h.push { cls := .type "tuple", data := .seq rest.toArray }).push { cls := .ref C, data := excT h.objs.size }, g, d, t, os⟩) (hrest : rest.length ≤ sizeLine) :
    codeAny (model prog w) A (.call (.builtin "Exception.__new__") ⟨.ref C :: rest, []⟩) R ⟨h, g, d, t, os⟩ := by
  have F := PySem.F.excBase_Exception
  obtain ⟨cd, hc⟩ := Y.some_
  have H := excTail_has (Y.has hc).1
  have hE := Y.sub (b := .type "Exception") ⟨cd, hc, H.2.1⟩
  have hA := Y.sub (b := .type "AttributeError") ⟨cd, hc, H.2.2.2.1⟩
  have hN := Y.sub (b := .type "NameError") ⟨cd, hc, H.2.2.2.2.1⟩
  have made := Y.made
  have base := Y.base
  obtain ⟨od, cd', sl, ho, hab, hdel, -⟩ := Y.obj
  have hT : Looks (model prog w) h (isType (.ref C)) true := (Looks.ld (part := some headPart) (Y.here_ ho)).andThen .now
  refine codeAny_call_builtin_code (Code.quiet_builtin _ F.quiet) ?_
  simp only [checkBuiltinCall, F.newKind, F.newSplit, F.newRow]
  have args : Bind.checkArgs "Exception.__new__" ⟨.any, "Exception", "Exception", .cls, [⟨"args", .varPos, false⟩, ⟨"kwargs", .varKw, false⟩]⟩ ⟨.ref C :: rest, []⟩ = pure () := by kernel_rfl
  rw [args]
  repeat (first | simp only [bne_self_eq_false, Bool.false_eq_true, if_false] | lk)
  have hends := F.ends
  refine PySem.codeAny_builtinAt F.entry ?_
  unfold Builtin.«BaseException.__new__»
  refine PySem.wpAt_bind ?_
  show PySem.wpAt _ _ _ (stack >>= _) _ _ _
  refine PySem.wpAt_bind (PySem.wpAt_stack fun p below => PySem.wpAt_of_wpAny ?_)
  wp_walk
  refine PySem.wpAt_of_wpAny ?_
  rw [F.owner]
  have here : Looks (model prog w) h (Bind.madeHere "BaseException.__new__" (.ref C)) () := base.andThen (made.andThen (Looks.of_pure (by simp only [Option.map_some, F.canon, bne_self_eq_false, Bool.false_eq_true, if_false])))
  repeat (first | simp only [Bool.not_true, bne_self_eq_false, Bool.false_eq_true, if_false] | with_reducible refine Looks.at (by assumption) ?_ | wp_step)
  refine wpAny_load (Heap.get?_push_of_some _ (Heap.get?_push_of_some _ (Y.here_ ho))) ?_
  dsimp only
  refine wpAny_pure ?_
  rw [hdel]
  refine wpAny_pure (wpAny_pure ?_)
  show R _ _
  rw [Heap.size_push]
  exact hq
theorem xmake {rest : List Value} {fI : Addr} (Y : ExcOver (model prog w) K h C) (X : K.In h) (hi : findIn K (.ref C) "__init__" = some (some (.ref fI))) (hf : typeIn K (.ref fI) = some (.type "function")) (hrest : rest.length ≤ sizeLine)
    (hq : codeAny (model prog w) (A.under (.builtin "type.__call__" ⟨.ref C :: rest, []⟩)) (.call (.ref fI) ⟨.ref (h.objs.size + 1) :: rest, []⟩) (InitBack (h.objs.size + 1) R) ⟨(h.push { cls := .type "tuple", data := .seq rest.toArray }).push { cls := .ref C, data := excT h.objs.size }, g, d, t, os⟩) :
    codeAny (model prog w) A (.call (.ref C) ⟨rest, []⟩) R ⟨h, g, d, t, os⟩ := by
  have made := Y.made
  have base := Y.base
  have call := Y.call
  have typ := Y.typ
  obtain ⟨cd, hc⟩ := Y.some_
  have H := excTail_has (Y.has hc).1
  have self := Y.sub (b := .ref C) ⟨cd, hc, (Y.has hc).2⟩
  obtain ⟨od, cd', sl, ho, hab, hdel, -⟩ := Y.obj
  have hC := Y.here_ ho
  refine codeAny_of_tree ?_
  show wpAny _ _ (callAny (.ref C) _) _ _ _
  refine nd_load hC ?_
  show wpAny _ _ (callAny.viaDunder (.ref C) _) _ _ _
  unfold callAny.viaDunder
  refine wpAny_bind (call.at ?_)
  dsimp only
  rw [tc_bind]
  refine wpAny_bind (wpAny_pure (wpAny_bind (wpAny_pure ?_)))
  refine wpAny_pure (a := Fin.again (.call (.builtin "type.__call__") ⟨.ref C :: rest, []⟩)) (And.intro rfl ?_)
  refine codeAny_call_builtin_at (Code.quiet_builtin _ (by decide +kernel)) entry_typeCall (check_slot tc_kind tc_split typ (tc_args _ _ _) ?_)
  unfold Builtin.«type.__call__»
  have hm : Looks (model prog w) h (mroOf (.ref C)) cd.mro := (looks_clsIn X hc).andThen .now
  repeat (first | simp only [H.2.2.2.2.2, Bool.false_eq_true, if_false] | with_reducible refine wpAny_call ?_ | lk)
  refine xnew Y ?_ hrest
  have k : ∀ b o, h.get? b = some o → ((h.push { cls := .type "tuple", data := .seq rest.toArray }).push { cls := .ref C, data := excT h.objs.size }).get? b = some o := fun b o e => Heap.get?_push_of_some _ (Heap.get?_push_of_some _ e)
  have hx : ((h.push { cls := .type "tuple", data := .seq rest.toArray }).push { cls := .ref C, data := excT h.objs.size }).get? (h.objs.size + 1) = some { cls := .ref C, data := excT h.objs.size } := by heap_get
  have t1 : Looks (model prog w) ((h.push { cls := .type "tuple", data := .seq rest.toArray }).push { cls := .ref C, data := excT h.objs.size }) (typeOf (.ref (h.objs.size + 1))) (.ref C) := (Looks.ld hx).andThen .now
  have s1 := self.keeps k
  have i1 := (looks_findIn (M := model prog w) X hi).keeps k
  have b1 := (bind_fn (M := model prog w) X (.ref (h.objs.size + 1)) hf).keeps k
  unfold isInstance callSpecial? specialOf
  repeat (first | with_reducible refine wpAny_call ?_ | lk)
  refine codeAny_mono hq fun r s' z => ?_
  rcases r with e | (v | _ | _ | _) <;> first | exact z | exact z.elim | skip
  obtain ⟨rfl, z⟩ := z
  exact wpAny_pure (wpAny_pure z)
theorem check_xinit {M : Model} {E : Value → Shared → Prop} {s : Shared} {x : Addr} {rest : List Value} {Q : Unit → Shared → Prop} (Y : ExcOver M K s.heap C) {ob : Obj} (hx : s.heap.get? x = some ob) (hcls : ob.cls = .ref C) (q : Q () s) :
    wpAny M A (checkBuiltinCall "Exception.__init__" ⟨.ref x :: rest, []⟩) Q E s := by
  have F := PySem.F.excBase_Exception
  obtain ⟨cd, hc⟩ := Y.some_
  have H := excTail_has (Y.has hc).1
  have t1 : Looks M s.heap (typeOf (.ref x)) (.ref C) := (Looks.ld (part := some headPart) hx).andThen (by rw [hcls]; exact .now)
  have i1 : Looks M s.heap (isInstance (.ref x) (.type "Exception")) true := t1.andThen (Y.sub ⟨cd, hc, H.2.1⟩)
  obtain ⟨hh, g, d, t, os⟩ := s
  dsimp only at hx t1 i1
  simp only [checkBuiltinCall, F.initKind, F.initSplit, F.initRow]
  have hshort := F.noStar
  obtain ⟨od, cd', sl, ho, hab, hdel, -⟩ := Y.obj
  have hC := Y.here_ ho
  dsimp only at hC
  repeat (first | with_reducible refine Looks.at (by assumption) ?_ | with_reducible refine wpAny_loadPart_at hC ?_ | wp_step)
  refine wpAny_onRaise ?_
  rw [show ∀ (a b : String) (n : Nat), Bind.check ⟨.positional, "*", "Exception", .self, [⟨"args", .varPos, false⟩]⟩ a b n (List.map (fun x => x.fst) ({ pos := Value.ref x :: rest } : Args).kw) = pure () from
    fun a b n => check_star_args _ _ _ _ _ _]
  exact wpAny_pure q
noncomputable abbrev excO (C : Addr) (dx : Option Addr) (t : Addr) : Obj := { cls := .ref C, dict := dx, data := excT t }
theorem xinit {E : Value → Shared → Prop} {s : Shared} {h₀ : Heap} {L : Addr} {m : Str → Option Value} {x t₀ : Addr} {news : List (Addr × Obj)} {rest : List Value} {Q : Value → Shared → Prop} (F : Fr h₀ L s.heap m) (X₀ : K.In h₀) (N : News h₀ L s.heap ((x, excO C none t₀) :: news))
    (hov : excOver K C = true) (hne : ∀ p ∈ news, p.1 ≠ x) (hr : rest.length ≤ sizeLine)
    (hq : ∀ h' t', x < t' → (∀ p ∈ news, p.1 < t') → Fr h₀ L h' m → News h₀ L h' ((x, excO C none t') :: (t', tupO rest) :: news) → Q .none { s with heap := h' }) :
    wpAny (model prog w) A (call (.builtin "Exception.__init__") (.ref x :: rest)) Q E s := by
  have F₀ := PySem.F.excBase_Exception
  have hx := (N _ (.head _)).1
  refine wpAny_call (codeAny_call_builtin F₀.init.plain F₀.initEntry (check_xinit (excOver_of (X₀.keeps F.keep) hov) hx rfl ?_))
  unfold Builtin.«BaseException.__init__»
  dsimp only
  rw [if_neg (by simp)]
  unfold newTuple Builtin.BaseException.bexcPut
  have he₁ := Heap.get?_push_of_some (h := s.heap) (tupO rest) hx
  have N₁ := N.push F (tupO rest)
  obtain ⟨U1, U2⟩ := news_upd (pre := [(s.heap.objs.size, tupO rest)]) (post := news) (o' := excO C none s.heap.objs.size) (f := Obj.mapFields (·.setIfInBounds 0 (.ref s.heap.objs.size))) (F.push (tupO rest)) N₁
    (fun p hp => by rw [List.mem_singleton.mp hp]; exact Nat.ne_of_gt (Heap.lt_size hx)) hne rfl rfl
  refine wpAny_bind (wpAny_newObj_type (wpAny_bind (wpAny_bind (wpAny_field he₁ rfl rfl (wpAny_bind (wpAny_setField he₁ rfl (Nat.succ_pos _) ?_))))) (by show rest.toArray.size ≤ sizeLine; rw [List.size_toArray]; exact hr))
  refine wpAny_letGo (wpAny_pure (hq _ s.heap.objs.size (Heap.lt_size hx) (fun p hp => Heap.lt_size (N p (.tail _ hp)).1) U1 fun p hp => U2 p ?_))
  rcases List.mem_cons.mp hp with rfl | hp
  · exact .tail _ (.head _)
  · rcases List.mem_cons.mp hp with rfl | hp
    · exact .head _
    · exact .tail _ (.tail _ hp)
theorem xsa_open {s : Shared} {x : Addr} {ox : Obj} {od : Option Obj} {name : Str} {tk : Tok} {v : Value} (X : K.In s.heap) (I : InstAt s.heap x ox C od) (hp : excOver K C = true) (ht : takerIn K C name = some none)
    (h : ∀ b, wpAny (model prog w) A.in1 (storeInOwnDict (.ref x) (.ref C) (.str name tk) name v b)
      (fun fin s' => match fin with | .done f => R (.ok f) s' | .again c' => c'.quiet = true ∧ codeAny (model prog w) A c' R s') (fun e s' => R (.error e) s') s) :
    codeAny (model prog w) A (.call (.builtin "object.__setattr__") ⟨[.ref x, .str name tk, v], []⟩) R s := by
  have SF := PySem.F.store_object
  have Y := excOver_of (M := model prog w) X hp
  obtain ⟨cd, hc⟩ := Y.some_
  have hmro := (Y.has hc).1
  have H := excTail_has hmro
  have sub : Looks (model prog w) s.heap (isInstance (.ref x) (.type "object")) true := I.type.andThen (Y.sub ⟨cd, hc, H.1⟩)
  refine codeAny_call_builtin SF.slot.plain SF.entry (@check_slot (model prog w) _ _ s "object.__setattr__" "object" "__setattr__" (.ref x) [.str name tk, v] [] _ SF.kind SF.split sub (SF.args (.ref x) (.str name tk) v) ?_)
  obtain ⟨attr, ha, hr⟩ := Option.bind_eq_some_iff.mp ht
  have hm : Looks (model prog w) s.heap (mroOf (.ref C)) cd.mro := (looks_clsIn X hc).andThen .now
  have L3 : Looks (model prog w) s.heap (storeTaker? attr) none := by
    cases attr with
    | none => exact .now
    | some a =>
      obtain ⟨b, hb, hr'⟩ := Option.map_eq_some_iff.mp hr
      refine (looks_takesIn X hb).andThen ?_
      cases b <;> first | exact .now | cases hr'
  rw [osa_eq, refuse_eq]
  refine wpAny_bind (wpAny_bind (I.type.here (wpAny_bind (hm.here ?_))))
  rw [excTail_refuse _ hmro]
  refine wpAny_pure (wpAny_bind (I.type.here (wpAny_bind ((looks_findIn X ha).here (wpAny_bind (L3.here ?_))))))
  exact h _
theorem xstore {M : Model} {E : Value → Shared → Prop} {s : Shared} {h₀ : Heap} {L : Addr} {m : Str → Option Value} {dx : Addr} {od od' : Obj} {es : List DictEntry} {n : Nat} {name : Str} {tk : Tok} {v : Value} {pre post : List (Addr × Obj)} {Q : Fin → Shared → Prop} (F : Fr h₀ L s.heap m)
    (N : News h₀ L s.heap (pre ++ (dx, od) :: post)) (h1 : ∀ p ∈ pre, p.1 ≠ dx) (h2 : ∀ p ∈ post, p.1 ≠ dx) (hl : (lookIn name od).isSome = true)
    (e : Obj.putName name (PyData.keyHash M.w.params name) (.str name s.toks) v od = od') (e' : od'.data = .dict es.toArray n) (hz : es.length ≤ 1000)
    (h : ∀ h', Fr h₀ L h' m → News h₀ L h' (pre ++ (dx, od') :: post) → Q (.done (.ret .none)) { s with heap := h', toks := s.toks + 1 }) :
    wpAny M A (storeInDict dx (.str name tk) name v) Q E s := by
  obtain ⟨U1, U2⟩ := news_upd (f := Obj.putName name (PyData.keyHash M.w.params name) (.str name s.toks) v) F N h1 h2 e (by obtain ⟨_, _, dd, _⟩ := od'; cases e'; rfl)
  have D := (N (dx, od) (by simp)).1
  have D' := (U2 (dx, od') (by simp)).1
  refine wpAny_bind (wpAny_pure (wpAny_bind ?_))
  unfold nsSet
  refine wpAny_bind (wpAny_bind (wpAny_askSetting (wpAny_pure (wpAny_bind (wpAny_mkText (wpAny_bind (wpAny_loadPart D ?_)))))))
  unfold lookIn at hl
  split at hl
  · rename_i es₀ n₀ q
    rw [q]
    dsimp only
    have c : (!es₀.any (·.key.isStr name) && es₀.any (·.refKey)) = false := by
      rw [← Array.any_toList, ← Array.any_toList]
      split at hl
      · rename_i en he
        rw [List.any_eq_true.mpr ⟨en, List.mem_of_find?_eq_some he, List.find?_some he⟩]; rfl
      · split at hl
        · cases hl
        · rename_i z; rw [Bool.not_eq_true] at z; rw [z, Bool.and_false]
    rw [aRefKeyMayBeTheName_at, c]
    refine wpAny_updatePart D ?_
    refine wpAny_bind (wpAny_lookBehind D' (by rw [e']; exact pastItsLine_dict (by rw [List.size_toArray, sizeLine_eq]; omega)) ?_)
    exact wpAny_pure (h _ U1 U2)
  · cases hl
theorem xset1 {E : Value → Shared → Prop} {s : Shared} {h₀ : Heap} {L : Addr} {m : Str → Option Value} {x dx t₀ : Addr} {es es' : List DictEntry} {n n' : Nat} {name : Str} {v : Value} {news : List (Addr × Obj)} {Q : Unit → Shared → Prop} (F : Fr h₀ L s.heap m) (X₀ : K.In h₀)
    (N : News h₀ L s.heap ((dx, dictOf es n) :: (x, excO C (some dx) t₀) :: news)) (hov : excOver K C = true) (hs : findIn K (.ref C) "__setattr__" = some (some (.builtin "object.__setattr__"))) (ht : takerIn K C name = some none)
    (hx : x ≠ dx) (hne : ∀ p ∈ news, p.1 ≠ dx) (hl : (getL name es).isSome = true)
    (e : (putL name (PyData.keyHash w.params name) (.str name (s.toks + 1)) v es, putN name es n) = (es', n')) (hz : es'.length ≤ 1000)
    (h : ∀ h', Fr h₀ L h' m → News h₀ L h' ((dx, dictOf es' n') :: (x, excO C (some dx) t₀) :: news) → Q () { s with heap := h', toks := s.toks + 1 + 1 }) :
    wpAny (model prog w) A (setAttr (.ref x) name v) Q E s := by
  have X := X₀.keeps F.keep
  have D := (N (dx, dictOf es n) (.head _)).1
  have I : InstAt s.heap x (excO C (some dx) t₀) C (some (dictOf es n)) := ⟨(N (x, excO C (some dx) t₀) (.tail _ (.head _))).1, rfl, rfl, D⟩
  refine set_plain X I hs (xsa_open (s := { s with toks := s.toks + 1 }) X I hov ht fun b => ?_)
  have Y := excOver_of (M := model prog w) X hov
  obtain ⟨od, cd', sl, ho, hab, hdel, hdi, -⟩ := Y.obj
  have hc : clsIn K C = some cd' := by unfold clsIn; rw [ho]
  obtain ⟨e1, e2⟩ := Prod.mk.inj e
  refine wpAny_bind (wpAny_pure (wpAny_bind (wpAny_bind (wpAny_loadPart I.at_ (wpAny_bind (looks_clsIn X hc _ _ _ _ (fun _ _ e => e) ?_))))))
  rw [hdi]
  refine wpAny_pure (a := some dx) ?_
  exact xstore (M := model prog w) (s := { s with toks := s.toks + 1 }) (pre := []) F N (fun _ h => nomatch h) (List.forall_mem_cons.mpr ⟨hx, hne⟩) hl (by rw [putName_dict]; exact congr (congrArg dictOf e1) e2) rfl hz h
theorem xset0 {E : Value → Shared → Prop} {s : Shared} {h₀ : Heap} {L : Addr} {m : Str → Option Value} {x t₀ : Addr} {name : Str} {v : Value} {news : List (Addr × Obj)} {Q : Unit → Shared → Prop} (F : Fr h₀ L s.heap m) (X₀ : K.In h₀)
    (N : News h₀ L s.heap ((x, excO C none t₀) :: news)) (hov : excOver K C = true) (hs : findIn K (.ref C) "__setattr__" = some (some (.builtin "object.__setattr__"))) (ht : takerIn K C name = some none)
    (hne : ∀ p ∈ news, p.1 ≠ x)
    (h : ∀ h' dx, x < dx → (∀ p ∈ news, p.1 < dx) → Fr h₀ L h' m → News h₀ L h' ((dx, dictOf [⟨PyData.keyHash w.params name, .str name (s.toks + 1), v⟩] 1) :: (x, excO C (some dx) t₀) :: news) → Q () { s with heap := h', toks := s.toks + 1 + 1 }) :
    wpAny (model prog w) A (setAttr (.ref x) name v) Q E s := by
  have X := X₀.keeps F.keep
  have I : InstAt s.heap x (excO C none t₀) C none := ⟨(N (x, excO C none t₀) (.head _)).1, rfl, rfl, trivial⟩
  refine set_plain X I hs (xsa_open (s := { s with toks := s.toks + 1 }) X I hov ht fun b => ?_)
  have Y := excOver_of (M := model prog w) X hov
  obtain ⟨od, cd', sl, ho, hab, hdel, hdi, -⟩ := Y.obj
  have hc : clsIn K C = some cd' := by unfold clsIn; rw [ho]
  refine wpAny_bind (wpAny_pure (wpAny_bind (wpAny_bind (wpAny_loadPart I.at_ (wpAny_bind (looks_clsIn X hc _ _ _ _ (fun _ _ e => e) ?_))))))
  rw [hdi]
  have hlt := Heap.lt_size I.at_
  have N₁ := N.push F emptyDict
  obtain ⟨U1, U2⟩ := news_upd (pre := [(s.heap.objs.size, emptyDict)]) (post := news) (o' := excO C (some s.heap.objs.size) t₀) (f := fun o => { o with dict := some s.heap.objs.size }) (F.push emptyDict) N₁
    (fun p hp => by rw [List.mem_singleton.mp hp]; exact Nat.ne_of_gt hlt) hne rfl rfl
  refine wpAny_bind (wpAny_alloc (wpAny_bind (wpAny_update (Heap.get?_push_of_some _ I.at_) ?_)))
  refine wpAny_pure (a := some s.heap.objs.size) ?_
  exact xstore (M := model prog w) (s := { s with heap := _, toks := s.toks + 1 }) (pre := []) (od := emptyDict) (es := [⟨PyData.keyHash w.params name, .str name (s.toks + 1), v⟩]) (n := 1) U1 U2 (fun _ h => nomatch h) (List.forall_mem_cons.mpr ⟨Nat.ne_of_lt hlt, fun p hp => Nat.ne_of_lt (Heap.lt_size (N p (.tail _ hp)).1)⟩) rfl (by kernel_rfl) rfl (Nat.le_add_left 1 999)
    fun h' F' N' => h h' _ hlt (fun p hp => Heap.lt_size (N p (.tail _ hp)).1) F' N'
theorem call_xcls {E : Value → Shared → Prop} {s : Shared} {h₀ : Heap} {L : Addr} {m : Str → Option Value} {news : List (Addr × Obj)} {rest : List Value} {fI : Addr} {Q : Value → Shared → Prop} (F : Fr h₀ L s.heap m) (X₀ : K.In h₀) (N : News h₀ L s.heap news)
    (hov : excOver K C = true) (hi : findIn K (.ref C) "__init__" = some (some (.ref fI))) (hf : isFn K (.ref fI) = true) (hr : rest.length ≤ sizeLine)
    (hq : ∀ x t h', (∀ p ∈ news, p.1 < x) → Fr h₀ L h' m → News h₀ L h' ((x, excO C none t) :: news) → codeAny (model prog w) (A.under (.builtin "type.__call__" ⟨.ref C :: rest, []⟩)) (.call (.ref fI) ⟨.ref x :: rest, []⟩)
      (InitBack x fun r s' => match r with | .ok (.ret v) => Q v s' | .ok _ => False | .error e => E e s') { s with heap := h' }) :
    wpAny (model prog w) A (call (.ref C) rest) Q E s := by
  obtain ⟨hh, g, d, t, os⟩ := s
  have X := X₀.keeps F.keep
  refine wpAny_call (xmake (excOver_of X hov) X hi (beq_iff_eq.mp hf) hr (hq _ hh.objs.size _ (fun p hp => Nat.lt_succ_of_lt (Heap.lt_size (N p hp).1)) ((F.push _).push _) ?_))
  have N₁ := (N.push F (tupO rest)).push (F.push _) (excO C none hh.objs.size)
  rw [Heap.size_push] at N₁
  intro p hp
  rcases List.mem_cons.mp hp with rfl | hp
  · exact N₁ _ (.head _)
  · exact N₁ _ (.tail _ (.tail _ hp))
end

example : True := by
  w_top off
  k_with_none
  trivial
theorem over_109 (p : Params) : excOver (hd.heap_39 p) 109 = true := by kernel_rfl
theorem hov_setattr (p : Params) : findIn (hd.heap_39 p) (.ref 109) "__setattr__" = some (some (.builtin "object.__setattr__")) := by kernel_rfl
theorem meta_exc : typeOf (.type "Exception") = pure (.type "type") := by kernel_rfl
local macro_rules | `(tactic| walk_at "getMethod type:Exception") => `(tactic| (k_here; refine' method_type ?F ?X ?m (by decide +kernel) ?e ?h ?_; (case F => k_asm); (case X => k_asm); (case m => exact meta_exc); (case e => k_dflt k_is); (case h => k_handed)))
section
variable {w : World} {mean : ExcName → Option Value} {mg mb : Str → Option Value}
theorem err_ok {W : Str} {tw : Tok} {q : Addr} {news : List (Addr × Obj)} :
    CallOk w mean mg mb 4 40 (.ref 109) [.str W tw, .ref q] news
      (fun C => ∀ x t dx d, (∀ p ∈ news, p.1 < x) → (∀ p ∈ news, p.1 < t) → x < t → C (.ref x) ((x, excO 109 (some dx) t) :: (t, tupO [.str W tw]) :: (dx, d) :: news)) (fun _ => True) := by
  intro dp un gd cn cs a ccd cl outer A₀ base h₀ L m s Q E B F X N Tp hk hd hu hret hrse
  dsimp only at hret hrse
  k_dflt (refine' call_xcls F X N ?a ?b ?c (Nat.le_trans (show [Value.str W tw, .ref q].length ≤ 2 from Nat.le_refl _) (by rw [sizeLine_eq]; decide)) ?_; (case a => exact over_109 _); (case b => k_is); (case c => k_is))
  intro x t h' hlt F9 N9
  (k_dflt (refine' code_def ?k1 ?k2 ?k3 ?k4 ?k5 ?kA ?kF ?kK ?k6 ?k7 ?k8 ?k9 ?kB ?_ ?c2 ?c3 ?c4 ?c5; (case kA => exact rfl); (case kF => exact rfl); (case kK => assumption); (case k1 => k_asm); (case k2 => k_asm); (case k3 => k_asm); (case k4 => k_asm); (case k5 => k_asm); (case k6 => k_is); (case k7 => k_is); (case k8 => walk_at "m.room"); (case k9 => first | exact BindsTo.of_eq rfl | exact binds_K (by k_in) rfl (by k_is) rfl rfl rfl); (case c5 => decide); (case kB => exact locs rfl); (case c2 => exact rfl); (case c3 => exact rfl); (case c4 => exact rfl); k_whole; intro _ _ _ _ _ _ _ _ _; (try dsimp only); (try k_fold)))
  k_with_none
  k_steps
  refine xinit (by assumption) (by assumption) (by assumption) (over_109 _) (fun p hp => Nat.ne_of_lt (hlt p hp)) (Nat.le_trans (show [Value.str W tw].length ≤ 1 from Nat.le_refl _) (by rw [sizeLine_eq]; decide)) ?_
  intro h8 t8 l8 l8' F8 N8
  k_steps
  refine xset0 (by assumption) (by assumption) N8 (over_109 _) (hov_setattr _) (by rfl) (List.forall_mem_cons.mpr ⟨Nat.ne_of_gt l8, fun p hp => Nat.ne_of_lt (hlt p hp)⟩) ?_
  intro h7 dx l7 l7' F7 N7
  simp only [List.forall_mem_cons] at l7'
  k_steps
  refine xset1 (by assumption) (by assumption) N7 (over_109 _) (hov_setattr _) (by rfl) (Nat.ne_of_lt l7) (List.forall_mem_cons.mpr ⟨Nat.ne_of_lt l7'.1, fun p hp => Nat.ne_of_lt (l7'.2 p hp)⟩) (by rfl) (by rfl) (Nat.le_of_ble_eq_true rfl) ?_
  intro h6 F6 N6
  k_steps
  exact hret x t8 dx _ hlt l8' l8 _ _ (by assumption) (by walk_at "m.sub")
end

example : True := by
  w_top off
  k_with_none
  trivial
local macro_rules | `(tactic| walk_at "call ref") => `(tactic| ((with_reducible show wpAny _ _ (call (Value.ref 109) _) _ _ _); k_dflt (refine CallOk.go (N := by k_asm) (C := err_ok) (ret := ?_)); (try dsimp only); intros))
section
variable {w : World} {mean : ExcName → Option Value} {mg mb : Str → Option Value}
theorem xraise {prog : Program} {K : Frag} {C : Addr} {A : Around} {E : Value → Shared → Prop} {s : Shared} {env : Env} {ex : Expr} {pos : Pos} {Q : Flow → Shared → Prop} (hov : excOver K C = true) (hh : A.handled = none)
    (h : wpAny (model prog w) A (eval ex env) (fun v s₁ => ∃ e dx t, v = .ref e ∧ K.In s₁.heap ∧ s₁.heap.get? e = some (excO C dx t) ∧ E (.ref e) s₁) E s) :
    wpAny (model prog w) A (exec (.Raise (some ex) none pos) env) Q E s := by
  show wpAny _ _ (do standAt pos; raiseStmt env (some (do let v ← eval ex env; standAt pos; pure v)) none) Q E s
  refine wpAny_bind (wpAny_standAt ?_)
  unfold raiseStmt
  dsimp only
  refine wpAny_bind (wpAny_bind (wpAny_mono h (fun v s₁ h₁ => wpAny_bind (wpAny_standAt (wpAny_pure ?_))) fun _ _ x => x))
  obtain ⟨e, dx, t, rfl, X, he, hE⟩ := h₁
  have Y := excOver_of (M := model prog w) X hov
  obtain ⟨cd, hc⟩ := Y.some_
  have H := excTail_has (Y.has hc).1
  have hB := Y.sub (b := .type "BaseException") ⟨cd, hc, H.2.2.1⟩
  have t1 : Looks (model prog w) s₁.heap (typeOf (.ref e)) (.ref C) := (Looks.ld (part := some headPart) he).andThen .now
  obtain ⟨od, cd', sl, ho, hab, hdel, -⟩ := Y.obj
  have hC := Y.here_ ho
  obtain ⟨hp, g, d, tk, os⟩ := s₁
  dsimp only at *
  repeat (first | with_reducible refine Looks.at (by assumption) ?_ | with_reducible refine wpAny_loadPart_at he ?_ | with_reducible refine wpAny_loadPart_at hC ?_ | wp_step)
  exact wpAny_raiseNew_none hh hE
theorem leave_raiseX {M : Model} {A : Around} {E : Value → Shared → Prop} {s' : Shared} {base g : Heap} {outer : List Env} {L a e t C : Addr} {dx : Option Addr} {m : Str → Option Value} {name : Str} {scope : Scope} {cd : Value} {Q : Unit → Shared → Prop} {news : List (Addr × Obj)} {vs : List Value}
    (K : Below A base outer g) (F : Fr g L s'.heap m) (N : News g L s'.heap ((e, excO C dx t) :: (t, tupO vs) :: news)) (he : ∀ q ∈ news, q.1 ≠ e) (ht : ∀ q ∈ news, q.1 ≠ t)
    (hQ : ∀ h' t, RaisedS base g outer e (.ref C) t vs news h' → g.UpToSlots h' → Q () { s' with heap := h' }) (hk : scope.kind = .function := by rfl) :
    wpAny M (A.deeper (envOf name scope L a cd)) (leaving (envOf name scope L a cd) (.ref e)) Q E s' := by
  have K' := K.push (name := name) (a := a) (cd := cd) F hk
  obtain ⟨n1, n2, n3⟩ := N _ (.head _)
  obtain ⟨m1, m2, m3⟩ := N (t, tupO vs) (.tail _ (.head _))
  dsimp only at n1 n2 n3 m1 m2 m3
  let hid : List Addr := e :: t :: (envOf name scope L a cd :: outer).filterMap (·.frame)
  have hin : ∀ env ∈ (envOf name scope L a cd :: outer), ∀ b, env.frame = some b → b ∈ hid := fun env he b hb => .tail _ (.tail _ (List.mem_filterMap.mpr ⟨env, he, hb⟩))
  have be := fresh_of_stays K.stays n3
  have bt := fresh_of_stays K.stays m3
  have st : base.StaysIn (hideAll s'.heap hid) := fun b o q => hideAll_get _ (K'.stays b o q) fun hm => by
    rcases List.mem_cons.mp hm with rfl | hm
    · rw [be] at q; cases q
    · rcases List.mem_cons.mp hm with rfl | hm
      · rw [bt] at q; cases q
      · rw [(K'.frames.mem hm).1] at q; cases q
  have sg : ∀ b o, g.get? b = some o → b ∉ outer.filterMap (·.frame) → (hideAll s'.heap hid).get? b = some o := fun b o q nm => hideAll_get _ (F.keep b o q) fun hm => by
    rcases List.mem_cons.mp hm with rfl | hm
    · rw [n3] at q; cases q
    · rcases List.mem_cons.mp hm with rfl | hm
      · rw [m3] at q; cases q
      · rcases kts_mem hm with z | z
        · rw [z, kts_self F] at q
          cases q
        · exact nm z
  have hl : ∀ q ∈ news, (hideAll s'.heap hid).get? q.1 = some q.2 ∧ g.get? q.1 = none ∧ base.get? q.1 = none := fun q hq => by
    have Nq := N q (.tail _ (.tail _ hq))
    refine ⟨hideAll_get _ Nq.1 fun hm => ?_, Nq.2.2, fresh_of_stays K.stays Nq.2.2⟩
    rcases List.mem_cons.mp hm with z | hm
    · exact he q hq z
    · rcases List.mem_cons.mp hm with z | hm
      · exact ht q hq z
      · obtain ⟨env, he, hf⟩ := List.mem_filterMap.mp hm
        rcases List.mem_cons.mp he with rfl | he
        · exact Nq.2.1 (Option.some.inj hf).symm
        · obtain ⟨o, ho, _⟩ := (K.frames.mem (List.mem_filterMap.mpr ⟨env, he, hf⟩)).2
          rw [Nq.2.2] at ho; cases ho
  refine wpAny_leaving_firstW (base := hideAll s'.heap hid) (a0 := .ref t) K'.stack (funFrames_hide K'.frames hin) rfl n1 (fun b o q => of_hideAll _ q) (hideAll_none _ (.head _)) rfl rfl rfl fun h' hL => ?_
  obtain ⟨k1, ⟨_, _, k2⟩, k3, k4⟩ := hL
  exact hQ h' t ⟨⟨_, st, sg, hl, ⟨k1, hideAll_none _ (.head _), k2, k3⟩, hideAll_none _ (.tail _ (.head _))⟩, Heap.TupAt.of_slots ⟨_, _, m1, rfl, rfl⟩ k4⟩ ((Heap.UpToSlots.of_keeps F.keep).trans k4)
structure XRaised (P : Params) (E : Value → Shared → Prop) (v : Value) (s : Shared) : Prop where
  out : ∃ e dx t, v = .ref e ∧ (hd.heap_39 P).In s.heap ∧ s.heap.get? e = some (excO 109 dx t) ∧ E (.ref e) s
theorem xraiseT {A : Around} {E : Value → Shared → Prop} {s : Shared} {env : Env} {ex : Expr} {pos : Pos} {Q : Flow → Shared → Prop} (hh : A.handled = none)
    (h : wpAny (model PySem.Challenge.rw_sf0019_01.row.prog w) A (eval ex env) (XRaised w.params E) E s) :
    wpAny (model PySem.Challenge.rw_sf0019_01.row.prog w) A (exec (.Raise (some ex) none pos) env) Q E s := xraise (over_109 _) hh (wpAny_mono h (fun _ _ z => z.out) fun _ _ z => z)
end

example : True := by
  w_top off
  k_with_none
  trivial
local macro_rules | `(tactic| walk_at "exec Raise some none") => `(tactic| (k_here; (with_reducible show wpAny _ _ (exec (Stmt.Raise (some (Expr.Call (Expr.Name (PySem.Str.ofString "TableError") _) _ [] _)) none _) _) _ _ _); k_dflt (refine' xraiseT ?xh ?_; (case xh => exact rfl))))
local macro_rules | `(tactic| walk_at "call ref") => `(tactic| ((with_reducible show wpAny _ _ (call (Value.ref 205) _) _ _ _); k_dflt (refine CallOk.go (C := position_ok) (ret := ?_)); walk_at "m.fin"))
section
variable {w : World} {mean : ExcName → Option Value} {mg mb : Str → Option Value}
theorem fail_ok {rd rx cu cx : Nat} {h1 h2 h3 h4 : Int} {k1 k2 k3 k4 t1 t2 t4 : Tok} {T : Str} {n : Int} {p : Nat} {W : Str} {tw : Tok} {rest : List (Addr × Obj)} (o1 : rx < rd := by walk_at "m.om") (o2 : rd < cx := by walk_at "m.om") (o3 : cx < cu := by walk_at "m.om") (hr : ∀ q ∈ rest, q.1 ≠ cx := by k_all)
    (hT : T.length ≤ 100000 := by walk_at "m.om") (hp : p ≤ T.length := by walk_at "m.om") :
    CallOk w mean mg mb 8 80 (.ref 318) [.ref rd, .str W tw] ((cx, curD h1 h2 k1 k2 t1 t2 T p) :: (cu, instObj 236 cx) :: (rx, rdD h3 h4 k3 k4 t4 cu n) :: (rd, instObj 407 rx) :: rest)
      (fun _ => True) (fun C => C ((cx, curD h1 h2 k1 k2 t1 t2 T p) :: (cu, instObj 236 cx) :: (rx, rdD h3 h4 k3 k4 t4 cu n) :: (rd, instObj 407 rx) :: rest)) := by
  intro dp un gd cn cs a ccd cl outer A₀ base h₀ L m s Q E B F X N Tp hk hd hu hret hrse
  dsimp only at hret hrse
  walk_at "m.enter"
  k_with_none
  k_steps
  rename_i x9 t9 d9 o9 l9 l9' l9'' h9 k9 F9 N9
  refine ⟨_, _, _, rfl, Frag.In.keeps (by assumption) F9.keep, (N9 _ (.head _)).1, ?_⟩
  show wpAny _ _ (leaving _ _) _ _ _
  refine leave_raiseX (t := t9) (vs := [.str W tw]) (dx := some d9) (news := (cx, curD h1 h2 k1 k2 t1 t2 T p) :: (cu, instObj 236 cx) :: (rx, rdD h3 h4 k3 k4 t4 cu n) :: (rd, instObj 407 rx) :: rest) (by assumption) (by assumption) (by walk_at "m.sub") (fun q hq => Nat.ne_of_lt (l9 q hq)) (fun q hq => Nat.ne_of_lt (l9' q hq)) ?_
  intro h8 t8 R8 U8
  exact hrse _ _ _ _ _ _ (by assumption) R8 U8
end

example : True := by
  w_top off
  k_with_none
  trivial
section
variable {w : World} {mean : ExcName → Option Value} {mg mb : Str → Option Value}
theorem reader_ok {T : Str} {tT : Tok} {rest : List (Addr × Obj)} :
    CallOk w mean mg mb 8 80 (.ref 407) [.str T tT] rest
      (fun C => ∀ (rx rd cx cu : Nat) h1 h2 h3 h4 k1 k2 k3 k4 t1 t2 t4, AllLt rx rest → AllLt rd rest → AllLt cx rest → AllLt cu rest → rx < rd → rd < cx → cx < cu →
        C (.ref rd) ((cx, curD h1 h2 k1 k2 t1 t2 T (0 : Nat)) :: (cu, instObj 236 cx) :: (rx, rdD h3 h4 k3 k4 t4 cu (0 : Nat)) :: (rd, instObj 407 rx) :: rest)) (fun _ => True) := by
  intro dp un gd cn cs a ccd cl outer A₀ base h₀ L m s Q E B F X N Tp hk hd hu hret hrse
  dsimp only at hret hrse
  k_dflt (refine' call_cls F X N ?a ?b ?c ?_; (case a => k_is); (case b => k_is); (case c => k_is))
  intro rd rx h9 F9 N9 l1 l2
  have hr : ∀ q ∈ rest, q.1 ≠ rx := fun q hq => Nat.ne_of_lt (l1 q hq)
  have l1' : AllLt rx rest := allLt_of l1
  k_lt2 l2
  (k_dflt (refine' code_def ?k1 ?k2 ?k3 ?k4 ?k5 ?kA ?kF ?kK ?k6 ?k7 ?k8 ?k9 ?kB ?_ ?c2 ?c3 ?c4 ?c5; (case kA => exact rfl); (case kF => exact rfl); (case kK => assumption); (case k1 => k_asm); (case k2 => k_asm); (case k3 => k_asm); (case k4 => k_asm); (case k5 => k_asm); (case k6 => k_is); (case k7 => k_is); (case k8 => walk_at "m.room"); (case k9 => first | exact BindsTo.of_eq rfl | exact binds_K (by k_in) rfl (by k_is) rfl rfl rfl); (case c5 => decide); (case kB => exact locs rfl); (case c2 => exact rfl); (case c3 => exact rfl); (case c4 => exact rfl); k_whole; intro _ _ _ _ _ _ _ _ _; (try dsimp only); (try k_fold)))
  k_with_none
  k_steps
  rename (_ : Nat) < (_ : Nat) => l3
  obtain ⟨a1, a2, a3⟩ := ‹(_ < _ ∧ _ < _ ∧ AllLt _ rest)›
  exact hret rx rd _ _ _ _ _ _ _ _ _ _ _ _ _ l1' (allLt_of fun p hp => Nat.lt_trans (l1 p hp) l2) a3 (allLt_of fun p hp => Nat.lt_trans (ktn_ltOf a3 p hp) l3) l2 a1 l3 _ _ (by assumption) (by walk_at "m.sub")
end

example : True := by
  w_top off
  k_with_none
  trivial
section
variable {w : World} {mean : ExcName → Option Value} {mg mb : Str → Option Value}
theorem finish_ok {rd rx cu cx : Nat} {h1 h2 h3 h4 : Int} {k1 k2 k3 k4 t1 t2 t4 : Tok} {T : Str} {p : Nat} {rest : List (Addr × Obj)} (o1 : rx < rd := by walk_at "m.om") (o2 : rd < cx := by walk_at "m.om") (o3 : cx < cu := by walk_at "m.om") (hr : ∀ q ∈ rest, q.1 ≠ cx := by k_all) (hr' : ∀ q ∈ rest, q.1 ≠ rx := by k_all)
    (hT : T.length ≤ 100000 := by walk_at "m.om") (hp : At T p ((Str.ofString "end ").cps.toList ++ (intTxt 2 ++ 10 :: [])) := by assumption) :
    CallOk w mean mg mb 8 80 (.ref 397) [.ref rd] ((cx, curD h1 h2 k1 k2 t1 t2 T p) :: (cu, instObj 236 cx) :: (rx, rdD h3 h4 k3 k4 t4 cu 1) :: (rd, instObj 407 rx) :: rest)
      (fun C => ∀ t' t'' p', C .none ((cx, curD h1 h2 k1 k2 t1 t' T p') :: (cu, instObj 236 cx) :: (rx, rdD h3 h4 k3 k4 t'' cu (1 + 1)) :: (rd, instObj 407 rx) :: rest)) (fun _ => True) := by
  intro dp un gd cn cs a ccd cl outer A₀ base h₀ L m s Q E B F X N Tp hk hd hu hret hrse
  dsimp only at hret hrse
  have hl := hp.len
  rw [List.length_append, List.length_append] at hl
  have hz : ((2 : Int)).natAbs < 10 ^ 160 := by decide
  walk_at "m.enter"
  k_with_none
  k_steps
  exact hret _ _ _ _ _ (by assumption) (by walk_at "m.sub")
end

example : True := by
  w_top off
  k_with_none
  trivial
noncomputable def B5 : Nat := 2 ^ 500
theorem B5_two : 2 ≤ B5 := by decide +kernel
theorem B5_lt : B5 < 10 ^ 160 := by decide +kernel
noncomputable def valB : List Nat → Nat
  | [] => 0
  | p :: r => p + B5 * valB r
theorem valB_snoc : ∀ (l : List Nat) (q : Nat), valB (l ++ [q]) = valB l + q * B5 ^ l.length
  | [], q => by show q + B5 * 0 = 0 + q * B5 ^ 0; simp
  | p :: r, q => by
    show p + B5 * valB (r ++ [q]) = p + B5 * valB r + q * B5 ^ (r.length + 1)
    rw [valB_snoc r q, Nat.mul_add, Nat.pow_succ, Nat.add_assoc, Nat.mul_comm B5 (q * _), Nat.mul_assoc]
theorem valB_div {p : Nat} {r : List Nat} (h : p < B5) : (p + B5 * valB r) / B5 = valB r := by
  rw [Nat.add_mul_div_left _ _ (Nat.lt_of_lt_of_le (by decide) B5_two), Nat.div_eq_of_lt h, Nat.zero_add]
theorem valB_mod {p : Nat} {r : List Nat} (h : p < B5) : (p + B5 * valB r) % B5 = p := by
  rw [Nat.add_mul_mod_self_left, Nat.mod_eq_of_lt h]
def Good (ps : List Nat) : Prop := ps ≠ [] ∧ (∀ p ∈ ps, p < B5) ∧ (1 < ps.length → ∃ p, ps.getLast? = some p ∧ 1 ≤ p)
theorem valB_lt : ∀ {l : List Nat}, (∀ p ∈ l, p < B5) → valB l < B5 ^ l.length
  | [], _ => by decide
  | p :: r, h => by
    have h1 := h p (.head _)
    have h2 := valB_lt (l := r) fun q hq => h q (.tail _ hq)
    show p + B5 * valB r < B5 ^ (r.length + 1)
    rw [Nat.pow_succ, Nat.mul_comm (B5 ^ _)]
    calc p + B5 * valB r < B5 + B5 * valB r := Nat.add_lt_add_right h1 _
      _ = B5 * (valB r + 1) := by rw [Nat.mul_add, Nat.mul_one, Nat.add_comm]
      _ ≤ B5 * B5 ^ r.length := Nat.mul_le_mul_left _ h2
theorem valB_pos : ∀ {l : List Nat}, l ≠ [] → (∃ p, l.getLast? = some p ∧ 1 ≤ p) → 0 < valB l
  | [], h, _ => absurd rfl h
  | [p], _, ⟨q, e, h⟩ => by
    have e' : p = q := by simpa using e
    subst e'
    exact Nat.lt_of_lt_of_le h (Nat.le_add_right p _)
  | p :: q :: r, _, h => by
    have := valB_pos (l := q :: r) (by simp) (by obtain ⟨z, e, hz⟩ := h; exact ⟨z, by rwa [List.getLast?_cons_cons] at e, hz⟩)
    show 0 < p + B5 * valB (q :: r)
    have := Nat.mul_pos (Nat.lt_of_lt_of_le (show 0 < 2 by decide) B5_two) this
    omega
theorem or_add {a b k : Nat} (h : a < B5 ^ k) : a ||| b * B5 ^ k = a + b * B5 ^ k := by
  have e : B5 ^ k = 2 ^ (500 * k) := by rw [B5, ← Nat.pow_mul]
  rw [e] at h ⊢
  rw [Nat.mul_comm, Nat.or_comm, ← Nat.two_pow_add_eq_or_of_lt h, Nat.add_comm]
theorem bitOr_nat (a b : Nat) : Builtin.bitOr (a : Int) (b : Int) = ((a ||| b : Nat) : Int) := by
  unfold Builtin.bitOr Builtin.bitAnd Builtin.bitNot
  rw [decide_eq_false (show ¬ 0 ≤ -(a : Int) - 1 by omega), decide_eq_false (show ¬ 0 ≤ -(b : Int) - 1 by omega)]
  dsimp only
  rw [show (-(-(a : Int) - 1) - 1).toNat = a by omega, show (-(-(b : Int) - 1) - 1).toNat = b by omega]
  omega
theorem bitAnd_nat (a b : Nat) : Builtin.bitAnd (a : Int) (b : Int) = ((a &&& b : Nat) : Int) := by
  unfold Builtin.bitAnd
  rw [decide_eq_true (show 0 ≤ (a : Int) by omega), decide_eq_true (show 0 ≤ (b : Int) by omega)]
  rfl
section
variable {prog : Program} {w : World} {A : Around} {E : Value → Shared → Prop} {s : Shared} {Q : Value → Shared → Prop}
theorem rsh_nat {n : Nat} {t u : Tok} (h : Q (.int ((n / B5 : Nat) : Int) s.toks) { s with toks := s.toks + 1 }) : wpAny (model prog w) A (binaryOp .RShift (.int (n : Int) t) (.int 500 u)) Q E s := by
  refine rshift_int (by decide) ?_
  rw [show (n : Int).fdiv (2 ^ (500 : Int).toNat) = ((n / B5 : Nat) : Int) from by
    rw [Int.fdiv_eq_ediv_of_nonneg _ (Int.le_of_lt (Int.pow_pos (by decide))), Int.natCast_ediv, B5]
    rfl]
  exact h
theorem mask_nat {n : Nat} {t u : Tok} (h : Q (.int ((n % B5 : Nat) : Int) s.toks) { s with toks := s.toks + 1 }) : wpAny (model prog w) A (binaryOp .BitAnd (.int (n : Int) t) (.int ((B5 : Int) - 1) u)) Q E s := by
  refine and_int ?_
  rw [show ((B5 : Int) - 1) = ((B5 - 1 : Nat) : Int) from by have := B5_two; omega, bitAnd_nat, B5, Nat.and_two_pow_sub_one_eq_mod]
  exact h
theorem lsh_one {t u : Tok} (h : Q (.int (B5 : Int) s.toks) { s with toks := s.toks + 1 }) : wpAny (model prog w) A (binaryOp .LShift (.int 1 t) (.int 500 u)) Q E s := by
  refine lshift_int_small (by decide) (by decide) (by decide) ?_
  rw [show (1 : Int) * 2 ^ (500 : Int).toNat = (B5 : Int) from by rw [Int.one_mul, B5]; rfl]
  exact h
theorem lsh_part {p k : Nat} {t u : Tok} (hp : p < B5) (hk : k ≤ 4) (h : Q (.int ((p * B5 ^ k : Nat) : Int) s.toks) { s with toks := s.toks + 1 }) : wpAny (model prog w) A (binaryOp .LShift (.int (p : Int) t) (.int (500 * (k : Int)) u)) Q E s := by
  refine lshift_int (by omega) ?_ ?_
  · have hb : Builtin.Int.intBits (p : Int) ≤ 501 := by
      unfold Builtin.Int.intBits
      split
      · exact Nat.zero_le _
      · rename_i hne
        have hp0 : p ≠ 0 := fun e => hne (by rw [e]; rfl)
        rw [show ((p : Int).natAbs) = p from rfl]
        have : p.log2 < 500 := (Nat.log2_lt hp0).mpr hp
        omega
    omega
  · rw [show (p : Int) * 2 ^ (500 * (k : Int)).toNat = ((p * B5 ^ k : Nat) : Int) from by
      rw [show (500 * (k : Int)).toNat = 500 * k by omega, B5, ← Nat.pow_mul, Int.natCast_mul, Int.natCast_pow]
      rfl]
    exact h
theorem or_part {a b k : Nat} {t u : Tok} (ha : a < B5 ^ k) (h : Q (.int ((a + b * B5 ^ k : Nat) : Int) s.toks) { s with toks := s.toks + 1 }) : wpAny (model prog w) A (binaryOp .BitOr (.int (a : Int) t) (.int ((b * B5 ^ k : Nat) : Int) u)) Q E s := by
  refine or_int ?_
  rw [bitOr_nat, or_add ha]
  exact h
theorem rsh_val {p : Nat} {r : List Nat} {t u : Tok} (hp : p < B5) (h : Q (.int (valB r : Nat) s.toks) { s with toks := s.toks + 1 }) : wpAny (model prog w) A (binaryOp .RShift (.int (valB (p :: r) : Nat) t) (.int 500 u)) Q E s :=
  rsh_nat (by rw [show valB (p :: r) / B5 = valB r from valB_div hp]; exact h)
theorem mask_val {p : Nat} {r : List Nat} {t u : Tok} (hp : p < B5) (h : Q (.int (p : Nat) s.toks) { s with toks := s.toks + 1 }) : wpAny (model prog w) A (binaryOp .BitAnd (.int (valB (p :: r) : Nat) t) (.int ((B5 : Int) - 1) u)) Q E s :=
  mask_nat (by rw [show valB (p :: r) % B5 = p from valB_mod hp]; exact h)
theorem rsh_small {p : Nat} {t u : Tok} (hp : p < B5) (h : Q (.int 0 s.toks) { s with toks := s.toks + 1 }) : wpAny (model prog w) A (binaryOp .RShift (.int (p : Nat) t) (.int 500 u)) Q E s :=
  rsh_nat (by rw [Nat.div_eq_of_lt hp]; exact h)
end

example : True := by
  w_top off
  k_with_none
  trivial
local macro_rules | `(tactic| walk_at "binaryOp RShift int int") => `(tactic| (k_here; (with_reducible refine rsh_val (by assumption) ?_)))
local macro_rules | `(tactic| walk_at "binaryOp BitAnd int int") => `(tactic| (k_here; (with_reducible refine mask_val (by assumption) ?_)))
local macro_rules | `(tactic| walk_at "binaryOp LShift int int") => `(tactic| (k_here; (with_reducible refine lsh_one ?_)))
local macro_rules | `(tactic| walk_at "compareOp Eq ref ref") => `(tactic| (k_here; (with_reducible show wpAny _ _ (compareOp CmpOp.Eq (Value.ref _) (Value.ref _)) _ _ _); k_dflt (refine ke_eq_ints (by is_list) (by is_list) (by l_ints) (by l_ints) (by walk_at "m.units") ?_)))
section
variable {w : World} {mean : ExcName → Option Value} {mg mb : Str → Option Value}
noncomputable def itOf : List Nat → It
  | [] => .num 0
  | [p] => .num p
  | p :: q :: r => .tup p ((q :: r).map Int.ofNat)
theorem valB_one (p : Nat) : valB [p] = p := by show p + B5 * 0 = p; rw [Nat.mul_zero, Nat.add_zero]
theorem mask_item_ok {ps : List Nat} {t0 : Tok} {rest : List (Addr × Obj)} (hg : Good ps := by assumption) (hlen : ps.length ≤ 4 := by assumption) :
    CallOk w mean mg mb 4 110 (.ref 28) [.int (valB ps : Nat) t0] rest
      (fun C => ∀ v tl, ItIn tl v (itOf ps) → (∀ q ∈ tl, AllLt q.1 rest) → C v (rest ++ tl)) (fun _ => True) := by
  intro dp un gd cn cs a ccd cl outer A₀ base h₀ L m s Q E B F X N Tp hk hd hu hret hrse
  dsimp only at hret hrse
  obtain ⟨hne, hb, hl⟩ := hg
  rcases ps with _ | ⟨p0, _ | ⟨p1, _ | ⟨p2, _ | ⟨p3, _ | ⟨p4, r⟩⟩⟩⟩⟩
  · exact absurd rfl hne
  · have b0 := hb p0 (by simp)
    have z0 : valB [] = 0 := rfl
    walk_at "m.enter"
    k_with_none
    k_steps
    exact hret _ [] (show ItIn [] _ (.num _) from .num _ _) (fun _ hq => nomatch hq) _ _ (by assumption) (by rw [List.append_nil]; walk_at "m.sub")
  · have z0 : valB [] = 0 := rfl
    have b0 := hb p0 (by simp)
    have b1 := hb p1 (by simp)
    have z1 : 0 < valB [p1] := valB_pos (by simp) (by simpa using hl (by simp))
    walk_at "m.enter"
    k_with_none
    k_steps
    rename Fr h₀ _ _ _ => F9
    rename News h₀ _ _ _ => N9
    simp only [valB_one] at N9
    exact hret _ [(_, tupO [.int (p0 : Nat) _, .int (p1 : Nat) _])] (show ItIn _ _ (.tup _ _) from .tup (.head _) (.cons _ _ (.cons _ _ .nil))) (fun q hq => by rw [List.mem_singleton.mp hq]; simp only [*]) _ _ (by assumption) (by walk_at "m.sub")
  · have z0 : valB [] = 0 := rfl
    have b0 := hb p0 (by simp)
    have b1 := hb p1 (by simp)
    have b2 := hb p2 (by simp)
    have z1 : 0 < valB [p1, p2] := valB_pos (by simp) (by simpa using hl (by simp))
    have z2 : 0 < valB [p2] := valB_pos (by simp) (by simpa using hl (by simp))
    walk_at "m.enter"
    k_with_none
    k_steps
    rename Fr h₀ _ _ _ => F9
    rename News h₀ _ _ _ => N9
    simp only [valB_one] at N9
    exact hret _ [(_, tupO [.int (p0 : Nat) _, .int (p1 : Nat) _, .int (p2 : Nat) _])] (show ItIn _ _ (.tup _ _) from .tup (.head _) (.cons _ _ (.cons _ _ (.cons _ _ .nil)))) (fun q hq => by rw [List.mem_singleton.mp hq]; simp only [*]) _ _ (by assumption) (by walk_at "m.sub")
  · have z0 : valB [] = 0 := rfl
    have b0 := hb p0 (by simp)
    have b1 := hb p1 (by simp)
    have b2 := hb p2 (by simp)
    have b3 := hb p3 (by simp)
    have z1 : 0 < valB [p1, p2, p3] := valB_pos (by simp) (by simpa using hl (by simp))
    have z2 : 0 < valB [p2, p3] := valB_pos (by simp) (by simpa using hl (by simp))
    have z3 : 0 < valB [p3] := valB_pos (by simp) (by simpa using hl (by simp))
    walk_at "m.enter"
    k_with_none
    k_steps
    rename Fr h₀ _ _ _ => F9
    rename News h₀ _ _ _ => N9
    simp only [valB_one] at N9
    exact hret _ [(_, tupO [.int (p0 : Nat) _, .int (p1 : Nat) _, .int (p2 : Nat) _, .int (p3 : Nat) _])] (show ItIn _ _ (.tup _ _) from .tup (.head _) (.cons _ _ (.cons _ _ (.cons _ _ (.cons _ _ .nil))))) (fun q hq => by rw [List.mem_singleton.mp hq]; simp only [*]) _ _ (by assumption) (by walk_at "m.sub")
  · exact absurd hlen (by simp)
end

example : True := by
  w_top off
  k_with_none
  trivial
local macro_rules | `(tactic| walk_at "call ref") => `(tactic| ((with_reducible show wpAny _ _ (call (Value.ref 28) _) _ _ _); k_dflt (refine CallOk.go (N := by k_asm) (C := mask_item_ok) (ret := ?_)); walk_at "m.fin"))
local macro_rules | `(tactic| walk_at "call ref") => `(tactic| ((with_reducible show wpAny _ _ (call (Value.ref 368) _) _ _ _); k_dflt (refine CallOk.go (N := by walk_at "m.news4") (C := items_ok (W := Str.ofString "goto_masks")) (ret := ?_)); walk_at "m.end"))
local macro_rules | `(tactic| walk_at "call ref") => `(tactic| ((with_reducible show wpAny _ _ (call (Value.ref 318) _) _ _ _); k_dflt (refine CallOk.go (N := by walk_at "m.news4") (C := fail_ok) (ret := trivial) (rse := ?_)); (try dsimp only); intro e9 t9 v9 h9 k9 G9 FG9 R9 U9; (with_reducible show wpAny _ _ (leaving _ _) _ _ _); refine leave_onS (by assumption) FG9 R9 U9 ?_; clear FG9 R9 U9; intro h9 R9 Z9 U9; clear Z9))
theorem canon4 {a b c d : Str} {M m₀ : Str → Option Value} (hM : ∀ y, y ≠ a → y ≠ b → y ≠ c → y ≠ d → M y = m₀ y) : M = fun y => if y = a then M a else if y = b then M b else if y = c then M c else if y = d then M d else m₀ y := by
  funext y
  by_cases h1 : y = a
  · rw [if_pos h1, h1]
  by_cases h2 : y = b
  · rw [if_neg h1, if_pos h2, h2]
  by_cases h3 : y = c
  · rw [if_neg h1, if_neg h2, if_pos h3, h3]
  by_cases h4 : y = d
  · rw [if_neg h1, if_neg h2, if_neg h3, if_pos h4, h4]
  rw [if_neg h1, if_neg h2, if_neg h3, if_neg h4, hM y h1 h2 h3 h4]
theorem RaisedS.sub {base G : Heap} {l : List Env} {e t : Addr} {cls : Value} {vs : List Value} {news news' : List (Addr × Obj)} {h : Heap} (R : RaisedS base G l e cls t vs news h) (hs : ∀ q ∈ news', q ∈ news) : RaisedS base G l e cls t vs news' h :=
  let ⟨⟨B, hB, hG, hl, hf, hn⟩, ht⟩ := R
  ⟨⟨B, hB, hG, fun q hq => hl q (hs q hq), hf, hn⟩, ht⟩
inductive Bad : It → Prop
  | num {z : Int} : z < 0 → Bad (.num z)
  | tup {z : Int} {zs : List Int} : z < 0 → Bad (.tup z zs)
  | txt : Bad .txt
theorem shaped_intsT (ns : List Int) : PySem.SeqAt.shaped (.tuple (ns.map PyData.int)) = true := by
  have h1 := PySem.W.depthAll_ints ns
  have h2 : PyData.depth (.tuple (ns.map PyData.int)) ≤ 64 := by simp only [PyData.depth]; omega
  show (PyData.canLay0 (.tuple (ns.map PyData.int)) && decide (PyData.depth (.tuple (ns.map PyData.int)) ≤ 64)) = true
  rw [Bool.and_eq_true]
  exact ⟨by simp only [PyData.canLay0]; exact canLayAll0_ints ns, decide_eq_true h2⟩
section
variable {prog : Program} {w : World} {A : Around} {E : Value → Shared → Prop} {s : Shared} {Q : Value → Shared → Prop}
theorem ne_tups {x y : Addr} {vs us : List Value} {ns ms : List Int} (ha : s.heap.get? x = some (tupO vs)) (i1 : IntsAre vs ns) (hb : s.heap.get? y = some (tupO us)) (i2 : IntsAre us ms) (hu : A.units + 64 < cLine) (hq : Q (.bool (!decide (ns = ms))) s) :
    wpAny (model prog w) A (compareOp .NotEq (.ref x) (.ref y)) Q E s :=
  ne_dataH_same (Reads.tuple (xs := ns.map PyData.int) (as := []) ha rfl rfl (readsAll_of_ints i1)) (Reads.tuple (xs := ms.map PyData.int) (as := []) hb rfl rfl (readsAll_of_ints i2)) (shaped_intsT _) (shaped_intsT _) hu (by simp only [PySem.SeqAt.noMix]; exact noMix_ints _ _) (by simp only [PySem.Spec.same]; rw [same_ints]; exact hq)
theorem ne_item {h₀ : Heap} {L : Addr} {news n1 n2 : List (Addr × Obj)} (N : News h₀ L s.heap news) (s1 : ∀ q ∈ n1, q ∈ news) (s2 : ∀ q ∈ n2, q ∈ news) {v v' : Value} {it : It} (h1 : ItIn n1 v it) (h2 : ItIn n2 v' it) (hit : it ≠ .txt) (hu : A.units + 64 < cLine) (hq : Q (.bool false) s) :
    wpAny (model prog w) A (compareOp .NotEq v v') Q E s := by
  cases h1 with
  | num z t =>
    cases h2 with
    | num _ u => exact PyProof.Rows.ne_int (by rw [bne_self_eq_false]; exact hq)
  | tup m1 i1 =>
    cases h2 with
    | tup m2 i2 =>
      refine ne_tups (N _ (s1 _ m1)).1 i1 (N _ (s2 _ m2)).1 i2 hu ?_
      rw [decide_eq_true rfl]
      exact hq
  | txt => exact absurd rfl hit
end
noncomputable def map3 {τ : Type} (a b c : Str) (m₀ : Str → Option Value) (x : (Option Value × Option Value × Option Value) × τ) : Str → Option Value := fun y => if y = a then x.1.1 else if y = b then x.1.2.1 else if y = c then x.1.2.2 else m₀ y
noncomputable def map1 {τ : Type} (a : Str) (m₀ : Str → Option Value) (x : Option Value × τ) : Str → Option Value := fun y => if y = a then x.1 else m₀ y
section
variable {prog : Program} {w : World} {A : Around} {E : Value → Shared → Prop} {s : Shared} {env : Env} {h₀ : Heap} {nm : Str} {body : List Stmt} {Q : Flow → Shared → Prop}
theorem list_led3 {τ : Type} {l : Addr} {vs : List Value} {nn : Nat} (a b c : Str) (led : Addr → τ → List (Addr × Obj)) (I : Nat → τ → Prop) (x₀ : τ) {m₀ : Str → Option Value}
    (F : Fr h₀ env.locals s.heap m₀) (ha : m₀ a = none) (hb : m₀ b = none) (hc : m₀ c = none) (N : News h₀ env.locals s.heap (led l x₀)) (hI : I 0 x₀)
    (hh : A.handled = none) (hl : ∀ x, (l, listOf vs.toArray nn) ∈ led l x)
    (turn : Hold (∀ i (ms : Option Value × Option Value × Option Value) (x : τ) v h tk own, vs[i]? = some v → I i x → (∀ p ∈ own, ∀ q ∈ led l x, p.1 ≠ q.1) → Fr h₀ env.locals h (fun y => if y = nm then some v else if y = a then ms.1 else if y = b then ms.2.1 else if y = c then ms.2.2 else m₀ y) → News h₀ env.locals h (led l x ++ own) →
      wpAny (model prog w) A (execs body env) (FoEnd h₀ env.locals nm (map3 a b c m₀) (fun x => led l x.2) (fun i x => I i x.2) i own s Q) E { s with heap := h, toks := tk }))
    (done : Hold (∀ (ms : Option Value × Option Value × Option Value) (x : τ) v' h tk, I vs.length x → Fr h₀ env.locals h (fun y => if y = nm then v' else if y = a then ms.1 else if y = b then ms.2.1 else if y = c then ms.2.2 else m₀ y) → News h₀ env.locals h (led l x) → Q .next { s with heap := h, toks := tk })) :
    wpAny (model prog w) A (pyIter (.ref l)) (fun it s₂ => LoopAtV prog w A h₀ env nm body Q E it s₂) E s := by
  refine list_led (map3 a b c m₀) (fun l x => led l x.2) (fun i x => I i x.2) ((none, none, none), x₀) F ?_ N hI hh (fun x => hl x.2) ⟨fun i x => turn.out i x.1 x.2⟩ ⟨fun x => done.out x.1 x.2⟩
  funext y
  by_cases h0 : y = nm
  · rw [if_pos h0, h0]
  by_cases h1 : y = a
  · rw [if_neg h0, map3, if_pos h1, h1, ha]
  by_cases h2 : y = b
  · rw [if_neg h0, map3, if_neg h1, if_pos h2, h2, hb]
  by_cases h3 : y = c
  · rw [if_neg h0, map3, if_neg h1, if_neg h2, if_pos h3, h3, hc]
  rw [if_neg h0, map3, if_neg h1, if_neg h2, if_neg h3]
theorem FoEnd.next3 {τ : Type} {L : Addr} {a b c : Str} {m₀ : Str → Option Value} {led : (Option Value × Option Value × Option Value) × τ → List (Addr × Obj)} {I : Nat → (Option Value × Option Value × Option Value) × τ → Prop} {i : Nat} {own : List (Addr × Obj)} (x' : τ) {M : Str → Option Value} {h' : Heap} {tk' : Nat}
    (F : Fr h₀ L h' M) (hI : I (i + 1) ((M a, M b, M c), x')) (hM : ∀ y, y ≠ nm → y ≠ a → y ≠ b → y ≠ c → M y = m₀ y) (N : News h₀ L h' (led ((M a, M b, M c), x') ++ own)) (ho : ∀ p ∈ own, ∀ q ∈ led ((M a, M b, M c), x'), p.1 ≠ q.1) :
    FoEnd h₀ L nm (map3 a b c m₀) led I i own s Q .next { s with heap := h', toks := tk' } :=
  FoEnd.next ((M a, M b, M c), x') (v' := M nm) hI (by have := F; rw [canon4 hM] at this; exact this) N ho
theorem range_led1 {τ : Type} {r : Addr} {a₀ b₀ : Int} {t₀ u₀ v₀ : Tok} {n : Nat} (a : Str) (led : τ → List (Addr × Obj)) (I : Nat → Option Value → τ → Prop) (x₀ : τ) {m₀ : Str → Option Value}
    (F : Fr h₀ env.locals s.heap m₀) (N : News h₀ env.locals s.heap (led x₀)) (hI : I 0 (m₀ a) x₀)
    (hh : A.handled = none) (hr : IsRange s.heap r a₀ b₀ 1 t₀ u₀ v₀) (hsmall : Builtin.Range.small a₀ b₀ 1 = true) (hn : Builtin.Range.rangeSize a₀ b₀ 1 = (n : Int))
    (turn : Hold (∀ i mv (x : τ) tk' h tk own, i < n → I i mv x → (∀ p ∈ own, ∀ q ∈ led x, p.1 ≠ q.1) → Fr h₀ env.locals h (fun y => if y = nm then some (.int (a₀ + (i : Int)) tk') else if y = a then mv else m₀ y) → News h₀ env.locals h (led x ++ own) →
      wpAny (model prog w) A (execs body env) (FoEnd h₀ env.locals nm (map1 a m₀) (fun x => led x.2) (fun i x => I i x.1 x.2) i own s Q) E { s with heap := h, toks := tk }))
    (done : Hold (∀ mv (x : τ) v' h tk, I n mv x → Fr h₀ env.locals h (fun y => if y = nm then v' else if y = a then mv else m₀ y) → News h₀ env.locals h (led x) → Q .next { s with heap := h, toks := tk })) :
    wpAny (model prog w) A (pyIter (.ref r)) (fun it s₂ => LoopAtV prog w A h₀ env nm body Q E it s₂) E s := by
  refine range_led (map1 a m₀) (fun x => led x.2) (fun i x => I i x.1 x.2) (m₀ a, x₀) F ?_ N hI hh hr hsmall hn ⟨fun i x => turn.out i x.1 x.2⟩ ⟨fun x => done.out x.1 x.2⟩
  funext y
  by_cases h0 : y = nm
  · rw [if_pos h0, h0]
  by_cases h1 : y = a
  · rw [if_neg h0, map1, if_pos h1, h1]
  rw [if_neg h0, map1, if_neg h1]
theorem FoEnd.next1 {τ : Type} {L : Addr} {a : Str} {m₀ : Str → Option Value} {led : Option Value × τ → List (Addr × Obj)} {I : Nat → Option Value × τ → Prop} {i : Nat} {own : List (Addr × Obj)} (x' : τ) {M : Str → Option Value} {h' : Heap} {tk' : Nat}
    (F : Fr h₀ L h' M) (hI : I (i + 1) (M a, x')) (hM : ∀ y, y ≠ nm → y ≠ a → M y = m₀ y) (N : News h₀ L h' (led (M a, x') ++ own)) (ho : ∀ p ∈ own, ∀ q ∈ led (M a, x'), p.1 ≠ q.1) :
    FoEnd h₀ L nm (map1 a m₀) led I i own s Q .next { s with heap := h', toks := tk' } :=
  FoEnd.next (M a, x') (v' := M nm) hI (by
    have e : M = fun y => if y = nm then M nm else map1 a m₀ (M a, x') y := by
      funext y
      by_cases h0 : y = nm
      · rw [if_pos h0, h0]
      by_cases h1 : y = a
      · rw [if_neg h0, map1, if_pos h1, h1]
      rw [if_neg h0, map1, if_neg h1, hM y h0 h1]
    have := F; rw [e] at this; exact this) N ho
theorem item_tupN {value slice : PySem.Expr} {x L : Addr} {vs : List Value} {k : Int} {u : Tok} {j : Nat} {v : Value} {news : List (Addr × Obj)} {Q : Value → Shared → Prop} (N : News h₀ L s.heap news) (hm : (x, tupO vs) ∈ news) (hx : vs[j]? = some v) (hk : k = (j : Int)) (hz : j < 1000) (h : Q v s)
    (hs : subscripted slice false (.ref x) (.int k u) = operate [.ref x, .int k u] (getItem (.ref x) (.int k u)) := by with_unfolding_all rfl) (hg : ∀ r, letTemporaryGo value (.ref x) r = pure () := by intro _; with_unfolding_all rfl) :
    wpAny (model prog w) A (subscriptTail value slice (.ref x) (.int k u)) Q E s := by
  subst hk
  refine item_tupleL (l := vs) (N.isTup hm) (by omega) (by omega) (seqIndex_of (by omega) ?_) hx h hs hg
  obtain ⟨hlt, _⟩ := List.getElem?_eq_some_iff.mp hx
  omega
theorem take_val {ps : List Nat} {j : Nat} (hj : j < ps.length) : valB (ps.take (j + 1)) = valB (ps.take j) + ps[j] * B5 ^ j := by
  rw [List.take_add_one, List.getElem?_eq_getElem hj]
  show valB (ps.take j ++ [ps[j]]) = _
  rw [valB_snoc, List.length_take, Nat.min_eq_left (Nat.le_of_lt hj)]
theorem take_lt {ps : List Nat} (hb : ∀ p ∈ ps, p < B5) {j : Nat} (hj : j < ps.length) : valB (ps.take j) < B5 ^ j := by
  have := valB_lt (l := ps.take j) fun p hp => hb p (List.mem_of_mem_take hp)
  rwa [List.length_take, Nat.min_eq_left (Nat.le_of_lt hj)] at this
theorem len_tupN {x L : Addr} {vs : List Value} {news : List (Addr × Obj)} {Q : Value → Shared → Prop} (N : News h₀ L s.heap news) (hm : (x, tupO vs) ∈ news) (hz : vs.length ≤ 100000) (h : Q (.int (vs.length : Nat) (s.toks + 1)) { s with toks := s.toks + 1 + 1 }) :
    wpAny (model prog w) A (call (.builtin "len") [.ref x]) Q E s :=
  PyProof.Rows.len_tuple (N.isTup hm) (by rw [List.size_toArray]; omega) (by rw [List.size_toArray]; exact h)
end

example : True := by
  w_top off
  k_with_none
  trivial
local macro_rules | `(tactic| walk_at "call builtin:len") => `(tactic| (k_here; (with_reducible show wpAny _ _ (call (Value.builtin "len") [Value.ref _]) _ _ _); k_dflt (refine len_tupN (by k_asm) (by k_mem) (by omega) ?_)))
local macro_rules | `(tactic| walk_at "subscriptTail") => `(tactic| (k_here; (with_reducible show wpAny _ _ (subscriptTail _ _ (Value.ref _) (Value.int _ _)) _ _ _); k_dflt (refine item_tupN (by k_asm) (by k_mem) (by assumption) (by first | rfl | omega) (by omega) ?_)))
local macro_rules | `(tactic| walk_at "binaryOp RShift int int") => `(tactic| (k_here; (with_reducible refine rsh_small (by assumption) ?_)))
local macro_rules | `(tactic| walk_at "binaryOp LShift int int") => `(tactic| (k_here; (with_reducible refine lsh_part (by assumption) (by omega) ?_)))
local macro_rules | `(tactic| walk_at "binaryOp BitOr int int") => `(tactic| (k_here; (with_reducible refine or_part (by assumption) ?_)))
section
variable {w : World} {mean : ExcName → Option Value} {mg mb : Str → Option Value}
theorem masks_ok {pss : List (List Nat)} {more : List It} {rd rx cu cx : Nat} {h1 h2 h3 h4 : Int} {k1 k2 k3 k4 t1 t2 t4 tm : Tok} {T : Str} {p : Nat} {many : Nat} {suf : List Nat} {rest : List (Addr × Obj)} (o1 : rx < rd) (o2 : rd < cx) (o3 : cx < cu) (hr : ∀ q ∈ rest, q.1 ≠ cx) (hr' : ∀ q ∈ rest, q.1 ≠ rx)
    (hT : T.length ≤ 100000) (hp : At T p ((Str.ofString "goto_masks" ++ Str.ofString " ").cps.toList ++ (intTxt (pss.map itOf ++ more).length ++ 58 :: (itsTxt (pss.map itOf ++ more) ++ 10 :: suf)))) (hlen : (pss.map itOf ++ more).length ≤ 10)
    (hok : ∀ it ∈ pss.map itOf ++ more, it.Ok) (hg : ∀ ps ∈ pss, Good ps ∧ ps.length ≤ 4) (hmore : more = [] ∨ ∃ b r, more = b :: r ∧ Bad b) (hmany : many ≤ 10) :
    CallOk w mean mg mb 20 260 (.ref 35) [.ref rd, .int (many : Nat) tm] ((cx, curD h1 h2 k1 k2 t1 t2 T p) :: (cu, instObj 236 cx) :: (rx, rdD h3 h4 k3 k4 t4 cu 0) :: (rd, instObj 407 rx) :: rest)
      (fun C => more = [] → many = pss.length → ∀ fl vs ep tl t' t'' p', IntsAre vs (pss.map fun ps => ((valB ps : Nat) : Int)) → At T p' suf → AllLt fl rest → cu < fl → (∀ q ∈ tl, cu < q.1) →
        C (.ref fl) ((fl, listOf vs.toArray ep) :: (cx, curD h1 h2 k1 k2 t1 t' T p') :: (cu, instObj 236 cx) :: (rx, rdD h3 h4 k3 k4 t'' cu (0 + 1)) :: (rd, instObj 407 rx) :: (rest ++ tl)))
      (fun C => (more ≠ [] ∨ many ≠ pss.length) → C rest) := by
  intro dp un gd cn cs a ccd cl outer A₀ base h₀ L m s Q E B F X N Tp hk hd hu hret hrse
  dsimp only at hret hrse
  have hl := hp.len
  walk_at "m.enter"
  k_with_none
  (k_with "pyIter ref" => (skip; fail "stop"))
  k_steps
  rename_i tkA fl hA lf hB f9 v9 e9 tl9 t9' t9'' p9 i9 a9 b9 c9 d9 h9 t9 F9 N9 l9
  have hlv := i9.length
  simp only [AllLt] at c9 d9
  have hfl : ∀ q ∈ rest, q.1 ≠ fl := fun q hq => Nat.ne_of_lt (ktn_ltOf lf.2.2.2.2 q hq)
  have hf9 : ∀ q ∈ rest, q.1 ≠ f9 := fun q hq => Nat.ne_of_lt (ktn_ltOf c9.2 q hq)
  have htl1 : ∀ q ∈ tl9, q.1 ≠ fl := fun q hq => Nat.ne_of_gt (d9 q hq).2.1
  have htl2 : ∀ q ∈ tl9, q.1 ≠ f9 := fun q hq => Nat.ne_of_gt (d9 q hq).1
  have htl3 : ∀ q ∈ tl9, q.1 ≠ cx := fun q hq => Nat.ne_of_gt (Nat.lt_trans (show cx < f9 by omega) (d9 q hq).1)
  obtain ⟨lf1, lf2, lf3, lf4, lf5⟩ := lf
  obtain ⟨c91, c92⟩ := c9
  k_with_none
  refine list_led3 (Str.ofString "at") (Str.ofString "mask") (Str.ofString "parts") (fun f9 x => (fl, listOf x.1 x.2) :: (f9, listOf v9.toArray e9) :: (cx, curD h1 h2 k1 k2 t1 t9' T p9) :: (cu, instObj 236 cx) :: (rx, rdD h3 h4 k3 k4 t9'' cu (0 + 1)) :: (rd, instObj 407 rx) :: (rest ++ tl9))
    (fun i x => i ≤ pss.length ∧ IntsAre x.1.toList ((pss.take i).map fun ps => ((valB ps : Nat) : Int))) (#[], 0) F9 rfl rfl rfl (by dsimp only; walk_at "m.sub") ⟨Nat.zero_le _, .nil⟩ rfl (fun _ => .tail _ (.head _)) ⟨?_⟩ ⟨?_⟩
  · rintro i ms ⟨arr, ep⟩ v h tk own hv ⟨hi, hI⟩ hoff F8 N8
    dsimp only at hI hoff N8 F8 ⊢
    simp only [List.cons_append] at N8
    simp only [List.forall_mem_cons] at hoff
    have hx1 : ∀ q ∈ rest ++ tl9 ++ own, q.1 ≠ cx := forall_app (forall_app hr htl3) fun q hq => (hoff q hq).2.2.1
    have hx2 : ∀ q ∈ rest ++ tl9 ++ own, q.1 ≠ fl := forall_app (forall_app hfl htl1) fun q hq => (hoff q hq).1
    obtain ⟨it, hit, hin⟩ := i9.get hv
    by_cases hip : i < pss.length
    · have hit' : it = itOf pss[i] := by
        rw [List.getElem?_append_left (by rw [List.length_map]; exact hip), List.getElem?_map, List.getElem?_eq_getElem hip] at hit
        exact (Option.some.inj hit).symm
      obtain ⟨hgd, hg4⟩ := hg _ (List.getElem_mem hip)
      generalize hps : pss[i] = ps at *
      subst hit'
      rcases ps with _ | ⟨p0, _ | ⟨p1, r⟩⟩
      · exact absurd rfl hgd.1
      · cases hin with
        | num _ tn =>
          have b0 : p0 < B5 := hgd.2.1 p0 (by simp)
          k_with_none
          (k_with "pyIter ref" => (refine Hold.out ?_))
          k_steps
          refine ⟨?_⟩
          k_with_none
          refine range_led1 (n := ([p0] : List Nat).length) (Str.ofString "mask") (fun _ => _) (fun i mv (_ : Unit) => ∃ t, mv = some (.int (valB ([p0].take i) : Nat) t)) () (by assumption) (by assumption) ⟨_, rfl⟩ rfl (by assumption) (small_one (by omega) (by omega) (by omega) (by omega)) (by rw [rangeSize_nat]; first | rfl | omega | (rw [hlvt]; omega)) ⟨?_⟩ ⟨?_⟩
          · rintro j mv ⟨⟩ tk7 h7 tk7' own7 hj ⟨tm7, rfl⟩ hoff7 F7 N7
            (try dsimp only at hoff7 N7)
            simp only [List.cons_append] at N7
            simp only [List.forall_mem_cons] at hoff7
            simp only [Int.zero_add] at F7
            obtain rfl : j = 0 := by simpa using hj
            have hlt := take_lt hgd.2.1 (j := 0) (by simp)
            k_steps
            refine FoEnd.next1 () (by assumption) ?hI (fun y e1 e2 => by simp only [if_neg e1, if_neg e2]) (by (try dsimp only); walk_at "m.sub") (fun p hp => by (try dsimp only); simp only [List.forall_mem_cons]; exact hoff7 p hp)
            case hI => exact ⟨_, by rw [take_val (by first | exact hj | simp)]; rfl⟩
          · rintro mv ⟨⟩ v7 h7 tk7 ⟨tm7, rfl⟩ F7 N7
            dsimp only at N7 ⊢
            rw [List.take_length] at F7
            k_with_none
            k_steps
            rename_i v6 tl6 i6 b6 h6 t6 F6 N6
            refine ne_item N6 (n1 := tl6) (n2 := []) (by walk_at "m.tail") (fun _ h => nomatch h) i6 (.num _ _) (by simp [itOf]) (by walk_at "m.units") ?_
            simp only [AllLt] at b6
            simp only [List.cons_append] at N6
            have hx6 : ∀ q ∈ tl6, q.1 ≠ fl := fun q hq => Nat.ne_of_gt (b6 q hq).2.1
            k_steps
            refine FoEnd.next3 (_, _) (by assumption) ⟨hip, ?hI⟩ (fun y e1 e2 e3 e4 => by simp only [if_neg e1, if_neg e2, if_neg e3, if_neg e4]) (by (try dsimp only); walk_at "m.sub") (fun p hp => by simp only [List.forall_mem_cons]; exact hoff p hp)
            case hI =>
              show IntsAre (arr.push _).toList _
              rw [List.take_add_one, List.getElem?_eq_getElem hip, hps]
              simp only [Option.toList, List.map_append, List.map_cons, List.map_nil]
              exact ints_push hI
      · cases hin with
        | @tup xt vt _ _ hm hints =>
          obtain ⟨lx1, lx2, lx3⟩ := d9 _ hm
          have hlvt : vt.length = (p0 :: p1 :: r).length := by rw [hints.length]; simp only [List.length_cons, List.length_map]
          replace N8 := news_sub N8 (List.forall_mem_cons.mpr ⟨by simp [hm], fun _ h => h⟩ : ∀ q ∈ (xt, tupO vt) :: _, q ∈ _)
          have b0 : p0 < B5 := hgd.2.1 p0 (by simp)
          k_with_none
          (k_with "pyIter ref" => (refine Hold.out ?_))
          k_steps
          refine ⟨?_⟩
          k_with_none
          refine range_led1 (n := (p0 :: p1 :: r).length) (Str.ofString "mask") (fun _ => _) (fun i mv (_ : Unit) => ∃ t, mv = some (.int (valB ((p0 :: p1 :: r).take i) : Nat) t)) () (by assumption) (by assumption) ⟨_, rfl⟩ rfl (by assumption) (small_one (by omega) (by omega) (by omega) (by omega)) (by rw [rangeSize_nat]; first | rfl | omega | (rw [hlvt]; omega)) ⟨?_⟩ ⟨?_⟩
          · rintro j mv ⟨⟩ tk7 h7 tk7' own7 hj ⟨tm7, rfl⟩ hoff7 F7 N7
            (try dsimp only at hoff7 N7)
            simp only [List.cons_append] at N7
            simp only [List.forall_mem_cons] at hoff7
            simp only [Int.zero_add] at F7
            simp only [List.length_cons] at hj hg4
            have hlt := take_lt hgd.2.1 (j := j) (by simp only [List.length_cons]; omega)
            have hpj : (p0 :: p1 :: r)[j] < B5 := hgd.2.1 _ (List.getElem_mem _)
            obtain ⟨tj, hvj⟩ := IntsAre.get (vs := vt) (ns := (p0 :: p1 :: r).map Int.ofNat) (by assumption) j ((p0 :: p1 :: r)[j] : Nat) (by rw [List.getElem?_map, List.getElem?_eq_getElem (by simp only [List.length_cons]; omega)]; rfl)
            k_steps
            refine FoEnd.next1 () (by assumption) ?hI (fun y e1 e2 => by simp only [if_neg e1, if_neg e2]) (by (try dsimp only); walk_at "m.sub") (fun p hp => by (try dsimp only); simp only [List.forall_mem_cons]; exact hoff7 p hp)
            case hI => exact ⟨_, by rw [take_val (by first | exact hj | simp)]; rfl⟩
          · rintro mv ⟨⟩ v7 h7 tk7 ⟨tm7, rfl⟩ F7 N7
            dsimp only at N7 ⊢
            rw [List.take_length] at F7
            k_with_none
            k_steps
            rename_i v6 tl6 i6 b6 h6 t6 F6 N6
            refine ne_item N6 (n1 := tl6) (n2 := [(xt, tupO vt)]) (by walk_at "m.tail") (by intro q hq; rw [List.mem_singleton.mp hq]; walk_at "m.mem") i6 (.tup (vs := vt) (.head _) (by assumption)) (by simp [itOf]) (by walk_at "m.units") ?_
            simp only [AllLt] at b6
            simp only [List.cons_append] at N6
            have hx6 : ∀ q ∈ tl6, q.1 ≠ fl := fun q hq => Nat.ne_of_gt (b6 q hq).2.1
            k_steps
            refine FoEnd.next3 (_, _) (by assumption) ⟨hip, ?hI⟩ (fun y e1 e2 e3 e4 => by simp only [if_neg e1, if_neg e2, if_neg e3, if_neg e4]) (by (try dsimp only); walk_at "m.sub") (fun p hp => by simp only [List.forall_mem_cons]; exact hoff p hp)
            case hI =>
              show IntsAre (arr.push _).toList _
              rw [List.take_add_one, List.getElem?_eq_getElem hip, hps]
              simp only [Option.toList, List.map_append, List.map_cons, List.map_nil]
              exact ints_push hI
    · obtain ⟨b, rb, hbm, hbad⟩ : ∃ b r, more = b :: r ∧ Bad b := by
        rcases hmore with rfl | h
        · rw [List.append_nil, List.getElem?_eq_none (by rw [List.length_map]; omega)] at hit
          cases hit
        · exact h
      have hpi : i = pss.length := by omega
      have hit' : it = b := by
        rw [hbm, List.getElem?_append_right (by rw [List.length_map]; omega), List.length_map, hpi, Nat.sub_self] at hit
        exact (Option.some.inj hit).symm
      subst hit'
      have hne : more ≠ [] := by rw [hbm]; exact List.cons_ne_nil _ _
      cases hbad with
      | num hz =>
        cases hin with
        | num _ tn =>
          k_with_none
          k_steps
          rename_i h9 R9 U9
          exact hrse (.inl hne) _ _ _ _ _ _ (by assumption) (RaisedS.sub R9 (by walk_at "m.all")) U9
      | @tup zb zsb hz =>
        cases hin with
        | @tup xt vt _ _ hm hints =>
          obtain ⟨lx1, lx2, lx3⟩ := d9 _ hm
          have hlvt : vt.length = (zb :: zsb).length := hints.length
          have hokb : zsb.length ≤ 10 := (hok (.tup zb zsb) (by rw [hbm]; simp)).2
          simp only [List.length_cons] at hlvt
          replace N8 := news_sub N8 (List.forall_mem_cons.mpr ⟨by simp [hm], fun _ h => h⟩ : ∀ q ∈ (xt, tupO vt) :: _, q ∈ _)
          obtain ⟨tz, hv0⟩ := IntsAre.get hints 0 zb rfl
          k_with_none
          (k_with "pyIter ref" => (refine Hold.out ?_))
          k_steps
          refine ⟨?_⟩
          k_with_none
          refine range_led1 (n := vt.length) (Str.ofString "mask") (fun _ => _) (fun i mv (_ : Unit) => i = 0) () (by assumption) (by assumption) rfl rfl (by assumption) (small_one (by omega) (by omega) (by omega) (by omega)) (by rw [rangeSize_nat]; omega) ⟨?_⟩ ⟨?_⟩
          · rintro j mv ⟨⟩ tk7 h7 tk7' own7 hj rfl hoff7 F7 N7
            simp only [List.cons_append] at N7
            simp only [List.forall_mem_cons] at hoff7
            simp only [Int.zero_add] at F7
            have hx7 : ∀ q ∈ own7, q.1 ≠ cx := fun q hq => (hoff7 q hq).2.2.2.1
            k_steps
            rename_i h9 R9 U9
            exact hrse (.inl hne) _ _ _ _ _ _ (by assumption) (RaisedS.sub R9 (by walk_at "m.all")) U9
          · rintro mv ⟨⟩ v7 h7 tk7 hn0 F7 N7
            exact absurd hn0 (by omega)
      | txt =>
        cases hin with
        | txt tn =>
          k_with_none
          k_steps
          rename_i h9 R9 U9
          exact hrse (.inl hne) _ _ _ _ _ _ (by assumption) (RaisedS.sub R9 (by walk_at "m.all")) U9
  · rintro ms ⟨arr, ep⟩ v' h tk ⟨hi, hI⟩ F8 N8
    dsimp only at hI N8 F8
    simp only [List.length_append, List.length_map] at hlv
    have hmore0 : more = [] := List.eq_nil_of_length_eq_zero (by omega)
    subst hmore0
    simp only [List.length_nil, Nat.add_zero] at hlv
    rw [hlv, List.take_length] at hI
    have hsz : arr.size = pss.length := by rw [← Array.length_toList, hI.length, List.length_map]
    have hpl : pss.length ≤ 10 := by
      simp only [List.length_append, List.length_map] at hlen
      omega
    have hx1 : ∀ q ∈ rest ++ tl9, q.1 ≠ cx := forall_app hr htl3
    k_with_none
    k_steps
    · rename_i h9 R9 U9
      exact hrse (.inr (by omega)) _ _ _ _ _ _ (by assumption) (RaisedS.sub R9 (by walk_at "m.all")) U9
    · rename_i a9'
      exact hret rfl (by omega) fl arr.toList _ tl9 _ _ _ hI a9 lf5 (by omega) (fun q hq => Nat.lt_trans b9 (d9 q hq).1) _ _ (by assumption) (by walk_at "m.sub")
end

example : True := by
  w_top off
  k_with_none
  trivial
-- the frame of a def that catches, called by law's own frame
section
variable {prog : Program} {w : World} {A₀ A : Around} {s : Shared} {base h₀ : Heap} {L a : Addr} {m : Str → Option Value} {cn : Str} {cs : Scope} {ccd : Value} {cl : List (Str × Addr)} {news : List (Addr × Obj)} {K : Frag} {p : Program} {loose : List Str} {mean : ExcName → Option Value} {mg mb : Str → Option Value}
    {R : Result → Shared → Prop} {name qual : Str} {params : Arguments} {body : List Stmt} {scope : Scope} {dV kV doc pm cdv ct oc : Value} {an od : Option Addr} {osl : Array (Option Value)} {f : Addr} {args : Args} {binds : List (Str × Value)}
theorem envX_one {x : Addr} (h : x ∈ ([envX cn cs L a ccd cl] : List Env).filterMap (·.frame)) : x = L := by simpa using h
theorem ground_of (B : Below A₀ base [] h₀) (F : Fr h₀ L s.heap m) (N : News h₀ L s.heap news) (hA : A.frames = some [envX cn cs L a ccd cl]) (hck : cs.kind = .function) :
    ∃ g, (∀ x o, g.get? x = some o → s.heap.get? x = some o) ∧ g.objs.size = s.heap.objs.size ∧ (∀ q ∈ news, g.get? q.1 = none) ∧ Fr h₀ L g m ∧ Below A base [envX cn cs L a ccd cl] g := by
  obtain ⟨hid, hhid⟩ : ∃ hid : List Addr, hid = news.map (·.1) := ⟨_, rfl⟩
  have out : ∀ x o, h₀.get? x = some o → x ∉ hid := fun x o e q => by
    rw [hhid] at q
    obtain ⟨z, hz, rfl⟩ := List.mem_map.mp q
    rw [(N z hz).2.2] at e; cases e
  have nL : L ∉ hid := fun q => by
    rw [hhid] at q
    obtain ⟨z, hz, e⟩ := List.mem_map.mp q
    exact (N z hz).2.1 e
  have B₁ := pushX (env := envX cn cs L a ccd cl) B F rfl hck
  have st : h₀.StaysIn (hideAll s.heap hid) := fun x o e => hideAll_get _ (F.keep x o e) (out x o e)
  refine ⟨hideAll s.heap hid, fun x o e => of_hideAll _ e, hideAll_size _ _, fun q hq => hideAll_none _ (hhid ▸ List.mem_map_of_mem hq), ⟨F.ns.at' fun o e => hideAll_get hid e nL, st, F.above⟩, hA, fun x o e => st x o (B.stays x o e), ?_⟩
  refine funFrames_hideAll B₁.frames fun env he x hx hf => ?_
  rw [List.mem_singleton.mp he] at hf
  exact nL ((Option.some.inj hf : L = x) ▸ hx)
theorem enter_try (B : Below A₀ base [] h₀) (F : Fr h₀ L s.heap m) (X₀ : K.In h₀) (N : News h₀ L s.heap news) (T : Top p loose mean mg mb h₀) (hA : A.frames = some [envX cn cs L a ccd cl])
    (ho : K.lookup f = some ⟨oc, od, .func (fnOf name qual params body scope dV kV doc pm an cdv ct), osl⟩) (hcd : codeIn K cdv qual = true) (hroom : A.depth < recursionLimit)
    (hbind : BindsTo s (fnOf name qual params body scope dV kV doc pm an cdv ct) args binds) (hloc : ∀ y ∈ binds, scope.names.lookup y.1 = some .local)
    (h : ∀ g L' h₁, Fr h₀ L g m → Fr g L' h₁ (fun y => binds.reverse.lookup y) → News g L' h₁ news → Below A base [envX cn cs L a ccd cl] g → K.In g → Top p loose mean mg mb g → KtsDicts ([envX cn cs L a ccd cl].filterMap (·.frame)) g →
      wpAny (model prog w) (A.deeper (envOf qual scope L' f cdv)) (execs body (envOf qual scope L' f cdv))
        (fun fl s' => LeaveS0 ([envX cn cs L a ccd cl].filterMap (·.frame)) h₀ L m g R (match fl with | .ret v => v | _ => .none) s')
        (fun e s' => wpAny (model prog w) (A.deeper (envOf qual scope L' f cdv)) (leaving (envOf qual scope L' f cdv) e) (fun _ s'' => R (.error e) s'') (fun e' s'' => R (.error e') s'') s')
        { s with heap := h₁, toks := s.toks + binds.length })
    (hck : cs.kind = .function) (hco : scope.isCoroutine = false) (hgen : scope.isGenerator = false) (hk : scope.kind = .function)
    (hcell : ∀ x ∈ scope.names, x.2 ≠ .cell) : codeAny (model prog w) A (.call (.ref f) args) R s := by
  have X := X₀.keeps F.keep
  refine codeAny_call_def (fd := fnOf name qual params body scope dV kV doc pm an cdv ct) (body := body) (binds := binds) hroom (X _ _ ho) rfl (T.nolimit.keeps F.keep) (codeRec_of X hcd) rfl hbind hcell hloc (fun h₁ hns hk₁ => ?_) hco hgen hk
  obtain ⟨g, gs, gz, gn, FG, BG⟩ := ground_of B F N hA hck
  obtain ⟨oL, es, ep, hLg, hLd, hLk, hLf⟩ := FG.ns
  refine wpAny_mono (h g s.heap.objs.size h₁ FG ⟨hns, fun x o e => hk₁ x o (gs x o e), Nat.le_of_eq gz⟩
    (fun z hz => ⟨hk₁ _ _ (N z hz).1, Nat.ne_of_lt (Heap.lt_size (N z hz).1), gn z hz⟩) BG (X₀.keeps FG.keep) (T.keeps FG.keep) (fun x hx => by
      rw [envX_one hx]; exact ⟨oL, es, ep, hLg, hLd⟩)) (fun fl s' hl => ?_) fun _ _ y => y
  obtain ⟨g', L', m', news', T', F', N', k⟩ := hl
  have nL₀ : h₀.get? L = none := kts_self F
  obtain ⟨sl, hs⟩ := T'.up hLg
  refine k ⟨⟨_, es, ep, F'.keep _ _ hs, hLd, hLk, hLf⟩, fun x o e => F'.keep x o (T'.other x o (FG.keep x o e) fun q => ?_), F.above⟩ fun z hz => ⟨(N' z hz).1, fun q => ?_, ?_⟩
  · rw [envX_one q, nL₀] at e; cases e
  · have := (N' z hz).2.2
    rw [q, hs] at this; cases this
  · cases q : h₀.get? z.1 with
    | none => rfl
    | some o =>
      obtain ⟨sl', hs'⟩ := T'.up (FG.keep _ _ q)
      have := (N' z hz).2.2
      rw [hs'] at this; cases this
end

example : True := by
  w_top off
  k_with_none
  trivial
/-- a call by law's own frame -/
def CallTop (w : World) (mean : ExcName → Option Value) (mg mb : Str → Option Value) (nd nu : Nat) (f : Value) (vs : List Value) (news : List (Addr × Obj)) (K : (Value → List (Addr × Obj) → Prop) → Prop) : Prop :=
  ∀ (dp un : Nat) (gd : Option (List Code)) (cn : Str) (cs : Scope) (a : Addr) (ccd : Value) (cl : List (Str × Addr)) (A₀ : Around) (base h₀ : Heap) (L : Addr) (m : Str → Option Value) (s : Shared) (Q E : Value → Shared → Prop),
    Below A₀ base [] h₀ → Fr h₀ L s.heap m → (hd.heap_39 w.params).In h₀ → News h₀ L s.heap news → Top hd.view_39 (looseW hd.view_39 ["HEX_SIGNS", "PLAIN_ESCAPES", "ToolError"]) mean mg mb h₀ →
    (hd.heap_39 w.params).In base → Top hd.view_39 (looseW hd.view_39 ["HEX_SIGNS", "PLAIN_ESCAPES", "ToolError"]) mean mg mb base → cs.kind = .function → dp + nd < recursionLimit → un + nu < cLine →
    K (fun r news' => ∀ h' tk', Fr h₀ L h' m → News h₀ L h' news' → Q r { s with heap := h', toks := tk' }) →
    wpAny (model PySem.Challenge.rw_sf0019_01.row.prog w) (ktrTop dp un gd cn cs L a ccd cl []) (call f vs) Q E s
theorem CallTop.use {w : World} {mean : ExcName → Option Value} {mg mb : Str → Option Value} {nd nu : Nat} {f : Value} {vs : List Value} {news : List (Addr × Obj)} {K : (Value → List (Addr × Obj) → Prop) → Prop}
    {dp un : Nat} {gd : Option (List Code)} {cn : Str} {cs : Scope} {a : Addr} {ccd : Value} {cl : List (Str × Addr)} {A₀ : Around} {base h₀ : Heap} {L : Addr} {m : Str → Option Value} {s : Shared} {Q E : Value → Shared → Prop}
    (F : Fr h₀ L s.heap m) (N : News h₀ L s.heap news) (C : CallTop w mean mg mb nd nu f vs news K)
    (B : Below A₀ base [] h₀) (X : (hd.heap_39 w.params).In h₀) (T : Top hd.view_39 (looseW hd.view_39 ["HEX_SIGNS", "PLAIN_ESCAPES", "ToolError"]) mean mg mb h₀)
    (XB : (hd.heap_39 w.params).In base) (TB : Top hd.view_39 (looseW hd.view_39 ["HEX_SIGNS", "PLAIN_ESCAPES", "ToolError"]) mean mg mb base) (hk : cs.kind = .function) (hd : dp + nd < recursionLimit) (hu : un + nu < cLine)
    (ret : K (fun r news' => ∀ h' tk', Fr h₀ L h' m → News h₀ L h' news' → Q r { s with heap := h', toks := tk' })) :
    wpAny (model PySem.Challenge.rw_sf0019_01.row.prog w) (ktrTop dp un gd cn cs L a ccd cl []) (call f vs) Q E s :=
  C dp un gd cn cs a ccd cl A₀ base h₀ L m s Q E B F X N T XB TB hk hd hu ret
theorem str_app (x y : Str) : (x ++ y).cps.toList = x.cps.toList ++ y.cps.toList := Array.toList_append
theorem read_tail : (Str.ofString "\nend 2\n").cps.toList = 10 :: ((Str.ofString "end ").cps.toList ++ (intTxt 2 ++ 10 :: [])) := by decide +kernel
noncomputable def lineTxt (its : List It) : List Nat := (Str.ofString "goto_masks" ++ Str.ofString " ").cps.toList ++ (intTxt its.length ++ 58 :: itsTxt its)
local macro_rules | `(tactic| walk_at "call ref") => `(tactic| ((with_reducible show wpAny _ _ (call (Value.ref 407) _) _ _ _); k_dflt (refine CallOk.go (N := by k_asm) (C := reader_ok) (ret := ?_)); walk_at "m.fin"))
local macro_rules | `(tactic| walk_at "call ref") => `(tactic| ((with_reducible show wpAny _ _ (call (Value.ref 397) _) _ _ _); k_dflt (refine CallOk.go (N := by walk_at "m.news4") (C := finish_ok) (ret := ?_)); walk_at "m.fin"))
local macro_rules | `(tactic| walk_at "call ref") => `(tactic| (k_here; (with_reducible show wpAny _ _ (call (Value.ref 35) _) _ _ _); refine Hold.out ?_))
section
variable {w : World} {mean : ExcName → Option Value} {mg mb : Str → Option Value}
theorem law_read_ok {pss : List (List Nat)} {more : List It} {ln : Str} {tl tm : Tok} {many : Nat} {rest : List (Addr × Obj)} (hln : ln.cps.toList = lineTxt (pss.map itOf ++ more)) (hT : ln.length ≤ 50000) (hlen : (pss.map itOf ++ more).length ≤ 10)
    (hok : ∀ it ∈ pss.map itOf ++ more, it.Ok) (hg : ∀ ps ∈ pss, Good ps ∧ ps.length ≤ 4) (hmore : more = [] ∨ ∃ b r, more = b :: r ∧ Bad b) (hmany : many ≤ 10) :
    CallTop w mean mg mb 40 400 (.ref 442) [.str ln tl, .int (many : Nat) tm] rest
      (fun C => (more = [] → many = pss.length → ∀ fl vs ep, IntsAre vs (pss.map fun ps => ((valB ps : Nat) : Int)) → AllLt fl rest → C (.ref fl) ((fl, listOf vs.toArray ep) :: rest)) ∧ ((more ≠ [] ∨ many ≠ pss.length) → C .none rest)) := by
  intro dp un gd cn cs a ccd cl A₀ base h₀ L m s Q E B F X N Tp XB TB hk hd hu hret
  dsimp only at hret
  (refine wpAny_call ?_; k_dflt (refine' enter_try ?k1 ?k2 ?k3 ?k4 ?k5 ?kA ?k6 ?k7 ?k8 ?k9 ?kB ?_ ?cK ?c2 ?c3 ?c4 ?c5; (case kA => exact rfl); (case cK => assumption); (case k1 => k_asm); (case k2 => k_asm); (case k3 => k_asm); (case k4 => k_asm); (case k5 => k_asm); (case k6 => k_is); (case k7 => k_is); (case k8 => walk_at "m.room"); (case k9 => first | exact BindsTo.of_eq rfl | exact binds_K (by k_in) rfl (by k_is) rfl rfl rfl); (case c5 => decide); (case kB => exact locs rfl); (case c2 => exact rfl); (case c3 => exact rfl); (case c4 => exact rfl); k_whole; intro _ _ _ _ _ _ _ _ _ _; (try dsimp only); (try k_fold)))
  have hat : At (ln ++ Str.ofString "\nend 2\n") 0 ((Str.ofString "goto_masks" ++ Str.ofString " ").cps.toList ++ (intTxt (pss.map itOf ++ more).length ++ 58 :: (itsTxt (pss.map itOf ++ more) ++ 10 :: ((Str.ofString "end ").cps.toList ++ (intTxt 2 ++ 10 :: []))))) := by
    have h := At.start (ln ++ Str.ofString "\nend 2\n")
    rwa [str_app, hln, read_tail, lineTxt, List.append_assoc, List.append_assoc, List.cons_append] at h
  have hTT : (ln ++ Str.ofString "\nend 2\n").length ≤ 100000 := by
    have e : (ln ++ Str.ofString "\nend 2\n").length = ln.length + 7 := by
      show (ln ++ Str.ofString "\nend 2\n").cps.size = ln.cps.size + 7
      rw [← Array.length_toList, str_app, List.length_append, Array.length_toList]
      exact congrArg (ln.cps.size + ·) (by decide +kernel)
    omega
  k_with_none
  k_steps
  rename_i rx9 rd9 cx9 cu9 e9 e9' e9'' e9''' g9 g9' g9'' g9''' y9 y9' y9'' b9 b9' b9'' b9''' o9 o9' o9'' h9 t9 h8 F8 N8
  replace N8 : News _ _ _ ((cx9, curD e9 e9' g9 g9' y9 y9' (ln ++ Str.ofString "\nend 2\n") (0 : Nat)) :: (cu9, instObj 236 cx9) :: (rx9, rdD e9'' e9''' g9'' g9''' y9'' cu9 0) :: (rd9, instObj 407 rx9) :: rest) := N8
  refine ⟨?_⟩
  have hx1 : ∀ q ∈ rest, q.1 ≠ cx9 := fun q hq => Nat.ne_of_lt (ktn_ltOf b9'' q hq)
  have hx2 : ∀ q ∈ rest, q.1 ≠ rx9 := fun q hq => Nat.ne_of_lt (ktn_ltOf b9 q hq)
  k_dflt (refine CallOk.use (by k_asm) (by walk_at "m.news4") (masks_ok (pss := pss) (more := more) (many := many) o9 o9' o9'' hx1 hx2 hTT hat hlen hok hg hmore hmany) (by k_asm) (by k_asm) (by k_asm) (by first | exact rfl | assumption) (by walk_at "m.room") (by walk_at "m.units") ?_ ?_)
  · try dsimp only
    intro hm0 hmn fl vs ep tl9 t7 t7' p7 i7 a7 l7 l7' l7'' h7 k7 F7 N7
    simp only [Int.zero_add] at N7
    have hl7 := a7.len
    have hx3 : ∀ q ∈ tl9, q.1 ≠ cx9 := fun q hq => Nat.ne_of_gt (Nat.lt_trans o9'' (l7'' q hq))
    have hx4 : ∀ q ∈ tl9, q.1 ≠ rx9 := fun q hq => Nat.ne_of_gt (Nat.lt_trans (show rx9 < cu9 by omega) (l7'' q hq))
    have hx5 : ∀ q ∈ (fl, listOf vs.toArray ep) :: (rest ++ tl9), q.1 ≠ cx9 := List.forall_mem_cons.mpr ⟨Nat.ne_of_gt (Nat.lt_trans o9'' l7'), forall_app hx1 hx3⟩
    have hx6 : ∀ q ∈ (fl, listOf vs.toArray ep) :: (rest ++ tl9), q.1 ≠ rx9 := List.forall_mem_cons.mpr ⟨Nat.ne_of_gt (Nat.lt_trans (show rx9 < cu9 by omega) l7'), forall_app hx2 hx4⟩
    k_steps
    exact hret.1 hm0 hmn fl vs ep i7 l7 _ _ (by assumption) (by walk_at "m.sub")
  · try dsimp only
    intro hne e6 t6 v6 h6 k6 G6 FG6 R6 U6
    refine caught_SO0 (C := 109) R6 FG6 (by assumption) U6 XB TB (by assumption) KtsTurn.refl (by k_is) (by kernel_rfl) ?_
    intro h5 g5 n5 T5 F5 N5' G5 N5 B5 X5 P5 D5
    k_steps
    exact hret.2 hne _ _ (by assumption) (by assumption)
end

example : True := by
  w_top off
  k_with_none
  trivial
-- a comprehension whose element's calls turn the ledger
section
variable {prog : Program} {w : World} {A : Around} {E : Value → Shared → Prop} {s : Shared} {h₀ : Heap} {L : Addr} {m : Str → Option Value} {env : Env}
theorem compEnd_mono {s₁ : Shared} {I : Addr} {oI : Obj} {C : Addr} {oC : Obj} {D : Addr} {oD : Obj} {S : List (Addr × Obj) → Prop} {r r' : Value → List (Addr × Obj) → Prop} {y : Value} {s₂ : Shared} (h : LCg.CompEnd h₀ L m s₁ I oI C oC D oD S r y s₂) (k : ∀ y n, r y n → r' y n) : LCg.CompEnd h₀ L m s₁ I oI C oC D oD S r' y s₂ :=
  let ⟨h', tk, news', a, b, c, d, e, f⟩ := h
  ⟨h', tk, news', a, b, c, d, e, k _ _ f⟩
theorem comp_inv {τ : Type} {elt : PySem.Expr} {nm : Str} {scope : Scope} {cl : List (Str × Addr)} {S : List (Addr × Obj) → Prop} {P : Nat → Value → Prop} {Fin : List Value → List (Addr × Obj) → Prop} {n : Nat} {news : List (Addr × Obj)} (led : τ → List (Addr × Obj)) (J : Nat → List Value → τ → Prop) (x₀ : τ) (e₀ : news = led x₀) (hJ : J 0 [] x₀)
    (turn : ∀ i ys x v I oI C oC D m₂ h tk (E' : Value → Shared → Prop), i < n → J i ys x → P i v → LCg.NsObj oC m₂ → m₂ nm = some v → Fr h₀ L h m → News h₀ L h ((I, oI) :: (C, oC) :: (D, LCg.lst ys) :: led x) → LCg.Off3 I C D (led x) → ((@Ne Nat I C) ∧ (@Ne Nat I D) ∧ (@Ne Nat C D)) →
      wpAny (model prog w) A (eval elt (compEnvC scope cl C env)) (LCg.CompEnd h₀ L m { s with heap := h, toks := tk } I oI C oC D (LCg.lst ys) S (fun y news' => ∃ x', news' = led x' ∧ J (i + 1) (ys ++ [y]) x')) E' { s with heap := h, toks := tk })
    (done : ∀ ys x, J n ys x → Fin ys (led x)) : LCg.CompRest prog w A h₀ L m env elt nm scope cl s S P Fin n 0 [] news := by
  subst e₀
  have all : ∀ k i ys x, i + k = n → J i ys x → LCg.CompRest prog w A h₀ L m env elt nm scope cl s S P Fin k i ys (led x) := by
    intro k
    induction k with
    | zero => intro i ys x e hj; exact LCg.CompRest.zero (done ys x (by rw [← e]; exact hj))
    | succ k ih =>
      intro i ys x e hj
      refine LCg.CompRest.succ fun v I oI C oC D m₂ h tk E' hP hC hx F N off ne => wpAny_mono (turn i ys x v I oI C oC D m₂ h tk E' (by omega) hj hP hC hx F N off ne) (fun y s₂ hq => compEnd_mono hq ?_) fun _ _ e => e
      rintro y n ⟨x', rfl, hj'⟩
      exact ih (i + 1) (ys ++ [y]) x' (by omega) hj'
  exact all n 0 [] x₀ (by omega) hJ
theorem comp_end {τ : Type} {led : τ → List (Addr × Obj)} {J : List Value → τ → Prop} {s₁ : Shared} {I : Addr} {oI : Obj} {C : Addr} {oC : Obj} {D : Addr} {oD : Obj} {S : List (Addr × Obj) → Prop} {ys : List Value} {y : Value} {h' : Heap} {tk : Nat} {all : List (Addr × Obj)} (x' : τ)
    (F : Fr h₀ L h' m) (N : News h₀ L h' all) (sub : ∀ p ∈ (I, oI) :: (C, oC) :: (D, oD) :: led x', p ∈ all) (off : LCg.Off3 I C D (led x')) (hS : S (led x')) (hJ : J (ys ++ [y]) x') :
    LCg.CompEnd h₀ L m s₁ I oI C oC D oD S (fun y news' => ∃ x', news' = led x' ∧ J (ys ++ [y]) x') y { s₁ with heap := h', toks := tk } :=
  LCg.CompEnd.intro F N (led x') sub off hS ⟨x', rfl, hJ⟩
end
local macro_rules | `(tactic| walk_at "CompEnd") => `(tactic| (refine Hold.out ?_))
local macro_rules | `(tactic| walk_at "CompSrc") => `(tactic| (refine Hold.out ?_))
local macro_rules | `(tactic| walk_at "eval ListComp") => `(tactic| (refine Hold.out ?_))
local macro_rules | `(tactic| walk_at "exec Assign cons ListComp") => `(tactic| (refine Hold.out ?_))

example : True := by
  w_top off
  k_with_none
  trivial
-- the jug
def Cells (vs : List Value) : Prop := ∃ ns : List Int, IntsAre vs ns ∧ ns.length ≤ 30 ∧ ∀ z ∈ ns, 0 ≤ z ∧ z < 10 ^ 60
theorem cells_set {ns : List Int} {i : Nat} {z : Int} (h : ∀ y ∈ ns, 0 ≤ y ∧ y < 10 ^ 60) (hz : 0 ≤ z ∧ z < 10 ^ 60) : ∀ y ∈ ns.set i z, 0 ≤ y ∧ y < 10 ^ 60 := fun y hy => (List.mem_or_eq_of_mem_set hy).elim (h y) fun e => e ▸ hz
theorem cells_getD {ns : List Int} {i : Nat} (h : ∀ y ∈ ns, 0 ≤ y ∧ y < 10 ^ 60) : 0 ≤ ns.getD i 0 ∧ ns.getD i 0 < 10 ^ 60 := by
  rw [List.getD_eq_getElem?_getD]
  cases e : ns[i]? with
  | none => exact ⟨Int.le_refl _, by decide⟩
  | some y => exact h y (List.mem_of_getElem? e)
theorem cells_div {z k : Int} (h : 0 ≤ z ∧ z < 10 ^ 60) (hk : 1 ≤ k) : 0 ≤ z.fdiv k ∧ z.fdiv k < 10 ^ 60 := by
  rw [Int.fdiv_eq_ediv_of_nonneg _ (by omega)]
  exact ⟨Int.ediv_nonneg h.1 (by omega), Int.lt_of_le_of_lt (Int.ediv_le_self _ h.1) h.2⟩
theorem fmod_in (z : Int) {k : Int} (hk : 1 ≤ k) : 0 ≤ z.fmod k ∧ z.fmod k < k := ⟨Int.fmod_nonneg_of_pos z (by omega), Int.fmod_lt_of_pos z (by omega)⟩
local macro_rules | `(tactic| walk_at "compareOp NotEq ref ref") => `(tactic| (k_here; (with_reducible show wpAny _ _ (compareOp CmpOp.NotEq (Value.ref _) (Value.ref _)) _ _ _); k_dflt (refine ke_ne_ints (ys := []) (by is_list) (by is_list) (by l_ints) .nil (by walk_at "m.units") ?_)))
section
variable {w : World} {mean : ExcName → Option Value} {mg mb : Str → Option Value}
theorem sip_ok {ja jc : Nat} {turn many : Int} {e e' : Nat} {t tm : Tok} {vs : List Value} {rest : List (Addr × Obj)} (hv : Cells vs := by assumption) (ht : 0 ≤ turn ∧ turn ≤ 100 := by refine ⟨?_, ?_⟩ <;> omega) (hm : 1 ≤ many ∧ many ≤ 10 := by refine ⟨?_, ?_⟩ <;> omega) (ne : ja ≠ jc := by first | with_reducible assumption | omega) (ha : ∀ q ∈ rest, q.1 ≠ ja := by k_all) (hc : ∀ q ∈ rest, q.1 ≠ jc := by k_all) :
    CallOk w mean mg mb 4 80 (.ref 423) [.ref ja, .int many tm] ((ja, listOf #[.ref jc, .int turn t] e) :: (jc, listOf vs.toArray e') :: rest)
      (fun C => ∀ (r : Int) tr t' vs' e6 e6', 0 ≤ r ∧ r < many → Cells vs' → C (.int r tr) ((ja, listOf #[.ref jc, .int (turn + 1) t'] e6) :: (jc, listOf vs'.toArray e6') :: rest)) (fun _ => True) := by
  intro dp un gd cn cs a ccd cl outer A₀ base h₀ L m s Q E B F X N Tp hk hd hu hret hrse
  dsimp only at hret
  obtain ⟨ns, hI, hl, hz⟩ := hv
  obtain ⟨hm1, hm2⟩ := hm
  obtain ⟨ht1, ht2⟩ := ht
  walk_at "m.enter"
  k_with_none
  k_steps
  · rename Fr h₀ _ _ _ => F9
    rename News h₀ _ _ _ => N9
    refine hret _ _ ?u1 ?u2 ?u3 ?u4 (fmod_in _ hm1) ?hcu _ _ F9 ?hnu
    case hnu => walk_at "m.sub"
    case hcu => exact ⟨_, by assumption, by omega, cells_set hz (cells_div (cells_getD hz) hm1)⟩
  · rename Fr h₀ _ _ _ => F9
    rename News h₀ _ _ _ => N9
    refine hret _ _ ?v1 ?v2 ?v3 ?v4 (fmod_in _ hm1) ?hcv _ _ F9 ?hnv
    case hnv => walk_at "m.sub"
    case hcv => exact ⟨_, hI, hl, hz⟩
  · exact absurd (List.eq_nil_of_length_eq_zero (l := ns) (by omega)) (of_decide_eq_false (by assumption))
  · rename Fr h₀ _ _ _ => F9
    rename News h₀ _ _ _ => N9
    refine hret _ _ ?x1 ?x2 ?x3 ?x4 (fmod_in _ hm1) ?hcx _ _ F9 ?hnx
    case hnx => walk_at "m.sub"
    case hcx => exact ⟨_, by assumption, by omega, cells_set hz (cells_div (cells_getD hz) hm1)⟩
  · rename Fr h₀ _ _ _ => F9
    rename News h₀ _ _ _ => N9
    refine hret _ _ ?y1 ?y2 ?y3 ?y4 (fmod_in _ hm1) ?hcy _ _ F9 ?hny
    case hny => walk_at "m.sub"
    case hcy => exact ⟨_, hI, hl, hz⟩
end

example : True := by
  w_top off
  k_with_none
  trivial
theorem news_pickJ {h₀ h : Heap} {L : Addr} {q1 q2 : Addr × Obj} {l l1 r : List (Addr × Obj)} (N : News h₀ L h l) (P1 : Pick q1 l l1) (P2 : Pick q2 l1 r) : News h₀ L h (q1 :: q2 :: r) := by
  have a := P1.news N
  have b := P2.news (l := l1) fun z hz => a z (.tail _ hz)
  intro z hz
  rcases List.mem_cons.mp hz with rfl | hz
  · exact a _ (.head _)
  · exact b _ hz
local macro_rules | `(tactic| walk_at "m.newsJ") => `(tactic| (refine' news_pickJ ?N ?P1 ?P2; (case N => k_asm); (case P1 => walk_at "m.pick"); (case P2 => walk_at "m.pick")))
local macro_rules | `(tactic| walk_at "call ref") => `(tactic| ((with_reducible show wpAny _ _ (call (Value.ref 423) _) _ _ _); k_dflt (refine CallOk.go (N := by walk_at "m.newsJ") (C := sip_ok) (ret := ?_)); (try dsimp only); intro r9 tr9 t9' vs9 e9 e9' b9 c9 h9 k9 F9 N9; (have b9' := b9.2); (have b9 := b9.1); (try k_sweep)))
theorem isRange_nat {h : Heap} {r : Addr} {b : Int} {t u v : Tok} (hR : IsRange h r 0 b 1 t u v) (h0 : 0 ≤ b ∧ b ≤ 10) : ∃ n : Nat, IsRange h r 0 (n : Int) 1 t u v ∧ b = (n : Int) ∧ n ≤ 10 :=
  ⟨b.toNat, by rw [Int.toNat_of_nonneg h0.1]; exact hR, (Int.toNat_of_nonneg h0.1).symm, by omega⟩
theorem menu4 : ∀ k : Nat, ∃ p : Nat, p < B5 ∧ ([0, 1, 7, 2 ^ Int.toNat 64 - 1] : List Int).getD k 0 = (p : Int)
  | 0 => ⟨0, by decide +kernel, rfl⟩
  | 1 => ⟨1, by decide +kernel, rfl⟩
  | 2 => ⟨7, by decide +kernel, rfl⟩
  | 3 => ⟨2 ^ 64 - 1, by decide +kernel, by decide +kernel⟩
  | _ + 4 => ⟨0, by decide +kernel, rfl⟩
theorem ints_snoc {z : Int} {t : Tok} {vs : List Value} {ns : List Int} (H : IntsAre vs ns) : IntsAre (vs ++ [.int z t]) (ns ++ [z]) := by
  induction H with
  | nil => exact .cons _ _ .nil
  | cons n u _ ih => exact .cons n u ih
theorem off1_all {D : Addr} : ∀ {l : List (Addr × Obj)}, LCg.Off1 D l → ∀ q ∈ l, q.1 ≠ D
  | [], _, _, h => nomatch h
  | _ :: _, x, q, h => by
    rcases List.mem_cons.mp h with rfl | h
    · exact x.1
    · exact off1_all x.2 q h
section
variable {prog : Program} {w : World} {A : Around} {E : Value → Shared → Prop} {s : Shared} {h₀ : Heap} {L D : Addr} {m : Str → Option Value} {r : List (Addr × Obj)} {vs : List Value} {n : Nat} {k : Int} {t : Tok} {v : Value} {Q : Unit → Shared → Prop}
theorem set_at (F : Fr h₀ L s.heap m) (N : News h₀ L s.heap ((D, listOf vs.toArray n) :: r)) (ne : ∀ q ∈ r, q.1 ≠ D) (h0 : 0 ≤ k) (h1 : k < vs.length) (h2 : vs.length ≤ 1000)
    (h : ∀ h', Fr h₀ L h' m → News h₀ L h' ((D, listOf (vs.set k.toNat v).toArray n) :: r) → Q () { s with heap := h' }) : wpAny (model prog w) A (setItem (.ref D) (.int k t) v) Q E s := by
  have z := N (D, listOf vs.toArray n) (.head _)
  refine ki_setAt z.1 h0 (by omega) (by rw [List.size_toArray]; exact h1) (h _ (F.change (Heap.SameBut.update ..) z.2.1 z.2.2) (ki_turn (pre := []) _ N (fun _ h => nomatch h) ne ?_ ?_))
  · apply Array.toList_inj.mp
    simp
  · simp
theorem set_last (F : Fr h₀ L s.heap m) (N : News h₀ L s.heap ((D, listOf vs.toArray n) :: r)) (ne : ∀ q ∈ r, q.1 ≠ D) (h1 : 0 < vs.length)
    (h : ∀ h', Fr h₀ L h' m → News h₀ L h' ((D, listOf (vs.set (vs.length - 1) v).toArray n) :: r) → Q () { s with heap := h' }) : wpAny (model prog w) A (setItem (.ref D) (.int (-1) t) v) Q E s := by
  have z := N (D, listOf vs.toArray n) (.head _)
  have e : ((-1 : Int) + (vs.toArray.size : Int)).toNat = vs.length - 1 := by rw [List.size_toArray]; omega
  refine ki_setBack z.1 (by decide) (by rw [List.size_toArray]; omega) (by decide) (h _ (F.change (Heap.SameBut.update ..) z.2.1 z.2.2) (ki_turn (pre := []) _ N (fun _ h => nomatch h) ne ?_ ?_))
  · rw [e]
    apply Array.toList_inj.mp
    simp
  · simp
theorem set_atI {ns : List Int} {x : Int} {u : Tok} (F : Fr h₀ L s.heap m) (N : News h₀ L s.heap ((D, listOf vs.toArray n) :: r)) (ne : ∀ q ∈ r, q.1 ≠ D) (hi : IntsAre vs ns) (h0 : 0 ≤ k) (h1 : k < ns.length) (h2 : ns.length ≤ 1000)
    (h : ∀ h', Fr h₀ L h' m → News h₀ L h' ((D, listOf (vs.set k.toNat (.int x u)).toArray n) :: r) → IntsAre (vs.set k.toNat (.int x u)) (ns.set k.toNat x) → (ns.set k.toNat x).length = ns.length → Q () { s with heap := h' }) : wpAny (model prog w) A (setItem (.ref D) (.int k t) (.int x u)) Q E s :=
  set_at F N ne h0 (by rw [hi.length]; exact h1) (by rw [hi.length]; exact h2) fun h' F' N' => h h' F' N' (ints_set hi _) (List.length_set ..)
theorem set_lastI {ns : List Int} {x : Int} {u : Tok} (F : Fr h₀ L s.heap m) (N : News h₀ L s.heap ((D, listOf vs.toArray n) :: r)) (ne : ∀ q ∈ r, q.1 ≠ D) (hi : IntsAre vs ns) (h1 : 0 < ns.length)
    (h : ∀ h', Fr h₀ L h' m → News h₀ L h' ((D, listOf (vs.set (vs.length - 1) (.int x u)).toArray n) :: r) → IntsAre (vs.set (vs.length - 1) (.int x u)) (ns.set (ns.length - 1) x) → (ns.set (ns.length - 1) x).length = ns.length → Q () { s with heap := h' }) : wpAny (model prog w) A (setItem (.ref D) (.int (-1) t) (.int x u)) Q E s :=
  set_last F N ne (by rw [hi.length]; exact h1) fun h' F' N' => h h' F' N' (by rw [hi.length]; exact ints_set hi _) (List.length_set ..)
end
local macro_rules | `(tactic| walk_at "m.news1") => `(tactic| (refine' news_pick1 ?N ?P; (case N => k_asm); (case P => walk_at "m.pick")))
local macro_rules | `(tactic| walk_at "setItem ref int") => `(tactic| (k_here; k_dflt (first | (with_reducible show wpAny _ _ (setItem (Value.ref _) (Value.int (-1) _) (Value.int _ _)) _ _ _); (refine set_lastI (by k_asm) (by walk_at "m.news1") (by k_all) (by l_ints) (by omega) ?_) | refine set_atI (by k_asm) (by walk_at "m.news1") (by k_all) (by l_ints) (by omega) (by omega) (by omega) ?_); intro h9 F9 N9 i9 l9; (try k_sweep)))
def Nb (ns : List Int) : Prop := ∀ z ∈ ns, 0 ≤ z ∧ z < (B5 : Int)
theorem nb_map {ps : List Nat} (h : ∀ p ∈ ps, p < B5) : Nb (ps.map Int.ofNat) := fun z hz => by
  obtain ⟨p, hp, rfl⟩ := List.mem_map.mp hz
  exact ⟨Int.natCast_nonneg _, Int.ofNat_lt.mpr (h p hp)⟩
theorem nb_set {ns : List Int} {i : Nat} {x : Int} (h : Nb ns) (hx : 0 ≤ x ∧ x < (B5 : Int)) : Nb (ns.set i x) := fun y hy => (List.mem_or_eq_of_mem_set hy).elim (h y) fun e => e ▸ hx
theorem nb_getD {ns : List Int} {i : Nat} (h : Nb ns) : 0 ≤ ns.getD i 0 ∧ ns.getD i 0 < (B5 : Int) := by
  rw [List.getD_eq_getElem?_getD]
  cases e : ns[i]? with
  | none => exact ⟨Int.le_refl _, by decide +kernel⟩
  | some y => exact h y (List.mem_of_getElem? e)
theorem nb_nats {ns : List Int} (h : Nb ns) : ns = (ns.map Int.toNat).map Int.ofNat ∧ ∀ p ∈ ns.map Int.toNat, p < B5 := by
  refine ⟨?_, fun p hp => ?_⟩
  · rw [List.map_map]
    conv => lhs; rw [← List.map_id ns]
    refine List.map_congr_left fun z hz => ?_
    exact (Int.toNat_of_nonneg (h z hz).1).symm
  · obtain ⟨z, hz, rfl⟩ := List.mem_map.mp hp
    have := h z hz
    omega
theorem good_one {ns : List Int} (h : Nb ns) (hn : ns.length = 1) : ∃ ps : List Nat, Good ps ∧ ps.length = ns.length ∧ ns = ps.map Int.ofNat := by
  have hl : (ns.map Int.toNat).length = ns.length := List.length_map ..
  refine ⟨ns.map Int.toNat, ⟨fun e => ?_, (nb_nats h).2, fun h1 => ?_⟩, hl, (nb_nats h).1⟩
  · rw [e] at hl; simp only [List.length_nil] at hl; omega
  · omega
theorem good_last {ns : List Int} {x : Int} (h : Nb ns) (hn : 1 ≤ ns.length) (hx : 0 ≤ x ∧ x < (B5 : Int)) :
    ∃ ps : List Nat, Good ps ∧ ps.length = ns.length ∧ ns.set (ns.length - 1) (if x > 1 then x else 1) = ps.map Int.ofNat := by
  have hv : 1 ≤ (if x > 1 then x else 1) ∧ (if x > 1 then x else 1) < (B5 : Int) := by
    split
    · exact ⟨by omega, hx.2⟩
    · exact ⟨Int.le_refl _, by decide +kernel⟩
  generalize (if x > 1 then x else 1) = v at hv
  have h' : Nb (ns.set (ns.length - 1) v) := nb_set h ⟨by omega, hv.2⟩
  have hl : ((ns.set (ns.length - 1) v).map Int.toNat).length = ns.length := by rw [List.length_map, List.length_set]
  refine ⟨(ns.set (ns.length - 1) v).map Int.toNat, ⟨fun e => ?_, (nb_nats h').2, fun h1 => ⟨v.toNat, ?_, by omega⟩⟩, hl, (nb_nats h').1⟩
  · rw [e] at hl; simp only [List.length_nil] at hl; omega
  · rw [List.getLast?_eq_getElem?, hl, List.getElem?_map, List.getElem?_set_self (by omega)]
    rfl
theorem full_in : 0 ≤ (2 ^ Int.toNat 500 - 1 : Int) ∧ (2 ^ Int.toNat 500 - 1 : Int) < (B5 : Int) := by decide +kernel
theorem high_in : 0 ≤ (2 ^ Int.toNat 499 : Int) ∧ (2 ^ Int.toNat 499 : Int) < (B5 : Int) := by decide +kernel
section
variable {w : World} {mean : ExcName → Option Value} {mg mb : Str → Option Value}
theorem parts_ok {ja jc : Nat} {turn : Int} {e e' : Nat} {t : Tok} {vs : List Value} {rest : List (Addr × Obj)} (hv : Cells vs := by assumption) (ht : 0 ≤ turn ∧ turn ≤ 80 := by refine ⟨?_, ?_⟩ <;> omega) (ne : ja ≠ jc := by assumption) (ha : ∀ q ∈ rest, q.1 ≠ ja := by k_all) (hc : ∀ q ∈ rest, q.1 ≠ jc := by k_all) :
    CallOk w mean mg mb 8 160 (.ref 428) [.ref ja] ((ja, listOf #[.ref jc, .int turn t] e) :: (jc, listOf vs.toArray e') :: rest)
      (fun C => ∀ pl ps xs ep (turn' : Int) t' vs' e6 e6', Good ps → ps.length ≤ 4 → IntsAre xs (ps.map Int.ofNat) → turn ≤ turn' ∧ turn' ≤ turn + 10 → Cells vs' → (∀ q ∈ rest, q.1 ≠ pl) → pl ≠ ja → pl ≠ jc →
        C (.ref pl) ((pl, listOf xs.toArray ep) :: (ja, listOf #[.ref jc, .int turn' t'] e6) :: (jc, listOf vs'.toArray e6') :: rest)) (fun _ => True) := by
  intro dp un gd cn cs a ccd cl outer A₀ base h₀ L m s Q E B F X N Tp hk hd hu hret hrse
  dsimp only at hret
  obtain ⟨ht1, ht2⟩ := ht
  (refine wpAny_call ?_; k_dflt (refine' code_defC ?k1 ?k2 ?k3 ?k4 ?k5 ?kA ?kF ?kK ?k6 ?k7 ?k8 ?k9 ?kB ?kD ?_ ?c2 ?c3 ?c4; (case kA => exact rfl); (case kF => exact rfl); (case kK => assumption); (case k1 => k_asm); (case k2 => k_asm); (case k3 => k_asm); (case k4 => k_asm); (case k5 => k_asm); (case k6 => k_is); (case k7 => k_is); (case k8 => walk_at "m.room"); (case k9 => first | exact BindsTo.of_eq rfl | exact binds_K (by k_in) rfl (by k_is) rfl rfl rfl); (case kB => exact rfl); (case kD => decide +kernel); (case c2 => exact rfl); (case c3 => exact rfl); (case c4 => exact rfl); k_whole; intro _ _ _ _ _ _ _ N' Y' _ _ _ l1; (try k_lt l1); k_cells Y'; (try simp only [List.cons_append, List.nil_append] at N'); (try dsimp only); (try k_fold)))
  rename_i L1 h1 tk1 FG1 F1 B1 X1 T1 o1 d1
  (with_reducible rename News _ _ _ _ => N1)
  obtain ⟨hlt1, hlt2, hlt3⟩ := l1
  have hx1 : ∀ q ∈ rest, q.1 ≠ L1 + 1 := fun q hq => Nat.ne_of_lt (Nat.lt_succ_of_lt (ktn_ltOf hlt3 q hq))
  have hx2 : ∀ q ∈ (L1 + 1, o1) :: rest, q.1 ≠ ja := List.forall_mem_cons.mpr ⟨Nat.ne_of_gt (Nat.lt_succ_of_lt hlt1), ha⟩
  have hx3 : ∀ q ∈ (L1 + 1, o1) :: rest, q.1 ≠ jc := List.forall_mem_cons.mpr ⟨Nat.ne_of_gt (Nat.lt_succ_of_lt hlt2), hc⟩
  k_with_none
  k_steps
  refine ⟨?_⟩
  k_dflt (refine LCg.Assign_ListComp_U (F₀ := by k_asm) (by rfl) (by with_unfolding_all rfl) (by with_unfolding_all rfl) (by decide) (by rfl) (by decide) (by rfl) (by rfl) (by rfl) ?_)
  k_steps
  refine ⟨?_⟩
  (with_reducible rename Cells _ => c9)
  (with_reducible rename IsRange _ _ _ _ _ _ _ _ => hR)
  (with_reducible rename Fr _ _ _ _ => F2)
  (with_reducible rename News _ _ _ _ => N2)
  obtain ⟨n, hR, hn, hn10⟩ := isRange_nat hR ⟨by omega, by omega⟩
  refine LCg.CompSrc.range (n := n) (by rfl) F2 N2 hR (small_one (by omega) (by omega) (by omega) (by omega)) (by rw [rangeSize_nat]; omega) (by rw [sizeLine_eq]; omega) ?_
  intro g3
  refine comp_inv (τ := Int × Tok × List Value × Nat × Nat) (fun x => (ja, listOf #[.ref jc, .int x.1 x.2.1] x.2.2.2.1) :: (jc, listOf x.2.2.1.toArray x.2.2.2.2) :: (L1 + 1, o1) :: rest)
    (fun i ys x => Cells x.2.2.1 ∧ (turn + 1 ≤ x.1 ∧ x.1 ≤ turn + 1 + (i : Int)) ∧ ∃ ps : List Nat, ps.length = i ∧ (∀ p ∈ ps, p < B5) ∧ IntsAre ys (ps.map Int.ofNat)) (_, _, _, _, _) rfl ⟨c9, ⟨by dsimp only; omega, by dsimp only; omega⟩, [], rfl, (fun _ h => nomatch h), .nil⟩ ?_ ?_
  · rintro i ys ⟨tu, tt, ws, ee, ee'⟩ v I oI C oC D m₂ h tk E' hi ⟨hc3, ⟨hu3, hu3'⟩, ps, hpl, hps, hI3⟩ ⟨tv, rfl⟩ hC3 hx hF3 hN3 off nex
    dsimp only at hc3 hu3 hu3' hN3 off ⊢
    simp only [LCg.Off3] at off
    obtain ⟨⟨o1a, o1b, o1c⟩, ⟨o2a, o2b, o2c⟩, ⟨o3a, o3b, o3c⟩, o4⟩ := off
    have hx4 : ∀ q ∈ (I, oI) :: (C, oC) :: (D, LCg.lst ys) :: (L1 + 1, o1) :: rest, q.1 ≠ ja := List.forall_mem_cons.mpr ⟨Ne.symm o1a, List.forall_mem_cons.mpr ⟨Ne.symm o1b, List.forall_mem_cons.mpr ⟨Ne.symm o1c, hx2⟩⟩⟩
    have hx5 : ∀ q ∈ (I, oI) :: (C, oC) :: (D, LCg.lst ys) :: (L1 + 1, o1) :: rest, q.1 ≠ jc := List.forall_mem_cons.mpr ⟨Ne.symm o2a, List.forall_mem_cons.mpr ⟨Ne.symm o2b, List.forall_mem_cons.mpr ⟨Ne.symm o2c, hx3⟩⟩⟩
    k_steps
    (with_reducible rename Cells _ => c9)
    (with_reducible rename Fr _ _ _ _ => F9)
    (with_reducible rename News _ _ _ _ => N9)
    obtain ⟨p, hp, hpe⟩ := menu4 (Int.toNat _)
    rw [hpe]
    refine ⟨LCg.CompEnd.intro F9 N9 _ (by walk_at "m.all") (by exact ⟨⟨o1a, o1b, o1c⟩, ⟨o2a, o2b, o2c⟩, ⟨o3a, o3b, o3c⟩, o4⟩) trivial ⟨(_, _, _, _, _), rfl, c9, ⟨by dsimp only; omega, by dsimp only; omega⟩, ps ++ [p], by rw [List.length_append, hpl]; rfl, ?_, ?_⟩⟩
    · intro q hq
      rcases List.mem_append.mp hq with hq | hq
      · exact hps q hq
      · rw [List.mem_singleton.mp hq]; exact hp
    · rw [List.map_append]
      exact ints_snoc hI3
  · rintro ys ⟨tu, tt, ws, ee, ee'⟩ ⟨hc3, ⟨hu3, hu3'⟩, ps, hpl, hps, hI3⟩
    dsimp only at hc3 hu3 hu3' ⊢
    intro D h3 tk3 F3 N3 off3
    simp only [LCg.Off1] at off3
    obtain ⟨o1a, o2a, o3a, o4⟩ := off3
    have hx6 : ∀ q ∈ rest, q.1 ≠ D := off1_all o4
    replace N3 : News _ _ _ ((D, listOf ys.toArray ys.length) :: (ja, listOf #[.ref jc, .int tu tt] ee) :: (jc, listOf ws.toArray ee') :: (L1 + 1, o1) :: rest) := N3
    have hx4 : ∀ q ∈ (D, listOf ys.toArray ys.length) :: (L1 + 1, o1) :: rest, q.1 ≠ ja := List.forall_mem_cons.mpr ⟨Ne.symm o1a, hx2⟩
    have hx5 : ∀ q ∈ (D, listOf ys.toArray ys.length) :: (L1 + 1, o1) :: rest, q.1 ≠ jc := List.forall_mem_cons.mpr ⟨Ne.symm o2a, hx3⟩
    have hlen := hI3.length
    have hlm : (ps.map Int.ofNat).length = n := by rw [List.length_map, hpl]
    have hn1 : 1 ≤ n := by omega
    have hly : ys.length = n := by rw [hlen, hlm]
    have hnb := nb_map hps
    have hnl : 1 ≤ (ps.map Int.ofNat).length := by omega
    k_steps
    all_goals (rename Cells _ => c8; rename Fr h₀ _ _ _ => F8; rename News h₀ _ _ _ => N8)
    · obtain ⟨qs, hG, hql, hqe⟩ := good_last (nb_set hnb full_in) (by (try simp only [List.length_set]); omega) (nb_getD (i := Int.toNat _) (nb_set hnb full_in))
      rename IntsAre _ _ => i8
      rw [hqe] at i8
      (try simp only [List.length_set] at hql)
      refine hret D qs _ ?a0 ?b0 ?c0 ?d0 ?e0 ?f0 hG (by omega) i8 ?g0 ?i0 hx6 (Ne.symm o1a) (Ne.symm o2a) _ _ F8 ?h0
      case h0 => walk_at "m.sub"
      case g0 => exact ⟨by omega, by omega⟩
      case i0 => exact c8
    · obtain ⟨qs, hG, hql, hqe⟩ := good_one (nb_set hnb full_in) (by (try simp only [List.length_set]); omega)
      rename IntsAre _ _ => i8
      rw [hqe] at i8
      (try simp only [List.length_set] at hql)
      refine hret D qs _ ?a1 ?b1 ?c1 ?d1 ?e1 ?f1 hG (by omega) i8 ?g1 ?i1 hx6 (Ne.symm o1a) (Ne.symm o2a) _ _ F8 ?h1
      case h1 => walk_at "m.sub"
      case g1 => exact ⟨by omega, by omega⟩
      case i1 => exact c8
    · obtain ⟨qs, hG, hql, hqe⟩ := good_last (nb_set hnb high_in) (by (try simp only [List.length_set]); omega) (nb_getD (i := Int.toNat _) (nb_set hnb high_in))
      rename IntsAre _ _ => i8
      rw [hqe] at i8
      (try simp only [List.length_set] at hql)
      refine hret D qs _ ?a2 ?b2 ?c2 ?d2 ?e2 ?f2 hG (by omega) i8 ?g2 ?i2 hx6 (Ne.symm o1a) (Ne.symm o2a) _ _ F8 ?h2
      case h2 => walk_at "m.sub"
      case g2 => exact ⟨by omega, by omega⟩
      case i2 => exact c8
    · obtain ⟨qs, hG, hql, hqe⟩ := good_one (nb_set hnb high_in) (by (try simp only [List.length_set]); omega)
      rename IntsAre _ _ => i8
      rw [hqe] at i8
      (try simp only [List.length_set] at hql)
      refine hret D qs _ ?a3 ?b3 ?c3 ?d3 ?e3 ?f3 hG (by omega) i8 ?g3 ?i3 hx6 (Ne.symm o1a) (Ne.symm o2a) _ _ F8 ?h3
      case h3 => walk_at "m.sub"
      case g3 => exact ⟨by omega, by omega⟩
      case i3 => exact c8
    · obtain ⟨qs, hG, hql, hqe⟩ := good_last hnb (by (try simp only [List.length_set]); omega) (nb_getD (i := Int.toNat _) hnb)
      rename IntsAre _ _ => i8
      rw [hqe] at i8
      (try simp only [List.length_set] at hql)
      refine hret D qs _ ?a4 ?b4 ?c4 ?d4 ?e4 ?f4 hG (by omega) i8 ?g4 ?i4 hx6 (Ne.symm o1a) (Ne.symm o2a) _ _ F8 ?h4
      case h4 => walk_at "m.sub"
      case g4 => exact ⟨by omega, by omega⟩
      case i4 => exact c8
    · obtain ⟨qs, hG, hql, hqe⟩ := good_one hnb (by omega)
      have i8 := hI3
      rw [hqe] at i8
      (try simp only [List.length_set] at hql)
      refine hret D qs _ ?a5 ?b5 ?c5 ?d5 ?e5 ?f5 hG (by omega) i8 ?g5 ?i5 hx6 (Ne.symm o1a) (Ne.symm o2a) _ _ F8 ?h5
      case h5 => walk_at "m.sub"
      case g5 => exact ⟨by omega, by omega⟩
      case i5 => exact c8
end

example : True := by
  w_top off
  k_with_none
  trivial
theorem ints_atZ {vs : List Value} {ns : List Int} (H : IntsAre vs ns) : ∀ {i : Nat} {v : Value}, vs[i]? = some v → ∃ z, ns[i]? = some z ∧ ∃ t, v = .int z t := by
  induction H with
  | nil => intro i v e; cases List.getElem?_nil.symm.trans e
  | cons n t _ ih =>
    intro i v e
    cases i with
    | zero => exact ⟨n, rfl, t, (Option.some.inj e).symm⟩
    | succ i => exact ih (i := i) e
theorem ints_at {vs : List Value} {ns : List Int} (H : IntsAre vs ns) {i : Nat} {v : Value} (e : vs[i]? = some v) : ∃ z t, v = .int z t :=
  let ⟨z, _, t, e⟩ := ints_atZ H e; ⟨z, t, e⟩
section
variable {w : World} {mean : ExcName → Option Value} {mg mb : Str → Option Value}
theorem jug_ok {l : Addr} {vs : List Value} {ns : List Int} {rest : List (Addr × Obj)} (hI : IntsAre vs ns) (hn : ns.length ≤ 63) :
    ∀ (dp un : Nat) (gd : Option (List Code)) (cn : Str) (cs : Scope) (a : Addr) (ccd : Value) (cl : List (Str × Addr)) (outer : List Env) (A₀ : Around) (base h₀ : Heap) (L : Addr) (m : Str → Option Value) (s : Shared) (Q E : Value → Shared → Prop),
    Below A₀ base outer h₀ → Fr h₀ L s.heap m → (hd.heap_39 w.params).In h₀ → News h₀ L s.heap rest → Top hd.view_39 (looseW hd.view_39 ["HEX_SIGNS", "PLAIN_ESCAPES", "ToolError"]) mean mg mb h₀ → cs.kind = .function → dp + 4 < recursionLimit → un + 40 < cLine →
    base.IsList l vs.toArray →
    (∀ ja jc xs t e e' h' tk', Cells xs → Fr h₀ L h' m → News h₀ L h' ((ja, listOf #[.ref jc, .int 0 t] e) :: (jc, listOf xs.toArray e') :: rest) → (∀ q ∈ rest, q.1 ≠ ja) → (∀ q ∈ rest, q.1 ≠ jc) → ja ≠ jc → Q (.ref ja) { s with heap := h', toks := tk' }) →
    wpAny (model PySem.Challenge.rw_sf0019_01.row.prog w) (ktrTop dp un gd cn cs L a ccd cl outer) (call (.ref 416) [.ref l]) Q E s := by
  intro dp un gd cn cs a ccd cl outer A₀ base h₀ L m s Q E B F X N Tp hk hd hu hl hret
  walk_at "m.enter"
  (with_reducible rename Below _ _ (_ :: _) _ => B9)
  k_lift B9
  k_with_none
  k_steps
  refine ⟨?_⟩
  k_dflt (refine LCg.ListComp_U (F₀ := by k_asm) (by rfl) (by decide) (by rfl) (by decide) (by rfl) ?_)
  k_steps
  refine ⟨?_⟩
  (with_reducible rename Fr _ _ _ _ => F2)
  (with_reducible rename News _ _ _ _ => N2)
  rename_i ws _ _ _ l1 hI2 _ hL2
  have hlw := hI2.length
  refine LCg.CompSrc.ledger (by rfl) F2 N2 (.head _) (by rw [sizeLine_eq, List.size_toArray]; omega) ?_
  intro g3
  refine comp_inv (τ := Unit) (fun _ => _) (fun i ys _ => ∃ zs : List Int, IntsAre ys zs ∧ zs.length = i ∧ ∀ z ∈ zs, 0 ≤ z ∧ z < 10 ^ 60) () rfl ⟨[], .nil, rfl, fun _ h => nomatch h⟩ ?_ ?_
  · rintro i ys ⟨⟩ v I oI C oC D m₂ h tk E' hi ⟨zs, hz1, hz2, hz3⟩ hv hC3 hx hF3 hN3 off nex
    rw [List.getElem?_toArray] at hv
    obtain ⟨z, tz, rfl⟩ := ints_at hI2 hv
    dsimp only at hN3 off ⊢
    k_steps
    (with_reducible rename Fr _ _ _ _ => F9)
    (with_reducible rename News _ _ _ _ => N9)
    refine ⟨LCg.CompEnd.intro F9 N9 _ (by walk_at "m.tail") off (Or.inr ⟨_, .head _, rfl, _, rfl⟩) ⟨(), rfl, zs ++ [_], ints_snoc hz1, by rw [List.length_append, hz2]; rfl, ?_⟩⟩
    intro y hy
    rcases List.mem_append.mp hy with hy | hy
    · exact hz3 y hy
    · rw [List.mem_singleton.mp hy]
      exact ⟨Int.fmod_nonneg_of_pos _ (by decide +kernel), Int.fmod_lt_of_pos _ (by decide +kernel)⟩
  · rintro ys ⟨⟩ ⟨zs, hz1, hz2, hz3⟩
    intro D h3 tk3 F3 N3 off3
    simp only [LCg.Off1] at off3
    rw [List.size_toArray] at hz2
    replace N3 : News _ _ _ ((D, listOf ys.toArray ys.length) :: _) := N3
    k_steps
    (with_reducible rename Fr h₀ _ _ _ => F9)
    (with_reducible rename News h₀ _ _ _ => N9)
    (with_reducible rename _ ∧ _ ∧ AllLt _ rest => l3)
    obtain ⟨l1a, l1b, l1c⟩ := l3
    exact hret _ D ys _ _ _ _ _ ⟨zs, hz1, by omega, hz3⟩ F9 (by walk_at "m.sub") (fun q hq => Nat.ne_of_lt (ktn_ltOf l1c q hq)) (off1_all off3.2) (Nat.ne_of_gt l1a)
end

example : True := by
  w_top off
  k_with_none
  trivial
noncomputable def lnTxt (xs : List Str) : List Nat := (Str.ofString "goto_masks" ++ Str.ofString " ").cps.toList ++ (intTxt xs.length ++ 58 :: xs.flatMap (fun x => 32 :: x.cps.toList))
theorem len_goto : (Str.ofString "goto_masks").length = 10 := by decide +kernel
theorem len_n0 : (Str.ofString "0:").length = 2 := by decide +kernel
theorem len_n1 : (Str.ofString "1:").length = 2 := by decide +kernel
theorem len_n2 : (Str.ofString "2:").length = 2 := by decide +kernel
theorem txt_goto : (Str.ofString "goto_masks").cps.toList = [103, 111, 116, 111, 95, 109, 97, 115, 107, 115] := by decide +kernel
theorem txt_gotos : (Str.ofString "goto_masks" ++ Str.ofString " ").cps.toList = [103, 111, 116, 111, 95, 109, 97, 115, 107, 115, 32] := by decide +kernel
theorem txt_sp : (Str.ofString " ").cps.toList = [32] := by decide +kernel
theorem txt_n0 : (Str.ofString "0:").cps.toList = intTxt 0 ++ [58] := by decide +kernel
theorem txt_n1 : (Str.ofString "1:").cps.toList = intTxt 1 ++ [58] := by decide +kernel
theorem txt_n2 : (Str.ofString "2:").cps.toList = intTxt 2 ++ [58] := by decide +kernel
theorem str_len (x : Str) : x.length = x.cps.toList.length := Array.length_toList.symm
theorem join_txt (g : Str) : ∀ (r : List Str) (x : Str), (Txt.join g (x :: r)).cps.toList = x.cps.toList ++ r.flatMap (fun y => g.cps.toList ++ y.cps.toList)
  | [], x => by rw [Txt.join, StrLaws.glued_eq_join]; exact (List.append_nil _).symm
  | y :: r, x => by
    have ih := join_txt g r y
    rw [Txt.join, StrLaws.glued_eq_join] at ih ⊢
    rw [join_cons_cons, str_app, str_app, ih, List.flatMap_cons, List.append_assoc, List.append_assoc]
theorem line_txt {nt : Str} {xs : List Str} (h : nt.cps.toList = intTxt xs.length ++ [58]) : (Txt.join (Str.ofString " ") (Str.ofString "goto_masks" :: nt :: xs)).cps.toList = lnTxt xs := by
  rw [join_txt, txt_goto, List.flatMap_cons, h, txt_sp, lnTxt, txt_gotos]
  simp only [List.cons_append, List.nil_append, List.append_assoc]
local macro_rules | `(tactic| walk_at "call builtin:str.join") => `(tactic| (k_here; (with_reducible show wpAny _ _ (call (Value.builtin _) [Value.str _ _, Value.ref _]) _ _ _); k_dflt (refine join_listW (by is_list) (by kct_strs) (by decide +kernel) (by (simp only [List.map_cons, List.map_nil, List.sum_cons, List.sum_nil, List.length_cons, List.length_nil]; omega)) ?_); intro _ _))
theorem intTxt_small (n : Nat) (h : n < 10 ^ 4) : (intTxt (n : Int)).length ≤ 4 := by
  rw [intTxt, if_neg (by omega), show ((n : Int)).natAbs = n from rfl]
  exact digs_len (by decide) h
section
variable {w : World} {mean : ExcName → Option Value} {mg mb : Str → Option Value}
theorem line_ok {il : Addr} {ep : Nat} {vs : List Value} {xs : List Str} {rest : List (Addr × Obj)} (hs : StrsAre vs xs := by assumption) (hn : xs.length ≤ 2 := by walk_at "m.om") (hx : ∀ x ∈ xs, x.length ≤ 1000 := by assumption) :
    CallOk w mean mg mb 4 60 (.ref 435) [.ref il] ((il, listOf vs.toArray ep) :: rest)
      (fun C => ∀ ln t, ln.cps.toList = lnTxt xs → ln.length ≤ 5000 → C (.str ln t) ((il, listOf vs.toArray ep) :: rest)) (fun _ => True) := by
  intro dp un gd cn cs a ccd cl outer A₀ base h₀ L m s Q E B F X N Tp hk hd hu hret hrse
  dsimp only at hret
  have e0 := len_goto
  have e1 := len_n0
  have e2 := len_n1
  have e3 := len_n2
  rcases hs with _ | ⟨x, t, hs⟩
  · walk_at "m.enter"
    k_with_none
    k_steps
    refine hret _ _ (line_txt txt_n0) ?_ _ _ (by assumption) (by walk_at "m.sub")
    rw [str_len, line_txt txt_n0, lnTxt, txt_gotos]
    simp only [List.length_append, List.length_cons, List.length_nil, List.flatMap_cons, List.flatMap_nil, ← str_len]
    have := intTxt_small 0 (by decide)
    omega
  rcases hs with _ | ⟨y, u, hs⟩
  · have hx1 := hx x (by simp)
    walk_at "m.enter"
    k_with_none
    k_steps
    refine hret _ _ (line_txt txt_n1) ?_ _ _ (by assumption) (by walk_at "m.sub")
    rw [str_len, line_txt txt_n1, lnTxt, txt_gotos]
    simp only [List.length_append, List.length_cons, List.length_nil, List.flatMap_cons, List.flatMap_nil, ← str_len]
    have := intTxt_small (0 + 1) (by decide)
    omega
  rcases hs with _ | ⟨z, v, hs⟩
  · have hx1 := hx x (by simp)
    have hx2 := hx y (by simp)
    walk_at "m.enter"
    k_with_none
    k_steps
    refine hret _ _ (line_txt txt_n2) ?_ _ _ (by assumption) (by walk_at "m.sub")
    rw [str_len, line_txt txt_n2, lnTxt, txt_gotos]
    simp only [List.length_append, List.length_cons, List.length_nil, List.flatMap_cons, List.flatMap_nil, ← str_len]
    have := intTxt_small (0 + 1 + 1) (by decide)
    omega
  · simp only [List.length_cons] at hn; omega
end

example : True := by
  w_top off
  k_with_none
  trivial
-- a comprehension over a tuple of the ledger
def SrcT (prog : Program) (w : World) (A : Around) (h₀ : Heap) (L : Addr) (m : Str → Option Value) (env : Env) (elt : PySem.Expr) (x : Str) (scope : Scope) (cl : List (Str × Addr)) (Fin : Shared → List Value → List (Addr × Obj) → Prop) (xv : Value) (s₁ : Shared) : Prop :=
  ∃ ax vs news, xv = .ref ax ∧ A.handled = none ∧ Fr h₀ L s₁.heap m ∧ News h₀ L s₁.heap news ∧ (ax, tupO vs) ∈ news ∧ vs.length ≤ sizeLine ∧
    ∀ g, LCg.CompRest prog w A h₀ L m env elt x scope cl { s₁ with heap := g } (fun nw => (ax, tupO vs) ∈ nw) (fun i v => vs[i]? = some v) (Fin { s₁ with heap := g }) vs.length 0 [] news
section
variable {prog : Program} {w : World} {A : Around} {E : Value → Shared → Prop} {s : Shared} {h₀ : Heap} {L : Addr} {m : Str → Option Value} {env : Env}
theorem SrcT.intro {elt : PySem.Expr} {x : Str} {scope : Scope} {cl : List (Str × Addr)} {Fin : Shared → List Value → List (Addr × Obj) → Prop} {ax : Addr} {vs : List Value} {news : List (Addr × Obj)} {s₁ : Shared}
    (hh : A.handled = none) (F : Fr h₀ L s₁.heap m) (N : News h₀ L s₁.heap news) (hm : (ax, tupO vs) ∈ news) (hsz : vs.length ≤ sizeLine)
    (h : ∀ g, LCg.CompRest prog w A h₀ L m env elt x scope cl { s₁ with heap := g } (fun nw => (ax, tupO vs) ∈ nw) (fun i v => vs[i]? = some v) (Fin { s₁ with heap := g }) vs.length 0 [] news) :
    SrcT prog w A h₀ L m env elt x scope cl Fin (.ref ax) s₁ := ⟨ax, vs, news, rfl, hh, F, N, hm, hsz, h⟩
theorem comp_tuple {elt iter : PySem.Expr} {x : Str} {px : Pos} {scope : Scope} {cl : List (Str × Addr)} {pos : Pos} {Q : Value → Shared → Prop} (F₀ : Fr h₀ L s.heap m)
    (hclos : closureFor scope env = pure cl) (hcell : ∀ y ∈ scope.names, y.2 ≠ .cell) (hkind : scope.kind = .function)
    (hnames : ∀ y ∈ scope.names, y.2 = .local → scope.names.lookup y.1 = some .local) (hx : scope.names.lookup x = some .local)
    (h : wpAny (model prog w) A (eval iter env) (SrcT prog w A h₀ L m env elt x scope cl (fun s₂ => LCg.FinE h₀ L m s₂ Q)) E s)
    (hs : ∀ x, foldedSetIterable iter env x = pure x := by intro _; rfl) :
    wpAny (model prog w) A (eval (.ListComp elt [⟨.Name x px, iter, [], 0⟩] scope pos) env) Q E s := by
  rw [eval_ListComp]
  refine wpAny_comprehension_free (use := none) rfl hs hclos hkind hnames (wpAny_mono h (fun xv s₁ h₁ => ?_) fun _ _ e => e)
  obtain ⟨ax, vs, news, rfl, hh, F, N, hm, hsz, R⟩ := h₁
  have hl : s₁.heap.IsTuple ax vs.toArray := ⟨_, (N _ hm).1, rfl, _, rfl⟩
  have hlt : ax < s₁.heap.objs.size := Heap.lt_size (N _ hm).1
  have up : ∀ b o, s₁.heap.get? b = some o → (s₁.heap.push { cls := .type "tuple_iterator", data := .fields #[.ref ax, .int 0 0] }).get? b = some o := fun b o e => Heap.get?_push_of_some _ e
  refine wpAny_pyIter_tuple hl ?_
  refine LCg.block_U (n := vs.length) (P := fun i v => vs[i]? = some v) (St := fun i h => h.IsTupleIter s₁.heap.objs.size ax i ∧ h.IsTuple ax vs.toArray) (fp := [s₁.heap.objs.size, ax]) (S := fun nw => (ax, tupO vs) ∈ nw) ?W hsz (fun i h st => by obtain ⟨o, e, _⟩ := st.1; exact ⟨o, e⟩)
    (fun i h h' o nw st e e' k N S => ⟨by obtain ⟨o', q, r⟩ := st.1; rw [e] at q; cases q; exact ⟨o, e', r⟩, ⟨_, (N _ S).1, rfl, _, rfl⟩⟩) hcell hkind hx ⟨⟨_, Heap.get?_push_size _ rfl, rfl, rfl⟩, ⟨_, up _ _ (N _ hm).1, rfl, _, rfl⟩⟩ (fun b hb => ?_)
    (F.keeps up) (N.grown up) (Nat.ne_of_lt F.ns.lt) (next_is_new F) (fun p hp => Nat.ne_of_lt (Heap.lt_size (N p hp).1)) hm (R _) ?_
  case W =>
    have W := Walks.tuple (prog := prog) (w := w) (A := A) hh s₁.heap.objs.size ax (Nat.ne_of_lt hlt) vs.toArray
    rw [List.size_toArray] at W
    simp only [List.getElem?_toArray] at W
    exact W
  · show b < (s₁.heap.push _).objs.size
    rw [Heap.size_push]
    rcases List.mem_cons.mp hb with rfl | hb
    · exact Nat.lt_succ_self _
    · rw [List.mem_singleton.mp hb]; exact Nat.lt_succ_of_lt hlt
  · intro D C h tk m' ys news' F' N' o1 hn hC₀ hD₀ hCL hDL hCD offC fin
    refine ⟨m', hn, fun h'' hs'' => fin D h'' tk (F'.change hs'' hCL hC₀) (fun p hp => ?_) o1⟩
    refine ⟨hs''.extBut _ _ ?_ (N' p hp).1, (N' p hp).2⟩
    rcases List.mem_cons.mp hp with rfl | hp
    · exact Ne.symm hCD
    · exact offC p hp
end
local macro_rules | `(tactic| walk_at "SrcT") => `(tactic| (refine Hold.out ?_))

example : True := by
  w_top off
  k_with_none
  trivial
theorem b5_log {n : Nat} (h : n < B5) : ((n : Int)).natAbs.log2 < 1920 := by
  show n.log2 < 1920
  by_cases h0 : n = 0
  · rw [h0]; decide
  · have : n.log2 < 500 := (Nat.log2_lt h0).mpr h
    omega
theorem intTxt_nat (n : Nat) : intTxt (n : Int) = digs n := by rw [intTxt, if_neg (by omega)]; rfl
theorem num_txt (n : Nat) : (Str.ofString (toString ((n : Nat) : Int))).cps.toList = intTxt (n : Int) := by rw [digs_str, intTxt_nat]
theorem num_len {n : Nat} (h : n < B5) : (Str.ofString (toString ((n : Nat) : Int))).length ≤ 160 := by
  rw [str_len, digs_str]
  exact digs_len (by decide) (Nat.lt_trans h B5_lt)
local macro_rules | `(tactic| walk_at "call type:str") => `(tactic| (k_here; (with_reducible show wpAny _ _ (call (Value.type "str") [Value.int (Nat.cast _) _]) _ _ _); (refine P.str_of_int (b5_log (by assumption)) ?_)))
theorem ints_atN {vs : List Value} {ns : List Nat} (H : IntsAre vs (ns.map Int.ofNat)) {i : Nat} {v : Value} (e : vs[i]? = some v) : ∃ n : Nat, ns[i]? = some n ∧ ∃ t, v = .int (n : Int) t := by
  obtain ⟨z, hz, t, rfl⟩ := ints_atZ H e
  rw [List.getElem?_map] at hz
  obtain ⟨n, hn, rfl⟩ := Option.map_eq_some_iff.mp hz
  exact ⟨n, hn, t, rfl⟩
theorem strs_snoc {x : Str} {t : Tok} {vs : List Value} {xs : List Str} (H : StrsAre vs xs) : StrsAre (vs ++ [.str x t]) (xs ++ [x]) := by
  induction H with
  | nil => exact .cons _ _ .nil
  | cons y u _ ih => exact .cons y u ih
theorem strs_sum {k : Nat} : ∀ {xs : List Str}, (∀ x ∈ xs, x.length ≤ k) → (xs.map (·.length)).sum ≤ k * xs.length
  | [], _ => Nat.le_refl _
  | x :: r, h => by
    have h1 := h x (.head _)
    have h2 := strs_sum (xs := r) fun y hy => h y (.tail _ hy)
    rw [List.map_cons, List.sum_cons, List.length_cons, Nat.mul_succ]
    omega
theorem txt_open : (Str.ofString "(").cps.toList = [40] := by decide +kernel
theorem txt_shut : (Str.ofString ")").cps.toList = [41] := by decide +kernel
noncomputable def parTxt : List Nat → List Nat
  | [] => []
  | p :: r => intTxt (p : Int) ++ tailTxt (r.map Int.ofNat)
theorem join_tail {xs : List Str} {r : List Nat} (h : xs.map (fun x => x.cps.toList) = r.map (fun (p : Nat) => intTxt (p : Int))) : xs.flatMap (fun y => (Str.ofString " ").cps.toList ++ y.cps.toList) = tailTxt (r.map Int.ofNat) := by
  rw [txt_sp]
  exact ((List.flatMap_map (fun x : Str => x.cps.toList) (fun l : List Nat => 32 :: l) _).symm.trans (congrArg (fun l : List (List Nat) => l.flatMap (fun l => 32 :: l)) h)).trans ((List.flatMap_map (fun p : Nat => intTxt p) (fun l : List Nat => 32 :: l) _).trans (List.flatMap_map Int.ofNat (fun z => 32 :: intTxt z) _).symm)
theorem join_parts : ∀ {xs : List Str} {ps : List Nat}, xs.map (fun x => x.cps.toList) = ps.map (fun (p : Nat) => intTxt (p : Int)) → (Txt.join (Str.ofString " ") xs).cps.toList = parTxt ps
  | [], [], _ => rfl
  | [], _ :: _, h => nomatch h
  | _ :: _, [], h => nomatch h
  | x :: xs, p :: r, h => by
    rw [List.map_cons, List.map_cons] at h
    obtain ⟨h1, h2⟩ := List.cons.inj h
    rw [join_txt, join_tail h2, h1]
    rfl
theorem intTxt_len {p : Nat} (h : p < B5) : (intTxt (p : Int)).length ≤ 160 := by
  rw [intTxt_nat]
  exact digs_len (by decide) (Nat.lt_trans h B5_lt)
theorem tailTxt_len : ∀ {r : List Nat}, (∀ p ∈ r, p < B5) → (tailTxt (r.map Int.ofNat)).length ≤ 161 * r.length
  | [], _ => Nat.le_refl _
  | p :: r, h => by
    have h1 := intTxt_len (h p (.head _))
    have h2 := tailTxt_len (r := r) fun q hq => h q (.tail _ hq)
    have e : tailTxt ((p :: r).map Int.ofNat) = 32 :: (intTxt (p : Int) ++ tailTxt (r.map Int.ofNat)) := rfl
    rw [e, List.length_cons, List.length_append, List.length_cons]
    omega
theorem parTxt_len : ∀ {ps : List Nat}, (∀ p ∈ ps, p < B5) → (parTxt ps).length ≤ 161 * ps.length
  | [], _ => Nat.le_refl _
  | p :: r, h => by
    have h1 := intTxt_len (h p (.head _))
    have h2 := tailTxt_len (r := r) fun q hq => h q (.tail _ hq)
    rw [parTxt, List.length_append, List.length_cons]
    omega
section
variable {w : World} {mean : ExcName → Option Value} {mg mb : Str → Option Value}
theorem show_num {n : Nat} {t : Tok} {rest : List (Addr × Obj)} (hn : n < B5 := by assumption) :
    CallOk w mean mg mb 4 60 (.ref 264) [.int (n : Nat) t] rest
      (fun C => ∀ x t', x.cps.toList = intTxt (n : Int) → x.length ≤ 160 → C (.str x t') rest) (fun _ => True) := by
  intro dp un gd cn cs a ccd cl outer A₀ base h₀ L m s Q E B F X N Tp hk hd hu hret hrse
  dsimp only at hret
  walk_at "m.enter"
  k_with_none
  k_steps
  exact hret _ _ (num_txt n) (num_len hn) _ _ (by assumption) (by walk_at "m.sub")
end
local macro_rules | `(tactic| walk_at "call ref") => `(tactic| ((with_reducible show wpAny _ _ (call (Value.ref 264) [Value.int (Nat.cast _) _]) _ _ _); k_dflt (refine CallOk.go (N := by k_asm) (C := show_num) (ret := ?_)); walk_at "m.fin"))
section
variable {w : World} {mean : ExcName → Option Value} {mg mb : Str → Option Value}
theorem show_tup {ps : List Nat} {q : Addr} {vs : List Value} {rest : List (Addr × Obj)} (hb : ∀ p ∈ ps, p < B5 := by assumption) (hI : IntsAre vs (ps.map Int.ofNat) := by assumption) (hl : ps.length ≤ 4 := by walk_at "m.om") :
    CallOk w mean mg mb 8 120 (.ref 264) [.ref q] ((q, tupO vs) :: rest)
      (fun C => ∀ x t', x.cps.toList = 40 :: (parTxt ps ++ [41]) → x.length ≤ 700 → C (.str x t') ((q, tupO vs) :: rest)) (fun _ => True) := by
  intro dp un gd cn cs a ccd cl outer A₀ base h₀ L m s Q E B F X N Tp hk hd hu hret hrse
  dsimp only at hret
  walk_at "m.enter"
  k_with_none
  k_steps
  refine ⟨?_⟩
  (with_reducible rename News _ _ _ (_ :: _ :: _) => N1)
  k_dflt (refine comp_tuple (F₀ := by k_asm) (by rfl) (by decide) (by rfl) (by decide) (by rfl) ?_)
  k_steps
  refine ⟨?_⟩
  have hlv := hI.length
  rw [List.length_map] at hlv
  refine SrcT.intro (vs := vs) (by rfl) (by k_asm) N1 (by walk_at "m.mem") (by rw [sizeLine_eq]; omega) ?_
  intro g3
  refine comp_inv (τ := Unit) (fun _ => _) (fun i ys _ => ∃ xs : List Str, StrsAre ys xs ∧ (∀ x ∈ xs, x.length ≤ 160) ∧ xs.map (fun x => x.cps.toList) = (ps.take i).map (fun (p : Nat) => intTxt (p : Int))) () rfl ⟨[], .nil, (fun _ h => nomatch h), rfl⟩ ?_ ?_
  · rintro i ys ⟨⟩ v I oI C oC D m₂ h tk E' hi ⟨xs, hz1, hz2, hz3⟩ hv hC3 hx hF3 hN3 off nex
    obtain ⟨z, hz, tz, rfl⟩ := ints_atN hI hv
    have hzb := hb z (List.mem_of_getElem? hz)
    dsimp only at hN3 off ⊢
    k_steps
    (with_reducible rename Fr _ _ _ _ => F9)
    (with_reducible rename News _ _ _ _ => N9)
    rename_i x9 t9' ex lx h9 t9
    refine ⟨LCg.CompEnd.intro F9 N9 _ (by walk_at "m.tail") off (by walk_at "m.mem") ⟨(), rfl, xs ++ [x9], strs_snoc hz1, ?_, ?_⟩⟩
    · intro y hy
      rcases List.mem_append.mp hy with hy | hy
      · exact hz2 y hy
      · rw [List.mem_singleton.mp hy]; exact lx
    · rw [List.take_add_one, hz, List.map_append, hz3, List.map_append, List.map_cons, List.map_nil, ex]; rfl
  · rintro ys ⟨⟩ ⟨xs, hz1, hz2, hz3⟩
    intro D h3 tk3 F3 N3 off3
    rw [hlv, List.take_length] at hz3
    have hxl : xs.length = ps.length := by have := congrArg List.length hz3; rwa [List.length_map, List.length_map] at this
    have hsum := strs_sum hz2
    replace N3 : News _ _ _ ((D, listOf ys.toArray ys.length) :: _) := N3
    have hj := join_parts hz3
    have hjl : (Txt.join (Str.ofString " ") xs).length ≤ 650 := by
      rw [str_len, hj]
      have := parTxt_len hb
      omega
    k_steps
    k_dflt (refine join_listW (ys := xs) (by is_list) hz1 (by decide +kernel) (by omega) ?_)
    intro t9 k9
    k_steps
    (with_reducible rename Fr h₀ _ _ _ => F9)
    (with_reducible rename News h₀ _ _ _ => N9)
    refine hret _ _ (by rw [str_app, str_app, hj, txt_open, txt_shut]; rfl) ?_ _ _ F9 (by walk_at "m.sub")
    rw [str_len, str_app, str_app, txt_open, txt_shut, List.length_append, List.length_append, ← str_len (Txt.join _ _)]
    simp only [List.length_cons, List.length_nil]
    omega
end

example : True := by
  w_top off
  k_with_none
  trivial
section
variable {prog : Program} {w : World} {A : Around} {E : Value → Shared → Prop} {s : Shared} {h₀ : Heap} {L l b : Addr} {m : Str → Option Value} {news : List (Addr × Obj)} {Q : Value → Shared → Prop}
theorem len_listN {vs : List Value} {n : Nat} (N : News h₀ L s.heap news) (hm : (l, listOf vs.toArray n) ∈ news) (hz : vs.length ≤ 100000) (h : Q (.int (vs.length : Nat) (s.toks + 1)) { s with toks := s.toks + 1 + 1 }) :
    wpAny (model prog w) A (call (.builtin "len") [.ref l]) Q E s :=
  PyProof.Rows.len_list (PySem.IsL.isList (n := n) (N _ hm).1) (by rw [List.size_toArray]; omega) (by rw [List.size_toArray]; exact h)
theorem add_listsN {its ws : List Value} {n k : Nat} (F : Fr h₀ L s.heap m) (N : News h₀ L s.heap news) (hm : (l, listOf its.toArray n) ∈ news) (hm' : (b, listOf ws.toArray k) ∈ news) (hz : its.length + ws.length ≤ 100000)
    (h : ∀ D h', Fr h₀ L h' m → News h₀ L h' ((D, listOf (its ++ ws).toArray 0) :: news) → (∀ p ∈ news, p.1 < D) → Q (.ref D) { s with heap := h' }) : wpAny (model prog w) A (binaryOp .Add (.ref l) (.ref b)) Q E s :=
  add_arrays F N (PySem.IsL.isList (n := n) (N _ hm).1) (PySem.IsL.isList (n := k) (N _ hm').1) (fun h' F' N' => h _ h' F' N' fun p hp => Heap.lt_size (N p hp).1) (by rw [List.size_toArray, List.size_toArray, sizeLine_eq]; omega)
end
local macro_rules | `(tactic| walk_at "call builtin:len") => `(tactic| (k_here; (with_reducible show wpAny _ _ (call (Value.builtin "len") [Value.ref _]) _ _ _); k_dflt (refine len_listN (by k_asm) (by k_mem) (by omega) ?_)))
local macro_rules | `(tactic| walk_at "binaryOp Add ref ref") => `(tactic| (k_here; (with_reducible show wpAny _ _ (binaryOp _ (Value.ref _) (Value.ref _)) _ _ _); k_dflt (refine add_listsN (by k_asm) (by k_asm) (by k_mem) (by k_mem) (by (simp only [List.length_cons, List.length_nil]); omega) ?_); intro D9 h9 F9 N9 l9; (try k_lt l9); (try k_sweep)))
local macro_rules | `(tactic| walk_at "call ref") => `(tactic| ((with_reducible show wpAny _ _ (call (Value.ref 264) [Value.ref _]) _ _ _); k_dflt (refine CallOk.go (N := by walk_at "m.news1") (C := show_tup) (ret := ?_)); walk_at "m.fin"))
theorem strs_len {vs : List Value} {xs : List Str} (H : StrsAre vs xs) : vs.length = xs.length := by
  induction H with
  | nil => rfl
  | cons _ _ _ ih => exact congrArg (· + 1) ih
theorem txt_colon : (Str.ofString ":").cps.toList = [58] := by decide +kernel
theorem flat_it {xs : List Str} {its : List It} (h : xs.map (fun x => x.cps.toList) = its.map itTxt) : xs.flatMap (fun x => 32 :: x.cps.toList) = its.flatMap (fun it => 32 :: itTxt it) :=
  ((List.flatMap_map (fun x : Str => x.cps.toList) (fun l : List Nat => 32 :: l) _).symm.trans (congrArg (fun l : List (List Nat) => l.flatMap (fun l => 32 :: l)) h)).trans (List.flatMap_map itTxt (fun l : List Nat => 32 :: l) _)
theorem flat_of {xs : List Str} {pss : List (List Nat)} (h : xs.map (fun x => x.cps.toList) = pss.map (fun ps => itTxt (itOf ps))) : xs.flatMap (fun x => 32 :: x.cps.toList) = (pss.map itOf).flatMap (fun it => 32 :: itTxt it) :=
  flat_it (h.trans (by rw [List.map_map]; rfl))
section
variable {w : World} {mean : ExcName → Option Value} {mg mb : Str → Option Value}
theorem add_ok {pss : List (List Nat)} {wr wd ll ml : Nat} {hh : Int} {kk tt tw : Tok} {e ep : Nat} {vs : List Value} {rest : List (Addr × Obj)} (hg : ∀ ps ∈ pss, Good ps ∧ ps.length ≤ 4) (hn : pss.length ≤ 2) (hI : ItsIn rest vs (pss.map itOf)) (hr : ∀ q ∈ rest, q.1 ≠ ll) (n1 : wr ≠ ll) (n2 : wd ≠ ll) (n3 : ml ≠ ll) :
    CallOk w mean mg mb 14 200 (.ref 283) [.ref wr, .str (Str.ofString "goto_masks") tw, .ref ml] ((wd, dictOf [⟨hh, .str (Str.ofString "lines") kk, .ref ll⟩] 1) :: (wr, instObj 293 wd) :: (ll, listOf #[.str (Str.ofString "head") tt] e) :: (ml, listOf vs.toArray ep) :: rest)
      (fun C => ∀ ln t e', ln.cps.toList = lineTxt (pss.map itOf) → C .none ((wd, dictOf [⟨hh, .str (Str.ofString "lines") kk, .ref ll⟩] 1) :: (wr, instObj 293 wd) :: (ll, listOf #[.str (Str.ofString "head") tt, .str ln t] e') :: rest)) (fun _ => True) := by
  intro dp un gd cn cs a ccd cl outer A₀ base h₀ L m s Q E B F X N Tp hk hd hu hret hrse
  dsimp only at hret
  have hlv := hI.length
  rw [List.length_map] at hlv
  walk_at "m.enter"
  (with_reducible rename News _ _ _ (_ :: _ :: _ :: _) => N1)
  k_with_none
  k_steps
  refine ⟨?_⟩
  k_dflt (refine LCg.ListComp_U (F₀ := by k_asm) (by rfl) (by decide) (by rfl) (by decide) (by rfl) ?_)
  k_steps
  refine ⟨?_⟩
  (with_reducible rename News _ _ _ (_ :: _ :: _ :: _) => N2)
  refine LCg.CompSrc.ledger (its := vs.toArray) (k := ep) (by rfl) (by k_asm) N2 (by walk_at "m.mem") (by rw [sizeLine_eq, List.size_toArray]; omega) ?_
  intro g3
  refine comp_inv (τ := Unit) (fun _ => _) (fun i ys _ => ∃ xs : List Str, StrsAre ys xs ∧ (∀ x ∈ xs, x.length ≤ 700) ∧ xs.map (fun x => x.cps.toList) = (pss.take i).map (fun ps => itTxt (itOf ps))) () rfl ⟨[], .nil, (fun _ h => nomatch h), rfl⟩ ?_ ?_
  · rintro i ys ⟨⟩ v I oI C oC D m₂ h tk E' hi ⟨xs, hz1, hz2, hz3⟩ hv hC3 hx hF3 hN3 off nex
    rw [List.getElem?_toArray] at hv
    rw [List.size_toArray] at hi
    obtain ⟨it, hit, hin⟩ := hI.get hv
    obtain ⟨ps, hps⟩ : ∃ ps, pss[i]? = some ps := ⟨_, List.getElem?_eq_getElem (by omega)⟩
    rw [List.getElem?_map, hps, Option.map_some] at hit
    obtain ⟨hgd, hg4⟩ := hg ps (List.mem_of_getElem? hps)
    have htk : (pss.take (i + 1)).map (fun ps => itTxt (itOf ps)) = (pss.take i).map (fun ps => itTxt (itOf ps)) ++ [itTxt (itOf ps)] := by
      rw [List.take_add_one, hps, List.map_append]; rfl
    obtain rfl := Option.some.inj hit
    dsimp only at hN3 off ⊢
    rcases ps with _ | ⟨p0, _ | ⟨p1, r⟩⟩
    · exact absurd rfl hgd.1
    · cases hin with
      | num _ tn =>
        have hzb := hgd.2.1 p0 (by simp)
        k_steps
        (with_reducible rename Fr _ _ _ _ => F9)
        (with_reducible rename News _ _ _ _ => N9)
        rename_i x9 t9' ex lx h9 t9
        refine ⟨LCg.CompEnd.intro F9 N9 _ (by walk_at "m.tail") off (Or.inr ⟨_, by walk_at "m.mem", rfl, _, rfl⟩) ⟨(), rfl, xs ++ [x9], strs_snoc hz1, ?_, ?_⟩⟩
        · intro y hy
          rcases List.mem_append.mp hy with hy | hy
          · exact hz2 y hy
          · rw [List.mem_singleton.mp hy]; omega
        · rw [List.map_append, hz3, htk, List.map_cons, List.map_nil, ex]; rfl
    · cases hin with
      | @tup xt vt _ _ hm hints =>
        have hzb := hgd.2.1
        have hint : IntsAre vt ((p0 :: p1 :: r).map Int.ofNat) := hints
        replace hN3 := news_sub hN3 (List.forall_mem_cons.mpr ⟨by simp [hm], fun _ h => h⟩ : ∀ q ∈ (xt, tupO vt) :: _, q ∈ _)
        k_steps
        (with_reducible rename Fr _ _ _ _ => F9)
        (with_reducible rename News _ _ _ _ => N9)
        rename_i x9 t9' ex lx h9 t9
        refine ⟨LCg.CompEnd.intro F9 N9 _ (by walk_at "m.tail") off (Or.inr ⟨_, by walk_at "m.mem", rfl, _, rfl⟩) ⟨(), rfl, xs ++ [x9], strs_snoc hz1, ?_, ?_⟩⟩
        · intro y hy
          rcases List.mem_append.mp hy with hy | hy
          · exact hz2 y hy
          · rw [List.mem_singleton.mp hy]; omega
        · rw [List.map_append, hz3, htk, List.map_cons, List.map_nil, ex]; simp only [itTxt, itOf, parTxt, List.append_assoc]
  · rintro ys ⟨⟩ ⟨xs, hz1, hz2, hz3⟩
    intro D h3 tk3 F3 N3 off3
    simp only [List.size_toArray] at hz3
    rw [hlv, List.take_length] at hz3
    have hxl : xs.length = pss.length := by have := congrArg List.length hz3; rwa [List.length_map, List.length_map] at this
    have hsum := strs_sum hz2
    have hyl := strs_len hz1
    replace N3 : News _ _ _ ((D, listOf ys.toArray ys.length) :: _) := N3
    have hjt : (Txt.join (Str.ofString " ") (Str.ofString "goto_masks" :: (Str.ofString (toString ((vs.length : Nat) : Int)) ++ Str.ofString ":") :: xs)).cps.toList = lineTxt (pss.map itOf) := by
      rw [line_txt (by rw [str_app, num_txt, txt_colon, hlv, ← hxl]), lnTxt, lineTxt, itsTxt, List.length_map, hxl, txt_gotos]
      rw [flat_of hz3]
    have hnl : (Str.ofString (toString ((vs.length : Nat) : Int)) ++ Str.ofString ":").length ≤ 5 := by
      rw [str_len, str_app, num_txt, txt_colon, List.length_append]
      have := intTxt_small vs.length (by omega)
      simp only [List.length_cons, List.length_nil]
      omega
    have hgl := len_goto
    simp only [LCg.Off1] at off3
    obtain ⟨oa, ob, oc, od, oe, of⟩ := off3
    k_steps
    k_dflt (refine join_listW (ys := Str.ofString "goto_masks" :: (Str.ofString (toString ((vs.length : Nat) : Int)) ++ Str.ofString ":") :: xs) (by is_list) (.cons _ _ (.cons _ _ hz1)) (by decide +kernel) (by (simp only [List.map_cons, List.sum_cons, List.length_cons]; omega)) ?_)
    intro t9 k9
    k_steps
    (with_reducible rename Fr h₀ _ _ _ => F9)
    (with_reducible rename News h₀ _ _ _ => N9)
    exact hret _ _ _ hjt _ _ F9 (by walk_at "m.sub")
end

example : True := by
  w_top off
  k_with_none
  trivial
-- a comprehension over enumerate(list), its element a value that leaves the heap as it is
def KeepEnd (s : Shared) (J : Value → Prop) (y : Value) (s₂ : Shared) : Prop := ∃ tk, s₂ = { s with toks := tk } ∧ J y
def EnSrc (prog : Program) (w : World) (A : Around) (h₀ : Heap) (L : Addr) (m : Str → Option Value) (env : Env) (elt : PySem.Expr) (a b : Str) (scope : Scope) (cl : List (Str × Addr)) (Fin : Shared → List Value → List (Addr × Obj) → Prop) (xv : Value) (s₁ : Shared) : Prop :=
  ∀ G : Prop, (∀ (e it l : Addr) (vs : List Value) (n : Nat) (news : List (Addr × Obj)) (J : Nat → List Value → Prop), xv = .ref e → A.handled = none → Fr h₀ L s₁.heap m → News h₀ L s₁.heap news → (l, listOf vs.toArray n) ∈ news → vs.length ≤ sizeLine → IsEnum s₁.heap e it 0 .none → s₁.heap.IsListIter it l 0 → e ≠ it → (∀ q ∈ news, q.1 ≠ e ∧ q.1 ≠ it) → L ≠ e → L ≠ it → h₀.get? e = none → h₀.get? it = none → J 0 [] → (∀ i x ys t C oC D m₂ h tk (E' : Value → Shared → Prop), vs[i]? = some x → J i ys → LCg.NsObj oC m₂ → m₂ a = some (.int (i : Nat) t) → m₂ b = some x → Fr h₀ L h m → News h₀ L h ((C, oC) :: (D, LCg.lst ys) :: news) →
      wpAny (model prog w) A (eval elt (compEnvC scope cl C env)) (KeepEnd { s₁ with heap := h, toks := tk } (fun y => J (i + 1) (ys ++ [y]))) E' { s₁ with heap := h, toks := tk }) → (∀ ys g, J vs.length ys → Fin { s₁ with heap := g } ys news) → G) → G
theorem off1_of {D : Addr} : ∀ {l : List (Addr × Obj)}, (∀ q ∈ l, q.1 ≠ D) → LCg.Off1 D l
  | [], _ => trivial
  | _ :: _, h => ⟨h _ (.head _), off1_of fun q hq => h q (.tail _ hq)⟩
section
variable {prog : Program} {w : World} {A : Around} {E : Value → Shared → Prop} {s : Shared} {h₀ : Heap} {L : Addr} {m : Str → Option Value} {env : Env}
theorem EnSrc.call {elt : PySem.Expr} {a b : Str} {scope : Scope} {cl : List (Str × Addr)} {Fin : Shared → List Value → List (Addr × Obj) → Prop} {l : Addr} {vs : List Value} {n : Nat} {news : List (Addr × Obj)} (J : Nat → List Value → Prop)
    (hh : A.handled = none) (F : Fr h₀ L s.heap m) (N : News h₀ L s.heap news) (hm : (l, listOf vs.toArray n) ∈ news) (hsz : vs.length ≤ sizeLine) (hJ : J 0 [])
    (turn : ∀ g i x ys t C oC D m₂ h tk (E' : Value → Shared → Prop), vs[i]? = some x → J i ys → LCg.NsObj oC m₂ → m₂ a = some (.int (i : Nat) t) → m₂ b = some x → Fr h₀ L h m → News h₀ L h ((C, oC) :: (D, LCg.lst ys) :: news) →
      wpAny (model prog w) A (eval elt (compEnvC scope cl C env)) (KeepEnd { { s with heap := g } with heap := h, toks := tk } (fun y => J (i + 1) (ys ++ [y]))) E' { { s with heap := g } with heap := h, toks := tk })
    (done : ∀ ys g, J vs.length ys → Fin { s with heap := g } ys news) :
    wpAny (model prog w) A (call (.type "enumerate") [.ref l]) (EnSrc prog w A h₀ L m env elt a b scope cl Fin) E s := by
  have hl : s.heap.IsList l vs.toArray := ⟨_, (N _ hm).1, rfl, n, rfl⟩
  have hLs : L < s.heap.objs.size := F.ns.lt
  have fresh₀ : ∀ a, s.heap.objs.size ≤ a → h₀.get? a = none := fun a ha => by
    cases e : h₀.get? a with
    | none => rfl
    | some o' => exact absurd (Heap.lt_size (F.keep a o' e)) (Nat.not_lt.mpr ha)
  refine call_enumerate_list hl fun h' hE hI hsz' hk => ?_
  exact fun G k => k _ _ l vs n news J rfl hh (F.keeps hk) (N.grown hk) hm hsz hE hI (Nat.succ_ne_self _) (fun q hq => ⟨Nat.ne_of_lt (Nat.lt_succ_of_lt (Heap.lt_size (N q hq).1)), Nat.ne_of_lt (Heap.lt_size (N q hq).1)⟩)
    (Nat.ne_of_lt (Nat.lt_succ_of_lt hLs)) (Nat.ne_of_lt hLs) (fresh₀ _ (Nat.le_succ _)) (fresh₀ _ (Nat.le_refl _)) hJ (turn _) fun ys g hj => done ys g hj
theorem comp_enum {elt iter : PySem.Expr} {a b : Str} {pa pb tp : Pos} {kk : Nat} {scope : Scope} {cl : List (Str × Addr)} {pos : Pos} {Q : Value → Shared → Prop} (F₀ : Fr h₀ L s.heap m)
    (hclos : closureFor scope env = pure cl) (hcell : ∀ y ∈ scope.names, y.2 ≠ .cell) (hkind : scope.kind = .function)
    (hnames : ∀ y ∈ scope.names, y.2 = .local → scope.names.lookup y.1 = some .local) (hxa : scope.names.lookup a = some .local) (hxb : scope.names.lookup b = some .local) (hab : ¬ a = b)
    (h : wpAny (model prog w) A (eval iter env) (EnSrc prog w A h₀ L m env elt a b scope cl (fun s₂ => LCg.FinE h₀ L m s₂ Q)) E s)
    (hs : ∀ x, foldedSetIterable iter env x = pure x := by intro _; rfl) :
    wpAny (model prog w) A (eval (.ListComp elt [⟨.Tuple [.Name a pa, .Name b pb] kk tp, iter, [], 0⟩] scope pos) env) Q E s := by
  rw [eval_ListComp]
  refine wpAny_comprehension_free (use := none) rfl hs hclos hkind hnames (wpAny_mono h (fun xv s₂ h₁ => ?_) fun _ _ e => e)
  refine h₁ _ ?_
  rintro e it l vs n news J rfl hh F N hm hsz hE hI hei off hLe hLi he₀ hi₀ hJ turn done
  refine wpAny_pyIter_enum hE ?_
  have hl : s₂.heap.IsList l vs.toArray := ⟨_, (N _ hm).1, rfl, n, rfl⟩
  have hle := (off _ hm).1
  have hli := (off _ hm).2
  refine wpAny_newObj_type (wpAny_newFunctionEnv hcell (by intro y hy; simp at hy) (fun h₁ hns₁ hsb₁ => ?_) hkind)
  dsimp only at hns₁ hsb₁ hle hli ⊢
  generalize hH2 : s₂.heap.push { cls := .type "list", dict := none, data := .seq ([] : List Value).toArray } = H2 at hns₁ hsb₁ ⊢
  have hC : H2.objs.size = s₂.heap.objs.size + 1 := by rw [← hH2, Heap.size_push]
  have hDC : s₂.heap.objs.size ≠ H2.objs.size := by rw [hC]; exact Nat.ne_of_lt (Nat.lt_succ_self _)
  have below : ∀ b, b < s₂.heap.objs.size → b ≠ H2.objs.size ∧ b ≠ s₂.heap.objs.size := fun b hb => ⟨by rw [hC]; exact Nat.ne_of_lt (Nat.lt_succ_of_lt hb), Nat.ne_of_lt hb⟩
  have helt : e < s₂.heap.objs.size := Heap.lt_size hE
  have hilt : it < s₂.heap.objs.size := by obtain ⟨_, x, _⟩ := hI; exact Heap.lt_size x
  have old : ∀ b o, s₂.heap.get? b = some o → h₁.get? b = some o := fun b o q => hsb₁.extBut b o (below b (Heap.lt_size q)).1 (Heap.get?_push_of_some _ (hH2 ▸ Heap.get?_push_of_some _ q))
  have hacc : h₁.get? s₂.heap.objs.size = some (LCg.lst []) := hsb₁.extBut _ _ hDC (Heap.get?_push_of_some _ (hH2 ▸ Heap.get?_push_size _ rfl))
  have fresh₀ : ∀ a, s₂.heap.objs.size ≤ a → h₀.get? a = none := fun a ha => by
    cases q : h₀.get? a with
    | none => rfl
    | some o' => exact absurd (Heap.lt_size (F.keep a o' q)) (Nat.not_lt.mpr ha)
  have hD₀ : h₀.get? s₂.heap.objs.size = none := fresh₀ _ (Nat.le_refl _)
  have hC₀ : h₀.get? H2.objs.size = none := fresh₀ _ (by rw [hC]; exact Nat.le_succ _)
  have hLlt : L < s₂.heap.objs.size := F.ns.lt
  have hDL : s₂.heap.objs.size ≠ L := Ne.symm (below L hLlt).2
  have hCL : H2.objs.size ≠ L := Ne.symm (below L hLlt).1
  have hCe := (below e helt).1
  have hCi := (below it hilt).1
  have hDe := (below e helt).2
  have hDi := (below it hilt).2
  have offC : ∀ p ∈ news, p.1 ≠ H2.objs.size ∧ p.1 ≠ s₂.heap.objs.size := fun p hp => below _ (Heap.lt_size (N p hp).1)
  have W := KTurns.ofWalksU (elts := [.Name a pa, .Name b pb]) (k := kk) (pos := tp) (WalksT.enumerate (prog := prog) (w := w) (A := A) hh e it l hei hle hli vs.toArray).toU
  have hnw : ∀ b, b ≠ e → b ≠ it → b ∉ [e, it] := fun b h1 h2 hm => by
    rcases List.mem_cons.mp hm with q | hm
    · exact h1 q
    · exact h2 (List.mem_singleton.mp hm)
  have loop : ∀ s₃ : Shared, s₃ = { s₂ with heap := h₁, toks := s₂.toks + ([] : List (Str × Value)).length } →
      codeAny (model prog w) A (.compLoop (.ListComp elt [⟨.Tuple [.Name a pa, .Name b pb] kk tp, iter, [], 0⟩] scope pos) 0 (.ref e) (.ref s₂.heap.objs.size) (compEnvC scope cl H2.objs.size env))
        (compPost (model prog w) A E none Q (.ref s₂.heap.objs.size) H2.objs.size) s₃ := by
    rintro s₃ rfl
    refine kcp_loop
      (fun k s' => ∀ G : Prop, (∀ h' tk i ys m', s' = { s₂ with heap := h', toks := tk } → i ≤ vs.toArray.size → k = vs.toArray.size + 1 - i → ys.length = i → ((∃ old, IsEnum h' e it i old) ∧ h'.IsListIter it l i ∧ h'.IsList l vs.toArray) → Fr h₀ L h' m → h'.Ns H2.objs.size m' →
        News h₀ L h' ((s₂.heap.objs.size, LCg.lst ys) :: news) → J i ys → G) → G) ?_ (vs.toArray.size + 1)
      (fun G kG => kG h₁ _ 0 [] _ rfl (Nat.zero_le _) rfl rfl ⟨⟨_, old _ _ hE⟩, hI.at fun o q => old _ o q, hl.at fun o q => old _ o q⟩ (F.keeps old) hns₁ (fun p hp => ?_) hJ)
    · intro k s' hs'
      refine hs' _ ?_
      rintro h' tk i ys m' rfl hi rfl hyl hst F' hn' N' hj
      by_cases hlt : i < vs.toArray.size
      · refine W.item i _ _ _ hlt hst fun v h₂ tk₂ hMd hk₂ => ?_
        refine W.go i v _ _ _ hMd fun h₃ hP hst₃ hk₃ => ?_
        obtain ⟨T, vals, rfl, ⟨t, x, hx, rfl⟩, hT⟩ := hP
        rw [List.getElem?_toArray] at hx
        have up₃ : ∀ c o, c ≠ e → c ≠ it → h'.get? c = some o → h₃.get? c = some o := fun c o h1 h2 q => hk₃ c o (hnw c h1 h2) (hk₂ c o (hnw c h1 h2) q)
        refine kcp_assign (env := compEnvC scope cl H2.objs.size env) hh hT (lookup_relabel_local hxa) (lookup_relabel_local hxb) (by simp [compEnvC, relabel, hkind]) (hn'.at' fun o q => up₃ _ o (Ne.symm hCe) (Ne.symm hCi) q) fun h₄ tk₄ hn₄ hs₄ => ?_
        have up : ∀ c o, c ≠ e → c ≠ it → c ≠ H2.objs.size → h'.get? c = some o → h₄.get? c = some o := fun c o h1 h2 h3 q => hs₄ c o h3 (up₃ c o h1 h2 q)
        obtain ⟨oC, heC, hoC⟩ := LCg.ns_obj hn₄
        have F₄ : Fr h₀ L h₄ m := ⟨F'.ns.at' fun o q => up _ o hLe hLi (Ne.symm hCL) q, fun c o q => up c o (fun z => by rw [z, he₀] at q; cases q) (fun z => by rw [z, hi₀] at q; cases q) (fun z => by rw [z, hC₀] at q; cases q) (F'.keep c o q), F'.above⟩
        have N₄ : News h₀ L h₄ ((H2.objs.size, oC) :: (s₂.heap.objs.size, LCg.lst ys) :: news) := fun p hp => by
          rcases List.mem_cons.mp hp with rfl | hp
          · exact ⟨heC, hCL, hC₀⟩
          · have z := N' p hp
            rcases List.mem_cons.mp hp with rfl | hp
            · exact ⟨up _ _ (Ne.symm hDe) (Ne.symm hDi) hDC z.1, z.2⟩
            · exact ⟨up _ _ (off p hp).1 (off p hp).2 (offC p hp).1 z.1, z.2⟩
        refine wpAny_mono (turn i x ys t H2.objs.size oC s₂.heap.objs.size _ h₄ _ _ hx hj hoC (by simp [hab]) (by simp) F₄ N₄) (fun y s₅ h₅ => ?_) fun _ _ q => q
        obtain ⟨tk₅, rfl, hj₅⟩ := h₅
        have zC := (N₄ (H2.objs.size, oC) (.head _)).1
        have zD := (N₄ (s₂.heap.objs.size, LCg.lst ys) (.tail _ (.head _))).1
        refine append_at (hsz := by show ys.toArray.size ≤ sizeLine; rw [List.size_toArray, hyl]; rw [List.size_toArray] at hi; exact Nat.le_trans hi hsz) zD fun h₆ hs₆ hD₆ => ?_
        obtain ⟨⟨oldv, hEn⟩, hIt, hLs⟩ := hst₃
        refine ⟨vs.toArray.size + 1 - (i + 1), by omega, fun G kG => kG h₆ tk₅ (i + 1) (ys ++ [y]) _ rfl hlt rfl (by rw [List.length_append, List.length_singleton, hyl]) ⟨⟨oldv, ?_⟩, ?_, ?_⟩ (F₄.change hs₆ hDL hD₀)
          ((hoC.ns zC).sameBut hs₆ (Ne.symm hDC)) (fun p hp => ?_) hj₅⟩
        · exact hs₆.extBut _ _ hDe (hs₄ _ _ hCe hEn)
        · exact hIt.at fun o q => hs₆.extBut _ _ hDi (hs₄ _ _ hCi q)
        · exact hLs.at fun o q => hs₆.extBut _ _ (offC _ hm).2 (hs₄ _ _ (offC _ hm).1 q)
        rcases List.mem_cons.mp hp with rfl | hp
        · exact ⟨hD₆.trans (congrArg some (LCg.lst_snoc ys y)), hDL, hD₀⟩
        · exact ⟨hs₆.extBut _ _ (offC p hp).2 (N₄ p (.tail _ (.tail _ hp))).1, (N' p (.tail _ hp)).2⟩
      · have hin : i = vs.toArray.size := Nat.le_antisymm hi (Nat.not_lt.mp hlt)
        subst hin
        refine W.done _ _ _ hst fun h₂ tk₂ hk₂ => ?_
        have up₂ : ∀ c o, c ≠ e → c ≠ it → h'.get? c = some o → h₂.get? c = some o := fun c o h1 h2 q => hk₂ c o (hnw c h1 h2) q
        refine ⟨m', hn'.at' fun o q => up₂ _ o (Ne.symm hCe) (Ne.symm hCi) q, fun h'' hs'' => ?_⟩
        have up : ∀ c o, c ≠ e → c ≠ it → c ≠ H2.objs.size → h'.get? c = some o → h''.get? c = some o := fun c o h1 h2 h3 q => hs''.extBut c o h3 (up₂ c o h1 h2 q)
        rw [List.size_toArray] at hj
        refine done ys h₁ hj s₂.heap.objs.size h'' tk₂ ⟨F'.ns.at' fun o q => up _ o hLe hLi (Ne.symm hCL) q, fun c o q => up c o (fun z => by rw [z, he₀] at q; cases q) (fun z => by rw [z, hi₀] at q; cases q) (fun z => by rw [z, hC₀] at q; cases q) (F'.keep c o q), F'.above⟩ (fun p hp => ?_) (off1_of fun p hp => (offC p hp).2)
        have z := N' p hp
        rcases List.mem_cons.mp hp with rfl | hp
        · exact ⟨up _ _ (Ne.symm hDe) (Ne.symm hDi) hDC z.1, z.2⟩
        · exact ⟨up _ _ (off p hp).1 (off p hp).2 (offC p hp).1 z.1, z.2⟩
    · rcases List.mem_cons.mp hp with rfl | hp
      · exact ⟨hacc, hDL, hD₀⟩
      · exact ⟨old _ _ (N p hp).1, (N p hp).2⟩
  exact codeAny_compStart_list (loop _ rfl) (wpAny_pyIter_enum (old _ _ hE) (loop _ rfl))
end

example : True := by
  w_top off
  k_with_none
  trivial
-- lists of texts compared
def Small (l : List Nat) : Prop := ∀ c ∈ l, c < 200
theorem small_app {a b : List Nat} (ha : Small a) (hb : Small b) : Small (a ++ b) := fun c hc => (List.mem_append.mp hc).elim (ha c) (hb c)
theorem small_cons {c : Nat} {l : List Nat} (hc : c < 200) (h : Small l) : Small (c :: l) := fun d hd => by
  rcases List.mem_cons.mp hd with rfl | hd
  · exact hc
  · exact h d hd
theorem small_nil : Small [] := fun _ h => nomatch h
theorem small_int (z : Int) : Small (intTxt z) := by
  have h : Small (digs z.natAbs) := fun c hc => by have := digs_digit hc; omega
  unfold intTxt
  split
  · exact small_cons (by decide) h
  · exact h
theorem small_tail : ∀ r : List Int, Small (tailTxt r)
  | [] => small_nil
  | z :: r => by
    have e : tailTxt (z :: r) = 32 :: (intTxt z ++ tailTxt r) := rfl
    rw [e]
    exact small_cons (by decide) (small_app (small_int z) (small_tail r))
theorem small_it (it : It) : Small (itTxt it) := by
  cases it with
  | num z => exact small_int z
  | tup z zs => exact small_cons (by decide) (small_app (small_int z) (small_app (small_tail zs) (small_cons (by decide) small_nil)))
  | txt => exact small_cons (by decide) (small_cons (by decide) (small_cons (by decide) small_nil))
theorem small_its : ∀ its : List It, Small (itsTxt its)
  | [] => small_nil
  | it :: r => by
    have e : itsTxt (it :: r) = 32 :: (itTxt it ++ itsTxt r) := rfl
    rw [e]
    exact small_cons (by decide) (small_app (small_it it) (small_its r))
theorem small_goto : Small (Str.ofString "goto_masks" ++ Str.ofString " ").cps.toList := by
  rw [txt_gotos]
  exact fun c hc => of_decide_eq_true (List.all_eq_true.mp (by decide +kernel : List.all _ (fun c => decide (c < 200)) = true) c hc)
theorem small_line (its : List It) : Small (lineTxt its) := small_app small_goto (small_app (small_int _) (small_cons (by decide) (small_its its)))
theorem ok_of_small {x : Str} (h : Small x.cps.toList) : PyData.strOk x = true := by
  unfold PyData.strOk
  rw [← Array.all_toList, List.all_eq_true]
  intro c hc
  exact decide_eq_true (Nat.lt_trans (h c hc) (by decide))
theorem canS {xs : List Str} (h : ∀ x ∈ xs, PyData.strOk x = true) : PyData.canLayAll0 (xs.map PyData.str) = true := by
  induction xs with
  | nil => rfl
  | cons x r ih =>
    simp only [List.map_cons, PyData.canLayAll0, PyData.canLay0, h x (.head _), ih fun y hy => h y (.tail _ hy), Bool.and_self]
theorem depS (xs : List Str) : PyData.depthAll (xs.map PyData.str) = 0 := by
  induction xs with
  | nil => rfl
  | cons _ _ ih => simp [PyData.depthAll, PyData.depth, ih]
theorem shapedS {xs : List Str} (h : ∀ x ∈ xs, PyData.strOk x = true) : SeqAt.shaped (.list (xs.map PyData.str)) = true := by
  simp [SeqAt.shaped, PyData.canLay0, PyData.depth, canS h, depS]
theorem sameS (xs : List Str) : ∀ ys : List Str, PySem.Spec.sameAll (xs.map PyData.str) (ys.map PyData.str) = decide (xs = ys) := by
  induction xs with
  | nil => intro ys; cases ys <;> simp [PySem.Spec.sameAll]
  | cons a r ih =>
    intro ys
    cases ys with
    | nil => simp [PySem.Spec.sameAll]
    | cons b t =>
      simp only [List.map_cons, PySem.Spec.sameAll, PySem.Spec.same, ih t]
      by_cases h : a = b <;> by_cases h' : r = t <;> simp [h, h']
section
variable {prog : Program} {w : World} {A : Around} {E : Value → Shared → Prop} {s : Shared} {a b : Addr} {vs ws : List Value} {xs ys : List Str} {n k : Nat} {Q : Value → Shared → Prop} {h₀ : Heap} {L : Addr} {news : List (Addr × Obj)}
theorem ne_strs (N : News h₀ L s.heap news) (ha : (a, listOf vs.toArray n) ∈ news) (hb : (b, listOf ws.toArray k) ∈ news) (h1 : StrsAre vs xs) (h2 : StrsAre ws ys) (o1 : ∀ x ∈ xs, PyData.strOk x = true) (o2 : ∀ x ∈ ys, PyData.strOk x = true) (hu : A.units + 64 < cLine) (h : Q (.bool (!decide (xs = ys))) s) :
    wpAny (model prog w) A (compareOp .NotEq (.ref a) (.ref b)) Q E s :=
  ne_dataH_same (.list (N _ ha).1 rfl rfl (StrsAre.reads _ h1)) (.list (N _ hb).1 rfl rfl (StrsAre.reads _ h2)) (shapedS o1) (shapedS o2) hu
    (SeqAt.noMix_of_shape (.list .str) rfl _ _ (list_map_has fun _ => rfl) (list_map_has fun _ => rfl)) (by simp only [PySem.Spec.same]; rw [sameS]; exact h)
theorem eq_strs (N : News h₀ L s.heap news) (ha : (a, listOf vs.toArray n) ∈ news) (hb : (b, listOf ws.toArray k) ∈ news) (h1 : StrsAre vs xs) (h2 : StrsAre ws ys) (o1 : ∀ x ∈ xs, PyData.strOk x = true) (o2 : ∀ x ∈ ys, PyData.strOk x = true) (hu : A.units + 64 < cLine) (h : Q (.bool (decide (xs = ys))) s) :
    wpAny (model prog w) A (compareOp .Eq (.ref a) (.ref b)) Q E s :=
  eq_dataH_same (.list (N _ ha).1 rfl rfl (StrsAre.reads _ h1)) (.list (N _ hb).1 rfl rfl (StrsAre.reads _ h2)) (shapedS o1) (shapedS o2) hu
    (SeqAt.noMix_of_shape (.list .str) rfl _ _ (list_map_has fun _ => rfl) (list_map_has fun _ => rfl)) (by simp only [PySem.Spec.same]; rw [sameS]; exact h)
end
theorem ok_two {x y : Str} (h1 : PyData.strOk x = true) (h2 : PyData.strOk y = true) : ∀ z ∈ [x, y], PyData.strOk z = true := fun z hz => by
  rcases List.mem_cons.mp hz with rfl | hz
  · exact h1
  · rw [List.mem_singleton.mp hz]; exact h2
theorem itOf_ok {ps : List Nat} (hg : Good ps) (hl : ps.length ≤ 4) : (itOf ps).Ok := by
  have hb : ∀ {p : Nat}, p < B5 → ((p : Int)).natAbs < 10 ^ 160 := fun h => Nat.lt_trans h B5_lt
  rcases ps with _ | ⟨p0, _ | ⟨p1, r⟩⟩
  · exact absurd rfl hg.1
  · exact hb (hg.2.1 p0 (by simp))
  · refine ⟨fun y hy => ?_, by rw [List.length_map]; simp only [List.length_cons] at hl ⊢; omega⟩
    rcases List.mem_cons.mp hy with rfl | hy
    · exact hb (hg.2.1 p0 (by simp))
    · obtain ⟨q, hq, rfl⟩ := List.mem_map.mp hy
      exact hb (hg.2.1 q (List.mem_cons_of_mem _ hq))
theorem its_ok {pss : List (List Nat)} (h : ∀ ps ∈ pss, Good ps ∧ ps.length ≤ 4) : ∀ it ∈ pss.map itOf, it.Ok := fun it hi => by
  obtain ⟨ps, hp, rfl⟩ := List.mem_map.mp hi
  exact itOf_ok (h ps hp).1 (h ps hp).2
theorem strs_set {x : Str} {t : Tok} {vs : List Value} {xs : List Str} (H : StrsAre vs xs) : ∀ k, StrsAre (vs.set k (.str x t)) (xs.set k x) := by
  induction H with
  | nil => exact fun _ => .nil
  | cons y u h ih =>
    intro k
    cases k with
    | zero => exact .cons _ _ h
    | succ k => exact .cons y u (ih k)
theorem set_split {b : It} {pss : List (List Nat)} {k : Nat} (h : k < pss.length) : (pss.map itOf).set k b = (pss.take k).map itOf ++ (b :: (pss.drop (k + 1)).map itOf) := by
  rw [List.set_eq_take_append_cons_drop, if_pos (by rw [List.length_map]; exact h), List.map_take, List.map_drop]
theorem set_txt {x : Str} {b : It} (hx : x.cps.toList = itTxt b) {xs : List Str} {pss : List (List Nat)} (h : xs.map (fun x => x.cps.toList) = pss.map (fun ps => itTxt (itOf ps))) (k : Nat) : (xs.set k x).map (fun x => x.cps.toList) = ((pss.map itOf).set k b).map itTxt := by
  rw [List.map_set, List.map_set, List.map_map, h]
  exact congrArg (List.set _ k) hx
theorem line_its {xs : List Str} {its : List It} (h : xs.map (fun x => x.cps.toList) = its.map itTxt) : lnTxt xs = lineTxt its := by
  have hl := congrArg List.length h
  rw [List.length_map, List.length_map] at hl
  rw [lnTxt, lineTxt, itsTxt, hl, flat_it h]
theorem txt_minus : (Str.ofString "-").cps.toList = [45] := by decide +kernel
theorem txt_one : (Str.ofString " 1)").cps.toList = 32 :: (intTxt 1 ++ [41]) := by decide +kernel
theorem txt_five : (Str.ofString "\"5\"").cps.toList = itTxt .txt := by decide +kernel
theorem low_txt {z : Int} (h : 1 ≤ z) : (Str.ofString "-" ++ Str.ofString (toString z)).cps.toList = intTxt (-z) := by
  obtain ⟨n, rfl⟩ : ∃ n : Nat, z = (n : Int) := ⟨z.toNat, by omega⟩
  rw [str_app, txt_minus, digs_str, intTxt, if_pos (by omega), Int.natAbs_neg]
  rfl
theorem low_len {z : Int} (h : 1 ≤ z) (h' : z ≤ 10) : (intTxt (-z)).length ≤ 3 := by
  obtain ⟨n, rfl⟩ : ∃ n : Nat, z = (n : Int) := ⟨z.toNat, by omega⟩
  rw [intTxt, if_pos (by omega), Int.natAbs_neg, List.length_cons]
  have := digs_len (n := n) (k := 2) (by decide) (by omega)
  show (digs n).length + 1 ≤ 3
  omega
theorem bad_menu {low : Str} {z : Int} (h : 1 ≤ z) (h' : z ≤ 10) (hl : low.cps.toList = intTxt (-z)) {a b c d : Tok} {k : Int} (hk : 0 ≤ k ∧ k < 4) :
    ∃ x t, [Value.str low a, Value.str (Str.ofString "(" ++ low ++ Str.ofString " " ++ low ++ Str.ofString ")") b, Value.str (Str.ofString "(" ++ low ++ Str.ofString " 1)") c, Value.str (Str.ofString "\"5\"") d][k.toNat]? = some (.str x t) ∧ (∃ it : It, Bad it ∧ it.Ok ∧ x.cps.toList = itTxt it) ∧ x.length ≤ 1000 := by
  have hn : ((-z)).natAbs < 10 ^ 160 := Nat.lt_of_le_of_lt (show (-z).natAbs ≤ 10 by omega) (by decide)
  have h1 : ((1 : Int)).natAbs < 10 ^ 160 := by decide
  have ll := low_len h h'
  have l1 : (intTxt 1).length ≤ 4 := intTxt_small 1 (by decide)
  obtain ⟨j, rfl⟩ : ∃ j : Nat, k = (j : Int) := ⟨k.toNat, by omega⟩
  rw [Int.toNat_natCast]
  rcases j with _ | _ | _ | _ | j
  · exact ⟨low, a, rfl, ⟨.num (-z), .num (by omega), hn, hl⟩, by rw [str_len, hl]; omega⟩
  · have e : (Str.ofString "(" ++ low ++ Str.ofString " " ++ low ++ Str.ofString ")").cps.toList = itTxt (.tup (-z) [-z]) := by
      rw [str_app, str_app, str_app, str_app, txt_open, txt_shut, txt_sp, hl]
      simp [itTxt, tailTxt]
    refine ⟨_, b, rfl, ⟨.tup (-z) [-z], .tup (by omega), ⟨fun y hy => ?_, by show 1 ≤ 10; decide⟩, e⟩, ?_⟩
    · simp only [List.mem_cons, List.not_mem_nil, or_false, or_self] at hy
      rw [hy]; exact hn
    · rw [str_len, e]
      simp only [itTxt, tailTxt, List.flatMap_cons, List.flatMap_nil, List.length_cons, List.length_append, List.length_nil]
      omega
  · have e : (Str.ofString "(" ++ low ++ Str.ofString " 1)").cps.toList = itTxt (.tup (-z) [1]) := by
      rw [str_app, str_app, txt_open, txt_one, hl]
      simp [itTxt, tailTxt]
    refine ⟨_, c, rfl, ⟨.tup (-z) [1], .tup (by omega), ⟨fun y hy => ?_, by show 1 ≤ 10; decide⟩, e⟩, ?_⟩
    · simp only [List.mem_cons, List.not_mem_nil, or_false] at hy
      rcases hy with rfl | rfl
      · exact hn
      · exact h1
    · rw [str_len, e]
      simp only [itTxt, tailTxt, List.flatMap_cons, List.flatMap_nil, List.length_cons, List.length_append, List.length_nil]
      omega
  · exact ⟨_, d, rfl, ⟨.txt, .txt, trivial, txt_five⟩, by decide +kernel⟩
  · omega
theorem ok_xs {xs : List Str} {its : List It} (h : xs.map (fun x => x.cps.toList) = its.map itTxt) (x : Str) (hx : x ∈ xs) : PyData.strOk x = true := by
  have hm : x.cps.toList ∈ its.map itTxt := h ▸ List.mem_map.mpr ⟨x, hx, rfl⟩
  obtain ⟨it, _, e⟩ := List.mem_map.mp hm
  exact ok_of_small (e ▸ small_it it)
section
variable {prog : Program} {w : World} {A : Around} {E : Value → Shared → Prop} {s : Shared} {Q : Value → Shared → Prop} {t u : Tok}
theorem add_len {x y : Str} {a b : Nat} (hx : x.length ≤ a) (hy : y.length ≤ b) (hab : a + b ≤ 10000) (h : ∀ t' tk, (x ++ y).length ≤ a + b → Q (.str (x ++ y) t') { s with toks := tk }) :
    wpAny (model prog w) A (binaryOp .Add (.str x t) (.str y u)) Q E s :=
  PyProof.Rows.add_str (fun t' tk => h t' tk (by rw [str_len, str_app, List.length_append, ← str_len, ← str_len]; omega)) (by rw [sizeLine_eq]; omega)
theorem minus_str {z : Int} (h : 1 ≤ z) (h' : z ≤ 10) (hq : ∀ low t' tk, low.cps.toList = intTxt (-z) → low.length ≤ 3 → Q (.str low t') { s with toks := tk }) :
    wpAny (model prog w) A (binaryOp .Add (.str (Str.ofString "-") t) (.str (Str.ofString (toString z)) u)) Q E s := by
  have e := low_txt h
  have l : (Str.ofString "-" ++ Str.ofString (toString z)).length ≤ 3 := by rw [str_len, e]; exact low_len h h'
  have l2 : (Str.ofString "-").length + (Str.ofString (toString z)).length ≤ 3 := by
    rwa [str_len, str_app, List.length_append, ← str_len, ← str_len] at l
  exact PyProof.Rows.add_str (fun t' tk => hq _ t' tk e l) (by rw [sizeLine_eq]; omega)
end
local macro_rules | `(tactic| walk_at "binaryOp Add str str") => `(tactic| (k_here; (with_reducible show wpAny _ _ (binaryOp Operator.Add (Value.str _ _) (Value.str _ _)) _ _ _); (refine add_len (by first | with_reducible assumption | (show _ ≤ 8; decide +kernel)) (by first | with_reducible assumption | (show _ ≤ 8; decide +kernel)) (by omega) ?_); intro t9 k9 l9))
local macro_rules | `(tactic| walk_at "binaryOp Add str str") => `(tactic| (k_here; (with_reducible refine minus_str (by omega) (by omega) ?_); intro low9 t9 k9 e9 l9))
section
variable {prog : Program} {w : World} {A : Around} {E : Value → Shared → Prop} {s : Shared} {h₀ : Heap} {L : Addr} {m : Str → Option Value} {news : List (Addr × Obj)}
theorem item_menu {Q : Value → Shared → Prop} {l : Addr} {value slice : PySem.Expr} {low : Str} {z k : Int} {a b c d u : Tok} {n : Nat} (N : News h₀ L s.heap news)
    (hm : (l, listOf [Value.str low a, Value.str (Str.ofString "(" ++ low ++ Str.ofString " " ++ low ++ Str.ofString ")") b, Value.str (Str.ofString "(" ++ low ++ Str.ofString " 1)") c, Value.str (Str.ofString "\"5\"") d].toArray n) ∈ news)
    (hl : low.cps.toList = intTxt (-z)) (h1 : 1 ≤ z) (h2 : z ≤ 10) (hk : 0 ≤ k ∧ k < 4)
    (h : ∀ x t it, Bad it → it.Ok → x.cps.toList = itTxt it → x.length ≤ 1000 → Q (.str x t) s)
    (hs : subscripted slice false (.ref l) (.int k u) = operate [.ref l, .int k u] (getItem (.ref l) (.int k u)) := by with_unfolding_all rfl) :
    wpAny (model prog w) A (subscriptTail value slice (.ref l) (.int k u)) Q E s := by
  obtain ⟨x, t, hx, ⟨it, hb, ho, ht⟩, hlen⟩ := bad_menu (a := a) (b := b) (c := c) (d := d) h1 h2 hl hk
  have hl' : s.heap.IsList l _ := PySem.IsL.isList (n := n) (N _ hm).1
  exact tail_any hl'.typeIs slot_list_getitem.lookup (wpAny_getItem_list hl' hk.1 (by omega) (by rw [List.getElem?_toArray]; exact hx) (h x t it hb ho ht hlen)) hs
theorem set_atK {Q : Unit → Shared → Prop} {D : Addr} {r : List (Addr × Obj)} {vs : List Value} {n : Nat} {k : Int} {t : Tok} {v : Value} (F : Fr h₀ L s.heap m) (N : News h₀ L s.heap ((D, listOf vs.toArray n) :: r)) (ne : ∀ q ∈ r, q.1 ≠ D) (h0 : 0 ≤ k) (h1 : k < vs.length) (h2 : vs.length ≤ 1000)
    (h : ∀ h' K, K < vs.length → Fr h₀ L h' m → News h₀ L h' ((D, listOf (vs.set K v).toArray n) :: r) → Q () { s with heap := h' }) : wpAny (model prog w) A (setItem (.ref D) (.int k t) v) Q E s :=
  set_at F N ne h0 h1 h2 fun h' F' N' => h h' k.toNat (by omega) F' N'
end

example : True := by
  w_top off
  k_with_none
  trivial
local macro_rules | `(tactic| walk_at "call ref") => `(tactic| (k_here; (with_reducible show wpAny _ _ (call (Value.ref 416) _) _ _ _); refine Hold.out ?_))
local macro_rules | `(tactic| walk_at "call ref") => `(tactic| ((with_reducible show wpAny _ _ (call (Value.ref 428) _) _ _ _); k_dflt (refine CallOk.go (N := by walk_at "m.newsJ") (C := parts_ok) (ret := ?_)); walk_at "m.fin"))
theorem intBits_small {n k : Nat} (h : n < 2 ^ k) (hk : k ≤ 2 ^ 20) : Builtin.Int.intBits ((n : Nat) : Int) ≤ 2 ^ 20 := by
  unfold Builtin.Int.intBits
  split
  · exact Nat.zero_le _
  · rename_i hne
    have hn0 : n ≠ 0 := fun e => hne (by rw [e]; rfl)
    rw [show ((n : Int).natAbs) = n from rfl]
    have : n.log2 < k := (Nat.log2_lt hn0).mpr h
    omega
theorem pow_part (j : Nat) : (2 : Int) ^ (500 * (j : Int)).toNat = ((B5 ^ j : Nat) : Int) := by
  rw [show (500 * (j : Int)).toNat = 500 * j by omega, B5, ← Nat.pow_mul, Int.natCast_pow]
  rfl
theorem mul_part {prog : Program} {w : World} {A : Around} {E : Value → Shared → Prop} {s : Shared} {Q : Value → Shared → Prop} {q j : Nat} {t u : Tok} (hq : q < B5) (hj : j ≤ 4) (h : Q (.int ((q * B5 ^ j : Nat) : Int) s.toks) { s with toks := s.toks + 1 }) :
    wpAny (model prog w) A (binaryOp .Mult (.int (q : Nat) t) (.int (2 ^ (500 * (j : Int)).toNat) u)) Q E s := by
  rw [pow_part]
  refine PyProof.Rows.mul_int (by rw [← Int.natCast_mul]; exact h) (IntMulOk.of_bits (intBits_small (k := 500) hq (by decide)) (intBits_small (k := 2001) ?_ (by decide)))
  rw [B5, ← Nat.pow_mul]
  exact Nat.pow_lt_pow_right (by decide) (by omega)
local macro_rules | `(tactic| walk_at "binaryOp Mult int int") => `(tactic| (k_here; (with_reducible refine mul_part (by assumption) (by omega) ?_)))
theorem item_listN {prog : Program} {w : World} {A : Around} {E : Value → Shared → Prop} {s : Shared} {h₀ : Heap} {L l : Addr} {news : List (Addr × Obj)} {Q : Value → Shared → Prop} {value slice : PySem.Expr} {vs : List Value} {k : Int} {u : Tok} {j n : Nat} {v : Value} (N : News h₀ L s.heap news) (hm : (l, listOf vs.toArray n) ∈ news) (hx : vs[j]? = some v) (hk : k = (j : Int)) (hz : j < 1000) (h : Q v s)
    (hs : subscripted slice false (.ref l) (.int k u) = operate [.ref l, .int k u] (getItem (.ref l) (.int k u)) := by with_unfolding_all rfl) (hg : ∀ r, letTemporaryGo value (.ref l) r = pure () := by intro _; with_unfolding_all rfl) :
    wpAny (model prog w) A (subscriptTail value slice (.ref l) (.int k u)) Q E s := by
  subst hk
  exact item_list (PySem.IsL.isList (n := n) (N _ hm).1) (by omega) (by omega) (by rw [List.getElem?_toArray]; exact hx) h hs hg
local macro_rules | `(tactic| walk_at "subscriptTail Name Constant ref int") => `(tactic| (k_here; (with_reducible show wpAny _ _ (subscriptTail _ _ (Value.ref _) (Value.int _ _)) _ _ _); k_dflt (refine item_listN (by k_asm) (by k_mem) (by assumption) (by first | rfl | omega) (by omega) ?_)))
local macro_rules | `(tactic| walk_at "call ref") => `(tactic| (k_here; (with_reducible show wpAny _ _ (call (Value.ref 283) _) _ _ _); refine Hold.out ?_))
local macro_rules | `(tactic| walk_at "call ref") => `(tactic| (k_here; (with_reducible show wpAny _ _ (call (Value.ref 442) _) _ _ _); refine Hold.out ?_))
local macro_rules | `(tactic| walk_at "call ref") => `(tactic| ((with_reducible show wpAny _ _ (call (Value.ref 435) _) _ _ _); k_dflt (refine CallOk.go (N := by walk_at "m.news1") (C := line_ok) (ret := ?_)); walk_at "m.fin"))
local macro_rules | `(tactic| walk_at "call type:range") => `(tactic| (k_here; (with_reducible show wpAny _ _ (call (Value.type _) [Value.int (_ + 2) _]) _ _ _); (with_reducible rename Fr _ _ _ _ => F'); (with_reducible rename News _ _ _ _ => N'); (refine range1_rows F' N' ?_); intro h9 k9 t9 u9 v9 r9 F9 N9 e9))
local macro_rules | `(tactic| walk_at "compareOp NotEq ref ref") => `(tactic| (k_here; (with_reducible show wpAny _ _ (compareOp CmpOp.NotEq (Value.ref _) (Value.ref _)) _ _ _); refine Hold.out ?_))
local macro_rules | `(tactic| walk_at "compareOp Eq ref ref") => `(tactic| (k_here; (with_reducible show wpAny _ _ (compareOp CmpOp.Eq (Value.ref _) (Value.ref _)) _ _ _); refine Hold.out ?_))
local macro_rules | `(tactic| walk_at "call ref") => `(tactic| (k_here; (with_reducible show wpAny _ _ (call (Value.ref 423) [_, Value.int 4 _]) _ _ _); refine Hold.out ?_))
local macro_rules | `(tactic| walk_at "setItem ref int") => `(tactic| (k_here; (with_reducible show wpAny _ _ (setItem (Value.ref _) (Value.int _ _) (Value.str _ _)) _ _ _); refine Hold.out ?_))
theorem line_same {xs : List Str} {pss : List (List Nat)} (h : xs.map (fun x => x.cps.toList) = pss.map (fun ps => itTxt (itOf ps))) : lnTxt xs = lineTxt (pss.map itOf) := by
  have hl := congrArg List.length h
  rw [List.length_map, List.length_map] at hl
  rw [lnTxt, lineTxt, itsTxt, List.length_map, hl, flat_of h]
theorem off3_app {I C D : Addr} {tl : List (Addr × Obj)} (h2 : ∀ q ∈ tl, q.1 ≠ I ∧ q.1 ≠ C ∧ q.1 ≠ D) : ∀ {l : List (Addr × Obj)}, LCg.Off3 I C D l → LCg.Off3 I C D (l ++ tl)
  | [], _ => LCg.Off3.of h2
  | _ :: _, h => ⟨h.1, off3_app h2 h.2⟩
theorem menu3 : ∀ k : Nat, 0 ≤ ([1, 2, 0] : List Int).getD k 0 ∧ ([1, 2, 0] : List Int).getD k 0 ≤ 2
  | 0 => by decide
  | 1 => by decide
  | 2 => by decide
  | k + 3 => by
    have e : ([1, 2, 0] : List Int).getD (k + 3) 0 = 0 := rfl
    rw [e]; decide
theorem src3 {h : Heap} {r : Addr} {k : Nat} {t u v : Tok} (hR : IsRange h r 0 (([1, 2, 0] : List Int).getD k 0) 1 t u v) : ∃ n : Nat, n ≤ 2 ∧ IsRange h r 0 (n : Int) 1 t u v := by
  obtain ⟨n, hR, hn, _⟩ := isRange_nat hR ⟨(menu3 k).1, Int.le_trans (menu3 k).2 (by decide)⟩
  have := (menu3 k).2
  exact ⟨n, by omega, hR⟩
inductive RowsIn (news : List (Addr × Obj)) : List Value → List (List Nat) → Prop
  | nil : RowsIn news [] []
  | cons {r : Addr} {vs : List Value} {ep : Nat} {ps : List Nat} {ys : List Value} {pss : List (List Nat)} : (r, listOf vs.toArray ep) ∈ news → IntsAre vs (ps.map Int.ofNat) → RowsIn news ys pss → RowsIn news (.ref r :: ys) (ps :: pss)
theorem RowsIn.mono {news news' : List (Addr × Obj)} (hs : ∀ p ∈ news, p ∈ news') {ys : List Value} {pss : List (List Nat)} (H : RowsIn news ys pss) : RowsIn news' ys pss := by
  induction H with
  | nil => exact .nil
  | cons h i _ ih => exact .cons (hs _ h) i ih
theorem RowsIn.length {news : List (Addr × Obj)} {ys : List Value} {pss : List (List Nat)} (H : RowsIn news ys pss) : ys.length = pss.length := by
  induction H with
  | nil => rfl
  | cons _ _ _ ih => exact congrArg (· + 1) ih
theorem RowsIn.snoc {news : List (Addr × Obj)} {r : Addr} {vs : List Value} {ep : Nat} {ps : List Nat} (h : (r, listOf vs.toArray ep) ∈ news) (hi : IntsAre vs (ps.map Int.ofNat)) {ys : List Value} {pss : List (List Nat)} (H : RowsIn news ys pss) : RowsIn news (ys ++ [.ref r]) (pss ++ [ps]) := by
  induction H with
  | nil => exact .cons h hi .nil
  | cons h' i' _ ih => exact .cons h' i' ih
theorem RowsIn.get {news : List (Addr × Obj)} {ys : List Value} {pss : List (List Nat)} (H : RowsIn news ys pss) : ∀ {i : Nat} {v : Value}, ys[i]? = some v → ∃ r vs ep ps, pss[i]? = some ps ∧ v = .ref r ∧ (r, listOf vs.toArray ep) ∈ news ∧ IntsAre vs (ps.map Int.ofNat) := by
  induction H with
  | nil => intro i v e; cases List.getElem?_nil.symm.trans e
  | cons h hi _ ih =>
    intro i v e
    cases i with
    | zero => exact ⟨_, _, _, _, rfl, (Option.some.inj e).symm, h, hi⟩
    | succ i => exact ih (i := i) e
set_option maxHeartbeats 0 in
theorem row_holds : PySem.Challenge.rw_sf0019_01.row.Holds := holds_open (q := hd.view_39) (loose := [.ofString "HEX_SIGNS", .ofString "PLAIN_ESCAPES", .ofString "ToolError"]) (Xt := xt0) (XP := XL hd.view_39 [(.ofString "HEX_SIGNS", .str ⟨#[48, 49, 50, 51, 52, 53, 54, 55, 56, 57, 97, 98, 99, 100, 101, 102, 65, 66, 67, 68, 69, 70]⟩)]) (Yf := hook0.obs) (Ya := hook0.val) (YP := (kHook hd.heap_39 AS39 as_eq).says) (N := 6162) left_w
  hook0.of hook0.keeps (fun s e => xl_of s (Bool.and_eq_true_iff.mp e).1) XL.keeps (by rfl) (by rfl) (by rfl) (fun s e => recFacts_of (Bool.and_eq_true_iff.mp e).2) (by rfl) (row_said said_w) (by decide +kernel) ⟨rfl, rfl, rfl, rfl, rfl, by decide +kernel⟩ ⟨[.list []], by decide +kernel, by decide +kernel⟩ (by
  k_fill
  intro w s₀ s₁ mg mb G Y fa o pm cd doc dV kV ho hd hcd hD hmg hg args vals as hpre hlay hrd hwl hlo
  have KX := kIn_of Y
  have X := (Ground.X G).1
  have V := (Ground.X G).2
  have GL := glob_more (Ground.glob G (by decide +kernel) (by decide +kernel)) V
  refine Ground.open G ?_
  intro T B D TE TW
  try (refine guard_noD D (by decide +kernel) ?_; clear D)
  obtain ⟨_, _, M⟩ := bmod_of_top T
  have TA := at_of_top T
  try (obtain ⟨_, _, he, B0⟩ := based_of_top T rfl hmg ho hd; have he' : cd = _ := he; subst he'; clear he)
  clear hmg
  wrow_args hpre hlay hrd hwl hlo
  refine enter_call ?_
  w_top on
  (try refine codeAny_mono ?_ (fun _ _ g => GoodW.toG g))
  have K0 := below_caller (Top.heap T)
  w_call any ho hd hcd hD T F
  clear hd TA
  k_drop
  (all_goals try k_fold)
  k_with_none
  k_steps
  refine ⟨?_⟩
  rename IntsAre _ _ => hI
  rename Shared => s1
  rename Below callerA _ [] _ => B0
  k_dflt (refine jug_ok hI (by omega) _ _ _ _ _ _ _ _ _ _ _ _ _ _ _ _ _ B0 (by k_asm) (by k_asm) (by k_asm) (by k_asm) rfl (by walk_at "m.room") (by walk_at "m.units") (by assumption) ?_)
  intro ja jc xs tj ej ej' h1 tk1 hcells F1 N1 hja hjc hjj
  have hja' := hja _ (.head _)
  have hjc' := hjc _ (.head _)
  dsimp only at hja' hjc'
  clear hja hjc
  k_steps
  refine ⟨?_⟩
  (with_reducible rename _ = Data.cell (some (Value.ref ja)) => hcell)
  (with_reducible rename News _ _ _ _ => N2)
  (with_reducible rename Fr _ _ _ _ => F2)
  (try simp only [List.cons_append, List.nil_append] at N2)
  obtain ⟨oc, hcell, N2⟩ : ∃ o : Obj, o.data = Data.cell (some (.ref ja)) ∧ News _ _ _ ((ja, listOf #[.ref jc, .int 0 tj] ej) :: (jc, listOf xs.toArray ej') :: (s1.heap.objs.size + 1, o) :: []) := ⟨_, hcell, N2⟩
  k_dflt (refine LCg.Assign_ListComp_U (F₀ := by k_asm) (by rfl) (by with_unfolding_all rfl) (by with_unfolding_all rfl) (by decide) (by rfl) (by decide) (by rfl) (by rfl) (by rfl) ?_)
  k_steps
  refine ⟨?_⟩
  (with_reducible rename Cells _ => hc9)
  (with_reducible rename IsRange _ _ _ _ _ _ _ _ => hR)
  (with_reducible rename News _ _ _ _ => N3)
  (with_reducible rename Fr _ _ _ _ => F3)
  obtain ⟨n, hn2, hR⟩ := src3 hR
  simp only [Int.zero_add] at N3
  obtain ⟨tt3, ws3, ea3, eb3, hc9, N3⟩ : ∃ tt ws ea eb, Cells ws ∧ News _ _ _ ((ja, listOf #[.ref jc, .int 1 tt] ea) :: (jc, listOf ws.toArray eb) :: (s1.heap.objs.size + 1, oc) :: []) := ⟨_, _, _, _, hc9, news_sub N3 (by walk_at "m.all")⟩
  refine LCg.CompSrc.range (n := n) (by rfl) F3 N3 hR (small_one (by omega) (by omega) (by omega) (by omega)) (by rw [rangeSize_nat]; omega) (by rw [sizeLine_eq]; omega) ?_
  intro g3
  refine comp_inv (τ := (Int × Tok × List Value × Nat × Nat) × List (Addr × Obj)) (fun x => (ja, listOf #[.ref jc, .int x.1.1 x.1.2.1] x.1.2.2.2.1) :: (jc, listOf x.1.2.2.1.toArray x.1.2.2.2.2) :: (s1.heap.objs.size + 1, oc) :: x.2)
    (fun i ys x => Cells x.1.2.2.1 ∧ (1 ≤ x.1.1 ∧ x.1.1 ≤ 1 + 10 * (i : Int)) ∧ (∀ q ∈ x.2, q.1 ≠ ja) ∧ (∀ q ∈ x.2, q.1 ≠ jc) ∧ ∃ pss : List (List Nat), pss.length = i ∧ (∀ ps ∈ pss, Good ps ∧ ps.length ≤ 4) ∧ RowsIn x.2 ys pss) ((1, tt3, ws3, ea3, eb3), []) rfl ⟨hc9, ⟨Int.le_refl _, Int.le_refl _⟩, (fun _ h => nomatch h), (fun _ h => nomatch h), [], rfl, (fun _ h => nomatch h), .nil⟩ ?_ ?_
  · rintro i ys ⟨⟨tu, tt, ws, ea, eb⟩, ro⟩ v I oI C oC D m₂ h tk E' hi ⟨hc3, ⟨hu3, hu3'⟩, hra, hrc, pss, hpl, hps, hrows⟩ ⟨tv, rfl⟩ hC3 hx hF3 hN3 off nex
    dsimp only at hc3 hu3 hu3' hra hrc hrows hN3 off ⊢
    simp only [LCg.Off3] at off
    obtain ⟨⟨o1a, o1b, o1c⟩, ⟨o2a, o2b, o2c⟩, ⟨o3a, o3b, o3c⟩, o4⟩ := off
    have hx4 : ∀ q ∈ (I, oI) :: (C, oC) :: (D, LCg.lst ys) :: (s1.heap.objs.size + 1, oc) :: ro, q.1 ≠ ja := List.forall_mem_cons.mpr ⟨Ne.symm o1a, List.forall_mem_cons.mpr ⟨Ne.symm o1b, List.forall_mem_cons.mpr ⟨Ne.symm o1c, List.forall_mem_cons.mpr ⟨hja', hra⟩⟩⟩⟩
    have hx5 : ∀ q ∈ (I, oI) :: (C, oC) :: (D, LCg.lst ys) :: (s1.heap.objs.size + 1, oc) :: ro, q.1 ≠ jc := List.forall_mem_cons.mpr ⟨Ne.symm o2a, List.forall_mem_cons.mpr ⟨Ne.symm o2b, List.forall_mem_cons.mpr ⟨Ne.symm o2c, List.forall_mem_cons.mpr ⟨hjc', hrc⟩⟩⟩⟩
    k_steps
    rename_i pl9 ps9 xs9 ep9 tu9 tt9 ws9 ea9 eb9 g9 l9 i9 b9 c9 n9 n9' n9'' h9 k9 F9 N9
    simp only [List.forall_mem_cons] at n9
    obtain ⟨nI, nC, nD, nc, nro⟩ := n9
    refine ⟨LCg.CompEnd.intro F9 N9 _ (by walk_at "m.all") (by exact ⟨⟨o1a, o1b, o1c⟩, ⟨o2a, o2b, o2c⟩, ⟨o3a, o3b, o3c⟩, ⟨Ne.symm nI, Ne.symm nC, Ne.symm nD⟩, o4⟩) trivial ⟨((tu9, tt9, ws9, ea9, eb9), (pl9, listOf xs9.toArray ep9) :: ro), rfl, c9, ⟨by dsimp only; omega, by dsimp only; omega⟩, List.forall_mem_cons.mpr ⟨n9', hra⟩, List.forall_mem_cons.mpr ⟨n9'', hrc⟩, pss ++ [ps9], by rw [List.length_append, hpl]; rfl, ?_, ?_⟩⟩
    · intro q hq
      rcases List.mem_append.mp hq with hq | hq
      · exact hps q hq
      · rw [List.mem_singleton.mp hq]; exact ⟨g9, l9⟩
    · exact (hrows.mono fun _ h => .tail _ h).snoc (.head _) i9
  · rintro ys ⟨⟨tu, tt, ws, ea, eb⟩, ro⟩ ⟨hc3, ⟨hu3, hu3'⟩, hra, hrc, pss, hpl, hps, hrows⟩
    dsimp only at hc3 hu3 hu3' hra hrc hrows ⊢
    intro R h4 tk4 F4 N4 off4
    simp only [LCg.Off1] at off4
    obtain ⟨q1, q2, q3, q4⟩ := off4
    replace N4 : News _ _ _ ((R, listOf ys.toArray ys.length) :: (ja, listOf #[.ref jc, .int tu tt] ea) :: (jc, listOf ws.toArray eb) :: (s1.heap.objs.size + 1, oc) :: ro) := N4
    have hyl := hrows.length
    k_steps
    refine ⟨?_⟩
    k_dflt (refine LCg.Assign_ListComp_U (F₀ := by k_asm) (by rfl) (by with_unfolding_all rfl) (by with_unfolding_all rfl) (by decide) (by rfl) (by decide) (by rfl) (by rfl) (by rfl) ?_)
    k_steps
    refine ⟨?_⟩
    refine LCg.CompSrc.ledger (its := ys.toArray) (k := ys.length) (by rfl) (by k_asm) N4 (.head _) (by rw [sizeLine_eq, List.size_toArray]; omega) ?_
    intro g4
    refine comp_inv (τ := Unit) (fun _ => _) (fun i zs _ => IntsAre zs ((pss.take i).map fun ps => ((valB ps : Nat) : Int))) () rfl .nil ?_ ?_
    · rintro i zs ⟨⟩ v I oI C oC D m₂ h tk E' hi hz hv hC3 hx hF3 hN3 off nex
      rw [List.getElem?_toArray] at hv
      obtain ⟨r, vs, ep, ps, hpi, rfl, hrm, hri⟩ := hrows.get hv
      dsimp only at hN3 off ⊢
      obtain ⟨hgd, hg4⟩ := hps ps (List.mem_of_getElem? hpi)
      have hvl := hri.length
      rw [List.length_map] at hvl
      k_steps
      refine ⟨?_⟩
      k_dflt (refine comp_enum (by k_asm) (by rfl) (by decide) (by rfl) (by decide) (by rfl) (by rfl) (by decide) ?_)
      k_steps
      k_dflt (refine EnSrc.call (l := r) (vs := vs) (n := ep) (fun i qs => ∃ ns : List Int, IntsAre qs ns ∧ ns.length = i ∧ ns.sum = ((valB (ps.take i) : Nat) : Int)) (by rfl) (by k_asm) hN3 (by simp [hrm]) (by rw [sizeLine_eq]; omega) ⟨[], .nil, rfl, rfl⟩ ?_ ?_)
      · intro g5 j p' qs t5 C5 oC5 D5 m5 h5 tk5 E5 hvj ⟨ns, hj1, hj2, hj3⟩ hC5 ha5 hb5 F5 N5
        obtain ⟨q, hq, tq, rfl⟩ := ints_atN hri hvj
        have hqb := hgd.2.1 q (List.mem_of_getElem? hq)
        have hjl : j < ps.length := (List.getElem?_eq_some_iff.mp hq).1
        k_steps
        refine ⟨_, rfl, ns ++ [_], ints_snoc hj1, by rw [List.length_append, hj2]; rfl, ?_⟩
        rw [List.sum_append, hj3, take_val hjl, (List.getElem?_eq_some_iff.mp hq).2, List.sum_singleton, Int.natCast_add]
      · rintro qs g5 ⟨ns, hj1, hj2, hj3⟩
        intro D5 h5 tk5 F5 N5 off5
        rw [hvl, List.take_length] at hj3
        have hnl : ns.length ≤ 4 := by omega
        replace N5 : News _ _ _ ((D5, listOf qs.toArray qs.length) :: _) := N5
        k_steps
        (with_reducible rename Fr _ _ _ _ => F9)
        (with_reducible rename News _ _ _ _ => N9)
        refine ⟨LCg.CompEnd.intro F9 N9 _ (by walk_at "m.tail") off (Or.inr ⟨_, .head _, rfl, _, rfl⟩) ⟨(), rfl, ?_⟩⟩
        rw [List.take_add_one, hpi, List.map_append, hj3]
        exact ints_snoc hz
    · rintro zs ⟨⟩ hz
      rw [List.size_toArray, hyl, List.take_length] at hz
      intro M h5 tk5 F5 N5 off5
      simp only [LCg.Off1] at off5
      obtain ⟨m1, m2, m3, m4, m5⟩ := off5
      have hzl := hz.length
      rw [List.length_map] at hzl
      replace N5 : News _ _ _ ((M, listOf zs.toArray zs.length) :: (R, listOf ys.toArray ys.length) :: (ja, listOf #[.ref jc, .int tu tt] ea) :: (jc, listOf ws.toArray eb) :: (s1.heap.objs.size + 1, oc) :: ro) := N5
      k_steps
      refine ⟨?_⟩
      k_dflt (refine LCg.Assign_ListComp_U (F₀ := by k_asm) (by rfl) (by with_unfolding_all rfl) (by with_unfolding_all rfl) (by decide) (by rfl) (by decide) (by rfl) (by rfl) (by rfl) ?_)
      k_steps
      refine ⟨?_⟩
      refine LCg.CompSrc.ledger (its := ys.toArray) (k := ys.length) (by rfl) (by k_asm) N5 (.tail _ (.head _)) (by rw [sizeLine_eq, List.size_toArray]; omega) ?_
      intro g5
      refine comp_inv (τ := Unit) (fun _ => _) (fun i is _ => ∃ xs : List Str, StrsAre is xs ∧ (∀ x ∈ xs, x.length ≤ 700) ∧ xs.map (fun x => x.cps.toList) = (pss.take i).map (fun ps => itTxt (itOf ps))) () rfl ⟨[], .nil, (fun _ h => nomatch h), rfl⟩ ?_ ?_
      · rintro i is ⟨⟩ v I oI C oC D m₂ h tk E' hi ⟨xs, hx1, hx2, hx3⟩ hv hC3 hx hF3 hN3 off nex
        rw [List.getElem?_toArray] at hv
        obtain ⟨r, vs, ep, ps, hpi, rfl, hrm, hri⟩ := hrows.get hv
        obtain ⟨hgd, hg4⟩ := hps ps (List.mem_of_getElem? hpi)
        have hvl := hri.length
        rw [List.length_map] at hvl
        have htk : (pss.take (i + 1)).map (fun ps => itTxt (itOf ps)) = (pss.take i).map (fun ps => itTxt (itOf ps)) ++ [itTxt (itOf ps)] := by
          rw [List.take_add_one, hpi, List.map_append]; rfl
        dsimp only at hN3 off ⊢
        replace hN3 := news_sub hN3 (List.forall_mem_cons.mpr ⟨by simp [hrm], fun _ h => h⟩ : ∀ q ∈ (r, listOf vs.toArray ep) :: _, q ∈ _)
        rcases ps with _ | ⟨p0, _ | ⟨p1, pr⟩⟩
        · exact absurd rfl hgd.1
        · obtain ⟨t0, hv0⟩ : ∃ t, vs[0]? = some (.int (p0 : Int) t) := by
            cases hri with
            | cons _ t h => exact ⟨t, rfl⟩
          have hzb := hgd.2.1 p0 (by simp)
          simp only [List.length_cons, List.length_nil] at hvl
          have hb1 : (((vs.length : Nat) : Int) == 1) = true := by rw [hvl]; rfl
          k_steps
          (with_reducible rename Fr _ _ _ _ => F9)
          (with_reducible rename News _ _ _ _ => N9)
          refine ⟨LCg.CompEnd.intro F9 N9 _ (by walk_at "m.all") off (Or.inr ⟨_, by walk_at "m.mem", rfl, _, rfl⟩) ⟨(), rfl, xs ++ [_], strs_snoc hx1, ?_, ?_⟩⟩
          · intro y hy
            rcases List.mem_append.mp hy with hy | hy
            · exact hx2 y hy
            · rw [List.mem_singleton.mp hy]; exact Nat.le_trans (num_len hzb) (by decide)
          · rw [List.map_append, hx3, htk, List.map_cons, List.map_nil, num_txt]; rfl
        · have hzb := hgd.2.1
          simp only [List.length_cons] at hvl hg4
          have hb1 : (((vs.length : Nat) : Int) == 1) = false := by rw [hvl]; exact beq_false_of_ne (by omega)
          k_steps
          refine ⟨?_⟩
          (with_reducible rename News _ _ _ _ => N6)
          k_dflt (refine LCg.ListComp_U (F₀ := by k_asm) (by rfl) (by decide) (by rfl) (by decide) (by rfl) ?_)
          k_steps
          refine ⟨?_⟩
          refine LCg.CompSrc.ledger (its := vs.toArray) (k := ep) (by rfl) (by k_asm) N6 (by walk_at "m.mem") (by rw [sizeLine_eq, List.size_toArray]; omega) ?_
          intro g6
          refine comp_inv (τ := Unit) (fun _ => _) (fun j qs _ => ∃ xs : List Str, StrsAre qs xs ∧ (∀ x ∈ xs, x.length ≤ 160) ∧ xs.map (fun x => x.cps.toList) = ((p0 :: p1 :: pr).take j).map (fun (p : Nat) => intTxt (p : Int))) () rfl ⟨[], .nil, (fun _ h => nomatch h), rfl⟩ ?_ ?_
          · rintro j qs ⟨⟩ v' I' oI' C' oC' D' m₆ h6 tk6 E6 hj ⟨xs6, hz1, hz2, hz3⟩ hv6 hC6 hx6 hF6 hN6 off6 nex6
            rw [List.getElem?_toArray] at hv6
            obtain ⟨z, hz, tz, rfl⟩ := ints_atN hri hv6
            have hzb6 := hzb z (List.mem_of_getElem? hz)
            dsimp only at hN6 off6 ⊢
            k_steps
            (with_reducible rename Fr _ _ _ _ => F9)
            (with_reducible rename News _ _ _ _ => N9)
            refine ⟨LCg.CompEnd.intro F9 N9 _ (by walk_at "m.all") off6 (Or.inr ⟨_, by walk_at "m.mem", rfl, _, rfl⟩) ⟨(), rfl, xs6 ++ [_], strs_snoc hz1, ?_, ?_⟩⟩
            · intro y hy
              rcases List.mem_append.mp hy with hy | hy
              · exact hz2 y hy
              · rw [List.mem_singleton.mp hy]; exact num_len hzb6
            · rw [List.take_add_one, hz, List.map_append, hz3, List.map_append, List.map_cons, List.map_nil, num_txt]; rfl
          · rintro qs ⟨⟩ ⟨xs6, hz1, hz2, hz3⟩
            intro D6 h6 tk6 F6 N6 off6
            rw [List.size_toArray, hvl, show pr.length + 1 + 1 = (p0 :: p1 :: pr).length from rfl, List.take_length] at hz3
            have hxl : xs6.length = pr.length + 1 + 1 := by have := congrArg List.length hz3; rwa [List.length_map, List.length_map] at this
            have hsum := strs_sum hz2
            have hj := join_parts hz3
            have hjl : (Txt.join (Str.ofString " ") xs6).length ≤ 650 := by
              rw [str_len, hj]
              have := parTxt_len hzb
              simp only [List.length_cons] at this
              omega
            replace N6 : News _ _ _ ((D6, listOf qs.toArray qs.length) :: _) := N6
            k_steps
            k_dflt (refine join_listW (ys := xs6) (by is_list) hz1 (by decide +kernel) (by omega) ?_)
            intro t9 k9
            k_steps
            (with_reducible rename Fr _ _ _ _ => F9)
            (with_reducible rename News _ _ _ _ => N9)
            refine ⟨LCg.CompEnd.intro F9 N9 _ (by walk_at "m.all") off (Or.inr ⟨_, by walk_at "m.mem", rfl, _, rfl⟩) ⟨(), rfl, xs ++ [_], strs_snoc hx1, ?_, ?_⟩⟩
            · intro y hy
              rcases List.mem_append.mp hy with hy | hy
              · exact hx2 y hy
              · rw [List.mem_singleton.mp hy, str_len, str_app, str_app, txt_open, txt_shut, List.length_append, List.length_append, ← str_len (Txt.join _ _)]
                simp only [List.length_cons, List.length_nil]
                omega
            · rw [List.map_append, hx3, htk, List.map_cons, List.map_nil, str_app, str_app, txt_open, txt_shut, hj]
              simp only [itTxt, itOf, parTxt, List.cons_append, List.nil_append, List.append_assoc]
      · rintro is ⟨⟩ ⟨xs, hx1, hx2, hx3⟩
        intro Li h6 tk6 F6 N6 off6
        rw [List.size_toArray, hyl, List.take_length] at hx3
        simp only [LCg.Off1] at off6
        obtain ⟨k1, k2, k3, k4, k5, k6⟩ := off6
        have hxl : xs.length = pss.length := by have := congrArg List.length hx3; rwa [List.length_map, List.length_map] at this
        have hil := strs_len hx1
        replace N6 : News _ _ _ ((Li, listOf is.toArray is.length) :: (M, listOf zs.toArray zs.length) :: (R, listOf ys.toArray ys.length) :: (ja, listOf #[.ref jc, .int tu tt] ea) :: (jc, listOf ws.toArray eb) :: (s1.heap.objs.size + 1, oc) :: ro) := N6
        k_steps
        rename_i wr wd y1 hlt1 hlt2 y2 y3 y4 y5 y6 y7 y8 y9 y10 y11 ll y12 hlt3 y13 y14 y15 y16 y17 y18 F7 N7
        obtain ⟨hh, kk, e7, tth, N7⟩ : ∃ (hh : Int) (kk : Tok) (e : Nat) (tth : Tok), News _ _ _ ((wd, dictOf [⟨hh, .str (Str.ofString "lines") kk, .ref ll⟩] 1) :: (wr, instObj 293 wd) :: (ll, listOf #[.str (Str.ofString "head") tth] e) :: (Li, listOf is.toArray is.length) :: (M, listOf zs.toArray zs.length) :: (R, listOf ys.toArray ys.length) :: (ja, listOf #[.ref jc, .int tu tt] ea) :: (jc, listOf ws.toArray eb) :: (s1.heap.objs.size + 1, oc) :: ro) := ⟨_, _, _, _, news_sub N7 (by walk_at "m.all")⟩
        obtain ⟨u1, u2, u3, u4, u5, u6, u7, u8, u9⟩ := hlt3
        clear y14 y15
        refine ⟨?_⟩
        k_dflt (refine LCg.ListComp_U (F₀ := by k_asm) (by rfl) (by decide) (by rfl) (by decide) (by rfl) ?_)
        k_steps
        refine ⟨?_⟩
        refine LCg.CompSrc.ledger (its := zs.toArray) (k := zs.length) (by rfl) F7 N7 (by walk_at "m.mem") (by rw [sizeLine_eq, List.size_toArray]; omega) ?_
        intro g7
        refine comp_inv (τ := List (Addr × Obj)) (fun x => (wd, dictOf [⟨hh, .str (Str.ofString "lines") kk, .ref ll⟩] 1) :: (wr, instObj 293 wd) :: (ll, listOf #[.str (Str.ofString "head") tth] e7) :: (Li, listOf is.toArray is.length) :: (M, listOf zs.toArray zs.length) :: (R, listOf ys.toArray ys.length) :: (ja, listOf #[.ref jc, .int tu tt] ea) :: (jc, listOf ws.toArray eb) :: (s1.heap.objs.size + 1, oc) :: (ro ++ x))
          (fun i vs x => ItsIn x vs ((pss.take i).map itOf) ∧ (∀ q ∈ x, q.1 ≠ ja) ∧ (∀ q ∈ x, q.1 ≠ jc) ∧ (∀ q ∈ x, q.1 ≠ ll)) [] (by rw [List.append_nil]) ⟨.nil, (fun _ h => nomatch h), (fun _ h => nomatch h), (fun _ h => nomatch h)⟩ ?_ ?_
        · rintro i vs x v I oI C oC D m₂ h tk E' hi ⟨hits, hxa, hxc, hxl⟩ hv hC3 hx hF3 hN3 off nex
          rw [List.getElem?_toArray] at hv
          rw [List.size_toArray] at hi
          obtain ⟨ps, hpi⟩ : ∃ ps, pss[i]? = some ps := ⟨_, List.getElem?_eq_getElem (by omega)⟩
          obtain ⟨hgd, hg4⟩ := hps ps (List.mem_of_getElem? hpi)
          obtain ⟨tv, hvv⟩ := IntsAre.get hz i ((valB ps : Nat) : Int) (by rw [List.getElem?_map, hpi]; rfl)
          obtain rfl : v = .int ((valB ps : Nat) : Int) tv := by rw [hvv] at hv; exact (Option.some.inj hv).symm
          have htk : (pss.take (i + 1)).map itOf = (pss.take i).map itOf ++ [itOf ps] := by
            rw [List.take_add_one, hpi, List.map_append]; rfl
          dsimp only at hN3 off ⊢
          k_steps
          rename_i v9 tl9 i9 b9 h9 k9 F9 N9
          simp only [List.cons_append, List.append_assoc] at N9
          have b9' : ∀ q ∈ tl9, I < q.1 ∧ C < q.1 ∧ D < q.1 ∧ ll < q.1 ∧ ja < q.1 ∧ jc < q.1 := fun q hq => by
            have c := b9 q hq
            simp only [AllLt] at c
            exact ⟨c.1, c.2.1, c.2.2.1, c.2.2.2.2.2.1, c.2.2.2.2.2.2.2.2.2.1, c.2.2.2.2.2.2.2.2.2.2.1⟩
          refine ⟨LCg.CompEnd.intro F9 N9 _ (fun _ h => h) (by have o9 := off3_app (tl := tl9) (fun q hq => ⟨Nat.ne_of_gt (b9' q hq).1, Nat.ne_of_gt (b9' q hq).2.1, Nat.ne_of_gt (b9' q hq).2.2.1⟩ : ∀ q ∈ tl9, q.1 ≠ I ∧ q.1 ≠ C ∧ q.1 ≠ D) off; simp only [List.cons_append, List.append_assoc] at o9; exact o9) (Or.inr ⟨_, by walk_at "m.mem", rfl, _, rfl⟩) ⟨x ++ tl9, rfl, ?_, forall_app hxa fun q hq => Nat.ne_of_gt (b9' q hq).2.2.2.2.1, forall_app hxc fun q hq => Nat.ne_of_gt (b9' q hq).2.2.2.2.2, forall_app hxl fun q hq => Nat.ne_of_gt (b9' q hq).2.2.2.1⟩⟩
          rw [htk]
          exact (hits.mono (sub_left fun _ h => h)).snoc (i9.mono (sub_right fun _ h => h))
        · rintro vs x ⟨hits, hxa, hxc, hxl⟩
          rw [List.size_toArray, hzl, List.take_length] at hits
          intro Lm h8 tk8 F8 N8 off8
          simp only [LCg.Off1] at off8
          obtain ⟨j1, j2, j3, j4, j5, j6, j7, j8, j9, j10⟩ := off8
          have j11 := off1_all j10
          replace N8 : News _ _ _ ((Lm, listOf vs.toArray vs.length) :: (wd, dictOf [⟨hh, .str (Str.ofString "lines") kk, .ref ll⟩] 1) :: (wr, instObj 293 wd) :: (ll, listOf #[.str (Str.ofString "head") tth] e7) :: (Li, listOf is.toArray is.length) :: (M, listOf zs.toArray zs.length) :: (R, listOf ys.toArray ys.length) :: (ja, listOf #[.ref jc, .int tu tt] ea) :: (jc, listOf ws.toArray eb) :: (s1.heap.objs.size + 1, oc) :: (ro ++ x)) := N8
          have hpn : pss.length ≤ 2 := by omega
          obtain ⟨u1, u2, u3, u4, u5, u6, u7, u8, u9⟩ := (⟨u1, u2, u3, u4, u5, u6, u7, u8, u9⟩ : wr < ll ∧ wd < ll ∧ Li < ll ∧ M < ll ∧ R < ll ∧ ja < ll ∧ jc < ll ∧ s1.heap.objs.size + 1 < ll ∧ AllLt ll ro)
          have hrl : ∀ q ∈ (Li, listOf is.toArray is.length) :: (M, listOf zs.toArray zs.length) :: (R, listOf ys.toArray ys.length) :: (ja, listOf #[.ref jc, .int tu tt] ea) :: (jc, listOf ws.toArray eb) :: (s1.heap.objs.size + 1, oc) :: (ro ++ x), q.1 ≠ ll := by
            simp only [List.forall_mem_cons]
            exact ⟨Nat.ne_of_lt u3, Nat.ne_of_lt u4, Nat.ne_of_lt u5, Nat.ne_of_lt u6, Nat.ne_of_lt u7, Nat.ne_of_lt u8, forall_app (fun q hq => Nat.ne_of_lt (ktn_ltOf u9 q hq)) hxl⟩
          k_steps
          refine ⟨?_⟩
          k_dflt (refine CallOk.use (by k_asm) (news_sub N8 (by walk_at "m.all")) (add_ok (pss := pss) (wr := wr) (wd := wd) (ll := ll) (ml := Lm) (rest := (Li, listOf is.toArray is.length) :: (M, listOf zs.toArray zs.length) :: (R, listOf ys.toArray ys.length) :: (ja, listOf #[.ref jc, .int tu tt] ea) :: (jc, listOf ws.toArray eb) :: (s1.heap.objs.size + 1, oc) :: (ro ++ x)) hps hpn (hits.mono (by walk_at "m.tail")) hrl (Nat.ne_of_lt u1) (Nat.ne_of_lt u2) (Ne.symm j3)) (by k_asm) (by k_asm) (by k_asm) (by first | exact rfl | assumption) (by walk_at "m.room") (by walk_at "m.units") ?_ trivial)
          try dsimp only
          intro lnW tW eW hlnW h9 tk9 F9 N9
          clear N8 N7
          have hxb : xs.length ≤ 2 := by omega
          have hx700 : ∀ x ∈ xs, x.length ≤ 1000 := fun x hx => Nat.le_trans (hx2 x hx) (by decide)
          have hlt9 := line_same hx3
          k_steps
          refine ⟨?_⟩
          (with_reducible rename _ = lnTxt xs => eL)
          have eL' := eL.trans (hlt9.trans hlnW.symm)
          obtain rfl : _ = lnW := Str.ext' (Array.ext' eL')
          clear eL'
          have hsm : PyData.strOk _ = true := ok_of_small (by rw [hlnW]; exact small_line _)
          have hok2 := ok_two (x := Str.ofString "head") (by decide +kernel) hsm
          k_dflt (refine ne_strs (by k_asm) (by k_mem) (by k_mem) (.cons _ _ (.cons _ _ .nil)) (.cons _ _ (.cons _ _ .nil)) hok2 hok2 (by walk_at "m.units") ?_)
          rw [decide_eq_true rfl]
          k_with_none
          (k_with "pyIter ref" => (refine Hold.out ?_))
          k_steps
          refine ⟨?_⟩
          k_with_none
          (with_reducible rename IsRange _ _ _ _ _ _ _ _ => hRm)
          (with_reducible rename Fr _ _ _ _ => FL)
          (with_reducible rename News _ _ _ _ => NL)
          replace NL := news_sub (l' := (Li, listOf is.toArray is.length) :: (M, listOf zs.toArray zs.length) :: (ja, listOf #[.ref jc, .int tu tt] ea) :: (jc, listOf ws.toArray eb) :: (s1.heap.objs.size + 1, oc) :: []) NL (by walk_at "m.all")
          refine range_ledA (σ := Unit) (fl := Li) (n := zs.length + 2) (fun _ _ => _) (fun _ _ _ => True) () FL NL trivial rfl hRm (small_one (by omega) (by omega) (by omega) (by omega)) (by rw [show ((zs.length : Int) + 2) = ((zs.length + 2 : Nat) : Int) from by omega, rangeSize_nat]; omega) ⟨?_⟩ ⟨?_⟩
          · rintro i ⟨⟩ tki h tk own hi - hoff F9 N9
            dsimp only at hoff N9 ⊢
            simp only [Int.zero_add] at F9
            simp only [List.cons_append, List.nil_append] at N9
            k_steps
            refine ⟨?_⟩
            (with_reducible rename _ = lnTxt xs => eLn)
            (with_reducible rename Str.length _ ≤ 5000 => lLn)
            k_dflt (refine CallTop.use (by k_asm) (by k_asm) (law_read_ok (pss := pss) (more := []) (many := i) (by rw [List.append_nil]; exact eLn.trans hlt9) (by omega) (by rw [List.append_nil, List.length_map]; omega) (by rw [List.append_nil]; exact its_ok hps) hps (.inl rfl) (by omega)) B0 (by k_asm) (by k_asm) (by assumption) (by assumption) rfl (by walk_at "m.room") (by walk_at "m.units") ?_)
            refine ⟨fun _ hmn fl rv ep i9 a9 h9 t9 F9 N9 => ?_, fun hne h9 t9 F9 N9 => ?_⟩
            · have hb1 : (((i : Nat) : Int) == ((zs.length : Nat) : Int)) = true := by rw [hmn, hzl]; exact beq_self_eq_true _
              k_steps
              refine ⟨?_⟩
              k_dflt (refine ke_ne_ints (by is_list) (by is_list) i9 hz (by walk_at "m.units") ?_)
              rw [decide_eq_true rfl]
              k_steps
              exact FoEnd.next () trivial (by assumption) (by walk_at "m.sub") hoff
            · have hb1 : (((i : Nat) : Int) == ((zs.length : Nat) : Int)) = false := by
                have hne' : i ≠ pss.length := hne.elim (fun h => absurd rfl h) id
                exact beq_false_of_ne (by omega)
              k_steps
              exact FoEnd.next () trivial (by assumption) (by walk_at "m.sub") hoff
          · rintro ⟨⟩ v' h tk - F9 N9
            dsimp only at N9 ⊢
            clear j1 j2 j3 j4 j5 j6 j7 j8 j9 j10 j11 k2 k6 m1 m4 m5 q1 q2 q3 q4 u1 u2 u3 u4 u5 u6 u7 u8 u9 hrl hlt1 hlt2
            have hokx := ok_xs (its := pss.map itOf) (by rw [hx3, List.map_map]; rfl)
            k_steps
            refine ⟨?_⟩
            k_dflt (refine eq_strs (xs := xs) (ys := []) (by k_asm) (by k_mem) (by k_mem) hx1 .nil hokx (fun _ h => nomatch h) (by walk_at "m.units") ?_)
            by_cases hxe : xs = []
            · rw [decide_eq_true hxe]
              k_steps
            · rw [decide_eq_false hxe]
              have hx0 : 1 ≤ xs.length := Nat.pos_of_ne_zero fun e => hxe (List.eq_nil_of_length_eq_zero e)
              k_steps
              refine ⟨?_⟩
              (with_reducible rename _ = intTxt _ => hlow)
              (repeat (with_reducible rename Str.length ((_ : Str) ++ (_ : Str)) ≤ _ => lz; clear lz))
              k_dflt (refine CallOk.use (by k_asm) (by walk_at "m.newsJ") (sip_ok (by assumption) ⟨by omega, by omega⟩ ⟨by omega, by omega⟩ hjj (by intro q hq; simp only [List.mem_cons, List.not_mem_nil, or_false] at hq; rcases hq with rfl | rfl | rfl | rfl | rfl | rfl <;> first | exact hja' | exact Ne.symm k3 | exact Ne.symm m2 | exact Nat.ne_of_gt (by omega)) (by intro q hq; simp only [List.mem_cons, List.not_mem_nil, or_false] at hq; rcases hq with rfl | rfl | rfl | rfl | rfl | rfl <;> first | exact hjc' | exact Ne.symm k4 | exact Ne.symm m3 | exact Nat.ne_of_gt (by omega))) (by k_asm) (by k_asm) (by k_asm) (by first | exact rfl | assumption) (by walk_at "m.room") (by walk_at "m.units") ?_ trivial)
              try dsimp only
              intro rm trm tm9 wm em em' bm cm hM km FM NM
              k_dflt (refine item_menu NM (by walk_at "m.mem") hlow (by omega) (by omega) bm ?_)
              intro xb tb bt hbt1 hbt2 hbt3 hxb2
              replace NM := news_sub (l' := (Li, listOf is.toArray is.length) :: (M, listOf zs.toArray zs.length) :: []) NM (by walk_at "m.all")
              k_steps
              refine ⟨?_⟩
              k_dflt (refine set_atK (by k_asm) NM (by intro q hq; rw [List.mem_singleton.mp hq]; exact k1) (by omega) (by omega) (by omega) ?_)
              intro hS K hK FS NS
              have hst := strs_set (x := xb) (t := tb) hx1 K
              have hsl : (xs.set K xb).length = xs.length := List.length_set ..
              have hsx : ∀ y ∈ xs.set K xb, y.length ≤ 1000 := fun y hy => (List.mem_or_eq_of_mem_set hy).elim (hx700 y) fun e => e ▸ hxb2
              have hKp : K < pss.length := by omega
              have hlt3 : lnTxt (xs.set K xb) = lineTxt ((pss.take K).map itOf ++ (bt :: (pss.drop (K + 1)).map itOf)) := by rw [line_its (set_txt hbt3 hx3 K), set_split hKp]
              have hlen3 : ((pss.take K).map itOf ++ (bt :: (pss.drop (K + 1)).map itOf)).length ≤ 10 := by rw [← set_split hKp, List.length_set, List.length_map]; omega
              have hok3 : ∀ it ∈ (pss.take K).map itOf ++ (bt :: (pss.drop (K + 1)).map itOf), it.Ok := by
                rw [← set_split hKp]
                exact fun it hi => (List.mem_or_eq_of_mem_set hi).elim (its_ok hps it) fun e => e ▸ hbt2
              k_steps
              refine ⟨?_⟩
              (with_reducible rename _ = lnTxt (List.set xs _ _) => eLn)
              (with_reducible rename Str.length _ ≤ 5000 => lLn)
              k_dflt (refine CallTop.use (by k_asm) (by k_asm) (law_read_ok (pss := pss.take K) (more := bt :: (pss.drop (K + 1)).map itOf) (many := zs.length) (eLn.trans hlt3) (by omega) hlen3 hok3 (fun ps hp => hps ps (List.mem_of_mem_take hp)) (.inr ⟨_, _, rfl, hbt1⟩) (by omega)) B0 (by k_asm) (by k_asm) (by assumption) (by assumption) rfl (by walk_at "m.room") (by walk_at "m.units") ?_)
              refine ⟨(fun h0 => nomatch h0), fun _ h9 t9 F9 N9 => ?_⟩
              k_steps
  )
theorem law_holds : PySem.Challenge.rw_sf0019_01.Holds := holds_law said_w fun _ => row_holds

end Mine
set_option maxRecDepth 100000 in
theorem PySem.Challenge.cw_sf0019_01_holds : PySem.Challenge.rw_sf0019_01.Holds :=
  Mine.law_holds
