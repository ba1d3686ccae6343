import PyProof.Rows.All
import Wide.All
import OpenK.AllK
import Wide.FinOn
import Lean
import PySem.Challenge.RW_xm0734_01
open PySem PySem.W PyProof.Rows
set_option Elab.async false
set_option maxRecDepth 100000
set_option maxHeartbeats 100000000
namespace Hd
noncomputable def life : Life := ⟨[],[],[],0,[],[],false,#[],[],0,false,false,false,0,[2000,10,10],false,0,true,[],[],0,false⟩
noncomputable def drawn : Drawn := ⟨0,0,0,0⟩
noncomputable def pE : Program := PySem.Challenge.rw_xm0734_01.row.prog
noncomputable def qq : Pos := ⟨0,0,0,0⟩
noncomputable def env : Env := { scope := pE.main.scope, locals := mainNs, globals := mainNs, cells := [], code := Value.ref 13, frame := some 14 }
noncomputable def ann : Option Value := some (Value.ref 6)
noncomputable def allB : List Stmt := behindTheImports pE
noncomputable def stIn (i j : Nat) : Option Stmt := match pE.main.body[i]? with | some (.ClassDef _ _ _ b _ _ _ _ _ _ _) => b[j]? | _ => none
noncomputable def o11 : Params → Obj := fun P => ⟨(.type "code"),none,(.fields #[(.str (.ofString "<module>") 182),(.str (.ofString "<module>") 183),(.str (.ofString "/claim/cut.py") 184),(.int 1 0),(.int 0 0),(.int 0 0),(.int 0 0),(.int 0 0),(.ref 11),(.bool false),(.int 181 0),(.ref 12),.none,.none,.none,.none,(.int 185 0),(.int 1 0),(.str (.ofString "/claim/cut.py") 186)]),#[]⟩
noncomputable def o12 : Params → Obj := fun P => ⟨(.type "frame"),none,.plain,#[(some (.ref 13)),(some (.ref 3)),(some (.ref 3)),none,(some (.str (.ofString "__main__") 164)),none,(some (.ref 0))]⟩
noncomputable def t0 : Params → BT := fun P => .node (boot_o_7 P) .nil .nil
noncomputable def t1 : Params → BT := fun P => .node (boot_o_3 P) (t0 P) (t0 P)
noncomputable def t2 : Params → BT := fun P => .node (boot_o_9 P) .nil .nil
noncomputable def t3 : Params → BT := fun P => .node (o11 P) .nil .nil
noncomputable def t4 : Params → BT := fun P => .node (boot_o_5 P) (t2 P) (t3 P)
noncomputable def t5 : Params → BT := fun P => .node (boot_o_1 P) (t1 P) (t4 P)
noncomputable def t6 : Params → BT := fun P => .node (boot_o_8 P) .nil .nil
noncomputable def t7 : Params → BT := fun P => .node (boot_o_4 P) (t6 P) (t6 P)
noncomputable def t8 : Params → BT := fun P => .node (boot_o_10 P) .nil .nil
noncomputable def t9 : Params → BT := fun P => .node (o12 P) .nil .nil
noncomputable def t10 : Params → BT := fun P => .node (boot_o_6 P) (t8 P) (t9 P)
noncomputable def t11 : Params → BT := fun P => .node (boot_o_2 P) (t7 P) (t10 P)
noncomputable def t12 : Params → BT := fun P => .node (boot_o_0 P) (t5 P) (t11 P)
noncomputable def o13 : Params → Obj := fun P => ⟨(.type "dict"),none,(.dict #[⟨(PySem.PyData.keyHash P (.ofString "__name__")),(.str (.ofString "__name__") 165),(.str (.ofString "outlinemill.hint_vectors") 291)⟩,⟨(PySem.PyData.keyHash P (.ofString "__doc__")),(.str (.ofString "__doc__") 166),.none⟩,⟨(PySem.PyData.keyHash P (.ofString "__package__")),(.str (.ofString "__package__") 167),.none⟩,⟨(PySem.PyData.keyHash P (.ofString "__loader__")),(.str (.ofString "__loader__") 168),(.builtin "__main__.__loader__#\x6fpaque")⟩,⟨(PySem.PyData.keyHash P (.ofString "__spec__")),(.str (.ofString "__spec__") 169),.none⟩,⟨(PySem.PyData.keyHash P (.ofString "__annotations__")),(.str (.ofString "__annotations__") 170),(.ref 6)⟩,⟨(PySem.PyData.keyHash P (.ofString "__builtins__")),(.str (.ofString "__builtins__") 171),(.ref 4)⟩,⟨(PySem.PyData.keyHash P (.ofString "__file__")),(.str (.ofString "__file__") 173),(.str (.ofString "/claim/cut.py") 172)⟩,⟨(PySem.PyData.keyHash P (.ofString "__cached__")),(.str (.ofString "__cached__") 174),.none⟩,⟨(PySem.PyData.keyHash P (.ofString "_wall")),(.str (.ofString "_wall") 193),(.ref 21)⟩,⟨(PySem.PyData.keyHash P (.ofString "ONE14")),(.str (.ofString "ONE14") 197),(.int 16384 196)⟩,⟨(PySem.PyData.keyHash P (.ofString "muldiv")),(.str (.ofString "muldiv") 207),(.ref 28)⟩,⟨(PySem.PyData.keyHash P (.ofString "wrap32")),(.str (.ofString "wrap32") 214),(.ref 35)⟩,⟨(PySem.PyData.keyHash P (.ofString "drawn_place")),(.str (.ofString "drawn_place") 225),(.ref 42)⟩,⟨(PySem.PyData.keyHash P (.ofString "put_part")),(.str (.ofString "put_part") 237),(.ref 49)⟩,⟨(PySem.PyData.keyHash P (.ofString "pair_of")),(.str (.ofString "pair_of") 246),(.ref 56)⟩,⟨(PySem.PyData.keyHash P (.ofString "draw_between")),(.str (.ofString "draw_between") 260),(.ref 63)⟩,⟨(PySem.PyData.keyHash P (.ofString "draw_contour")),(.str (.ofString "draw_contour") 266),(.ref 68)⟩,⟨(PySem.PyData.keyHash P (.ofString "touch")),(.str (.ofString "touch") 277),(.ref 75)⟩,⟨(PySem.PyData.keyHash P (.ofString "shifted")),(.str (.ofString "shifted") 290),(.ref 82)⟩,⟨(PySem.PyData.keyHash P (.ofString "axis_of")),(.str (.ofString "axis_of") 299),(.ref 89)⟩] 21),#[]⟩
noncomputable def o14 : Params → Obj := fun P => ⟨.none,none,(.fields #[(.int 1 0),(.int 0 0),(.ref 20),(.int 6 0),(.int 0 0),(.ref 27),(.int 13 0),(.int 0 0),(.ref 34),(.int 16 0),(.int 0 0),(.ref 41),(.int 22 0),(.int 0 0),(.ref 48),(.int 25 0),(.int 0 0),(.ref 55),(.int 27 0),(.int 0 0),(.ref 62),(.int 33 0),(.int 0 0),(.ref 67),(.int 46 0),(.int 0 0),(.ref 74),(.int 51 0),(.int 0 0),(.ref 81),(.int 61 0),(.int 0 0),(.ref 88)]),#[]⟩
noncomputable def o15 : Params → Obj := fun P => ⟨(.type "tuple"),none,(.seq #[(.str (.ofString "k") 190)] 0),#[]⟩
noncomputable def o16 : Params → Obj := by
  refine (?g : ∀ n a b d r t s ts bi q, pE.main.body[0]? = some (.FunctionDef n a b d r t s ts bi q) → Params → Obj) _ _ _ _ _ _ _ _ _ _ rfl
  exact fun n a b _ _ _ s _ _ _ _ P => ⟨.none,none,(.func ⟨(.ofString "_wall"),(.ofString "_wall"),a,(.stmts b),s,0,[],.none,.none,.none,.none,none,.none,.none,0⟩),#[]⟩
noncomputable def o17 : Params → Obj := fun P => ⟨(.type "code"),none,(.fields #[(.str (.ofString "_wall") 187),(.str (.ofString "_wall") 188),(.str (.ofString "/claim/cut.py") 189),(.int 1 0),(.int 1 0),(.int 0 0),(.int 0 0),(.int 3 0),(.ref 15),(.bool true),(.int 181 0),(.ref 16),.none,(.ref 17),(.ref 18),(.ref 19),(.int 191 0),(.int 1 0),(.str (.ofString "/claim/cut.py") 192)]),#[]⟩
noncomputable def o18 : Params → Obj := by
  refine (?g : ∀ n a b d r t s ts bi q, pE.main.body[0]? = some (.FunctionDef n a b d r t s ts bi q) → Params → Obj) _ _ _ _ _ _ _ _ _ _ rfl
  exact fun n a b _ _ _ s _ _ _ _ P => ⟨(.type "function"),none,(.func ⟨(.ofString "_wall"),(.ofString "_wall"),a,(.stmts b),s,3,[],.none,.none,.none,(.str (.ofString "__main__") 164),none,(.ref 20),.none,0⟩),#[]⟩
noncomputable def o19 : Params → Obj := fun P => ⟨(.type "tuple"),none,(.seq #[(.str (.ofString "a") 201),(.str (.ofString "b") 202),(.str (.ofString "c") 203),(.str (.ofString "top") 204)] 0),#[]⟩
noncomputable def o20 : Params → Obj := by
  refine (?g : ∀ n a b d r t s ts bi q, pE.main.body[3]? = some (.FunctionDef n a b d r t s ts bi q) → Params → Obj) _ _ _ _ _ _ _ _ _ _ rfl
  exact fun n a b _ _ _ s _ _ _ _ P => ⟨.none,none,(.func ⟨(.ofString "muldiv"),(.ofString "muldiv"),a,(.stmts b),s,0,[],.none,.none,.none,.none,none,.none,.none,0⟩),#[]⟩
noncomputable def o21 : Params → Obj := fun P => ⟨(.type "code"),none,(.fields #[(.str (.ofString "muldiv") 198),(.str (.ofString "muldiv") 199),(.str (.ofString "/claim/cut.py") 200),(.int 6 0),(.int 3 0),(.int 0 0),(.int 0 0),(.int 3 0),(.ref 22),(.bool true),(.int 181 0),(.ref 23),.none,(.ref 24),(.ref 25),(.ref 26),(.int 205 0),(.int 6 0),(.str (.ofString "/claim/cut.py") 206)]),#[]⟩
noncomputable def o22 : Params → Obj := by
  refine (?g : ∀ n a b d r t s ts bi q, pE.main.body[3]? = some (.FunctionDef n a b d r t s ts bi q) → Params → Obj) _ _ _ _ _ _ _ _ _ _ rfl
  exact fun n a b _ _ _ s _ _ _ _ P => ⟨(.type "function"),none,(.func ⟨(.ofString "muldiv"),(.ofString "muldiv"),a,(.stmts b),s,3,[],.none,.none,.none,(.str (.ofString "outlinemill.hint_numbers") 194),none,(.ref 27),.none,0⟩),#[]⟩
noncomputable def o23 : Params → Obj := fun P => ⟨(.type "tuple"),none,(.seq #[(.str (.ofString "n") 211)] 0),#[]⟩
noncomputable def o24 : Params → Obj := by
  refine (?g : ∀ n a b d r t s ts bi q, pE.main.body[4]? = some (.FunctionDef n a b d r t s ts bi q) → Params → Obj) _ _ _ _ _ _ _ _ _ _ rfl
  exact fun n a b _ _ _ s _ _ _ _ P => ⟨.none,none,(.func ⟨(.ofString "wrap32"),(.ofString "wrap32"),a,(.stmts b),s,0,[],.none,.none,.none,.none,none,.none,.none,0⟩),#[]⟩
noncomputable def o25 : Params → Obj := fun P => ⟨(.type "code"),none,(.fields #[(.str (.ofString "wrap32") 208),(.str (.ofString "wrap32") 209),(.str (.ofString "/claim/cut.py") 210),(.int 13 0),(.int 1 0),(.int 0 0),(.int 0 0),(.int 3 0),(.ref 29),(.bool true),(.int 181 0),(.ref 30),.none,(.ref 31),(.ref 32),(.ref 33),(.int 212 0),(.int 13 0),(.str (.ofString "/claim/cut.py") 213)]),#[]⟩
noncomputable def o26 : Params → Obj := by
  refine (?g : ∀ n a b d r t s ts bi q, pE.main.body[4]? = some (.FunctionDef n a b d r t s ts bi q) → Params → Obj) _ _ _ _ _ _ _ _ _ _ rfl
  exact fun n a b _ _ _ s _ _ _ _ P => ⟨(.type "function"),none,(.func ⟨(.ofString "wrap32"),(.ofString "wrap32"),a,(.stmts b),s,3,[],.none,.none,.none,(.str (.ofString "outlinemill.hint_numbers") 194),none,(.ref 34),.none,0⟩),#[]⟩
noncomputable def o27 : Params → Obj := fun P => ⟨(.type "tuple"),none,(.seq #[(.str (.ofString "original") 220),(.str (.ofString "first") 221),(.str (.ofString "last") 222)] 0),#[]⟩
noncomputable def o28 : Params → Obj := by
  refine (?g : ∀ n a b d r t s ts bi q, pE.main.body[6]? = some (.FunctionDef n a b d r t s ts bi q) → Params → Obj) _ _ _ _ _ _ _ _ _ _ rfl
  exact fun n a b _ _ _ s _ _ _ _ P => ⟨.none,none,(.func ⟨(.ofString "drawn_place"),(.ofString "drawn_place"),a,(.stmts b),s,0,[],.none,.none,.none,.none,none,.none,.none,0⟩),#[]⟩
noncomputable def o29 : Params → Obj := fun P => ⟨(.type "code"),none,(.fields #[(.str (.ofString "drawn_place") 217),(.str (.ofString "drawn_place") 218),(.str (.ofString "/claim/cut.py") 219),(.int 16 0),(.int 3 0),(.int 0 0),(.int 0 0),(.int 3 0),(.ref 36),(.bool true),(.int 181 0),(.ref 37),.none,(.ref 38),(.ref 39),(.ref 40),(.int 223 0),(.int 16 0),(.str (.ofString "/claim/cut.py") 224)]),#[]⟩
noncomputable def o30 : Params → Obj := by
  refine (?g : ∀ n a b d r t s ts bi q, pE.main.body[6]? = some (.FunctionDef n a b d r t s ts bi q) → Params → Obj) _ _ _ _ _ _ _ _ _ _ rfl
  exact fun n a b _ _ _ s _ _ _ _ P => ⟨(.type "function"),none,(.func ⟨(.ofString "drawn_place"),(.ofString "drawn_place"),a,(.stmts b),s,3,[],.none,.none,.none,(.str (.ofString "outlinemill.hint_shifts") 215),none,(.ref 41),.none,0⟩),#[]⟩
noncomputable def o31 : Params → Obj := fun P => ⟨(.type "tuple"),none,(.seq #[(.str (.ofString "zone") 229),(.str (.ofString "i") 230),(.str (.ofString "axis") 231),(.str (.ofString "number") 232),(.str (.ofString "x") 233),(.str (.ofString "y") 234)] 0),#[]⟩
noncomputable def o32 : Params → Obj := by
  refine (?g : ∀ n a b d r t s ts bi q, pE.main.body[7]? = some (.FunctionDef n a b d r t s ts bi q) → Params → Obj) _ _ _ _ _ _ _ _ _ _ rfl
  exact fun n a b _ _ _ s _ _ _ _ P => ⟨.none,none,(.func ⟨(.ofString "put_part"),(.ofString "put_part"),a,(.stmts b),s,0,[],.none,.none,.none,.none,none,.none,.none,0⟩),#[]⟩
noncomputable def o33 : Params → Obj := fun P => ⟨(.type "code"),none,(.fields #[(.str (.ofString "put_part") 226),(.str (.ofString "put_part") 227),(.str (.ofString "/claim/cut.py") 228),(.int 22 0),(.int 4 0),(.int 0 0),(.int 0 0),(.int 3 0),(.ref 43),(.bool true),(.int 181 0),(.ref 44),.none,(.ref 45),(.ref 46),(.ref 47),(.int 235 0),(.int 22 0),(.str (.ofString "/claim/cut.py") 236)]),#[]⟩
noncomputable def o34 : Params → Obj := by
  refine (?g : ∀ n a b d r t s ts bi q, pE.main.body[7]? = some (.FunctionDef n a b d r t s ts bi q) → Params → Obj) _ _ _ _ _ _ _ _ _ _ rfl
  exact fun n a b _ _ _ s _ _ _ _ P => ⟨(.type "function"),none,(.func ⟨(.ofString "put_part"),(.ofString "put_part"),a,(.stmts b),s,3,[],.none,.none,.none,(.str (.ofString "outlinemill.hint_shifts") 215),none,(.ref 48),.none,0⟩),#[]⟩
noncomputable def o35 : Params → Obj := fun P => ⟨(.type "tuple"),none,(.seq #[(.str (.ofString "zone") 241),(.str (.ofString "i") 242),(.str (.ofString "axis") 243)] 0),#[]⟩
noncomputable def o36 : Params → Obj := by
  refine (?g : ∀ n a b d r t s ts bi q, pE.main.body[8]? = some (.FunctionDef n a b d r t s ts bi q) → Params → Obj) _ _ _ _ _ _ _ _ _ _ rfl
  exact fun n a b _ _ _ s _ _ _ _ P => ⟨.none,none,(.func ⟨(.ofString "pair_of"),(.ofString "pair_of"),a,(.stmts b),s,0,[],.none,.none,.none,.none,none,.none,.none,0⟩),#[]⟩
noncomputable def o37 : Params → Obj := fun P => ⟨(.type "code"),none,(.fields #[(.str (.ofString "pair_of") 238),(.str (.ofString "pair_of") 239),(.str (.ofString "/claim/cut.py") 240),(.int 25 0),(.int 3 0),(.int 0 0),(.int 0 0),(.int 3 0),(.ref 50),(.bool true),(.int 181 0),(.ref 51),.none,(.ref 52),(.ref 53),(.ref 54),(.int 244 0),(.int 25 0),(.str (.ofString "/claim/cut.py") 245)]),#[]⟩
noncomputable def o38 : Params → Obj := by
  refine (?g : ∀ n a b d r t s ts bi q, pE.main.body[8]? = some (.FunctionDef n a b d r t s ts bi q) → Params → Obj) _ _ _ _ _ _ _ _ _ _ rfl
  exact fun n a b _ _ _ s _ _ _ _ P => ⟨(.type "function"),none,(.func ⟨(.ofString "pair_of"),(.ofString "pair_of"),a,(.stmts b),s,3,[],.none,.none,.none,(.str (.ofString "outlinemill.hint_shifts") 215),none,(.ref 55),.none,0⟩),#[]⟩
noncomputable def o39 : Params → Obj := fun P => ⟨(.type "tuple"),none,(.seq #[(.str (.ofString "zone") 250),(.str (.ofString "axis") 251),(.str (.ofString "numbers") 252),(.str (.ofString "one") 253),(.str (.ofString "other") 254),(.str (.ofString "first") 255),(.str (.ofString "last") 256),(.str (.ofString "i") 257)] 0),#[]⟩
noncomputable def o40 : Params → Obj := by
  refine (?g : ∀ n a b d r t s ts bi q, pE.main.body[9]? = some (.FunctionDef n a b d r t s ts bi q) → Params → Obj) _ _ _ _ _ _ _ _ _ _ rfl
  exact fun n a b _ _ _ s _ _ _ _ P => ⟨.none,none,(.func ⟨(.ofString "draw_between"),(.ofString "draw_between"),a,(.stmts b),s,0,[],.none,.none,.none,.none,none,.none,.none,0⟩),#[]⟩
noncomputable def o41 : Params → Obj := fun P => ⟨(.type "code"),none,(.fields #[(.str (.ofString "draw_between") 247),(.str (.ofString "draw_between") 248),(.str (.ofString "/claim/cut.py") 249),(.int 27 0),(.int 5 0),(.int 0 0),(.int 0 0),(.int 3 0),(.ref 57),(.bool true),(.int 181 0),(.ref 58),.none,(.ref 59),(.ref 60),(.ref 61),(.int 258 0),(.int 27 0),(.str (.ofString "/claim/cut.py") 259)]),#[]⟩
noncomputable def o42 : Params → Obj := by
  refine (?g : ∀ n a b d r t s ts bi q, pE.main.body[9]? = some (.FunctionDef n a b d r t s ts bi q) → Params → Obj) _ _ _ _ _ _ _ _ _ _ rfl
  exact fun n a b _ _ _ s _ _ _ _ P => ⟨(.type "function"),none,(.func ⟨(.ofString "draw_between"),(.ofString "draw_between"),a,(.stmts b),s,3,[],.none,.none,.none,(.str (.ofString "outlinemill.hint_shifts") 215),none,(.ref 62),.none,0⟩),#[]⟩
noncomputable def o43 : Params → Obj := by
  refine (?g : ∀ n a b d r t s ts bi q, pE.main.body[10]? = some (.FunctionDef n a b d r t s ts bi q) → Params → Obj) _ _ _ _ _ _ _ _ _ _ rfl
  exact fun n a b _ _ _ s _ _ _ _ P => ⟨.none,none,(.func ⟨(.ofString "draw_contour"),(.ofString "draw_contour"),a,(.stmts b),s,0,[],.none,.none,.none,.none,none,.none,.none,0⟩),#[]⟩
noncomputable def o44 : Params → Obj := fun P => ⟨(.type "code"),none,(.fields #[(.str (.ofString "draw_contour") 261),(.str (.ofString "draw_contour") 262),(.str (.ofString "/claim/cut.py") 263),(.int 33 0),(.int 4 0),(.int 0 0),(.int 0 0),(.int 3 0),(.ref 64),(.bool true),(.int 181 0),(.ref 65),.none,.none,.none,(.ref 66),(.int 264 0),(.int 33 0),(.str (.ofString "/claim/cut.py") 265)]),#[]⟩
noncomputable def o45 : Params → Obj := by
  refine (?g : ∀ n a b d r t s ts bi q, pE.main.body[10]? = some (.FunctionDef n a b d r t s ts bi q) → Params → Obj) _ _ _ _ _ _ _ _ _ _ rfl
  exact fun n a b _ _ _ s _ _ _ _ P => ⟨(.type "function"),none,(.func ⟨(.ofString "draw_contour"),(.ofString "draw_contour"),a,(.stmts b),s,3,[],.none,.none,.none,(.str (.ofString "outlinemill.hint_shifts") 215),none,(.ref 67),.none,0⟩),#[]⟩
noncomputable def o46 : Params → Obj := fun P => ⟨(.type "tuple"),none,(.seq #[(.str (.ofString "state") 272),(.str (.ofString "zone") 273),(.str (.ofString "i") 274)] 0),#[]⟩
noncomputable def o47 : Params → Obj := by
  refine (?g : ∀ n a b d r t s ts bi q, pE.main.body[12]? = some (.FunctionDef n a b d r t s ts bi q) → Params → Obj) _ _ _ _ _ _ _ _ _ _ rfl
  exact fun n a b _ _ _ s _ _ _ _ P => ⟨.none,none,(.func ⟨(.ofString "touch"),(.ofString "touch"),a,(.stmts b),s,0,[],.none,.none,.none,.none,none,.none,.none,0⟩),#[]⟩
noncomputable def o48 : Params → Obj := fun P => ⟨(.type "code"),none,(.fields #[(.str (.ofString "touch") 269),(.str (.ofString "touch") 270),(.str (.ofString "/claim/cut.py") 271),(.int 46 0),(.int 3 0),(.int 0 0),(.int 0 0),(.int 3 0),(.ref 69),(.bool true),(.int 181 0),(.ref 70),.none,(.ref 71),(.ref 72),(.ref 73),(.int 275 0),(.int 46 0),(.str (.ofString "/claim/cut.py") 276)]),#[]⟩
noncomputable def o49 : Params → Obj := by
  refine (?g : ∀ n a b d r t s ts bi q, pE.main.body[12]? = some (.FunctionDef n a b d r t s ts bi q) → Params → Obj) _ _ _ _ _ _ _ _ _ _ rfl
  exact fun n a b _ _ _ s _ _ _ _ P => ⟨(.type "function"),none,(.func ⟨(.ofString "touch"),(.ofString "touch"),a,(.stmts b),s,3,[],.none,.none,.none,(.str (.ofString "outlinemill.hint_moves") 267),none,(.ref 74),.none,0⟩),#[]⟩
noncomputable def o50 : Params → Obj := fun P => ⟨(.type "tuple"),none,(.seq #[(.str (.ofString "state") 281),(.str (.ofString "zone") 282),(.str (.ofString "i") 283),(.str (.ofString "step") 284),(.str (.ofString "is_touching") 285),(.str (.ofString "x") 286),(.str (.ofString "y") 287)] 0),#[]⟩
noncomputable def o51 : Params → Obj := by
  refine (?g : ∀ n a b d r t s ts bi q, pE.main.body[13]? = some (.FunctionDef n a b d r t s ts bi q) → Params → Obj) _ _ _ _ _ _ _ _ _ _ rfl
  exact fun n a b _ _ _ s _ _ _ _ P => ⟨.none,none,(.func ⟨(.ofString "shifted"),(.ofString "shifted"),a,(.stmts b),s,0,[],.none,.none,.none,.none,none,.none,.none,0⟩),#[]⟩
noncomputable def o52 : Params → Obj := fun P => ⟨(.type "code"),none,(.fields #[(.str (.ofString "shifted") 278),(.str (.ofString "shifted") 279),(.str (.ofString "/claim/cut.py") 280),(.int 51 0),(.int 5 0),(.int 0 0),(.int 0 0),(.int 3 0),(.ref 76),(.bool true),(.int 181 0),(.ref 77),.none,(.ref 78),(.ref 79),(.ref 80),(.int 288 0),(.int 51 0),(.str (.ofString "/claim/cut.py") 289)]),#[]⟩
noncomputable def o53 : Params → Obj := by
  refine (?g : ∀ n a b d r t s ts bi q, pE.main.body[13]? = some (.FunctionDef n a b d r t s ts bi q) → Params → Obj) _ _ _ _ _ _ _ _ _ _ rfl
  exact fun n a b _ _ _ s _ _ _ _ P => ⟨(.type "function"),none,(.func ⟨(.ofString "shifted"),(.ofString "shifted"),a,(.stmts b),s,3,[],.none,.none,.none,(.str (.ofString "outlinemill.hint_moves") 267),none,(.ref 81),.none,0⟩),#[]⟩
noncomputable def o54 : Params → Obj := fun P => ⟨(.type "tuple"),none,(.seq #[(.str (.ofString "code") 296)] 0),#[]⟩
noncomputable def o55 : Params → Obj := by
  refine (?g : ∀ n a b d r t s ts bi q, pE.main.body[15]? = some (.FunctionDef n a b d r t s ts bi q) → Params → Obj) _ _ _ _ _ _ _ _ _ _ rfl
  exact fun n a b _ _ _ s _ _ _ _ P => ⟨.none,none,(.func ⟨(.ofString "axis_of"),(.ofString "axis_of"),a,(.stmts b),s,0,[],.none,.none,.none,.none,none,.none,.none,0⟩),#[]⟩
noncomputable def o56 : Params → Obj := fun P => ⟨(.type "code"),none,(.fields #[(.str (.ofString "axis_of") 293),(.str (.ofString "axis_of") 294),(.str (.ofString "/claim/cut.py") 295),(.int 61 0),(.int 1 0),(.int 0 0),(.int 0 0),(.int 3 0),(.ref 83),(.bool true),(.int 181 0),(.ref 84),.none,(.ref 85),(.ref 86),(.ref 87),(.int 297 0),(.int 61 0),(.str (.ofString "/claim/cut.py") 298)]),#[]⟩
noncomputable def o57 : Params → Obj := by
  refine (?g : ∀ n a b d r t s ts bi q, pE.main.body[15]? = some (.FunctionDef n a b d r t s ts bi q) → Params → Obj) _ _ _ _ _ _ _ _ _ _ rfl
  exact fun n a b _ _ _ s _ _ _ _ P => ⟨(.type "function"),none,(.func ⟨(.ofString "axis_of"),(.ofString "axis_of"),a,(.stmts b),s,3,[],.none,.none,.none,(.str (.ofString "outlinemill.hint_vectors") 291),none,(.ref 88),.none,0⟩),#[]⟩
noncomputable def t13 : Params → BT := fun P => .node (o42 P) .nil .nil
noncomputable def t14 : Params → BT := fun P => .node (o23 P) (t13 P) .nil
noncomputable def t15 : Params → BT := fun P => .node (o32 P) (t0 P) .nil
noncomputable def t16 : Params → BT := fun P => .node (boot_o_7 P) (t14 P) (t15 P)
noncomputable def t17 : Params → BT := fun P => .node (o46 P) .nil .nil
noncomputable def t18 : Params → BT := fun P => .node (boot_o_7 P) (t17 P) .nil
noncomputable def t19 : Params → BT := fun P => .node (o55 P) .nil .nil
noncomputable def t20 : Params → BT := fun P => .node (o37 P) (t19 P) .nil
noncomputable def t21 : Params → BT := fun P => .node (boot_o_8 P) (t18 P) (t20 P)
noncomputable def t22 : Params → BT := fun P => .node (boot_o_7 P) (t16 P) (t21 P)
noncomputable def t23 : Params → BT := fun P => .node (o44 P) .nil .nil
noncomputable def t24 : Params → BT := fun P => .node (o26 P) (t23 P) .nil
noncomputable def t25 : Params → BT := fun P => .node (boot_o_8 P) (t0 P) .nil
noncomputable def t26 : Params → BT := fun P => .node (o16 P) (t24 P) (t25 P)
noncomputable def t27 : Params → BT := fun P => .node (o49 P) .nil .nil
noncomputable def t28 : Params → BT := fun P => .node (boot_o_7 P) (t27 P) .nil
noncomputable def t29 : Params → BT := fun P => .node (o39 P) .nil .nil
noncomputable def t30 : Params → BT := fun P => .node (o21 P) (t28 P) (t29 P)
noncomputable def t31 : Params → BT := fun P => .node (boot_o_7 P) (t26 P) (t30 P)
noncomputable def t32 : Params → BT := fun P => .node (o13 P) (t22 P) (t31 P)
noncomputable def t33 : Params → BT := fun P => .node (o24 P) (t6 P) .nil
noncomputable def t34 : Params → BT := fun P => .node (o52 P) .nil .nil
noncomputable def t35 : Params → BT := fun P => .node (o34 P) (t34 P) .nil
noncomputable def t36 : Params → BT := fun P => .node (o15 P) (t33 P) (t35 P)
noncomputable def t37 : Params → BT := fun P => .node (o47 P) .nil .nil
noncomputable def t38 : Params → BT := fun P => .node (o29 P) (t37 P) .nil
noncomputable def t39 : Params → BT := fun P => .node (o57 P) .nil .nil
noncomputable def t40 : Params → BT := fun P => .node (boot_o_7 P) (t39 P) .nil
noncomputable def t41 : Params → BT := fun P => .node (boot_o_7 P) (t38 P) (t40 P)
noncomputable def t42 : Params → BT := fun P => .node (boot_o_9 P) (t36 P) (t41 P)
noncomputable def t43 : Params → BT := fun P => .node (o54 P) .nil .nil
noncomputable def t44 : Params → BT := fun P => .node (boot_o_7 P) (t43 P) .nil
noncomputable def t45 : Params → BT := fun P => .node (o18 P) (t25 P) (t44 P)
noncomputable def t46 : Params → BT := fun P => .node (o31 P) (t6 P) .nil
noncomputable def t47 : Params → BT := fun P => .node (o40 P) .nil .nil
noncomputable def t48 : Params → BT := fun P => .node (boot_o_7 P) (t46 P) (t47 P)
noncomputable def t49 : Params → BT := fun P => .node (o11 P) (t45 P) (t48 P)
noncomputable def t50 : Params → BT := fun P => .node (boot_o_5 P) (t42 P) (t49 P)
noncomputable def t51 : Params → BT := fun P => .node (boot_o_1 P) (t32 P) (t50 P)
noncomputable def t52 : Params → BT := fun P => .node (boot_o_7 P) (t0 P) .nil
noncomputable def t53 : Params → BT := fun P => .node (o51 P) .nil .nil
noncomputable def t54 : Params → BT := fun P => .node (o33 P) (t53 P) .nil
noncomputable def t55 : Params → BT := fun P => .node (boot_o_8 P) (t52 P) (t54 P)
noncomputable def t56 : Params → BT := fun P => .node (o28 P) (t0 P) .nil
noncomputable def t57 : Params → BT := fun P => .node (o56 P) .nil .nil
noncomputable def t58 : Params → BT := fun P => .node (o38 P) (t57 P) .nil
noncomputable def t59 : Params → BT := fun P => .node (o19 P) (t56 P) (t58 P)
noncomputable def t60 : Params → BT := fun P => .node (boot_o_8 P) (t55 P) (t59 P)
noncomputable def t61 : Params → BT := fun P => .node (o45 P) .nil .nil
noncomputable def t62 : Params → BT := fun P => .node (boot_o_7 P) (t61 P) .nil
noncomputable def t63 : Params → BT := fun P => .node (o35 P) (t6 P) .nil
noncomputable def t64 : Params → BT := fun P => .node (o17 P) (t62 P) (t63 P)
noncomputable def t65 : Params → BT := fun P => .node (o22 P) (t25 P) (t0 P)
noncomputable def t66 : Params → BT := fun P => .node (o14 P) (t64 P) (t65 P)
noncomputable def t67 : Params → BT := fun P => .node (boot_o_4 P) (t60 P) (t66 P)
noncomputable def t68 : Params → BT := fun P => .node (o43 P) .nil .nil
noncomputable def t69 : Params → BT := fun P => .node (o25 P) (t68 P) .nil
noncomputable def t70 : Params → BT := fun P => .node (o53 P) .nil .nil
noncomputable def t71 : Params → BT := fun P => .node (boot_o_7 P) (t70 P) .nil
noncomputable def t72 : Params → BT := fun P => .node (boot_o_7 P) (t69 P) (t71 P)
noncomputable def t73 : Params → BT := fun P => .node (o48 P) .nil .nil
noncomputable def t74 : Params → BT := fun P => .node (o30 P) (t73 P) .nil
noncomputable def t75 : Params → BT := fun P => .node (o20 P) (t74 P) (t6 P)
noncomputable def t76 : Params → BT := fun P => .node (boot_o_10 P) (t72 P) (t75 P)
noncomputable def t77 : Params → BT := fun P => .node (o27 P) (t6 P) .nil
noncomputable def t78 : Params → BT := fun P => .node (o36 P) (t0 P) .nil
noncomputable def t79 : Params → BT := fun P => .node (boot_o_7 P) (t77 P) (t78 P)
noncomputable def t80 : Params → BT := fun P => .node (o50 P) .nil .nil
noncomputable def t81 : Params → BT := fun P => .node (boot_o_7 P) (t80 P) .nil
noncomputable def t82 : Params → BT := fun P => .node (o41 P) .nil .nil
noncomputable def t83 : Params → BT := fun P => .node (boot_o_8 P) (t81 P) (t82 P)
noncomputable def t84 : Params → BT := fun P => .node (o12 P) (t79 P) (t83 P)
noncomputable def t85 : Params → BT := fun P => .node (boot_o_6 P) (t76 P) (t84 P)
noncomputable def t86 : Params → BT := fun P => .node (boot_o_2 P) (t67 P) (t85 P)
noncomputable def t87 : Params → BT := fun P => .node (boot_o_0 P) (t51 P) (t86 P)
noncomputable def o58 : Params → Obj := fun P => ⟨.none,none,(.dict #[⟨(PySem.PyData.keyHash P (.ofString "type.__subclasses__.Exception.0")),(.str (.ofString "type.__subclasses__.Exception.0") 336),(.int 113 0)⟩,⟨(PySem.PyData.keyHash P (.ofString "type.__subclasses__.Exception.n")),(.str (.ofString "type.__subclasses__.Exception.n") 337),(.int 1 0)⟩] 2),#[]⟩
noncomputable def o59 : Params → Obj := fun P => ⟨(.type "dict"),none,(.dict #[⟨(PySem.PyData.keyHash P (.ofString "__name__")),(.str (.ofString "__name__") 165),(.str (.ofString "outlinemill.errors") 309)⟩,⟨(PySem.PyData.keyHash P (.ofString "__doc__")),(.str (.ofString "__doc__") 166),.none⟩,⟨(PySem.PyData.keyHash P (.ofString "__package__")),(.str (.ofString "__package__") 167),.none⟩,⟨(PySem.PyData.keyHash P (.ofString "__loader__")),(.str (.ofString "__loader__") 168),(.builtin "__main__.__loader__#\x6fpaque")⟩,⟨(PySem.PyData.keyHash P (.ofString "__spec__")),(.str (.ofString "__spec__") 169),.none⟩,⟨(PySem.PyData.keyHash P (.ofString "__annotations__")),(.str (.ofString "__annotations__") 170),(.ref 6)⟩,⟨(PySem.PyData.keyHash P (.ofString "__builtins__")),(.str (.ofString "__builtins__") 171),(.ref 4)⟩,⟨(PySem.PyData.keyHash P (.ofString "__file__")),(.str (.ofString "__file__") 173),(.str (.ofString "/claim/cut.py") 172)⟩,⟨(PySem.PyData.keyHash P (.ofString "__cached__")),(.str (.ofString "__cached__") 174),.none⟩,⟨(PySem.PyData.keyHash P (.ofString "_wall")),(.str (.ofString "_wall") 193),(.ref 21)⟩,⟨(PySem.PyData.keyHash P (.ofString "ONE14")),(.str (.ofString "ONE14") 197),(.int 16384 196)⟩,⟨(PySem.PyData.keyHash P (.ofString "muldiv")),(.str (.ofString "muldiv") 207),(.ref 28)⟩,⟨(PySem.PyData.keyHash P (.ofString "wrap32")),(.str (.ofString "wrap32") 214),(.ref 35)⟩,⟨(PySem.PyData.keyHash P (.ofString "drawn_place")),(.str (.ofString "drawn_place") 225),(.ref 42)⟩,⟨(PySem.PyData.keyHash P (.ofString "put_part")),(.str (.ofString "put_part") 237),(.ref 49)⟩,⟨(PySem.PyData.keyHash P (.ofString "pair_of")),(.str (.ofString "pair_of") 246),(.ref 56)⟩,⟨(PySem.PyData.keyHash P (.ofString "draw_between")),(.str (.ofString "draw_between") 260),(.ref 63)⟩,⟨(PySem.PyData.keyHash P (.ofString "draw_contour")),(.str (.ofString "draw_contour") 266),(.ref 68)⟩,⟨(PySem.PyData.keyHash P (.ofString "touch")),(.str (.ofString "touch") 277),(.ref 75)⟩,⟨(PySem.PyData.keyHash P (.ofString "shifted")),(.str (.ofString "shifted") 290),(.ref 82)⟩,⟨(PySem.PyData.keyHash P (.ofString "axis_of")),(.str (.ofString "axis_of") 299),(.ref 89)⟩,⟨(PySem.PyData.keyHash P (.ofString "do_axes")),(.str (.ofString "do_axes") 308),(.ref 96)⟩,⟨(PySem.PyData.keyHash P (.ofString "MillError")),(.str (.ofString "MillError") 339),(.ref 113)⟩] 23),#[]⟩
noncomputable def o60 : Params → Obj := fun P => ⟨.none,none,(.fields #[(.int 1 0),(.int 0 0),(.ref 20),(.int 6 0),(.int 0 0),(.ref 27),(.int 13 0),(.int 0 0),(.ref 34),(.int 16 0),(.int 0 0),(.ref 41),(.int 22 0),(.int 0 0),(.ref 48),(.int 25 0),(.int 0 0),(.ref 55),(.int 27 0),(.int 0 0),(.ref 62),(.int 33 0),(.int 0 0),(.ref 67),(.int 46 0),(.int 0 0),(.ref 74),(.int 51 0),(.int 0 0),(.ref 81),(.int 61 0),(.int 0 0),(.ref 88),(.int 63 0),(.int 0 0),(.ref 95),(.int 71 0),(.int 0 0),(.ref 102)]),#[]⟩
noncomputable def o61 : Params → Obj := fun P => ⟨(.type "tuple"),none,(.seq #[(.str (.ofString "work") 303),(.str (.ofString "code") 304),(.str (.ofString "state") 305)] 0),#[]⟩
noncomputable def o62 : Params → Obj := by
  refine (?g : ∀ n a b d r t s ts bi q, pE.main.body[16]? = some (.FunctionDef n a b d r t s ts bi q) → Params → Obj) _ _ _ _ _ _ _ _ _ _ rfl
  exact fun n a b _ _ _ s _ _ _ _ P => ⟨.none,none,(.func ⟨(.ofString "do_axes"),(.ofString "do_axes"),a,(.stmts b),s,0,[],.none,.none,.none,.none,none,.none,.none,0⟩),#[]⟩
noncomputable def o63 : Params → Obj := fun P => ⟨(.type "code"),none,(.fields #[(.str (.ofString "do_axes") 300),(.str (.ofString "do_axes") 301),(.str (.ofString "/claim/cut.py") 302),(.int 63 0),(.int 2 0),(.int 0 0),(.int 0 0),(.int 3 0),(.ref 90),(.bool true),(.int 181 0),(.ref 91),.none,(.ref 92),(.ref 93),(.ref 94),(.int 306 0),(.int 63 0),(.str (.ofString "/claim/cut.py") 307)]),#[]⟩
noncomputable def o64 : Params → Obj := by
  refine (?g : ∀ n a b d r t s ts bi q, pE.main.body[16]? = some (.FunctionDef n a b d r t s ts bi q) → Params → Obj) _ _ _ _ _ _ _ _ _ _ rfl
  exact fun n a b _ _ _ s _ _ _ _ P => ⟨(.type "function"),none,(.func ⟨(.ofString "do_axes"),(.ofString "do_axes"),a,(.stmts b),s,3,[],.none,.none,.none,(.str (.ofString "outlinemill.hint_vectors") 291),none,(.ref 95),.none,0⟩),#[]⟩
noncomputable def o65 : Params → Obj := fun P => ⟨(.type "tuple"),none,(.seq #[(.type "Exception")] 0),#[]⟩
noncomputable def o66 : Params → Obj := fun P => ⟨(.type "builtin_function_or_method"),none,(.fields #[(.builtin "type.__prepare__"),(.type "type")]),#[]⟩
noncomputable def o67 : Params → Obj := fun P => ⟨(.type "dict"),none,(.dict #[⟨(PySem.PyData.keyHash P (.ofString "__module__")),(.str (.ofString "__module__") 318),(.str (.ofString "outlinemill.errors") 309)⟩,⟨(PySem.PyData.keyHash P (.ofString "__qualname__")),(.str (.ofString "__qualname__") 320),(.str (.ofString "MillError") 319)⟩,⟨(PySem.PyData.keyHash P (.ofString "__firstlineno__")),(.str (.ofString "__firstlineno__") 322),(.int 71 321)⟩,⟨(PySem.PyData.keyHash P (.ofString "__init__")),(.str (.ofString "__init__") 330),(.ref 110)⟩,⟨(PySem.PyData.keyHash P (.ofString "__static_attributes__")),(.str (.ofString "__static_attributes__") 332),(.ref 111)⟩] 5),#[]⟩
noncomputable def o68 : Params → Obj := fun P => ⟨.none,none,(.fields #[(.int 73 0),(.int 4 0),(.ref 109)]),#[]⟩
noncomputable def o69 : Params → Obj := fun P => ⟨(.type "code"),none,(.fields #[(.str (.ofString "MillError") 313),(.str (.ofString "MillError") 314),(.str (.ofString "/claim/cut.py") 315),(.int 71 0),(.int 0 0),(.int 0 0),(.int 0 0),(.int 0 0),(.ref 100),(.bool false),(.int 181 0),(.ref 101),.none,.none,.none,.none,(.int 316 0),(.int 71 0),(.str (.ofString "/claim/cut.py") 317)]),#[]⟩
noncomputable def o70 : Params → Obj := fun P => ⟨(.type "frame"),none,.plain,#[(some (.ref 102)),(some (.ref 3)),(some (.ref 99)),none,(some (.str (.ofString "outlinemill.errors") 309)),none,(some (.ref 0))]⟩
noncomputable def o71 : Params → Obj := fun P => ⟨(.type "tuple"),none,(.seq #[(.str (.ofString "self") 326),(.str (.ofString "message") 327)] 0),#[]⟩
noncomputable def o72 : Params → Obj := by
  refine (?g : ∀ n a b d r t s ts bi q, stIn 18 0 = some (.FunctionDef n a b d r t s ts bi q) → Params → Obj) _ _ _ _ _ _ _ _ _ _ rfl
  exact fun n a b _ _ _ s _ _ _ _ P => ⟨.none,none,(.func ⟨(.ofString "__init__"),(.ofString "MillError.__init__"),a,(.stmts b),s,0,[],.none,.none,.none,.none,none,.none,.none,0⟩),#[]⟩
noncomputable def o73 : Params → Obj := fun P => ⟨(.type "code"),none,(.fields #[(.str (.ofString "__init__") 323),(.str (.ofString "MillError.__init__") 324),(.str (.ofString "/claim/cut.py") 325),(.int 73 0),(.int 2 0),(.int 0 0),(.int 0 0),(.int 3 0),(.ref 104),(.bool true),(.int 181 0),(.ref 105),.none,(.ref 106),(.ref 107),(.ref 108),(.int 328 0),(.int 73 0),(.str (.ofString "/claim/cut.py") 329)]),#[]⟩
noncomputable def o74 : Params → Obj := by
  refine (?g : ∀ n a b d r t s ts bi q, stIn 18 0 = some (.FunctionDef n a b d r t s ts bi q) → Params → Obj) _ _ _ _ _ _ _ _ _ _ rfl
  exact fun n a b _ _ _ s _ _ _ _ P => ⟨(.type "function"),none,(.func ⟨(.ofString "__init__"),(.ofString "MillError.__init__"),a,(.stmts b),s,3,[],.none,.none,.none,(.str (.ofString "outlinemill.errors") 309),none,(.ref 109),.none,0⟩),#[]⟩
noncomputable def o75 : Params → Obj := fun P => ⟨(.type "tuple"),none,(.seq #[(.str (.ofString "message") 331)] 0),#[]⟩
noncomputable def o76 : Params → Obj := fun P => ⟨(.type "dict"),none,(.dict #[⟨(PySem.PyData.keyHash P (.ofString "__module__")),(.str (.ofString "__module__") 318),(.str (.ofString "outlinemill.errors") 309)⟩,⟨(PySem.PyData.keyHash P (.ofString "__firstlineno__")),(.str (.ofString "__firstlineno__") 322),(.int 71 321)⟩,⟨(PySem.PyData.keyHash P (.ofString "__init__")),(.str (.ofString "__init__") 330),(.ref 110)⟩,⟨(PySem.PyData.keyHash P (.ofString "__static_attributes__")),(.str (.ofString "__static_attributes__") 332),(.ref 111)⟩,⟨(PySem.PyData.keyHash P (.ofString "__weakref__")),(.str (.ofString "__weakref__") 334),(.ref 114)⟩,⟨(PySem.PyData.keyHash P (.ofString "__doc__")),(.str (.ofString "__doc__") 335),.none⟩] 3),#[]⟩
noncomputable def o77 : Params → Obj := fun P => ⟨(.type "type"),none,(.cls ⟨(.ofString "MillError"),[(.type "Exception")],[(.ref 113),(.type "Exception"),(.type "BaseException"),(.type "object")],112,(.ofString "MillError"),true,[],[],false,none,false⟩),#[(some (.ref 97)),none,(some (.str (.ofString "MillError") 311)),(some (.str (.ofString "MillError") 319)),(some (.builtin "Exception.__new__")),(some (.bool true))]⟩
noncomputable def o78 : Params → Obj := fun P => ⟨(.type "getset_descriptor"),none,(.fields #[(.str (.ofString "__weakref__") 333),(.ref 113),(.builtin "ExceptionGroup.__weakref__"),.none]),#[]⟩
noncomputable def o79 : Params → Obj := fun P => ⟨(.type "super"),none,(.fields #[(.ref 113),(.ref 113),(.ref 113)]),#[]⟩
noncomputable def o80 : Params → Obj := fun P => ⟨(.type "builtin_function_or_method"),none,(.fields #[(.builtin "object.__init_subclass__"),(.ref 113)]),#[]⟩
noncomputable def t88 : Params → BT := fun P => .node (o63 P) .nil .nil
noncomputable def t89 : Params → BT := fun P => .node (o23 P) (t13 P) (t88 P)
noncomputable def t90 : Params → BT := fun P => .node (o75 P) .nil .nil
noncomputable def t91 : Params → BT := fun P => .node (o32 P) (t0 P) (t90 P)
noncomputable def t92 : Params → BT := fun P => .node (boot_o_7 P) (t89 P) (t91 P)
noncomputable def t93 : Params → BT := fun P => .node (o70 P) .nil .nil
noncomputable def t94 : Params → BT := fun P => .node (boot_o_7 P) (t17 P) (t93 P)
noncomputable def t95 : Params → BT := fun P => .node (boot_o_8 P) (t94 P) (t20 P)
noncomputable def t96 : Params → BT := fun P => .node (boot_o_7 P) (t92 P) (t95 P)
noncomputable def t97 : Params → BT := fun P => .node (o67 P) .nil .nil
noncomputable def t98 : Params → BT := fun P => .node (o26 P) (t23 P) (t97 P)
noncomputable def t99 : Params → BT := fun P => .node (o79 P) .nil .nil
noncomputable def t100 : Params → BT := fun P => .node (boot_o_8 P) (t0 P) (t99 P)
noncomputable def t101 : Params → BT := fun P => .node (o16 P) (t98 P) (t100 P)
noncomputable def t102 : Params → BT := fun P => .node (boot_o_7 P) (t27 P) (t0 P)
noncomputable def t103 : Params → BT := fun P => .node (o39 P) (t6 P) .nil
noncomputable def t104 : Params → BT := fun P => .node (o21 P) (t102 P) (t103 P)
noncomputable def t105 : Params → BT := fun P => .node (boot_o_7 P) (t101 P) (t104 P)
noncomputable def t106 : Params → BT := fun P => .node (o59 P) (t96 P) (t105 P)
noncomputable def t107 : Params → BT := fun P => .node (o65 P) .nil .nil
noncomputable def t108 : Params → BT := fun P => .node (o24 P) (t6 P) (t107 P)
noncomputable def t109 : Params → BT := fun P => .node (o77 P) .nil .nil
noncomputable def t110 : Params → BT := fun P => .node (o34 P) (t34 P) (t109 P)
noncomputable def t111 : Params → BT := fun P => .node (o15 P) (t108 P) (t110 P)
noncomputable def t112 : Params → BT := fun P => .node (o29 P) (t37 P) (t6 P)
noncomputable def t113 : Params → BT := fun P => .node (boot_o_7 P) (t112 P) (t40 P)
noncomputable def t114 : Params → BT := fun P => .node (boot_o_9 P) (t111 P) (t113 P)
noncomputable def t115 : Params → BT := fun P => .node (o68 P) .nil .nil
noncomputable def t116 : Params → BT := fun P => .node (boot_o_8 P) (t0 P) (t115 P)
noncomputable def t117 : Params → BT := fun P => .node (o18 P) (t116 P) (t44 P)
noncomputable def t118 : Params → BT := fun P => .node (o73 P) .nil .nil
noncomputable def t119 : Params → BT := fun P => .node (o31 P) (t6 P) (t118 P)
noncomputable def t120 : Params → BT := fun P => .node (o40 P) (t0 P) .nil
noncomputable def t121 : Params → BT := fun P => .node (boot_o_7 P) (t119 P) (t120 P)
noncomputable def t122 : Params → BT := fun P => .node (o11 P) (t117 P) (t121 P)
noncomputable def t123 : Params → BT := fun P => .node (boot_o_5 P) (t114 P) (t122 P)
noncomputable def t124 : Params → BT := fun P => .node (boot_o_1 P) (t106 P) (t123 P)
noncomputable def t125 : Params → BT := fun P => .node (o64 P) .nil .nil
noncomputable def t126 : Params → BT := fun P => .node (boot_o_7 P) (t0 P) (t125 P)
noncomputable def t127 : Params → BT := fun P => .node (o76 P) .nil .nil
noncomputable def t128 : Params → BT := fun P => .node (o33 P) (t53 P) (t127 P)
noncomputable def t129 : Params → BT := fun P => .node (boot_o_8 P) (t126 P) (t128 P)
noncomputable def t130 : Params → BT := fun P => .node (o28 P) (t0 P) (t0 P)
noncomputable def t131 : Params → BT := fun P => .node (o19 P) (t130 P) (t58 P)
noncomputable def t132 : Params → BT := fun P => .node (boot_o_8 P) (t129 P) (t131 P)
noncomputable def t133 : Params → BT := fun P => .node (boot_o_7 P) (t61 P) (t0 P)
noncomputable def t134 : Params → BT := fun P => .node (o80 P) .nil .nil
noncomputable def t135 : Params → BT := fun P => .node (o35 P) (t6 P) (t134 P)
noncomputable def t136 : Params → BT := fun P => .node (o17 P) (t133 P) (t135 P)
noncomputable def t137 : Params → BT := fun P => .node (o72 P) .nil .nil
noncomputable def t138 : Params → BT := fun P => .node (boot_o_8 P) (t0 P) (t137 P)
noncomputable def t139 : Params → BT := fun P => .node (o61 P) .nil .nil
noncomputable def t140 : Params → BT := fun P => .node (boot_o_7 P) (t139 P) .nil
noncomputable def t141 : Params → BT := fun P => .node (o22 P) (t138 P) (t140 P)
noncomputable def t142 : Params → BT := fun P => .node (o60 P) (t136 P) (t141 P)
noncomputable def t143 : Params → BT := fun P => .node (boot_o_4 P) (t132 P) (t142 P)
noncomputable def t144 : Params → BT := fun P => .node (o66 P) .nil .nil
noncomputable def t145 : Params → BT := fun P => .node (o25 P) (t68 P) (t144 P)
noncomputable def t146 : Params → BT := fun P => .node (o78 P) .nil .nil
noncomputable def t147 : Params → BT := fun P => .node (boot_o_7 P) (t70 P) (t146 P)
noncomputable def t148 : Params → BT := fun P => .node (boot_o_7 P) (t145 P) (t147 P)
noncomputable def t149 : Params → BT := fun P => .node (o71 P) .nil .nil
noncomputable def t150 : Params → BT := fun P => .node (o30 P) (t73 P) (t149 P)
noncomputable def t151 : Params → BT := fun P => .node (o20 P) (t150 P) (t25 P)
noncomputable def t152 : Params → BT := fun P => .node (boot_o_10 P) (t148 P) (t151 P)
noncomputable def t153 : Params → BT := fun P => .node (o69 P) .nil .nil
noncomputable def t154 : Params → BT := fun P => .node (o27 P) (t6 P) (t153 P)
noncomputable def t155 : Params → BT := fun P => .node (boot_o_7 P) (t154 P) (t78 P)
noncomputable def t156 : Params → BT := fun P => .node (o74 P) .nil .nil
noncomputable def t157 : Params → BT := fun P => .node (boot_o_7 P) (t80 P) (t156 P)
noncomputable def t158 : Params → BT := fun P => .node (o62 P) .nil .nil
noncomputable def t159 : Params → BT := fun P => .node (o41 P) (t158 P) .nil
noncomputable def t160 : Params → BT := fun P => .node (boot_o_8 P) (t157 P) (t159 P)
noncomputable def t161 : Params → BT := fun P => .node (o12 P) (t155 P) (t160 P)
noncomputable def t162 : Params → BT := fun P => .node (boot_o_6 P) (t152 P) (t161 P)
noncomputable def t163 : Params → BT := fun P => .node (o58 P) (t143 P) (t162 P)
noncomputable def t164 : Params → BT := fun P => .node (boot_o_0 P) (t124 P) (t163 P)
noncomputable def o81 : Params → Obj := fun P => ⟨(.type "dict"),none,(.dict #[⟨(PySem.PyData.keyHash P (.ofString "__name__")),(.str (.ofString "__name__") 165),(.str (.ofString "outlinemill.hint_rounds") 356)⟩,⟨(PySem.PyData.keyHash P (.ofString "__doc__")),(.str (.ofString "__doc__") 166),.none⟩,⟨(PySem.PyData.keyHash P (.ofString "__package__")),(.str (.ofString "__package__") 167),.none⟩,⟨(PySem.PyData.keyHash P (.ofString "__loader__")),(.str (.ofString "__loader__") 168),(.builtin "__main__.__loader__#\x6fpaque")⟩,⟨(PySem.PyData.keyHash P (.ofString "__spec__")),(.str (.ofString "__spec__") 169),.none⟩,⟨(PySem.PyData.keyHash P (.ofString "__annotations__")),(.str (.ofString "__annotations__") 170),(.ref 6)⟩,⟨(PySem.PyData.keyHash P (.ofString "__builtins__")),(.str (.ofString "__builtins__") 171),(.ref 4)⟩,⟨(PySem.PyData.keyHash P (.ofString "__file__")),(.str (.ofString "__file__") 173),(.str (.ofString "/claim/cut.py") 172)⟩,⟨(PySem.PyData.keyHash P (.ofString "__cached__")),(.str (.ofString "__cached__") 174),.none⟩,⟨(PySem.PyData.keyHash P (.ofString "_wall")),(.str (.ofString "_wall") 193),(.ref 21)⟩,⟨(PySem.PyData.keyHash P (.ofString "ONE14")),(.str (.ofString "ONE14") 197),(.int 16384 196)⟩,⟨(PySem.PyData.keyHash P (.ofString "muldiv")),(.str (.ofString "muldiv") 207),(.ref 28)⟩,⟨(PySem.PyData.keyHash P (.ofString "wrap32")),(.str (.ofString "wrap32") 214),(.ref 35)⟩,⟨(PySem.PyData.keyHash P (.ofString "drawn_place")),(.str (.ofString "drawn_place") 225),(.ref 42)⟩,⟨(PySem.PyData.keyHash P (.ofString "put_part")),(.str (.ofString "put_part") 237),(.ref 49)⟩,⟨(PySem.PyData.keyHash P (.ofString "pair_of")),(.str (.ofString "pair_of") 246),(.ref 56)⟩,⟨(PySem.PyData.keyHash P (.ofString "draw_between")),(.str (.ofString "draw_between") 260),(.ref 63)⟩,⟨(PySem.PyData.keyHash P (.ofString "draw_contour")),(.str (.ofString "draw_contour") 266),(.ref 68)⟩,⟨(PySem.PyData.keyHash P (.ofString "touch")),(.str (.ofString "touch") 277),(.ref 75)⟩,⟨(PySem.PyData.keyHash P (.ofString "shifted")),(.str (.ofString "shifted") 290),(.ref 82)⟩,⟨(PySem.PyData.keyHash P (.ofString "axis_of")),(.str (.ofString "axis_of") 299),(.ref 89)⟩,⟨(PySem.PyData.keyHash P (.ofString "do_axes")),(.str (.ofString "do_axes") 308),(.ref 96)⟩,⟨(PySem.PyData.keyHash P (.ofString "MillError")),(.str (.ofString "MillError") 339),(.ref 113)⟩,⟨(PySem.PyData.keyHash P (.ofString "HintFault")),(.str (.ofString "HintFault") 355),(.ref 126)⟩] 24),#[]⟩
noncomputable def o82 : Params → Obj := fun P => ⟨.none,none,(.fields #[(.int 1 0),(.int 0 0),(.ref 20),(.int 6 0),(.int 0 0),(.ref 27),(.int 13 0),(.int 0 0),(.ref 34),(.int 16 0),(.int 0 0),(.ref 41),(.int 22 0),(.int 0 0),(.ref 48),(.int 25 0),(.int 0 0),(.ref 55),(.int 27 0),(.int 0 0),(.ref 62),(.int 33 0),(.int 0 0),(.ref 67),(.int 46 0),(.int 0 0),(.ref 74),(.int 51 0),(.int 0 0),(.ref 81),(.int 61 0),(.int 0 0),(.ref 88),(.int 63 0),(.int 0 0),(.ref 95),(.int 71 0),(.int 0 0),(.ref 102),(.int 75 0),(.int 0 0),(.ref 122)]),#[]⟩
noncomputable def o83 : Params → Obj := fun P => ⟨(.type "type"),none,(.cls ⟨(.ofString "MillError"),[(.type "Exception")],[(.ref 113),(.type "Exception"),(.type "BaseException"),(.type "object")],112,(.ofString "MillError"),true,[],[(.ref 126)],false,none,false⟩),#[(some (.ref 97)),none,(some (.str (.ofString "MillError") 311)),(some (.str (.ofString "MillError") 319)),(some (.builtin "Exception.__new__")),(some (.bool true))]⟩
noncomputable def o84 : Params → Obj := fun P => ⟨(.type "tuple"),none,(.seq #[(.ref 113)] 0),#[]⟩
noncomputable def o85 : Params → Obj := fun P => ⟨(.type "dict"),none,(.dict #[⟨(PySem.PyData.keyHash P (.ofString "__module__")),(.str (.ofString "__module__") 347),(.str (.ofString "outlinemill.errors") 309)⟩,⟨(PySem.PyData.keyHash P (.ofString "__qualname__")),(.str (.ofString "__qualname__") 349),(.str (.ofString "HintFault") 348)⟩,⟨(PySem.PyData.keyHash P (.ofString "__firstlineno__")),(.str (.ofString "__firstlineno__") 351),(.int 75 350)⟩,⟨(PySem.PyData.keyHash P (.ofString "__static_attributes__")),(.str (.ofString "__static_attributes__") 352),(.ref 124)⟩] 4),#[]⟩
noncomputable def o86 : Params → Obj := fun P => ⟨(.type "code"),none,(.fields #[(.str (.ofString "HintFault") 342),(.str (.ofString "HintFault") 343),(.str (.ofString "/claim/cut.py") 344),(.int 75 0),(.int 0 0),(.int 0 0),(.int 0 0),(.int 0 0),(.ref 120),(.bool false),(.int 181 0),(.ref 121),.none,.none,.none,.none,(.int 345 0),(.int 75 0),(.str (.ofString "/claim/cut.py") 346)]),#[]⟩
noncomputable def o87 : Params → Obj := fun P => ⟨(.type "frame"),none,.plain,#[(some (.ref 122)),(some (.ref 3)),(some (.ref 119)),none,(some (.str (.ofString "outlinemill.errors") 309)),none,(some (.ref 0))]⟩
noncomputable def o88 : Params → Obj := fun P => ⟨(.type "dict"),none,(.dict #[⟨(PySem.PyData.keyHash P (.ofString "__module__")),(.str (.ofString "__module__") 347),(.str (.ofString "outlinemill.errors") 309)⟩,⟨(PySem.PyData.keyHash P (.ofString "__firstlineno__")),(.str (.ofString "__firstlineno__") 351),(.int 75 350)⟩,⟨(PySem.PyData.keyHash P (.ofString "__static_attributes__")),(.str (.ofString "__static_attributes__") 352),(.ref 124)⟩,⟨(PySem.PyData.keyHash P (.ofString "__doc__")),(.str (.ofString "__doc__") 353),.none⟩] 2),#[]⟩
noncomputable def o89 : Params → Obj := fun P => ⟨(.type "type"),none,(.cls ⟨(.ofString "HintFault"),[(.ref 113)],[(.ref 126),(.ref 113),(.type "Exception"),(.type "BaseException"),(.type "object")],125,(.ofString "HintFault"),true,[],[],false,none,false⟩),#[(some (.ref 117)),none,(some (.str (.ofString "HintFault") 340)),(some (.str (.ofString "HintFault") 348)),(some (.builtin "Exception.__new__")),(some (.bool true))]⟩
noncomputable def o90 : Params → Obj := fun P => ⟨(.type "super"),none,(.fields #[(.ref 126),(.ref 126),(.ref 126)]),#[]⟩
noncomputable def o91 : Params → Obj := fun P => ⟨(.type "builtin_function_or_method"),none,(.fields #[(.builtin "object.__init_subclass__"),(.ref 126)]),#[]⟩
noncomputable def t165 : Params → BT := fun P => .node (o90 P) .nil .nil
noncomputable def t166 : Params → BT := fun P => .node (o42 P) (t165 P) .nil
noncomputable def t167 : Params → BT := fun P => .node (o23 P) (t166 P) (t88 P)
noncomputable def t168 : Params → BT := fun P => .node (boot_o_7 P) (t167 P) (t91 P)
noncomputable def t169 : Params → BT := fun P => .node (o85 P) .nil .nil
noncomputable def t170 : Params → BT := fun P => .node (o37 P) (t19 P) (t169 P)
noncomputable def t171 : Params → BT := fun P => .node (boot_o_8 P) (t94 P) (t170 P)
noncomputable def t172 : Params → BT := fun P => .node (boot_o_7 P) (t168 P) (t171 P)
noncomputable def t173 : Params → BT := fun P => .node (o87 P) .nil .nil
noncomputable def t174 : Params → BT := fun P => .node (o39 P) (t6 P) (t173 P)
noncomputable def t175 : Params → BT := fun P => .node (o21 P) (t102 P) (t174 P)
noncomputable def t176 : Params → BT := fun P => .node (boot_o_7 P) (t101 P) (t175 P)
noncomputable def t177 : Params → BT := fun P => .node (o81 P) (t172 P) (t176 P)
noncomputable def t178 : Params → BT := fun P => .node (o83 P) .nil .nil
noncomputable def t179 : Params → BT := fun P => .node (o34 P) (t34 P) (t178 P)
noncomputable def t180 : Params → BT := fun P => .node (o15 P) (t108 P) (t179 P)
noncomputable def t181 : Params → BT := fun P => .node (boot_o_7 P) (t39 P) (t6 P)
noncomputable def t182 : Params → BT := fun P => .node (boot_o_7 P) (t112 P) (t181 P)
noncomputable def t183 : Params → BT := fun P => .node (boot_o_9 P) (t180 P) (t182 P)
noncomputable def t184 : Params → BT := fun P => .node (o84 P) .nil .nil
noncomputable def t185 : Params → BT := fun P => .node (boot_o_7 P) (t43 P) (t184 P)
noncomputable def t186 : Params → BT := fun P => .node (o18 P) (t116 P) (t185 P)
noncomputable def t187 : Params → BT := fun P => .node (o88 P) .nil .nil
noncomputable def t188 : Params → BT := fun P => .node (o40 P) (t0 P) (t187 P)
noncomputable def t189 : Params → BT := fun P => .node (boot_o_7 P) (t119 P) (t188 P)
noncomputable def t190 : Params → BT := fun P => .node (o11 P) (t186 P) (t189 P)
noncomputable def t191 : Params → BT := fun P => .node (boot_o_5 P) (t183 P) (t190 P)
noncomputable def t192 : Params → BT := fun P => .node (boot_o_1 P) (t177 P) (t191 P)
noncomputable def t193 : Params → BT := fun P => .node (o91 P) .nil .nil
noncomputable def t194 : Params → BT := fun P => .node (boot_o_7 P) (t193 P) .nil
noncomputable def t195 : Params → BT := fun P => .node (boot_o_7 P) (t194 P) (t125 P)
noncomputable def t196 : Params → BT := fun P => .node (boot_o_8 P) (t195 P) (t128 P)
noncomputable def t197 : Params → BT := fun P => .node (o38 P) (t57 P) (t0 P)
noncomputable def t198 : Params → BT := fun P => .node (o19 P) (t130 P) (t197 P)
noncomputable def t199 : Params → BT := fun P => .node (boot_o_8 P) (t196 P) (t198 P)
noncomputable def t200 : Params → BT := fun P => .node (boot_o_7 P) (t139 P) (t0 P)
noncomputable def t201 : Params → BT := fun P => .node (o22 P) (t138 P) (t200 P)
noncomputable def t202 : Params → BT := fun P => .node (o82 P) (t136 P) (t201 P)
noncomputable def t203 : Params → BT := fun P => .node (boot_o_4 P) (t199 P) (t202 P)
noncomputable def t204 : Params → BT := fun P => .node (o86 P) .nil .nil
noncomputable def t205 : Params → BT := fun P => .node (boot_o_8 P) (t0 P) (t204 P)
noncomputable def t206 : Params → BT := fun P => .node (o20 P) (t150 P) (t205 P)
noncomputable def t207 : Params → BT := fun P => .node (boot_o_10 P) (t148 P) (t206 P)
noncomputable def t208 : Params → BT := fun P => .node (o36 P) (t0 P) (t144 P)
noncomputable def t209 : Params → BT := fun P => .node (boot_o_7 P) (t154 P) (t208 P)
noncomputable def t210 : Params → BT := fun P => .node (o89 P) .nil .nil
noncomputable def t211 : Params → BT := fun P => .node (o41 P) (t158 P) (t210 P)
noncomputable def t212 : Params → BT := fun P => .node (boot_o_8 P) (t157 P) (t211 P)
noncomputable def t213 : Params → BT := fun P => .node (o12 P) (t209 P) (t212 P)
noncomputable def t214 : Params → BT := fun P => .node (boot_o_6 P) (t207 P) (t213 P)
noncomputable def t215 : Params → BT := fun P => .node (o58 P) (t203 P) (t214 P)
noncomputable def t216 : Params → BT := fun P => .node (boot_o_0 P) (t192 P) (t215 P)
noncomputable def o92 : Params → Obj := fun P => ⟨(.type "dict"),none,(.dict #[⟨(PySem.PyData.keyHash P (.ofString "__name__")),(.str (.ofString "__name__") 165),(.str (.ofString "outlinemill.hint_state") 409)⟩,⟨(PySem.PyData.keyHash P (.ofString "__doc__")),(.str (.ofString "__doc__") 166),.none⟩,⟨(PySem.PyData.keyHash P (.ofString "__package__")),(.str (.ofString "__package__") 167),.none⟩,⟨(PySem.PyData.keyHash P (.ofString "__loader__")),(.str (.ofString "__loader__") 168),(.builtin "__main__.__loader__#\x6fpaque")⟩,⟨(PySem.PyData.keyHash P (.ofString "__spec__")),(.str (.ofString "__spec__") 169),.none⟩,⟨(PySem.PyData.keyHash P (.ofString "__annotations__")),(.str (.ofString "__annotations__") 170),(.ref 6)⟩,⟨(PySem.PyData.keyHash P (.ofString "__builtins__")),(.str (.ofString "__builtins__") 171),(.ref 4)⟩,⟨(PySem.PyData.keyHash P (.ofString "__file__")),(.str (.ofString "__file__") 173),(.str (.ofString "/claim/cut.py") 172)⟩,⟨(PySem.PyData.keyHash P (.ofString "__cached__")),(.str (.ofString "__cached__") 174),.none⟩,⟨(PySem.PyData.keyHash P (.ofString "_wall")),(.str (.ofString "_wall") 193),(.ref 21)⟩,⟨(PySem.PyData.keyHash P (.ofString "ONE14")),(.str (.ofString "ONE14") 197),(.int 16384 196)⟩,⟨(PySem.PyData.keyHash P (.ofString "muldiv")),(.str (.ofString "muldiv") 207),(.ref 28)⟩,⟨(PySem.PyData.keyHash P (.ofString "wrap32")),(.str (.ofString "wrap32") 214),(.ref 35)⟩,⟨(PySem.PyData.keyHash P (.ofString "drawn_place")),(.str (.ofString "drawn_place") 225),(.ref 42)⟩,⟨(PySem.PyData.keyHash P (.ofString "put_part")),(.str (.ofString "put_part") 237),(.ref 49)⟩,⟨(PySem.PyData.keyHash P (.ofString "pair_of")),(.str (.ofString "pair_of") 246),(.ref 56)⟩,⟨(PySem.PyData.keyHash P (.ofString "draw_between")),(.str (.ofString "draw_between") 260),(.ref 63)⟩,⟨(PySem.PyData.keyHash P (.ofString "draw_contour")),(.str (.ofString "draw_contour") 266),(.ref 68)⟩,⟨(PySem.PyData.keyHash P (.ofString "touch")),(.str (.ofString "touch") 277),(.ref 75)⟩,⟨(PySem.PyData.keyHash P (.ofString "shifted")),(.str (.ofString "shifted") 290),(.ref 82)⟩,⟨(PySem.PyData.keyHash P (.ofString "axis_of")),(.str (.ofString "axis_of") 299),(.ref 89)⟩,⟨(PySem.PyData.keyHash P (.ofString "do_axes")),(.str (.ofString "do_axes") 308),(.ref 96)⟩,⟨(PySem.PyData.keyHash P (.ofString "MillError")),(.str (.ofString "MillError") 339),(.ref 113)⟩,⟨(PySem.PyData.keyHash P (.ofString "HintFault")),(.str (.ofString "HintFault") 355),(.ref 126)⟩,⟨(PySem.PyData.keyHash P (.ofString "Rounding")),(.str (.ofString "Rounding") 397),(.ref 152)⟩,⟨(PySem.PyData.keyHash P (.ofString "named")),(.str (.ofString "named") 408),(.ref 163)⟩] 26),#[]⟩
noncomputable def o93 : Params → Obj := fun P => ⟨.none,none,(.fields #[(.int 1 0),(.int 0 0),(.ref 20),(.int 6 0),(.int 0 0),(.ref 27),(.int 13 0),(.int 0 0),(.ref 34),(.int 16 0),(.int 0 0),(.ref 41),(.int 22 0),(.int 0 0),(.ref 48),(.int 25 0),(.int 0 0),(.ref 55),(.int 27 0),(.int 0 0),(.ref 62),(.int 33 0),(.int 0 0),(.ref 67),(.int 46 0),(.int 0 0),(.ref 74),(.int 51 0),(.int 0 0),(.ref 81),(.int 61 0),(.int 0 0),(.ref 88),(.int 63 0),(.int 0 0),(.ref 95),(.int 71 0),(.int 0 0),(.ref 102),(.int 75 0),(.int 0 0),(.ref 122),(.int 78 0),(.int 0 0),(.ref 134),(.int 87 0),(.int 0 0),(.ref 162)]),#[]⟩
noncomputable def o94 : Params → Obj := fun P => ⟨(.type "dict"),none,(.dict #[⟨(PySem.PyData.keyHash P (.ofString "__module__")),(.str (.ofString "__module__") 365),(.str (.ofString "outlinemill.hint_rounds") 356)⟩,⟨(PySem.PyData.keyHash P (.ofString "__qualname__")),(.str (.ofString "__qualname__") 367),(.str (.ofString "Rounding") 366)⟩,⟨(PySem.PyData.keyHash P (.ofString "__firstlineno__")),(.str (.ofString "__firstlineno__") 369),(.int 78 368)⟩,⟨(PySem.PyData.keyHash P (.ofString "__init__")),(.str (.ofString "__init__") 379),(.ref 142)⟩,⟨(PySem.PyData.keyHash P (.ofString "row")),(.str (.ofString "row") 386),(.ref 149)⟩,⟨(PySem.PyData.keyHash P (.ofString "__static_attributes__")),(.str (.ofString "__static_attributes__") 390),(.ref 150)⟩] 6),#[]⟩
noncomputable def o95 : Params → Obj := fun P => ⟨.none,none,(.fields #[(.int 80 0),(.int 4 0),(.ref 141),(.int 85 0),(.int 4 0),(.ref 148)]),#[]⟩
noncomputable def o96 : Params → Obj := fun P => ⟨(.type "code"),none,(.fields #[(.str (.ofString "Rounding") 360),(.str (.ofString "Rounding") 361),(.str (.ofString "/claim/cut.py") 362),(.int 78 0),(.int 0 0),(.int 0 0),(.int 0 0),(.int 0 0),(.ref 132),(.bool false),(.int 181 0),(.ref 133),.none,.none,.none,.none,(.int 363 0),(.int 78 0),(.str (.ofString "/claim/cut.py") 364)]),#[]⟩
noncomputable def o97 : Params → Obj := fun P => ⟨(.type "frame"),none,.plain,#[(some (.ref 134)),(some (.ref 3)),(some (.ref 131)),none,(some (.str (.ofString "outlinemill.hint_rounds") 356)),none,(some (.ref 0))]⟩
noncomputable def o98 : Params → Obj := fun P => ⟨(.type "tuple"),none,(.seq #[(.str (.ofString "self") 373),(.str (.ofString "period") 374),(.str (.ofString "phase") 375),(.str (.ofString "threshold") 376)] 0),#[]⟩
noncomputable def o99 : Params → Obj := by
  refine (?g : ∀ n a b d r t s ts bi q, stIn 21 0 = some (.FunctionDef n a b d r t s ts bi q) → Params → Obj) _ _ _ _ _ _ _ _ _ _ rfl
  exact fun n a b _ _ _ s _ _ _ _ P => ⟨.none,none,(.func ⟨(.ofString "__init__"),(.ofString "Rounding.__init__"),a,(.stmts b),s,0,[],.none,.none,.none,.none,none,.none,.none,0⟩),#[]⟩
noncomputable def o100 : Params → Obj := fun P => ⟨(.type "code"),none,(.fields #[(.str (.ofString "__init__") 370),(.str (.ofString "Rounding.__init__") 371),(.str (.ofString "/claim/cut.py") 372),(.int 80 0),(.int 4 0),(.int 0 0),(.int 0 0),(.int 3 0),(.ref 136),(.bool true),(.int 181 0),(.ref 137),.none,(.ref 138),(.ref 139),(.ref 140),(.int 377 0),(.int 80 0),(.str (.ofString "/claim/cut.py") 378)]),#[]⟩
noncomputable def o101 : Params → Obj := by
  refine (?g : ∀ n a b d r t s ts bi q, stIn 21 0 = some (.FunctionDef n a b d r t s ts bi q) → Params → Obj) _ _ _ _ _ _ _ _ _ _ rfl
  exact fun n a b _ _ _ s _ _ _ _ P => ⟨(.type "function"),none,(.func ⟨(.ofString "__init__"),(.ofString "Rounding.__init__"),a,(.stmts b),s,3,[],.none,.none,.none,(.str (.ofString "outlinemill.hint_rounds") 356),none,(.ref 141),.none,0⟩),#[]⟩
noncomputable def o102 : Params → Obj := fun P => ⟨(.type "tuple"),none,(.seq #[(.str (.ofString "self") 383)] 0),#[]⟩
noncomputable def o103 : Params → Obj := by
  refine (?g : ∀ n a b d r t s ts bi q, stIn 21 1 = some (.FunctionDef n a b d r t s ts bi q) → Params → Obj) _ _ _ _ _ _ _ _ _ _ rfl
  exact fun n a b _ _ _ s _ _ _ _ P => ⟨.none,none,(.func ⟨(.ofString "row"),(.ofString "Rounding.row"),a,(.stmts b),s,0,[],.none,.none,.none,.none,none,.none,.none,0⟩),#[]⟩
noncomputable def o104 : Params → Obj := fun P => ⟨(.type "code"),none,(.fields #[(.str (.ofString "row") 380),(.str (.ofString "Rounding.row") 381),(.str (.ofString "/claim/cut.py") 382),(.int 85 0),(.int 1 0),(.int 0 0),(.int 0 0),(.int 3 0),(.ref 143),(.bool true),(.int 181 0),(.ref 144),.none,(.ref 145),(.ref 146),(.ref 147),(.int 384 0),(.int 85 0),(.str (.ofString "/claim/cut.py") 385)]),#[]⟩
noncomputable def o105 : Params → Obj := by
  refine (?g : ∀ n a b d r t s ts bi q, stIn 21 1 = some (.FunctionDef n a b d r t s ts bi q) → Params → Obj) _ _ _ _ _ _ _ _ _ _ rfl
  exact fun n a b _ _ _ s _ _ _ _ P => ⟨(.type "function"),none,(.func ⟨(.ofString "row"),(.ofString "Rounding.row"),a,(.stmts b),s,3,[],.none,.none,.none,(.str (.ofString "outlinemill.hint_rounds") 356),none,(.ref 148),.none,0⟩),#[]⟩
noncomputable def o106 : Params → Obj := fun P => ⟨(.type "tuple"),none,(.seq #[(.str (.ofString "period") 387),(.str (.ofString "phase") 388),(.str (.ofString "threshold") 389)] 0),#[]⟩
noncomputable def o107 : Params → Obj := fun P => ⟨(.type "dict"),none,(.dict #[⟨(PySem.PyData.keyHash P (.ofString "__module__")),(.str (.ofString "__module__") 365),(.str (.ofString "outlinemill.hint_rounds") 356)⟩,⟨(PySem.PyData.keyHash P (.ofString "__firstlineno__")),(.str (.ofString "__firstlineno__") 369),(.int 78 368)⟩,⟨(PySem.PyData.keyHash P (.ofString "__init__")),(.str (.ofString "__init__") 379),(.ref 142)⟩,⟨(PySem.PyData.keyHash P (.ofString "row")),(.str (.ofString "row") 386),(.ref 149)⟩,⟨(PySem.PyData.keyHash P (.ofString "__static_attributes__")),(.str (.ofString "__static_attributes__") 390),(.ref 150)⟩,⟨(PySem.PyData.keyHash P (.ofString "__dict__")),(.str (.ofString "__dict__") 392),(.ref 153)⟩,⟨(PySem.PyData.keyHash P (.ofString "__weakref__")),(.str (.ofString "__weakref__") 394),(.ref 154)⟩,⟨(PySem.PyData.keyHash P (.ofString "__doc__")),(.str (.ofString "__doc__") 395),.none⟩] 4),#[]⟩
noncomputable def o108 : Params → Obj := fun P => ⟨(.type "type"),none,(.cls ⟨(.ofString "Rounding"),[(.type "object")],[(.ref 152),(.type "object")],151,(.ofString "Rounding"),true,[],[],false,none,false⟩),#[none,none,(some (.str (.ofString "Rounding") 358)),(some (.str (.ofString "Rounding") 366)),(some (.builtin "object.__new__")),(some (.bool true))]⟩
noncomputable def o109 : Params → Obj := fun P => ⟨(.type "getset_descriptor"),none,(.fields #[(.str (.ofString "__dict__") 391),(.ref 152),(.builtin "function.__dict__"),(.builtin "function.__dict__#set")]),#[]⟩
noncomputable def o110 : Params → Obj := fun P => ⟨(.type "getset_descriptor"),none,(.fields #[(.str (.ofString "__weakref__") 393),(.ref 152),(.builtin "ExceptionGroup.__weakref__"),.none]),#[]⟩
noncomputable def o111 : Params → Obj := fun P => ⟨(.type "super"),none,(.fields #[(.ref 152),(.ref 152),(.ref 152)]),#[]⟩
noncomputable def o112 : Params → Obj := fun P => ⟨(.type "builtin_function_or_method"),none,(.fields #[(.builtin "object.__init_subclass__"),(.ref 152)]),#[]⟩
noncomputable def o113 : Params → Obj := fun P => ⟨(.type "tuple"),none,(.seq #[(.str (.ofString "word") 401),(.str (.ofString "rows") 402),(.str (.ofString "period") 403),(.str (.ofString "phase") 404),(.str (.ofString "threshold") 405)] 0),#[]⟩
noncomputable def o114 : Params → Obj := by
  refine (?g : ∀ n a b d r t s ts bi q, pE.main.body[22]? = some (.FunctionDef n a b d r t s ts bi q) → Params → Obj) _ _ _ _ _ _ _ _ _ _ rfl
  exact fun n a b _ _ _ s _ _ _ _ P => ⟨.none,none,(.func ⟨(.ofString "named"),(.ofString "named"),a,(.stmts b),s,0,[],.none,.none,.none,.none,none,.none,.none,0⟩),#[]⟩
noncomputable def o115 : Params → Obj := fun P => ⟨(.type "code"),none,(.fields #[(.str (.ofString "named") 398),(.str (.ofString "named") 399),(.str (.ofString "/claim/cut.py") 400),(.int 87 0),(.int 1 0),(.int 0 0),(.int 0 0),(.int 3 0),(.ref 157),(.bool true),(.int 181 0),(.ref 158),.none,(.ref 159),(.ref 160),(.ref 161),(.int 406 0),(.int 87 0),(.str (.ofString "/claim/cut.py") 407)]),#[]⟩
noncomputable def o116 : Params → Obj := by
  refine (?g : ∀ n a b d r t s ts bi q, pE.main.body[22]? = some (.FunctionDef n a b d r t s ts bi q) → Params → Obj) _ _ _ _ _ _ _ _ _ _ rfl
  exact fun n a b _ _ _ s _ _ _ _ P => ⟨(.type "function"),none,(.func ⟨(.ofString "named"),(.ofString "named"),a,(.stmts b),s,3,[],.none,.none,.none,(.str (.ofString "outlinemill.hint_rounds") 356),none,(.ref 162),.none,0⟩),#[]⟩
noncomputable def t217 : Params → BT := fun P => .node (o113 P) .nil .nil
noncomputable def t218 : Params → BT := fun P => .node (o63 P) (t217 P) .nil
noncomputable def t219 : Params → BT := fun P => .node (o23 P) (t166 P) (t218 P)
noncomputable def t220 : Params → BT := fun P => .node (o32 P) (t52 P) (t90 P)
noncomputable def t221 : Params → BT := fun P => .node (boot_o_7 P) (t219 P) (t220 P)
noncomputable def t222 : Params → BT := fun P => .node (o97 P) .nil .nil
noncomputable def t223 : Params → BT := fun P => .node (o46 P) (t222 P) .nil
noncomputable def t224 : Params → BT := fun P => .node (boot_o_7 P) (t223 P) (t93 P)
noncomputable def t225 : Params → BT := fun P => .node (o107 P) .nil .nil
noncomputable def t226 : Params → BT := fun P => .node (o55 P) (t225 P) .nil
noncomputable def t227 : Params → BT := fun P => .node (o37 P) (t226 P) (t169 P)
noncomputable def t228 : Params → BT := fun P => .node (boot_o_8 P) (t224 P) (t227 P)
noncomputable def t229 : Params → BT := fun P => .node (boot_o_7 P) (t221 P) (t228 P)
noncomputable def t230 : Params → BT := fun P => .node (o94 P) .nil .nil
noncomputable def t231 : Params → BT := fun P => .node (o44 P) (t230 P) .nil
noncomputable def t232 : Params → BT := fun P => .node (o116 P) .nil .nil
noncomputable def t233 : Params → BT := fun P => .node (o67 P) (t232 P) .nil
noncomputable def t234 : Params → BT := fun P => .node (o26 P) (t231 P) (t233 P)
noncomputable def t235 : Params → BT := fun P => .node (o103 P) .nil .nil
noncomputable def t236 : Params → BT := fun P => .node (boot_o_7 P) (t235 P) .nil
noncomputable def t237 : Params → BT := fun P => .node (boot_o_8 P) (t236 P) (t99 P)
noncomputable def t238 : Params → BT := fun P => .node (o16 P) (t234 P) (t237 P)
noncomputable def t239 : Params → BT := fun P => .node (o49 P) (t0 P) .nil
noncomputable def t240 : Params → BT := fun P => .node (boot_o_7 P) (t239 P) (t0 P)
noncomputable def t241 : Params → BT := fun P => .node (o111 P) .nil .nil
noncomputable def t242 : Params → BT := fun P => .node (boot_o_8 P) (t241 P) .nil
noncomputable def t243 : Params → BT := fun P => .node (o39 P) (t242 P) (t173 P)
noncomputable def t244 : Params → BT := fun P => .node (o21 P) (t240 P) (t243 P)
noncomputable def t245 : Params → BT := fun P => .node (boot_o_7 P) (t238 P) (t244 P)
noncomputable def t246 : Params → BT := fun P => .node (o92 P) (t229 P) (t245 P)
noncomputable def t247 : Params → BT := fun P => .node (o114 P) .nil .nil
noncomputable def t248 : Params → BT := fun P => .node (o65 P) (t247 P) .nil
noncomputable def t249 : Params → BT := fun P => .node (o24 P) (t25 P) (t248 P)
noncomputable def t250 : Params → BT := fun P => .node (o102 P) .nil .nil
noncomputable def t251 : Params → BT := fun P => .node (o52 P) (t250 P) .nil
noncomputable def t252 : Params → BT := fun P => .node (o34 P) (t251 P) (t178 P)
noncomputable def t253 : Params → BT := fun P => .node (o15 P) (t249 P) (t252 P)
noncomputable def t254 : Params → BT := fun P => .node (o47 P) (t6 P) .nil
noncomputable def t255 : Params → BT := fun P => .node (o29 P) (t254 P) (t6 P)
noncomputable def t256 : Params → BT := fun P => .node (o109 P) .nil .nil
noncomputable def t257 : Params → BT := fun P => .node (o57 P) (t256 P) .nil
noncomputable def t258 : Params → BT := fun P => .node (boot_o_7 P) (t257 P) (t6 P)
noncomputable def t259 : Params → BT := fun P => .node (boot_o_7 P) (t255 P) (t258 P)
noncomputable def t260 : Params → BT := fun P => .node (boot_o_9 P) (t253 P) (t259 P)
noncomputable def t261 : Params → BT := fun P => .node (o95 P) .nil .nil
noncomputable def t262 : Params → BT := fun P => .node (boot_o_7 P) (t261 P) .nil
noncomputable def t263 : Params → BT := fun P => .node (boot_o_8 P) (t262 P) (t115 P)
noncomputable def t264 : Params → BT := fun P => .node (o105 P) .nil .nil
noncomputable def t265 : Params → BT := fun P => .node (o54 P) (t264 P) .nil
noncomputable def t266 : Params → BT := fun P => .node (boot_o_7 P) (t265 P) (t184 P)
noncomputable def t267 : Params → BT := fun P => .node (o18 P) (t263 P) (t266 P)
noncomputable def t268 : Params → BT := fun P => .node (o100 P) .nil .nil
noncomputable def t269 : Params → BT := fun P => .node (boot_o_8 P) (t268 P) .nil
noncomputable def t270 : Params → BT := fun P => .node (o31 P) (t269 P) (t118 P)
noncomputable def t271 : Params → BT := fun P => .node (o40 P) (t52 P) (t187 P)
noncomputable def t272 : Params → BT := fun P => .node (boot_o_7 P) (t270 P) (t271 P)
noncomputable def t273 : Params → BT := fun P => .node (o11 P) (t267 P) (t272 P)
noncomputable def t274 : Params → BT := fun P => .node (boot_o_5 P) (t260 P) (t273 P)
noncomputable def t275 : Params → BT := fun P => .node (boot_o_1 P) (t246 P) (t274 P)
noncomputable def t276 : Params → BT := fun P => .node (o64 P) (t0 P) .nil
noncomputable def t277 : Params → BT := fun P => .node (boot_o_7 P) (t194 P) (t276 P)
noncomputable def t278 : Params → BT := fun P => .node (o51 P) (t6 P) .nil
noncomputable def t279 : Params → BT := fun P => .node (o33 P) (t278 P) (t127 P)
noncomputable def t280 : Params → BT := fun P => .node (boot_o_8 P) (t277 P) (t279 P)
noncomputable def t281 : Params → BT := fun P => .node (o28 P) (t52 P) (t0 P)
noncomputable def t282 : Params → BT := fun P => .node (o108 P) .nil .nil
noncomputable def t283 : Params → BT := fun P => .node (o56 P) (t282 P) .nil
noncomputable def t284 : Params → BT := fun P => .node (o38 P) (t283 P) (t0 P)
noncomputable def t285 : Params → BT := fun P => .node (o19 P) (t281 P) (t284 P)
noncomputable def t286 : Params → BT := fun P => .node (boot_o_8 P) (t280 P) (t285 P)
noncomputable def t287 : Params → BT := fun P => .node (o45 P) (t0 P) .nil
noncomputable def t288 : Params → BT := fun P => .node (boot_o_7 P) (t287 P) (t0 P)
noncomputable def t289 : Params → BT := fun P => .node (o104 P) .nil .nil
noncomputable def t290 : Params → BT := fun P => .node (boot_o_8 P) (t289 P) .nil
noncomputable def t291 : Params → BT := fun P => .node (o35 P) (t290 P) (t134 P)
noncomputable def t292 : Params → BT := fun P => .node (o17 P) (t288 P) (t291 P)
noncomputable def t293 : Params → BT := fun P => .node (o99 P) .nil .nil
noncomputable def t294 : Params → BT := fun P => .node (boot_o_7 P) (t293 P) .nil
noncomputable def t295 : Params → BT := fun P => .node (boot_o_8 P) (t294 P) (t137 P)
noncomputable def t296 : Params → BT := fun P => .node (o112 P) .nil .nil
noncomputable def t297 : Params → BT := fun P => .node (o61 P) (t296 P) .nil
noncomputable def t298 : Params → BT := fun P => .node (boot_o_7 P) (t297 P) (t0 P)
noncomputable def t299 : Params → BT := fun P => .node (o22 P) (t295 P) (t298 P)
noncomputable def t300 : Params → BT := fun P => .node (o93 P) (t292 P) (t299 P)
noncomputable def t301 : Params → BT := fun P => .node (boot_o_4 P) (t286 P) (t300 P)
noncomputable def t302 : Params → BT := fun P => .node (o43 P) (t144 P) .nil
noncomputable def t303 : Params → BT := fun P => .node (o115 P) .nil .nil
noncomputable def t304 : Params → BT := fun P => .node (o66 P) (t303 P) .nil
noncomputable def t305 : Params → BT := fun P => .node (o25 P) (t302 P) (t304 P)
noncomputable def t306 : Params → BT := fun P => .node (o53 P) (t0 P) .nil
noncomputable def t307 : Params → BT := fun P => .node (boot_o_7 P) (t306 P) (t146 P)
noncomputable def t308 : Params → BT := fun P => .node (boot_o_7 P) (t305 P) (t307 P)
noncomputable def t309 : Params → BT := fun P => .node (o98 P) .nil .nil
noncomputable def t310 : Params → BT := fun P => .node (o48 P) (t309 P) .nil
noncomputable def t311 : Params → BT := fun P => .node (o30 P) (t310 P) (t149 P)
noncomputable def t312 : Params → BT := fun P => .node (o110 P) .nil .nil
noncomputable def t313 : Params → BT := fun P => .node (boot_o_7 P) (t312 P) .nil
noncomputable def t314 : Params → BT := fun P => .node (boot_o_8 P) (t313 P) (t204 P)
noncomputable def t315 : Params → BT := fun P => .node (o20 P) (t311 P) (t314 P)
noncomputable def t316 : Params → BT := fun P => .node (boot_o_10 P) (t308 P) (t315 P)
noncomputable def t317 : Params → BT := fun P => .node (o96 P) .nil .nil
noncomputable def t318 : Params → BT := fun P => .node (boot_o_8 P) (t317 P) .nil
noncomputable def t319 : Params → BT := fun P => .node (o27 P) (t318 P) (t153 P)
noncomputable def t320 : Params → BT := fun P => .node (o106 P) .nil .nil
noncomputable def t321 : Params → BT := fun P => .node (boot_o_7 P) (t320 P) .nil
noncomputable def t322 : Params → BT := fun P => .node (o36 P) (t321 P) (t144 P)
noncomputable def t323 : Params → BT := fun P => .node (boot_o_7 P) (t319 P) (t322 P)
noncomputable def t324 : Params → BT := fun P => .node (o101 P) .nil .nil
noncomputable def t325 : Params → BT := fun P => .node (o50 P) (t324 P) .nil
noncomputable def t326 : Params → BT := fun P => .node (boot_o_7 P) (t325 P) (t156 P)
noncomputable def t327 : Params → BT := fun P => .node (o62 P) (t6 P) .nil
noncomputable def t328 : Params → BT := fun P => .node (o41 P) (t327 P) (t210 P)
noncomputable def t329 : Params → BT := fun P => .node (boot_o_8 P) (t326 P) (t328 P)
noncomputable def t330 : Params → BT := fun P => .node (o12 P) (t323 P) (t329 P)
noncomputable def t331 : Params → BT := fun P => .node (boot_o_6 P) (t316 P) (t330 P)
noncomputable def t332 : Params → BT := fun P => .node (o58 P) (t301 P) (t331 P)
noncomputable def t333 : Params → BT := fun P => .node (boot_o_0 P) (t275 P) (t332 P)
noncomputable def o117 : Params → Obj := fun P => ⟨(.type "dict"),none,(.dict #[⟨(PySem.PyData.keyHash P (.ofString "__name__")),(.str (.ofString "__name__") 165),(.str (.ofString "outlinemill.hint_work") 488)⟩,⟨(PySem.PyData.keyHash P (.ofString "__doc__")),(.str (.ofString "__doc__") 166),.none⟩,⟨(PySem.PyData.keyHash P (.ofString "__package__")),(.str (.ofString "__package__") 167),.none⟩,⟨(PySem.PyData.keyHash P (.ofString "__loader__")),(.str (.ofString "__loader__") 168),(.builtin "__main__.__loader__#\x6fpaque")⟩,⟨(PySem.PyData.keyHash P (.ofString "__spec__")),(.str (.ofString "__spec__") 169),.none⟩,⟨(PySem.PyData.keyHash P (.ofString "__annotations__")),(.str (.ofString "__annotations__") 170),(.ref 6)⟩,⟨(PySem.PyData.keyHash P (.ofString "__builtins__")),(.str (.ofString "__builtins__") 171),(.ref 4)⟩,⟨(PySem.PyData.keyHash P (.ofString "__file__")),(.str (.ofString "__file__") 173),(.str (.ofString "/claim/cut.py") 172)⟩,⟨(PySem.PyData.keyHash P (.ofString "__cached__")),(.str (.ofString "__cached__") 174),.none⟩,⟨(PySem.PyData.keyHash P (.ofString "_wall")),(.str (.ofString "_wall") 193),(.ref 21)⟩,⟨(PySem.PyData.keyHash P (.ofString "ONE14")),(.str (.ofString "ONE14") 197),(.int 16384 196)⟩,⟨(PySem.PyData.keyHash P (.ofString "muldiv")),(.str (.ofString "muldiv") 207),(.ref 28)⟩,⟨(PySem.PyData.keyHash P (.ofString "wrap32")),(.str (.ofString "wrap32") 214),(.ref 35)⟩,⟨(PySem.PyData.keyHash P (.ofString "drawn_place")),(.str (.ofString "drawn_place") 225),(.ref 42)⟩,⟨(PySem.PyData.keyHash P (.ofString "put_part")),(.str (.ofString "put_part") 237),(.ref 49)⟩,⟨(PySem.PyData.keyHash P (.ofString "pair_of")),(.str (.ofString "pair_of") 246),(.ref 56)⟩,⟨(PySem.PyData.keyHash P (.ofString "draw_between")),(.str (.ofString "draw_between") 260),(.ref 63)⟩,⟨(PySem.PyData.keyHash P (.ofString "draw_contour")),(.str (.ofString "draw_contour") 266),(.ref 68)⟩,⟨(PySem.PyData.keyHash P (.ofString "touch")),(.str (.ofString "touch") 277),(.ref 75)⟩,⟨(PySem.PyData.keyHash P (.ofString "shifted")),(.str (.ofString "shifted") 290),(.ref 82)⟩,⟨(PySem.PyData.keyHash P (.ofString "axis_of")),(.str (.ofString "axis_of") 299),(.ref 89)⟩,⟨(PySem.PyData.keyHash P (.ofString "do_axes")),(.str (.ofString "do_axes") 308),(.ref 96)⟩,⟨(PySem.PyData.keyHash P (.ofString "MillError")),(.str (.ofString "MillError") 339),(.ref 113)⟩,⟨(PySem.PyData.keyHash P (.ofString "HintFault")),(.str (.ofString "HintFault") 355),(.ref 126)⟩,⟨(PySem.PyData.keyHash P (.ofString "Rounding")),(.str (.ofString "Rounding") 397),(.ref 152)⟩,⟨(PySem.PyData.keyHash P (.ofString "named")),(.str (.ofString "named") 408),(.ref 163)⟩,⟨(PySem.PyData.keyHash P (.ofString "GraphicsState")),(.str (.ofString "GraphicsState") 487),(.ref 208)⟩] 27),#[]⟩
noncomputable def o118 : Params → Obj := fun P => ⟨.none,none,(.fields #[(.int 1 0),(.int 0 0),(.ref 20),(.int 6 0),(.int 0 0),(.ref 27),(.int 13 0),(.int 0 0),(.ref 34),(.int 16 0),(.int 0 0),(.ref 41),(.int 22 0),(.int 0 0),(.ref 48),(.int 25 0),(.int 0 0),(.ref 55),(.int 27 0),(.int 0 0),(.ref 62),(.int 33 0),(.int 0 0),(.ref 67),(.int 46 0),(.int 0 0),(.ref 74),(.int 51 0),(.int 0 0),(.ref 81),(.int 61 0),(.int 0 0),(.ref 88),(.int 63 0),(.int 0 0),(.ref 95),(.int 71 0),(.int 0 0),(.ref 102),(.int 75 0),(.int 0 0),(.ref 122),(.int 78 0),(.int 0 0),(.ref 134),(.int 87 0),(.int 0 0),(.ref 162),(.int 94 0),(.int 0 0),(.ref 169)]),#[]⟩
noncomputable def o119 : Params → Obj := fun P => ⟨(.type "dict"),none,(.dict #[⟨(PySem.PyData.keyHash P (.ofString "__module__")),(.str (.ofString "__module__") 418),(.str (.ofString "outlinemill.hint_state") 409)⟩,⟨(PySem.PyData.keyHash P (.ofString "__qualname__")),(.str (.ofString "__qualname__") 420),(.str (.ofString "GraphicsState") 419)⟩,⟨(PySem.PyData.keyHash P (.ofString "__firstlineno__")),(.str (.ofString "__firstlineno__") 422),(.int 94 421)⟩,⟨(PySem.PyData.keyHash P (.ofString "__init__")),(.str (.ofString "__init__") 429),(.ref 177)⟩,⟨(PySem.PyData.keyHash P (.ofString "free_dot")),(.str (.ofString "free_dot") 436),(.ref 184)⟩,⟨(PySem.PyData.keyHash P (.ofString "projected")),(.str (.ofString "projected") 445),(.ref 191)⟩,⟨(PySem.PyData.keyHash P (.ofString "dual_projected")),(.str (.ofString "dual_projected") 454),(.ref 198)⟩,⟨(PySem.PyData.keyHash P (.ofString "row")),(.str (.ofString "row") 461),(.ref 205)⟩,⟨(PySem.PyData.keyHash P (.ofString "__static_attributes__")),(.str (.ofString "__static_attributes__") 480),(.ref 206)⟩] 9),#[]⟩
noncomputable def o120 : Params → Obj := fun P => ⟨.none,none,(.fields #[(.int 96 0),(.int 4 0),(.ref 176),(.int 116 0),(.int 4 0),(.ref 183),(.int 119 0),(.int 4 0),(.ref 190),(.int 122 0),(.int 4 0),(.ref 197),(.int 125 0),(.int 4 0),(.ref 204)]),#[]⟩
noncomputable def o121 : Params → Obj := fun P => ⟨(.type "code"),none,(.fields #[(.str (.ofString "GraphicsState") 413),(.str (.ofString "GraphicsState") 414),(.str (.ofString "/claim/cut.py") 415),(.int 94 0),(.int 0 0),(.int 0 0),(.int 0 0),(.int 0 0),(.ref 167),(.bool false),(.int 181 0),(.ref 168),.none,.none,.none,.none,(.int 416 0),(.int 94 0),(.str (.ofString "/claim/cut.py") 417)]),#[]⟩
noncomputable def o122 : Params → Obj := fun P => ⟨(.type "frame"),none,.plain,#[(some (.ref 169)),(some (.ref 3)),(some (.ref 166)),none,(some (.str (.ofString "outlinemill.hint_state") 409)),none,(some (.ref 0))]⟩
noncomputable def o123 : Params → Obj := fun P => ⟨(.type "tuple"),none,(.seq #[(.str (.ofString "self") 426)] 0),#[]⟩
noncomputable def o124 : Params → Obj := by
  refine (?g : ∀ n a b d r t s ts bi q, stIn 24 0 = some (.FunctionDef n a b d r t s ts bi q) → Params → Obj) _ _ _ _ _ _ _ _ _ _ rfl
  exact fun n a b _ _ _ s _ _ _ _ P => ⟨.none,none,(.func ⟨(.ofString "__init__"),(.ofString "GraphicsState.__init__"),a,(.stmts b),s,0,[],.none,.none,.none,.none,none,.none,.none,0⟩),#[]⟩
noncomputable def o125 : Params → Obj := fun P => ⟨(.type "code"),none,(.fields #[(.str (.ofString "__init__") 423),(.str (.ofString "GraphicsState.__init__") 424),(.str (.ofString "/claim/cut.py") 425),(.int 96 0),(.int 1 0),(.int 0 0),(.int 0 0),(.int 3 0),(.ref 171),(.bool true),(.int 181 0),(.ref 172),.none,(.ref 173),(.ref 174),(.ref 175),(.int 427 0),(.int 96 0),(.str (.ofString "/claim/cut.py") 428)]),#[]⟩
noncomputable def o126 : Params → Obj := by
  refine (?g : ∀ n a b d r t s ts bi q, stIn 24 0 = some (.FunctionDef n a b d r t s ts bi q) → Params → Obj) _ _ _ _ _ _ _ _ _ _ rfl
  exact fun n a b _ _ _ s _ _ _ _ P => ⟨(.type "function"),none,(.func ⟨(.ofString "__init__"),(.ofString "GraphicsState.__init__"),a,(.stmts b),s,3,[],.none,.none,.none,(.str (.ofString "outlinemill.hint_state") 409),none,(.ref 176),.none,0⟩),#[]⟩
noncomputable def o127 : Params → Obj := fun P => ⟨(.type "tuple"),none,(.seq #[(.str (.ofString "self") 433)] 0),#[]⟩
noncomputable def o128 : Params → Obj := by
  refine (?g : ∀ n a b d r t s ts bi q, stIn 24 1 = some (.FunctionDef n a b d r t s ts bi q) → Params → Obj) _ _ _ _ _ _ _ _ _ _ rfl
  exact fun n a b _ _ _ s _ _ _ _ P => ⟨.none,none,(.func ⟨(.ofString "free_dot"),(.ofString "GraphicsState.free_dot"),a,(.stmts b),s,0,[],.none,.none,.none,.none,none,.none,.none,0⟩),#[]⟩
noncomputable def o129 : Params → Obj := fun P => ⟨(.type "code"),none,(.fields #[(.str (.ofString "free_dot") 430),(.str (.ofString "GraphicsState.free_dot") 431),(.str (.ofString "/claim/cut.py") 432),(.int 116 0),(.int 1 0),(.int 0 0),(.int 0 0),(.int 3 0),(.ref 178),(.bool true),(.int 181 0),(.ref 179),.none,(.ref 180),(.ref 181),(.ref 182),(.int 434 0),(.int 116 0),(.str (.ofString "/claim/cut.py") 435)]),#[]⟩
noncomputable def o130 : Params → Obj := by
  refine (?g : ∀ n a b d r t s ts bi q, stIn 24 1 = some (.FunctionDef n a b d r t s ts bi q) → Params → Obj) _ _ _ _ _ _ _ _ _ _ rfl
  exact fun n a b _ _ _ s _ _ _ _ P => ⟨(.type "function"),none,(.func ⟨(.ofString "free_dot"),(.ofString "GraphicsState.free_dot"),a,(.stmts b),s,3,[],.none,.none,.none,(.str (.ofString "outlinemill.hint_state") 409),none,(.ref 183),.none,0⟩),#[]⟩
noncomputable def o131 : Params → Obj := fun P => ⟨(.type "tuple"),none,(.seq #[(.str (.ofString "self") 440),(.str (.ofString "dx") 441),(.str (.ofString "dy") 442)] 0),#[]⟩
noncomputable def o132 : Params → Obj := by
  refine (?g : ∀ n a b d r t s ts bi q, stIn 24 2 = some (.FunctionDef n a b d r t s ts bi q) → Params → Obj) _ _ _ _ _ _ _ _ _ _ rfl
  exact fun n a b _ _ _ s _ _ _ _ P => ⟨.none,none,(.func ⟨(.ofString "projected"),(.ofString "GraphicsState.projected"),a,(.stmts b),s,0,[],.none,.none,.none,.none,none,.none,.none,0⟩),#[]⟩
noncomputable def o133 : Params → Obj := fun P => ⟨(.type "code"),none,(.fields #[(.str (.ofString "projected") 437),(.str (.ofString "GraphicsState.projected") 438),(.str (.ofString "/claim/cut.py") 439),(.int 119 0),(.int 3 0),(.int 0 0),(.int 0 0),(.int 3 0),(.ref 185),(.bool true),(.int 181 0),(.ref 186),.none,(.ref 187),(.ref 188),(.ref 189),(.int 443 0),(.int 119 0),(.str (.ofString "/claim/cut.py") 444)]),#[]⟩
noncomputable def o134 : Params → Obj := by
  refine (?g : ∀ n a b d r t s ts bi q, stIn 24 2 = some (.FunctionDef n a b d r t s ts bi q) → Params → Obj) _ _ _ _ _ _ _ _ _ _ rfl
  exact fun n a b _ _ _ s _ _ _ _ P => ⟨(.type "function"),none,(.func ⟨(.ofString "projected"),(.ofString "GraphicsState.projected"),a,(.stmts b),s,3,[],.none,.none,.none,(.str (.ofString "outlinemill.hint_state") 409),none,(.ref 190),.none,0⟩),#[]⟩
noncomputable def o135 : Params → Obj := fun P => ⟨(.type "tuple"),none,(.seq #[(.str (.ofString "self") 449),(.str (.ofString "dx") 450),(.str (.ofString "dy") 451)] 0),#[]⟩
noncomputable def o136 : Params → Obj := by
  refine (?g : ∀ n a b d r t s ts bi q, stIn 24 3 = some (.FunctionDef n a b d r t s ts bi q) → Params → Obj) _ _ _ _ _ _ _ _ _ _ rfl
  exact fun n a b _ _ _ s _ _ _ _ P => ⟨.none,none,(.func ⟨(.ofString "dual_projected"),(.ofString "GraphicsState.dual_projected"),a,(.stmts b),s,0,[],.none,.none,.none,.none,none,.none,.none,0⟩),#[]⟩
noncomputable def o137 : Params → Obj := fun P => ⟨(.type "code"),none,(.fields #[(.str (.ofString "dual_projected") 446),(.str (.ofString "GraphicsState.dual_projected") 447),(.str (.ofString "/claim/cut.py") 448),(.int 122 0),(.int 3 0),(.int 0 0),(.int 0 0),(.int 3 0),(.ref 192),(.bool true),(.int 181 0),(.ref 193),.none,(.ref 194),(.ref 195),(.ref 196),(.int 452 0),(.int 122 0),(.str (.ofString "/claim/cut.py") 453)]),#[]⟩
noncomputable def o138 : Params → Obj := by
  refine (?g : ∀ n a b d r t s ts bi q, stIn 24 3 = some (.FunctionDef n a b d r t s ts bi q) → Params → Obj) _ _ _ _ _ _ _ _ _ _ rfl
  exact fun n a b _ _ _ s _ _ _ _ P => ⟨(.type "function"),none,(.func ⟨(.ofString "dual_projected"),(.ofString "GraphicsState.dual_projected"),a,(.stmts b),s,3,[],.none,.none,.none,(.str (.ofString "outlinemill.hint_state") 409),none,(.ref 197),.none,0⟩),#[]⟩
noncomputable def o139 : Params → Obj := fun P => ⟨(.type "tuple"),none,(.seq #[(.str (.ofString "self") 458)] 0),#[]⟩
noncomputable def o140 : Params → Obj := by
  refine (?g : ∀ n a b d r t s ts bi q, stIn 24 4 = some (.FunctionDef n a b d r t s ts bi q) → Params → Obj) _ _ _ _ _ _ _ _ _ _ rfl
  exact fun n a b _ _ _ s _ _ _ _ P => ⟨.none,none,(.func ⟨(.ofString "row"),(.ofString "GraphicsState.row"),a,(.stmts b),s,0,[],.none,.none,.none,.none,none,.none,.none,0⟩),#[]⟩
noncomputable def o141 : Params → Obj := fun P => ⟨(.type "code"),none,(.fields #[(.str (.ofString "row") 455),(.str (.ofString "GraphicsState.row") 456),(.str (.ofString "/claim/cut.py") 457),(.int 125 0),(.int 1 0),(.int 0 0),(.int 0 0),(.int 3 0),(.ref 199),(.bool true),(.int 181 0),(.ref 200),.none,(.ref 201),(.ref 202),(.ref 203),(.int 459 0),(.int 125 0),(.str (.ofString "/claim/cut.py") 460)]),#[]⟩
noncomputable def o142 : Params → Obj := by
  refine (?g : ∀ n a b d r t s ts bi q, stIn 24 4 = some (.FunctionDef n a b d r t s ts bi q) → Params → Obj) _ _ _ _ _ _ _ _ _ _ rfl
  exact fun n a b _ _ _ s _ _ _ _ P => ⟨(.type "function"),none,(.func ⟨(.ofString "row"),(.ofString "GraphicsState.row"),a,(.stmts b),s,3,[],.none,.none,.none,(.str (.ofString "outlinemill.hint_state") 409),none,(.ref 204),.none,0⟩),#[]⟩
noncomputable def o143 : Params → Obj := fun P => ⟨(.type "tuple"),none,(.seq #[(.str (.ofString "auto_flip") 462),(.str (.ofString "cut_in") 463),(.str (.ofString "delta_base") 464),(.str (.ofString "delta_shift") 465),(.str (.ofString "dual") 466),(.str (.ofString "freedom") 467),(.str (.ofString "loop") 468),(.str (.ofString "minimum") 469),(.str (.ofString "projection") 470),(.str (.ofString "rounding") 471),(.str (.ofString "rp0") 472),(.str (.ofString "rp1") 473),(.str (.ofString "rp2") 474),(.str (.ofString "single_cut_in") 475),(.str (.ofString "single_width") 476),(.str (.ofString "zp0") 477),(.str (.ofString "zp1") 478),(.str (.ofString "zp2") 479)] 0),#[]⟩
noncomputable def o144 : Params → Obj := fun P => ⟨(.type "dict"),none,(.dict #[⟨(PySem.PyData.keyHash P (.ofString "__module__")),(.str (.ofString "__module__") 418),(.str (.ofString "outlinemill.hint_state") 409)⟩,⟨(PySem.PyData.keyHash P (.ofString "__firstlineno__")),(.str (.ofString "__firstlineno__") 422),(.int 94 421)⟩,⟨(PySem.PyData.keyHash P (.ofString "__init__")),(.str (.ofString "__init__") 429),(.ref 177)⟩,⟨(PySem.PyData.keyHash P (.ofString "free_dot")),(.str (.ofString "free_dot") 436),(.ref 184)⟩,⟨(PySem.PyData.keyHash P (.ofString "projected")),(.str (.ofString "projected") 445),(.ref 191)⟩,⟨(PySem.PyData.keyHash P (.ofString "dual_projected")),(.str (.ofString "dual_projected") 454),(.ref 198)⟩,⟨(PySem.PyData.keyHash P (.ofString "row")),(.str (.ofString "row") 461),(.ref 205)⟩,⟨(PySem.PyData.keyHash P (.ofString "__static_attributes__")),(.str (.ofString "__static_attributes__") 480),(.ref 206)⟩,⟨(PySem.PyData.keyHash P (.ofString "__dict__")),(.str (.ofString "__dict__") 482),(.ref 209)⟩,⟨(PySem.PyData.keyHash P (.ofString "__weakref__")),(.str (.ofString "__weakref__") 484),(.ref 210)⟩,⟨(PySem.PyData.keyHash P (.ofString "__doc__")),(.str (.ofString "__doc__") 485),.none⟩] 4),#[]⟩
noncomputable def o145 : Params → Obj := fun P => ⟨(.type "type"),none,(.cls ⟨(.ofString "GraphicsState"),[(.type "object")],[(.ref 208),(.type "object")],207,(.ofString "GraphicsState"),true,[],[],false,none,false⟩),#[none,none,(some (.str (.ofString "GraphicsState") 411)),(some (.str (.ofString "GraphicsState") 419)),(some (.builtin "object.__new__")),(some (.bool true))]⟩
noncomputable def o146 : Params → Obj := fun P => ⟨(.type "getset_descriptor"),none,(.fields #[(.str (.ofString "__dict__") 481),(.ref 208),(.builtin "function.__dict__"),(.builtin "function.__dict__#set")]),#[]⟩
noncomputable def o147 : Params → Obj := fun P => ⟨(.type "getset_descriptor"),none,(.fields #[(.str (.ofString "__weakref__") 483),(.ref 208),(.builtin "ExceptionGroup.__weakref__"),.none]),#[]⟩
noncomputable def o148 : Params → Obj := fun P => ⟨(.type "super"),none,(.fields #[(.ref 208),(.ref 208),(.ref 208)]),#[]⟩
noncomputable def o149 : Params → Obj := fun P => ⟨(.type "builtin_function_or_method"),none,(.fields #[(.builtin "object.__init_subclass__"),(.ref 208)]),#[]⟩
noncomputable def t334 : Params → BT := fun P => .node (o134 P) .nil .nil
noncomputable def t335 : Params → BT := fun P => .node (o42 P) (t165 P) (t334 P)
noncomputable def t336 : Params → BT := fun P => .node (o23 P) (t335 P) (t218 P)
noncomputable def t337 : Params → BT := fun P => .node (o144 P) .nil .nil
noncomputable def t338 : Params → BT := fun P => .node (boot_o_7 P) (t0 P) (t337 P)
noncomputable def t339 : Params → BT := fun P => .node (o124 P) .nil .nil
noncomputable def t340 : Params → BT := fun P => .node (o75 P) (t339 P) .nil
noncomputable def t341 : Params → BT := fun P => .node (o32 P) (t338 P) (t340 P)
noncomputable def t342 : Params → BT := fun P => .node (boot_o_7 P) (t336 P) (t341 P)
noncomputable def t343 : Params → BT := fun P => .node (o46 P) (t222 P) (t0 P)
noncomputable def t344 : Params → BT := fun P => .node (o70 P) (t0 P) .nil
noncomputable def t345 : Params → BT := fun P => .node (boot_o_7 P) (t343 P) (t344 P)
noncomputable def t346 : Params → BT := fun P => .node (o129 P) .nil .nil
noncomputable def t347 : Params → BT := fun P => .node (o85 P) (t346 P) .nil
noncomputable def t348 : Params → BT := fun P => .node (o37 P) (t226 P) (t347 P)
noncomputable def t349 : Params → BT := fun P => .node (boot_o_8 P) (t345 P) (t348 P)
noncomputable def t350 : Params → BT := fun P => .node (boot_o_7 P) (t342 P) (t349 P)
noncomputable def t351 : Params → BT := fun P => .node (o44 P) (t230 P) (t0 P)
noncomputable def t352 : Params → BT := fun P => .node (o26 P) (t351 P) (t233 P)
noncomputable def t353 : Params → BT := fun P => .node (o148 P) .nil .nil
noncomputable def t354 : Params → BT := fun P => .node (boot_o_7 P) (t235 P) (t353 P)
noncomputable def t355 : Params → BT := fun P => .node (o79 P) (t6 P) .nil
noncomputable def t356 : Params → BT := fun P => .node (boot_o_8 P) (t354 P) (t355 P)
noncomputable def t357 : Params → BT := fun P => .node (o16 P) (t352 P) (t356 P)
noncomputable def t358 : Params → BT := fun P => .node (o140 P) .nil .nil
noncomputable def t359 : Params → BT := fun P => .node (o49 P) (t0 P) (t358 P)
noncomputable def t360 : Params → BT := fun P => .node (boot_o_7 P) (t359 P) (t52 P)
noncomputable def t361 : Params → BT := fun P => .node (o131 P) .nil .nil
noncomputable def t362 : Params → BT := fun P => .node (o87 P) (t361 P) .nil
noncomputable def t363 : Params → BT := fun P => .node (o39 P) (t242 P) (t362 P)
noncomputable def t364 : Params → BT := fun P => .node (o21 P) (t360 P) (t363 P)
noncomputable def t365 : Params → BT := fun P => .node (boot_o_7 P) (t357 P) (t364 P)
noncomputable def t366 : Params → BT := fun P => .node (o117 P) (t350 P) (t365 P)
noncomputable def t367 : Params → BT := fun P => .node (boot_o_8 P) (t0 P) (t6 P)
noncomputable def t368 : Params → BT := fun P => .node (o24 P) (t367 P) (t248 P)
noncomputable def t369 : Params → BT := fun P => .node (o146 P) .nil .nil
noncomputable def t370 : Params → BT := fun P => .node (o52 P) (t250 P) (t369 P)
noncomputable def t371 : Params → BT := fun P => .node (o126 P) .nil .nil
noncomputable def t372 : Params → BT := fun P => .node (o83 P) (t371 P) .nil
noncomputable def t373 : Params → BT := fun P => .node (o34 P) (t370 P) (t372 P)
noncomputable def t374 : Params → BT := fun P => .node (o15 P) (t368 P) (t373 P)
noncomputable def t375 : Params → BT := fun P => .node (o139 P) .nil .nil
noncomputable def t376 : Params → BT := fun P => .node (o47 P) (t6 P) (t375 P)
noncomputable def t377 : Params → BT := fun P => .node (o121 P) .nil .nil
noncomputable def t378 : Params → BT := fun P => .node (boot_o_8 P) (t377 P) .nil
noncomputable def t379 : Params → BT := fun P => .node (o29 P) (t376 P) (t378 P)
noncomputable def t380 : Params → BT := fun P => .node (boot_o_7 P) (t257 P) (t25 P)
noncomputable def t381 : Params → BT := fun P => .node (boot_o_7 P) (t379 P) (t380 P)
noncomputable def t382 : Params → BT := fun P => .node (boot_o_9 P) (t374 P) (t381 P)
noncomputable def t383 : Params → BT := fun P => .node (o137 P) .nil .nil
noncomputable def t384 : Params → BT := fun P => .node (boot_o_7 P) (t261 P) (t383 P)
noncomputable def t385 : Params → BT := fun P => .node (o68 P) (t144 P) .nil
noncomputable def t386 : Params → BT := fun P => .node (boot_o_8 P) (t384 P) (t385 P)
noncomputable def t387 : Params → BT := fun P => .node (o84 P) (t0 P) .nil
noncomputable def t388 : Params → BT := fun P => .node (boot_o_7 P) (t265 P) (t387 P)
noncomputable def t389 : Params → BT := fun P => .node (o18 P) (t386 P) (t388 P)
noncomputable def t390 : Params → BT := fun P => .node (o142 P) .nil .nil
noncomputable def t391 : Params → BT := fun P => .node (boot_o_8 P) (t268 P) (t390 P)
noncomputable def t392 : Params → BT := fun P => .node (o123 P) .nil .nil
noncomputable def t393 : Params → BT := fun P => .node (o73 P) (t392 P) .nil
noncomputable def t394 : Params → BT := fun P => .node (o31 P) (t391 P) (t393 P)
noncomputable def t395 : Params → BT := fun P => .node (o132 P) .nil .nil
noncomputable def t396 : Params → BT := fun P => .node (o88 P) (t395 P) .nil
noncomputable def t397 : Params → BT := fun P => .node (o40 P) (t52 P) (t396 P)
noncomputable def t398 : Params → BT := fun P => .node (boot_o_7 P) (t394 P) (t397 P)
noncomputable def t399 : Params → BT := fun P => .node (o11 P) (t389 P) (t398 P)
noncomputable def t400 : Params → BT := fun P => .node (boot_o_5 P) (t382 P) (t399 P)
noncomputable def t401 : Params → BT := fun P => .node (boot_o_1 P) (t366 P) (t400 P)
noncomputable def t402 : Params → BT := fun P => .node (boot_o_7 P) (t193 P) (t0 P)
noncomputable def t403 : Params → BT := fun P => .node (boot_o_7 P) (t402 P) (t276 P)
noncomputable def t404 : Params → BT := fun P => .node (o145 P) .nil .nil
noncomputable def t405 : Params → BT := fun P => .node (o51 P) (t6 P) (t404 P)
noncomputable def t406 : Params → BT := fun P => .node (o125 P) .nil .nil
noncomputable def t407 : Params → BT := fun P => .node (o76 P) (t406 P) .nil
noncomputable def t408 : Params → BT := fun P => .node (o33 P) (t405 P) (t407 P)
noncomputable def t409 : Params → BT := fun P => .node (boot_o_8 P) (t403 P) (t408 P)
noncomputable def t410 : Params → BT := fun P => .node (boot_o_7 P) (t0 P) (t6 P)
noncomputable def t411 : Params → BT := fun P => .node (o120 P) .nil .nil
noncomputable def t412 : Params → BT := fun P => .node (boot_o_7 P) (t411 P) .nil
noncomputable def t413 : Params → BT := fun P => .node (o28 P) (t410 P) (t412 P)
noncomputable def t414 : Params → BT := fun P => .node (o130 P) .nil .nil
noncomputable def t415 : Params → BT := fun P => .node (boot_o_7 P) (t414 P) .nil
noncomputable def t416 : Params → BT := fun P => .node (o38 P) (t283 P) (t415 P)
noncomputable def t417 : Params → BT := fun P => .node (o19 P) (t413 P) (t416 P)
noncomputable def t418 : Params → BT := fun P => .node (boot_o_8 P) (t409 P) (t417 P)
noncomputable def t419 : Params → BT := fun P => .node (o136 P) .nil .nil
noncomputable def t420 : Params → BT := fun P => .node (o45 P) (t0 P) (t419 P)
noncomputable def t421 : Params → BT := fun P => .node (boot_o_7 P) (t420 P) (t52 P)
noncomputable def t422 : Params → BT := fun P => .node (o149 P) .nil .nil
noncomputable def t423 : Params → BT := fun P => .node (boot_o_8 P) (t289 P) (t422 P)
noncomputable def t424 : Params → BT := fun P => .node (o127 P) .nil .nil
noncomputable def t425 : Params → BT := fun P => .node (o80 P) (t424 P) .nil
noncomputable def t426 : Params → BT := fun P => .node (o35 P) (t423 P) (t425 P)
noncomputable def t427 : Params → BT := fun P => .node (o17 P) (t421 P) (t426 P)
noncomputable def t428 : Params → BT := fun P => .node (o141 P) .nil .nil
noncomputable def t429 : Params → BT := fun P => .node (boot_o_7 P) (t293 P) (t428 P)
noncomputable def t430 : Params → BT := fun P => .node (o72 P) (t6 P) .nil
noncomputable def t431 : Params → BT := fun P => .node (boot_o_8 P) (t429 P) (t430 P)
noncomputable def t432 : Params → BT := fun P => .node (boot_o_7 P) (t297 P) (t52 P)
noncomputable def t433 : Params → BT := fun P => .node (o22 P) (t431 P) (t432 P)
noncomputable def t434 : Params → BT := fun P => .node (o118 P) (t427 P) (t433 P)
noncomputable def t435 : Params → BT := fun P => .node (boot_o_4 P) (t418 P) (t434 P)
noncomputable def t436 : Params → BT := fun P => .node (o135 P) .nil .nil
noncomputable def t437 : Params → BT := fun P => .node (o43 P) (t144 P) (t436 P)
noncomputable def t438 : Params → BT := fun P => .node (o25 P) (t437 P) (t304 P)
noncomputable def t439 : Params → BT := fun P => .node (o147 P) .nil .nil
noncomputable def t440 : Params → BT := fun P => .node (o53 P) (t0 P) (t439 P)
noncomputable def t441 : Params → BT := fun P => .node (o78 P) (t0 P) .nil
noncomputable def t442 : Params → BT := fun P => .node (boot_o_7 P) (t440 P) (t441 P)
noncomputable def t443 : Params → BT := fun P => .node (boot_o_7 P) (t438 P) (t442 P)
noncomputable def t444 : Params → BT := fun P => .node (o48 P) (t309 P) (t0 P)
noncomputable def t445 : Params → BT := fun P => .node (o122 P) .nil .nil
noncomputable def t446 : Params → BT := fun P => .node (o71 P) (t445 P) .nil
noncomputable def t447 : Params → BT := fun P => .node (o30 P) (t444 P) (t446 P)
noncomputable def t448 : Params → BT := fun P => .node (o86 P) (t6 P) .nil
noncomputable def t449 : Params → BT := fun P => .node (boot_o_8 P) (t313 P) (t448 P)
noncomputable def t450 : Params → BT := fun P => .node (o20 P) (t447 P) (t449 P)
noncomputable def t451 : Params → BT := fun P => .node (boot_o_10 P) (t443 P) (t450 P)
noncomputable def t452 : Params → BT := fun P => .node (o138 P) .nil .nil
noncomputable def t453 : Params → BT := fun P => .node (boot_o_8 P) (t317 P) (t452 P)
noncomputable def t454 : Params → BT := fun P => .node (o119 P) .nil .nil
noncomputable def t455 : Params → BT := fun P => .node (o69 P) (t454 P) .nil
noncomputable def t456 : Params → BT := fun P => .node (o27 P) (t453 P) (t455 P)
noncomputable def t457 : Params → BT := fun P => .node (o128 P) .nil .nil
noncomputable def t458 : Params → BT := fun P => .node (o66 P) (t457 P) .nil
noncomputable def t459 : Params → BT := fun P => .node (o36 P) (t321 P) (t458 P)
noncomputable def t460 : Params → BT := fun P => .node (boot_o_7 P) (t456 P) (t459 P)
noncomputable def t461 : Params → BT := fun P => .node (o143 P) .nil .nil
noncomputable def t462 : Params → BT := fun P => .node (o50 P) (t324 P) (t461 P)
noncomputable def t463 : Params → BT := fun P => .node (o74 P) (t0 P) .nil
noncomputable def t464 : Params → BT := fun P => .node (boot_o_7 P) (t462 P) (t463 P)
noncomputable def t465 : Params → BT := fun P => .node (o133 P) .nil .nil
noncomputable def t466 : Params → BT := fun P => .node (o89 P) (t465 P) .nil
noncomputable def t467 : Params → BT := fun P => .node (o41 P) (t327 P) (t466 P)
noncomputable def t468 : Params → BT := fun P => .node (boot_o_8 P) (t464 P) (t467 P)
noncomputable def t469 : Params → BT := fun P => .node (o12 P) (t460 P) (t468 P)
noncomputable def t470 : Params → BT := fun P => .node (boot_o_6 P) (t451 P) (t469 P)
noncomputable def t471 : Params → BT := fun P => .node (o58 P) (t435 P) (t470 P)
noncomputable def t472 : Params → BT := fun P => .node (boot_o_0 P) (t401 P) (t471 P)
noncomputable def o150 : Params → Obj := fun P => ⟨(.type "dict"),none,(.dict #[⟨(PySem.PyData.keyHash P (.ofString "__name__")),(.str (.ofString "__name__") 165),(.str (.ofString "outlinemill.hint_work") 488)⟩,⟨(PySem.PyData.keyHash P (.ofString "__doc__")),(.str (.ofString "__doc__") 166),.none⟩,⟨(PySem.PyData.keyHash P (.ofString "__package__")),(.str (.ofString "__package__") 167),.none⟩,⟨(PySem.PyData.keyHash P (.ofString "__loader__")),(.str (.ofString "__loader__") 168),(.builtin "__main__.__loader__#\x6fpaque")⟩,⟨(PySem.PyData.keyHash P (.ofString "__spec__")),(.str (.ofString "__spec__") 169),.none⟩,⟨(PySem.PyData.keyHash P (.ofString "__annotations__")),(.str (.ofString "__annotations__") 170),(.ref 6)⟩,⟨(PySem.PyData.keyHash P (.ofString "__builtins__")),(.str (.ofString "__builtins__") 171),(.ref 4)⟩,⟨(PySem.PyData.keyHash P (.ofString "__file__")),(.str (.ofString "__file__") 173),(.str (.ofString "/claim/cut.py") 172)⟩,⟨(PySem.PyData.keyHash P (.ofString "__cached__")),(.str (.ofString "__cached__") 174),.none⟩,⟨(PySem.PyData.keyHash P (.ofString "_wall")),(.str (.ofString "_wall") 193),(.ref 21)⟩,⟨(PySem.PyData.keyHash P (.ofString "ONE14")),(.str (.ofString "ONE14") 197),(.int 16384 196)⟩,⟨(PySem.PyData.keyHash P (.ofString "muldiv")),(.str (.ofString "muldiv") 207),(.ref 28)⟩,⟨(PySem.PyData.keyHash P (.ofString "wrap32")),(.str (.ofString "wrap32") 214),(.ref 35)⟩,⟨(PySem.PyData.keyHash P (.ofString "drawn_place")),(.str (.ofString "drawn_place") 225),(.ref 42)⟩,⟨(PySem.PyData.keyHash P (.ofString "put_part")),(.str (.ofString "put_part") 237),(.ref 49)⟩,⟨(PySem.PyData.keyHash P (.ofString "pair_of")),(.str (.ofString "pair_of") 246),(.ref 56)⟩,⟨(PySem.PyData.keyHash P (.ofString "draw_between")),(.str (.ofString "draw_between") 260),(.ref 63)⟩,⟨(PySem.PyData.keyHash P (.ofString "draw_contour")),(.str (.ofString "draw_contour") 266),(.ref 68)⟩,⟨(PySem.PyData.keyHash P (.ofString "touch")),(.str (.ofString "touch") 277),(.ref 75)⟩,⟨(PySem.PyData.keyHash P (.ofString "shifted")),(.str (.ofString "shifted") 290),(.ref 82)⟩,⟨(PySem.PyData.keyHash P (.ofString "axis_of")),(.str (.ofString "axis_of") 299),(.ref 89)⟩,⟨(PySem.PyData.keyHash P (.ofString "do_axes")),(.str (.ofString "do_axes") 308),(.ref 96)⟩,⟨(PySem.PyData.keyHash P (.ofString "MillError")),(.str (.ofString "MillError") 339),(.ref 113)⟩,⟨(PySem.PyData.keyHash P (.ofString "HintFault")),(.str (.ofString "HintFault") 355),(.ref 126)⟩,⟨(PySem.PyData.keyHash P (.ofString "Rounding")),(.str (.ofString "Rounding") 397),(.ref 152)⟩,⟨(PySem.PyData.keyHash P (.ofString "named")),(.str (.ofString "named") 408),(.ref 163)⟩,⟨(PySem.PyData.keyHash P (.ofString "GraphicsState")),(.str (.ofString "GraphicsState") 487),(.ref 208)⟩,⟨(PySem.PyData.keyHash P (.ofString "HintStack")),(.str (.ofString "HintStack") 563),(.ref 271)⟩] 28),#[]⟩
noncomputable def o151 : Params → Obj := fun P => ⟨.none,none,(.fields #[(.int 1 0),(.int 0 0),(.ref 20),(.int 6 0),(.int 0 0),(.ref 27),(.int 13 0),(.int 0 0),(.ref 34),(.int 16 0),(.int 0 0),(.ref 41),(.int 22 0),(.int 0 0),(.ref 48),(.int 25 0),(.int 0 0),(.ref 55),(.int 27 0),(.int 0 0),(.ref 62),(.int 33 0),(.int 0 0),(.ref 67),(.int 46 0),(.int 0 0),(.ref 74),(.int 51 0),(.int 0 0),(.ref 81),(.int 61 0),(.int 0 0),(.ref 88),(.int 63 0),(.int 0 0),(.ref 95),(.int 71 0),(.int 0 0),(.ref 102),(.int 75 0),(.int 0 0),(.ref 122),(.int 78 0),(.int 0 0),(.ref 134),(.int 87 0),(.int 0 0),(.ref 162),(.int 94 0),(.int 0 0),(.ref 169),(.int 128 0),(.int 0 0),(.ref 218)]),#[]⟩
noncomputable def o152 : Params → Obj := fun P => ⟨(.type "dict"),none,(.dict #[⟨(PySem.PyData.keyHash P (.ofString "__module__")),(.str (.ofString "__module__") 497),(.str (.ofString "outlinemill.hint_work") 488)⟩,⟨(PySem.PyData.keyHash P (.ofString "__qualname__")),(.str (.ofString "__qualname__") 499),(.str (.ofString "HintStack") 498)⟩,⟨(PySem.PyData.keyHash P (.ofString "__firstlineno__")),(.str (.ofString "__firstlineno__") 501),(.int 128 500)⟩,⟨(PySem.PyData.keyHash P (.ofString "__init__")),(.str (.ofString "__init__") 509),(.ref 226)⟩,⟨(PySem.PyData.keyHash P (.ofString "push")),(.str (.ofString "push") 517),(.ref 233)⟩,⟨(PySem.PyData.keyHash P (.ofString "pop")),(.str (.ofString "pop") 524),(.ref 240)⟩,⟨(PySem.PyData.keyHash P (.ofString "pop_count")),(.str (.ofString "pop_count") 531),(.ref 247)⟩,⟨(PySem.PyData.keyHash P (.ofString "peek")),(.str (.ofString "peek") 539),(.ref 254)⟩,⟨(PySem.PyData.keyHash P (.ofString "depth")),(.str (.ofString "depth") 546),(.ref 261)⟩,⟨(PySem.PyData.keyHash P (.ofString "clear")),(.str (.ofString "clear") 553),(.ref 268)⟩,⟨(PySem.PyData.keyHash P (.ofString "__static_attributes__")),(.str (.ofString "__static_attributes__") 556),(.ref 269)⟩] 11),#[]⟩
noncomputable def o153 : Params → Obj := fun P => ⟨.none,none,(.fields #[(.int 130 0),(.int 4 0),(.ref 225),(.int 134 0),(.int 4 0),(.ref 232),(.int 137 0),(.int 4 0),(.ref 239),(.int 140 0),(.int 4 0),(.ref 246),(.int 143 0),(.int 4 0),(.ref 253),(.int 146 0),(.int 4 0),(.ref 260),(.int 149 0),(.int 4 0),(.ref 267)]),#[]⟩
noncomputable def o154 : Params → Obj := fun P => ⟨(.type "code"),none,(.fields #[(.str (.ofString "HintStack") 492),(.str (.ofString "HintStack") 493),(.str (.ofString "/claim/cut.py") 494),(.int 128 0),(.int 0 0),(.int 0 0),(.int 0 0),(.int 0 0),(.ref 216),(.bool false),(.int 181 0),(.ref 217),.none,.none,.none,.none,(.int 495 0),(.int 128 0),(.str (.ofString "/claim/cut.py") 496)]),#[]⟩
noncomputable def o155 : Params → Obj := fun P => ⟨(.type "frame"),none,.plain,#[(some (.ref 218)),(some (.ref 3)),(some (.ref 215)),none,(some (.str (.ofString "outlinemill.hint_work") 488)),none,(some (.ref 0))]⟩
noncomputable def o156 : Params → Obj := fun P => ⟨(.type "tuple"),none,(.seq #[(.str (.ofString "self") 505),(.str (.ofString "most") 506)] 0),#[]⟩
noncomputable def o157 : Params → Obj := by
  refine (?g : ∀ n a b d r t s ts bi q, stIn 26 0 = some (.FunctionDef n a b d r t s ts bi q) → Params → Obj) _ _ _ _ _ _ _ _ _ _ rfl
  exact fun n a b _ _ _ s _ _ _ _ P => ⟨.none,none,(.func ⟨(.ofString "__init__"),(.ofString "HintStack.__init__"),a,(.stmts b),s,0,[],.none,.none,.none,.none,none,.none,.none,0⟩),#[]⟩
noncomputable def o158 : Params → Obj := fun P => ⟨(.type "code"),none,(.fields #[(.str (.ofString "__init__") 502),(.str (.ofString "HintStack.__init__") 503),(.str (.ofString "/claim/cut.py") 504),(.int 130 0),(.int 2 0),(.int 0 0),(.int 0 0),(.int 3 0),(.ref 220),(.bool true),(.int 181 0),(.ref 221),.none,(.ref 222),(.ref 223),(.ref 224),(.int 507 0),(.int 130 0),(.str (.ofString "/claim/cut.py") 508)]),#[]⟩
noncomputable def o159 : Params → Obj := by
  refine (?g : ∀ n a b d r t s ts bi q, stIn 26 0 = some (.FunctionDef n a b d r t s ts bi q) → Params → Obj) _ _ _ _ _ _ _ _ _ _ rfl
  exact fun n a b _ _ _ s _ _ _ _ P => ⟨(.type "function"),none,(.func ⟨(.ofString "__init__"),(.ofString "HintStack.__init__"),a,(.stmts b),s,3,[],.none,.none,.none,(.str (.ofString "outlinemill.hint_work") 488),none,(.ref 225),.none,0⟩),#[]⟩
noncomputable def o160 : Params → Obj := fun P => ⟨(.type "tuple"),none,(.seq #[(.str (.ofString "self") 513),(.str (.ofString "number") 514)] 0),#[]⟩
noncomputable def o161 : Params → Obj := by
  refine (?g : ∀ n a b d r t s ts bi q, stIn 26 1 = some (.FunctionDef n a b d r t s ts bi q) → Params → Obj) _ _ _ _ _ _ _ _ _ _ rfl
  exact fun n a b _ _ _ s _ _ _ _ P => ⟨.none,none,(.func ⟨(.ofString "push"),(.ofString "HintStack.push"),a,(.stmts b),s,0,[],.none,.none,.none,.none,none,.none,.none,0⟩),#[]⟩
noncomputable def o162 : Params → Obj := fun P => ⟨(.type "code"),none,(.fields #[(.str (.ofString "push") 510),(.str (.ofString "HintStack.push") 511),(.str (.ofString "/claim/cut.py") 512),(.int 134 0),(.int 2 0),(.int 0 0),(.int 0 0),(.int 3 0),(.ref 227),(.bool true),(.int 181 0),(.ref 228),.none,(.ref 229),(.ref 230),(.ref 231),(.int 515 0),(.int 134 0),(.str (.ofString "/claim/cut.py") 516)]),#[]⟩
noncomputable def o163 : Params → Obj := by
  refine (?g : ∀ n a b d r t s ts bi q, stIn 26 1 = some (.FunctionDef n a b d r t s ts bi q) → Params → Obj) _ _ _ _ _ _ _ _ _ _ rfl
  exact fun n a b _ _ _ s _ _ _ _ P => ⟨(.type "function"),none,(.func ⟨(.ofString "push"),(.ofString "HintStack.push"),a,(.stmts b),s,3,[],.none,.none,.none,(.str (.ofString "outlinemill.hint_work") 488),none,(.ref 232),.none,0⟩),#[]⟩
noncomputable def o164 : Params → Obj := fun P => ⟨(.type "tuple"),none,(.seq #[(.str (.ofString "self") 521)] 0),#[]⟩
noncomputable def o165 : Params → Obj := by
  refine (?g : ∀ n a b d r t s ts bi q, stIn 26 2 = some (.FunctionDef n a b d r t s ts bi q) → Params → Obj) _ _ _ _ _ _ _ _ _ _ rfl
  exact fun n a b _ _ _ s _ _ _ _ P => ⟨.none,none,(.func ⟨(.ofString "pop"),(.ofString "HintStack.pop"),a,(.stmts b),s,0,[],.none,.none,.none,.none,none,.none,.none,0⟩),#[]⟩
noncomputable def o166 : Params → Obj := fun P => ⟨(.type "code"),none,(.fields #[(.str (.ofString "pop") 518),(.str (.ofString "HintStack.pop") 519),(.str (.ofString "/claim/cut.py") 520),(.int 137 0),(.int 1 0),(.int 0 0),(.int 0 0),(.int 3 0),(.ref 234),(.bool true),(.int 181 0),(.ref 235),.none,(.ref 236),(.ref 237),(.ref 238),(.int 522 0),(.int 137 0),(.str (.ofString "/claim/cut.py") 523)]),#[]⟩
noncomputable def o167 : Params → Obj := by
  refine (?g : ∀ n a b d r t s ts bi q, stIn 26 2 = some (.FunctionDef n a b d r t s ts bi q) → Params → Obj) _ _ _ _ _ _ _ _ _ _ rfl
  exact fun n a b _ _ _ s _ _ _ _ P => ⟨(.type "function"),none,(.func ⟨(.ofString "pop"),(.ofString "HintStack.pop"),a,(.stmts b),s,3,[],.none,.none,.none,(.str (.ofString "outlinemill.hint_work") 488),none,(.ref 239),.none,0⟩),#[]⟩
noncomputable def o168 : Params → Obj := fun P => ⟨(.type "tuple"),none,(.seq #[(.str (.ofString "self") 528)] 0),#[]⟩
noncomputable def o169 : Params → Obj := by
  refine (?g : ∀ n a b d r t s ts bi q, stIn 26 3 = some (.FunctionDef n a b d r t s ts bi q) → Params → Obj) _ _ _ _ _ _ _ _ _ _ rfl
  exact fun n a b _ _ _ s _ _ _ _ P => ⟨.none,none,(.func ⟨(.ofString "pop_count"),(.ofString "HintStack.pop_count"),a,(.stmts b),s,0,[],.none,.none,.none,.none,none,.none,.none,0⟩),#[]⟩
noncomputable def o170 : Params → Obj := fun P => ⟨(.type "code"),none,(.fields #[(.str (.ofString "pop_count") 525),(.str (.ofString "HintStack.pop_count") 526),(.str (.ofString "/claim/cut.py") 527),(.int 140 0),(.int 1 0),(.int 0 0),(.int 0 0),(.int 3 0),(.ref 241),(.bool true),(.int 181 0),(.ref 242),.none,(.ref 243),(.ref 244),(.ref 245),(.int 529 0),(.int 140 0),(.str (.ofString "/claim/cut.py") 530)]),#[]⟩
noncomputable def o171 : Params → Obj := by
  refine (?g : ∀ n a b d r t s ts bi q, stIn 26 3 = some (.FunctionDef n a b d r t s ts bi q) → Params → Obj) _ _ _ _ _ _ _ _ _ _ rfl
  exact fun n a b _ _ _ s _ _ _ _ P => ⟨(.type "function"),none,(.func ⟨(.ofString "pop_count"),(.ofString "HintStack.pop_count"),a,(.stmts b),s,3,[],.none,.none,.none,(.str (.ofString "outlinemill.hint_work") 488),none,(.ref 246),.none,0⟩),#[]⟩
noncomputable def o172 : Params → Obj := fun P => ⟨(.type "tuple"),none,(.seq #[(.str (.ofString "self") 535),(.str (.ofString "many") 536)] 0),#[]⟩
noncomputable def o173 : Params → Obj := by
  refine (?g : ∀ n a b d r t s ts bi q, stIn 26 4 = some (.FunctionDef n a b d r t s ts bi q) → Params → Obj) _ _ _ _ _ _ _ _ _ _ rfl
  exact fun n a b _ _ _ s _ _ _ _ P => ⟨.none,none,(.func ⟨(.ofString "peek"),(.ofString "HintStack.peek"),a,(.stmts b),s,0,[],.none,.none,.none,.none,none,.none,.none,0⟩),#[]⟩
noncomputable def o174 : Params → Obj := fun P => ⟨(.type "code"),none,(.fields #[(.str (.ofString "peek") 532),(.str (.ofString "HintStack.peek") 533),(.str (.ofString "/claim/cut.py") 534),(.int 143 0),(.int 2 0),(.int 0 0),(.int 0 0),(.int 3 0),(.ref 248),(.bool true),(.int 181 0),(.ref 249),.none,(.ref 250),(.ref 251),(.ref 252),(.int 537 0),(.int 143 0),(.str (.ofString "/claim/cut.py") 538)]),#[]⟩
noncomputable def o175 : Params → Obj := by
  refine (?g : ∀ n a b d r t s ts bi q, stIn 26 4 = some (.FunctionDef n a b d r t s ts bi q) → Params → Obj) _ _ _ _ _ _ _ _ _ _ rfl
  exact fun n a b _ _ _ s _ _ _ _ P => ⟨(.type "function"),none,(.func ⟨(.ofString "peek"),(.ofString "HintStack.peek"),a,(.stmts b),s,3,[],.none,.none,.none,(.str (.ofString "outlinemill.hint_work") 488),none,(.ref 253),.none,0⟩),#[]⟩
noncomputable def o176 : Params → Obj := fun P => ⟨(.type "tuple"),none,(.seq #[(.str (.ofString "self") 543)] 0),#[]⟩
noncomputable def o177 : Params → Obj := by
  refine (?g : ∀ n a b d r t s ts bi q, stIn 26 5 = some (.FunctionDef n a b d r t s ts bi q) → Params → Obj) _ _ _ _ _ _ _ _ _ _ rfl
  exact fun n a b _ _ _ s _ _ _ _ P => ⟨.none,none,(.func ⟨(.ofString "depth"),(.ofString "HintStack.depth"),a,(.stmts b),s,0,[],.none,.none,.none,.none,none,.none,.none,0⟩),#[]⟩
noncomputable def o178 : Params → Obj := fun P => ⟨(.type "code"),none,(.fields #[(.str (.ofString "depth") 540),(.str (.ofString "HintStack.depth") 541),(.str (.ofString "/claim/cut.py") 542),(.int 146 0),(.int 1 0),(.int 0 0),(.int 0 0),(.int 3 0),(.ref 255),(.bool true),(.int 181 0),(.ref 256),.none,(.ref 257),(.ref 258),(.ref 259),(.int 544 0),(.int 146 0),(.str (.ofString "/claim/cut.py") 545)]),#[]⟩
noncomputable def o179 : Params → Obj := by
  refine (?g : ∀ n a b d r t s ts bi q, stIn 26 5 = some (.FunctionDef n a b d r t s ts bi q) → Params → Obj) _ _ _ _ _ _ _ _ _ _ rfl
  exact fun n a b _ _ _ s _ _ _ _ P => ⟨(.type "function"),none,(.func ⟨(.ofString "depth"),(.ofString "HintStack.depth"),a,(.stmts b),s,3,[],.none,.none,.none,(.str (.ofString "outlinemill.hint_work") 488),none,(.ref 260),.none,0⟩),#[]⟩
noncomputable def o180 : Params → Obj := fun P => ⟨(.type "tuple"),none,(.seq #[(.str (.ofString "self") 550)] 0),#[]⟩
noncomputable def o181 : Params → Obj := by
  refine (?g : ∀ n a b d r t s ts bi q, stIn 26 6 = some (.FunctionDef n a b d r t s ts bi q) → Params → Obj) _ _ _ _ _ _ _ _ _ _ rfl
  exact fun n a b _ _ _ s _ _ _ _ P => ⟨.none,none,(.func ⟨(.ofString "clear"),(.ofString "HintStack.clear"),a,(.stmts b),s,0,[],.none,.none,.none,.none,none,.none,.none,0⟩),#[]⟩
noncomputable def o182 : Params → Obj := fun P => ⟨(.type "code"),none,(.fields #[(.str (.ofString "clear") 547),(.str (.ofString "HintStack.clear") 548),(.str (.ofString "/claim/cut.py") 549),(.int 149 0),(.int 1 0),(.int 0 0),(.int 0 0),(.int 3 0),(.ref 262),(.bool true),(.int 181 0),(.ref 263),.none,(.ref 264),(.ref 265),(.ref 266),(.int 551 0),(.int 149 0),(.str (.ofString "/claim/cut.py") 552)]),#[]⟩
noncomputable def o183 : Params → Obj := by
  refine (?g : ∀ n a b d r t s ts bi q, stIn 26 6 = some (.FunctionDef n a b d r t s ts bi q) → Params → Obj) _ _ _ _ _ _ _ _ _ _ rfl
  exact fun n a b _ _ _ s _ _ _ _ P => ⟨(.type "function"),none,(.func ⟨(.ofString "clear"),(.ofString "HintStack.clear"),a,(.stmts b),s,3,[],.none,.none,.none,(.str (.ofString "outlinemill.hint_work") 488),none,(.ref 267),.none,0⟩),#[]⟩
noncomputable def o184 : Params → Obj := fun P => ⟨(.type "tuple"),none,(.seq #[(.str (.ofString "most") 554),(.str (.ofString "numbers") 555)] 0),#[]⟩
noncomputable def o185 : Params → Obj := fun P => ⟨(.type "dict"),none,(.dict #[⟨(PySem.PyData.keyHash P (.ofString "__module__")),(.str (.ofString "__module__") 497),(.str (.ofString "outlinemill.hint_work") 488)⟩,⟨(PySem.PyData.keyHash P (.ofString "__firstlineno__")),(.str (.ofString "__firstlineno__") 501),(.int 128 500)⟩,⟨(PySem.PyData.keyHash P (.ofString "__init__")),(.str (.ofString "__init__") 509),(.ref 226)⟩,⟨(PySem.PyData.keyHash P (.ofString "push")),(.str (.ofString "push") 517),(.ref 233)⟩,⟨(PySem.PyData.keyHash P (.ofString "pop")),(.str (.ofString "pop") 524),(.ref 240)⟩,⟨(PySem.PyData.keyHash P (.ofString "pop_count")),(.str (.ofString "pop_count") 531),(.ref 247)⟩,⟨(PySem.PyData.keyHash P (.ofString "peek")),(.str (.ofString "peek") 539),(.ref 254)⟩,⟨(PySem.PyData.keyHash P (.ofString "depth")),(.str (.ofString "depth") 546),(.ref 261)⟩,⟨(PySem.PyData.keyHash P (.ofString "clear")),(.str (.ofString "clear") 553),(.ref 268)⟩,⟨(PySem.PyData.keyHash P (.ofString "__static_attributes__")),(.str (.ofString "__static_attributes__") 556),(.ref 269)⟩,⟨(PySem.PyData.keyHash P (.ofString "__dict__")),(.str (.ofString "__dict__") 558),(.ref 272)⟩,⟨(PySem.PyData.keyHash P (.ofString "__weakref__")),(.str (.ofString "__weakref__") 560),(.ref 273)⟩,⟨(PySem.PyData.keyHash P (.ofString "__doc__")),(.str (.ofString "__doc__") 561),.none⟩] 4),#[]⟩
noncomputable def o186 : Params → Obj := fun P => ⟨(.type "type"),none,(.cls ⟨(.ofString "HintStack"),[(.type "object")],[(.ref 271),(.type "object")],270,(.ofString "HintStack"),true,[],[],false,none,false⟩),#[none,none,(some (.str (.ofString "HintStack") 490)),(some (.str (.ofString "HintStack") 498)),(some (.builtin "object.__new__")),(some (.bool true))]⟩
noncomputable def o187 : Params → Obj := fun P => ⟨(.type "getset_descriptor"),none,(.fields #[(.str (.ofString "__dict__") 557),(.ref 271),(.builtin "function.__dict__"),(.builtin "function.__dict__#set")]),#[]⟩
noncomputable def o188 : Params → Obj := fun P => ⟨(.type "getset_descriptor"),none,(.fields #[(.str (.ofString "__weakref__") 559),(.ref 271),(.builtin "ExceptionGroup.__weakref__"),.none]),#[]⟩
noncomputable def o189 : Params → Obj := fun P => ⟨(.type "super"),none,(.fields #[(.ref 271),(.ref 271),(.ref 271)]),#[]⟩
noncomputable def o190 : Params → Obj := fun P => ⟨(.type "builtin_function_or_method"),none,(.fields #[(.builtin "object.__init_subclass__"),(.ref 271)]),#[]⟩
noncomputable def t473 : Params → BT := fun P => .node (o90 P) (t0 P) .nil
noncomputable def t474 : Params → BT := fun P => .node (o42 P) (t473 P) (t334 P)
noncomputable def t475 : Params → BT := fun P => .node (o63 P) (t217 P) (t0 P)
noncomputable def t476 : Params → BT := fun P => .node (o23 P) (t474 P) (t475 P)
noncomputable def t477 : Params → BT := fun P => .node (o186 P) .nil .nil
noncomputable def t478 : Params → BT := fun P => .node (boot_o_7 P) (t477 P) .nil
noncomputable def t479 : Params → BT := fun P => .node (boot_o_7 P) (t478 P) (t337 P)
noncomputable def t480 : Params → BT := fun P => .node (o166 P) .nil .nil
noncomputable def t481 : Params → BT := fun P => .node (o75 P) (t339 P) (t480 P)
noncomputable def t482 : Params → BT := fun P => .node (o32 P) (t479 P) (t481 P)
noncomputable def t483 : Params → BT := fun P => .node (boot_o_7 P) (t476 P) (t482 P)
noncomputable def t484 : Params → BT := fun P => .node (o97 P) (t6 P) .nil
noncomputable def t485 : Params → BT := fun P => .node (o46 P) (t484 P) (t0 P)
noncomputable def t486 : Params → BT := fun P => .node (o161 P) .nil .nil
noncomputable def t487 : Params → BT := fun P => .node (o70 P) (t0 P) (t486 P)
noncomputable def t488 : Params → BT := fun P => .node (boot_o_7 P) (t485 P) (t487 P)
noncomputable def t489 : Params → BT := fun P => .node (o152 P) .nil .nil
noncomputable def t490 : Params → BT := fun P => .node (o55 P) (t225 P) (t489 P)
noncomputable def t491 : Params → BT := fun P => .node (o171 P) .nil .nil
noncomputable def t492 : Params → BT := fun P => .node (o85 P) (t346 P) (t491 P)
noncomputable def t493 : Params → BT := fun P => .node (o37 P) (t490 P) (t492 P)
noncomputable def t494 : Params → BT := fun P => .node (boot_o_8 P) (t488 P) (t493 P)
noncomputable def t495 : Params → BT := fun P => .node (boot_o_7 P) (t483 P) (t494 P)
noncomputable def t496 : Params → BT := fun P => .node (o177 P) .nil .nil
noncomputable def t497 : Params → BT := fun P => .node (o94 P) (t496 P) .nil
noncomputable def t498 : Params → BT := fun P => .node (o44 P) (t497 P) (t0 P)
noncomputable def t499 : Params → BT := fun P => .node (o67 P) (t232 P) (t0 P)
noncomputable def t500 : Params → BT := fun P => .node (o26 P) (t498 P) (t499 P)
noncomputable def t501 : Params → BT := fun P => .node (o190 P) .nil .nil
noncomputable def t502 : Params → BT := fun P => .node (o103 P) (t501 P) .nil
noncomputable def t503 : Params → BT := fun P => .node (boot_o_7 P) (t502 P) (t353 P)
noncomputable def t504 : Params → BT := fun P => .node (o168 P) .nil .nil
noncomputable def t505 : Params → BT := fun P => .node (o79 P) (t6 P) (t504 P)
noncomputable def t506 : Params → BT := fun P => .node (boot_o_8 P) (t503 P) (t505 P)
noncomputable def t507 : Params → BT := fun P => .node (o16 P) (t500 P) (t506 P)
noncomputable def t508 : Params → BT := fun P => .node (o182 P) .nil .nil
noncomputable def t509 : Params → BT := fun P => .node (boot_o_7 P) (t508 P) .nil
noncomputable def t510 : Params → BT := fun P => .node (o49 P) (t509 P) (t358 P)
noncomputable def t511 : Params → BT := fun P => .node (boot_o_7 P) (t510 P) (t410 P)
noncomputable def t512 : Params → BT := fun P => .node (o155 P) .nil .nil
noncomputable def t513 : Params → BT := fun P => .node (boot_o_8 P) (t241 P) (t512 P)
noncomputable def t514 : Params → BT := fun P => .node (o87 P) (t361 P) (t0 P)
noncomputable def t515 : Params → BT := fun P => .node (o39 P) (t513 P) (t514 P)
noncomputable def t516 : Params → BT := fun P => .node (o21 P) (t511 P) (t515 P)
noncomputable def t517 : Params → BT := fun P => .node (boot_o_7 P) (t507 P) (t516 P)
noncomputable def t518 : Params → BT := fun P => .node (o150 P) (t495 P) (t517 P)
noncomputable def t519 : Params → BT := fun P => .node (o176 P) .nil .nil
noncomputable def t520 : Params → BT := fun P => .node (boot_o_7 P) (t519 P) .nil
noncomputable def t521 : Params → BT := fun P => .node (boot_o_8 P) (t520 P) (t6 P)
noncomputable def t522 : Params → BT := fun P => .node (o158 P) .nil .nil
noncomputable def t523 : Params → BT := fun P => .node (o65 P) (t247 P) (t522 P)
noncomputable def t524 : Params → BT := fun P => .node (o24 P) (t521 P) (t523 P)
noncomputable def t525 : Params → BT := fun P => .node (o188 P) .nil .nil
noncomputable def t526 : Params → BT := fun P => .node (o102 P) (t525 P) .nil
noncomputable def t527 : Params → BT := fun P => .node (o52 P) (t526 P) (t369 P)
noncomputable def t528 : Params → BT := fun P => .node (o83 P) (t371 P) (t0 P)
noncomputable def t529 : Params → BT := fun P => .node (o34 P) (t527 P) (t528 P)
noncomputable def t530 : Params → BT := fun P => .node (o15 P) (t524 P) (t529 P)
noncomputable def t531 : Params → BT := fun P => .node (o47 P) (t25 P) (t375 P)
noncomputable def t532 : Params → BT := fun P => .node (o163 P) .nil .nil
noncomputable def t533 : Params → BT := fun P => .node (boot_o_8 P) (t377 P) (t532 P)
noncomputable def t534 : Params → BT := fun P => .node (o29 P) (t531 P) (t533 P)
noncomputable def t535 : Params → BT := fun P => .node (o153 P) .nil .nil
noncomputable def t536 : Params → BT := fun P => .node (o57 P) (t256 P) (t535 P)
noncomputable def t537 : Params → BT := fun P => .node (boot_o_7 P) (t536 P) (t367 P)
noncomputable def t538 : Params → BT := fun P => .node (boot_o_7 P) (t534 P) (t537 P)
noncomputable def t539 : Params → BT := fun P => .node (boot_o_9 P) (t530 P) (t538 P)
noncomputable def t540 : Params → BT := fun P => .node (o179 P) .nil .nil
noncomputable def t541 : Params → BT := fun P => .node (o95 P) (t540 P) .nil
noncomputable def t542 : Params → BT := fun P => .node (boot_o_7 P) (t541 P) (t383 P)
noncomputable def t543 : Params → BT := fun P => .node (o160 P) .nil .nil
noncomputable def t544 : Params → BT := fun P => .node (o68 P) (t144 P) (t543 P)
noncomputable def t545 : Params → BT := fun P => .node (boot_o_8 P) (t542 P) (t544 P)
noncomputable def t546 : Params → BT := fun P => .node (o54 P) (t264 P) (t0 P)
noncomputable def t547 : Params → BT := fun P => .node (o169 P) .nil .nil
noncomputable def t548 : Params → BT := fun P => .node (o84 P) (t0 P) (t547 P)
noncomputable def t549 : Params → BT := fun P => .node (boot_o_7 P) (t546 P) (t548 P)
noncomputable def t550 : Params → BT := fun P => .node (o18 P) (t545 P) (t549 P)
noncomputable def t551 : Params → BT := fun P => .node (o184 P) .nil .nil
noncomputable def t552 : Params → BT := fun P => .node (o100 P) (t551 P) .nil
noncomputable def t553 : Params → BT := fun P => .node (boot_o_8 P) (t552 P) (t390 P)
noncomputable def t554 : Params → BT := fun P => .node (o73 P) (t392 P) (t0 P)
noncomputable def t555 : Params → BT := fun P => .node (o31 P) (t553 P) (t554 P)
noncomputable def t556 : Params → BT := fun P => .node (o174 P) .nil .nil
noncomputable def t557 : Params → BT := fun P => .node (o88 P) (t395 P) (t556 P)
noncomputable def t558 : Params → BT := fun P => .node (o40 P) (t410 P) (t557 P)
noncomputable def t559 : Params → BT := fun P => .node (boot_o_7 P) (t555 P) (t558 P)
noncomputable def t560 : Params → BT := fun P => .node (o11 P) (t550 P) (t559 P)
noncomputable def t561 : Params → BT := fun P => .node (boot_o_5 P) (t539 P) (t560 P)
noncomputable def t562 : Params → BT := fun P => .node (boot_o_1 P) (t518 P) (t561 P)
noncomputable def t563 : Params → BT := fun P => .node (o91 P) (t6 P) .nil
noncomputable def t564 : Params → BT := fun P => .node (boot_o_7 P) (t563 P) (t0 P)
noncomputable def t565 : Params → BT := fun P => .node (o157 P) .nil .nil
noncomputable def t566 : Params → BT := fun P => .node (o64 P) (t0 P) (t565 P)
noncomputable def t567 : Params → BT := fun P => .node (boot_o_7 P) (t564 P) (t566 P)
noncomputable def t568 : Params → BT := fun P => .node (o187 P) .nil .nil
noncomputable def t569 : Params → BT := fun P => .node (boot_o_8 P) (t568 P) .nil
noncomputable def t570 : Params → BT := fun P => .node (o51 P) (t569 P) (t404 P)
noncomputable def t571 : Params → BT := fun P => .node (o167 P) .nil .nil
noncomputable def t572 : Params → BT := fun P => .node (o76 P) (t406 P) (t571 P)
noncomputable def t573 : Params → BT := fun P => .node (o33 P) (t570 P) (t572 P)
noncomputable def t574 : Params → BT := fun P => .node (boot_o_8 P) (t567 P) (t573 P)
noncomputable def t575 : Params → BT := fun P => .node (o180 P) .nil .nil
noncomputable def t576 : Params → BT := fun P => .node (boot_o_7 P) (t575 P) .nil
noncomputable def t577 : Params → BT := fun P => .node (boot_o_7 P) (t576 P) (t6 P)
noncomputable def t578 : Params → BT := fun P => .node (o162 P) .nil .nil
noncomputable def t579 : Params → BT := fun P => .node (boot_o_7 P) (t411 P) (t578 P)
noncomputable def t580 : Params → BT := fun P => .node (o28 P) (t577 P) (t579 P)
noncomputable def t581 : Params → BT := fun P => .node (o56 P) (t282 P) (t0 P)
noncomputable def t582 : Params → BT := fun P => .node (boot_o_7 P) (t414 P) (t0 P)
noncomputable def t583 : Params → BT := fun P => .node (o38 P) (t581 P) (t582 P)
noncomputable def t584 : Params → BT := fun P => .node (o19 P) (t580 P) (t583 P)
noncomputable def t585 : Params → BT := fun P => .node (boot_o_8 P) (t574 P) (t584 P)
noncomputable def t586 : Params → BT := fun P => .node (o178 P) .nil .nil
noncomputable def t587 : Params → BT := fun P => .node (boot_o_7 P) (t586 P) .nil
noncomputable def t588 : Params → BT := fun P => .node (o45 P) (t587 P) (t419 P)
noncomputable def t589 : Params → BT := fun P => .node (boot_o_7 P) (t588 P) (t410 P)
noncomputable def t590 : Params → BT := fun P => .node (o80 P) (t424 P) (t0 P)
noncomputable def t591 : Params → BT := fun P => .node (o35 P) (t423 P) (t590 P)
noncomputable def t592 : Params → BT := fun P => .node (o17 P) (t589 P) (t591 P)
noncomputable def t593 : Params → BT := fun P => .node (o183 P) .nil .nil
noncomputable def t594 : Params → BT := fun P => .node (o99 P) (t593 P) .nil
noncomputable def t595 : Params → BT := fun P => .node (boot_o_7 P) (t594 P) (t428 P)
noncomputable def t596 : Params → BT := fun P => .node (o164 P) .nil .nil
noncomputable def t597 : Params → BT := fun P => .node (o72 P) (t6 P) (t596 P)
noncomputable def t598 : Params → BT := fun P => .node (boot_o_8 P) (t595 P) (t597 P)
noncomputable def t599 : Params → BT := fun P => .node (o61 P) (t296 P) (t0 P)
noncomputable def t600 : Params → BT := fun P => .node (o173 P) .nil .nil
noncomputable def t601 : Params → BT := fun P => .node (boot_o_7 P) (t0 P) (t600 P)
noncomputable def t602 : Params → BT := fun P => .node (boot_o_7 P) (t599 P) (t601 P)
noncomputable def t603 : Params → BT := fun P => .node (o22 P) (t598 P) (t602 P)
noncomputable def t604 : Params → BT := fun P => .node (o151 P) (t592 P) (t603 P)
noncomputable def t605 : Params → BT := fun P => .node (boot_o_4 P) (t585 P) (t604 P)
noncomputable def t606 : Params → BT := fun P => .node (o66 P) (t0 P) .nil
noncomputable def t607 : Params → BT := fun P => .node (o43 P) (t606 P) (t436 P)
noncomputable def t608 : Params → BT := fun P => .node (o159 P) .nil .nil
noncomputable def t609 : Params → BT := fun P => .node (o66 P) (t303 P) (t608 P)
noncomputable def t610 : Params → BT := fun P => .node (o25 P) (t607 P) (t609 P)
noncomputable def t611 : Params → BT := fun P => .node (o189 P) .nil .nil
noncomputable def t612 : Params → BT := fun P => .node (boot_o_7 P) (t611 P) .nil
noncomputable def t613 : Params → BT := fun P => .node (o53 P) (t612 P) (t439 P)
noncomputable def t614 : Params → BT := fun P => .node (o78 P) (t0 P) (t6 P)
noncomputable def t615 : Params → BT := fun P => .node (boot_o_7 P) (t613 P) (t614 P)
noncomputable def t616 : Params → BT := fun P => .node (boot_o_7 P) (t610 P) (t615 P)
noncomputable def t617 : Params → BT := fun P => .node (o181 P) .nil .nil
noncomputable def t618 : Params → BT := fun P => .node (o98 P) (t617 P) .nil
noncomputable def t619 : Params → BT := fun P => .node (o48 P) (t618 P) (t0 P)
noncomputable def t620 : Params → BT := fun P => .node (o71 P) (t445 P) (t0 P)
noncomputable def t621 : Params → BT := fun P => .node (o30 P) (t619 P) (t620 P)
noncomputable def t622 : Params → BT := fun P => .node (o154 P) .nil .nil
noncomputable def t623 : Params → BT := fun P => .node (boot_o_7 P) (t312 P) (t622 P)
noncomputable def t624 : Params → BT := fun P => .node (o172 P) .nil .nil
noncomputable def t625 : Params → BT := fun P => .node (o86 P) (t6 P) (t624 P)
noncomputable def t626 : Params → BT := fun P => .node (boot_o_8 P) (t623 P) (t625 P)
noncomputable def t627 : Params → BT := fun P => .node (o20 P) (t621 P) (t626 P)
noncomputable def t628 : Params → BT := fun P => .node (boot_o_10 P) (t616 P) (t627 P)
noncomputable def t629 : Params → BT := fun P => .node (o96 P) (t0 P) .nil
noncomputable def t630 : Params → BT := fun P => .node (boot_o_8 P) (t629 P) (t452 P)
noncomputable def t631 : Params → BT := fun P => .node (o69 P) (t454 P) (t0 P)
noncomputable def t632 : Params → BT := fun P => .node (o27 P) (t630 P) (t631 P)
noncomputable def t633 : Params → BT := fun P => .node (boot_o_7 P) (t320 P) (t144 P)
noncomputable def t634 : Params → BT := fun P => .node (o170 P) .nil .nil
noncomputable def t635 : Params → BT := fun P => .node (o66 P) (t457 P) (t634 P)
noncomputable def t636 : Params → BT := fun P => .node (o36 P) (t633 P) (t635 P)
noncomputable def t637 : Params → BT := fun P => .node (boot_o_7 P) (t632 P) (t636 P)
noncomputable def t638 : Params → BT := fun P => .node (o185 P) .nil .nil
noncomputable def t639 : Params → BT := fun P => .node (o101 P) (t638 P) .nil
noncomputable def t640 : Params → BT := fun P => .node (o50 P) (t639 P) (t461 P)
noncomputable def t641 : Params → BT := fun P => .node (o165 P) .nil .nil
noncomputable def t642 : Params → BT := fun P => .node (o74 P) (t0 P) (t641 P)
noncomputable def t643 : Params → BT := fun P => .node (boot_o_7 P) (t640 P) (t642 P)
noncomputable def t644 : Params → BT := fun P => .node (o156 P) .nil .nil
noncomputable def t645 : Params → BT := fun P => .node (o62 P) (t6 P) (t644 P)
noncomputable def t646 : Params → BT := fun P => .node (o175 P) .nil .nil
noncomputable def t647 : Params → BT := fun P => .node (o89 P) (t465 P) (t646 P)
noncomputable def t648 : Params → BT := fun P => .node (o41 P) (t645 P) (t647 P)
noncomputable def t649 : Params → BT := fun P => .node (boot_o_8 P) (t643 P) (t648 P)
noncomputable def t650 : Params → BT := fun P => .node (o12 P) (t637 P) (t649 P)
noncomputable def t651 : Params → BT := fun P => .node (boot_o_6 P) (t628 P) (t650 P)
noncomputable def t652 : Params → BT := fun P => .node (o58 P) (t605 P) (t651 P)
noncomputable def t653 : Params → BT := fun P => .node (boot_o_0 P) (t562 P) (t652 P)
noncomputable def o191 : Params → Obj := fun P => ⟨(.type "dict"),none,(.dict #[⟨(PySem.PyData.keyHash P (.ofString "__name__")),(.str (.ofString "__name__") 165),(.str (.ofString "outlinemill.hint_zones") 642)⟩,⟨(PySem.PyData.keyHash P (.ofString "__doc__")),(.str (.ofString "__doc__") 166),.none⟩,⟨(PySem.PyData.keyHash P (.ofString "__package__")),(.str (.ofString "__package__") 167),.none⟩,⟨(PySem.PyData.keyHash P (.ofString "__loader__")),(.str (.ofString "__loader__") 168),(.builtin "__main__.__loader__#\x6fpaque")⟩,⟨(PySem.PyData.keyHash P (.ofString "__spec__")),(.str (.ofString "__spec__") 169),.none⟩,⟨(PySem.PyData.keyHash P (.ofString "__annotations__")),(.str (.ofString "__annotations__") 170),(.ref 6)⟩,⟨(PySem.PyData.keyHash P (.ofString "__builtins__")),(.str (.ofString "__builtins__") 171),(.ref 4)⟩,⟨(PySem.PyData.keyHash P (.ofString "__file__")),(.str (.ofString "__file__") 173),(.str (.ofString "/claim/cut.py") 172)⟩,⟨(PySem.PyData.keyHash P (.ofString "__cached__")),(.str (.ofString "__cached__") 174),.none⟩,⟨(PySem.PyData.keyHash P (.ofString "_wall")),(.str (.ofString "_wall") 193),(.ref 21)⟩,⟨(PySem.PyData.keyHash P (.ofString "ONE14")),(.str (.ofString "ONE14") 197),(.int 16384 196)⟩,⟨(PySem.PyData.keyHash P (.ofString "muldiv")),(.str (.ofString "muldiv") 207),(.ref 28)⟩,⟨(PySem.PyData.keyHash P (.ofString "wrap32")),(.str (.ofString "wrap32") 214),(.ref 35)⟩,⟨(PySem.PyData.keyHash P (.ofString "drawn_place")),(.str (.ofString "drawn_place") 225),(.ref 42)⟩,⟨(PySem.PyData.keyHash P (.ofString "put_part")),(.str (.ofString "put_part") 237),(.ref 49)⟩,⟨(PySem.PyData.keyHash P (.ofString "pair_of")),(.str (.ofString "pair_of") 246),(.ref 56)⟩,⟨(PySem.PyData.keyHash P (.ofString "draw_between")),(.str (.ofString "draw_between") 260),(.ref 63)⟩,⟨(PySem.PyData.keyHash P (.ofString "draw_contour")),(.str (.ofString "draw_contour") 266),(.ref 68)⟩,⟨(PySem.PyData.keyHash P (.ofString "touch")),(.str (.ofString "touch") 277),(.ref 75)⟩,⟨(PySem.PyData.keyHash P (.ofString "shifted")),(.str (.ofString "shifted") 290),(.ref 82)⟩,⟨(PySem.PyData.keyHash P (.ofString "axis_of")),(.str (.ofString "axis_of") 299),(.ref 89)⟩,⟨(PySem.PyData.keyHash P (.ofString "do_axes")),(.str (.ofString "do_axes") 308),(.ref 96)⟩,⟨(PySem.PyData.keyHash P (.ofString "MillError")),(.str (.ofString "MillError") 339),(.ref 113)⟩,⟨(PySem.PyData.keyHash P (.ofString "HintFault")),(.str (.ofString "HintFault") 355),(.ref 126)⟩,⟨(PySem.PyData.keyHash P (.ofString "Rounding")),(.str (.ofString "Rounding") 397),(.ref 152)⟩,⟨(PySem.PyData.keyHash P (.ofString "named")),(.str (.ofString "named") 408),(.ref 163)⟩,⟨(PySem.PyData.keyHash P (.ofString "GraphicsState")),(.str (.ofString "GraphicsState") 487),(.ref 208)⟩,⟨(PySem.PyData.keyHash P (.ofString "HintStack")),(.str (.ofString "HintStack") 563),(.ref 271)⟩,⟨(PySem.PyData.keyHash P (.ofString "HintWork")),(.str (.ofString "HintWork") 641),(.ref 322)⟩] 29),#[]⟩
noncomputable def o192 : Params → Obj := fun P => ⟨.none,none,(.fields #[(.int 1 0),(.int 0 0),(.ref 20),(.int 6 0),(.int 0 0),(.ref 27),(.int 13 0),(.int 0 0),(.ref 34),(.int 16 0),(.int 0 0),(.ref 41),(.int 22 0),(.int 0 0),(.ref 48),(.int 25 0),(.int 0 0),(.ref 55),(.int 27 0),(.int 0 0),(.ref 62),(.int 33 0),(.int 0 0),(.ref 67),(.int 46 0),(.int 0 0),(.ref 74),(.int 51 0),(.int 0 0),(.ref 81),(.int 61 0),(.int 0 0),(.ref 88),(.int 63 0),(.int 0 0),(.ref 95),(.int 71 0),(.int 0 0),(.ref 102),(.int 75 0),(.int 0 0),(.ref 122),(.int 78 0),(.int 0 0),(.ref 134),(.int 87 0),(.int 0 0),(.ref 162),(.int 94 0),(.int 0 0),(.ref 169),(.int 128 0),(.int 0 0),(.ref 218),(.int 151 0),(.int 0 0),(.ref 281)]),#[]⟩
noncomputable def o193 : Params → Obj := fun P => ⟨(.type "dict"),none,(.dict #[⟨(PySem.PyData.keyHash P (.ofString "__module__")),(.str (.ofString "__module__") 571),(.str (.ofString "outlinemill.hint_work") 488)⟩,⟨(PySem.PyData.keyHash P (.ofString "__qualname__")),(.str (.ofString "__qualname__") 573),(.str (.ofString "HintWork") 572)⟩,⟨(PySem.PyData.keyHash P (.ofString "__firstlineno__")),(.str (.ofString "__firstlineno__") 575),(.int 151 574)⟩,⟨(PySem.PyData.keyHash P (.ofString "__init__")),(.str (.ofString "__init__") 593),(.ref 291)⟩,⟨(PySem.PyData.keyHash P (.ofString "zone")),(.str (.ofString "zone") 601),(.ref 298)⟩,⟨(PySem.PyData.keyHash P (.ofString "cvt_value")),(.str (.ofString "cvt_value") 609),(.ref 305)⟩,⟨(PySem.PyData.keyHash P (.ofString "put_cvt")),(.str (.ofString "put_cvt") 618),(.ref 312)⟩,⟨(PySem.PyData.keyHash P (.ofString "next_loop")),(.str (.ofString "next_loop") 625),(.ref 319)⟩,⟨(PySem.PyData.keyHash P (.ofString "__static_attributes__")),(.str (.ofString "__static_attributes__") 634),(.ref 320)⟩] 9),#[]⟩
noncomputable def o194 : Params → Obj := fun P => ⟨.none,none,(.fields #[(.int 153 0),(.int 4 0),(.ref 290),(.int 163 0),(.int 4 0),(.ref 297),(.int 168 0),(.int 4 0),(.ref 304),(.int 171 0),(.int 4 0),(.ref 311),(.int 174 0),(.int 4 0),(.ref 318)]),#[]⟩
noncomputable def o195 : Params → Obj := fun P => ⟨(.type "code"),none,(.fields #[(.str (.ofString "HintWork") 566),(.str (.ofString "HintWork") 567),(.str (.ofString "/claim/cut.py") 568),(.int 151 0),(.int 0 0),(.int 0 0),(.int 0 0),(.int 0 0),(.ref 279),(.bool false),(.int 181 0),(.ref 280),.none,.none,.none,.none,(.int 569 0),(.int 151 0),(.str (.ofString "/claim/cut.py") 570)]),#[]⟩
noncomputable def o196 : Params → Obj := fun P => ⟨(.type "frame"),none,.plain,#[(some (.ref 281)),(some (.ref 3)),(some (.ref 278)),none,(some (.str (.ofString "outlinemill.hint_work") 488)),none,(some (.ref 0))]⟩
noncomputable def o197 : Params → Obj := fun P => ⟨(.type "tuple"),none,(.seq #[(.int 1 579),(.int 1 580)] 0),#[]⟩
noncomputable def o198 : Params → Obj := fun P => ⟨(.type "tuple"),none,(.seq #[(.int 64 576),(.int 12 577),(.int 768 578),(.ref 283)] 0),#[]⟩
noncomputable def o199 : Params → Obj := fun P => ⟨(.type "tuple"),none,(.seq #[(.str (.ofString "self") 584),(.str (.ofString "zones") 585),(.str (.ofString "cvt") 586),(.str (.ofString "stack_most") 587),(.str (.ofString "ppem") 588),(.str (.ofString "point_size") 589),(.str (.ofString "scale") 590)] 0),#[]⟩
noncomputable def o200 : Params → Obj := by
  refine (?g : ∀ n a b d r t s ts bi q, stIn 27 0 = some (.FunctionDef n a b d r t s ts bi q) → Params → Obj) _ _ _ _ _ _ _ _ _ _ rfl
  exact fun n a b _ _ _ s _ _ _ _ P => ⟨.none,none,(.func ⟨(.ofString "__init__"),(.ofString "HintWork.__init__"),a,(.stmts b),s,0,[],.none,.none,.none,.none,none,.none,.none,0⟩),#[]⟩
noncomputable def o201 : Params → Obj := fun P => ⟨(.type "code"),none,(.fields #[(.str (.ofString "__init__") 581),(.str (.ofString "HintWork.__init__") 582),(.str (.ofString "/claim/cut.py") 583),(.int 153 0),(.int 7 0),(.int 0 0),(.int 0 0),(.int 3 0),(.ref 285),(.bool true),(.int 181 0),(.ref 286),.none,(.ref 287),(.ref 288),(.ref 289),(.int 591 0),(.int 153 0),(.str (.ofString "/claim/cut.py") 592)]),#[]⟩
noncomputable def o202 : Params → Obj := by
  refine (?g : ∀ n a b d r t s ts bi q, stIn 27 0 = some (.FunctionDef n a b d r t s ts bi q) → Params → Obj) _ _ _ _ _ _ _ _ _ _ rfl
  exact fun n a b _ _ _ s _ _ _ _ P => ⟨(.type "function"),none,(.func ⟨(.ofString "__init__"),(.ofString "HintWork.__init__"),a,(.stmts b),s,3,[],(.ref 284),.none,.none,(.str (.ofString "outlinemill.hint_work") 488),none,(.ref 290),.none,0⟩),#[]⟩
noncomputable def o203 : Params → Obj := fun P => ⟨(.type "tuple"),none,(.seq #[(.str (.ofString "self") 597),(.str (.ofString "number") 598)] 0),#[]⟩
noncomputable def o204 : Params → Obj := by
  refine (?g : ∀ n a b d r t s ts bi q, stIn 27 1 = some (.FunctionDef n a b d r t s ts bi q) → Params → Obj) _ _ _ _ _ _ _ _ _ _ rfl
  exact fun n a b _ _ _ s _ _ _ _ P => ⟨.none,none,(.func ⟨(.ofString "zone"),(.ofString "HintWork.zone"),a,(.stmts b),s,0,[],.none,.none,.none,.none,none,.none,.none,0⟩),#[]⟩
noncomputable def o205 : Params → Obj := fun P => ⟨(.type "code"),none,(.fields #[(.str (.ofString "zone") 594),(.str (.ofString "HintWork.zone") 595),(.str (.ofString "/claim/cut.py") 596),(.int 163 0),(.int 2 0),(.int 0 0),(.int 0 0),(.int 3 0),(.ref 292),(.bool true),(.int 181 0),(.ref 293),.none,(.ref 294),(.ref 295),(.ref 296),(.int 599 0),(.int 163 0),(.str (.ofString "/claim/cut.py") 600)]),#[]⟩
noncomputable def o206 : Params → Obj := by
  refine (?g : ∀ n a b d r t s ts bi q, stIn 27 1 = some (.FunctionDef n a b d r t s ts bi q) → Params → Obj) _ _ _ _ _ _ _ _ _ _ rfl
  exact fun n a b _ _ _ s _ _ _ _ P => ⟨(.type "function"),none,(.func ⟨(.ofString "zone"),(.ofString "HintWork.zone"),a,(.stmts b),s,3,[],.none,.none,.none,(.str (.ofString "outlinemill.hint_work") 488),none,(.ref 297),.none,0⟩),#[]⟩
noncomputable def o207 : Params → Obj := fun P => ⟨(.type "tuple"),none,(.seq #[(.str (.ofString "self") 605),(.str (.ofString "i") 606)] 0),#[]⟩
noncomputable def o208 : Params → Obj := by
  refine (?g : ∀ n a b d r t s ts bi q, stIn 27 2 = some (.FunctionDef n a b d r t s ts bi q) → Params → Obj) _ _ _ _ _ _ _ _ _ _ rfl
  exact fun n a b _ _ _ s _ _ _ _ P => ⟨.none,none,(.func ⟨(.ofString "cvt_value"),(.ofString "HintWork.cvt_value"),a,(.stmts b),s,0,[],.none,.none,.none,.none,none,.none,.none,0⟩),#[]⟩
noncomputable def o209 : Params → Obj := fun P => ⟨(.type "code"),none,(.fields #[(.str (.ofString "cvt_value") 602),(.str (.ofString "HintWork.cvt_value") 603),(.str (.ofString "/claim/cut.py") 604),(.int 168 0),(.int 2 0),(.int 0 0),(.int 0 0),(.int 3 0),(.ref 299),(.bool true),(.int 181 0),(.ref 300),.none,(.ref 301),(.ref 302),(.ref 303),(.int 607 0),(.int 168 0),(.str (.ofString "/claim/cut.py") 608)]),#[]⟩
noncomputable def o210 : Params → Obj := by
  refine (?g : ∀ n a b d r t s ts bi q, stIn 27 2 = some (.FunctionDef n a b d r t s ts bi q) → Params → Obj) _ _ _ _ _ _ _ _ _ _ rfl
  exact fun n a b _ _ _ s _ _ _ _ P => ⟨(.type "function"),none,(.func ⟨(.ofString "cvt_value"),(.ofString "HintWork.cvt_value"),a,(.stmts b),s,3,[],.none,.none,.none,(.str (.ofString "outlinemill.hint_work") 488),none,(.ref 304),.none,0⟩),#[]⟩
noncomputable def o211 : Params → Obj := fun P => ⟨(.type "tuple"),none,(.seq #[(.str (.ofString "self") 613),(.str (.ofString "i") 614),(.str (.ofString "value") 615)] 0),#[]⟩
noncomputable def o212 : Params → Obj := by
  refine (?g : ∀ n a b d r t s ts bi q, stIn 27 3 = some (.FunctionDef n a b d r t s ts bi q) → Params → Obj) _ _ _ _ _ _ _ _ _ _ rfl
  exact fun n a b _ _ _ s _ _ _ _ P => ⟨.none,none,(.func ⟨(.ofString "put_cvt"),(.ofString "HintWork.put_cvt"),a,(.stmts b),s,0,[],.none,.none,.none,.none,none,.none,.none,0⟩),#[]⟩
noncomputable def o213 : Params → Obj := fun P => ⟨(.type "code"),none,(.fields #[(.str (.ofString "put_cvt") 610),(.str (.ofString "HintWork.put_cvt") 611),(.str (.ofString "/claim/cut.py") 612),(.int 171 0),(.int 3 0),(.int 0 0),(.int 0 0),(.int 3 0),(.ref 306),(.bool true),(.int 181 0),(.ref 307),.none,(.ref 308),(.ref 309),(.ref 310),(.int 616 0),(.int 171 0),(.str (.ofString "/claim/cut.py") 617)]),#[]⟩
noncomputable def o214 : Params → Obj := by
  refine (?g : ∀ n a b d r t s ts bi q, stIn 27 3 = some (.FunctionDef n a b d r t s ts bi q) → Params → Obj) _ _ _ _ _ _ _ _ _ _ rfl
  exact fun n a b _ _ _ s _ _ _ _ P => ⟨(.type "function"),none,(.func ⟨(.ofString "put_cvt"),(.ofString "HintWork.put_cvt"),a,(.stmts b),s,3,[],.none,.none,.none,(.str (.ofString "outlinemill.hint_work") 488),none,(.ref 311),.none,0⟩),#[]⟩
noncomputable def o215 : Params → Obj := fun P => ⟨(.type "tuple"),none,(.seq #[(.str (.ofString "self") 622)] 0),#[]⟩
noncomputable def o216 : Params → Obj := by
  refine (?g : ∀ n a b d r t s ts bi q, stIn 27 4 = some (.FunctionDef n a b d r t s ts bi q) → Params → Obj) _ _ _ _ _ _ _ _ _ _ rfl
  exact fun n a b _ _ _ s _ _ _ _ P => ⟨.none,none,(.func ⟨(.ofString "next_loop"),(.ofString "HintWork.next_loop"),a,(.stmts b),s,0,[],.none,.none,.none,.none,none,.none,.none,0⟩),#[]⟩
noncomputable def o217 : Params → Obj := fun P => ⟨(.type "code"),none,(.fields #[(.str (.ofString "next_loop") 619),(.str (.ofString "HintWork.next_loop") 620),(.str (.ofString "/claim/cut.py") 621),(.int 174 0),(.int 1 0),(.int 0 0),(.int 0 0),(.int 3 0),(.ref 313),(.bool true),(.int 181 0),(.ref 314),.none,(.ref 315),(.ref 316),(.ref 317),(.int 623 0),(.int 174 0),(.str (.ofString "/claim/cut.py") 624)]),#[]⟩
noncomputable def o218 : Params → Obj := by
  refine (?g : ∀ n a b d r t s ts bi q, stIn 27 4 = some (.FunctionDef n a b d r t s ts bi q) → Params → Obj) _ _ _ _ _ _ _ _ _ _ rfl
  exact fun n a b _ _ _ s _ _ _ _ P => ⟨(.type "function"),none,(.func ⟨(.ofString "next_loop"),(.ofString "HintWork.next_loop"),a,(.stmts b),s,3,[],.none,.none,.none,(.str (.ofString "outlinemill.hint_work") 488),none,(.ref 318),.none,0⟩),#[]⟩
noncomputable def o219 : Params → Obj := fun P => ⟨(.type "tuple"),none,(.seq #[(.str (.ofString "cvt") 626),(.str (.ofString "point_size") 627),(.str (.ofString "ppem") 628),(.str (.ofString "scale") 629),(.str (.ofString "stack") 630),(.str (.ofString "state") 631),(.str (.ofString "storage") 632),(.str (.ofString "zones") 633)] 0),#[]⟩
noncomputable def o220 : Params → Obj := fun P => ⟨(.type "dict"),none,(.dict #[⟨(PySem.PyData.keyHash P (.ofString "__module__")),(.str (.ofString "__module__") 571),(.str (.ofString "outlinemill.hint_work") 488)⟩,⟨(PySem.PyData.keyHash P (.ofString "__firstlineno__")),(.str (.ofString "__firstlineno__") 575),(.int 151 574)⟩,⟨(PySem.PyData.keyHash P (.ofString "__init__")),(.str (.ofString "__init__") 593),(.ref 291)⟩,⟨(PySem.PyData.keyHash P (.ofString "zone")),(.str (.ofString "zone") 601),(.ref 298)⟩,⟨(PySem.PyData.keyHash P (.ofString "cvt_value")),(.str (.ofString "cvt_value") 609),(.ref 305)⟩,⟨(PySem.PyData.keyHash P (.ofString "put_cvt")),(.str (.ofString "put_cvt") 618),(.ref 312)⟩,⟨(PySem.PyData.keyHash P (.ofString "next_loop")),(.str (.ofString "next_loop") 625),(.ref 319)⟩,⟨(PySem.PyData.keyHash P (.ofString "__static_attributes__")),(.str (.ofString "__static_attributes__") 634),(.ref 320)⟩,⟨(PySem.PyData.keyHash P (.ofString "__dict__")),(.str (.ofString "__dict__") 636),(.ref 323)⟩,⟨(PySem.PyData.keyHash P (.ofString "__weakref__")),(.str (.ofString "__weakref__") 638),(.ref 324)⟩,⟨(PySem.PyData.keyHash P (.ofString "__doc__")),(.str (.ofString "__doc__") 639),.none⟩] 4),#[]⟩
noncomputable def o221 : Params → Obj := fun P => ⟨(.type "type"),none,(.cls ⟨(.ofString "HintWork"),[(.type "object")],[(.ref 322),(.type "object")],321,(.ofString "HintWork"),true,[],[],false,none,false⟩),#[none,none,(some (.str (.ofString "HintWork") 564)),(some (.str (.ofString "HintWork") 572)),(some (.builtin "object.__new__")),(some (.bool true))]⟩
noncomputable def o222 : Params → Obj := fun P => ⟨(.type "getset_descriptor"),none,(.fields #[(.str (.ofString "__dict__") 635),(.ref 322),(.builtin "function.__dict__"),(.builtin "function.__dict__#set")]),#[]⟩
noncomputable def o223 : Params → Obj := fun P => ⟨(.type "getset_descriptor"),none,(.fields #[(.str (.ofString "__weakref__") 637),(.ref 322),(.builtin "ExceptionGroup.__weakref__"),.none]),#[]⟩
noncomputable def o224 : Params → Obj := fun P => ⟨(.type "super"),none,(.fields #[(.ref 322),(.ref 322),(.ref 322)]),#[]⟩
noncomputable def o225 : Params → Obj := fun P => ⟨(.type "builtin_function_or_method"),none,(.fields #[(.builtin "object.__init_subclass__"),(.ref 322)]),#[]⟩
noncomputable def t654 : Params → BT := fun P => .node (o218 P) .nil .nil
noncomputable def t655 : Params → BT := fun P => .node (o134 P) (t654 P) .nil
noncomputable def t656 : Params → BT := fun P => .node (o42 P) (t473 P) (t655 P)
noncomputable def t657 : Params → BT := fun P => .node (o199 P) .nil .nil
noncomputable def t658 : Params → BT := fun P => .node (o113 P) (t657 P) .nil
noncomputable def t659 : Params → BT := fun P => .node (o63 P) (t658 P) (t0 P)
noncomputable def t660 : Params → BT := fun P => .node (o23 P) (t656 P) (t659 P)
noncomputable def t661 : Params → BT := fun P => .node (o208 P) .nil .nil
noncomputable def t662 : Params → BT := fun P => .node (o124 P) (t661 P) .nil
noncomputable def t663 : Params → BT := fun P => .node (o75 P) (t662 P) (t480 P)
noncomputable def t664 : Params → BT := fun P => .node (o32 P) (t479 P) (t663 P)
noncomputable def t665 : Params → BT := fun P => .node (boot_o_7 P) (t660 P) (t664 P)
noncomputable def t666 : Params → BT := fun P => .node (o70 P) (t52 P) (t486 P)
noncomputable def t667 : Params → BT := fun P => .node (boot_o_7 P) (t485 P) (t666 P)
noncomputable def t668 : Params → BT := fun P => .node (o107 P) (t0 P) .nil
noncomputable def t669 : Params → BT := fun P => .node (o55 P) (t668 P) (t489 P)
noncomputable def t670 : Params → BT := fun P => .node (o213 P) .nil .nil
noncomputable def t671 : Params → BT := fun P => .node (o129 P) (t670 P) .nil
noncomputable def t672 : Params → BT := fun P => .node (o85 P) (t671 P) (t491 P)
noncomputable def t673 : Params → BT := fun P => .node (o37 P) (t669 P) (t672 P)
noncomputable def t674 : Params → BT := fun P => .node (boot_o_8 P) (t667 P) (t673 P)
noncomputable def t675 : Params → BT := fun P => .node (boot_o_7 P) (t665 P) (t674 P)
noncomputable def t676 : Params → BT := fun P => .node (o222 P) .nil .nil
noncomputable def t677 : Params → BT := fun P => .node (boot_o_7 P) (t676 P) .nil
noncomputable def t678 : Params → BT := fun P => .node (o44 P) (t497 P) (t677 P)
noncomputable def t679 : Params → BT := fun P => .node (o202 P) .nil .nil
noncomputable def t680 : Params → BT := fun P => .node (o116 P) (t679 P) .nil
noncomputable def t681 : Params → BT := fun P => .node (o67 P) (t680 P) (t0 P)
noncomputable def t682 : Params → BT := fun P => .node (o26 P) (t678 P) (t681 P)
noncomputable def t683 : Params → BT := fun P => .node (boot_o_8 P) (t6 P) .nil
noncomputable def t684 : Params → BT := fun P => .node (o79 P) (t683 P) (t504 P)
noncomputable def t685 : Params → BT := fun P => .node (boot_o_8 P) (t503 P) (t684 P)
noncomputable def t686 : Params → BT := fun P => .node (o16 P) (t682 P) (t685 P)
noncomputable def t687 : Params → BT := fun P => .node (boot_o_7 P) (t52 P) (t6 P)
noncomputable def t688 : Params → BT := fun P => .node (boot_o_7 P) (t510 P) (t687 P)
noncomputable def t689 : Params → BT := fun P => .node (o197 P) .nil .nil
noncomputable def t690 : Params → BT := fun P => .node (o111 P) (t689 P) .nil
noncomputable def t691 : Params → BT := fun P => .node (boot_o_8 P) (t690 P) (t512 P)
noncomputable def t692 : Params → BT := fun P => .node (o215 P) .nil .nil
noncomputable def t693 : Params → BT := fun P => .node (o131 P) (t692 P) .nil
noncomputable def t694 : Params → BT := fun P => .node (o87 P) (t693 P) (t0 P)
noncomputable def t695 : Params → BT := fun P => .node (o39 P) (t691 P) (t694 P)
noncomputable def t696 : Params → BT := fun P => .node (o21 P) (t688 P) (t695 P)
noncomputable def t697 : Params → BT := fun P => .node (boot_o_7 P) (t686 P) (t696 P)
noncomputable def t698 : Params → BT := fun P => .node (o191 P) (t675 P) (t697 P)
noncomputable def t699 : Params → BT := fun P => .node (o220 P) .nil .nil
noncomputable def t700 : Params → BT := fun P => .node (boot_o_8 P) (t699 P) .nil
noncomputable def t701 : Params → BT := fun P => .node (boot_o_8 P) (t520 P) (t700 P)
noncomputable def t702 : Params → BT := fun P => .node (o200 P) .nil .nil
noncomputable def t703 : Params → BT := fun P => .node (o114 P) (t702 P) .nil
noncomputable def t704 : Params → BT := fun P => .node (o65 P) (t703 P) (t522 P)
noncomputable def t705 : Params → BT := fun P => .node (o24 P) (t701 P) (t704 P)
noncomputable def t706 : Params → BT := fun P => .node (o210 P) .nil .nil
noncomputable def t707 : Params → BT := fun P => .node (o126 P) (t706 P) .nil
noncomputable def t708 : Params → BT := fun P => .node (o83 P) (t707 P) (t0 P)
noncomputable def t709 : Params → BT := fun P => .node (o34 P) (t527 P) (t708 P)
noncomputable def t710 : Params → BT := fun P => .node (o15 P) (t705 P) (t709 P)
noncomputable def t711 : Params → BT := fun P => .node (o205 P) .nil .nil
noncomputable def t712 : Params → BT := fun P => .node (o121 P) (t711 P) .nil
noncomputable def t713 : Params → BT := fun P => .node (boot_o_8 P) (t712 P) (t532 P)
noncomputable def t714 : Params → BT := fun P => .node (o29 P) (t531 P) (t713 P)
noncomputable def t715 : Params → BT := fun P => .node (o195 P) .nil .nil
noncomputable def t716 : Params → BT := fun P => .node (o109 P) (t715 P) .nil
noncomputable def t717 : Params → BT := fun P => .node (o57 P) (t716 P) (t535 P)
noncomputable def t718 : Params → BT := fun P => .node (boot_o_8 P) (t52 P) (t6 P)
noncomputable def t719 : Params → BT := fun P => .node (boot_o_7 P) (t717 P) (t718 P)
noncomputable def t720 : Params → BT := fun P => .node (boot_o_7 P) (t714 P) (t719 P)
noncomputable def t721 : Params → BT := fun P => .node (boot_o_9 P) (t710 P) (t720 P)
noncomputable def t722 : Params → BT := fun P => .node (o224 P) .nil .nil
noncomputable def t723 : Params → BT := fun P => .node (o137 P) (t722 P) .nil
noncomputable def t724 : Params → BT := fun P => .node (boot_o_7 P) (t541 P) (t723 P)
noncomputable def t725 : Params → BT := fun P => .node (o66 P) (t6 P) .nil
noncomputable def t726 : Params → BT := fun P => .node (o68 P) (t725 P) (t543 P)
noncomputable def t727 : Params → BT := fun P => .node (boot_o_8 P) (t724 P) (t726 P)
noncomputable def t728 : Params → BT := fun P => .node (o105 P) (t144 P) .nil
noncomputable def t729 : Params → BT := fun P => .node (o54 P) (t728 P) (t0 P)
noncomputable def t730 : Params → BT := fun P => .node (o84 P) (t52 P) (t547 P)
noncomputable def t731 : Params → BT := fun P => .node (boot_o_7 P) (t729 P) (t730 P)
noncomputable def t732 : Params → BT := fun P => .node (o18 P) (t727 P) (t731 P)
noncomputable def t733 : Params → BT := fun P => .node (o207 P) .nil .nil
noncomputable def t734 : Params → BT := fun P => .node (o123 P) (t733 P) .nil
noncomputable def t735 : Params → BT := fun P => .node (o73 P) (t734 P) (t0 P)
noncomputable def t736 : Params → BT := fun P => .node (o31 P) (t553 P) (t735 P)
noncomputable def t737 : Params → BT := fun P => .node (o216 P) .nil .nil
noncomputable def t738 : Params → BT := fun P => .node (o132 P) (t737 P) .nil
noncomputable def t739 : Params → BT := fun P => .node (o88 P) (t738 P) (t556 P)
noncomputable def t740 : Params → BT := fun P => .node (o40 P) (t687 P) (t739 P)
noncomputable def t741 : Params → BT := fun P => .node (boot_o_7 P) (t736 P) (t740 P)
noncomputable def t742 : Params → BT := fun P => .node (o11 P) (t732 P) (t741 P)
noncomputable def t743 : Params → BT := fun P => .node (boot_o_5 P) (t721 P) (t742 P)
noncomputable def t744 : Params → BT := fun P => .node (boot_o_1 P) (t698 P) (t743 P)
noncomputable def t745 : Params → BT := fun P => .node (o219 P) .nil .nil
noncomputable def t746 : Params → BT := fun P => .node (boot_o_7 P) (t745 P) .nil
noncomputable def t747 : Params → BT := fun P => .node (boot_o_7 P) (t563 P) (t746 P)
noncomputable def t748 : Params → BT := fun P => .node (o64 P) (t52 P) (t565 P)
noncomputable def t749 : Params → BT := fun P => .node (boot_o_7 P) (t747 P) (t748 P)
noncomputable def t750 : Params → BT := fun P => .node (o209 P) .nil .nil
noncomputable def t751 : Params → BT := fun P => .node (o125 P) (t750 P) .nil
noncomputable def t752 : Params → BT := fun P => .node (o76 P) (t751 P) (t571 P)
noncomputable def t753 : Params → BT := fun P => .node (o33 P) (t570 P) (t752 P)
noncomputable def t754 : Params → BT := fun P => .node (boot_o_8 P) (t749 P) (t753 P)
noncomputable def t755 : Params → BT := fun P => .node (o204 P) .nil .nil
noncomputable def t756 : Params → BT := fun P => .node (o120 P) (t755 P) .nil
noncomputable def t757 : Params → BT := fun P => .node (boot_o_7 P) (t756 P) (t578 P)
noncomputable def t758 : Params → BT := fun P => .node (o28 P) (t577 P) (t757 P)
noncomputable def t759 : Params → BT := fun P => .node (o194 P) .nil .nil
noncomputable def t760 : Params → BT := fun P => .node (o108 P) (t759 P) .nil
noncomputable def t761 : Params → BT := fun P => .node (o56 P) (t760 P) (t0 P)
noncomputable def t762 : Params → BT := fun P => .node (o214 P) .nil .nil
noncomputable def t763 : Params → BT := fun P => .node (o130 P) (t762 P) .nil
noncomputable def t764 : Params → BT := fun P => .node (boot_o_7 P) (t763 P) (t0 P)
noncomputable def t765 : Params → BT := fun P => .node (o38 P) (t761 P) (t764 P)
noncomputable def t766 : Params → BT := fun P => .node (o19 P) (t758 P) (t765 P)
noncomputable def t767 : Params → BT := fun P => .node (boot_o_8 P) (t754 P) (t766 P)
noncomputable def t768 : Params → BT := fun P => .node (o223 P) .nil .nil
noncomputable def t769 : Params → BT := fun P => .node (o136 P) (t768 P) .nil
noncomputable def t770 : Params → BT := fun P => .node (o45 P) (t587 P) (t769 P)
noncomputable def t771 : Params → BT := fun P => .node (boot_o_7 P) (t770 P) (t687 P)
noncomputable def t772 : Params → BT := fun P => .node (o104 P) (t0 P) .nil
noncomputable def t773 : Params → BT := fun P => .node (boot_o_8 P) (t772 P) (t422 P)
noncomputable def t774 : Params → BT := fun P => .node (o211 P) .nil .nil
noncomputable def t775 : Params → BT := fun P => .node (o127 P) (t774 P) .nil
noncomputable def t776 : Params → BT := fun P => .node (o80 P) (t775 P) (t0 P)
noncomputable def t777 : Params → BT := fun P => .node (o35 P) (t773 P) (t776 P)
noncomputable def t778 : Params → BT := fun P => .node (o17 P) (t771 P) (t777 P)
noncomputable def t779 : Params → BT := fun P => .node (o72 P) (t683 P) (t596 P)
noncomputable def t780 : Params → BT := fun P => .node (boot_o_8 P) (t595 P) (t779 P)
noncomputable def t781 : Params → BT := fun P => .node (o198 P) .nil .nil
noncomputable def t782 : Params → BT := fun P => .node (o112 P) (t781 P) .nil
noncomputable def t783 : Params → BT := fun P => .node (o61 P) (t782 P) (t0 P)
noncomputable def t784 : Params → BT := fun P => .node (boot_o_7 P) (t52 P) (t600 P)
noncomputable def t785 : Params → BT := fun P => .node (boot_o_7 P) (t783 P) (t784 P)
noncomputable def t786 : Params → BT := fun P => .node (o22 P) (t780 P) (t785 P)
noncomputable def t787 : Params → BT := fun P => .node (o192 P) (t778 P) (t786 P)
noncomputable def t788 : Params → BT := fun P => .node (boot_o_4 P) (t767 P) (t787 P)
noncomputable def t789 : Params → BT := fun P => .node (o221 P) .nil .nil
noncomputable def t790 : Params → BT := fun P => .node (o135 P) (t789 P) .nil
noncomputable def t791 : Params → BT := fun P => .node (o43 P) (t606 P) (t790 P)
noncomputable def t792 : Params → BT := fun P => .node (o201 P) .nil .nil
noncomputable def t793 : Params → BT := fun P => .node (o115 P) (t792 P) .nil
noncomputable def t794 : Params → BT := fun P => .node (o66 P) (t793 P) (t608 P)
noncomputable def t795 : Params → BT := fun P => .node (o25 P) (t791 P) (t794 P)
noncomputable def t796 : Params → BT := fun P => .node (o78 P) (t52 P) (t6 P)
noncomputable def t797 : Params → BT := fun P => .node (boot_o_7 P) (t613 P) (t796 P)
noncomputable def t798 : Params → BT := fun P => .node (boot_o_7 P) (t795 P) (t797 P)
noncomputable def t799 : Params → BT := fun P => .node (o206 P) .nil .nil
noncomputable def t800 : Params → BT := fun P => .node (o122 P) (t799 P) .nil
noncomputable def t801 : Params → BT := fun P => .node (o71 P) (t800 P) (t0 P)
noncomputable def t802 : Params → BT := fun P => .node (o30 P) (t619 P) (t801 P)
noncomputable def t803 : Params → BT := fun P => .node (o196 P) .nil .nil
noncomputable def t804 : Params → BT := fun P => .node (o110 P) (t803 P) .nil
noncomputable def t805 : Params → BT := fun P => .node (boot_o_7 P) (t804 P) (t622 P)
noncomputable def t806 : Params → BT := fun P => .node (o86 P) (t683 P) (t624 P)
noncomputable def t807 : Params → BT := fun P => .node (boot_o_8 P) (t805 P) (t806 P)
noncomputable def t808 : Params → BT := fun P => .node (o20 P) (t802 P) (t807 P)
noncomputable def t809 : Params → BT := fun P => .node (boot_o_10 P) (t798 P) (t808 P)
noncomputable def t810 : Params → BT := fun P => .node (o225 P) .nil .nil
noncomputable def t811 : Params → BT := fun P => .node (o138 P) (t810 P) .nil
noncomputable def t812 : Params → BT := fun P => .node (boot_o_8 P) (t629 P) (t811 P)
noncomputable def t813 : Params → BT := fun P => .node (o203 P) .nil .nil
noncomputable def t814 : Params → BT := fun P => .node (o119 P) (t813 P) .nil
noncomputable def t815 : Params → BT := fun P => .node (o69 P) (t814 P) (t0 P)
noncomputable def t816 : Params → BT := fun P => .node (o27 P) (t812 P) (t815 P)
noncomputable def t817 : Params → BT := fun P => .node (o193 P) .nil .nil
noncomputable def t818 : Params → BT := fun P => .node (o106 P) (t817 P) .nil
noncomputable def t819 : Params → BT := fun P => .node (boot_o_7 P) (t818 P) (t144 P)
noncomputable def t820 : Params → BT := fun P => .node (o212 P) .nil .nil
noncomputable def t821 : Params → BT := fun P => .node (o128 P) (t820 P) .nil
noncomputable def t822 : Params → BT := fun P => .node (o66 P) (t821 P) (t634 P)
noncomputable def t823 : Params → BT := fun P => .node (o36 P) (t819 P) (t822 P)
noncomputable def t824 : Params → BT := fun P => .node (boot_o_7 P) (t816 P) (t823 P)
noncomputable def t825 : Params → BT := fun P => .node (o74 P) (t52 P) (t641 P)
noncomputable def t826 : Params → BT := fun P => .node (boot_o_7 P) (t640 P) (t825 P)
noncomputable def t827 : Params → BT := fun P => .node (o62 P) (t683 P) (t644 P)
noncomputable def t828 : Params → BT := fun P => .node (o217 P) .nil .nil
noncomputable def t829 : Params → BT := fun P => .node (o133 P) (t828 P) .nil
noncomputable def t830 : Params → BT := fun P => .node (o89 P) (t829 P) (t646 P)
noncomputable def t831 : Params → BT := fun P => .node (o41 P) (t827 P) (t830 P)
noncomputable def t832 : Params → BT := fun P => .node (boot_o_8 P) (t826 P) (t831 P)
noncomputable def t833 : Params → BT := fun P => .node (o12 P) (t824 P) (t832 P)
noncomputable def t834 : Params → BT := fun P => .node (boot_o_6 P) (t809 P) (t833 P)
noncomputable def t835 : Params → BT := fun P => .node (o58 P) (t788 P) (t834 P)
noncomputable def t836 : Params → BT := fun P => .node (boot_o_0 P) (t744 P) (t835 P)
noncomputable def o226 : Params → Obj := fun P => ⟨(.type "dict"),none,(.dict #[⟨(PySem.PyData.keyHash P (.ofString "__name__")),(.str (.ofString "__name__") 165),(.str (.ofString "law_xm0734_01") 715)⟩,⟨(PySem.PyData.keyHash P (.ofString "__doc__")),(.str (.ofString "__doc__") 166),.none⟩,⟨(PySem.PyData.keyHash P (.ofString "__package__")),(.str (.ofString "__package__") 167),.none⟩,⟨(PySem.PyData.keyHash P (.ofString "__loader__")),(.str (.ofString "__loader__") 168),(.builtin "__main__.__loader__#\x6fpaque")⟩,⟨(PySem.PyData.keyHash P (.ofString "__spec__")),(.str (.ofString "__spec__") 169),.none⟩,⟨(PySem.PyData.keyHash P (.ofString "__annotations__")),(.str (.ofString "__annotations__") 170),(.ref 6)⟩,⟨(PySem.PyData.keyHash P (.ofString "__builtins__")),(.str (.ofString "__builtins__") 171),(.ref 4)⟩,⟨(PySem.PyData.keyHash P (.ofString "__file__")),(.str (.ofString "__file__") 173),(.str (.ofString "/claim/cut.py") 172)⟩,⟨(PySem.PyData.keyHash P (.ofString "__cached__")),(.str (.ofString "__cached__") 174),.none⟩,⟨(PySem.PyData.keyHash P (.ofString "_wall")),(.str (.ofString "_wall") 193),(.ref 21)⟩,⟨(PySem.PyData.keyHash P (.ofString "ONE14")),(.str (.ofString "ONE14") 197),(.int 16384 196)⟩,⟨(PySem.PyData.keyHash P (.ofString "muldiv")),(.str (.ofString "muldiv") 207),(.ref 28)⟩,⟨(PySem.PyData.keyHash P (.ofString "wrap32")),(.str (.ofString "wrap32") 214),(.ref 35)⟩,⟨(PySem.PyData.keyHash P (.ofString "drawn_place")),(.str (.ofString "drawn_place") 225),(.ref 42)⟩,⟨(PySem.PyData.keyHash P (.ofString "put_part")),(.str (.ofString "put_part") 237),(.ref 49)⟩,⟨(PySem.PyData.keyHash P (.ofString "pair_of")),(.str (.ofString "pair_of") 246),(.ref 56)⟩,⟨(PySem.PyData.keyHash P (.ofString "draw_between")),(.str (.ofString "draw_between") 260),(.ref 63)⟩,⟨(PySem.PyData.keyHash P (.ofString "draw_contour")),(.str (.ofString "draw_contour") 266),(.ref 68)⟩,⟨(PySem.PyData.keyHash P (.ofString "touch")),(.str (.ofString "touch") 277),(.ref 75)⟩,⟨(PySem.PyData.keyHash P (.ofString "shifted")),(.str (.ofString "shifted") 290),(.ref 82)⟩,⟨(PySem.PyData.keyHash P (.ofString "axis_of")),(.str (.ofString "axis_of") 299),(.ref 89)⟩,⟨(PySem.PyData.keyHash P (.ofString "do_axes")),(.str (.ofString "do_axes") 308),(.ref 96)⟩,⟨(PySem.PyData.keyHash P (.ofString "MillError")),(.str (.ofString "MillError") 339),(.ref 113)⟩,⟨(PySem.PyData.keyHash P (.ofString "HintFault")),(.str (.ofString "HintFault") 355),(.ref 126)⟩,⟨(PySem.PyData.keyHash P (.ofString "Rounding")),(.str (.ofString "Rounding") 397),(.ref 152)⟩,⟨(PySem.PyData.keyHash P (.ofString "named")),(.str (.ofString "named") 408),(.ref 163)⟩,⟨(PySem.PyData.keyHash P (.ofString "GraphicsState")),(.str (.ofString "GraphicsState") 487),(.ref 208)⟩,⟨(PySem.PyData.keyHash P (.ofString "HintStack")),(.str (.ofString "HintStack") 563),(.ref 271)⟩,⟨(PySem.PyData.keyHash P (.ofString "HintWork")),(.str (.ofString "HintWork") 641),(.ref 322)⟩,⟨(PySem.PyData.keyHash P (.ofString "held")),(.str (.ofString "held") 650),(.ref 333)⟩,⟨(PySem.PyData.keyHash P (.ofString "Zone")),(.str (.ofString "Zone") 714),(.ref 378)⟩] 31),#[]⟩
noncomputable def o227 : Params → Obj := fun P => ⟨.none,none,(.fields (List.toArray ((.int 1 0) :: (.int 0 0) :: (.ref 20) :: (.int 6 0) :: (.int 0 0) :: (.ref 27) :: (.int 13 0) :: (.int 0 0) :: (.ref 34) :: (.int 16 0) :: (.int 0 0) :: (.ref 41) :: (.int 22 0) :: (.int 0 0) :: (.ref 48) :: (.int 25 0) :: (.int 0 0) :: (.ref 55) :: (.int 27 0) :: (.int 0 0) :: (.ref 62) :: (.int 33 0) :: (.int 0 0) :: (.ref 67) :: (.int 46 0) :: (.int 0 0) :: (.ref 74) :: (.int 51 0) :: (.int 0 0) :: (.ref 81) :: (.int 61 0) :: (.int 0 0) :: (.ref 88) :: (.int 63 0) :: (.int 0 0) :: (.ref 95) :: (.int 71 0) :: (.int 0 0) :: (.ref 102) :: (.int 75 0) :: (.int 0 0) :: (.ref 122) :: (.int 78 0) :: (.int 0 0) :: (.ref 134) :: (.int 87 0) :: (.int 0 0) :: (.ref 162) :: (.int 94 0) :: (.int 0 0) :: (.ref 169) :: (.int 128 0) :: (.int 0 0) :: (.ref 218) :: (.int 151 0) :: (.int 0 0) :: (.ref 281) :: (.int 177 0) :: (.int 0 0) :: (.ref 332) :: (.int 179 0) :: (.int 0 0) :: (.ref 339) :: []))),#[]⟩
noncomputable def o228 : Params → Obj := fun P => ⟨(.type "tuple"),none,(.seq #[(.str (.ofString "place") 647)] 0),#[]⟩
noncomputable def o229 : Params → Obj := by
  refine (?g : ∀ n a b d r t s ts bi q, pE.main.body[29]? = some (.FunctionDef n a b d r t s ts bi q) → Params → Obj) _ _ _ _ _ _ _ _ _ _ rfl
  exact fun n a b _ _ _ s _ _ _ _ P => ⟨.none,none,(.func ⟨(.ofString "held"),(.ofString "held"),a,(.stmts b),s,0,[],.none,.none,.none,.none,none,.none,.none,0⟩),#[]⟩
noncomputable def o230 : Params → Obj := fun P => ⟨(.type "code"),none,(.fields #[(.str (.ofString "held") 644),(.str (.ofString "held") 645),(.str (.ofString "/claim/cut.py") 646),(.int 177 0),(.int 1 0),(.int 0 0),(.int 0 0),(.int 3 0),(.ref 327),(.bool true),(.int 181 0),(.ref 328),.none,(.ref 329),(.ref 330),(.ref 331),(.int 648 0),(.int 177 0),(.str (.ofString "/claim/cut.py") 649)]),#[]⟩
noncomputable def o231 : Params → Obj := by
  refine (?g : ∀ n a b d r t s ts bi q, pE.main.body[29]? = some (.FunctionDef n a b d r t s ts bi q) → Params → Obj) _ _ _ _ _ _ _ _ _ _ rfl
  exact fun n a b _ _ _ s _ _ _ _ P => ⟨(.type "function"),none,(.func ⟨(.ofString "held"),(.ofString "held"),a,(.stmts b),s,3,[],.none,.none,.none,(.str (.ofString "outlinemill.hint_zones") 642),none,(.ref 332),.none,0⟩),#[]⟩
noncomputable def o232 : Params → Obj := fun P => ⟨(.type "dict"),none,(.dict #[⟨(PySem.PyData.keyHash P (.ofString "__module__")),(.str (.ofString "__module__") 658),(.str (.ofString "outlinemill.hint_zones") 642)⟩,⟨(PySem.PyData.keyHash P (.ofString "__qualname__")),(.str (.ofString "__qualname__") 660),(.str (.ofString "Zone") 659)⟩,⟨(PySem.PyData.keyHash P (.ofString "__firstlineno__")),(.str (.ofString "__firstlineno__") 662),(.int 179 661)⟩,⟨(PySem.PyData.keyHash P (.ofString "__init__")),(.str (.ofString "__init__") 668),(.ref 347)⟩,⟨(PySem.PyData.keyHash P (.ofString "count")),(.str (.ofString "count") 675),(.ref 354)⟩,⟨(PySem.PyData.keyHash P (.ofString "check")),(.str (.ofString "check") 683),(.ref 361)⟩,⟨(PySem.PyData.keyHash P (.ofString "put")),(.str (.ofString "put") 692),(.ref 368)⟩,⟨(PySem.PyData.keyHash P (.ofString "put_original")),(.str (.ofString "put_original") 701),(.ref 375)⟩,⟨(PySem.PyData.keyHash P (.ofString "__static_attributes__")),(.str (.ofString "__static_attributes__") 707),(.ref 376)⟩] 9),#[]⟩
noncomputable def o233 : Params → Obj := fun P => ⟨.none,none,(.fields #[(.int 181 0),(.int 4 0),(.ref 346),(.int 190 0),(.int 4 0),(.ref 353),(.int 193 0),(.int 4 0),(.ref 360),(.int 198 0),(.int 4 0),(.ref 367),(.int 201 0),(.int 4 0),(.ref 374)]),#[]⟩
noncomputable def o234 : Params → Obj := fun P => ⟨(.type "code"),none,(.fields #[(.str (.ofString "Zone") 653),(.str (.ofString "Zone") 654),(.str (.ofString "/claim/cut.py") 655),(.int 179 0),(.int 0 0),(.int 0 0),(.int 0 0),(.int 0 0),(.ref 337),(.bool false),(.int 181 0),(.ref 338),.none,.none,.none,.none,(.int 656 0),(.int 179 0),(.str (.ofString "/claim/cut.py") 657)]),#[]⟩
noncomputable def o235 : Params → Obj := fun P => ⟨(.type "frame"),none,.plain,#[(some (.ref 339)),(some (.ref 3)),(some (.ref 336)),none,(some (.str (.ofString "outlinemill.hint_zones") 642)),none,(some (.ref 0))]⟩
noncomputable def o236 : Params → Obj := fun P => ⟨(.type "tuple"),none,(.seq #[(.ref 341),.none] 0),#[]⟩
noncomputable def o237 : Params → Obj := by
  refine (?g : ∀ n a b d r t s ts bi q, stIn 30 0 = some (.FunctionDef n a b d r t s ts bi q) → Params → Obj) _ _ _ _ _ _ _ _ _ _ rfl
  exact fun n a b _ _ _ s _ _ _ _ P => ⟨.none,none,(.func ⟨(.ofString "__init__"),(.ofString "Zone.__init__"),a,(.stmts b),s,0,[],.none,.none,.none,.none,none,.none,.none,0⟩),#[]⟩
noncomputable def o238 : Params → Obj := fun P => ⟨(.type "code"),none,(.fields #[(.str (.ofString "__init__") 663),(.str (.ofString "Zone.__init__") 664),(.str (.ofString "/claim/cut.py") 665),(.int 181 0),(.int 4 0),(.int 0 0),(.int 0 0),(.int 3 0),(.ref 343),(.bool true),(.int 181 0),(.ref 344),.none,.none,.none,(.ref 345),(.int 666 0),(.int 181 0),(.str (.ofString "/claim/cut.py") 667)]),#[]⟩
noncomputable def o239 : Params → Obj := by
  refine (?g : ∀ n a b d r t s ts bi q, stIn 30 0 = some (.FunctionDef n a b d r t s ts bi q) → Params → Obj) _ _ _ _ _ _ _ _ _ _ rfl
  exact fun n a b _ _ _ s _ _ _ _ P => ⟨(.type "function"),none,(.func ⟨(.ofString "__init__"),(.ofString "Zone.__init__"),a,(.stmts b),s,3,[],(.ref 342),.none,.none,(.str (.ofString "outlinemill.hint_zones") 642),none,(.ref 346),.none,0⟩),#[]⟩
noncomputable def o240 : Params → Obj := fun P => ⟨(.type "tuple"),none,(.seq #[(.str (.ofString "self") 672)] 0),#[]⟩
noncomputable def o241 : Params → Obj := by
  refine (?g : ∀ n a b d r t s ts bi q, stIn 30 1 = some (.FunctionDef n a b d r t s ts bi q) → Params → Obj) _ _ _ _ _ _ _ _ _ _ rfl
  exact fun n a b _ _ _ s _ _ _ _ P => ⟨.none,none,(.func ⟨(.ofString "count"),(.ofString "Zone.count"),a,(.stmts b),s,0,[],.none,.none,.none,.none,none,.none,.none,0⟩),#[]⟩
noncomputable def o242 : Params → Obj := fun P => ⟨(.type "code"),none,(.fields #[(.str (.ofString "count") 669),(.str (.ofString "Zone.count") 670),(.str (.ofString "/claim/cut.py") 671),(.int 190 0),(.int 1 0),(.int 0 0),(.int 0 0),(.int 3 0),(.ref 348),(.bool true),(.int 181 0),(.ref 349),.none,(.ref 350),(.ref 351),(.ref 352),(.int 673 0),(.int 190 0),(.str (.ofString "/claim/cut.py") 674)]),#[]⟩
noncomputable def o243 : Params → Obj := by
  refine (?g : ∀ n a b d r t s ts bi q, stIn 30 1 = some (.FunctionDef n a b d r t s ts bi q) → Params → Obj) _ _ _ _ _ _ _ _ _ _ rfl
  exact fun n a b _ _ _ s _ _ _ _ P => ⟨(.type "function"),none,(.func ⟨(.ofString "count"),(.ofString "Zone.count"),a,(.stmts b),s,3,[],.none,.none,.none,(.str (.ofString "outlinemill.hint_zones") 642),none,(.ref 353),.none,0⟩),#[]⟩
noncomputable def o244 : Params → Obj := fun P => ⟨(.type "tuple"),none,(.seq #[(.str (.ofString "self") 679),(.str (.ofString "i") 680)] 0),#[]⟩
noncomputable def o245 : Params → Obj := by
  refine (?g : ∀ n a b d r t s ts bi q, stIn 30 2 = some (.FunctionDef n a b d r t s ts bi q) → Params → Obj) _ _ _ _ _ _ _ _ _ _ rfl
  exact fun n a b _ _ _ s _ _ _ _ P => ⟨.none,none,(.func ⟨(.ofString "check"),(.ofString "Zone.check"),a,(.stmts b),s,0,[],.none,.none,.none,.none,none,.none,.none,0⟩),#[]⟩
noncomputable def o246 : Params → Obj := fun P => ⟨(.type "code"),none,(.fields #[(.str (.ofString "check") 676),(.str (.ofString "Zone.check") 677),(.str (.ofString "/claim/cut.py") 678),(.int 193 0),(.int 2 0),(.int 0 0),(.int 0 0),(.int 3 0),(.ref 355),(.bool true),(.int 181 0),(.ref 356),.none,(.ref 357),(.ref 358),(.ref 359),(.int 681 0),(.int 193 0),(.str (.ofString "/claim/cut.py") 682)]),#[]⟩
noncomputable def o247 : Params → Obj := by
  refine (?g : ∀ n a b d r t s ts bi q, stIn 30 2 = some (.FunctionDef n a b d r t s ts bi q) → Params → Obj) _ _ _ _ _ _ _ _ _ _ rfl
  exact fun n a b _ _ _ s _ _ _ _ P => ⟨(.type "function"),none,(.func ⟨(.ofString "check"),(.ofString "Zone.check"),a,(.stmts b),s,3,[],.none,.none,.none,(.str (.ofString "outlinemill.hint_zones") 642),none,(.ref 360),.none,0⟩),#[]⟩
noncomputable def o248 : Params → Obj := fun P => ⟨(.type "tuple"),none,(.seq #[(.str (.ofString "self") 687),(.str (.ofString "i") 688),(.str (.ofString "place") 689)] 0),#[]⟩
noncomputable def o249 : Params → Obj := by
  refine (?g : ∀ n a b d r t s ts bi q, stIn 30 3 = some (.FunctionDef n a b d r t s ts bi q) → Params → Obj) _ _ _ _ _ _ _ _ _ _ rfl
  exact fun n a b _ _ _ s _ _ _ _ P => ⟨.none,none,(.func ⟨(.ofString "put"),(.ofString "Zone.put"),a,(.stmts b),s,0,[],.none,.none,.none,.none,none,.none,.none,0⟩),#[]⟩
noncomputable def o250 : Params → Obj := fun P => ⟨(.type "code"),none,(.fields #[(.str (.ofString "put") 684),(.str (.ofString "Zone.put") 685),(.str (.ofString "/claim/cut.py") 686),(.int 198 0),(.int 3 0),(.int 0 0),(.int 0 0),(.int 3 0),(.ref 362),(.bool true),(.int 181 0),(.ref 363),.none,(.ref 364),(.ref 365),(.ref 366),(.int 690 0),(.int 198 0),(.str (.ofString "/claim/cut.py") 691)]),#[]⟩
noncomputable def o251 : Params → Obj := by
  refine (?g : ∀ n a b d r t s ts bi q, stIn 30 3 = some (.FunctionDef n a b d r t s ts bi q) → Params → Obj) _ _ _ _ _ _ _ _ _ _ rfl
  exact fun n a b _ _ _ s _ _ _ _ P => ⟨(.type "function"),none,(.func ⟨(.ofString "put"),(.ofString "Zone.put"),a,(.stmts b),s,3,[],.none,.none,.none,(.str (.ofString "outlinemill.hint_zones") 642),none,(.ref 367),.none,0⟩),#[]⟩
noncomputable def o252 : Params → Obj := fun P => ⟨(.type "tuple"),none,(.seq #[(.str (.ofString "self") 696),(.str (.ofString "i") 697),(.str (.ofString "place") 698)] 0),#[]⟩
noncomputable def o253 : Params → Obj := by
  refine (?g : ∀ n a b d r t s ts bi q, stIn 30 4 = some (.FunctionDef n a b d r t s ts bi q) → Params → Obj) _ _ _ _ _ _ _ _ _ _ rfl
  exact fun n a b _ _ _ s _ _ _ _ P => ⟨.none,none,(.func ⟨(.ofString "put_original"),(.ofString "Zone.put_original"),a,(.stmts b),s,0,[],.none,.none,.none,.none,none,.none,.none,0⟩),#[]⟩
noncomputable def o254 : Params → Obj := fun P => ⟨(.type "code"),none,(.fields #[(.str (.ofString "put_original") 693),(.str (.ofString "Zone.put_original") 694),(.str (.ofString "/claim/cut.py") 695),(.int 201 0),(.int 3 0),(.int 0 0),(.int 0 0),(.int 3 0),(.ref 369),(.bool true),(.int 181 0),(.ref 370),.none,(.ref 371),(.ref 372),(.ref 373),(.int 699 0),(.int 201 0),(.str (.ofString "/claim/cut.py") 700)]),#[]⟩
noncomputable def o255 : Params → Obj := by
  refine (?g : ∀ n a b d r t s ts bi q, stIn 30 4 = some (.FunctionDef n a b d r t s ts bi q) → Params → Obj) _ _ _ _ _ _ _ _ _ _ rfl
  exact fun n a b _ _ _ s _ _ _ _ P => ⟨(.type "function"),none,(.func ⟨(.ofString "put_original"),(.ofString "Zone.put_original"),a,(.stmts b),s,3,[],.none,.none,.none,(.str (.ofString "outlinemill.hint_zones") 642),none,(.ref 374),.none,0⟩),#[]⟩
noncomputable def o256 : Params → Obj := fun P => ⟨(.type "tuple"),none,(.seq #[(.str (.ofString "current") 702),(.str (.ofString "ends") 703),(.str (.ofString "on_curve") 704),(.str (.ofString "original") 705),(.str (.ofString "touched") 706)] 0),#[]⟩
noncomputable def o257 : Params → Obj := fun P => ⟨(.type "dict"),none,(.dict #[⟨(PySem.PyData.keyHash P (.ofString "__module__")),(.str (.ofString "__module__") 658),(.str (.ofString "outlinemill.hint_zones") 642)⟩,⟨(PySem.PyData.keyHash P (.ofString "__firstlineno__")),(.str (.ofString "__firstlineno__") 662),(.int 179 661)⟩,⟨(PySem.PyData.keyHash P (.ofString "__init__")),(.str (.ofString "__init__") 668),(.ref 347)⟩,⟨(PySem.PyData.keyHash P (.ofString "count")),(.str (.ofString "count") 675),(.ref 354)⟩,⟨(PySem.PyData.keyHash P (.ofString "check")),(.str (.ofString "check") 683),(.ref 361)⟩,⟨(PySem.PyData.keyHash P (.ofString "put")),(.str (.ofString "put") 692),(.ref 368)⟩,⟨(PySem.PyData.keyHash P (.ofString "put_original")),(.str (.ofString "put_original") 701),(.ref 375)⟩,⟨(PySem.PyData.keyHash P (.ofString "__static_attributes__")),(.str (.ofString "__static_attributes__") 707),(.ref 376)⟩,⟨(PySem.PyData.keyHash P (.ofString "__dict__")),(.str (.ofString "__dict__") 709),(.ref 379)⟩,⟨(PySem.PyData.keyHash P (.ofString "__weakref__")),(.str (.ofString "__weakref__") 711),(.ref 380)⟩,⟨(PySem.PyData.keyHash P (.ofString "__doc__")),(.str (.ofString "__doc__") 712),.none⟩] 4),#[]⟩
noncomputable def o258 : Params → Obj := fun P => ⟨(.type "type"),none,(.cls ⟨(.ofString "Zone"),[(.type "object")],[(.ref 378),(.type "object")],377,(.ofString "Zone"),true,[],[],false,none,false⟩),#[none,none,(some (.str (.ofString "Zone") 651)),(some (.str (.ofString "Zone") 659)),(some (.builtin "object.__new__")),(some (.bool true))]⟩
noncomputable def o259 : Params → Obj := fun P => ⟨(.type "getset_descriptor"),none,(.fields #[(.str (.ofString "__dict__") 708),(.ref 378),(.builtin "function.__dict__"),(.builtin "function.__dict__#set")]),#[]⟩
noncomputable def o260 : Params → Obj := fun P => ⟨(.type "getset_descriptor"),none,(.fields #[(.str (.ofString "__weakref__") 710),(.ref 378),(.builtin "ExceptionGroup.__weakref__"),.none]),#[]⟩
noncomputable def o261 : Params → Obj := fun P => ⟨(.type "super"),none,(.fields #[(.ref 378),(.ref 378),(.ref 378)]),#[]⟩
noncomputable def o262 : Params → Obj := fun P => ⟨(.type "builtin_function_or_method"),none,(.fields #[(.builtin "object.__init_subclass__"),(.ref 378)]),#[]⟩
noncomputable def t837 : Params → BT := fun P => .node (o63 P) (t658 P) (t52 P)
noncomputable def t838 : Params → BT := fun P => .node (o23 P) (t656 P) (t837 P)
noncomputable def t839 : Params → BT := fun P => .node (o144 P) (t144 P) .nil
noncomputable def t840 : Params → BT := fun P => .node (boot_o_7 P) (t478 P) (t839 P)
noncomputable def t841 : Params → BT := fun P => .node (o250 P) .nil .nil
noncomputable def t842 : Params → BT := fun P => .node (o166 P) (t841 P) .nil
noncomputable def t843 : Params → BT := fun P => .node (o75 P) (t662 P) (t842 P)
noncomputable def t844 : Params → BT := fun P => .node (o32 P) (t840 P) (t843 P)
noncomputable def t845 : Params → BT := fun P => .node (boot_o_7 P) (t838 P) (t844 P)
noncomputable def t846 : Params → BT := fun P => .node (o46 P) (t484 P) (t52 P)
noncomputable def t847 : Params → BT := fun P => .node (o245 P) .nil .nil
noncomputable def t848 : Params → BT := fun P => .node (o161 P) (t847 P) .nil
noncomputable def t849 : Params → BT := fun P => .node (o70 P) (t52 P) (t848 P)
noncomputable def t850 : Params → BT := fun P => .node (boot_o_7 P) (t846 P) (t849 P)
noncomputable def t851 : Params → BT := fun P => .node (o152 P) (t0 P) .nil
noncomputable def t852 : Params → BT := fun P => .node (o55 P) (t668 P) (t851 P)
noncomputable def t853 : Params → BT := fun P => .node (o255 P) .nil .nil
noncomputable def t854 : Params → BT := fun P => .node (o171 P) (t853 P) .nil
noncomputable def t855 : Params → BT := fun P => .node (o85 P) (t671 P) (t854 P)
noncomputable def t856 : Params → BT := fun P => .node (o37 P) (t852 P) (t855 P)
noncomputable def t857 : Params → BT := fun P => .node (boot_o_8 P) (t850 P) (t856 P)
noncomputable def t858 : Params → BT := fun P => .node (boot_o_7 P) (t845 P) (t857 P)
noncomputable def t859 : Params → BT := fun P => .node (o67 P) (t680 P) (t52 P)
noncomputable def t860 : Params → BT := fun P => .node (o26 P) (t678 P) (t859 P)
noncomputable def t861 : Params → BT := fun P => .node (o234 P) .nil .nil
noncomputable def t862 : Params → BT := fun P => .node (o148 P) (t861 P) .nil
noncomputable def t863 : Params → BT := fun P => .node (boot_o_7 P) (t502 P) (t862 P)
noncomputable def t864 : Params → BT := fun P => .node (o252 P) .nil .nil
noncomputable def t865 : Params → BT := fun P => .node (o168 P) (t864 P) .nil
noncomputable def t866 : Params → BT := fun P => .node (o79 P) (t683 P) (t865 P)
noncomputable def t867 : Params → BT := fun P => .node (boot_o_8 P) (t863 P) (t866 P)
noncomputable def t868 : Params → BT := fun P => .node (o16 P) (t860 P) (t867 P)
noncomputable def t869 : Params → BT := fun P => .node (o229 P) .nil .nil
noncomputable def t870 : Params → BT := fun P => .node (o140 P) (t869 P) .nil
noncomputable def t871 : Params → BT := fun P => .node (o49 P) (t509 P) (t870 P)
noncomputable def t872 : Params → BT := fun P => .node (boot_o_7 P) (t52 P) (t683 P)
noncomputable def t873 : Params → BT := fun P => .node (boot_o_7 P) (t871 P) (t872 P)
noncomputable def t874 : Params → BT := fun P => .node (o239 P) .nil .nil
noncomputable def t875 : Params → BT := fun P => .node (o155 P) (t874 P) .nil
noncomputable def t876 : Params → BT := fun P => .node (boot_o_8 P) (t690 P) (t875 P)
noncomputable def t877 : Params → BT := fun P => .node (o259 P) .nil .nil
noncomputable def t878 : Params → BT := fun P => .node (boot_o_7 P) (t877 P) .nil
noncomputable def t879 : Params → BT := fun P => .node (o87 P) (t693 P) (t878 P)
noncomputable def t880 : Params → BT := fun P => .node (o39 P) (t876 P) (t879 P)
noncomputable def t881 : Params → BT := fun P => .node (o21 P) (t873 P) (t880 P)
noncomputable def t882 : Params → BT := fun P => .node (boot_o_7 P) (t868 P) (t881 P)
noncomputable def t883 : Params → BT := fun P => .node (o226 P) (t858 P) (t882 P)
noncomputable def t884 : Params → BT := fun P => .node (o242 P) .nil .nil
noncomputable def t885 : Params → BT := fun P => .node (o158 P) (t884 P) .nil
noncomputable def t886 : Params → BT := fun P => .node (o65 P) (t703 P) (t885 P)
noncomputable def t887 : Params → BT := fun P => .node (o24 P) (t701 P) (t886 P)
noncomputable def t888 : Params → BT := fun P => .node (o146 P) (t0 P) .nil
noncomputable def t889 : Params → BT := fun P => .node (o52 P) (t526 P) (t888 P)
noncomputable def t890 : Params → BT := fun P => .node (o83 P) (t707 P) (t52 P)
noncomputable def t891 : Params → BT := fun P => .node (o34 P) (t889 P) (t890 P)
noncomputable def t892 : Params → BT := fun P => .node (o15 P) (t887 P) (t891 P)
noncomputable def t893 : Params → BT := fun P => .node (o228 P) .nil .nil
noncomputable def t894 : Params → BT := fun P => .node (o139 P) (t893 P) .nil
noncomputable def t895 : Params → BT := fun P => .node (o47 P) (t25 P) (t894 P)
noncomputable def t896 : Params → BT := fun P => .node (o247 P) .nil .nil
noncomputable def t897 : Params → BT := fun P => .node (o163 P) (t896 P) .nil
noncomputable def t898 : Params → BT := fun P => .node (boot_o_8 P) (t712 P) (t897 P)
noncomputable def t899 : Params → BT := fun P => .node (o29 P) (t895 P) (t898 P)
noncomputable def t900 : Params → BT := fun P => .node (o237 P) .nil .nil
noncomputable def t901 : Params → BT := fun P => .node (o153 P) (t900 P) .nil
noncomputable def t902 : Params → BT := fun P => .node (o57 P) (t716 P) (t901 P)
noncomputable def t903 : Params → BT := fun P => .node (o257 P) .nil .nil
noncomputable def t904 : Params → BT := fun P => .node (boot_o_8 P) (t903 P) .nil
noncomputable def t905 : Params → BT := fun P => .node (boot_o_8 P) (t52 P) (t904 P)
noncomputable def t906 : Params → BT := fun P => .node (boot_o_7 P) (t902 P) (t905 P)
noncomputable def t907 : Params → BT := fun P => .node (boot_o_7 P) (t899 P) (t906 P)
noncomputable def t908 : Params → BT := fun P => .node (boot_o_9 P) (t892 P) (t907 P)
noncomputable def t909 : Params → BT := fun P => .node (o244 P) .nil .nil
noncomputable def t910 : Params → BT := fun P => .node (o160 P) (t909 P) .nil
noncomputable def t911 : Params → BT := fun P => .node (o68 P) (t725 P) (t910 P)
noncomputable def t912 : Params → BT := fun P => .node (boot_o_8 P) (t724 P) (t911 P)
noncomputable def t913 : Params → BT := fun P => .node (o54 P) (t728 P) (t52 P)
noncomputable def t914 : Params → BT := fun P => .node (o253 P) .nil .nil
noncomputable def t915 : Params → BT := fun P => .node (o169 P) (t914 P) .nil
noncomputable def t916 : Params → BT := fun P => .node (o84 P) (t52 P) (t915 P)
noncomputable def t917 : Params → BT := fun P => .node (boot_o_7 P) (t913 P) (t916 P)
noncomputable def t918 : Params → BT := fun P => .node (o18 P) (t912 P) (t917 P)
noncomputable def t919 : Params → BT := fun P => .node (o231 P) .nil .nil
noncomputable def t920 : Params → BT := fun P => .node (o142 P) (t919 P) .nil
noncomputable def t921 : Params → BT := fun P => .node (boot_o_8 P) (t552 P) (t920 P)
noncomputable def t922 : Params → BT := fun P => .node (o73 P) (t734 P) (t52 P)
noncomputable def t923 : Params → BT := fun P => .node (o31 P) (t921 P) (t922 P)
noncomputable def t924 : Params → BT := fun P => .node (o261 P) .nil .nil
noncomputable def t925 : Params → BT := fun P => .node (o174 P) (t924 P) .nil
noncomputable def t926 : Params → BT := fun P => .node (o88 P) (t738 P) (t925 P)
noncomputable def t927 : Params → BT := fun P => .node (o40 P) (t872 P) (t926 P)
noncomputable def t928 : Params → BT := fun P => .node (boot_o_7 P) (t923 P) (t927 P)
noncomputable def t929 : Params → BT := fun P => .node (o11 P) (t918 P) (t928 P)
noncomputable def t930 : Params → BT := fun P => .node (boot_o_5 P) (t908 P) (t929 P)
noncomputable def t931 : Params → BT := fun P => .node (boot_o_1 P) (t883 P) (t930 P)
noncomputable def t932 : Params → BT := fun P => .node (o241 P) .nil .nil
noncomputable def t933 : Params → BT := fun P => .node (o157 P) (t932 P) .nil
noncomputable def t934 : Params → BT := fun P => .node (o64 P) (t52 P) (t933 P)
noncomputable def t935 : Params → BT := fun P => .node (boot_o_7 P) (t747 P) (t934 P)
noncomputable def t936 : Params → BT := fun P => .node (o232 P) .nil .nil
noncomputable def t937 : Params → BT := fun P => .node (o145 P) (t936 P) .nil
noncomputable def t938 : Params → BT := fun P => .node (o51 P) (t569 P) (t937 P)
noncomputable def t939 : Params → BT := fun P => .node (o251 P) .nil .nil
noncomputable def t940 : Params → BT := fun P => .node (o167 P) (t939 P) .nil
noncomputable def t941 : Params → BT := fun P => .node (o76 P) (t751 P) (t940 P)
noncomputable def t942 : Params → BT := fun P => .node (o33 P) (t938 P) (t941 P)
noncomputable def t943 : Params → BT := fun P => .node (boot_o_8 P) (t935 P) (t942 P)
noncomputable def t944 : Params → BT := fun P => .node (boot_o_7 P) (t576 P) (t683 P)
noncomputable def t945 : Params → BT := fun P => .node (o246 P) .nil .nil
noncomputable def t946 : Params → BT := fun P => .node (o162 P) (t945 P) .nil
noncomputable def t947 : Params → BT := fun P => .node (boot_o_7 P) (t756 P) (t946 P)
noncomputable def t948 : Params → BT := fun P => .node (o28 P) (t944 P) (t947 P)
noncomputable def t949 : Params → BT := fun P => .node (boot_o_7 P) (t6 P) .nil
noncomputable def t950 : Params → BT := fun P => .node (o56 P) (t760 P) (t949 P)
noncomputable def t951 : Params → BT := fun P => .node (o256 P) .nil .nil
noncomputable def t952 : Params → BT := fun P => .node (boot_o_7 P) (t951 P) .nil
noncomputable def t953 : Params → BT := fun P => .node (boot_o_7 P) (t763 P) (t952 P)
noncomputable def t954 : Params → BT := fun P => .node (o38 P) (t950 P) (t953 P)
noncomputable def t955 : Params → BT := fun P => .node (o19 P) (t948 P) (t954 P)
noncomputable def t956 : Params → BT := fun P => .node (boot_o_8 P) (t943 P) (t955 P)
noncomputable def t957 : Params → BT := fun P => .node (boot_o_7 P) (t770 P) (t872 P)
noncomputable def t958 : Params → BT := fun P => .node (o235 P) .nil .nil
noncomputable def t959 : Params → BT := fun P => .node (o149 P) (t958 P) .nil
noncomputable def t960 : Params → BT := fun P => .node (boot_o_8 P) (t772 P) (t959 P)
noncomputable def t961 : Params → BT := fun P => .node (o80 P) (t775 P) (t52 P)
noncomputable def t962 : Params → BT := fun P => .node (o35 P) (t960 P) (t961 P)
noncomputable def t963 : Params → BT := fun P => .node (o17 P) (t957 P) (t962 P)
noncomputable def t964 : Params → BT := fun P => .node (o230 P) .nil .nil
noncomputable def t965 : Params → BT := fun P => .node (o141 P) (t964 P) .nil
noncomputable def t966 : Params → BT := fun P => .node (boot_o_7 P) (t594 P) (t965 P)
noncomputable def t967 : Params → BT := fun P => .node (o248 P) .nil .nil
noncomputable def t968 : Params → BT := fun P => .node (o164 P) (t967 P) .nil
noncomputable def t969 : Params → BT := fun P => .node (o72 P) (t683 P) (t968 P)
noncomputable def t970 : Params → BT := fun P => .node (boot_o_8 P) (t966 P) (t969 P)
noncomputable def t971 : Params → BT := fun P => .node (o61 P) (t782 P) (t52 P)
noncomputable def t972 : Params → BT := fun P => .node (o260 P) .nil .nil
noncomputable def t973 : Params → BT := fun P => .node (o173 P) (t972 P) .nil
noncomputable def t974 : Params → BT := fun P => .node (boot_o_7 P) (t52 P) (t973 P)
noncomputable def t975 : Params → BT := fun P => .node (boot_o_7 P) (t971 P) (t974 P)
noncomputable def t976 : Params → BT := fun P => .node (o22 P) (t970 P) (t975 P)
noncomputable def t977 : Params → BT := fun P => .node (o227 P) (t963 P) (t976 P)
noncomputable def t978 : Params → BT := fun P => .node (boot_o_4 P) (t956 P) (t977 P)
noncomputable def t979 : Params → BT := fun P => .node (o243 P) .nil .nil
noncomputable def t980 : Params → BT := fun P => .node (o159 P) (t979 P) .nil
noncomputable def t981 : Params → BT := fun P => .node (o66 P) (t793 P) (t980 P)
noncomputable def t982 : Params → BT := fun P => .node (o25 P) (t791 P) (t981 P)
noncomputable def t983 : Params → BT := fun P => .node (o233 P) .nil .nil
noncomputable def t984 : Params → BT := fun P => .node (o147 P) (t983 P) .nil
noncomputable def t985 : Params → BT := fun P => .node (o53 P) (t612 P) (t984 P)
noncomputable def t986 : Params → BT := fun P => .node (o78 P) (t52 P) (t683 P)
noncomputable def t987 : Params → BT := fun P => .node (boot_o_7 P) (t985 P) (t986 P)
noncomputable def t988 : Params → BT := fun P => .node (boot_o_7 P) (t982 P) (t987 P)
noncomputable def t989 : Params → BT := fun P => .node (o48 P) (t618 P) (t52 P)
noncomputable def t990 : Params → BT := fun P => .node (o71 P) (t800 P) (t52 P)
noncomputable def t991 : Params → BT := fun P => .node (o30 P) (t989 P) (t990 P)
noncomputable def t992 : Params → BT := fun P => .node (o238 P) .nil .nil
noncomputable def t993 : Params → BT := fun P => .node (o154 P) (t992 P) .nil
noncomputable def t994 : Params → BT := fun P => .node (boot_o_7 P) (t804 P) (t993 P)
noncomputable def t995 : Params → BT := fun P => .node (o258 P) .nil .nil
noncomputable def t996 : Params → BT := fun P => .node (o172 P) (t995 P) .nil
noncomputable def t997 : Params → BT := fun P => .node (o86 P) (t683 P) (t996 P)
noncomputable def t998 : Params → BT := fun P => .node (boot_o_8 P) (t994 P) (t997 P)
noncomputable def t999 : Params → BT := fun P => .node (o20 P) (t991 P) (t998 P)
noncomputable def t1000 : Params → BT := fun P => .node (boot_o_10 P) (t988 P) (t999 P)
noncomputable def t1001 : Params → BT := fun P => .node (o69 P) (t814 P) (t52 P)
noncomputable def t1002 : Params → BT := fun P => .node (o27 P) (t812 P) (t1001 P)
noncomputable def t1003 : Params → BT := fun P => .node (o236 P) .nil .nil
noncomputable def t1004 : Params → BT := fun P => .node (o66 P) (t1003 P) .nil
noncomputable def t1005 : Params → BT := fun P => .node (boot_o_7 P) (t818 P) (t1004 P)
noncomputable def t1006 : Params → BT := fun P => .node (o254 P) .nil .nil
noncomputable def t1007 : Params → BT := fun P => .node (o170 P) (t1006 P) .nil
noncomputable def t1008 : Params → BT := fun P => .node (o66 P) (t821 P) (t1007 P)
noncomputable def t1009 : Params → BT := fun P => .node (o36 P) (t1005 P) (t1008 P)
noncomputable def t1010 : Params → BT := fun P => .node (boot_o_7 P) (t1002 P) (t1009 P)
noncomputable def t1011 : Params → BT := fun P => .node (o143 P) (t0 P) .nil
noncomputable def t1012 : Params → BT := fun P => .node (o50 P) (t639 P) (t1011 P)
noncomputable def t1013 : Params → BT := fun P => .node (o249 P) .nil .nil
noncomputable def t1014 : Params → BT := fun P => .node (o165 P) (t1013 P) .nil
noncomputable def t1015 : Params → BT := fun P => .node (o74 P) (t52 P) (t1014 P)
noncomputable def t1016 : Params → BT := fun P => .node (boot_o_7 P) (t1012 P) (t1015 P)
noncomputable def t1017 : Params → BT := fun P => .node (o240 P) .nil .nil
noncomputable def t1018 : Params → BT := fun P => .node (o156 P) (t1017 P) .nil
noncomputable def t1019 : Params → BT := fun P => .node (o62 P) (t683 P) (t1018 P)
noncomputable def t1020 : Params → BT := fun P => .node (o262 P) .nil .nil
noncomputable def t1021 : Params → BT := fun P => .node (o175 P) (t1020 P) .nil
noncomputable def t1022 : Params → BT := fun P => .node (o89 P) (t829 P) (t1021 P)
noncomputable def t1023 : Params → BT := fun P => .node (o41 P) (t1019 P) (t1022 P)
noncomputable def t1024 : Params → BT := fun P => .node (boot_o_8 P) (t1016 P) (t1023 P)
noncomputable def t1025 : Params → BT := fun P => .node (o12 P) (t1010 P) (t1024 P)
noncomputable def t1026 : Params → BT := fun P => .node (boot_o_6 P) (t1000 P) (t1025 P)
noncomputable def t1027 : Params → BT := fun P => .node (o58 P) (t978 P) (t1026 P)
noncomputable def t1028 : Params → BT := fun P => .node (boot_o_0 P) (t931 P) (t1027 P)
noncomputable def o263 : Params → Obj := fun P => ⟨(.type "dict"),none,(.dict #[⟨(PySem.PyData.keyHash P (.ofString "__name__")),(.str (.ofString "__name__") 165),(.str (.ofString "law_xm0734_01") 715)⟩,⟨(PySem.PyData.keyHash P (.ofString "__doc__")),(.str (.ofString "__doc__") 166),.none⟩,⟨(PySem.PyData.keyHash P (.ofString "__package__")),(.str (.ofString "__package__") 167),.none⟩,⟨(PySem.PyData.keyHash P (.ofString "__loader__")),(.str (.ofString "__loader__") 168),(.builtin "__main__.__loader__#\x6fpaque")⟩,⟨(PySem.PyData.keyHash P (.ofString "__spec__")),(.str (.ofString "__spec__") 169),.none⟩,⟨(PySem.PyData.keyHash P (.ofString "__annotations__")),(.str (.ofString "__annotations__") 170),(.ref 6)⟩,⟨(PySem.PyData.keyHash P (.ofString "__builtins__")),(.str (.ofString "__builtins__") 171),(.ref 4)⟩,⟨(PySem.PyData.keyHash P (.ofString "__file__")),(.str (.ofString "__file__") 173),(.str (.ofString "/claim/cut.py") 172)⟩,⟨(PySem.PyData.keyHash P (.ofString "__cached__")),(.str (.ofString "__cached__") 174),.none⟩,⟨(PySem.PyData.keyHash P (.ofString "_wall")),(.str (.ofString "_wall") 193),(.ref 21)⟩,⟨(PySem.PyData.keyHash P (.ofString "ONE14")),(.str (.ofString "ONE14") 197),(.int 16384 196)⟩,⟨(PySem.PyData.keyHash P (.ofString "muldiv")),(.str (.ofString "muldiv") 207),(.ref 28)⟩,⟨(PySem.PyData.keyHash P (.ofString "wrap32")),(.str (.ofString "wrap32") 214),(.ref 35)⟩,⟨(PySem.PyData.keyHash P (.ofString "drawn_place")),(.str (.ofString "drawn_place") 225),(.ref 42)⟩,⟨(PySem.PyData.keyHash P (.ofString "put_part")),(.str (.ofString "put_part") 237),(.ref 49)⟩,⟨(PySem.PyData.keyHash P (.ofString "pair_of")),(.str (.ofString "pair_of") 246),(.ref 56)⟩,⟨(PySem.PyData.keyHash P (.ofString "draw_between")),(.str (.ofString "draw_between") 260),(.ref 63)⟩,⟨(PySem.PyData.keyHash P (.ofString "draw_contour")),(.str (.ofString "draw_contour") 266),(.ref 68)⟩,⟨(PySem.PyData.keyHash P (.ofString "touch")),(.str (.ofString "touch") 277),(.ref 75)⟩,⟨(PySem.PyData.keyHash P (.ofString "shifted")),(.str (.ofString "shifted") 290),(.ref 82)⟩,⟨(PySem.PyData.keyHash P (.ofString "axis_of")),(.str (.ofString "axis_of") 299),(.ref 89)⟩,⟨(PySem.PyData.keyHash P (.ofString "do_axes")),(.str (.ofString "do_axes") 308),(.ref 96)⟩,⟨(PySem.PyData.keyHash P (.ofString "MillError")),(.str (.ofString "MillError") 339),(.ref 113)⟩,⟨(PySem.PyData.keyHash P (.ofString "HintFault")),(.str (.ofString "HintFault") 355),(.ref 126)⟩,⟨(PySem.PyData.keyHash P (.ofString "Rounding")),(.str (.ofString "Rounding") 397),(.ref 152)⟩,⟨(PySem.PyData.keyHash P (.ofString "named")),(.str (.ofString "named") 408),(.ref 163)⟩,⟨(PySem.PyData.keyHash P (.ofString "GraphicsState")),(.str (.ofString "GraphicsState") 487),(.ref 208)⟩,⟨(PySem.PyData.keyHash P (.ofString "HintStack")),(.str (.ofString "HintStack") 563),(.ref 271)⟩,⟨(PySem.PyData.keyHash P (.ofString "HintWork")),(.str (.ofString "HintWork") 641),(.ref 322)⟩,⟨(PySem.PyData.keyHash P (.ofString "held")),(.str (.ofString "held") 650),(.ref 333)⟩,⟨(PySem.PyData.keyHash P (.ofString "Zone")),(.str (.ofString "Zone") 714),(.ref 378)⟩,⟨(PySem.PyData.keyHash P (.ofString "_law_pool")),(.str (.ofString "_law_pool") 725),(.ref 389)⟩,⟨(PySem.PyData.keyHash P (.ofString "_law_take")),(.str (.ofString "_law_take") 734),(.ref 396)⟩,⟨(PySem.PyData.keyHash P (.ofString "_law_one")),(.str (.ofString "_law_one") 742),(.ref 403)⟩,⟨(PySem.PyData.keyHash P (.ofString "_law_is_near")),(.str (.ofString "_law_is_near") 752),(.ref 410)⟩,⟨(PySem.PyData.keyHash P (.ofString "_law_state")),(.str (.ofString "_law_state") 760),(.ref 417)⟩,⟨(PySem.PyData.keyHash P (.ofString "_law_beside")),(.str (.ofString "_law_beside") 772),(.ref 424)⟩,⟨(PySem.PyData.keyHash P (.ofString "_law_is_put")),(.str (.ofString "_law_is_put") 782),(.ref 431)⟩,⟨(PySem.PyData.keyHash P (.ofString "_law_is_right")),(.str (.ofString "_law_is_right") 788),(.ref 436)⟩,⟨(PySem.PyData.keyHash P (.ofString "law")),(.str (.ofString "law") 794),(.ref 441)⟩] 40),#[]⟩
noncomputable def o264 : Params → Obj := fun P => ⟨.none,none,(.fields (List.toArray ((.int 1 0) :: (.int 0 0) :: (.ref 20) :: (.int 6 0) :: (.int 0 0) :: (.ref 27) :: (.int 13 0) :: (.int 0 0) :: (.ref 34) :: (.int 16 0) :: (.int 0 0) :: (.ref 41) :: (.int 22 0) :: (.int 0 0) :: (.ref 48) :: (.int 25 0) :: (.int 0 0) :: (.ref 55) :: (.int 27 0) :: (.int 0 0) :: (.ref 62) :: (.int 33 0) :: (.int 0 0) :: (.ref 67) :: (.int 46 0) :: (.int 0 0) :: (.ref 74) :: (.int 51 0) :: (.int 0 0) :: (.ref 81) :: (.int 61 0) :: (.int 0 0) :: (.ref 88) :: (.int 63 0) :: (.int 0 0) :: (.ref 95) :: (.int 71 0) :: (.int 0 0) :: (.ref 102) :: (.int 75 0) :: (.int 0 0) :: (.ref 122) :: (.int 78 0) :: (.int 0 0) :: (.ref 134) :: (.int 87 0) :: (.int 0 0) :: (.ref 162) :: (.int 94 0) :: (.int 0 0) :: (.ref 169) :: (.int 128 0) :: (.int 0 0) :: (.ref 218) :: (.int 151 0) :: (.int 0 0) :: (.ref 281) :: (.int 177 0) :: (.int 0 0) :: (.ref 332) :: (.int 179 0) :: (.int 0 0) :: (.ref 339) :: (.int 204 0) :: (.int 0 0) :: (.ref 388) :: (.int 208 0) :: (.int 0 0) :: (.ref 395) :: (.int 215 0) :: (.int 0 0) :: (.ref 402) :: (.int 217 0) :: (.int 0 0) :: (.ref 409) :: (.int 220 0) :: (.int 0 0) :: (.ref 416) :: (.int 224 0) :: (.int 0 0) :: (.ref 423) :: (.int 229 0) :: (.int 0 0) :: (.ref 430) :: (.int 235 0) :: (.int 0 0) :: (.ref 435) :: (.int 256 0) :: (.int 0 0) :: (.ref 440) :: []))),#[]⟩
noncomputable def o265 : Params → Obj := fun P => ⟨(.type "tuple"),none,(.seq #[(.str (.ofString "script") 720),(.str (.ofString "cell") 721),(.str (.ofString "size") 722)] 0),#[]⟩
noncomputable def o266 : Params → Obj := by
  refine (?g : ∀ n a b d r t s ts bi q, pE.main.body[32]? = some (.FunctionDef n a b d r t s ts bi q) → Params → Obj) _ _ _ _ _ _ _ _ _ _ rfl
  exact fun n a b _ _ _ s _ _ _ _ P => ⟨.none,none,(.func ⟨(.ofString "_law_pool"),(.ofString "_law_pool"),a,(.stmts b),s,0,[],.none,.none,.none,.none,none,.none,.none,0⟩),#[]⟩
noncomputable def o267 : Params → Obj := fun P => ⟨(.type "code"),none,(.fields #[(.str (.ofString "_law_pool") 717),(.str (.ofString "_law_pool") 718),(.str (.ofString "/claim/cut.py") 719),(.int 204 0),(.int 1 0),(.int 0 0),(.int 0 0),(.int 3 0),(.ref 383),(.bool true),(.int 181 0),(.ref 384),.none,(.ref 385),(.ref 386),(.ref 387),(.int 723 0),(.int 204 0),(.str (.ofString "/claim/cut.py") 724)]),#[]⟩
noncomputable def o268 : Params → Obj := by
  refine (?g : ∀ n a b d r t s ts bi q, pE.main.body[32]? = some (.FunctionDef n a b d r t s ts bi q) → Params → Obj) _ _ _ _ _ _ _ _ _ _ rfl
  exact fun n a b _ _ _ s _ _ _ _ P => ⟨(.type "function"),none,(.func ⟨(.ofString "_law_pool"),(.ofString "_law_pool"),a,(.stmts b),s,3,[],.none,.none,.none,(.str (.ofString "law_xm0734_01") 715),none,(.ref 388),.none,0⟩),#[]⟩
noncomputable def o269 : Params → Obj := fun P => ⟨(.type "tuple"),none,(.seq #[(.str (.ofString "source") 729),(.str (.ofString "top") 730),(.str (.ofString "figure") 731)] 0),#[]⟩
noncomputable def o270 : Params → Obj := by
  refine (?g : ∀ n a b d r t s ts bi q, pE.main.body[33]? = some (.FunctionDef n a b d r t s ts bi q) → Params → Obj) _ _ _ _ _ _ _ _ _ _ rfl
  exact fun n a b _ _ _ s _ _ _ _ P => ⟨.none,none,(.func ⟨(.ofString "_law_take"),(.ofString "_law_take"),a,(.stmts b),s,0,[],.none,.none,.none,.none,none,.none,.none,0⟩),#[]⟩
noncomputable def o271 : Params → Obj := fun P => ⟨(.type "code"),none,(.fields #[(.str (.ofString "_law_take") 726),(.str (.ofString "_law_take") 727),(.str (.ofString "/claim/cut.py") 728),(.int 208 0),(.int 2 0),(.int 0 0),(.int 0 0),(.int 3 0),(.ref 390),(.bool true),(.int 181 0),(.ref 391),.none,(.ref 392),(.ref 393),(.ref 394),(.int 732 0),(.int 208 0),(.str (.ofString "/claim/cut.py") 733)]),#[]⟩
noncomputable def o272 : Params → Obj := by
  refine (?g : ∀ n a b d r t s ts bi q, pE.main.body[33]? = some (.FunctionDef n a b d r t s ts bi q) → Params → Obj) _ _ _ _ _ _ _ _ _ _ rfl
  exact fun n a b _ _ _ s _ _ _ _ P => ⟨(.type "function"),none,(.func ⟨(.ofString "_law_take"),(.ofString "_law_take"),a,(.stmts b),s,3,[],.none,.none,.none,(.str (.ofString "law_xm0734_01") 715),none,(.ref 395),.none,0⟩),#[]⟩
noncomputable def o273 : Params → Obj := fun P => ⟨(.type "tuple"),none,(.seq #[(.str (.ofString "source") 738),(.str (.ofString "things") 739)] 0),#[]⟩
noncomputable def o274 : Params → Obj := by
  refine (?g : ∀ n a b d r t s ts bi q, pE.main.body[34]? = some (.FunctionDef n a b d r t s ts bi q) → Params → Obj) _ _ _ _ _ _ _ _ _ _ rfl
  exact fun n a b _ _ _ s _ _ _ _ P => ⟨.none,none,(.func ⟨(.ofString "_law_one"),(.ofString "_law_one"),a,(.stmts b),s,0,[],.none,.none,.none,.none,none,.none,.none,0⟩),#[]⟩
noncomputable def o275 : Params → Obj := fun P => ⟨(.type "code"),none,(.fields #[(.str (.ofString "_law_one") 735),(.str (.ofString "_law_one") 736),(.str (.ofString "/claim/cut.py") 737),(.int 215 0),(.int 2 0),(.int 0 0),(.int 0 0),(.int 3 0),(.ref 397),(.bool true),(.int 181 0),(.ref 398),.none,(.ref 399),(.ref 400),(.ref 401),(.int 740 0),(.int 215 0),(.str (.ofString "/claim/cut.py") 741)]),#[]⟩
noncomputable def o276 : Params → Obj := by
  refine (?g : ∀ n a b d r t s ts bi q, pE.main.body[34]? = some (.FunctionDef n a b d r t s ts bi q) → Params → Obj) _ _ _ _ _ _ _ _ _ _ rfl
  exact fun n a b _ _ _ s _ _ _ _ P => ⟨(.type "function"),none,(.func ⟨(.ofString "_law_one"),(.ofString "_law_one"),a,(.stmts b),s,3,[],.none,.none,.none,(.str (.ofString "law_xm0734_01") 715),none,(.ref 402),.none,0⟩),#[]⟩
noncomputable def o277 : Params → Obj := fun P => ⟨(.type "tuple"),none,(.seq #[(.str (.ofString "top") 746),(.str (.ofString "bottom") 747),(.str (.ofString "told") 748),(.str (.ofString "off") 749)] 0),#[]⟩
noncomputable def o278 : Params → Obj := by
  refine (?g : ∀ n a b d r t s ts bi q, pE.main.body[35]? = some (.FunctionDef n a b d r t s ts bi q) → Params → Obj) _ _ _ _ _ _ _ _ _ _ rfl
  exact fun n a b _ _ _ s _ _ _ _ P => ⟨.none,none,(.func ⟨(.ofString "_law_is_near"),(.ofString "_law_is_near"),a,(.stmts b),s,0,[],.none,.none,.none,.none,none,.none,.none,0⟩),#[]⟩
noncomputable def o279 : Params → Obj := fun P => ⟨(.type "code"),none,(.fields #[(.str (.ofString "_law_is_near") 743),(.str (.ofString "_law_is_near") 744),(.str (.ofString "/claim/cut.py") 745),(.int 217 0),(.int 3 0),(.int 0 0),(.int 0 0),(.int 3 0),(.ref 404),(.bool true),(.int 181 0),(.ref 405),.none,(.ref 406),(.ref 407),(.ref 408),(.int 750 0),(.int 217 0),(.str (.ofString "/claim/cut.py") 751)]),#[]⟩
noncomputable def o280 : Params → Obj := by
  refine (?g : ∀ n a b d r t s ts bi q, pE.main.body[35]? = some (.FunctionDef n a b d r t s ts bi q) → Params → Obj) _ _ _ _ _ _ _ _ _ _ rfl
  exact fun n a b _ _ _ s _ _ _ _ P => ⟨(.type "function"),none,(.func ⟨(.ofString "_law_is_near"),(.ofString "_law_is_near"),a,(.stmts b),s,3,[],.none,.none,.none,(.str (.ofString "law_xm0734_01") 715),none,(.ref 409),.none,0⟩),#[]⟩
noncomputable def o281 : Params → Obj := fun P => ⟨(.type "tuple"),none,(.seq #[(.str (.ofString "axis") 756),(.str (.ofString "work") 757)] 0),#[]⟩
noncomputable def o282 : Params → Obj := by
  refine (?g : ∀ n a b d r t s ts bi q, pE.main.body[36]? = some (.FunctionDef n a b d r t s ts bi q) → Params → Obj) _ _ _ _ _ _ _ _ _ _ rfl
  exact fun n a b _ _ _ s _ _ _ _ P => ⟨.none,none,(.func ⟨(.ofString "_law_state"),(.ofString "_law_state"),a,(.stmts b),s,0,[],.none,.none,.none,.none,none,.none,.none,0⟩),#[]⟩
noncomputable def o283 : Params → Obj := fun P => ⟨(.type "code"),none,(.fields #[(.str (.ofString "_law_state") 753),(.str (.ofString "_law_state") 754),(.str (.ofString "/claim/cut.py") 755),(.int 220 0),(.int 1 0),(.int 0 0),(.int 0 0),(.int 3 0),(.ref 411),(.bool true),(.int 181 0),(.ref 412),.none,(.ref 413),(.ref 414),(.ref 415),(.int 758 0),(.int 220 0),(.str (.ofString "/claim/cut.py") 759)]),#[]⟩
noncomputable def o284 : Params → Obj := by
  refine (?g : ∀ n a b d r t s ts bi q, pE.main.body[36]? = some (.FunctionDef n a b d r t s ts bi q) → Params → Obj) _ _ _ _ _ _ _ _ _ _ rfl
  exact fun n a b _ _ _ s _ _ _ _ P => ⟨(.type "function"),none,(.func ⟨(.ofString "_law_state"),(.ofString "_law_state"),a,(.stmts b),s,3,[],.none,.none,.none,(.str (.ofString "law_xm0734_01") 715),none,(.ref 416),.none,0⟩),#[]⟩
noncomputable def o285 : Params → Obj := fun P => ⟨(.type "tuple"),none,(.seq #[(.str (.ofString "marks") 764),(.str (.ofString "i") 765),(.str (.ofString "way") 766),(.str (.ofString "first") 767),(.str (.ofString "last") 768),(.str (.ofString "found") 769)] 0),#[]⟩
noncomputable def o286 : Params → Obj := by
  refine (?g : ∀ n a b d r t s ts bi q, pE.main.body[37]? = some (.FunctionDef n a b d r t s ts bi q) → Params → Obj) _ _ _ _ _ _ _ _ _ _ rfl
  exact fun n a b _ _ _ s _ _ _ _ P => ⟨.none,none,(.func ⟨(.ofString "_law_beside"),(.ofString "_law_beside"),a,(.stmts b),s,0,[],.none,.none,.none,.none,none,.none,.none,0⟩),#[]⟩
noncomputable def o287 : Params → Obj := fun P => ⟨(.type "code"),none,(.fields #[(.str (.ofString "_law_beside") 761),(.str (.ofString "_law_beside") 762),(.str (.ofString "/claim/cut.py") 763),(.int 224 0),(.int 5 0),(.int 0 0),(.int 0 0),(.int 3 0),(.ref 418),(.bool true),(.int 181 0),(.ref 419),.none,(.ref 420),(.ref 421),(.ref 422),(.int 770 0),(.int 224 0),(.str (.ofString "/claim/cut.py") 771)]),#[]⟩
noncomputable def o288 : Params → Obj := by
  refine (?g : ∀ n a b d r t s ts bi q, pE.main.body[37]? = some (.FunctionDef n a b d r t s ts bi q) → Params → Obj) _ _ _ _ _ _ _ _ _ _ rfl
  exact fun n a b _ _ _ s _ _ _ _ P => ⟨(.type "function"),none,(.func ⟨(.ofString "_law_beside"),(.ofString "_law_beside"),a,(.stmts b),s,3,[],.none,.none,.none,(.str (.ofString "law_xm0734_01") 715),none,(.ref 423),.none,0⟩),#[]⟩
noncomputable def o289 : Params → Obj := fun P => ⟨(.type "tuple"),none,(.seq #[(.str (.ofString "told") 776),(.str (.ofString "old") 777),(.str (.ofString "low") 778),(.str (.ofString "high") 779)] 0),#[]⟩
noncomputable def o290 : Params → Obj := by
  refine (?g : ∀ n a b d r t s ts bi q, pE.main.body[38]? = some (.FunctionDef n a b d r t s ts bi q) → Params → Obj) _ _ _ _ _ _ _ _ _ _ rfl
  exact fun n a b _ _ _ s _ _ _ _ P => ⟨.none,none,(.func ⟨(.ofString "_law_is_put"),(.ofString "_law_is_put"),a,(.stmts b),s,0,[],.none,.none,.none,.none,none,.none,.none,0⟩),#[]⟩
noncomputable def o291 : Params → Obj := fun P => ⟨(.type "code"),none,(.fields #[(.str (.ofString "_law_is_put") 773),(.str (.ofString "_law_is_put") 774),(.str (.ofString "/claim/cut.py") 775),(.int 229 0),(.int 4 0),(.int 0 0),(.int 0 0),(.int 3 0),(.ref 425),(.bool true),(.int 181 0),(.ref 426),.none,(.ref 427),(.ref 428),(.ref 429),(.int 780 0),(.int 229 0),(.str (.ofString "/claim/cut.py") 781)]),#[]⟩
noncomputable def o292 : Params → Obj := by
  refine (?g : ∀ n a b d r t s ts bi q, pE.main.body[38]? = some (.FunctionDef n a b d r t s ts bi q) → Params → Obj) _ _ _ _ _ _ _ _ _ _ rfl
  exact fun n a b _ _ _ s _ _ _ _ P => ⟨(.type "function"),none,(.func ⟨(.ofString "_law_is_put"),(.ofString "_law_is_put"),a,(.stmts b),s,3,[],.none,.none,.none,(.str (.ofString "law_xm0734_01") 715),none,(.ref 430),.none,0⟩),#[]⟩
noncomputable def o293 : Params → Obj := by
  refine (?g : ∀ n a b d r t s ts bi q, pE.main.body[39]? = some (.FunctionDef n a b d r t s ts bi q) → Params → Obj) _ _ _ _ _ _ _ _ _ _ rfl
  exact fun n a b _ _ _ s _ _ _ _ P => ⟨.none,none,(.func ⟨(.ofString "_law_is_right"),(.ofString "_law_is_right"),a,(.stmts b),s,0,[],.none,.none,.none,.none,none,.none,.none,0⟩),#[]⟩
noncomputable def o294 : Params → Obj := fun P => ⟨(.type "code"),none,(.fields #[(.str (.ofString "_law_is_right") 783),(.str (.ofString "_law_is_right") 784),(.str (.ofString "/claim/cut.py") 785),(.int 235 0),(.int 4 0),(.int 0 0),(.int 0 0),(.int 3 0),(.ref 432),(.bool true),(.int 181 0),(.ref 433),.none,.none,.none,(.ref 434),(.int 786 0),(.int 235 0),(.str (.ofString "/claim/cut.py") 787)]),#[]⟩
noncomputable def o295 : Params → Obj := by
  refine (?g : ∀ n a b d r t s ts bi q, pE.main.body[39]? = some (.FunctionDef n a b d r t s ts bi q) → Params → Obj) _ _ _ _ _ _ _ _ _ _ rfl
  exact fun n a b _ _ _ s _ _ _ _ P => ⟨(.type "function"),none,(.func ⟨(.ofString "_law_is_right"),(.ofString "_law_is_right"),a,(.stmts b),s,3,[],.none,.none,.none,(.str (.ofString "law_xm0734_01") 715),none,(.ref 435),.none,0⟩),#[]⟩
noncomputable def o296 : Params → Obj := by
  refine (?g : ∀ n a b d r t s ts bi q, pE.main.body[40]? = some (.FunctionDef n a b d r t s ts bi q) → Params → Obj) _ _ _ _ _ _ _ _ _ _ rfl
  exact fun n a b _ _ _ s _ _ _ _ P => ⟨.none,none,(.func ⟨(.ofString "law"),(.ofString "law"),a,(.stmts b),s,0,[],.none,.none,.none,.none,none,.none,.none,0⟩),#[]⟩
noncomputable def o297 : Params → Obj := fun P => ⟨(.type "code"),none,(.fields #[(.str (.ofString "law") 789),(.str (.ofString "law") 790),(.str (.ofString "/claim/cut.py") 791),(.int 256 0),(.int 1 0),(.int 0 0),(.int 0 0),(.int 3 0),(.ref 437),(.bool true),(.int 181 0),(.ref 438),.none,.none,.none,(.ref 439),(.int 792 0),(.int 256 0),(.str (.ofString "/claim/cut.py") 793)]),#[]⟩
noncomputable def o298 : Params → Obj := by
  refine (?g : ∀ n a b d r t s ts bi q, pE.main.body[40]? = some (.FunctionDef n a b d r t s ts bi q) → Params → Obj) _ _ _ _ _ _ _ _ _ _ rfl
  exact fun n a b _ _ _ s _ _ _ _ P => ⟨(.type "function"),none,(.func ⟨(.ofString "law"),(.ofString "law"),a,(.stmts b),s,3,[],.none,.none,.none,(.str (.ofString "law_xm0734_01") 715),none,(.ref 440),.none,0⟩),#[]⟩
noncomputable def t1029 : Params → BT := fun P => .node (o90 P) (t0 P) (t0 P)
noncomputable def t1030 : Params → BT := fun P => .node (o42 P) (t1029 P) (t655 P)
noncomputable def t1031 : Params → BT := fun P => .node (o282 P) .nil .nil
noncomputable def t1032 : Params → BT := fun P => .node (o113 P) (t657 P) (t1031 P)
noncomputable def t1033 : Params → BT := fun P => .node (o63 P) (t1032 P) (t52 P)
noncomputable def t1034 : Params → BT := fun P => .node (o23 P) (t1030 P) (t1033 P)
noncomputable def t1035 : Params → BT := fun P => .node (o273 P) .nil .nil
noncomputable def t1036 : Params → BT := fun P => .node (boot_o_7 P) (t477 P) (t1035 P)
noncomputable def t1037 : Params → BT := fun P => .node (boot_o_7 P) (t1036 P) (t839 P)
noncomputable def t1038 : Params → BT := fun P => .node (o292 P) .nil .nil
noncomputable def t1039 : Params → BT := fun P => .node (o124 P) (t661 P) (t1038 P)
noncomputable def t1040 : Params → BT := fun P => .node (o75 P) (t1039 P) (t842 P)
noncomputable def t1041 : Params → BT := fun P => .node (o32 P) (t1037 P) (t1040 P)
noncomputable def t1042 : Params → BT := fun P => .node (boot_o_7 P) (t1034 P) (t1041 P)
noncomputable def t1043 : Params → BT := fun P => .node (o97 P) (t6 P) (t6 P)
noncomputable def t1044 : Params → BT := fun P => .node (o46 P) (t1043 P) (t52 P)
noncomputable def t1045 : Params → BT := fun P => .node (o287 P) .nil .nil
noncomputable def t1046 : Params → BT := fun P => .node (boot_o_7 P) (t0 P) (t1045 P)
noncomputable def t1047 : Params → BT := fun P => .node (o70 P) (t1046 P) (t848 P)
noncomputable def t1048 : Params → BT := fun P => .node (boot_o_7 P) (t1044 P) (t1047 P)
noncomputable def t1049 : Params → BT := fun P => .node (o107 P) (t0 P) (t0 P)
noncomputable def t1050 : Params → BT := fun P => .node (o55 P) (t1049 P) (t851 P)
noncomputable def t1051 : Params → BT := fun P => .node (o296 P) .nil .nil
noncomputable def t1052 : Params → BT := fun P => .node (o129 P) (t670 P) (t1051 P)
noncomputable def t1053 : Params → BT := fun P => .node (o85 P) (t1052 P) (t854 P)
noncomputable def t1054 : Params → BT := fun P => .node (o37 P) (t1050 P) (t1053 P)
noncomputable def t1055 : Params → BT := fun P => .node (boot_o_8 P) (t1048 P) (t1054 P)
noncomputable def t1056 : Params → BT := fun P => .node (boot_o_7 P) (t1042 P) (t1055 P)
noncomputable def t1057 : Params → BT := fun P => .node (o266 P) .nil .nil
noncomputable def t1058 : Params → BT := fun P => .node (o94 P) (t496 P) (t1057 P)
noncomputable def t1059 : Params → BT := fun P => .node (o44 P) (t1058 P) (t677 P)
noncomputable def t1060 : Params → BT := fun P => .node (o116 P) (t679 P) (t6 P)
noncomputable def t1061 : Params → BT := fun P => .node (o67 P) (t1060 P) (t52 P)
noncomputable def t1062 : Params → BT := fun P => .node (o26 P) (t1059 P) (t1061 P)
noncomputable def t1063 : Params → BT := fun P => .node (o276 P) .nil .nil
noncomputable def t1064 : Params → BT := fun P => .node (o103 P) (t501 P) (t1063 P)
noncomputable def t1065 : Params → BT := fun P => .node (boot_o_7 P) (t1064 P) (t862 P)
noncomputable def t1066 : Params → BT := fun P => .node (o294 P) .nil .nil
noncomputable def t1067 : Params → BT := fun P => .node (boot_o_8 P) (t6 P) (t1066 P)
noncomputable def t1068 : Params → BT := fun P => .node (o79 P) (t1067 P) (t865 P)
noncomputable def t1069 : Params → BT := fun P => .node (boot_o_8 P) (t1065 P) (t1068 P)
noncomputable def t1070 : Params → BT := fun P => .node (o16 P) (t1062 P) (t1069 P)
noncomputable def t1071 : Params → BT := fun P => .node (o271 P) .nil .nil
noncomputable def t1072 : Params → BT := fun P => .node (boot_o_7 P) (t508 P) (t1071 P)
noncomputable def t1073 : Params → BT := fun P => .node (o49 P) (t1072 P) (t870 P)
noncomputable def t1074 : Params → BT := fun P => .node (o289 P) .nil .nil
noncomputable def t1075 : Params → BT := fun P => .node (boot_o_7 P) (t0 P) (t1074 P)
noncomputable def t1076 : Params → BT := fun P => .node (boot_o_7 P) (t1075 P) (t683 P)
noncomputable def t1077 : Params → BT := fun P => .node (boot_o_7 P) (t1073 P) (t1076 P)
noncomputable def t1078 : Params → BT := fun P => .node (o111 P) (t689 P) (t0 P)
noncomputable def t1079 : Params → BT := fun P => .node (boot_o_8 P) (t1078 P) (t875 P)
noncomputable def t1080 : Params → BT := fun P => .node (o39 P) (t1079 P) (t879 P)
noncomputable def t1081 : Params → BT := fun P => .node (o21 P) (t1077 P) (t1080 P)
noncomputable def t1082 : Params → BT := fun P => .node (boot_o_7 P) (t1070 P) (t1081 P)
noncomputable def t1083 : Params → BT := fun P => .node (o263 P) (t1056 P) (t1082 P)
noncomputable def t1084 : Params → BT := fun P => .node (o265 P) .nil .nil
noncomputable def t1085 : Params → BT := fun P => .node (boot_o_7 P) (t519 P) (t1084 P)
noncomputable def t1086 : Params → BT := fun P => .node (boot_o_8 P) (t1085 P) (t700 P)
noncomputable def t1087 : Params → BT := fun P => .node (o284 P) .nil .nil
noncomputable def t1088 : Params → BT := fun P => .node (o114 P) (t702 P) (t1087 P)
noncomputable def t1089 : Params → BT := fun P => .node (o65 P) (t1088 P) (t885 P)
noncomputable def t1090 : Params → BT := fun P => .node (o24 P) (t1086 P) (t1089 P)
noncomputable def t1091 : Params → BT := fun P => .node (o274 P) .nil .nil
noncomputable def t1092 : Params → BT := fun P => .node (o102 P) (t525 P) (t1091 P)
noncomputable def t1093 : Params → BT := fun P => .node (o52 P) (t1092 P) (t888 P)
noncomputable def t1094 : Params → BT := fun P => .node (o126 P) (t706 P) (t6 P)
noncomputable def t1095 : Params → BT := fun P => .node (o83 P) (t1094 P) (t52 P)
noncomputable def t1096 : Params → BT := fun P => .node (o34 P) (t1093 P) (t1095 P)
noncomputable def t1097 : Params → BT := fun P => .node (o15 P) (t1090 P) (t1096 P)
noncomputable def t1098 : Params → BT := fun P => .node (boot_o_8 P) (t0 P) (t0 P)
noncomputable def t1099 : Params → BT := fun P => .node (o47 P) (t1098 P) (t894 P)
noncomputable def t1100 : Params → BT := fun P => .node (o121 P) (t711 P) (t0 P)
noncomputable def t1101 : Params → BT := fun P => .node (boot_o_8 P) (t1100 P) (t897 P)
noncomputable def t1102 : Params → BT := fun P => .node (o29 P) (t1099 P) (t1101 P)
noncomputable def t1103 : Params → BT := fun P => .node (o279 P) .nil .nil
noncomputable def t1104 : Params → BT := fun P => .node (o109 P) (t715 P) (t1103 P)
noncomputable def t1105 : Params → BT := fun P => .node (o57 P) (t1104 P) (t901 P)
noncomputable def t1106 : Params → BT := fun P => .node (o298 P) .nil .nil
noncomputable def t1107 : Params → BT := fun P => .node (boot_o_7 P) (t0 P) (t1106 P)
noncomputable def t1108 : Params → BT := fun P => .node (boot_o_8 P) (t1107 P) (t904 P)
noncomputable def t1109 : Params → BT := fun P => .node (boot_o_7 P) (t1105 P) (t1108 P)
noncomputable def t1110 : Params → BT := fun P => .node (boot_o_7 P) (t1102 P) (t1109 P)
noncomputable def t1111 : Params → BT := fun P => .node (boot_o_9 P) (t1097 P) (t1110 P)
noncomputable def t1112 : Params → BT := fun P => .node (o268 P) .nil .nil
noncomputable def t1113 : Params → BT := fun P => .node (o95 P) (t540 P) (t1112 P)
noncomputable def t1114 : Params → BT := fun P => .node (boot_o_7 P) (t1113 P) (t723 P)
noncomputable def t1115 : Params → BT := fun P => .node (o66 P) (t6 P) (t0 P)
noncomputable def t1116 : Params → BT := fun P => .node (o68 P) (t1115 P) (t910 P)
noncomputable def t1117 : Params → BT := fun P => .node (boot_o_8 P) (t1114 P) (t1116 P)
noncomputable def t1118 : Params → BT := fun P => .node (o105 P) (t144 P) (t6 P)
noncomputable def t1119 : Params → BT := fun P => .node (o54 P) (t1118 P) (t52 P)
noncomputable def t1120 : Params → BT := fun P => .node (boot_o_7 P) (t0 P) (t0 P)
noncomputable def t1121 : Params → BT := fun P => .node (o84 P) (t1120 P) (t915 P)
noncomputable def t1122 : Params → BT := fun P => .node (boot_o_7 P) (t1119 P) (t1121 P)
noncomputable def t1123 : Params → BT := fun P => .node (o18 P) (t1117 P) (t1122 P)
noncomputable def t1124 : Params → BT := fun P => .node (o100 P) (t551 P) (t0 P)
noncomputable def t1125 : Params → BT := fun P => .node (boot_o_8 P) (t1124 P) (t920 P)
noncomputable def t1126 : Params → BT := fun P => .node (o290 P) .nil .nil
noncomputable def t1127 : Params → BT := fun P => .node (o123 P) (t733 P) (t1126 P)
noncomputable def t1128 : Params → BT := fun P => .node (o73 P) (t1127 P) (t52 P)
noncomputable def t1129 : Params → BT := fun P => .node (o31 P) (t1125 P) (t1128 P)
noncomputable def t1130 : Params → BT := fun P => .node (o281 P) .nil .nil
noncomputable def t1131 : Params → BT := fun P => .node (boot_o_7 P) (t0 P) (t1130 P)
noncomputable def t1132 : Params → BT := fun P => .node (boot_o_7 P) (t1131 P) (t683 P)
noncomputable def t1133 : Params → BT := fun P => .node (o40 P) (t1132 P) (t926 P)
noncomputable def t1134 : Params → BT := fun P => .node (boot_o_7 P) (t1129 P) (t1133 P)
noncomputable def t1135 : Params → BT := fun P => .node (o11 P) (t1123 P) (t1134 P)
noncomputable def t1136 : Params → BT := fun P => .node (boot_o_5 P) (t1111 P) (t1135 P)
noncomputable def t1137 : Params → BT := fun P => .node (boot_o_1 P) (t1083 P) (t1136 P)
noncomputable def t1138 : Params → BT := fun P => .node (o91 P) (t6 P) (t6 P)
noncomputable def t1139 : Params → BT := fun P => .node (boot_o_7 P) (t1138 P) (t746 P)
noncomputable def t1140 : Params → BT := fun P => .node (o283 P) .nil .nil
noncomputable def t1141 : Params → BT := fun P => .node (boot_o_7 P) (t0 P) (t1140 P)
noncomputable def t1142 : Params → BT := fun P => .node (o64 P) (t1141 P) (t933 P)
noncomputable def t1143 : Params → BT := fun P => .node (boot_o_7 P) (t1139 P) (t1142 P)
noncomputable def t1144 : Params → BT := fun P => .node (boot_o_8 P) (t568 P) (t0 P)
noncomputable def t1145 : Params → BT := fun P => .node (o51 P) (t1144 P) (t937 P)
noncomputable def t1146 : Params → BT := fun P => .node (o125 P) (t750 P) (t0 P)
noncomputable def t1147 : Params → BT := fun P => .node (o76 P) (t1146 P) (t940 P)
noncomputable def t1148 : Params → BT := fun P => .node (o33 P) (t1145 P) (t1147 P)
noncomputable def t1149 : Params → BT := fun P => .node (boot_o_8 P) (t1143 P) (t1148 P)
noncomputable def t1150 : Params → BT := fun P => .node (o269 P) .nil .nil
noncomputable def t1151 : Params → BT := fun P => .node (boot_o_7 P) (t575 P) (t1150 P)
noncomputable def t1152 : Params → BT := fun P => .node (boot_o_7 P) (t1151 P) (t683 P)
noncomputable def t1153 : Params → BT := fun P => .node (o288 P) .nil .nil
noncomputable def t1154 : Params → BT := fun P => .node (o120 P) (t755 P) (t1153 P)
noncomputable def t1155 : Params → BT := fun P => .node (boot_o_7 P) (t1154 P) (t946 P)
noncomputable def t1156 : Params → BT := fun P => .node (o28 P) (t1152 P) (t1155 P)
noncomputable def t1157 : Params → BT := fun P => .node (o278 P) .nil .nil
noncomputable def t1158 : Params → BT := fun P => .node (o108 P) (t759 P) (t1157 P)
noncomputable def t1159 : Params → BT := fun P => .node (o56 P) (t1158 P) (t949 P)
noncomputable def t1160 : Params → BT := fun P => .node (o297 P) .nil .nil
noncomputable def t1161 : Params → BT := fun P => .node (o130 P) (t762 P) (t1160 P)
noncomputable def t1162 : Params → BT := fun P => .node (boot_o_7 P) (t1161 P) (t952 P)
noncomputable def t1163 : Params → BT := fun P => .node (o38 P) (t1159 P) (t1162 P)
noncomputable def t1164 : Params → BT := fun P => .node (o19 P) (t1156 P) (t1163 P)
noncomputable def t1165 : Params → BT := fun P => .node (boot_o_8 P) (t1149 P) (t1164 P)
noncomputable def t1166 : Params → BT := fun P => .node (o267 P) .nil .nil
noncomputable def t1167 : Params → BT := fun P => .node (boot_o_7 P) (t586 P) (t1166 P)
noncomputable def t1168 : Params → BT := fun P => .node (o45 P) (t1167 P) (t769 P)
noncomputable def t1169 : Params → BT := fun P => .node (o285 P) .nil .nil
noncomputable def t1170 : Params → BT := fun P => .node (boot_o_7 P) (t0 P) (t1169 P)
noncomputable def t1171 : Params → BT := fun P => .node (boot_o_7 P) (t1170 P) (t683 P)
noncomputable def t1172 : Params → BT := fun P => .node (boot_o_7 P) (t1168 P) (t1171 P)
noncomputable def t1173 : Params → BT := fun P => .node (o104 P) (t0 P) (t0 P)
noncomputable def t1174 : Params → BT := fun P => .node (boot_o_8 P) (t1173 P) (t959 P)
noncomputable def t1175 : Params → BT := fun P => .node (o295 P) .nil .nil
noncomputable def t1176 : Params → BT := fun P => .node (o127 P) (t774 P) (t1175 P)
noncomputable def t1177 : Params → BT := fun P => .node (o80 P) (t1176 P) (t52 P)
noncomputable def t1178 : Params → BT := fun P => .node (o35 P) (t1174 P) (t1177 P)
noncomputable def t1179 : Params → BT := fun P => .node (o17 P) (t1172 P) (t1178 P)
noncomputable def t1180 : Params → BT := fun P => .node (o272 P) .nil .nil
noncomputable def t1181 : Params → BT := fun P => .node (o99 P) (t593 P) (t1180 P)
noncomputable def t1182 : Params → BT := fun P => .node (boot_o_7 P) (t1181 P) (t965 P)
noncomputable def t1183 : Params → BT := fun P => .node (boot_o_8 P) (t6 P) (t0 P)
noncomputable def t1184 : Params → BT := fun P => .node (o72 P) (t1183 P) (t968 P)
noncomputable def t1185 : Params → BT := fun P => .node (boot_o_8 P) (t1182 P) (t1184 P)
noncomputable def t1186 : Params → BT := fun P => .node (o112 P) (t781 P) (t6 P)
noncomputable def t1187 : Params → BT := fun P => .node (o61 P) (t1186 P) (t52 P)
noncomputable def t1188 : Params → BT := fun P => .node (boot_o_7 P) (t1187 P) (t974 P)
noncomputable def t1189 : Params → BT := fun P => .node (o22 P) (t1185 P) (t1188 P)
noncomputable def t1190 : Params → BT := fun P => .node (o264 P) (t1179 P) (t1189 P)
noncomputable def t1191 : Params → BT := fun P => .node (boot_o_4 P) (t1165 P) (t1190 P)
noncomputable def t1192 : Params → BT := fun P => .node (o66 P) (t0 P) (t0 P)
noncomputable def t1193 : Params → BT := fun P => .node (o43 P) (t1192 P) (t790 P)
noncomputable def t1194 : Params → BT := fun P => .node (o115 P) (t792 P) (t0 P)
noncomputable def t1195 : Params → BT := fun P => .node (o66 P) (t1194 P) (t980 P)
noncomputable def t1196 : Params → BT := fun P => .node (o25 P) (t1193 P) (t1195 P)
noncomputable def t1197 : Params → BT := fun P => .node (o275 P) .nil .nil
noncomputable def t1198 : Params → BT := fun P => .node (boot_o_7 P) (t611 P) (t1197 P)
noncomputable def t1199 : Params → BT := fun P => .node (o53 P) (t1198 P) (t984 P)
noncomputable def t1200 : Params → BT := fun P => .node (o293 P) .nil .nil
noncomputable def t1201 : Params → BT := fun P => .node (boot_o_7 P) (t0 P) (t1200 P)
noncomputable def t1202 : Params → BT := fun P => .node (o78 P) (t1201 P) (t683 P)
noncomputable def t1203 : Params → BT := fun P => .node (boot_o_7 P) (t1199 P) (t1202 P)
noncomputable def t1204 : Params → BT := fun P => .node (boot_o_7 P) (t1196 P) (t1203 P)
noncomputable def t1205 : Params → BT := fun P => .node (o270 P) .nil .nil
noncomputable def t1206 : Params → BT := fun P => .node (o98 P) (t617 P) (t1205 P)
noncomputable def t1207 : Params → BT := fun P => .node (o48 P) (t1206 P) (t52 P)
noncomputable def t1208 : Params → BT := fun P => .node (o122 P) (t799 P) (t6 P)
noncomputable def t1209 : Params → BT := fun P => .node (o71 P) (t1208 P) (t52 P)
noncomputable def t1210 : Params → BT := fun P => .node (o30 P) (t1207 P) (t1209 P)
noncomputable def t1211 : Params → BT := fun P => .node (o280 P) .nil .nil
noncomputable def t1212 : Params → BT := fun P => .node (o110 P) (t803 P) (t1211 P)
noncomputable def t1213 : Params → BT := fun P => .node (boot_o_7 P) (t1212 P) (t993 P)
noncomputable def t1214 : Params → BT := fun P => .node (boot_o_8 P) (t1213 P) (t997 P)
noncomputable def t1215 : Params → BT := fun P => .node (o20 P) (t1210 P) (t1214 P)
noncomputable def t1216 : Params → BT := fun P => .node (boot_o_10 P) (t1204 P) (t1215 P)
noncomputable def t1217 : Params → BT := fun P => .node (o96 P) (t0 P) (t0 P)
noncomputable def t1218 : Params → BT := fun P => .node (boot_o_8 P) (t1217 P) (t811 P)
noncomputable def t1219 : Params → BT := fun P => .node (o286 P) .nil .nil
noncomputable def t1220 : Params → BT := fun P => .node (o119 P) (t813 P) (t1219 P)
noncomputable def t1221 : Params → BT := fun P => .node (o69 P) (t1220 P) (t52 P)
noncomputable def t1222 : Params → BT := fun P => .node (o27 P) (t1218 P) (t1221 P)
noncomputable def t1223 : Params → BT := fun P => .node (o277 P) .nil .nil
noncomputable def t1224 : Params → BT := fun P => .node (o106 P) (t817 P) (t1223 P)
noncomputable def t1225 : Params → BT := fun P => .node (boot_o_7 P) (t1224 P) (t1004 P)
noncomputable def t1226 : Params → BT := fun P => .node (o128 P) (t820 P) (t6 P)
noncomputable def t1227 : Params → BT := fun P => .node (o66 P) (t1226 P) (t1007 P)
noncomputable def t1228 : Params → BT := fun P => .node (o36 P) (t1225 P) (t1227 P)
noncomputable def t1229 : Params → BT := fun P => .node (boot_o_7 P) (t1222 P) (t1228 P)
noncomputable def t1230 : Params → BT := fun P => .node (o101 P) (t638 P) (t6 P)
noncomputable def t1231 : Params → BT := fun P => .node (o50 P) (t1230 P) (t1011 P)
noncomputable def t1232 : Params → BT := fun P => .node (o291 P) .nil .nil
noncomputable def t1233 : Params → BT := fun P => .node (boot_o_7 P) (t0 P) (t1232 P)
noncomputable def t1234 : Params → BT := fun P => .node (o74 P) (t1233 P) (t1014 P)
noncomputable def t1235 : Params → BT := fun P => .node (boot_o_7 P) (t1231 P) (t1234 P)
noncomputable def t1236 : Params → BT := fun P => .node (o62 P) (t1183 P) (t1018 P)
noncomputable def t1237 : Params → BT := fun P => .node (o41 P) (t1236 P) (t1022 P)
noncomputable def t1238 : Params → BT := fun P => .node (boot_o_8 P) (t1235 P) (t1237 P)
noncomputable def t1239 : Params → BT := fun P => .node (o12 P) (t1229 P) (t1238 P)
noncomputable def t1240 : Params → BT := fun P => .node (boot_o_6 P) (t1216 P) (t1239 P)
noncomputable def t1241 : Params → BT := fun P => .node (o58 P) (t1191 P) (t1240 P)
noncomputable def t1242 : Params → BT := fun P => .node (boot_o_0 P) (t1137 P) (t1241 P)
noncomputable def K : Params → Frag := fun P => (nat_lit 2,o58 P) :: (nat_lit 3,o263 P) :: (nat_lit 15,boot_o_7 P) :: (nat_lit 17,o15 P) :: (nat_lit 18,boot_o_7 P) :: (nat_lit 20,o17 P) :: (nat_lit 21,o18 P) :: (nat_lit 22,boot_o_7 P) :: (nat_lit 24,o19 P) :: (nat_lit 25,boot_o_7 P) :: (nat_lit 27,o21 P) :: (nat_lit 28,o22 P) :: (nat_lit 29,boot_o_7 P) :: (nat_lit 31,o23 P) :: (nat_lit 32,boot_o_7 P) :: (nat_lit 34,o25 P) :: (nat_lit 35,o26 P) :: (nat_lit 36,boot_o_7 P) :: (nat_lit 38,o27 P) :: (nat_lit 39,boot_o_7 P) :: (nat_lit 41,o29 P) :: (nat_lit 42,o30 P) :: (nat_lit 43,boot_o_7 P) :: (nat_lit 45,o31 P) :: (nat_lit 46,boot_o_7 P) :: (nat_lit 48,o33 P) :: (nat_lit 49,o34 P) :: (nat_lit 50,boot_o_7 P) :: (nat_lit 52,o35 P) :: (nat_lit 53,boot_o_7 P) :: (nat_lit 55,o37 P) :: (nat_lit 56,o38 P) :: (nat_lit 57,boot_o_7 P) :: (nat_lit 59,o39 P) :: (nat_lit 60,boot_o_7 P) :: (nat_lit 62,o41 P) :: (nat_lit 63,o42 P) :: (nat_lit 64,boot_o_7 P) :: (nat_lit 67,o44 P) :: (nat_lit 68,o45 P) :: (nat_lit 69,boot_o_7 P) :: (nat_lit 71,o46 P) :: (nat_lit 72,boot_o_7 P) :: (nat_lit 74,o48 P) :: (nat_lit 75,o49 P) :: (nat_lit 76,boot_o_7 P) :: (nat_lit 78,o50 P) :: (nat_lit 79,boot_o_7 P) :: (nat_lit 81,o52 P) :: (nat_lit 82,o53 P) :: (nat_lit 83,boot_o_7 P) :: (nat_lit 85,o54 P) :: (nat_lit 86,boot_o_7 P) :: (nat_lit 88,o56 P) :: (nat_lit 89,o57 P) :: (nat_lit 90,boot_o_7 P) :: (nat_lit 92,o61 P) :: (nat_lit 93,boot_o_7 P) :: (nat_lit 95,o63 P) :: (nat_lit 96,o64 P) :: (nat_lit 97,o65 P) :: (nat_lit 104,boot_o_7 P) :: (nat_lit 106,o71 P) :: (nat_lit 107,boot_o_7 P) :: (nat_lit 109,o73 P) :: (nat_lit 110,o74 P) :: (nat_lit 111,o75 P) :: (nat_lit 112,o76 P) :: (nat_lit 113,o83 P) :: (nat_lit 114,o78 P) :: (nat_lit 117,o84 P) :: (nat_lit 124,boot_o_7 P) :: (nat_lit 125,o88 P) :: (nat_lit 126,o89 P) :: (nat_lit 136,boot_o_7 P) :: (nat_lit 138,o98 P) :: (nat_lit 139,boot_o_7 P) :: (nat_lit 141,o100 P) :: (nat_lit 142,o101 P) :: (nat_lit 143,boot_o_7 P) :: (nat_lit 145,o102 P) :: (nat_lit 146,boot_o_7 P) :: (nat_lit 148,o104 P) :: (nat_lit 149,o105 P) :: (nat_lit 150,o106 P) :: (nat_lit 151,o107 P) :: (nat_lit 152,o108 P) :: (nat_lit 153,o109 P) :: (nat_lit 154,o110 P) :: (nat_lit 157,boot_o_7 P) :: (nat_lit 159,o113 P) :: (nat_lit 160,boot_o_7 P) :: (nat_lit 162,o115 P) :: (nat_lit 163,o116 P) :: (nat_lit 171,boot_o_7 P) :: (nat_lit 173,o123 P) :: (nat_lit 174,boot_o_7 P) :: (nat_lit 176,o125 P) :: (nat_lit 177,o126 P) :: (nat_lit 178,boot_o_7 P) :: (nat_lit 180,o127 P) :: (nat_lit 181,boot_o_7 P) :: (nat_lit 183,o129 P) :: (nat_lit 184,o130 P) :: (nat_lit 185,boot_o_7 P) :: (nat_lit 187,o131 P) :: (nat_lit 188,boot_o_7 P) :: (nat_lit 190,o133 P) :: (nat_lit 191,o134 P) :: (nat_lit 192,boot_o_7 P) :: (nat_lit 194,o135 P) :: (nat_lit 195,boot_o_7 P) :: (nat_lit 197,o137 P) :: (nat_lit 198,o138 P) :: (nat_lit 199,boot_o_7 P) :: (nat_lit 201,o139 P) :: (nat_lit 202,boot_o_7 P) :: (nat_lit 204,o141 P) :: (nat_lit 205,o142 P) :: (nat_lit 206,o143 P) :: (nat_lit 207,o144 P) :: (nat_lit 208,o145 P) :: (nat_lit 209,o146 P) :: (nat_lit 210,o147 P) :: (nat_lit 220,boot_o_7 P) :: (nat_lit 222,o156 P) :: (nat_lit 223,boot_o_7 P) :: (nat_lit 225,o158 P) :: (nat_lit 226,o159 P) :: (nat_lit 227,boot_o_7 P) :: (nat_lit 229,o160 P) :: (nat_lit 230,boot_o_7 P) :: (nat_lit 232,o162 P) :: (nat_lit 233,o163 P) :: (nat_lit 234,boot_o_7 P) :: (nat_lit 236,o164 P) :: (nat_lit 237,boot_o_7 P) :: (nat_lit 239,o166 P) :: (nat_lit 240,o167 P) :: (nat_lit 241,boot_o_7 P) :: (nat_lit 243,o168 P) :: (nat_lit 244,boot_o_7 P) :: (nat_lit 246,o170 P) :: (nat_lit 247,o171 P) :: (nat_lit 248,boot_o_7 P) :: (nat_lit 250,o172 P) :: (nat_lit 251,boot_o_7 P) :: (nat_lit 253,o174 P) :: (nat_lit 254,o175 P) :: (nat_lit 255,boot_o_7 P) :: (nat_lit 257,o176 P) :: (nat_lit 258,boot_o_7 P) :: (nat_lit 260,o178 P) :: (nat_lit 261,o179 P) :: (nat_lit 262,boot_o_7 P) :: (nat_lit 264,o180 P) :: (nat_lit 265,boot_o_7 P) :: (nat_lit 267,o182 P) :: (nat_lit 268,o183 P) :: (nat_lit 269,o184 P) :: (nat_lit 270,o185 P) :: (nat_lit 271,o186 P) :: (nat_lit 272,o187 P) :: (nat_lit 273,o188 P) :: (nat_lit 283,o197 P) :: (nat_lit 284,o198 P) :: (nat_lit 285,boot_o_7 P) :: (nat_lit 287,o199 P) :: (nat_lit 288,boot_o_7 P) :: (nat_lit 290,o201 P) :: (nat_lit 291,o202 P) :: (nat_lit 292,boot_o_7 P) :: (nat_lit 294,o203 P) :: (nat_lit 295,boot_o_7 P) :: (nat_lit 297,o205 P) :: (nat_lit 298,o206 P) :: (nat_lit 299,boot_o_7 P) :: (nat_lit 301,o207 P) :: (nat_lit 302,boot_o_7 P) :: (nat_lit 304,o209 P) :: (nat_lit 305,o210 P) :: (nat_lit 306,boot_o_7 P) :: (nat_lit 308,o211 P) :: (nat_lit 309,boot_o_7 P) :: (nat_lit 311,o213 P) :: (nat_lit 312,o214 P) :: (nat_lit 313,boot_o_7 P) :: (nat_lit 315,o215 P) :: (nat_lit 316,boot_o_7 P) :: (nat_lit 318,o217 P) :: (nat_lit 319,o218 P) :: (nat_lit 320,o219 P) :: (nat_lit 321,o220 P) :: (nat_lit 322,o221 P) :: (nat_lit 323,o222 P) :: (nat_lit 324,o223 P) :: (nat_lit 327,boot_o_7 P) :: (nat_lit 329,o228 P) :: (nat_lit 330,boot_o_7 P) :: (nat_lit 332,o230 P) :: (nat_lit 333,o231 P) :: (nat_lit 341,boot_o_7 P) :: (nat_lit 342,o236 P) :: (nat_lit 343,boot_o_7 P) :: (nat_lit 346,o238 P) :: (nat_lit 347,o239 P) :: (nat_lit 348,boot_o_7 P) :: (nat_lit 350,o240 P) :: (nat_lit 351,boot_o_7 P) :: (nat_lit 353,o242 P) :: (nat_lit 354,o243 P) :: (nat_lit 355,boot_o_7 P) :: (nat_lit 357,o244 P) :: (nat_lit 358,boot_o_7 P) :: (nat_lit 360,o246 P) :: (nat_lit 361,o247 P) :: (nat_lit 362,boot_o_7 P) :: (nat_lit 364,o248 P) :: (nat_lit 365,boot_o_7 P) :: (nat_lit 367,o250 P) :: (nat_lit 368,o251 P) :: (nat_lit 369,boot_o_7 P) :: (nat_lit 371,o252 P) :: (nat_lit 372,boot_o_7 P) :: (nat_lit 374,o254 P) :: (nat_lit 375,o255 P) :: (nat_lit 376,o256 P) :: (nat_lit 377,o257 P) :: (nat_lit 378,o258 P) :: (nat_lit 379,o259 P) :: (nat_lit 380,o260 P) :: (nat_lit 383,boot_o_7 P) :: (nat_lit 385,o265 P) :: (nat_lit 386,boot_o_7 P) :: (nat_lit 388,o267 P) :: (nat_lit 389,o268 P) :: (nat_lit 390,boot_o_7 P) :: (nat_lit 392,o269 P) :: (nat_lit 393,boot_o_7 P) :: (nat_lit 395,o271 P) :: (nat_lit 396,o272 P) :: (nat_lit 397,boot_o_7 P) :: (nat_lit 399,o273 P) :: (nat_lit 400,boot_o_7 P) :: (nat_lit 402,o275 P) :: (nat_lit 403,o276 P) :: (nat_lit 404,boot_o_7 P) :: (nat_lit 406,o277 P) :: (nat_lit 407,boot_o_7 P) :: (nat_lit 409,o279 P) :: (nat_lit 410,o280 P) :: (nat_lit 411,boot_o_7 P) :: (nat_lit 413,o281 P) :: (nat_lit 414,boot_o_7 P) :: (nat_lit 416,o283 P) :: (nat_lit 417,o284 P) :: (nat_lit 418,boot_o_7 P) :: (nat_lit 420,o285 P) :: (nat_lit 421,boot_o_7 P) :: (nat_lit 423,o287 P) :: (nat_lit 424,o288 P) :: (nat_lit 425,boot_o_7 P) :: (nat_lit 427,o289 P) :: (nat_lit 428,boot_o_7 P) :: (nat_lit 430,o291 P) :: (nat_lit 431,o292 P) :: (nat_lit 432,boot_o_7 P) :: (nat_lit 435,o294 P) :: (nat_lit 436,o295 P) :: (nat_lit 437,boot_o_7 P) :: (nat_lit 440,o297 P) :: (nat_lit 441,o298 P) :: []
noncomputable def hA : Params → Heap := fun P => ⟨⟨[boot_o_0 P,boot_o_1 P,boot_o_2 P,boot_o_3 P,boot_o_4 P,boot_o_5 P,boot_o_6 P,boot_o_7 P,boot_o_8 P,boot_o_9 P,boot_o_10 P,boot_o_7 P,boot_o_8 P,o11 P,o12 P]⟩,life⟩
noncomputable def hz0 : Params → List Obj := fun P => [boot_o_0 P,boot_o_1 P,o58 P,o263 P,boot_o_4 P,boot_o_5 P,boot_o_6 P,boot_o_7 P,boot_o_8 P,boot_o_9 P,boot_o_10 P,boot_o_7 P,o264 P,o11 P,o12 P,boot_o_7 P,boot_o_8 P,o15 P,boot_o_7 P,o16 P,o17 P,o18 P,boot_o_7 P,boot_o_8 P,o19 P,boot_o_7 P,o20 P,o21 P,o22 P,boot_o_7 P]
noncomputable def hz1 : Params → List Obj := fun P => [boot_o_8 P,o23 P,boot_o_7 P,o24 P,o25 P,o26 P,boot_o_7 P,boot_o_8 P,o27 P,boot_o_7 P,o28 P,o29 P,o30 P,boot_o_7 P,boot_o_8 P,o31 P,boot_o_7 P,o32 P,o33 P,o34 P,boot_o_7 P,boot_o_8 P,o35 P,boot_o_7 P,o36 P,o37 P,o38 P,boot_o_7 P,boot_o_8 P,o39 P]
noncomputable def hz2 : Params → List Obj := fun P => [boot_o_7 P,o40 P,o41 P,o42 P,boot_o_7 P,boot_o_8 P,o43 P,o44 P,o45 P,boot_o_7 P,boot_o_8 P,o46 P,boot_o_7 P,o47 P,o48 P,o49 P,boot_o_7 P,boot_o_8 P,o50 P,boot_o_7 P,o51 P,o52 P,o53 P,boot_o_7 P,boot_o_8 P,o54 P,boot_o_7 P,o55 P,o56 P,o57 P]
noncomputable def hz3 : Params → List Obj := fun P => [boot_o_7 P,boot_o_8 P,o61 P,boot_o_7 P,o62 P,o63 P,o64 P,o65 P,o66 P,o67 P,boot_o_7 P,o68 P,o69 P,o70 P,boot_o_7 P,boot_o_8 P,o71 P,boot_o_7 P,o72 P,o73 P,o74 P,o75 P,o76 P,o83 P,o78 P,o79 P,o80 P,o84 P,o66 P,o85 P]
noncomputable def hz4 : Params → List Obj := fun P => [boot_o_7 P,boot_o_8 P,o86 P,o87 P,boot_o_7 P,o88 P,o89 P,o90 P,o91 P,boot_o_7 P,o66 P,o94 P,boot_o_7 P,o95 P,o96 P,o97 P,boot_o_7 P,boot_o_8 P,o98 P,boot_o_7 P,o99 P,o100 P,o101 P,boot_o_7 P,boot_o_8 P,o102 P,boot_o_7 P,o103 P,o104 P,o105 P]
noncomputable def hz5 : Params → List Obj := fun P => [o106 P,o107 P,o108 P,o109 P,o110 P,o111 P,o112 P,boot_o_7 P,boot_o_8 P,o113 P,boot_o_7 P,o114 P,o115 P,o116 P,boot_o_7 P,o66 P,o119 P,boot_o_7 P,o120 P,o121 P,o122 P,boot_o_7 P,boot_o_8 P,o123 P,boot_o_7 P,o124 P,o125 P,o126 P,boot_o_7 P,boot_o_8 P]
noncomputable def hz6 : Params → List Obj := fun P => [o127 P,boot_o_7 P,o128 P,o129 P,o130 P,boot_o_7 P,boot_o_8 P,o131 P,boot_o_7 P,o132 P,o133 P,o134 P,boot_o_7 P,boot_o_8 P,o135 P,boot_o_7 P,o136 P,o137 P,o138 P,boot_o_7 P,boot_o_8 P,o139 P,boot_o_7 P,o140 P,o141 P,o142 P,o143 P,o144 P,o145 P,o146 P]
noncomputable def hz7 : Params → List Obj := fun P => [o147 P,o148 P,o149 P,boot_o_7 P,o66 P,o152 P,boot_o_7 P,o153 P,o154 P,o155 P,boot_o_7 P,boot_o_8 P,o156 P,boot_o_7 P,o157 P,o158 P,o159 P,boot_o_7 P,boot_o_8 P,o160 P,boot_o_7 P,o161 P,o162 P,o163 P,boot_o_7 P,boot_o_8 P,o164 P,boot_o_7 P,o165 P,o166 P]
noncomputable def hz8 : Params → List Obj := fun P => [o167 P,boot_o_7 P,boot_o_8 P,o168 P,boot_o_7 P,o169 P,o170 P,o171 P,boot_o_7 P,boot_o_8 P,o172 P,boot_o_7 P,o173 P,o174 P,o175 P,boot_o_7 P,boot_o_8 P,o176 P,boot_o_7 P,o177 P,o178 P,o179 P,boot_o_7 P,boot_o_8 P,o180 P,boot_o_7 P,o181 P,o182 P,o183 P,o184 P]
noncomputable def hz9 : Params → List Obj := fun P => [o185 P,o186 P,o187 P,o188 P,o189 P,o190 P,boot_o_7 P,o66 P,o193 P,boot_o_7 P,o194 P,o195 P,o196 P,o197 P,o198 P,boot_o_7 P,boot_o_8 P,o199 P,boot_o_7 P,o200 P,o201 P,o202 P,boot_o_7 P,boot_o_8 P,o203 P,boot_o_7 P,o204 P,o205 P,o206 P,boot_o_7 P]
noncomputable def hz10 : Params → List Obj := fun P => [boot_o_8 P,o207 P,boot_o_7 P,o208 P,o209 P,o210 P,boot_o_7 P,boot_o_8 P,o211 P,boot_o_7 P,o212 P,o213 P,o214 P,boot_o_7 P,boot_o_8 P,o215 P,boot_o_7 P,o216 P,o217 P,o218 P,o219 P,o220 P,o221 P,o222 P,o223 P,o224 P,o225 P,boot_o_7 P,boot_o_8 P,o228 P]
noncomputable def hz11 : Params → List Obj := fun P => [boot_o_7 P,o229 P,o230 P,o231 P,boot_o_7 P,o66 P,o232 P,boot_o_7 P,o233 P,o234 P,o235 P,boot_o_7 P,o236 P,boot_o_7 P,boot_o_8 P,o237 P,o238 P,o239 P,boot_o_7 P,boot_o_8 P,o240 P,boot_o_7 P,o241 P,o242 P,o243 P,boot_o_7 P,boot_o_8 P,o244 P,boot_o_7 P,o245 P]
noncomputable def hz12 : Params → List Obj := fun P => [o246 P,o247 P,boot_o_7 P,boot_o_8 P,o248 P,boot_o_7 P,o249 P,o250 P,o251 P,boot_o_7 P,boot_o_8 P,o252 P,boot_o_7 P,o253 P,o254 P,o255 P,o256 P,o257 P,o258 P,o259 P,o260 P,o261 P,o262 P,boot_o_7 P,boot_o_8 P,o265 P,boot_o_7 P,o266 P,o267 P,o268 P]
noncomputable def hz13 : Params → List Obj := fun P => [boot_o_7 P,boot_o_8 P,o269 P,boot_o_7 P,o270 P,o271 P,o272 P,boot_o_7 P,boot_o_8 P,o273 P,boot_o_7 P,o274 P,o275 P,o276 P,boot_o_7 P,boot_o_8 P,o277 P,boot_o_7 P,o278 P,o279 P,o280 P,boot_o_7 P,boot_o_8 P,o281 P,boot_o_7 P,o282 P,o283 P,o284 P,boot_o_7 P,boot_o_8 P]
noncomputable def hz14 : Params → List Obj := fun P => [o285 P,boot_o_7 P,o286 P,o287 P,o288 P,boot_o_7 P,boot_o_8 P,o289 P,boot_o_7 P,o290 P,o291 P,o292 P,boot_o_7 P,boot_o_8 P,o293 P,o294 P,o295 P,boot_o_7 P,boot_o_8 P,o296 P,o297 P,o298 P]
noncomputable def hZ : Params → Heap := fun P => ⟨⟨hz0 P ++ (hz1 P ++ (hz2 P ++ (hz3 P ++ (hz4 P ++ (hz5 P ++ (hz6 P ++ (hz7 P ++ (hz8 P ++ (hz9 P ++ (hz10 P ++ (hz11 P ++ (hz12 P ++ (hz13 P ++ (hz14 P))))))))))))))⟩,life⟩
noncomputable def S0 (w : World) (os : OsState) : SharedT := ⟨t12 w.params, 15, life, ⟨[]⟩, drawn, 187, os⟩
noncomputable def q0 : Pos := ⟨0,0,0,0⟩
noncomputable def S1 (w : World) (os : OsState) : SharedT := ⟨t87 w.params, 90, life, ⟨[]⟩, drawn, 300, os⟩
noncomputable def q1 : Pos := ⟨61,0,62,54⟩
noncomputable def S2 (w : World) (os : OsState) : SharedT := ⟨t164 w.params, 117, life, ⟨[]⟩, drawn, 340, os⟩
noncomputable def q2 : Pos := ⟨71,0,74,30⟩
noncomputable def S3 (w : World) (os : OsState) : SharedT := ⟨t216 w.params, 129, life, ⟨[]⟩, drawn, 358, os⟩
noncomputable def q3 : Pos := ⟨77,0,77,8⟩
noncomputable def S4 (w : World) (os : OsState) : SharedT := ⟨t333 w.params, 164, life, ⟨[]⟩, drawn, 411, os⟩
noncomputable def q4 : Pos := ⟨93,0,93,8⟩
noncomputable def S5 (w : World) (os : OsState) : SharedT := ⟨t472 w.params, 213, life, ⟨[]⟩, drawn, 490, os⟩
noncomputable def q5 : Pos := ⟨127,0,127,8⟩
noncomputable def S6 (w : World) (os : OsState) : SharedT := ⟨t653 w.params, 276, life, ⟨[]⟩, drawn, 564, os⟩
noncomputable def q6 : Pos := ⟨128,0,150,17⟩
noncomputable def S7 (w : World) (os : OsState) : SharedT := ⟨t836 w.params, 327, life, ⟨[]⟩, drawn, 644, os⟩
noncomputable def q7 : Pos := ⟨176,0,176,8⟩
noncomputable def S8 (w : World) (os : OsState) : SharedT := ⟨t1028 w.params, 383, life, ⟨[]⟩, drawn, 717, os⟩
noncomputable def q8 : Pos := ⟨203,0,203,8⟩
noncomputable def S9 (w : World) (os : OsState) : SharedT := ⟨t1242 w.params, 442, life, ⟨[]⟩, drawn, 795, os⟩
noncomputable def q9 : Pos := ⟨256,0,278,114⟩
noncomputable def sts1 : List Stmt := (allB.drop 0).take 16
noncomputable def sts2 : List Stmt := (allB.drop 16).take 3
noncomputable def sts3 : List Stmt := (allB.drop 19).take 2
noncomputable def sts4 : List Stmt := (allB.drop 21).take 3
noncomputable def sts5 : List Stmt := (allB.drop 24).take 2
noncomputable def sts6 : List Stmt := (allB.drop 26).take 1
noncomputable def sts7 : List Stmt := (allB.drop 27).take 2
noncomputable def sts8 : List Stmt := (allB.drop 29).take 3
noncomputable def sts9 : List Stmt := (allB.drop 32).take 9
theorem p1 (p : Program) (b : List Stmt) (w : World) (os : OsState) : segRunT treeTable p w 11 ann 1 389 (S0 w os) (piecesOf sts1 env (.body b env) q0 [topFrame qq]) = some (.next, S1 w os, .body b env, q1) := by
  rw [PySem.W.Fast.te10110043849684766642, PySem.W.Fast.te14364793385576792824]
  kernel_rfl
theorem p2 (p : Program) (b : List Stmt) (w : World) (os : OsState) : segRunT treeTable p w 11 ann 1 269 (S1 w os) (piecesOf sts2 env (.body b env) q1 [topFrame qq]) = some (.next, S2 w os, .body b env, q2) := by
  rw [PySem.W.Fast.te10110043849684766642, PySem.W.Fast.te14364793385576792824]
  kernel_rfl
theorem p3 (p : Program) (b : List Stmt) (w : World) (os : OsState) : segRunT treeTable p w 11 ann 1 223 (S2 w os) (piecesOf sts3 env (.body b env) q2 [topFrame qq]) = some (.next, S3 w os, .body b env, q3) := by
  rw [PySem.W.Fast.te10110043849684766642, PySem.W.Fast.te14364793385576792824]
  kernel_rfl
theorem p4 (p : Program) (b : List Stmt) (w : World) (os : OsState) : segRunT treeTable p w 11 ann 1 300 (S3 w os) (piecesOf sts4 env (.body b env) q3 [topFrame qq]) = some (.next, S4 w os, .body b env, q4) := by
  rw [PySem.W.Fast.te10110043849684766642, PySem.W.Fast.te14364793385576792824]
  kernel_rfl
theorem p5 (p : Program) (b : List Stmt) (w : World) (os : OsState) : segRunT treeTable p w 11 ann 1 376 (S4 w os) (piecesOf sts5 env (.body b env) q4 [topFrame qq]) = some (.next, S5 w os, .body b env, q5) := by
  rw [PySem.W.Fast.te10110043849684766642, PySem.W.Fast.te14364793385576792824]
  kernel_rfl
theorem p6 (p : Program) (b : List Stmt) (w : World) (os : OsState) : segRunT treeTable p w 11 ann 1 412 (S5 w os) (piecesOf sts6 env (.body b env) q5 [topFrame qq]) = some (.next, S6 w os, .body b env, q6) := by
  rw [PySem.W.Fast.te10110043849684766642, PySem.W.Fast.te14364793385576792824]
  kernel_rfl
theorem p7 (p : Program) (b : List Stmt) (w : World) (os : OsState) : segRunT treeTable p w 11 ann 1 380 (S6 w os) (piecesOf sts7 env (.body b env) q6 [topFrame qq]) = some (.next, S7 w os, .body b env, q7) := by
  rw [PySem.W.Fast.te10110043849684766642, PySem.W.Fast.te14364793385576792824]
  kernel_rfl
theorem p8 (p : Program) (b : List Stmt) (w : World) (os : OsState) : segRunT treeTable p w 11 ann 1 393 (S7 w os) (piecesOf sts8 env (.body b env) q7 [topFrame qq]) = some (.next, S8 w os, .body b env, q8) := by
  rw [PySem.W.Fast.te10110043849684766642, PySem.W.Fast.te14364793385576792824]
  kernel_rfl
theorem p9 (p : Program) (b : List Stmt) (w : World) (os : OsState) : segRunT treeTable p w 11 ann 1 273 (S8 w os) (piecesOf sts9 env (.body b env) q8 [topFrame qq]) = some (.next, S9 w os, .body b env, q9) := by
  rw [PySem.W.Fast.te10110043849684766642, PySem.W.Fast.te14364793385576792824]
  kernel_rfl
theorem pre (w : World) (os : OsState) : topGo treeTable pE w 11 ann 12 ⟨boot_heap w.params, ⟨[]⟩, boot_drawn, boot_toks, os⟩ (topStub pE) = some (⟨hA w.params, ⟨[]⟩, drawn, 187, os⟩, ⟨denote treeTable (.body allB env), .body allB env, ⟨0,0,0,0⟩, [topFrame qq]⟩) := by
  rw [PySem.W.Fast.te15667345088766844465, PySem.W.Fast.te11892475500146522536, PySem.W.Fast.te14364793385576792824]
  kernel_rfl
theorem block (w : World) (os : OsState) : segRun treeTable pE w 11 ann 1 1 ⟨hA w.params, ⟨[]⟩, drawn, 187, os⟩ (blockOf allB env (.body allB env) ⟨0,0,0,0⟩ [topFrame qq]) = some (.next, (S0 w os).abs, .body allB env, q0) := by
  rw [PySem.W.Fast.te14374325043358763698, PySem.W.Fast.te14364793385576792824]
  kernel_rfl
theorem fin (w : World) (os : OsState) : topRun treeTable pE w 11 ann 2 (S9 w os).abs ⟨doneF .next, .body allB env, q9, [topFrame qq]⟩ = some ⟨hZ w.params, ⟨[]⟩, drawn, 795, os⟩ := by
  rw [PySem.W.Fast.te14082659384304107361, PySem.W.Fast.te14364793385576792824]
  kernel_rfl
theorem size (w : World) : ((boot_heap w.params).isNs mainGlobals && (⟨[]⟩ : Array GenState).size == 0, (boot_heap w.params).objs.size, (boot_heap w.params).nsMap mainGlobals "__annotations__") = (true, 11, ann) := by
  kernel_rfl
theorem bodyIs : allB = sts1 ++ (sts2 ++ (sts3 ++ (sts4 ++ (sts5 ++ (sts6 ++ (sts7 ++ (sts8 ++ (sts9 ++ [])))))))) := by kernel_rfl

noncomputable def as : List Addr := nat_lit 2 :: nat_lit 3 :: nat_lit 15 :: nat_lit 17 :: nat_lit 18 :: nat_lit 20 :: nat_lit 21 :: nat_lit 22 :: nat_lit 24 :: nat_lit 25 :: nat_lit 27 :: nat_lit 28 :: nat_lit 29 :: nat_lit 31 :: nat_lit 32 :: nat_lit 34 :: nat_lit 35 :: nat_lit 36 :: nat_lit 38 :: nat_lit 39 :: nat_lit 41 :: nat_lit 42 :: nat_lit 43 :: nat_lit 45 :: nat_lit 46 :: nat_lit 48 :: nat_lit 49 :: nat_lit 50 :: nat_lit 52 :: nat_lit 53 :: nat_lit 55 :: nat_lit 56 :: nat_lit 57 :: nat_lit 59 :: nat_lit 60 :: nat_lit 62 :: nat_lit 63 :: nat_lit 64 :: nat_lit 67 :: nat_lit 68 :: nat_lit 69 :: nat_lit 71 :: nat_lit 72 :: nat_lit 74 :: nat_lit 75 :: nat_lit 76 :: nat_lit 78 :: nat_lit 79 :: nat_lit 81 :: nat_lit 82 :: nat_lit 83 :: nat_lit 85 :: nat_lit 86 :: nat_lit 88 :: nat_lit 89 :: nat_lit 90 :: nat_lit 92 :: nat_lit 93 :: nat_lit 95 :: nat_lit 96 :: nat_lit 97 :: nat_lit 104 :: nat_lit 106 :: nat_lit 107 :: nat_lit 109 :: nat_lit 110 :: nat_lit 111 :: nat_lit 112 :: nat_lit 113 :: nat_lit 114 :: nat_lit 117 :: nat_lit 124 :: nat_lit 125 :: nat_lit 126 :: nat_lit 136 :: nat_lit 138 :: nat_lit 139 :: nat_lit 141 :: nat_lit 142 :: nat_lit 143 :: nat_lit 145 :: nat_lit 146 :: nat_lit 148 :: nat_lit 149 :: nat_lit 150 :: nat_lit 151 :: nat_lit 152 :: nat_lit 153 :: nat_lit 154 :: nat_lit 157 :: nat_lit 159 :: nat_lit 160 :: nat_lit 162 :: nat_lit 163 :: nat_lit 171 :: nat_lit 173 :: nat_lit 174 :: nat_lit 176 :: nat_lit 177 :: nat_lit 178 :: nat_lit 180 :: nat_lit 181 :: nat_lit 183 :: nat_lit 184 :: nat_lit 185 :: nat_lit 187 :: nat_lit 188 :: nat_lit 190 :: nat_lit 191 :: nat_lit 192 :: nat_lit 194 :: nat_lit 195 :: nat_lit 197 :: nat_lit 198 :: nat_lit 199 :: nat_lit 201 :: nat_lit 202 :: nat_lit 204 :: nat_lit 205 :: nat_lit 206 :: nat_lit 207 :: nat_lit 208 :: nat_lit 209 :: nat_lit 210 :: nat_lit 220 :: nat_lit 222 :: nat_lit 223 :: nat_lit 225 :: nat_lit 226 :: nat_lit 227 :: nat_lit 229 :: nat_lit 230 :: nat_lit 232 :: nat_lit 233 :: nat_lit 234 :: nat_lit 236 :: nat_lit 237 :: nat_lit 239 :: nat_lit 240 :: nat_lit 241 :: nat_lit 243 :: nat_lit 244 :: nat_lit 246 :: nat_lit 247 :: nat_lit 248 :: nat_lit 250 :: nat_lit 251 :: nat_lit 253 :: nat_lit 254 :: nat_lit 255 :: nat_lit 257 :: nat_lit 258 :: nat_lit 260 :: nat_lit 261 :: nat_lit 262 :: nat_lit 264 :: nat_lit 265 :: nat_lit 267 :: nat_lit 268 :: nat_lit 269 :: nat_lit 270 :: nat_lit 271 :: nat_lit 272 :: nat_lit 273 :: nat_lit 283 :: nat_lit 284 :: nat_lit 285 :: nat_lit 287 :: nat_lit 288 :: nat_lit 290 :: nat_lit 291 :: nat_lit 292 :: nat_lit 294 :: nat_lit 295 :: nat_lit 297 :: nat_lit 298 :: nat_lit 299 :: nat_lit 301 :: nat_lit 302 :: nat_lit 304 :: nat_lit 305 :: nat_lit 306 :: nat_lit 308 :: nat_lit 309 :: nat_lit 311 :: nat_lit 312 :: nat_lit 313 :: nat_lit 315 :: nat_lit 316 :: nat_lit 318 :: nat_lit 319 :: nat_lit 320 :: nat_lit 321 :: nat_lit 322 :: nat_lit 323 :: nat_lit 324 :: nat_lit 327 :: nat_lit 329 :: nat_lit 330 :: nat_lit 332 :: nat_lit 333 :: nat_lit 341 :: nat_lit 342 :: nat_lit 343 :: nat_lit 346 :: nat_lit 347 :: nat_lit 348 :: nat_lit 350 :: nat_lit 351 :: nat_lit 353 :: nat_lit 354 :: nat_lit 355 :: nat_lit 357 :: nat_lit 358 :: nat_lit 360 :: nat_lit 361 :: nat_lit 362 :: nat_lit 364 :: nat_lit 365 :: nat_lit 367 :: nat_lit 368 :: nat_lit 369 :: nat_lit 371 :: nat_lit 372 :: nat_lit 374 :: nat_lit 375 :: nat_lit 376 :: nat_lit 377 :: nat_lit 378 :: nat_lit 379 :: nat_lit 380 :: nat_lit 383 :: nat_lit 385 :: nat_lit 386 :: nat_lit 388 :: nat_lit 389 :: nat_lit 390 :: nat_lit 392 :: nat_lit 393 :: nat_lit 395 :: nat_lit 396 :: nat_lit 397 :: nat_lit 399 :: nat_lit 400 :: nat_lit 402 :: nat_lit 403 :: nat_lit 404 :: nat_lit 406 :: nat_lit 407 :: nat_lit 409 :: nat_lit 410 :: nat_lit 411 :: nat_lit 413 :: nat_lit 414 :: nat_lit 416 :: nat_lit 417 :: nat_lit 418 :: nat_lit 420 :: nat_lit 421 :: nat_lit 423 :: nat_lit 424 :: nat_lit 425 :: nat_lit 427 :: nat_lit 428 :: nat_lit 430 :: nat_lit 431 :: nat_lit 432 :: nat_lit 435 :: nat_lit 436 :: nat_lit 437 :: nat_lit 440 :: nat_lit 441 :: []
theorem asIs : ∀ P, as = (K P).map (·.1) := fun _ => by kernel_rfl
noncomputable def view : Program := { pE with main := { pE.main with body := [0, 2, 3, 4, 6, 7, 8, 9, 10, 12, 13, 15, 16, 18, 19, 21, 22, 24, 26, 27, 29, 30, 32, 33, 34, 35, 36, 37, 38, 39, 40].filterMap fun i => pE.main.body[i]? } }
theorem run (w : World) (os : OsState) : topRun treeTable pE w 11 ann (12 + (1 + (389 + (269 + (223 + (300 + (376 + (412 + (380 + (393 + (273 + 2))))))))))) ⟨boot_heap w.params, ⟨[]⟩, boot_drawn, boot_toks, os⟩ (topStub pE) = some ⟨hZ w.params, ⟨[]⟩, drawn, 795, os⟩ := by
  have r := piece_app (segRun_of (p1 pE allB w os)) (piece_app (segRun_of (p2 pE allB w os)) (piece_app (segRun_of (p3 pE allB w os)) (piece_app (segRun_of (p4 pE allB w os)) (piece_app (segRun_of (p5 pE allB w os)) (piece_app (segRun_of (p6 pE allB w os)) (piece_app (segRun_of (p7 pE allB w os)) (piece_app (segRun_of (p8 pE allB w os)) (piece_app (segRun_of (p9 pE allB w os)) (piece_nil (fin w os))))))))))
  rw [← bodyIs] at r
  exact go_top (pre w os) (piece_block (block w os) r)
theorem opn : ∀ w : World, (fencedOpening treeTable pE w 6138).map (fun s => (s.heap, s.gens, s.drawn, s.toks)) = some (boot_heap w.params, Array.mk [], boot_drawn, boot_toks) := boot_open (by kernel_rfl) (by kernel_rfl) (fun s => by kernel_rfl)
theorem lk1 (w : World) : staticsOk (importedModules pE.main.body) (boot_heap w.params) (hZ w.params) = true := by
  rw [PySem.W.Fast.te5923862056798008813]
  kernel_rfl
theorem lk2 (w : World) : namesBound pE (hZ w.params) = true := by kernel_rfl
theorem lk3 (w : World) (os : OsState) : gensDone ⟨hZ w.params, ⟨[]⟩, drawn, 795, os⟩ = true := by kernel_rfl
theorem lk4 (w : World) : laidKept (boot_heap w.params) (hZ w.params) = true := by kernel_rfl
theorem lk6 (w : World) (os : OsState) : (kHook K as asIs).obs ⟨hZ w.params, ⟨[]⟩, drawn, 795, os⟩ = (kHook K as asIs).val w := by kernel_rfl
theorem lk5 (w : World) (os : OsState) : openSeen view ["HintWork", "Zone"] (importedModules pE.main.body) (fun s => xlAt view [] s && recOk PySem.Challenge.rw_xm0734_01.row.records s) true ⟨hZ w.params, ⟨[]⟩, drawn, 795, os⟩ = openGood view ["HintWork", "Zone"] := by
  rw [PySem.W.Fast.te5923862056798008813, PySem.W.Fast.te4187177175401517315]
  kernel_rfl
theorem left0 : LeftO pE view ["HintWork", "Zone"] (fun s => xlAt view [] s && recOk PySem.Challenge.rw_xm0734_01.row.records s) (kHook K as asIs).obs (kHook K as asIs).val 6138 true := by
  refine LeftO.of_pieces opn size run (by kernel_rfl) fun w => ?_
  funext os
  refine looks_pair (look_both (look_both (look_both (lk1 w) (lk2 w)) (lk3 w os)) (lk4 w)) (looks_pair (lk5 w os) (lk6 w os))
theorem left : LeftO PySem.Challenge.rw_xm0734_01.row.prog view ["HintWork", "Zone"] (fun s => xlAt view [] s && recOk PySem.Challenge.rw_xm0734_01.row.records s) (kHook K as asIs).obs (kHook K as asIs).val 6138 true := by
  have e : pE = PySem.Challenge.rw_xm0734_01.row.prog := rfl
  exact e ▸ left0
end Hd
open PySem.Calls
namespace Mine
theorem ax_bnd {a : Int} (h : a = 0 ∨ a = 1) : 0 ≤ a ∧ a < 2 := by rcases h with rfl | rfl <;> decide
theorem nn (n : Nat) : (0 : Int) ≤ n := Int.natCast_nonneg n
theorem lo_nn {x : Int} (h : 0 ≤ x) : -1000000 ≤ x := Int.le_trans (by decide) h
theorem dr_hi {x n : Int} (h : x < n) (hn : n ≤ 1000) : x + 1 ≤ 1000000 := Int.le_trans (Int.le_trans h hn) (by decide)
theorem dr_hi0 {x n : Int} (h : x < n) (hn : n ≤ 1000) : x ≤ 1000000 := Int.le_trans (Int.le_of_lt (Int.lt_of_lt_of_le h hn)) (by decide)
theorem dr_len {f l : Int} {n : Nat} (f0 : 0 ≤ f) (lN : l < n) : (l + 1 - f).toNat ≤ n := Int.toNat_le.mpr (Int.le_trans (Int.sub_le_self _ f0) lN)
theorem sz {a n : Nat} (h : a ≤ n) (hn : n ≤ 1000) : a ≤ 16777216 := Nat.le_trans (Nat.le_trans h hn) (by decide)
theorem sz2 {a b n : Nat} (h : a ≤ n) (h' : b ≤ n) (hn : n ≤ 1000) : a + b ≤ 16777216 := Nat.le_trans (Nat.add_le_add (Nat.le_trans h hn) (Nat.le_trans h' hn)) (by decide)
theorem dr_lt {f l : Int} {n i : Nat} (lN : l < n) (h : i < (l + 1 - f).toNat) : f + i < n :=
  Int.lt_of_le_of_lt (Int.lt_add_one_iff.mp (Int.add_lt_of_lt_sub_left (Int.lt_toNat.mp h))) lN
theorem dr_in {f : Int} {n i : Nat} (f0 : 0 ≤ f) (h : f + i < n) : (f + i).toNat < n := (Int.toNat_lt (Int.add_nonneg f0 (nn i))).mpr h
theorem fit {x : Int} {n : Nat} (h : x < n) (hn : n ≤ 1000) : x < 2 ^ 63 := Int.lt_of_lt_of_le (Int.lt_of_lt_of_le h (Int.ofNat_le.mpr hn)) (by decide)
theorem toNat_add {f : Int} {i : Nat} (f0 : 0 ≤ f) : (f + i).toNat = f.toNat + i := by
  obtain ⟨a, rfl⟩ := Int.eq_ofNat_of_zero_le f0
  rfl
theorem cast_add {f : Int} {i : Nat} (f0 : 0 ≤ f) : f + i = ((f.toNat + i : Nat) : Int) := by
  obtain ⟨a, rfl⟩ := Int.eq_ofNat_of_zero_le f0
  rfl
theorem dr_eL {f l : Int} (f0 : 0 ≤ f) (fl : f ≤ l) : l.toNat + 1 - f.toNat = (l + 1 - f).toNat := by
  obtain ⟨a, rfl⟩ := Int.eq_ofNat_of_zero_le f0
  obtain ⟨b, rfl⟩ := Int.eq_ofNat_of_zero_le (Int.le_trans f0 fl)
  exact (Int.toNat_sub (b + 1) a).symm
theorem zadd {i : Nat} : (0 + (i : Int)).toNat = i := by rw [Int.zero_add]; rfl
theorem br_lt {i n : Nat} (h : 0 + (i : Int) + 1 < n) : i + 1 < n := by rw [Int.zero_add] at h; exact Int.ofNat_lt.mp h
theorem br_ge {i n : Nat} (h : ¬ 0 + (i : Int) + 1 < n) (hi : i < n) : i + 1 = n := by rw [Int.zero_add] at h; exact Nat.le_antisymm hi (Nat.le_of_not_lt fun q => h (Int.ofNat_lt.mpr q))
theorem turn {i n : Nat} : ((0 + (i : Int) + 1).fmod (n : Int)).toNat = (i + 1) % n := by
  rw [Int.zero_add, Int.fmod_eq_emod_of_nonneg _ (nn n)]; rfl
theorem xsub {x y : Int} : x + (y - x) = y := by rw [Int.add_comm, Int.sub_add_cancel]
theorem rk_bnd {x y j : Int} (h : x ≤ j ∧ j < x + ((y - x).toNat : Int)) : j < y := by
  rcases Int.le_total y x with q | q
  · rw [Int.toNat_of_nonpos (Int.sub_nonpos_of_le q)] at h
    exact absurd (Int.lt_of_le_of_lt h.1 h.2) (by simp)
  · rw [Int.toNat_of_nonneg (Int.sub_nonneg_of_le q), xsub] at h
    exact h.2
theorem rk_iff {x y j : Int} : (x ≤ j ∧ j < x + ((y - x).toNat : Int)) ↔ x ≤ j ∧ j < y :=
  ⟨fun h => ⟨h.1, rk_bnd h⟩, fun h => ⟨h.1, by rw [Int.toNat_of_nonneg (Int.sub_nonneg_of_le (Int.le_trans h.1 (Int.le_of_lt h.2)))]; have := h.2; rw [xsub] ; exact this⟩⟩
theorem rk_in {x y j : Int} {n : Nat} (x0 : 0 ≤ x) (yn : y ≤ n) (h : x ≤ j ∧ j < x + ((y - x).toNat : Int)) : 0 ≤ j ∧ j < n := ⟨Int.le_trans x0 h.1, Int.lt_of_lt_of_le (rk_bnd h) yn⟩
theorem rk_len {x y : Int} {n : Nat} (x0 : 0 ≤ x) (yn : y ≤ n) : (y - x).toNat ≤ n := Int.toNat_le.mpr (Int.le_trans (Int.sub_le_self _ x0) yn)
theorem arc_one {a b j : Nat} : ((a : Int) + 1 ≤ j ∧ (j : Int) < a + 1 + (((b : Int) - (a + 1)).toNat : Int)) ↔ a < j ∧ j < b := by
  rw [rk_iff]
  exact ⟨fun h => ⟨Int.ofNat_lt.mp h.1, Int.ofNat_lt.mp h.2⟩, fun h => ⟨Int.ofNat_lt.mpr h.1, Int.ofNat_lt.mpr h.2⟩⟩
theorem arc_two {f l : Int} {a b j : Nat} (f0 : 0 ≤ f) (fl : f ≤ l) : (((a : Int) + 1 ≤ j ∧ (j : Int) < a + 1 + ((l + 1 - (a + 1)).toNat : Int)) ∨ (f ≤ j ∧ (j : Int) < f + (((b : Int) - f).toNat : Int))) ↔ ((a < j ∧ j ≤ l.toNat) ∨ (f.toNat ≤ j ∧ j < b)) := by
  rw [rk_iff, rk_iff]
  obtain ⟨c, rfl⟩ := Int.eq_ofNat_of_zero_le f0
  obtain ⟨d, rfl⟩ := Int.eq_ofNat_of_zero_le (Int.le_trans f0 fl)
  exact ⟨Or.imp (fun h => ⟨Int.ofNat_lt.mp h.1, Int.ofNat_le.mp (Int.lt_add_one_iff.mp h.2)⟩) (fun h => ⟨Int.ofNat_le.mp h.1, Int.ofNat_lt.mp h.2⟩),
    Or.imp (fun h => ⟨Int.ofNat_lt.mpr h.1, Int.lt_add_one_iff.mpr (Int.ofNat_le.mpr h.2)⟩) (fun h => ⟨Int.ofNat_le.mpr h.1, Int.ofNat_lt.mpr h.2⟩)⟩
abbrev Led := List (Addr × Obj)
noncomputable abbrev LW : List Str := looseW Hd.view [Str.ofString "HintWork", Str.ofString "Zone"]

/-- all of the ledger but what stands at the addresses of S is still there -/
def Kept (S : List Addr) (news news' : Led) : Prop := ∀ p ∈ news, p.1 ∉ S → p ∈ news'
theorem Kept.refl {S news} : Kept S news news := fun _ h _ => h
theorem Kept.cons {S news p} : Kept S news (p :: news) := fun _ h _ => .tail _ h
theorem Kept.trans {S S' T a b c} (x : Kept S a b) (y : Kept S' b c) (h1 : ∀ z ∈ S, z ∈ T) (h2 : ∀ z ∈ S', z ∈ T) : Kept T a c :=
  fun p hp hn => y p (x p hp fun h => hn (h1 _ h)) fun h => hn (h2 _ h)
theorem Kept.on {S a b} {p : Addr × Obj} (x : Kept S a b) (hp : p ∈ a) (hn : p.1 ∉ S) : p ∈ b := x p hp hn
theorem Kept.one {d : Addr} {a b} {p : Addr × Obj} (x : Kept [d] a b) (hp : p ∈ a) (hn : p.1 ≠ d) : p ∈ b := x p hp (by simpa using hn)
theorem Kept.none {a b} {p : Addr × Obj} (x : Kept [] a b) (hp : p ∈ a) : p ∈ b := x p hp (by simp)

/-- two entries of one ledger at one address are one -/
theorem led_eq {h₀ h : Heap} {L a : Addr} {o o' : Obj} {news : Led} (N : News h₀ L h news) (x : (a, o) ∈ news) (y : (a, o') ∈ news) : o = o' := by
  have e1 := (N _ x).1
  have e2 := (N _ y).1
  rw [e1] at e2
  exact Option.some.inj e2
theorem led_ne {h₀ h : Heap} {L a b : Addr} {o o' : Obj} {news : Led} (N : News h₀ L h news) (x : (a, o) ∈ news) (y : (b, o') ∈ news) (hne : o ≠ o') : a ≠ b := by
  rintro rfl
  exact hne (led_eq N x y)

theorem led_ne' {h₀ h : Heap} {L a b : Addr} {o o' : Obj} {news : Led} (x : (a, o) ∈ news) (y : (b, o') ∈ news) (hne : o ≠ o') (N : News h₀ L h news) : a ≠ b := led_ne N x y hne
def put (news : Led) (a : Addr) (o : Obj) : Led := news.map fun p => if p.1 = a then (a, o) else p
theorem put_self {news : Led} {a : Addr} {o o' : Obj} (h : (a, o') ∈ news) : (a, o) ∈ put news a o :=
  List.mem_map.mpr ⟨_, h, by simp⟩
theorem put_kept {news : Led} {a : Addr} {o : Obj} : Kept [a] news (put news a o) := fun p hp hn =>
  List.mem_map.mpr ⟨p, hp, by rw [if_neg (by simpa using hn)]⟩
theorem news_put {h₀ h h' : Heap} {L a : Addr} {o : Obj} {news : Led} (N : News h₀ L h news) (hs : Heap.SameBut a h h') (hg : h'.get? a = some o) (ha : a ≠ L) (h0 : h₀.get? a = none) : News h₀ L h' (put news a o) := by
  intro p hp
  obtain ⟨q, hq, e⟩ := List.mem_map.mp hp
  by_cases hqa : q.1 = a
  · rw [if_pos hqa] at e
    subst e
    exact ⟨hg, ha, h0⟩
  · rw [if_neg hqa] at e
    subst e
    exact ⟨(hs.2 _ hqa).trans (N q hq).1, (N q hq).2⟩
def refs (n : Nat) (f : Nat → Addr) : List Value := (List.range n).map fun i => Value.ref (f i)
theorem refs_len {n f} : (refs n f).length = n := by simp [refs]
theorem refs_get {n : Nat} {f : Nat → Addr} {i : Nat} (h : i < n) : (refs n f)[i]? = some (.ref (f i)) := by simp [refs, h]
abbrev tupOf (its : Array Value) (n : Nat) : Obj := { cls := .type "tuple", data := .seq its n }

theorem tup_ne_list {vs us : Array Value} {n k : Nat} : tupOf vs n ≠ W.listOf us k := fun h => by simp [tupOf, W.listOf] at h
theorem inst_ne_list {C d : Addr} {us : Array Value} {k : Nat} : instObj C d ≠ W.listOf us k := fun h => by simp [instObj, W.listOf] at h
theorem dict_ne_list {es : List DictEntry} {n : Nat} {us : Array Value} {k : Nat} : dictOf es n ≠ W.listOf us k := fun h => by simp [dictOf, W.listOf] at h

section
variable {prog : Program} {w : World} {A : Around} {E : Value → Shared → Prop} {s : Shared} {h₀ : Heap} {L l : Addr} {m : Str → Option Value} {news : Led}
/-- xs[k] = v at a place in bounds -/
theorem setItemU {vs : List Value} {n : Nat} {k : Int} {u : Tok} {v : Value} {Q : Unit → Shared → Prop} (F : Fr h₀ L s.heap m) (N : News h₀ L s.heap news) (hm : (l, W.listOf vs.toArray n) ∈ news)
    (hk0 : 0 ≤ k) (hk1 : k < vs.length) (hfit : k < 2 ^ 63)
    (h : ∀ h' news', Fr h₀ L h' m → News h₀ L h' news' → Kept [l] news news' → (l, W.listOf (vs.set k.toNat v).toArray n) ∈ news' → Q () { s with heap := h' }) :
    wpAny (model prog w) A (setItem (.ref l) (.int k u) v) Q E s := by
  have z := N _ hm
  have e := PySem.IsL.update z.1 (·.setIfInBounds k.toNat v)
  have e2 : vs.toArray.setIfInBounds k.toNat v = (vs.set k.toNat v).toArray := by apply Array.toList_inj.mp; simp
  simp only [e2, List.size_toArray, List.length_set, beq_self_eq_true, if_true] at e
  exact ki_setAt z.1 hk0 hfit (by simpa using hk1) (h _ (put news l (W.listOf (vs.set k.toNat v).toArray n)) (F.change (Heap.SameBut.update ..) z.2.1 z.2.2) (news_put N (Heap.SameBut.update ..) e z.2.1 z.2.2) put_kept (put_self hm))
theorem itemL {value slice : PySem.Expr} {vs : List Value} {n : Nat} {k : Int} {u : Tok} {v : Value} {Q : Value → Shared → Prop} (N : News h₀ L s.heap news) (hm : (l, W.listOf vs.toArray n) ∈ news)
    (hk0 : 0 ≤ k) (hfit : k < 2 ^ 63) (hx : vs[k.toNat]? = some v) (h : Q v s)
    (hs : subscripted slice false (.ref l) (.int k u) = operate [.ref l, .int k u] (getItem (.ref l) (.int k u)) := by with_unfolding_all rfl) :
    wpAny (model prog w) A (subscriptTail value slice (.ref l) (.int k u)) Q E s := by
  have hl : s.heap.IsList l vs.toArray := PySem.IsL.isList (n := n) (N _ hm).1
  exact tail_any hl.typeIs slot_list_getitem.lookup (wpAny_getItem_list hl hk0 hfit (by simpa using hx) h) hs
theorem itemT {value slice : PySem.Expr} {vs : List Value} {n : Nat} {k : Int} {u : Tok} {v : Value} {Q : Value → Shared → Prop} (N : News h₀ L s.heap news) (hm : (l, tupOf vs.toArray n) ∈ news)
    (hk0 : 0 ≤ k) (hfit : k < 2 ^ 63) (hx : vs[k.toNat]? = some v) (h : Q v s)
    (hs : subscripted slice false (.ref l) (.int k u) = operate [.ref l, .int k u] (getItem (.ref l) (.int k u)) := by with_unfolding_all rfl) :
    wpAny (model prog w) A (subscriptTail value slice (.ref l) (.int k u)) Q E s := by
  have hl : IsTup s.heap l vs.toArray := ⟨_, (N _ hm).1, rfl, n, rfl⟩
  obtain ⟨hlt, _⟩ := List.getElem?_eq_some_iff.mp hx
  refine tail_any hl.typeIs slot_tuple_getitem.lookup (getItem_tuple hl (by omega) hfit (j := k.toNat) ?_ (by simpa using hx) h) hs
  rw [List.size_toArray]
  unfold seqIndex?
  simp only []
  split <;> simp_all <;> omega
end

section
variable {prog : Program} {w : World} {A : Around} {E : Value → Shared → Prop} {s : Shared} {h₀ : Heap} {L l : Addr} {m : Str → Option Value} {news : Led}
theorem lenL {vs : List Value} {c n : Nat} {Q : Value → Shared → Prop} (N : News h₀ L s.heap news) (hm : (l, W.listOf vs.toArray c) ∈ news) (hs : vs.length = n) (hf : n < 2 ^ 62) (h : Q (.int (n : Nat) (s.toks + 1)) { s with toks := s.toks + 1 + 1 }) :
    wpAny (model prog w) A (call (.builtin "len") [.ref l]) Q E s := KM.len_K N hm (by simpa using hs) hf h
end
/-- the contract of a def of the text: called on vs over the ledger news, its frames d deep; what it hands back and leaves -/
def Con (w : World) (mean : ExcName → Option Value) (mg mb : Str → Option Value) (f : Addr) (vs : List Value) (d : Nat) (news : Led) (P : Value → Led → Prop) : Prop :=
  ∀ (dp un : Nat) (gd : Option (List Code)) (cn : Str) (cs : Scope) (a : Addr) (ccd : Value) (cl : List (Str × Addr)) (outer : List Env) (A₀ : Around) (base h₀ : Heap) (L : Addr) (m : Str → Option Value) (s : Shared) (Q E : Value → Shared → Prop),
  Below A₀ base outer h₀ → Fr h₀ L s.heap m → (Hd.K w.params).In h₀ → News h₀ L s.heap news → Top Hd.view LW mean mg mb h₀ → cs.kind = .function → dp + d < recursionLimit → un + 8 * d < cLine →
  (∀ r news' h' tk', Fr h₀ L h' m → News h₀ L h' news' → P r news' → Q r { s with heap := h', toks := tk' }) →
  wpAny (model PySem.Challenge.rw_xm0734_01.row.prog w) (ktrTop dp un gd cn cs L a ccd cl outer) (call (.ref f) vs) Q E s

theorem Con.mono {w : World} {mean : ExcName → Option Value} {mg mb : Str → Option Value} {f : Addr} {vs : List Value} {d : Nat} {news : Led} {P P' : Value → Led → Prop} (h : Con w mean mg mb f vs d news P) (hP : ∀ r nw, P r nw → P' r nw) : Con w mean mg mb f vs d news P' :=
  fun dp un gd cn cs a ccd cl outer A₀ base h₀ L m s Q E B F X N T hk hd hu hret => h dp un gd cn cs a ccd cl outer A₀ base h₀ L m s Q E B F X N T hk hd hu fun r nw h' tk' F' N' hp => hret r nw h' tk' F' N' (hP r nw hp)
theorem Con.use {w : World} {mean : ExcName → Option Value} {mg mb : Str → Option Value} {f : Addr} {vs : List Value} {d : Nat} {news : Led} {P : Value → Led → Prop}
    {dp un : Nat} {gd : Option (List Code)} {cn : Str} {cs : Scope} {a : Addr} {ccd : Value} {cl : List (Str × Addr)} {outer : List Env} {A₀ : Around} {base h₀ : Heap} {L : Addr} {m : Str → Option Value} {s : Shared} {Q E : Value → Shared → Prop}
    (B : Below A₀ base outer h₀) (F : Fr h₀ L s.heap m) (X : (Hd.K w.params).In h₀) (N : News h₀ L s.heap news) (T : Top Hd.view LW mean mg mb h₀) (hk : cs.kind = .function) (c : Con w mean mg mb f vs d news P) (hd : dp + d < recursionLimit) (hu : un + 8 * d < cLine)
    (ret : ∀ r news' h' tk', Fr h₀ L h' m → News h₀ L h' news' → P r news' → Q r { s with heap := h', toks := tk' }) :
    wpAny (model PySem.Challenge.rw_xm0734_01.row.prog w) (ktrTop dp un gd cn cs L a ccd cl outer) (call (.ref f) vs) Q E s :=
  c dp un gd cn cs a ccd cl outer A₀ base h₀ L m s Q E B F X N T hk hd hu ret

theorem fmod_bnd {a b : Int} (h : 0 < b) : 0 ≤ a.fmod b ∧ a.fmod b < b := ⟨Int.fmod_nonneg_of_pos a h, Int.fmod_lt_of_pos a h⟩
theorem fdiv_nn {a b : Int} (ha : 0 ≤ a) (h : 0 < b) : 0 ≤ a.fdiv b := Int.fdiv_nonneg ha (Int.le_of_lt h)
/-- of a product's two bounded factors -/
theorem mul_bnd {a b x y : Int} (ha : -x ≤ a) (ha' : a ≤ x) (hb : -y ≤ b) (hb' : b ≤ y) : -(x * y) ≤ a * b ∧ a * b ≤ x * y := by
  have h1 : a.natAbs ≤ x.natAbs := by omega
  have h2 : b.natAbs ≤ y.natAbs := by omega
  have h3 : (a * b).natAbs ≤ x.natAbs * y.natAbs := by rw [Int.natAbs_mul]; exact Nat.mul_le_mul h1 h2
  have hx : (x.natAbs : Int) = x := by omega
  have hy : (y.natAbs : Int) = y := by omega
  have h4 : ((x.natAbs * y.natAbs : Nat) : Int) = x * y := by rw [Int.natCast_mul, hx, hy]
  omega
theorem q_true {b : Bool} {Q : Value → Shared → Prop} {s : Shared} (e : b = true) (h : Q (.bool true) s) : Q (.bool b) s := e ▸ h
theorem kept_t1 {p : Addr × Obj} {a b : Led} (h : p :: a = b) : Kept [] a b := fun _ hq _ => h ▸ .tail _ hq
theorem kept_t2 {p q : Addr × Obj} {a b : Led} (h : p :: q :: a = b) : Kept [] a b := fun _ hq _ => h ▸ .tail _ (.tail _ hq)
theorem Kept.then {a b c : Led} (x : Kept [] a b) (y : Kept [] b c) : Kept [] a c := fun _ hp _ => y.none (x.none hp)
theorem units_ok {un d c k : Nat} (h : un + 8 * d < cLine) (e : c + 8 * k ≤ 8 * d) : un + c + 8 * k < cLine := by omega
theorem room_ok {dp d c k : Nat} (h : dp + d < recursionLimit) (e : c + k ≤ d) : dp + c + k < recursionLimit := by omega
def fup {α : Type} (f : Nat → α) (i : Nat) (v : α) : Nat → α := fun j => if j = i then v else f j
theorem fup_self {α : Type} {f : Nat → α} {i : Nat} {v : α} : fup f i v i = v := by simp [fup]
theorem fup_ne {α : Type} {f : Nat → α} {i j : Nat} {v : α} (h : j ≠ i) : fup f i v j = f j := by simp [fup, h]
theorem refs_set {n : Nat} {f : Nat → Addr} {i : Nat} {c : Addr} : (refs n f).set i (.ref c) = refs n (fup f i c) := by
  apply List.ext_getElem
  · simp [refs]
  · intro j h1 h2
    simp only [refs, List.getElem_set, List.getElem_map, List.getElem_range, fup]
    by_cases h : i = j
    · subst h; simp
    · have h' : j ≠ i := fun e => h e.symm
      simp [h, h']

structure ZRep where
  z : Addr
  dz : Addr
  lo : Addr
  lc : Addr
  lt : Addr
  le : Addr
  lb : Addr
  n : Nat
  oa : Nat → Addr
  ca : Nat → Addr
  ta : Nat → Addr
  ox : Nat → Int
  oy : Nat → Int
  cx : Nat → Int
  cy : Nat → Int
  b0 : Nat → Bool
  b1 : Nat → Bool

abbrev zdict (Z : ZRep) (h1 h2 h3 h4 h5 : Int) (k1 k2 k3 k4 k5 : Tok) : List DictEntry :=
  [⟨h1, .str (Str.ofString "original") k1, .ref Z.lo⟩, ⟨h2, .str (Str.ofString "current") k2, .ref Z.lc⟩, ⟨h3, .str (Str.ofString "touched") k3, .ref Z.lt⟩, ⟨h4, .str (Str.ofString "ends") k4, .ref Z.le⟩, ⟨h5, .str (Str.ofString "on_curve") k5, .ref Z.lb⟩]

/-- a point, a tuple of two ints -/
def PtAt (news : Led) (a : Addr) (x y : Int) : Prop := ∃ t t' k, (a, tupOf #[.int x t, .int y t'] k) ∈ news
/-- a pair of marks, a list of two bools -/
def BpAt (news : Led) (a : Addr) (x y : Bool) : Prop := ∃ k, (a, W.listOf #[.bool x, .bool y] k) ∈ news
def ListAt (news : Led) (a : Addr) (vs : List Value) : Prop := ∃ k, (a, W.listOf vs.toArray k) ∈ news

/-- the ledger bears the zone Z -/
structure ZIn (news : Led) (Z : ZRep) : Prop where
  obj : (Z.z, instObj 378 Z.dz) ∈ news
  dict : ∃ h1 h2 h3 h4 h5 k1 k2 k3 k4 k5 k, (Z.dz, dictOf (zdict Z h1 h2 h3 h4 h5 k1 k2 k3 k4 k5) k) ∈ news
  ol : ListAt news Z.lo (refs Z.n Z.oa)
  cl : ListAt news Z.lc (refs Z.n Z.ca)
  tl : ListAt news Z.lt (refs Z.n Z.ta)
  op : ∀ i, i < Z.n → PtAt news (Z.oa i) (Z.ox i) (Z.oy i)
  cp : ∀ i, i < Z.n → PtAt news (Z.ca i) (Z.cx i) (Z.cy i)
  tp : ∀ i, i < Z.n → BpAt news (Z.ta i) (Z.b0 i) (Z.b1 i)
  hoc : Z.lo ≠ Z.lc
  hot : Z.lo ≠ Z.lt
  hct : Z.lc ≠ Z.lt
  hto : ∀ i, i < Z.n → Z.ta i ≠ Z.lo
  htc : ∀ i, i < Z.n → Z.ta i ≠ Z.lc
  htt : ∀ i, i < Z.n → Z.ta i ≠ Z.lt
  hta : ∀ i j, i < Z.n → j < Z.n → i ≠ j → Z.ta i ≠ Z.ta j

/-- what a set of addresses is not: the places that a zone's facts speak of, its moved lists left out -/
def Inc (news news' : Led) : Prop := ∀ p ∈ news, p ∈ news'
theorem PtAt.kept {news news' : Led} {a x y} (h : PtAt news a x y) {S : List Addr} (k : Kept S news news') (hn : a ∉ S) : PtAt news' a x y :=
  let ⟨t, t', n, m⟩ := h; ⟨t, t', n, k _ m hn⟩
theorem BpAt.kept {news news' : Led} {a x y} (h : BpAt news a x y) {S : List Addr} (k : Kept S news news') (hn : a ∉ S) : BpAt news' a x y :=
  let ⟨n, m⟩ := h; ⟨n, k _ m hn⟩
theorem ListAt.kept {news news' : Led} {a vs} (h : ListAt news a vs) {S : List Addr} (k : Kept S news news') (hn : a ∉ S) : ListAt news' a vs :=
  let ⟨n, m⟩ := h; ⟨n, k _ m hn⟩

theorem one_not {a d : Addr} (h : a ≠ d) : a ∉ [d] := by simpa using h
/-- everything but the list d (any list that is none of the zone's own) stays: so does the zone -/
theorem ZIn.kept {h₀ h : Heap} {L : Addr} {news news' : Led} {Z : ZRep} (hz : ZIn news Z) (N : News h₀ L h news) {d : Addr} {vs : Array Value} {k : Nat} (hd : (d, W.listOf vs k) ∈ news) (K : Kept [d] news news')
    (h1 : d ≠ Z.lo) (h2 : d ≠ Z.lc) (h3 : d ≠ Z.lt) (h4 : ∀ i, i < Z.n → Z.ta i ≠ d) : ZIn news' Z where
  obj := K _ hz.obj (one_not (led_ne N hz.obj hd inst_ne_list))
  dict := let ⟨a, b, c, d', e, f, g, h, i, j, k, m⟩ := hz.dict; ⟨a, b, c, d', e, f, g, h, i, j, k, K _ m (one_not (led_ne N m hd dict_ne_list))⟩
  ol := hz.ol.kept K (one_not h1.symm)
  cl := hz.cl.kept K (one_not h2.symm)
  tl := hz.tl.kept K (one_not h3.symm)
  op := fun i hi => let ⟨t, t', n, m⟩ := hz.op i hi; ⟨t, t', n, K _ m (one_not (led_ne N m hd tup_ne_list))⟩
  cp := fun i hi => let ⟨t, t', n, m⟩ := hz.cp i hi; ⟨t, t', n, K _ m (one_not (led_ne N m hd tup_ne_list))⟩
  tp := fun i hi => (hz.tp i hi).kept K (one_not (h4 i hi))
  hoc := hz.hoc
  hot := hz.hot
  hct := hz.hct
  hto := hz.hto
  htc := hz.htc
  htt := hz.htt
  hta := hz.hta
theorem ZIn.inc {news news' : Led} {Z : ZRep} (hz : ZIn news Z) (K : Kept [] news news') : ZIn news' Z where
  obj := K.none hz.obj
  dict := let ⟨a, b, c, d', e, f, g, h, i, j, k, m⟩ := hz.dict; ⟨a, b, c, d', e, f, g, h, i, j, k, K.none m⟩
  ol := hz.ol.kept K (by simp)
  cl := hz.cl.kept K (by simp)
  tl := hz.tl.kept K (by simp)
  op := fun i hi => (hz.op i hi).kept K (by simp)
  cp := fun i hi => (hz.cp i hi).kept K (by simp)
  tp := fun i hi => (hz.tp i hi).kept K (by simp)
  hoc := hz.hoc
  hot := hz.hot
  hct := hz.hct
  hto := hz.hto
  htc := hz.htc
  htt := hz.htt
  hta := hz.hta

/-- the point i stands at (x, y) now, its tuple at c -/
def ZRep.setCur (Z : ZRep) (i : Nat) (c : Addr) (x y : Int) : ZRep := { Z with ca := fup Z.ca i c, cx := fup Z.cx i x, cy := fup Z.cy i y }
def ZRep.setB0 (Z : ZRep) (i : Nat) (b : Bool) : ZRep := { Z with b0 := fup Z.b0 i b }
def ZRep.setB1 (Z : ZRep) (i : Nat) (b : Bool) : ZRep := { Z with b1 := fup Z.b1 i b }

theorem ZIn.setCur {h₀ h : Heap} {L : Addr} {news news' : Led} {Z : ZRep} {i : Nat} {c : Addr} {x y : Int} (hz : ZIn news Z) (N : News h₀ L h news) (K : Kept [Z.lc] news news')
    (hl : ListAt news' Z.lc ((refs Z.n Z.ca).set i (.ref c))) (hc : PtAt news' c x y) : ZIn news' (Z.setCur i c x y) := by
  obtain ⟨kc, hlc⟩ := hz.cl
  rw [refs_set] at hl
  exact {
    obj := K _ hz.obj (one_not (led_ne N hz.obj hlc inst_ne_list))
    dict := let ⟨a, b, c, d', e, f, g, h, i, j, k, m⟩ := hz.dict; ⟨a, b, c, d', e, f, g, h, i, j, k, K _ m (one_not (led_ne N m hlc dict_ne_list))⟩
    ol := hz.ol.kept K (one_not hz.hoc)
    cl := hl
    tl := hz.tl.kept K (one_not hz.hct.symm)
    op := fun j hj => let ⟨t, t', n, m⟩ := hz.op j hj; ⟨t, t', n, K _ m (one_not (led_ne N m hlc tup_ne_list))⟩
    cp := fun j hj => by
      show PtAt news' (fup Z.ca i c j) (fup Z.cx i x j) (fup Z.cy i y j)
      by_cases e : j = i
      · subst e; simp only [fup_self]; exact hc
      · simp only [fup_ne e]
        obtain ⟨t, t', n, m⟩ := hz.cp j hj
        exact ⟨t, t', n, K _ m (one_not (led_ne N m hlc tup_ne_list))⟩
    tp := fun j hj => (hz.tp j hj).kept K (one_not (hz.htc j hj))
    hoc := hz.hoc
    hot := hz.hot
    hct := hz.hct
    hto := hz.hto
    htc := hz.htc
    htt := hz.htt
    hta := hz.hta }

theorem ZIn.setB {h₀ h : Heap} {L : Addr} {news news' : Led} {Z : ZRep} {i : Nat} {b0 b1 : Nat → Bool} (hz : ZIn news Z) (N : News h₀ L h news) (hi : i < Z.n) (K : Kept [Z.ta i] news news')
    (hb : BpAt news' (Z.ta i) (b0 i) (b1 i)) (e0 : ∀ j, j ≠ i → b0 j = Z.b0 j) (e1 : ∀ j, j ≠ i → b1 j = Z.b1 j) : ZIn news' { Z with b0 := b0, b1 := b1 } := by
  obtain ⟨kb, hlb⟩ := hz.tp i hi
  exact {
    obj := K _ hz.obj (one_not (led_ne N hz.obj hlb inst_ne_list))
    dict := let ⟨a, b, c, d', e, f, g, h, i, j, k, m⟩ := hz.dict; ⟨a, b, c, d', e, f, g, h, i, j, k, K _ m (one_not (led_ne N m hlb dict_ne_list))⟩
    ol := hz.ol.kept K (one_not (hz.hto i hi).symm)
    cl := hz.cl.kept K (one_not (hz.htc i hi).symm)
    tl := hz.tl.kept K (one_not (hz.htt i hi).symm)
    op := fun j hj => let ⟨t, t', n, m⟩ := hz.op j hj; ⟨t, t', n, K _ m (one_not (led_ne N m hlb tup_ne_list))⟩
    cp := fun j hj => let ⟨t, t', n, m⟩ := hz.cp j hj; ⟨t, t', n, K _ m (one_not (led_ne N m hlb tup_ne_list))⟩
    tp := fun j hj => by
      show BpAt news' (Z.ta j) (b0 j) (b1 j)
      by_cases e : j = i
      · subst e; exact hb
      · rw [e0 j e, e1 j e]
        exact (hz.tp j hj).kept K (one_not (hz.hta j i hj hi e))
    hoc := hz.hoc
    hot := hz.hot
    hct := hz.hct
    hto := hz.hto
    htc := hz.htc
    htt := hz.htt
    hta := hz.hta }
/-- the object of an iteration under way -/
def Itc (o : Obj) : Prop := o.cls = .type "list_iterator" ∨ o.cls = .type "range_iterator"
/-- a turn's end: what it leaves -/
def TP (h₀ : Heap) (L : Addr) (J : (Str → Option Value) → Led → Prop) (keep : Led) (s₁ : Shared) (Q : Flow → Shared → Prop) (f : Flow) (s₂ : Shared) : Prop :=
  match f with
  | .ret v => Q (.ret v) s₂
  | .brk => Q .next s₂
  | _ => ∃ h' tk' m' nx, s₂ = { s₁ with heap := h', toks := tk' } ∧ Fr h₀ L h' m' ∧ News h₀ L h' nx ∧ (∀ p ∈ keep, p ∈ nx) ∧ J m' nx
theorem TP.next {h₀ h' : Heap} {L : Addr} {J : (Str → Option Value) → Led → Prop} {keep nx : Led} {s₁ : Shared} {Q : Flow → Shared → Prop} {tk' : Nat} {m' : Str → Option Value} (F : Fr h₀ L h' m') (N : News h₀ L h' nx) (k : ∀ p ∈ keep, p ∈ nx) (j : J m' nx) :
    TP h₀ L J keep s₁ Q .next { s₁ with heap := h', toks := tk' } := ⟨h', tk', m', nx, rfl, F, N, k, j⟩

section
variable {prog : Program} {w : World} {A : Around} {E : Value → Shared → Prop} {s : Shared} {env : Env} {h₀ : Heap} {x : Str} {body : List Stmt} {Q : Flow → Shared → Prop}
theorem loop_my {I : Addr} {fp : List Addr} {n : Nat} {P : Nat → Value → Prop} {St : Nat → Heap → Prop} {m₀ : Str → Option Value} {news Kp : Led} (J : Nat → (Str → Option Value) → Led → Prop)
    (W : Walks prog w A I fp [I] n P St) (hcls : ∀ i h, St i h → ∃ o, h.get? I = some o ∧ Itc o) (hIf : I ∈ fp) (hfp : ∀ b ∈ fp, b = I ∨ ∃ p ∈ Kp, p.1 = b)
    (hL : env.locals ∉ fp) (hI : h₀.get? I = none) (hnI : ∀ p ∈ news, p.1 ≠ I) (hst : St 0 s.heap) (F : Fr h₀ env.locals s.heap m₀) (N : News h₀ env.locals s.heap news)
    (hKp : ∀ p ∈ Kp, p ∈ news) (hKq : ∀ p ∈ Kp, ¬ Itc p.2)
    (hJ : ∀ i m nx nx', (∀ p ∈ nx, ¬ Itc p.2 ∨ p ∈ news → p ∈ nx') → J i m nx → J i m nx') (hj : J 0 m₀ news)
    (turn : ∀ i v m₁ nx h tk io, i < n → P i v → Itc io → (I, io) ∈ nx → (∀ p ∈ Kp, p ∈ nx) → J i m₁ nx → Fr h₀ env.locals h (fun y => if y = x then some v else m₁ y) → News h₀ env.locals h nx →
      wpAny (model prog w) A (execs body env) (TP h₀ env.locals (J (i + 1)) ((I, io) :: Kp) { s with heap := h, toks := tk } Q) E { s with heap := h, toks := tk })
    (done : ∀ m₁ nx h tk, J n m₁ nx → (∀ p ∈ Kp, p ∈ nx) → Fr h₀ env.locals h m₁ → News h₀ env.locals h nx → Q .next { s with heap := h, toks := tk }) :
    LoopAtV prog w A h₀ env x body Q E (.ref I) s := by
  refine ⟨I, fp, [I], n, P, St, m₀, news, (fun i m nx => (∀ p ∈ Kp, p ∈ nx) ∧ J i m nx), rfl, W, hL, ?_, ?_, hst, F, N, ⟨hKp, hj⟩, ?_, ?_⟩
  · intro b hb; rw [List.mem_singleton.mp hb]; exact hI
  · intro p hp hm; exact hnI p hp (List.mem_singleton.mp hm)
  · rintro i v m₁ news₁ s₁ own ⟨hh, tk, rfl⟩ hin hP ⟨hk1, hJ1⟩ hoff hown hget hmem hst' F₁ N₁
    obtain ⟨io, hio, hic⟩ := hcls _ _ hst'
    have hIo : (I, io) ∈ own := hmem I hIf hI io hio
    have hk2 : ∀ p ∈ Kp, p ∈ own ++ news₁ := fun p hp => List.mem_append.mpr (.inr (hk1 p hp))
    refine wpAny_mono (turn i v m₁ (own ++ news₁) hh tk io hin hP hic (List.mem_append.mpr (.inl hIo)) hk2 (hJ i m₁ news₁ _ (fun p hp _ => List.mem_append.mpr (.inr hp)) hJ1) F₁ N₁) (fun f s₂ p => ?_) fun _ _ e => e
    have fin : (∃ h' tk' m' nx, s₂ = { s with heap := h', toks := tk' } ∧ Fr h₀ env.locals h' m' ∧ News h₀ env.locals h' nx ∧ (∀ p ∈ (I, io) :: Kp, p ∈ nx) ∧ J (i + 1) m' nx) →
        LoopStepU h₀ env.locals [I] own (fun m nx => (∀ p ∈ Kp, p ∈ nx) ∧ J (i + 1) m nx) { s with heap := hh, toks := tk } .next s₂ := by
      rintro ⟨h', tk', m', nx, e, F', N', hk, hm⟩
      have hIx : (I, io) ∈ nx := hk _ (.head _)
      have good : ∀ p ∈ nx, ¬ Itc p.2 ∨ p ∈ news → p ∈ nx.filter fun p => decide (p.1 ≠ I) := fun p hp hq => by
        refine List.mem_filter.mpr ⟨hp, decide_eq_true ?_⟩
        intro e1
        rcases hq with hq | hq
        case inr => exact hnI p hq e1
        obtain ⟨a, o⟩ := p
        cases e1
        exact hq (led_eq N' hIx hp ▸ hic)
      refine ⟨rfl, h', tk', m', nx.filter fun p => decide (p.1 ≠ I), e, F', fun p hp => ?_, fun p hp hm' => ?_, fun p hp => good p (hk p (.tail _ hp)) (.inl (hKq p hp)), hJ _ _ _ _ good hm⟩
      · rcases List.mem_append.mp hp with h | h
        · have hg : p ∈ nx := by
            rcases hfp _ (hown p h) with e1 | ⟨q, hq, e1⟩
            · have : p = (I, io) := Prod.ext e1 (by have := hget p h; rw [e1, hio] at this; exact (Option.some.inj this).symm)
              rw [this]; exact hIx
            · have h1 := (N₁ q (hk2 q hq)).1
              have h2 := hget p h
              rw [← e1, h1] at h2
              have : p = q := Prod.ext e1.symm (Option.some.inj h2).symm
              rw [this]; exact hk q (.tail _ hq)
          exact N' p hg
        · exact N' p (List.mem_filter.mp h).1
      · exact of_decide_eq_true (List.mem_filter.mp hp).2 (List.mem_singleton.mp hm')
    cases f with
    | ret v => exact .ret p
    | brk => exact .brk p
    | next => exact .next (fin p)
    | cont => exact .cont (fin p)
  · rintro h' tk m' news' F' N' _ ⟨hk, hJ'⟩
    exact done m' news' h' tk hJ' hk F' N'

theorem iter_listM {l : Addr} {vs : List Value} {nn : Nat} {m₀ : Str → Option Value} {news : Led} (J : Nat → (Str → Option Value) → Led → Prop)
    (hh : A.handled = none) (hl : (l, W.listOf vs.toArray nn) ∈ news) (F : Fr h₀ env.locals s.heap m₀) (N : News h₀ env.locals s.heap news)
    (hJ : ∀ i m nx nx', (∀ p ∈ nx, ¬ Itc p.2 ∨ p ∈ news → p ∈ nx') → J i m nx → J i m nx') (hj : J 0 m₀ news)
    (turn : ∀ i v m₁ nx h tk I io, i < vs.length → vs[i]? = some v → Itc io → (I, io) ∈ nx → (l, W.listOf vs.toArray nn) ∈ nx → J i m₁ nx → Fr h₀ env.locals h (fun y => if y = x then some v else m₁ y) → News h₀ env.locals h nx →
      wpAny (model prog w) A (execs body env) (TP h₀ env.locals (J (i + 1)) [(I, io), (l, W.listOf vs.toArray nn)] { s with heap := h, toks := tk } Q) E { s with heap := h, toks := tk })
    (done : ∀ m₁ nx h tk, J vs.length m₁ nx → (l, W.listOf vs.toArray nn) ∈ nx → Fr h₀ env.locals h m₁ → News h₀ env.locals h nx → Q .next { s with heap := h, toks := tk }) :
    wpAny (model prog w) A (pyIter (.ref l)) (fun it s₂ => LoopAtV prog w A h₀ env x body Q E it s₂) E s := by
  have hol : s.heap.get? l = some (W.listOf vs.toArray nn) := (N _ hl).1
  have hls : s.heap.IsList l vs.toArray := ⟨_, hol, rfl, nn, rfl⟩
  have hne : l ≠ s.heap.objs.size := Nat.ne_of_lt (Heap.lt_size hol)
  refine wpAny_pyIter_list hls ?_
  have Wk := Walks.list (prog := prog) (w := w) hh s.heap.objs.size l hne vs.toArray
  rw [List.size_toArray] at Wk
  refine loop_my (Kp := [(l, W.listOf vs.toArray nn)]) J Wk ?_ (.head _) ?_ ?_ (next_is_new F) ?_ ⟨⟨_, Heap.get?_push_size _ rfl, rfl, rfl⟩, hls.at fun o e => Heap.get?_push_of_some _ e⟩ (F.push _) (fun p hp => ⟨Heap.get?_push_of_some _ (N p hp).1, (N p hp).2⟩) ?_ ?_ hJ hj ?_ ?_
  · rintro i h ⟨⟨o, ho, hc, _⟩, _⟩
    exact ⟨o, ho, .inl hc⟩
  · intro b hb
    rcases List.mem_cons.mp hb with e | hb
    · exact .inl e
    · exact .inr ⟨_, .head _, (List.mem_singleton.mp hb).symm⟩
  · intro hm
    rcases List.mem_cons.mp hm with e | hm
    · exact absurd F.ns.lt (e ▸ Nat.lt_irrefl _)
    · exact (N _ hl).2.1 ((List.mem_singleton.mp hm).symm)
  · intro p hp e
    exact absurd (Heap.lt_size (N p hp).1) (e ▸ Nat.lt_irrefl _)
  · intro p hp; rw [List.mem_singleton.mp hp]; exact hl
  · intro p hp; rw [List.mem_singleton.mp hp]; rintro (e | e) <;> simp [W.listOf] at e
  · intro i v m₁ nx h tk io hi hP hio hIn hk hJi F₁ N₁
    exact turn i v m₁ nx h tk _ io hi (by simpa using hP) hio hIn (hk _ (.head _)) hJi F₁ N₁
  · intro m₁ nx h tk hJn hk F₁ N₁
    exact done m₁ nx h tk hJn (hk _ (.head _)) F₁ N₁

theorem iter_rangeM {r : Addr} {a₀ b₀ : Int} {t₀ u₀ v₀ : Tok} {n : Nat} {m₀ : Str → Option Value} {news : Led} (J : Nat → (Str → Option Value) → Led → Prop)
    (hh : A.handled = none) (hr : IsRange s.heap r a₀ b₀ 1 t₀ u₀ v₀) (hsmall : Builtin.Range.small a₀ b₀ 1 = true) (hn : Builtin.Range.rangeSize a₀ b₀ 1 = (n : Int)) (F : Fr h₀ env.locals s.heap m₀) (N : News h₀ env.locals s.heap news)
    (hJ : ∀ i m nx nx', (∀ p ∈ nx, ¬ Itc p.2 ∨ p ∈ news → p ∈ nx') → J i m nx → J i m nx') (hj : J 0 m₀ news)
    (turn : ∀ (i : Nat) t m₁ nx h tk I io, i < n → Itc io → (I, io) ∈ nx → J i m₁ nx → Fr h₀ env.locals h (fun y => if y = x then some (.int (a₀ + i) t) else m₁ y) → News h₀ env.locals h nx →
      wpAny (model prog w) A (execs body env) (TP h₀ env.locals (J (i + 1)) [(I, io)] { s with heap := h, toks := tk } Q) E { s with heap := h, toks := tk })
    (done : ∀ m₁ nx h tk, J n m₁ nx → Fr h₀ env.locals h m₁ → News h₀ env.locals h nx → Q .next { s with heap := h, toks := tk }) :
    wpAny (model prog w) A (pyIter (.ref r)) (fun it s₂ => LoopAtV prog w A h₀ env x body Q E it s₂) E s := by
  refine wpAny_pyIter_range hr hsmall ?_
  have Wk : Walks prog w A s.heap.objs.size [s.heap.objs.size] [s.heap.objs.size] n (fun i v => i < n ∧ ∃ t, v = .int (a₀ + i * 1) t)
      (fun i h => IsRangeIter h s.heap.objs.size (a₀ + (i : Nat) * 1) ((n : Int) - (i : Nat)) 1) := (Walks.range hh _ a₀ 1 n).bound
  refine loop_my (Kp := []) J Wk ?_ (.head _) ?_ ?_ (next_is_new F) ?_ (by show IsRangeIter _ _ _ _ _; rw [hn]; simpa using Heap.get?_push_size _ rfl) (F.push _) (fun p hp => ⟨Heap.get?_push_of_some _ (N p hp).1, (N p hp).2⟩) (fun _ h => nomatch h) (fun _ h => nomatch h) hJ hj ?_ ?_
  · intro i h hi
    exact ⟨_, hi, .inr rfl⟩
  · intro b hb; exact .inl (List.mem_singleton.mp hb)
  · intro hm
    exact absurd F.ns.lt ((List.mem_singleton.mp hm) ▸ Nat.lt_irrefl _)
  · intro p hp e
    exact absurd (Heap.lt_size (N p hp).1) (e ▸ Nat.lt_irrefl _)
  · rintro i v m₁ nx h tk io hi ⟨_, t, rfl⟩ hio hIn _ hJi F₁ N₁
    have e1 : a₀ + (i : Int) * 1 = a₀ + (i : Int) := by omega
    rw [e1] at F₁
    exact turn i t m₁ nx h tk _ io hi hio hIn hJi F₁ N₁
  · intro m₁ nx h tk hJn _ F₁ N₁
    exact done m₁ nx h tk hJn F₁ N₁

/-- the names that a turn stores are forgotten, all others stay -/
abbrev stm (x : Str) (st : List Str) (v : Option Value) (u m₀ : Str → Option Value) : Str → Option Value := fun y => if y = x then v else if st.contains y then u y else m₀ y
def Same (x : Str) (st : List Str) (m₀ m' : Str → Option Value) : Prop := ∀ z, z ≠ x → st.contains z = false → m' z = m₀ z
theorem stm_eq {x : Str} {st : List Str} {v : Option Value} {m₀ m₁ : Str → Option Value} (h : Same x st m₀ m₁) : (fun y => if y = x then v else m₁ y) = stm x st v m₁ m₀ := by
  funext y
  by_cases h1 : y = x
  · simp [h1]
  · simp only [if_neg h1]
    cases h2 : st.contains y
    · simp only [Bool.false_eq_true, if_false]; exact h y h1 h2
    · simp only [if_true]
theorem stm_eq' {x : Str} {st : List Str} {m₀ m₁ : Str → Option Value} (h : Same x st m₀ m₁) : m₁ = fun y => if y = x then m₁ y else if st.contains y then m₁ y else m₀ y := by
  funext y
  by_cases h1 : y = x
  · simp [h1]
  · simp only [if_neg h1]
    cases h2 : st.contains y
    · simp only [Bool.false_eq_true, if_false]; exact h y h1 h2
    · simp only [if_true]

theorem iter_listS (st : List Str) {l : Addr} {vs : List Value} {nn : Nat} {m₀ : Str → Option Value} {news : Led} (J : Nat → Led → Prop)
    (hh : A.handled = none) (hl : (l, W.listOf vs.toArray nn) ∈ news) (F : Fr h₀ env.locals s.heap m₀) (N : News h₀ env.locals s.heap news)
    (hJ : ∀ i nx nx', (∀ p ∈ nx, ¬ Itc p.2 ∨ p ∈ news → p ∈ nx') → J i nx → J i nx') (hj : J 0 news)
    (turn : ∀ i v (u : Str → Option Value) nx h tk I io, i < vs.length → vs[i]? = some v → Itc io → (I, io) ∈ nx → (l, W.listOf vs.toArray nn) ∈ nx → J i nx → Fr h₀ env.locals h (fun y => if y = x then some v else if st.contains y then u y else m₀ y) → News h₀ env.locals h nx →
      wpAny (model prog w) A (execs body env) (TP h₀ env.locals (fun m' nx' => J (i + 1) nx' ∧ Same x st m₀ m') [(I, io), (l, W.listOf vs.toArray nn)] { s with heap := h, toks := tk } Q) E { s with heap := h, toks := tk })
    (done : ∀ (u : Str → Option Value) nx h tk, J vs.length nx → (l, W.listOf vs.toArray nn) ∈ nx → Fr h₀ env.locals h (fun y => if y = x then u y else if st.contains y then u y else m₀ y) → News h₀ env.locals h nx → Q .next { s with heap := h, toks := tk }) :
    wpAny (model prog w) A (pyIter (.ref l)) (fun it s₂ => LoopAtV prog w A h₀ env x body Q E it s₂) E s := by
  refine iter_listM (fun i m nx => J i nx ∧ Same x st m₀ m) hh hl F N (fun i m nx nx' h j => ⟨hJ i nx nx' h j.1, j.2⟩) ⟨hj, fun _ _ _ => rfl⟩ ?_ ?_
  · rintro i v m₁ nx h tk I io hi hv hio hI hl' ⟨hj1, hs⟩ F₁ N₁
    rw [stm_eq hs] at F₁
    exact turn i v m₁ nx h tk I io hi hv hio hI hl' hj1 F₁ N₁
  · rintro m₁ nx h tk ⟨hj1, hs⟩ hl' F₁ N₁
    rw [stm_eq' hs] at F₁
    exact done m₁ nx h tk hj1 hl' F₁ N₁

theorem iter_rangeS (st : List Str) {r : Addr} {a₀ b₀ : Int} {t₀ u₀ v₀ : Tok} {n : Nat} {m₀ : Str → Option Value} {news : Led} (J : Nat → Led → Prop)
    (hh : A.handled = none) (hr : IsRange s.heap r a₀ b₀ 1 t₀ u₀ v₀) (hsmall : Builtin.Range.small a₀ b₀ 1 = true) (hn : Builtin.Range.rangeSize a₀ b₀ 1 = (n : Int)) (F : Fr h₀ env.locals s.heap m₀) (N : News h₀ env.locals s.heap news)
    (hJ : ∀ i nx nx', (∀ p ∈ nx, ¬ Itc p.2 ∨ p ∈ news → p ∈ nx') → J i nx → J i nx') (hj : J 0 news)
    (turn : ∀ (i : Nat) t (u : Str → Option Value) nx h tk I io, i < n → Itc io → (I, io) ∈ nx → J i nx → Fr h₀ env.locals h (fun y => if y = x then some (.int (a₀ + i) t) else if st.contains y then u y else m₀ y) → News h₀ env.locals h nx →
      wpAny (model prog w) A (execs body env) (TP h₀ env.locals (fun m' nx' => J (i + 1) nx' ∧ Same x st m₀ m') [(I, io)] { s with heap := h, toks := tk } Q) E { s with heap := h, toks := tk })
    (done : ∀ (u : Str → Option Value) nx h tk, J n nx → Fr h₀ env.locals h (fun y => if y = x then u y else if st.contains y then u y else m₀ y) → News h₀ env.locals h nx → Q .next { s with heap := h, toks := tk }) :
    wpAny (model prog w) A (pyIter (.ref r)) (fun it s₂ => LoopAtV prog w A h₀ env x body Q E it s₂) E s := by
  refine iter_rangeM (fun i m nx => J i nx ∧ Same x st m₀ m) hh hr hsmall hn F N (fun i m nx nx' h j => ⟨hJ i nx nx' h j.1, j.2⟩) ⟨hj, fun _ _ _ => rfl⟩ ?_ ?_
  · rintro i t m₁ nx h tk I io hi hio hI ⟨hj1, hs⟩ F₁ N₁
    rw [stm_eq hs] at F₁
    exact turn i t m₁ nx h tk I io hi hio hI hj1 F₁ N₁
  · rintro m₁ nx h tk ⟨hj1, hs⟩ F₁ N₁
    rw [stm_eq' hs] at F₁
    exact done m₁ nx h tk hj1 F₁ N₁
end
theorem itc_list {vs : Array Value} {k : Nat} : ¬ Itc (W.listOf vs k) := by rintro (e | e) <;> simp [W.listOf] at e
theorem itc_tup {vs : Array Value} {k : Nat} : ¬ Itc (tupOf vs k) := by rintro (e | e) <;> simp [tupOf] at e
theorem itc_inst {C d : Addr} : ¬ Itc (instObj C d) := by rintro (e | e) <;> simp [instObj] at e
theorem itc_dict {es : List DictEntry} {k : Nat} : ¬ Itc (dictOf es k) := by rintro (e | e) <;> simp [dictOf] at e
section
variable {nx nx' : Led} (h : ∀ p ∈ nx, ¬ Itc p.2 → p ∈ nx')
include h
theorem PtAt.quiet {a x y} (p : PtAt nx a x y) : PtAt nx' a x y := let ⟨t, t', k, m⟩ := p; ⟨t, t', k, h _ m itc_tup⟩
theorem BpAt.quiet {a x y} (p : BpAt nx a x y) : BpAt nx' a x y := let ⟨k, m⟩ := p; ⟨k, h _ m itc_list⟩
theorem ListAt.quiet {a vs} (p : ListAt nx a vs) : ListAt nx' a vs := let ⟨k, m⟩ := p; ⟨k, h _ m itc_list⟩
theorem ZIn.quiet {Z : ZRep} (hz : ZIn nx Z) : ZIn nx' Z where
  obj := h _ hz.obj itc_inst
  dict := let ⟨a, b, c, d', e, f, g, h', i, j, k, m⟩ := hz.dict; ⟨a, b, c, d', e, f, g, h', i, j, k, h _ m itc_dict⟩
  ol := hz.ol.quiet h
  cl := hz.cl.quiet h
  tl := hz.tl.quiet h
  op := fun i hi => (hz.op i hi).quiet h
  cp := fun i hi => (hz.cp i hi).quiet h
  tp := fun i hi => (hz.tp i hi).quiet h
  hoc := hz.hoc
  hot := hz.hot
  hct := hz.hct
  hto := hz.hto
  htc := hz.htc
  htt := hz.htt
  hta := hz.hta
end
theorem Kept.quiet {S : List Addr} {news nx nx' : Led} (k : Kept S news nx) (h : ∀ p ∈ nx, ¬ Itc p.2 ∨ p ∈ news → p ∈ nx') : Kept S news nx' := fun p hp hn => h p (k p hp hn) (.inr hp)
theorem itc_ne_list {o : Obj} {vs : Array Value} {k : Nat} (h : Itc o) : o ≠ W.listOf vs k := fun e => itc_list (e ▸ h)
theorem itc_ne_tup {o : Obj} {vs : Array Value} {k : Nat} (h : Itc o) : o ≠ tupOf vs k := fun e => itc_tup (e ▸ h)
theorem keep2 {a b : Addr × Obj} {nx : Led} (x : a ∈ nx) (y : b ∈ nx) : ∀ p ∈ [a, b], p ∈ nx := by
  intro p hp
  rcases List.mem_cons.mp hp with rfl | hp
  · exact x
  · rw [List.mem_singleton.mp hp]; exact y
theorem keep1 {a : Addr × Obj} {nx : Led} (x : a ∈ nx) : ∀ p ∈ [a], p ∈ nx := by
  intro p hp
  rw [List.mem_singleton.mp hp]; exact x
theorem same_stm {x : Str} {st : List Str} {v : Option Value} {u m₀ : Str → Option Value} : Same x st m₀ (fun y => if y = x then v else if st.contains y then u y else m₀ y) := fun z h1 h2 => by
  show (if z = x then v else if st.contains z = true then u z else m₀ z) = m₀ z
  rw [if_neg h1, if_neg (by rw [h2]; exact Bool.false_ne_true)]
theorem rng_small {a b : Int} (ha : -1000000 ≤ a) (ha' : a ≤ 1000000) (hb : -1000000 ≤ b) (hb' : b ≤ 1000000) : Builtin.Range.small a b 1 = true := small_one (by omega) (by omega) (by omega) (by omega)
theorem rng0 {n : Nat} (h : n ≤ 1000) : Builtin.Range.small 0 (n : Int) 1 = true := rng_small (by decide) (by decide) (lo_nn (nn n)) (Int.le_trans (Int.ofNat_le.mpr h) (by decide))
theorem rs0 {n : Nat} : Builtin.Range.rangeSize 0 (n : Int) 1 = (n : Int) := by rw [rangeSize_nat, Int.sub_zero]; rfl
theorem ints_at {vs : List Value} {ns : List Int} (h : IntsAre vs ns) {k : Nat} {n : Int} (hn : ns[k]? = some n) : ∃ t, vs[k]? = some (.int n t) := h.get k n hn
theorem ints_one {n : Int} {t : Tok} : IntsAre [.int n t] [n] := .cons n t .nil
section
variable {prog : Program} {w : World} {A : Around} {E : Value → Shared → Prop} {s : Shared} {h₀ : Heap} {L l b : Addr} {m : Str → Option Value} {news : Led}
theorem addL {vs ws : List Value} {c d : Nat} {Q : Value → Shared → Prop} (F : Fr h₀ L s.heap m) (N : News h₀ L s.heap news) (hl : (l, W.listOf vs.toArray c) ∈ news) (hb : (b, W.listOf ws.toArray d) ∈ news) (hsz : vs.length + ws.length ≤ 16777216)
    (h : ∀ D h', Fr h₀ L h' m → News h₀ L h' ((D, W.listOf (vs ++ ws).toArray 0) :: news) → (∀ p ∈ news, p.1 < D) → Q (.ref D) { s with heap := h' }) : wpAny (model prog w) A (binaryOp .Add (.ref l) (.ref b)) Q E s := by
  have h1 : s.heap.IsList l vs.toArray := PySem.IsL.isList (n := c) (N _ hl).1
  have h2 : s.heap.IsList b ws.toArray := PySem.IsL.isList (n := d) (N _ hb).1
  refine add_lists (vs := vs) (ws := ws) (hsz := by rw [sizeLine_eq]; exact hsz) F N h1 h2 fun h' F' N' => h _ h' F' N' fun p hp => Heap.lt_size (N p hp).1
end
theorem mem_rangeKs_iff {a k : Int} {n : Nat} : k ∈ rangeKs a n ↔ a ≤ k ∧ k < a + (n : Int) := by
  constructor
  · exact mem_rangeKs
  · rintro ⟨h1, h2⟩
    unfold rangeKs
    exact List.mem_map.mpr ⟨(k - a).toNat, List.mem_range.mpr (by omega), by omega⟩
theorem ncont {st : List Str} {z y : Str} (h : st.contains z = false) (hy : y ∈ st) : z ≠ y := by
  rintro rfl
  have : st.contains z = true := List.contains_iff_mem.mpr hy
  rw [h] at this
  cases this
section
variable {prog : Program} {w : World} {A : Around} {s : Shared} {env : Env} {h₀ : Heap} {L : Addr} {x : Str} {m : Str → Option Value}
/-- an iteration's source: what the iteration walks over -/
def Src (prog : Program) (w : World) (A : Around) (h₀ : Heap) (L : Addr) (m : Str → Option Value) (news Kp : Led) (n : Nat) (P : Nat → Value → Prop) (xv : Value) (s : Shared) : Prop :=
  ∀ (K : Value → Shared → Prop) (E : Value → Shared → Prop),
    (∀ I fp St h tk, Walks prog w A I fp [I] n P St → (∀ i h, St i h → ∃ o, h.get? I = some o ∧ Itc o) → I ∈ fp → (∀ b ∈ fp, b = I ∨ ∃ p ∈ Kp, p.1 = b) → L ∉ fp → h₀.get? I = none → (∀ p ∈ news, p.1 ≠ I) → St 0 h → Fr h₀ L h m → News h₀ L h news →
      (∀ p ∈ Kp, p ∈ news) → K (.ref I) { s with heap := h, toks := tk }) → wpAny (model prog w) A (pyIter xv) K E s

theorem src_list {l : Addr} {vs : List Value} {nn : Nat} {news : Led} (hh : A.handled = none) (hl : (l, W.listOf vs.toArray nn) ∈ news) (F : Fr h₀ L s.heap m) (N : News h₀ L s.heap news) :
    Src prog w A h₀ L m news [(l, W.listOf vs.toArray nn)] vs.length (fun i v => vs[i]? = some v) (.ref l) s := by
  intro K E hK
  have hol : s.heap.get? l = some (W.listOf vs.toArray nn) := (N _ hl).1
  have hls : s.heap.IsList l vs.toArray := ⟨_, hol, rfl, nn, rfl⟩
  have hne : l ≠ s.heap.objs.size := Nat.ne_of_lt (Heap.lt_size hol)
  refine wpAny_pyIter_list hls ?_
  have Wk := Walks.list (prog := prog) (w := w) hh s.heap.objs.size l hne vs.toArray
  rw [List.size_toArray] at Wk
  have Wk' : Walks prog w A s.heap.objs.size [s.heap.objs.size, l] [s.heap.objs.size] vs.length (fun i v => vs[i]? = some v) (fun i h => h.IsListIter s.heap.objs.size l i ∧ h.IsList l vs.toArray) := by
    have e : (fun (i : Nat) (v : Value) => vs.toArray[i]? = some v) = fun i v => vs[i]? = some v := by funext i v; simp
    rw [← e]; exact Wk
  refine hK _ _ _ _ s.toks Wk' ?_ (.head _) ?_ ?_ (next_is_new F) ?_ ⟨⟨_, Heap.get?_push_size _ rfl, rfl, rfl⟩, hls.at fun o e => Heap.get?_push_of_some _ e⟩ (F.push _) (fun p hp => ⟨Heap.get?_push_of_some _ (N p hp).1, (N p hp).2⟩) ?_
  · rintro i h ⟨⟨o, ho, hc, _⟩, _⟩
    exact ⟨o, ho, .inl hc⟩
  · intro b hb
    rcases List.mem_cons.mp hb with e | hb
    · exact .inl e
    · exact .inr ⟨_, .head _, (List.mem_singleton.mp hb).symm⟩
  · intro hm
    rcases List.mem_cons.mp hm with e | hm
    · exact absurd F.ns.lt (e ▸ Nat.lt_irrefl _)
    · exact (N _ hl).2.1 ((List.mem_singleton.mp hm).symm)
  · intro p hp e
    exact absurd (Heap.lt_size (N p hp).1) (e ▸ Nat.lt_irrefl _)
  · intro p hp; rw [List.mem_singleton.mp hp]; exact hl

theorem src_range {r : Addr} {a₀ b₀ : Int} {t₀ u₀ v₀ : Tok} {n : Nat} {news : Led} (hh : A.handled = none) (hr : IsRange s.heap r a₀ b₀ 1 t₀ u₀ v₀) (hsmall : Builtin.Range.small a₀ b₀ 1 = true) (hn : Builtin.Range.rangeSize a₀ b₀ 1 = (n : Int))
    (F : Fr h₀ L s.heap m) (N : News h₀ L s.heap news) : Src prog w A h₀ L m news [] n (fun i v => i < n ∧ ∃ t, v = .int (a₀ + i) t) (.ref r) s := by
  intro K E hK
  refine wpAny_pyIter_range hr hsmall ?_
  have e : (fun (i : Nat) (v : Value) => i < n ∧ ∃ t, v = .int (a₀ + i * 1) t) = fun i v => i < n ∧ ∃ t, v = .int (a₀ + i) t := by
    funext i v; rw [show a₀ + (i : Int) * 1 = a₀ + (i : Int) by omega]
  have Wk : Walks prog w A s.heap.objs.size [s.heap.objs.size] [s.heap.objs.size] n (fun i v => i < n ∧ ∃ t, v = .int (a₀ + i) t)
      (fun i h => IsRangeIter h s.heap.objs.size (a₀ + (i : Nat) * 1) ((n : Int) - (i : Nat)) 1) := by rw [← e]; exact (Walks.range hh _ a₀ 1 n).bound
  refine hK _ _ _ _ s.toks Wk ?_ (.head _) ?_ ?_ (next_is_new F) ?_ (by show IsRangeIter _ _ _ _ _; rw [hn]; simpa using Heap.get?_push_size _ rfl) (F.push _) (fun p hp => ⟨Heap.get?_push_of_some _ (N p hp).1, (N p hp).2⟩) (fun _ h => nomatch h)
  · intro i h hi
    exact ⟨_, hi, .inr rfl⟩
  · intro b hb; exact .inl (List.mem_singleton.mp hb)
  · intro hm
    exact absurd F.ns.lt ((List.mem_singleton.mp hm) ▸ Nat.lt_irrefl _)
  · intro p hp e
    exact absurd (Heap.lt_size (N p hp).1) (e ▸ Nat.lt_irrefl _)

/-- how a step within a block leaves things -/
def CStep (h₀ : Heap) (L : Addr) (m : Str → Option Value) (keep : Led) (s : Shared) (R : Led → Prop) (s' : Shared) : Prop :=
  ∃ h' tk' nx, s' = { s with heap := h', toks := tk' } ∧ Fr h₀ L h' m ∧ News h₀ L h' nx ∧ (∀ p ∈ keep, p ∈ nx) ∧ R nx
abbrev testsOf (ifs : List Expr) (cenv : Env) : Sem Bool := forIn ifs true fun c r => if r = true then do let ok ← isTrue c cenv (eval c cenv); pure (ForInStep.yield ok) else pure (ForInStep.yield r)

theorem comp_block_my {elt iter : Expr} {px : Pos} {ifs : List Expr} {scope : Scope} {cl : List (Str × Addr)} {pos : Pos} {I : Addr} {fp : List Addr} {n : Nat} {P : Nat → Value → Prop} {St : Nat → Heap → Prop} {news Kp : Led}
    {RR : Value → Addr → Result → Shared → Prop} {E : Value → Shared → Prop}
    (J : List Addr → Nat → List Value → Led → Prop)
    (Wk : Walks prog w A I fp [I] n P St) (hcls : ∀ i h, St i h → ∃ o, h.get? I = some o ∧ Itc o) (hIf : I ∈ fp) (hfp : ∀ b ∈ fp, b = I ∨ ∃ p ∈ Kp, p.1 = b)
    (hL : L ∉ fp) (hI : h₀.get? I = none) (hnI : ∀ p ∈ news, p.1 ≠ I) (hst : St 0 s.heap) (F : Fr h₀ L s.heap m) (N : News h₀ L s.heap news) (hKp : ∀ p ∈ Kp, p ∈ news) (hsz : n ≤ 16777216)
    (hcell : ∀ y ∈ scope.names, y.2 ≠ .cell) (hkind : scope.kind = .function) (hx : scope.names.lookup x = some .local)
    (hJ : ∀ X i ys nx nx', (∀ p ∈ nx, p.1 ∉ X ∨ p ∈ news → p ∈ nx') → J X i ys nx → J X i ys nx') (hj : ∀ X, (∀ p ∈ news, p.1 ∉ X) → J X 0 [] news)
    (turn : ∀ C D i v ys nx h tk io oC kD (m₂ : Str → Option Value) E', i < n → P i v → Itc io → (I, io) ∈ nx → (C, oC) ∈ nx → (∀ h' : Heap, h'.get? C = some oC → h'.Ns C m₂) → m₂ x = some v → (D, W.listOf ys.toArray kD) ∈ nx → (∀ p ∈ Kp, p ∈ nx) → J [I, C, D] i ys nx →
      Fr h₀ L h m → News h₀ L h nx → (∀ p ∈ news, p.1 ∉ [I, C, D]) →
      wpAny (model prog w) A (testsOf ifs (compEnvC scope cl C env)) (fun ok s₃ => CStep h₀ L m ((I, io) :: (C, oC) :: (D, W.listOf ys.toArray kD) :: Kp) { s with heap := h, toks := tk } (fun nx' =>
        if ok = true then wpAny (model prog w) A (eval elt (compEnvC scope cl C env)) (fun y s₄ => CStep h₀ L m ((I, io) :: (C, oC) :: (D, W.listOf ys.toArray kD) :: Kp) { s with heap := h, toks := tk } (fun nx'' => J [I, C, D] (i + 1) (ys ++ [y]) nx'') s₄) E' s₃
        else J [I, C, D] (i + 1) ys nx') s₃) E' { s with heap := h, toks := tk })
    (done : ∀ C D h tk nx ys kD mC, D ≠ C → C ≠ L → h₀.get? C = none → h.Ns C mC → Fr h₀ L h m → News h₀ L h ((D, W.listOf ys.toArray kD) :: nx) → (∀ p ∈ nx, p.1 ≠ C) → (∀ p ∈ Kp, p ∈ nx) → (∀ p ∈ news, p.1 ∉ [I, C, D]) → J [I, C, D] n ys nx →
      RR (.ref D) C (.ok .next) { s with heap := h, toks := tk }) :
    wpAny (model prog w) A (newList []) (fun acc s₃ => wpAny (model prog w) A (newFunctionEnv scope env.globals cl [] env.qual none .none (some env)) (fun cenv s₄ =>
      codeAny (model prog w) A (.compStart (.ListComp elt [⟨.Name x px, iter, ifs, 0⟩] scope pos) 0 (.ref I) acc { cenv with scope := relabel scope env }) (RR acc cenv.locals) s₄) E s₃) E s := by
  refine wpAny_newObj_type (wpAny_newFunctionEnv hcell (by intro y hy; simp at hy) (fun h₁ hns₁ hsb₁ => ?_) hkind)
  dsimp only at hns₁ hsb₁ ⊢
  generalize hH2 : s.heap.push { cls := .type "list", dict := none, data := .seq ([] : List Value).toArray } = H2 at hns₁ hsb₁ ⊢
  have hC : H2.objs.size = s.heap.objs.size + 1 := by rw [← hH2, Heap.size_push]
  have hDC : s.heap.objs.size ≠ H2.objs.size := by rw [hC]; exact Nat.ne_of_lt (Nat.lt_succ_self _)
  generalize hCe : H2.objs.size = C at *
  generalize hDe : s.heap.objs.size = D at *
  have old : ∀ b o, s.heap.get? b = some o → h₁.get? b = some o := fun b o e => by
    have hlt := Heap.lt_size e
    rw [hDe] at hlt
    exact hsb₁.extBut b o (by rw [hC]; exact Nat.ne_of_lt (Nat.lt_succ_of_lt hlt)) (Heap.get?_push_of_some _ (hH2 ▸ Heap.get?_push_of_some _ e))
  have lts : ∀ b o, s.heap.get? b = some o → b < D := fun b o e => hDe ▸ Heap.lt_size e
  have hacc : h₁.get? D = some (W.listOf ([] : List Value).toArray 0) := hsb₁.extBut _ _ hDC (Heap.get?_push_of_some _ (hH2 ▸ hDe ▸ Heap.get?_push_size _ rfl))
  have hst₁ : St 0 h₁ := Wk.frame _ _ _ hst fun b _ o e => old b o e
  have F₁ : Fr h₀ L h₁ m := F.keeps old
  have N₁ : News h₀ L h₁ news := N.grown old
  obtain ⟨oI, hoI, _⟩ := hcls _ _ hst
  have ID : I < D := lts _ _ hoI
  have DC : D < C := by rw [hC]; exact Nat.lt_succ_self _
  have LD : L < D := hDe ▸ F.ns.lt
  have hfr : ∀ p ∈ news, p.1 ∉ [I, C, D] := fun p hp hm => by
    have h1 := lts _ _ (N p hp).1
    simp only [List.mem_cons, List.not_mem_nil, or_false] at hm
    rcases hm with e | e | e
    · exact hnI p hp e
    · exact absurd (e ▸ h1) (Nat.not_lt.mpr (Nat.le_of_lt DC))
    · exact absurd (e ▸ h1) (Nat.lt_irrefl _)
  have h0D : h₀.get? D = none := by
    cases e : h₀.get? D with
    | none => rfl
    | some o => exact absurd (lts _ _ (F.keep _ _ e)) (Nat.lt_irrefl _)
  have h0C : h₀.get? C = none := by
    cases e : h₀.get? C with
    | none => rfl
    | some o => exact absurd (lts _ _ (F.keep _ _ e)) (Nat.not_lt.mpr (Nat.le_of_lt DC))
  have hCL : C ≠ L := Nat.ne_of_gt (Nat.lt_trans LD DC)
  have hDL : D ≠ L := Nat.ne_of_gt LD
  have hIL : I ≠ L := fun e => hL (e ▸ hIf)
  have hIC : I ≠ C := Nat.ne_of_lt (Nat.lt_trans ID DC)
  have hIDn : I ≠ D := Nat.ne_of_lt ID
  have hfC : ∀ b ∈ fp, b ≠ C := fun b hb e => by
    rcases hfp b hb with e1 | ⟨p, hp, e1⟩
    · exact hIC (e1.symm.trans e)
    · exact hfr p (hKp p hp) (by rw [e1, e]; simp)
  have hkf : (compEnvC scope cl C env).scope.kind = .function := by simp [compEnvC, relabel, hkind]
  have loop : ∀ s₃ : Shared, s₃ = { s with heap := h₁, toks := s.toks + ([] : List (Str × Value)).length } →
      codeAny (model prog w) A (.compLoop (.ListComp elt [⟨.Name x px, iter, ifs, 0⟩] scope pos) 0 (.ref I) (.ref D) (compEnvC scope cl C env)) (RR (.ref D) C) s₃ := by
    rintro s₃ rfl
    refine codeAny_compLoop_tests (fun k s' => ∃ i ys h tk nx kD m', s' = { s with heap := h, toks := tk } ∧ k = n + 1 - i ∧ i ≤ n ∧ ys.length ≤ i ∧ St i h ∧ h.Ns C m' ∧ h.get? D = some (W.listOf ys.toArray kD) ∧ Fr h₀ L h m ∧ News h₀ L h nx ∧
      (∀ p ∈ nx, p.1 ∉ [I, C, D]) ∧ (∀ p ∈ Kp, p ∈ nx) ∧ J [I, C, D] i ys nx) ?_ (n + 1) ⟨0, [], h₁, _, news, 0, _, rfl, rfl, Nat.zero_le _, Nat.le_refl _, hst₁, hns₁, hacc, F₁, N₁, hfr, hKp, hj _ hfr⟩
    rintro k s' ⟨i, ys, h, tk, nx, kD, m', rfl, rfl, hi, hyl, hsti, hns, hD, Fh, Nh, hoff, hkp, hJi⟩
    have hns' := hns
    by_cases hlt : i < n
    · refine Wk.item i _ _ _ hlt hsti fun v h2 tk2 hP hst2 hk2 => ?_
      have up2 : ∀ b o, b ≠ I → h.get? b = some o → h2.get? b = some o := fun b o hb e => hk2 b o (by simpa using hb) e
      refine wpAny_assign_Name (wpAny_storeName_local (lookup_relabel_local hx) (hns.at' fun o e => up2 C o hIC.symm e) (fun h3 hns3 hsb3 => ?_) (by rw [hkf]; rfl))
      obtain ⟨oC, es, ep, hoC, hrC⟩ := hns3
      have hCn : ∀ h' : Heap, h'.get? C = some oC → h'.Ns C (fun y => if y = x then some v else m' y) := fun h' e => ⟨oC, es, ep, e, hrC⟩
      have up3 : ∀ b o, b ≠ I → b ≠ C → h.get? b = some o → h3.get? b = some o := fun b o hb hb' e => hsb3.extBut b o hb' (up2 b o hb e)
      have hst3 : St (i + 1) h3 := Wk.frame _ _ _ hst2 fun b hb o e => hsb3.extBut b o (hfC b hb) e
      obtain ⟨io, hio, hic⟩ := hcls _ _ hst3
      have hD3 : h3.get? D = some (W.listOf ys.toArray kD) := up3 _ _ hIDn.symm hDC hD
      have F3 : Fr h₀ L h3 m := ⟨Fh.ns.at' fun o e => up3 _ _ hIL.symm hCL.symm e, fun b o e => up3 b o (by rintro rfl; rw [hI] at e; cases e) (by rintro rfl; rw [h0C] at e; cases e) (Fh.keep b o e), Fh.above⟩
      have N3 : News h₀ L h3 ((I, io) :: (C, oC) :: (D, W.listOf ys.toArray kD) :: nx) := by
        intro p hp
        rcases List.mem_cons.mp hp with rfl | hp
        · exact ⟨hio, hIL, hI⟩
        rcases List.mem_cons.mp hp with rfl | hp
        · exact ⟨hoC, hCL, h0C⟩
        rcases List.mem_cons.mp hp with rfl | hp
        · exact ⟨hD3, hDL, h0D⟩
        have ho := hoff p hp
        simp only [List.mem_cons, List.not_mem_nil, or_false, not_or] at ho
        exact ⟨up3 _ _ ho.1 ho.2.1 (Nh p hp).1, (Nh p hp).2⟩
      -- what a step leaves, taken back to the loop's own terms
      have back : ∀ (ys' : List Value) (kD' : Nat) (h5 : Heap) (tk5 : Nat) (nx5 : Led), ys'.length ≤ i + 1 → Fr h₀ L h5 m → News h₀ L h5 nx5 → (I, io) ∈ nx5 → (C, oC) ∈ nx5 → (∀ p ∈ Kp, p ∈ nx5) → h5.get? D = some (W.listOf ys'.toArray kD') → J [I, C, D] (i + 1) ys' nx5 →
          ∃ k', k' < n + 1 - i ∧ ∃ i ys h tk nx kD m', ({ s with heap := h5, toks := tk5 } : Shared) = { s with heap := h, toks := tk } ∧ k' = n + 1 - i ∧ i ≤ n ∧ ys.length ≤ i ∧ St i h ∧ h.Ns C m' ∧ h.get? D = some (W.listOf ys.toArray kD) ∧ Fr h₀ L h m ∧ News h₀ L h nx ∧
            (∀ p ∈ nx, p.1 ∉ [I, C, D]) ∧ (∀ p ∈ Kp, p ∈ nx) ∧ J [I, C, D] i ys nx := by
        intro ys' kD' h5 tk5 nx5 hl5 F5 N5 hI5 hC5 hK5 hD5 hJ5
        refine ⟨n + 1 - (i + 1), by omega, i + 1, ys', h5, tk5, nx5.filter (fun p => decide (p.1 ∉ [I, C, D])), kD', _, rfl, rfl, hlt, hl5, ?_, hCn h5 (N5 _ hC5).1, hD5, F5, fun p hp => N5 p (List.mem_filter.mp hp).1, fun p hp => of_decide_eq_true (List.mem_filter.mp hp).2, fun p hp => List.mem_filter.mpr ⟨hK5 p hp, decide_eq_true (hfr p (hKp p hp))⟩, ?_⟩
        · refine Wk.frame _ _ _ hst3 fun b hb o e => ?_
          rcases hfp b hb with e1 | ⟨p, hp, e1⟩
          · subst e1
            rw [hio] at e
            cases e
            exact (N5 _ hI5).1
          · subst e1
            have h6 := (N3 p (.tail _ (.tail _ (.tail _ (hkp p hp))))).1
            rw [h6] at e
            cases e
            exact (N5 _ (hK5 p hp)).1
        · refine hJ _ _ _ _ _ (fun p hp hq => List.mem_filter.mpr ⟨hp, decide_eq_true ?_⟩) hJ5
          rcases hq with hq | hq
          · exact hq
          · exact hfr p hq
      refine wpAny_mono (turn C D i v ys _ h3 (tk2 + 1) io oC kD _ _ hlt hP hic (.head _) (.tail _ (.head _)) hCn (by simp) (.tail _ (.tail _ (.head _))) (fun p hp => .tail _ (.tail _ (.tail _ (hkp p hp))))
        (hJ _ _ _ _ _ (fun p hp _ => .tail _ (.tail _ (.tail _ hp))) hJi) F3 N3 hfr) (fun ok s₃ h₃ => ?_) fun _ _ e => e
      obtain ⟨h4, tk4, nx4, rfl, F4, N4, hk4, hR⟩ := h₃
      cases ok with
      | false =>
        simp only [Bool.false_eq_true, if_false] at hR ⊢
        exact back ys kD h4 tk4 nx4 (Nat.le_succ_of_le hyl) F4 N4 (hk4 _ (.head _)) (hk4 _ (.tail _ (.head _))) (fun p hp => hk4 p (.tail _ (.tail _ (.tail _ hp)))) (N4 _ (hk4 _ (.tail _ (.tail _ (.head _))))).1 hR
      | true =>
        simp only [if_true] at hR ⊢
        refine wpAny_mono hR (fun y s₄ h₄ => ?_) fun _ _ e => e
        obtain ⟨h5, tk5, nx5, rfl, F5, N5, hk5, hJ5⟩ := h₄
        have hDn := hk5 (D, W.listOf ys.toArray kD) (.tail _ (.tail _ (.head _)))
        have hsz5 : ys.toArray.size ≤ sizeLine := by rw [List.size_toArray, sizeLine_eq]; omega
        refine append_at (hsz := hsz5) (N5 _ hDn).1 fun h6 hs6 ho6 => ?_
        have e6 : ys.toArray.push y = (ys ++ [y]).toArray := by simp
        rw [e6] at ho6
        have F6 : Fr h₀ L h6 m := F5.change hs6 hDL h0D
        have N6 := news_put N5 hs6 ho6 hDL h0D
        have hP5 : ∀ p ∈ nx5, p.1 ≠ D → p ∈ put nx5 D (W.listOf (ys ++ [y]).toArray (kD + 1)) := fun p hp hn => put_kept p hp (by simpa using hn)
        refine back (ys ++ [y]) (kD + 1) h6 tk5 _ (by simp; omega) F6 N6 (hP5 _ (hk5 _ (.head _)) hIDn) (hP5 _ (hk5 _ (.tail _ (.head _))) hDC.symm) (fun p hp => hP5 _ (hk5 p (.tail _ (.tail _ (.tail _ hp)))) fun e => hfr p (hKp p hp) (by rw [e]; simp)) ho6 ?_
        refine hJ _ _ _ _ _ (fun p hp hq => hP5 p hp fun e => ?_) hJ5
        rcases hq with hq | hq
        · exact hq (by rw [e]; simp)
        · exact hfr p hq (by rw [e]; simp)
    · have hin : i = n := by omega
      subst hin
      refine Wk.done _ _ _ hsti fun h2 tk2 hk2 => ?_
      have up2 : ∀ b o, b ≠ I → h.get? b = some o → h2.get? b = some o := fun b o hb e => hk2 b o (by simpa using hb) e
      refine done C D h2 tk2 nx ys kD m' hDC hCL h0C (hns'.at' fun o e => up2 C o hIC.symm e) ⟨Fh.ns.at' fun o e => up2 _ _ hIL.symm e, fun b o e => up2 b o (by rintro rfl; rw [hI] at e; cases e) (Fh.keep b o e), Fh.above⟩ ?_ (fun p hp e => hoff p hp (by rw [e]; simp)) hkp hfr hJi
      intro p hp
      rcases List.mem_cons.mp hp with rfl | hp
      · exact ⟨up2 _ _ hIDn.symm hD, hDL, h0D⟩
      · exact ⟨up2 _ _ (fun e => hoff p hp (by rw [e]; simp)) (Nh p hp).1, (Nh p hp).2⟩
  exact codeAny_compStart_list (loop _ rfl) (Wk.self 0 _ _ _ hst₁ (loop _ rfl))

/-- what a comprehension over a source asks -/
structure CompAsk (prog : Program) (w : World) (A : Around) (h₀ : Heap) (L : Addr) (m : Str → Option Value) (env : Env) (scope : Scope) (cl : List (Str × Addr)) (x : Str) (ifs : List Expr) (elt : Expr) (news Kp : Led) (n : Nat) (P : Nat → Value → Prop)
    (J : List Addr → Nat → List Value → Led → Prop) (s₁ : Shared) : Prop where
  sz : n ≤ 16777216
  mono : ∀ X i ys nx nx', (∀ p ∈ nx, p.1 ∉ X ∨ p ∈ news → p ∈ nx') → J X i ys nx → J X i ys nx'
  start : ∀ X, (∀ p ∈ news, p.1 ∉ X) → J X 0 [] news
  turn : (∀ I C D i v ys nx h tk io oC kD (m₂ : Str → Option Value) E', i < n → P i v → Itc io → (I, io) ∈ nx → (C, oC) ∈ nx → (∀ h' : Heap, h'.get? C = some oC → h'.Ns C m₂) → m₂ x = some v → (D, W.listOf ys.toArray kD) ∈ nx → (∀ p ∈ Kp, p ∈ nx) → J [I, C, D] i ys nx →
      Fr h₀ L h m → News h₀ L h nx → (∀ p ∈ news, p.1 ∉ [I, C, D]) →
      wpAny (model prog w) A (testsOf ifs (compEnvC scope cl C env)) (fun ok s₃ => CStep h₀ L m ((I, io) :: (C, oC) :: (D, W.listOf ys.toArray kD) :: Kp) { s₁ with heap := h, toks := tk } (fun nx' =>
        if ok = true then wpAny (model prog w) A (eval elt (compEnvC scope cl C env)) (fun y s₄ => CStep h₀ L m ((I, io) :: (C, oC) :: (D, W.listOf ys.toArray kD) :: Kp) { s₁ with heap := h, toks := tk } (fun nx'' => J [I, C, D] (i + 1) (ys ++ [y]) nx'') s₄) E' s₃
        else J [I, C, D] (i + 1) ys nx') s₃) E' { s₁ with heap := h, toks := tk })

/-- a comprehension's way: its source, what is asked, what comes behind -/
def CompGo (prog : Program) (w : World) (A : Around) (h₀ : Heap) (L : Addr) (m : Str → Option Value) (env : Env) (scope : Scope) (cl : List (Str × Addr)) (x : Str) (ifs : List Expr) (elt : Expr) (m' : Addr → Str → Option Value) (fin : Addr → Shared → Prop) (xv : Value) (s₁ : Shared) : Prop :=
  ∃ (news Kp : Led) (n : Nat) (P : Nat → Value → Prop) (J : List Addr → Nat → List Value → Led → Prop), Src prog w A h₀ L m news Kp n P xv s₁ ∧ CompAsk prog w A h₀ L m env scope cl x ifs elt news Kp n P J s₁ ∧
    (∀ X D h tk nx ys kD, Fr h₀ L h (m' D) → News h₀ L h ((D, W.listOf ys.toArray kD) :: nx) → (∀ p ∈ Kp, p ∈ nx) → (∀ p ∈ news, p.1 ∉ X) → (∀ p ∈ news, p.1 ≠ D) → J X n ys nx → fin D { s₁ with heap := h, toks := tk })
theorem sameBut_led {h h' : Heap} {C : Addr} {nx : Led} (hs : Heap.SameBut C h h') (hCL : C ≠ L) (h0 : h₀.get? C = none) (F : Fr h₀ L h m) (N : News h₀ L h nx) (hn : ∀ p ∈ nx, p.1 ≠ C) : Fr h₀ L h' m ∧ News h₀ L h' nx :=
  ⟨F.change hs hCL h0, fun p hp => ⟨(hs.2 _ (hn p hp)).trans (N p hp).1, (N p hp).2⟩⟩

theorem comp_eval {elt iter : Expr} {px : Pos} {ifs : List Expr} {scope : Scope} {cl : List (Str × Addr)} {pos : Pos} {Q : Value → Shared → Prop} {E : Value → Shared → Prop} (_F : Fr h₀ L s.heap m)
    (hclos : closureFor scope env = pure cl) (hcell : ∀ y ∈ scope.names, y.2 ≠ .cell) (hkind : scope.kind = .function)
    (hnames : ∀ y ∈ scope.names, y.2 = .local → scope.names.lookup y.1 = some .local) (hx : scope.names.lookup x = some .local)
    (h : wpAny (model prog w) A (eval iter env) (fun xv s₁ => CompGo prog w A h₀ L m env scope cl x ifs elt (fun _ => m) (fun D s' => Q (.ref D) s') xv s₁) E s)
    (hs : ∀ x, foldedSetIterable iter env x = pure x := by intro _; rfl) :
    wpAny (model prog w) A (eval (.ListComp elt [⟨.Name x px, iter, ifs, 0⟩] scope pos) env) Q E s := by
  rw [eval_ListComp]
  refine wpAny_comprehension_free (use := none) rfl hs hclos hkind hnames (wpAny_mono h (fun xv s₁ h₁ => ?_) fun _ _ e => e)
  obtain ⟨news, Kp, n, P, J, src, ask, hdone⟩ := h₁
  refine src _ _ fun I fp St h tk Wk hcls hIf hfp hL hI hnI hst F N hKp => ?_
  refine comp_block_my (RR := fun acc C => compPost (model prog w) A E none Q acc C) J Wk hcls hIf hfp hL hI hnI hst F N hKp ask.sz hcell hkind hx ask.mono ask.start (ask.turn I) ?_
  intro C D h2 tk2 nx ys kD mC hDC hCL h0C hns F2 N2 hoff hk hfr hJn
  refine ⟨mC, hns, fun h3 hs3 => ?_⟩
  obtain ⟨F3, N3⟩ := sameBut_led hs3 hCL h0C F2 N2 (fun p hp => by
    rcases List.mem_cons.mp hp with rfl | hp
    · exact hDC
    · exact hoff p hp)
  exact hdone _ D h3 tk2 nx ys kD F3 N3 hk hfr (fun p hp e => hfr p hp (by rw [e]; simp)) hJn

theorem comp_assign {elt iter : Expr} {y : Str} {px py : Pos} {ifs : List Expr} {scope : Scope} {cl : List (Str × Addr)} {pos spos : Pos} {Q : Flow → Shared → Prop} {E : Value → Shared → Prop} (_F : Fr h₀ L s.heap m)
    (hsw : swapsWith (.ListComp elt [⟨.Name x px, iter, ifs, 0⟩] scope pos) (some (.Name y py)) spos.line env = pure true) (hLe : env.locals = L)
    (hclos : closureFor scope env = pure cl) (hcell : ∀ y ∈ scope.names, y.2 ≠ .cell) (hkind : scope.kind = .function)
    (hnames : ∀ y ∈ scope.names, y.2 = .local → scope.names.lookup y.1 = some .local) (hx : scope.names.lookup x = some .local)
    (hy : env.kindOf y = some .local) (hp : (env.scope.kind == .class || (env.scope.kind == .module && env.locals != env.globals)) = false)
    (h : wpAny (model prog w) A (eval iter env) (fun xv s₁ => CompGo prog w A h₀ L m env scope cl x ifs elt (fun D z => if z = y then some (.ref D) else m z) (fun _ s' => Q .next s') xv s₁) E s)
    (hs : ∀ x, foldedSetIterable iter env x = pure x := by intro _; rfl) :
    wpAny (model prog w) A (exec (.Assign [.Name y py] (.ListComp elt [⟨.Name x px, iter, ifs, 0⟩] scope pos) spos) env) Q E s := by
  subst hLe
  rw [exec_Assign_Name_used _ _ _ _ hsw]
  refine wpAny_bind (wpAny_standAt (wpAny_bind ?_))
  show wpAny _ A (do let _ ← comprehension (.ListComp elt [⟨.Name x px, iter, ifs, 0⟩] scope pos) scope env _ (newList []) false (eval iter env) (some (assign (.Name y py) env))) _ _ s
  refine wpAny_bind (wpAny_mono (wpAny_comprehension_free (use := some (assign (.Name y py) env)) (Q := fun _ s' => Q .next s') rfl hs hclos hkind hnames
    (wpAny_mono h (fun xv s₁ h₁ => ?_) fun _ _ e => e)) (fun _ s' hq => wpAny_pure (wpAny_pure hq)) fun _ _ e => e)
  obtain ⟨news, Kp, n, P, J, src, ask, hdone⟩ := h₁
  refine src _ _ fun I fp St h tk Wk hcls hIf hfp hL hI hnI hst F N hKp => ?_
  refine comp_block_my (RR := fun acc C => compPost (model prog w) A E (some (assign (.Name y py) env)) (fun _ s' => Q .next s') acc C) J Wk hcls hIf hfp hL hI hnI hst F N hKp ask.sz hcell hkind hx ask.mono ask.start (ask.turn I) ?_
  intro C D h2 tk2 nx ys kD mC hDC hCL h0C hns F2 N2 hoff hk hfr hJn
  show wpAny _ A (assign (.Name y py) env (.ref D)) _ _ _
  refine wpAny_assign_Name (wpAny_storeName_local hy F2.ns (fun h3 hn3 hs3 => ?_) hp)
  refine ⟨mC, hns.sameBut hs3 hCL, fun h4 hs4 => ?_⟩
  obtain ⟨F4, N4⟩ := sameBut_led hs4 hCL h0C (F2.set hn3 hs3) (N2.set hs3) (fun p hp => by
    rcases List.mem_cons.mp hp with rfl | hp
    · exact hDC
    · exact hoff p hp)
  exact hdone _ D h4 _ nx ys kD F4 N4 hk hfr (fun p hp e => hfr p hp (by rw [e]; simp)) hJn

/-- a block's own name -/
theorem comp_local {M : Model} {E : Value → Shared → Prop} {scope : Scope} {cl : List (Str × Addr)} {C : Addr} {oC : Obj} {nx : Led} {m₂ : Str → Option Value} {v : Value} {pos : Pos} {Q : Value → Shared → Prop} (N : News h₀ L s.heap nx) (hC : (C, oC) ∈ nx) (hns : ∀ h' : Heap, h'.get? C = some oC → h'.Ns C m₂) (hv : m₂ x = some v) (h : Q v s)
    (hk : (compEnvC scope cl C env).scope.kind = .function := by rfl) (hl : (compEnvC scope cl C env).kindOf x = some .local := by rfl) (hd : (x == ("__debug__" : Str)) = false := by decide) :
    wpAny M A (eval (.Name x pos) (compEnvC scope cl C env)) Q E s := wpAny_Name (wpAny_loadName_local hk hl (hns _ (N _ hC).1) hv h) hd
/-- a block's name of the def around it -/
theorem comp_cell {M : Model} {E : Value → Shared → Prop} {scope : Scope} {cl : List (Str × Addr)} {C c : Addr} {o : Obj} {nx : Led} {v : Value} {pos : Pos} {Q : Value → Shared → Prop} (N : News h₀ L s.heap nx) (hc : cl.lookup x = some c) (hm : (c, o) ∈ nx) (hd : o.data = .cell (some v)) (h : Q v s)
    (hk : (compEnvC scope cl C env).scope.kind = .function := by rfl) (hx : (compEnvC scope cl C env).kindOf x = some .cell := by rfl) (hb : (x == ("__debug__" : Str)) = false := by decide) :
    wpAny M A (eval (.Name x pos) (compEnvC scope cl C env)) Q E s := wpAny_Name (wpAny_loadName_cell hk hx hc ⟨o, N.get hm, hd⟩ h) hb
theorem comp_local2 {M : Model} {E : Value → Shared → Prop} {scope : Scope} {cl : List (Str × Addr)} {C : Addr} {oC : Obj} {nx : Led} {m₂ : Str → Option Value} {v : Value} {pos : Pos} {Q : Value → Shared → Prop} (hk : (compEnvC scope cl C env).scope.kind = .function) (hl : (compEnvC scope cl C env).kindOf x = some .local) (hd : (x == ("__debug__" : Str)) = false)
    (hv : m₂ x = some v) (hns : ∀ h' : Heap, h'.get? C = some oC → h'.Ns C m₂) (hC : (C, oC) ∈ nx) (N : News h₀ L s.heap nx) (h : Q v s) : wpAny M A (eval (.Name x pos) (compEnvC scope cl C env)) Q E s := comp_local N hC hns hv h hk hl hd
theorem comp_cell2 {M : Model} {E : Value → Shared → Prop} {scope : Scope} {cl : List (Str × Addr)} {C c : Addr} {o : Obj} {nx : Led} {v : Value} {pos : Pos} {Q : Value → Shared → Prop} (hk : (compEnvC scope cl C env).scope.kind = .function) (hx : (compEnvC scope cl C env).kindOf x = some .cell) (hb : (x == ("__debug__" : Str)) = false)
    (hc : cl.lookup x = some c) (hm : (c, o) ∈ nx) (hd : o.data = .cell (some v)) (N : News h₀ L s.heap nx) (h : Q v s) : wpAny M A (eval (.Name x pos) (compEnvC scope cl C env)) Q E s := comp_cell N hc hm hd h hk hx hb
theorem tests_none {M : Model} {E : Value → Shared → Prop} {cenv : Env} {Q : Bool → Shared → Prop} (h : Q true s) : wpAny M A (testsOf [] cenv) Q E s := wpAny_pure h
theorem tests_one {M : Model} {E : Value → Shared → Prop} {cenv : Env} {c : Expr} {Q : Bool → Shared → Prop} (h : wpAny M A (isTrue c cenv (eval c cenv)) Q E s) : wpAny M A (testsOf [c] cenv) Q E s := by
  show wpAny M A (forIn [c] true _) Q E s
  rw [List.forIn_cons]
  simp only [if_true]
  refine wpAny_bind (wpAny_bind (wpAny_mono h (fun ok s' hq => wpAny_pure ?_) fun _ _ e => e))
  exact wpAny_pure hq
theorem CStep.intro {keep nx : Led} {R : Led → Prop} {h' : Heap} {tk' : Nat} (F : Fr h₀ L h' m) (N : News h₀ L h' nx) (k : ∀ p ∈ keep, p ∈ nx) (r : R nx) : CStep h₀ L m keep s R { s with heap := h', toks := tk' } := ⟨h', tk', nx, rfl, F, N, k, r⟩
theorem keep3 {a b c : Addr × Obj} {nx : Led} (x : a ∈ nx) (y : b ∈ nx) (z : c ∈ nx) : ∀ p ∈ [a, b, c], p ∈ nx := by
  intro p hp
  rcases List.mem_cons.mp hp with rfl | hp
  · exact x
  · exact keep2 y z p hp
theorem keep4 {a b c d : Addr × Obj} {nx : Led} (x : a ∈ nx) (y : b ∈ nx) (z : c ∈ nx) (u : d ∈ nx) : ∀ p ∈ [a, b, c, d], p ∈ nx := by
  intro p hp
  rcases List.mem_cons.mp hp with rfl | hp
  · exact x
  · exact keep3 y z u p hp
end
section
variable {prog : Program} {w : World} {A : Around} {M : Model} {E : Value → Shared → Prop} {s : Shared} {h₀ : Heap} {L c : Addr} {m : Str → Option Value} {news : Led} {cl : List (Str × Addr)} {x cn : Str} {cs : Scope} {a : Addr} {ccd v : Value} {v₀ : Option Value} {o : Obj}
theorem store_my {Q : Unit → Shared → Prop} (F : Fr h₀ L s.heap m) (N : News h₀ L s.heap news) (hc : cl.lookup x = some c) (hm : (c, o) ∈ news) (hd : o.data = .cell v₀)
    (h : ∀ h' news' o', Fr h₀ L h' m → News h₀ L h' news' → Kept [c] news news' → (c, o') ∈ news' → o'.data = .cell (some v) → Q () { s with heap := h' })
    (hk : cs.kind = .function := by rfl) (hx : (envX cn cs L a ccd cl).kindOf x = some .cell := by rfl) : wpAny M A (storeName (envX cn cs L a ccd cl) x v) Q E s := by
  have z := N _ hm
  refine wpAny_storeName_cell hk hx hc ⟨o, z.1, hd⟩ fun h' hv hs => ?_
  obtain ⟨o', ho', hd'⟩ := hv
  exact h h' (put news c o') o' (F.change hs z.2.1 z.2.2) (news_put N hs ho' z.2.1 z.2.2) put_kept (put_self hm) hd'
end
section
variable {w : World} {A : Around} {M : Model} {E : Value → Shared → Prop} {s : Shared} {h₀ : Heap} {L c : Addr} {m : Str → Option Value} {news : Led} {cl : List (Str × Addr)} {x cn : Str} {cs : Scope} {a : Addr} {ccd v : Value} {v₀ : Option Value} {o : Obj} {pos : Pos} {env : Env}
theorem store_my2 {Q : Unit → Shared → Prop} (hk : cs.kind = .function) (hx : (envX cn cs L a ccd cl).kindOf x = some .cell) (F : Fr h₀ L s.heap m) (N : News h₀ L s.heap news) (hc : cl.lookup x = some c) (hm : (c, o) ∈ news) (hd : o.data = .cell v₀)
    (h : ∀ h' news' o', Fr h₀ L h' m → News h₀ L h' news' → Kept [c] news news' → (c, o') ∈ news' → o'.data = .cell (some v) → Q () { s with heap := h' }) : wpAny M A (storeName (envX cn cs L a ccd cl) x v) Q E s := store_my F N hc hm hd h hk hx
theorem nameG_my {K : Frag} {mg mb : Str → Option Value} {p : Program} {loose : List Str} {Q : Value → Shared → Prop} (hg : env.globals = mainGlobals) (hk : env.scope.kind = .function) (hx : env.kindOf x = some .globalImplicit) (hd : (x == ("__debug__" : Str)) = false)
    (F : Fr h₀ L s.heap m) (X : K.In h₀) (T : TopRead p loose mg mb h₀) (e : nsIn K mainGlobals x = some (some v)) (h : Q v s) : wpAny M A (eval (.Name x pos) env) Q E s := nameG_K F X T e h hg hk hx hd
theorem comp_cell3 {scope : Scope} {C : Addr} {Q : Value → Shared → Prop} (hk : (compEnvC scope cl C env).scope.kind = .function) (hx : (compEnvC scope cl C env).kindOf x = some .cell) (hb : (x == ("__debug__" : Str)) = false) (N : News h₀ L s.heap news) (hc : cl.lookup x = some c) (hm : (c, o) ∈ news) (hd : o.data = .cell (some v)) (h : Q v s) :
    wpAny M A (eval (.Name x pos) (compEnvC scope cl C env)) Q E s := comp_cell N hc hm hd h hk hx hb
theorem nameX_L2 {Q : Value → Shared → Prop} (hk : cs.kind = .function) (hx : (envX cn cs L a ccd cl).kindOf x = some .local) (F : Fr h₀ L s.heap m) (hv : m x = some v) (h : Q v s) (hd : (x == ("__debug__" : Str)) = false := by decide) : wpAny M A (eval (.Name x pos) (envX cn cs L a ccd cl)) Q E s := nameX_L F hv h hk hx hd
end
theorem CellsAre.seven {cm : Str → Option Value} {n1 n2 n3 n4 n5 n6 n7 : Str} {c1 c2 c3 c4 c5 c6 c7 : Addr} {cells : Led} (x : CellsAre cm [(n1, c1), (n2, c2), (n3, c3), (n4, c4), (n5, c5), (n6, c6), (n7, c7)] cells) :
    ∃ o1 o2 o3 o4 o5 o6 o7, cells = [(c1, o1), (c2, o2), (c3, o3), (c4, o4), (c5, o5), (c6, o6), (c7, o7)] ∧ o1.data = .cell (cm n1) ∧ o2.data = .cell (cm n2) ∧ o3.data = .cell (cm n3) ∧ o4.data = .cell (cm n4) ∧ o5.data = .cell (cm n5) ∧ o6.data = .cell (cm n6) ∧ o7.data = .cell (cm n7) := by
  cases x with | cons a1 r => cases r with | cons a2 r => cases r with | cons a3 r =>
    obtain ⟨o4, o5, o6, o7, rfl, a4, a5, a6, a7⟩ := CellsAre.four r
    exact ⟨_, _, _, o4, o5, o6, o7, rfl, a1, a2, a3, a4, a5, a6, a7⟩
section
variable {prog : Program} {w : World} {A : Around} {E : Value → Shared → Prop} {s : Shared} {h₀ : Heap}
/-- a turn's end in a loop over a name that is a cell -/
def TC (h₀ : Heap) (L c : Addr) (st : List Str) (m₀ : Str → Option Value) (J : Led → Prop) (I : Addr) (io : Obj) (s₁ : Shared) (Q : Flow → Shared → Prop) (f : Flow) (s₂ : Shared) : Prop :=
  match f with
  | .ret v => Q (.ret v) s₂
  | .brk => Q .next s₂
  | _ => ∃ h' tk' m' nx oc v, s₂ = { s₁ with heap := h', toks := tk' } ∧ Fr h₀ L h' m' ∧ News h₀ L h' nx ∧ (I, io) ∈ nx ∧ (c, oc) ∈ nx ∧ oc.data = .cell v ∧ (∀ z, st.contains z = false → m' z = m₀ z) ∧ J nx
theorem TC.next {h' : Heap} {L c : Addr} {st : List Str} {m₀ m' : Str → Option Value} {J : Led → Prop} {I : Addr} {io oc : Obj} {v : Option Value} {s₁ : Shared} {Q : Flow → Shared → Prop} {tk' : Nat} {nx : Led}
    (F : Fr h₀ L h' m') (N : News h₀ L h' nx) (hI : (I, io) ∈ nx) (hc : (c, oc) ∈ nx) (hd : oc.data = .cell v) (hm : ∀ z, st.contains z = false → m' z = m₀ z) (j : J nx) :
    TC h₀ L c st m₀ J I io s₁ Q .next { s₁ with heap := h', toks := tk' } := ⟨h', tk', m', nx, oc, v, rfl, F, N, hI, hc, hd, hm, j⟩
theorem mst_eq {st : List Str} {m₀ m' : Str → Option Value} (h : ∀ z, st.contains z = false → m' z = m₀ z) : m' = fun y => if st.contains y then m' y else m₀ y := by
  funext y
  cases e : st.contains y with
  | true => simp only [if_true]
  | false => simp only [Bool.false_eq_true, if_false]; exact h y e

def CellGo (prog : Program) (w : World) (A : Around) (h₀ : Heap) (env : Env) (c : Addr) (st : List Str) (body : List Stmt) (Q : Flow → Shared → Prop) (E : Value → Shared → Prop) (xv : Value) (s : Shared) : Prop :=
  ∃ (r : Addr) (a₀ b₀ : Int) (t₀ u₀ v₀ : Tok) (n : Nat) (m₀ : Str → Option Value) (news : Led) (oc : Obj) (vc : Option Value) (J : Nat → Led → Prop),
    xv = .ref r ∧ IsRange s.heap r a₀ b₀ 1 t₀ u₀ v₀ ∧ Builtin.Range.small a₀ b₀ 1 = true ∧ Builtin.Range.rangeSize a₀ b₀ 1 = (n : Int) ∧ Fr h₀ env.locals s.heap m₀ ∧ News h₀ env.locals s.heap news ∧ (c, oc) ∈ news ∧ oc.data = .cell vc ∧
    (∀ i nx nx', (∀ p ∈ nx, p.1 ≠ c → ¬ Itc p.2 ∨ p ∈ news → p ∈ nx') → J i nx → J i nx') ∧ J 0 news ∧
    (∀ (i : Nat) t (u : Str → Option Value) nx h tk I io oc', i < n → Itc io → (I, io) ∈ nx → (c, oc') ∈ nx → oc'.data = .cell (some (.int (a₀ + i) t)) → J i nx → Fr h₀ env.locals h (fun y => if st.contains y then u y else m₀ y) → News h₀ env.locals h nx →
      wpAny (model prog w) A (execs body env) (TC h₀ env.locals c st m₀ (J (i + 1)) I io { s with heap := h, toks := tk } Q) E { s with heap := h, toks := tk }) ∧
    (∀ (u : Str → Option Value) nx h tk, J n nx → Fr h₀ env.locals h (fun y => if st.contains y then u y else m₀ y) → News h₀ env.locals h nx → Q .next { s with heap := h, toks := tk })

theorem For_cell {x : Str} {px pos : Pos} {iter : Expr} {body : List Stmt} {env : Env} {c : Addr} {Q : Flow → Shared → Prop} (st : List Str) (_F : Fr h₀ env.locals s.heap m') (hh : A.handled = none) (hx : env.kindOf x = some .cell) (hk : env.scope.kind = .function) (hc : env.cells.lookup x = some c)
    (h : wpAny (model prog w) A (eval iter env) (CellGo prog w A h₀ env c st body Q E) E s)
    (hs : ∀ x, foldedSetIterable iter env x = pure x := by intro _; rfl)
    (hE : PassesOwn (model prog w) A env E := by passes_own) :
    wpAny (model prog w) A (exec (.For (.Name x px) iter body [] pos) env) Q E s := by
  refine wpAny_For (wpAny_mono h (fun xv s₁ h₁ => ?_) fun _ _ e => e) hs
  obtain ⟨r, a₀, b₀, t₀, u₀, v₀, n, m₀, news, oc, vc, J, rfl, hr, hsm, hn, F, N, hcm, hcd, hJ, hj, turn, done⟩ := h₁
  refine wpAny_pyIter_range hr hsm ?_
  have W : Walks prog w A s₁.heap.objs.size [s₁.heap.objs.size] [s₁.heap.objs.size] n (fun i v => i < n ∧ ∃ t, v = .int (a₀ + i * 1) t)
      (fun i h => IsRangeIter h s₁.heap.objs.size (a₀ + (i : Nat) * 1) ((n : Int) - (i : Nat)) 1) := (Walks.range hh _ a₀ 1 n).bound
  have hIL : s₁.heap.objs.size ≠ env.locals := fun e => absurd F.ns.lt (e ▸ Nat.lt_irrefl _)
  have hI : h₀.get? s₁.heap.objs.size = none := next_is_new F
  have hnI : ∀ p ∈ news, p.1 ≠ s₁.heap.objs.size := fun p hp e => absurd (Heap.lt_size (N p hp).1) (e ▸ Nat.lt_irrefl _)
  generalize hIe : s₁.heap.objs.size = I at *
  refine codeAny_forLoop
    (fun k s' => ∃ h' tk m' nx i oc vc, s' = { s₁ with heap := h', toks := tk } ∧ IsRangeIter h' I (a₀ + (i : Nat) * 1) ((n : Int) - (i : Nat)) 1 ∧ Fr h₀ env.locals h' m' ∧ News h₀ env.locals h' nx ∧ (∀ p ∈ nx, p.1 ≠ I) ∧ (c, oc) ∈ nx ∧ oc.data = .cell vc ∧ (∀ z, st.contains z = false → m' z = m₀ z) ∧ J i nx ∧ i ≤ n ∧ k = n + 1 - i) ?_ (n + 1)
    ⟨_, s₁.toks, m₀, news, 0, oc, vc, rfl, by subst hIe; rw [hn]; simpa using Heap.get?_push_size _ rfl, F.push _, fun p hp => ⟨Heap.get?_push_of_some _ (N p hp).1, (N p hp).2⟩, hnI, hcm, hcd, fun _ _ => rfl, hj, Nat.zero_le _, rfl⟩
  rintro k s' ⟨h', tk, m', nx, i, oc', vc', rfl, hst', F', N', hnx, hcm', hcd', hm', hJi, hi, rfl⟩
  have next : ∀ h₂ : Heap, (∀ b o, b ∉ [I] → h'.get? b = some o → h₂.get? b = some o) → Fr h₀ env.locals h₂ m' ∧ News h₀ env.locals h₂ nx := fun h₂ hk₂ =>
    ⟨⟨F'.ns.at' fun o e => hk₂ _ o (by simpa using hIL.symm) e, fun b o e => hk₂ b o (by rintro hb; rw [List.mem_singleton.mp hb, hI] at e; cases e) (F'.keep b o e), F'.above⟩, fun p hp => ⟨hk₂ _ _ (by simpa using hnx p hp) (N' p hp).1, (N' p hp).2⟩⟩
  by_cases hlt : i < n
  · refine W.item i _ _ _ hlt hst' fun v h₂ tk₂ hP hst₂ hk₂ => ?_
    obtain ⟨_, t, rfl⟩ := hP
    obtain ⟨F₂, N₂⟩ := next h₂ hk₂
    have z := N₂ _ hcm'
    refine wpAny_assign_Name (wpAny_storeName_cell hk hx hc ⟨oc', z.1, hcd'⟩ fun h₃ hv hs₃ => ?_)
    obtain ⟨o3, ho3, hd3⟩ := hv
    have F₃ := F₂.change hs₃ z.2.1 z.2.2
    have N₃ := news_put N₂ hs₃ ho3 z.2.1 z.2.2
    have hcI : c ≠ I := hnx _ hcm'
    have hst₃ : IsRangeIter h₃ I (a₀ + ((i + 1 : Nat) : Int) * 1) ((n : Int) - ((i + 1 : Nat) : Int)) 1 := W.frame (i + 1) _ _ hst₂ fun b hb o e => by
      rw [List.mem_singleton.mp hb] at e ⊢
      exact (hs₃.2 _ hcI.symm).trans e
    have hJ3 : J i (put nx c o3) := hJ i nx _ (fun p hp hn _ => put_kept p hp (by simpa using hn)) hJi
    obtain ⟨io, hio, hic⟩ : ∃ io, h₃.get? I = some io ∧ Itc io := ⟨_, hst₃, .inr rfl⟩
    have NI : News h₀ env.locals h₃ ((I, io) :: put nx c o3) := fun p hp => by
      rcases List.mem_cons.mp hp with rfl | hp
      · exact ⟨hio, hIL, hI⟩
      · exact N₃ p hp
    rw [mst_eq hm'] at F₃
    have e1 : a₀ + (i : Int) * 1 = a₀ + (i : Int) := by omega
    rw [e1] at hd3
    refine wpAny_mono (wpAny_passesOwn hE (turn i t m' _ h₃ _ I io o3 hlt hic (.head _) (.tail _ (put_self hcm')) hd3 (hJ i _ _ (fun p hp _ _ => .tail _ hp) hJ3) F₃ NI)) (fun f s₃ h₄ => ?_) fun _ _ e => e
    have fin : (∃ h' tk' m' nx' oc v, s₃ = { s₁ with heap := h', toks := tk' } ∧ Fr h₀ env.locals h' m' ∧ News h₀ env.locals h' nx' ∧ (I, io) ∈ nx' ∧ (c, oc) ∈ nx' ∧ oc.data = .cell v ∧ (∀ z, st.contains z = false → m' z = m₀ z) ∧ J (i + 1) nx') → ∃ k', k' < n + 1 - i ∧
        ∃ h' tk m' nx i oc vc, s₃ = { s₁ with heap := h', toks := tk } ∧ IsRangeIter h' I (a₀ + (i : Nat) * 1) ((n : Int) - (i : Nat)) 1 ∧ Fr h₀ env.locals h' m' ∧ News h₀ env.locals h' nx ∧ (∀ p ∈ nx, p.1 ≠ I) ∧ (c, oc) ∈ nx ∧ oc.data = .cell vc ∧ (∀ z, st.contains z = false → m' z = m₀ z) ∧ J i nx ∧ i ≤ n ∧ k' = n + 1 - i := by
      rintro ⟨h5, tk5, m5, nx5, oc5, v5, rfl, F5, N5, hI5, hc5, hd5, hm5, hJ5⟩
      refine ⟨n + 1 - (i + 1), by omega, h5, tk5, m5, nx5.filter (fun p => decide (p.1 ≠ I)), i + 1, oc5, v5, rfl, W.frame (i + 1) _ _ hst₃ (fun b hb o e => by rw [List.mem_singleton.mp hb] at e ⊢; rw [hio] at e; cases e; exact (N5 _ hI5).1), F5, fun p hp => N5 p (List.mem_filter.mp hp).1, fun p hp => of_decide_eq_true (List.mem_filter.mp hp).2,
        List.mem_filter.mpr ⟨hc5, decide_eq_true hcI⟩, hd5, hm5, hJ _ _ _ (fun p hp _ hq => List.mem_filter.mpr ⟨hp, decide_eq_true fun e => ?_⟩) hJ5, hlt, rfl⟩
      rcases hq with hq | hq
      · obtain ⟨a, o⟩ := p
        cases e
        exact hq (led_eq N5 hI5 hp ▸ hic)
      · exact hnI p hq e
    cases f with
    | next => exact fin h₄
    | cont => exact fin h₄
    | brk => exact h₄
    | ret v => exact h₄
  · have hin : i = n := by omega
    subst hin
    refine W.done _ _ _ hst' fun h₂ tk₂ hk₂ => wpAny_execs_nil ?_
    obtain ⟨F₂, N₂⟩ := next h₂ hk₂
    rw [mst_eq hm'] at F₂
    exact done m' nx h₂ tk₂ hJi F₂ N₂
end
/-! what is read of the ledger -/
theorem reads_map {h : Heap} {g : Nat → Value} {d : Nat → PyData} : ∀ l : List Nat, (∀ i ∈ l, ∃ as, Reads h (g i) (d i) as) → ∃ as, ReadsAll h (l.map g) (l.map d) as
  | [], _ => ⟨_, .nil⟩
  | i :: l, H => by
    obtain ⟨a, ha⟩ := H i (.head _)
    obtain ⟨b, hb⟩ := reads_map l fun j hj => H j (.tail _ hj)
    exact ⟨_, .cons ha hb⟩
theorem shaped_map {d : Nat → PyData} (H : ∀ i, (d i).canLay0 = true ∧ (d i).depth ≤ 1) (l : List Nat) : SeqAt.shaped (.list (l.map d)) = true := by
  have a : PyData.canLayAll0 (l.map d) = true := by
    induction l with
    | nil => rfl
    | cons i l ih => simp only [List.map_cons, PyData.canLayAll0, (H i).1, ih, Bool.and_self]
  have b : PyData.depthAll (l.map d) ≤ 1 := by
    induction l with
    | nil => simp [PyData.depthAll]
    | cons i l ih =>
      simp only [List.map_cons, PyData.depthAll]
      simp only [List.map_cons, PyData.canLayAll0, Bool.and_eq_true] at a
      exact Nat.max_le.mpr ⟨(H i).2, ih a.2⟩
  unfold SeqAt.shaped
  rw [Bool.and_eq_true]
  refine ⟨by simp only [PyData.canLay0]; exact a, decide_eq_true ?_⟩
  simp only [PyData.depth]
  omega
def dpt (x y : Int) : PyData := .tuple [.int x, .int y]
def dbp (x y : Bool) : PyData := .list [.bool x, .bool y]
theorem dpt_ok {x y : Int} : (dpt x y).canLay0 = true ∧ (dpt x y).depth ≤ 1 := by simp [dpt, PyData.canLay0, PyData.canLayAll0, PyData.depth, PyData.depthAll]
theorem dbp_ok {x y : Bool} : (dbp x y).canLay0 = true ∧ (dbp x y).depth ≤ 1 := by simp [dbp, PyData.canLay0, PyData.canLayAll0, PyData.depth, PyData.depthAll]
theorem dpt_shaped {x y : Int} : SeqAt.shaped (dpt x y) = true := by
  unfold SeqAt.shaped
  rw [Bool.and_eq_true]
  exact ⟨dpt_ok.1, decide_eq_true (Nat.le_trans dpt_ok.2 (by decide))⟩
section
variable {h₀ h : Heap} {L : Addr} {news : Led} (N : News h₀ L h news)
include N
theorem reads_pt {a : Addr} {x y : Int} (p : PtAt news a x y) : ∃ as, Reads h (.ref a) (dpt x y) as := by
  obtain ⟨t, t', k, m⟩ := p
  exact ⟨_, .tuple (N _ m).1 rfl rfl (.cons (.int _ _) (.cons (.int _ _) .nil))⟩
theorem reads_bp {a : Addr} {x y : Bool} (p : BpAt news a x y) : ∃ as, Reads h (.ref a) (dbp x y) as := by
  obtain ⟨k, m⟩ := p
  exact ⟨_, .list (N _ m).1 rfl rfl (.cons (.bool _) (.cons (.bool _) .nil))⟩
theorem reads_pts {l : Addr} {k n : Nat} {f : Nat → Addr} {x y : Nat → Int} (hl : (l, W.listOf (refs n f).toArray k) ∈ news) (H : ∀ i, i < n → PtAt news (f i) (x i) (y i)) : ∃ as, Reads h (.ref l) (.list ((List.range n).map fun i => dpt (x i) (y i))) as := by
  obtain ⟨as, ha⟩ := reads_map (h := h) (g := fun i => .ref (f i)) (d := fun i => dpt (x i) (y i)) (List.range n) fun i hi => reads_pt N (H i (List.mem_range.mp hi))
  exact ⟨_, .list (N _ hl).1 rfl rfl ha⟩
theorem reads_bps {l : Addr} {k n : Nat} {f : Nat → Addr} {x y : Nat → Bool} (hl : (l, W.listOf (refs n f).toArray k) ∈ news) (H : ∀ i, i < n → BpAt news (f i) (x i) (y i)) : ∃ as, Reads h (.ref l) (.list ((List.range n).map fun i => dbp (x i) (y i))) as := by
  obtain ⟨as, ha⟩ := reads_map (h := h) (g := fun i => .ref (f i)) (d := fun i => dbp (x i) (y i)) (List.range n) fun i hi => reads_bp N (H i (List.mem_range.mp hi))
  exact ⟨_, .list (N _ hl).1 rfl rfl ha⟩
end
section
variable {prog : Program} {w : World} {A : Around} {E : Value → Shared → Prop} {s : Shared} {h₀ : Heap} {L a b : Addr} {news : Led} {Q : Value → Shared → Prop}
theorem ne_same {a b : Value} {d : PyData} (ra : ∃ as, Reads s.heap a d as) (rb : ∃ as, Reads s.heap b d as) (hd : SeqAt.shaped d = true) (hu : A.units + 64 < cLine) (h : Q (.bool false) s) : wpAny (model prog w) A (compareOp .NotEq a b) Q E s := by
  obtain ⟨as, ra⟩ := ra
  obtain ⟨bs, rb⟩ := rb
  refine ne_dataH ra rb hd hd hu ?_
  rw [SeqAt.eqv_refl d (SeqAt.canLay_of_shaped hd)]
  exact h
end
section
variable {o : Obj} {v : Option Value} (hd : o.data = .cell v)
include hd
theorem list_ne_cell {us : Array Value} {k : Nat} : W.listOf us k ≠ o := by rintro rfl; simp [W.listOf] at hd
theorem tup_ne_cell {us : Array Value} {k : Nat} : tupOf us k ≠ o := by rintro rfl; simp [tupOf] at hd
theorem inst_ne_cell {C d : Addr} : instObj C d ≠ o := by rintro rfl; simp [instObj] at hd
theorem dict_ne_cell {es : List DictEntry} {k : Nat} : dictOf es k ≠ o := by rintro rfl; simp [dictOf] at hd
theorem itc_ne_cell {io : Obj} (_h : Itc io) (hio : ∀ w, io.data ≠ .cell w) : io ≠ o := by rintro rfl; exact hio _ hd
theorem ZIn.cell {h₀ h : Heap} {L c : Addr} {news news' : Led} {Z : ZRep} (hz : ZIn news Z) (N : News h₀ L h news) (hc : (c, o) ∈ news) (K : Kept [c] news news') : ZIn news' Z where
  obj := K.one hz.obj (led_ne N hz.obj hc (inst_ne_cell hd))
  dict := let ⟨a, b, c', d', e, f, g, h, i, j, k, m⟩ := hz.dict; ⟨a, b, c', d', e, f, g, h, i, j, k, K.one m (led_ne N m hc (dict_ne_cell hd))⟩
  ol := let ⟨k, m⟩ := hz.ol; ⟨k, K.one m (led_ne N m hc (list_ne_cell hd))⟩
  cl := let ⟨k, m⟩ := hz.cl; ⟨k, K.one m (led_ne N m hc (list_ne_cell hd))⟩
  tl := let ⟨k, m⟩ := hz.tl; ⟨k, K.one m (led_ne N m hc (list_ne_cell hd))⟩
  op := fun i hi => let ⟨t, t', n, m⟩ := hz.op i hi; ⟨t, t', n, K.one m (led_ne N m hc (tup_ne_cell hd))⟩
  cp := fun i hi => let ⟨t, t', n, m⟩ := hz.cp i hi; ⟨t, t', n, K.one m (led_ne N m hc (tup_ne_cell hd))⟩
  tp := fun i hi => let ⟨n, m⟩ := hz.tp i hi; ⟨n, K.one m (led_ne N m hc (list_ne_cell hd))⟩
  hoc := hz.hoc
  hot := hz.hot
  hct := hz.hct
  hto := hz.hto
  htc := hz.htc
  htt := hz.htt
  hta := hz.hta
end
theorem Kept.list {h₀ h : Heap} {L c d : Addr} {news news' : Led} {us : Array Value} {k : Nat} {o : Obj} {v : Option Value} (K : Kept [c] news news') (N : News h₀ L h news) (hc : (c, o) ∈ news) (hd : o.data = .cell v) (m : (d, W.listOf us k) ∈ news) : (d, W.listOf us k) ∈ news' := K.one m (led_ne N m hc (list_ne_cell hd))
theorem Kept.pts {h₀ h : Heap} {L c : Addr} {news news' : Led} {n : Nat} {f : Nat → Addr} {x y : Nat → Int} {o : Obj} {v : Option Value} (K : Kept [c] news news') (N : News h₀ L h news) (hc : (c, o) ∈ news) (hd : o.data = .cell v) (m : ∀ i, i < n → PtAt news (f i) (x i) (y i)) : ∀ i, i < n → PtAt news' (f i) (x i) (y i) :=
  fun i hi => let ⟨t, t', k, q⟩ := m i hi; ⟨t, t', k, K.one q (led_ne N q hc (tup_ne_cell hd))⟩
theorem Kept.bps {h₀ h : Heap} {L c : Addr} {news news' : Led} {n : Nat} {f : Nat → Addr} {x y : Nat → Bool} {o : Obj} {v : Option Value} (K : Kept [c] news news') (N : News h₀ L h news) (hc : (c, o) ∈ news) (hd : o.data = .cell v) (m : ∀ i, i < n → BpAt news (f i) (x i) (y i)) : ∀ i, i < n → BpAt news' (f i) (x i) (y i) :=
  fun i hi => let ⟨k, q⟩ := m i hi; ⟨k, K.one q (led_ne N q hc (list_ne_cell hd))⟩
/-- j's nearest marked ones, going back and going on, round the contour f .. l -/
def IsPrev (mk : Nat → Bool) (f l j p : Nat) : Prop := f ≤ p ∧ p ≤ l ∧ mk p = true ∧ ((p < j ∧ ∀ q, p < q → q < j → mk q = false) ∨ (j ≤ p ∧ (∀ q, f ≤ q → q < j → mk q = false) ∧ ∀ q, p < q → q ≤ l → mk q = false))
def IsNext (mk : Nat → Bool) (f l j p : Nat) : Prop := f ≤ p ∧ p ≤ l ∧ mk p = true ∧ ((j < p ∧ ∀ q, j < q → q < p → mk q = false) ∨ (p ≤ j ∧ (∀ q, j < q → q ≤ l → mk q = false) ∧ ∀ q, f ≤ q → q < p → mk q = false))
def Open (mk : Nat → Bool) (f l j : Nat) : Prop := f ≤ j ∧ j ≤ l ∧ mk j = false ∧ ∃ t, f ≤ t ∧ t ≤ l ∧ mk t = true
/-- j lies between the k-th marked one and the next, round -/
def InArc (tt : Nat → Nat) (len f l k j : Nat) : Prop := if k + 1 < len then tt k < j ∧ j < tt (k + 1) else (tt k < j ∧ j ≤ l) ∨ (f ≤ j ∧ j < tt 0)

structure Marks (mk : Nat → Bool) (f l : Nat) (tt : Nat → Nat) (len : Nat) : Prop where
  mono : ∀ a b, a < b → b < len → tt a < tt b
  mem : ∀ j, (f ≤ j ∧ j ≤ l ∧ mk j = true) ↔ ∃ k, k < len ∧ tt k = j

section
variable {mk : Nat → Bool} {f l : Nat} {tt : Nat → Nat} {len : Nat} (M : Marks mk f l tt len)
include M
theorem Marks.at {k : Nat} (h : k < len) : f ≤ tt k ∧ tt k ≤ l ∧ mk (tt k) = true := (M.mem _).mpr ⟨k, h, rfl⟩
theorem Marks.le {a b : Nat} (h : a ≤ b) (hb : b < len) : tt a ≤ tt b := by
  rcases Nat.lt_or_eq_of_le h with h | h
  · exact Nat.le_of_lt (M.mono a b h hb)
  · subst h; exact Nat.le_refl _
theorem Marks.arc_open {k j : Nat} (hk : k < len) (h : InArc tt len f l k j) : Open mk f l j := by
  have ht := M.at hk
  have h0 := M.at (Nat.lt_of_le_of_lt (Nat.zero_le k) hk)
  unfold InArc at h
  have none : f ≤ j → j ≤ l → (∀ i, i < len → tt i ≠ j) → Open mk f l j := fun a b c => by
    refine ⟨a, b, ?_, _, ht⟩
    cases e : mk j with
    | false => rfl
    | true =>
      obtain ⟨i, hi, e⟩ := (M.mem j).mp ⟨a, b, e⟩
      exact absurd e (c i hi)
  split at h
  case isTrue hk1 =>
    have h1 := M.at hk1
    refine none (by omega) (by omega) fun i hi e => ?_
    rcases Nat.lt_or_ge k i with hki | hki
    · have := M.le (a := k + 1) (b := i) hki hi; omega
    · have := M.le (a := i) (b := k) hki hk; omega
  case isFalse hk1 =>
    rcases h with h | h
    · refine none (by omega) (by omega) fun i hi e => ?_
      have := M.le (a := i) (b := k) (by omega) hk; omega
    · refine none (by omega) (by omega) fun i hi e => ?_
      have := M.le (a := 0) (b := i) (by omega) hi; omega

theorem Marks.arc_prev {k j p : Nat} (hk : k < len) (h : InArc tt len f l k j) (hp : IsPrev mk f l j p) : p = tt k := by
  obtain ⟨p1, p2, p3, hp⟩ := hp
  obtain ⟨i, hi, rfl⟩ := (M.mem p).mp ⟨p1, p2, p3⟩
  have ht := M.at hk
  have h0 := M.at (Nat.lt_of_le_of_lt (Nat.zero_le k) hk)
  have big : ∀ i, i < len → k < i → k + 1 < len ∧ tt (k + 1) ≤ tt i := fun i hi h => ⟨by omega, M.le h hi⟩
  unfold InArc at h
  have no : ∀ q, mk q = true → mk q = false → False := fun q a b => by rw [a] at b; cases b
  rcases Nat.lt_trichotomy i k with hik | hik | hik
  · -- before it
    have h1 := M.mono i k hik hk
    have h2 := M.le (a := 0) (b := i) (by omega) hi
    rcases hp with ⟨a, b⟩ | ⟨a, b, c⟩
    · split at h
      · exact (no _ ht.2.2 (b _ h1 h.1)).elim
      · rcases h with h | h
        · exact (no _ ht.2.2 (b _ h1 h.1)).elim
        · omega
    · split at h
      · omega
      · rcases h with h | h
        · omega
        · exact (no _ ht.2.2 (c _ h1 ht.2.1)).elim
  · rw [hik]
  · obtain ⟨hk1, h1⟩ := big i hi hik
    rw [if_pos hk1] at h
    rcases hp with ⟨a, b⟩ | ⟨a, b, c⟩
    · omega
    · exact (no _ ht.2.2 (b _ ht.1 h.1)).elim

theorem Marks.arc_next {k j p : Nat} (hk : k < len) (h : InArc tt len f l k j) (hp : IsNext mk f l j p) : p = tt ((k + 1) % len) := by
  obtain ⟨p1, p2, p3, hp⟩ := hp
  obtain ⟨i, hi, rfl⟩ := (M.mem p).mp ⟨p1, p2, p3⟩
  have ht := M.at hk
  have h0 := M.at (Nat.lt_of_le_of_lt (Nat.zero_le k) hk)
  have no : ∀ q, mk q = true → mk q = false → False := fun q a b => by rw [a] at b; cases b
  unfold InArc at h
  split at h
  case isTrue hk1 =>
    rw [Nat.mod_eq_of_lt hk1]
    have h1 := M.at hk1
    rcases Nat.lt_trichotomy i (k + 1) with hik | hik | hik
    · have h2 := M.le (a := i) (b := k) (by omega) hk
      rcases hp with ⟨a, b⟩ | ⟨a, b, c⟩
      · omega
      · exact (no _ h1.2.2 (b _ h.2 h1.2.1)).elim
    · rw [hik]
    · have h2 := M.mono (k + 1) i hik hi
      rcases hp with ⟨a, b⟩ | ⟨a, b, c⟩
      · exact (no _ h1.2.2 (b _ h.2 h2)).elim
      · omega
  case isFalse hk1 =>
    have e : (k + 1) % len = 0 := by rw [show k + 1 = len by omega]; exact Nat.mod_self _
    rw [e]
    have h3 := M.le (a := i) (b := k) (by omega) hk
    rcases Nat.eq_zero_or_pos i with hi0 | hi0
    · rw [hi0]
    · have h2 := M.mono 0 i hi0 hi
      rcases hp with ⟨a, b⟩ | ⟨a, b, c⟩
      · rcases h with h | h
        · omega
        · exact (no _ h0.2.2 (b _ h.2 h2)).elim
      · rcases h with h | h
        · exact (no _ h0.2.2 (c _ h0.1 h2)).elim
        · omega

theorem Marks.cover {j : Nat} (h : Open mk f l j) : ∃ k, k < len ∧ InArc tt len f l k j := by
  obtain ⟨a, b, c, t, ht⟩ := h
  obtain ⟨k0, hk0, _⟩ := (M.mem t).mp ht
  have ne : ∀ i, i < len → tt i ≠ j := fun i hi e => by
    have := (M.at hi).2.2
    rw [e, c] at this
    cases this
  have main : ∀ k, k < len → j < tt 0 ∨ (∃ i, i < k ∧ tt i < j ∧ j < tt (i + 1)) ∨ tt k < j := by
    intro k
    induction k with
    | zero => intro hk; have := ne 0 hk; omega
    | succ k ih =>
      intro hk
      rcases ih (by omega) with h | ⟨i, hi, h⟩ | h
      · exact .inl h
      · exact .inr (.inl ⟨i, by omega, h⟩)
      · have := ne (k + 1) hk
        rcases Nat.lt_or_ge j (tt (k + 1)) with h1 | h1
        · exact .inr (.inl ⟨k, by omega, h, h1⟩)
        · exact .inr (.inr (by omega))
  rcases main (len - 1) (by omega) with h | ⟨i, hi, h⟩ | h
  · refine ⟨len - 1, by omega, ?_⟩
    unfold InArc
    rw [if_neg (by omega)]
    exact .inr ⟨a, h⟩
  · refine ⟨i, by omega, ?_⟩
    unfold InArc
    rw [if_pos (by omega)]
    exact h
  · refine ⟨len - 1, by omega, ?_⟩
    unfold InArc
    rw [if_neg (by omega)]
    exact .inl ⟨h, b⟩
end
/-- the marked ones of f, f + 1 .. (i of them looked at) -/
def sel (mk : Nat → Bool) (f i : Nat) : List Nat := ((List.range i).map (f + ·)).filter mk
theorem sel_succ {mk f i} : sel mk f (i + 1) = sel mk f i ++ (if mk (f + i) = true then [f + i] else []) := by
  unfold sel
  rw [List.range_succ, List.map_append, List.filter_append]
  simp only [List.map_cons, List.map_nil, List.filter_cons, List.filter_nil]
theorem sel_mem {mk f i j} : j ∈ sel mk f i ↔ f ≤ j ∧ j < f + i ∧ mk j = true := by
  unfold sel
  simp only [List.mem_filter, List.mem_map, List.mem_range]
  constructor
  · rintro ⟨⟨a, ha, rfl⟩, h⟩; exact ⟨by omega, by omega, h⟩
  · rintro ⟨a, b, c⟩; exact ⟨⟨j - f, by omega, by omega⟩, c⟩
theorem sel_sorted {mk f i} : (sel mk f i).Pairwise (· < ·) := by
  unfold sel
  refine List.Pairwise.filter _ (List.pairwise_map.mpr ?_)
  exact List.pairwise_lt_range.imp fun h => by omega
theorem sel_marks {mk : Nat → Bool} {f l : Nat} (_h : f ≤ l) : Marks mk f l (fun k => (sel mk f (l + 1 - f)).getD k 0) (sel mk f (l + 1 - f)).length where
  mono := fun a b hab hb => by
    have := List.pairwise_iff_getElem.mp (sel_sorted (mk := mk) (f := f) (i := l + 1 - f)) a b (by omega) hb hab
    simpa [List.getD_eq_getElem?_getD, List.getElem?_eq_getElem hb, List.getElem?_eq_getElem (Nat.lt_trans hab hb)] using this
  mem := fun j => by
    have h1 : (f ≤ j ∧ j ≤ l ∧ mk j = true) ↔ j ∈ sel mk f (l + 1 - f) := by
      rw [sel_mem]
      constructor
      · rintro ⟨a, b, c⟩; exact ⟨a, by omega, c⟩
      · rintro ⟨a, b, c⟩; exact ⟨a, by omega, c⟩
    rw [h1, List.mem_iff_getElem]
    constructor
    · rintro ⟨k, hk, e⟩
      exact ⟨k, hk, by simp [List.getD_eq_getElem?_getD, List.getElem?_eq_getElem hk, e]⟩
    · rintro ⟨k, hk, e⟩
      refine ⟨k, hk, ?_⟩
      simpa [List.getD_eq_getElem?_getD, List.getElem?_eq_getElem hk] using e
local macro_rules | `(tactic| walk_at $s:str) => `(tactic| k_extra $s)
local macro_rules | `(tactic| k_room) => `(tactic| ktr_room)
local macro_rules | `(tactic| ktr_room) => `(tactic| k_extra "room")
local macro_rules | `(tactic| ktr_units) => `(tactic| k_extra "units")
local macro_rules | `(tactic| k_mem) => `(tactic| k_extra "mem")
section
theorem words_C1_1 : True := by
  k_with_none
  k_with "room" => ((simp only [depth_under_make, depth_under_kw, depth_in1, depth_deeper, depth_caller]); exact room_ok (by with_reducible assumption) (by decide))
  k_with "units" => ((simp only [units_in1, units_deeper, Around.mark_units, units_caller, units_under_make]); first | exact units_ok (by with_reducible assumption) (by decide) | (have hcL9 := cLine_is; omega))
  k_with "mem" => (first | (with_reducible assumption) | exact List.mem_cons_self | (refine List.mem_cons_of_mem _ ?_; k_mem) | (refine Kept.none (by with_reducible assumption) ?_; k_mem) | (refine Kept.one (by with_reducible assumption) (by k_mem) (by walk_at "mine ne")))
  k_with "mine ne" => ((try dsimp only); first | assumption | (refine Ne.symm ?_; assumption) | exact led_ne' (by with_reducible assumption) (by with_reducible assumption) inst_ne_list (by with_reducible assumption) | exact led_ne' (by with_reducible assumption) (by with_reducible assumption) dict_ne_list (by with_reducible assumption) | exact led_ne' (by with_reducible assumption) (by with_reducible assumption) tup_ne_list (by with_reducible assumption))
  k_with "mine zone" => (first | assumption | exact ZIn.inc (by assumption) (by assumption) | exact ZIn.inc (by assumption) Kept.cons)
  k_with "subscriptTail" => (k_here; (with_reducible show wpAny _ _ (subscriptTail _ _ (Value.ref _) (Value.int _ _)) _ _ _); (first | (refine itemL (by k_asm) (by k_mem) (by first | decide | assumption | omega) (by first | decide | with_reducible assumption | omega) (by first | rfl | assumption) ?_ (by with_unfolding_all rfl)) | (refine itemT (by k_asm) (by k_mem) (by first | decide | assumption | omega) (by first | decide | with_reducible assumption | omega) (by first | rfl | assumption) ?_ (by with_unfolding_all rfl))))
  k_with "binaryOp FloorDiv int int" => (k_here; k_dflt (refine floordiv_int (by omega) ?_ (Or.inl (PyProof.noPylong_small (by omega)))))
  k_with "call builtin:len" => (k_here; (with_reducible show wpAny _ _ (call (Value.builtin _) [Value.ref _]) _ _ _); k_dflt (refine lenL (by k_asm) (by k_mem) (by first | assumption | exact refs_len | rfl) (by first | decide | with_reducible assumption | omega) ?_))
  k_with "setItem ref int" => (k_here; (with_reducible show wpAny _ _ (setItem (Value.ref _) (Value.int _ _) _) _ _ _); k_dflt (refine setItemU (by k_asm) (by k_asm) (by k_mem) (by first | decide | assumption | omega) (by first | (simp only [refs_len, List.length_cons, List.length_nil]; omega) | omega) (by first | decide | omega) ?_; intro h' news' F' N' K' M'; (try simp only [Int.reduceToNat, List.set_cons_zero, List.set_cons_succ] at M')))
  exact trivial
variable {w : World} {mean : ExcName → Option Value} {mg mb : Str → Option Value}
set_option maxHeartbeats 8000000 in
theorem take_con {src : Addr} {p q : Int} {tp tq : Tok} {n : Nat} {top : Int} {tt : Tok} {news : Led}
    (hm : (src, W.listOf #[.int p tp, .int q tq] n) ∈ news) (hp : 0 ≤ p) (hq0 : 0 ≤ q) (hq1 : q < 2147483647) (ht0 : 0 < top) (ht1 : top ≤ 1000000) :
    Con w mean mg mb 396 [.ref src, .int top tt] 2 news (fun r news' => ∃ i tr p' q' tp' tq', r = .int i tr ∧ 0 ≤ i ∧ i < top ∧ 0 ≤ p' ∧ 0 ≤ q' ∧ q' < 2147483647 ∧
      Kept [src] news news' ∧ (src, W.listOf #[.int p' tp', .int q' tq'] n) ∈ news') := by
  unfold Con
  k_fill
  intro dp un gd cn cs aF ccd cl outer A₀ base h₀ L m s Q E B F X N T hk hd hu hret
  refine wpAny_call ?_
  k_dflt ktr_enter
  k_steps
  · refine hret _ _ _ _ (by k_asm) (by k_asm) ⟨_, _, _, _, _, _, rfl, (fmod_bnd ht0).1, (fmod_bnd ht0).2, fdiv_nn hp ht0, hq0, hq1, by assumption, by assumption⟩
  · refine hret _ _ _ _ (by k_asm) (by k_asm) ⟨_, _, _, _, _, _, rfl, (fmod_bnd ht0).1, (fmod_bnd ht0).2, hp, (fmod_bnd (by decide)).1, (fmod_bnd (by decide)).2, by assumption, by assumption⟩

set_option maxHeartbeats 8000000 in
theorem wrap32_con {n : Int} {t : Tok} {news : Led} (h0 : -2000000000 ≤ n) (h1 : n ≤ 2000000000) :
    Con w mean mg mb 35 [.int n t] 2 news (fun r news' => ∃ tr, r = .int n tr ∧ news' = news) := by
  unfold Con
  k_fill
  intro dp un gd cn cs aF ccd cl outer A₀ base h₀ L m s Q E B F X N T hk hd hu hret
  refine wpAny_call ?_
  k_dflt ktr_enter
  k_steps
  have e : (n + 2147483648).fmod 4294967296 - 2147483648 = n := by rw [Int.fmod_eq_emod_of_nonneg _ (by decide)]; omega
  rw [e]
  exact hret _ _ _ _ (by k_asm) (by k_asm) ⟨_, rfl, rfl⟩

def mdv (a b c : Int) : Int := if a * b < 0 then 0 - (0 - 2 * (a * b) + c).fdiv (2 * c) else (2 * (a * b) + c).fdiv (2 * c)
theorem mdv_neg {a b c : Int} (h : a * b < 0) : mdv a b c = 0 - (0 - 2 * (a * b) + c).fdiv (2 * c) := by unfold mdv; rw [if_pos h]
theorem mdv_pos {a b c : Int} (h : ¬ a * b < 0) : mdv a b c = (2 * (a * b) + c).fdiv (2 * c) := by unfold mdv; rw [if_neg h]
set_option maxHeartbeats 8000000 in
theorem muldiv_con {a b c : Int} {ta tb tc : Tok} {news : Led} (a0 : -1000000 ≤ a) (a1 : a ≤ 1000000) (b0 : -1000000 ≤ b) (b1 : b ≤ 1000000) (c0 : 0 < c) (c1 : c ≤ 1000000) :
    Con w mean mg mb 28 [.int a ta, .int b tb, .int c tc] 2 news (fun r news' => ∃ tr, r = .int (mdv a b c) tr ∧ news' = news) := by
  have hab := mul_bnd a0 a1 b0 b1
  unfold Con
  k_fill
  intro dp un gd cn cs aF ccd cl outer A₀ base h₀ L m s Q E B F X N T hk hd hu hret
  refine wpAny_call ?_
  k_dflt ktr_enter
  k_steps
  all_goals (first | rw [← mdv_neg (by assumption)] | rw [← mdv_pos (by assumption)])
  all_goals exact hret _ _ _ _ (by k_asm) (by k_asm) ⟨_, rfl, rfl⟩
end
section
theorem words_C2_1 : True := by
  k_with_none
  k_with "room" => ((simp only [depth_under_make, depth_under_kw, depth_in1, depth_deeper, depth_caller]); exact room_ok (by with_reducible assumption) (by decide))
  k_with "units" => ((simp only [units_in1, units_deeper, Around.mark_units, units_caller, units_under_make]); first | exact units_ok (by with_reducible assumption) (by decide) | (have hcL9 := cLine_is; omega))
  k_with "mem" => (first | (with_reducible assumption) | exact List.mem_cons_self | (refine List.mem_cons_of_mem _ ?_; k_mem) | (refine Kept.none (by with_reducible assumption) ?_; k_mem) | (refine Kept.one (by with_reducible assumption) (by k_mem) (by walk_at "mine ne")))
  k_with "mine ne" => ((try dsimp only); first | assumption | (refine Ne.symm ?_; assumption) | exact led_ne' (by with_reducible assumption) (by with_reducible assumption) inst_ne_list (by with_reducible assumption) | exact led_ne' (by with_reducible assumption) (by with_reducible assumption) dict_ne_list (by with_reducible assumption) | exact led_ne' (by with_reducible assumption) (by with_reducible assumption) tup_ne_list (by with_reducible assumption))
  k_with "mine zone" => (first | assumption | exact ZIn.inc (by assumption) (by assumption) | exact ZIn.inc (by assumption) Kept.cons)
  k_with "subscriptTail" => (k_here; (with_reducible show wpAny _ _ (subscriptTail _ _ (Value.ref _) (Value.int _ _)) _ _ _); (first | (refine itemL (by k_asm) (by k_mem) (by first | decide | assumption | omega) (by first | decide | with_reducible assumption | omega) (by first | rfl | assumption) ?_ (by with_unfolding_all rfl)) | (refine itemT (by k_asm) (by k_mem) (by first | decide | assumption | omega) (by first | decide | with_reducible assumption | omega) (by first | rfl | assumption) ?_ (by with_unfolding_all rfl))))
  k_with "binaryOp FloorDiv int int" => (k_here; k_dflt (refine floordiv_int (by omega) ?_ (Or.inl (PyProof.noPylong_small (by omega)))))
  k_with "call builtin:len" => (k_here; (with_reducible show wpAny _ _ (call (Value.builtin _) [Value.ref _]) _ _ _); k_dflt (refine lenL (by k_asm) (by k_mem) (by first | assumption | exact refs_len | rfl) (by first | decide | with_reducible assumption | omega) ?_))
  k_with "setItem ref int" => (k_here; (with_reducible show wpAny _ _ (setItem (Value.ref _) (Value.int _ _) _) _ _ _); k_dflt (refine setItemU (by k_asm) (by k_asm) (by k_mem) (by first | decide | assumption | omega) (by first | (simp only [refs_len, List.length_cons, List.length_nil]; omega) | omega) (by first | decide | omega) ?_; intro h' news' F' N' K' M'; (try simp only [Int.reduceToNat, List.set_cons_zero, List.set_cons_succ] at M')))
  k_with "call ref" => (k_here; (with_reducible show wpAny _ _ (call (Value.ref 396) _) _ _ _); k_dflt (refine Con.use (by k_asm) (by k_asm) (by k_asm) (by k_asm) (by k_asm) (by first | exact rfl | assumption) (take_con (by k_mem) (by omega) (by omega) (by omega) (by omega) (by omega)) (by ktr_room) (by ktr_units) ?_; rintro _ _ _ _ _ _ ⟨_, _, _, _, _, _, rfl, _, _, _, _, _, _, _⟩; (try dsimp only)))
  k_with "call ref" => (k_here; (with_reducible show wpAny _ _ (call (Value.ref 35) _) _ _ _); k_dflt (refine Con.use (by k_asm) (by k_asm) (by k_asm) (by k_asm) (by k_asm) (by first | exact rfl | assumption) (wrap32_con (by omega) (by omega)) (by ktr_room) (by ktr_units) ?_; rintro _ _ _ _ _ _ ⟨_, rfl, rfl⟩; (try dsimp only)))
  k_with "call ref" => (k_here; (with_reducible show wpAny _ _ (call (Value.ref 28) _) _ _ _); k_dflt (refine Con.use (by k_asm) (by k_asm) (by k_asm) (by k_asm) (by k_asm) (by first | exact rfl | assumption) (muldiv_con (by omega) (by omega) (by omega) (by omega) (by omega) (by omega)) (by ktr_room) (by ktr_units) ?_; rintro _ _ _ _ _ _ ⟨_, rfl, rfl⟩; (try dsimp only)))
  exact trivial
variable {w : World} {mean : ExcName → Option Value} {mg mb : Str → Option Value}
set_option maxHeartbeats 8000000 in
theorem held_con {pl : Addr} {x y : Int} {tx ty : Tok} {k : Nat} {news : Led} (hm : (pl, tupOf #[.int x tx, .int y ty] k) ∈ news) (x0 : -2000000000 ≤ x) (x1 : x ≤ 2000000000) (y0 : -2000000000 ≤ y) (y1 : y ≤ 2000000000) :
    Con w mean mg mb 333 [.ref pl] 4 news (fun r news' => ∃ c, r = .ref c ∧ Kept [] news news' ∧ PtAt news' c x y) := by
  unfold Con
  k_fill
  intro dp un gd cn cs aF ccd cl outer A₀ base h₀ L m s Q E B F X N T hk hd hu hret
  refine wpAny_call ?_
  k_dflt ktr_enter
  k_steps
  exact hret _ _ _ _ (by k_asm) (by k_asm) ⟨_, rfl, Kept.cons, _, _, _, .head _⟩

set_option maxHeartbeats 8000000 in
theorem count_con {Z : ZRep} {news : Led} (hz : ZIn news Z) {z : Addr} (ez : z = Z.z) (hn : Z.n ≤ 1000) :
    Con w mean mg mb 354 [.ref z] 2 news (fun r news' => ∃ t, r = .int Z.n t ∧ news' = news) := by
  subst ez
  obtain ⟨h1, h2, h3, h4, h5, k1, k2, k3, k4, k5, k, hd⟩ := hz.dict
  obtain ⟨kc, hcl⟩ := hz.cl
  have hob := hz.obj
  unfold Con
  k_fill
  intro dp un gd cn cs aF ccd cl outer A₀ base h₀ L m s Q E B F X N T hk hd hu hret
  refine wpAny_call ?_
  k_dflt ktr_enter
  k_steps
  exact hret _ _ _ _ (by k_asm) (by k_asm) ⟨_, rfl, rfl⟩
set_option maxHeartbeats 8000000 in
theorem check_con {Z : ZRep} {news : Led} {i : Int} {t : Tok} (hz : ZIn news Z) {z : Addr} (ez : z = Z.z) (hn : Z.n ≤ 1000) (i0 : 0 ≤ i) (i1 : i < Z.n) :
    Con w mean mg mb 361 [.ref z, .int i t] 2 news (fun r news' => r = .int i t ∧ news' = news) := by
  subst ez
  obtain ⟨h1, h2, h3, h4, h5, k1, k2, k3, k4, k5, k, hd⟩ := hz.dict
  obtain ⟨kc, hcl⟩ := hz.cl
  have hob := hz.obj
  unfold Con
  k_fill
  intro dp un gd cn cs aF ccd cl outer A₀ base h₀ L m s Q E B F X N T hk hd hu hret
  refine wpAny_call ?_
  k_dflt ktr_enter
  k_steps
  exact hret _ _ _ _ (by k_asm) (by k_asm) ⟨rfl, rfl⟩
end
section
theorem words_C3_1 : True := by
  k_with_none
  k_with "room" => ((simp only [depth_under_make, depth_under_kw, depth_in1, depth_deeper, depth_caller]); exact room_ok (by with_reducible assumption) (by decide))
  k_with "units" => ((simp only [units_in1, units_deeper, Around.mark_units, units_caller, units_under_make]); first | exact units_ok (by with_reducible assumption) (by decide) | (have hcL9 := cLine_is; omega))
  k_with "mem" => (first | (with_reducible assumption) | exact List.mem_cons_self | (refine List.mem_cons_of_mem _ ?_; k_mem) | (refine Kept.none (by with_reducible assumption) ?_; k_mem) | (refine Kept.one (by with_reducible assumption) (by k_mem) (by walk_at "mine ne")))
  k_with "mine ne" => ((try dsimp only); first | assumption | (refine Ne.symm ?_; assumption) | exact led_ne' (by with_reducible assumption) (by with_reducible assumption) inst_ne_list (by with_reducible assumption) | exact led_ne' (by with_reducible assumption) (by with_reducible assumption) dict_ne_list (by with_reducible assumption) | exact led_ne' (by with_reducible assumption) (by with_reducible assumption) tup_ne_list (by with_reducible assumption))
  k_with "mine zone" => (first | assumption | exact ZIn.inc (by assumption) (by assumption) | exact ZIn.inc (by assumption) Kept.cons)
  k_with "subscriptTail" => (k_here; (with_reducible show wpAny _ _ (subscriptTail _ _ (Value.ref _) (Value.int _ _)) _ _ _); (first | (refine itemL (by k_asm) (by k_mem) (by first | decide | assumption | omega) (by first | decide | with_reducible assumption | omega) (by first | rfl | assumption) ?_ (by with_unfolding_all rfl)) | (refine itemT (by k_asm) (by k_mem) (by first | decide | assumption | omega) (by first | decide | with_reducible assumption | omega) (by first | rfl | assumption) ?_ (by with_unfolding_all rfl))))
  k_with "binaryOp FloorDiv int int" => (k_here; k_dflt (refine floordiv_int (by omega) ?_ (Or.inl (PyProof.noPylong_small (by omega)))))
  k_with "call builtin:len" => (k_here; (with_reducible show wpAny _ _ (call (Value.builtin _) [Value.ref _]) _ _ _); k_dflt (refine lenL (by k_asm) (by k_mem) (by first | assumption | exact refs_len | rfl) (by first | decide | with_reducible assumption | omega) ?_))
  k_with "setItem ref int" => (k_here; (with_reducible show wpAny _ _ (setItem (Value.ref _) (Value.int _ _) _) _ _ _); k_dflt (refine setItemU (by k_asm) (by k_asm) (by k_mem) (by first | decide | assumption | omega) (by first | (simp only [refs_len, List.length_cons, List.length_nil]; omega) | omega) (by first | decide | omega) ?_; intro h' news' F' N' K' M'; (try simp only [Int.reduceToNat, List.set_cons_zero, List.set_cons_succ] at M')))
  k_with "call ref" => (k_here; (with_reducible show wpAny _ _ (call (Value.ref 396) _) _ _ _); k_dflt (refine Con.use (by k_asm) (by k_asm) (by k_asm) (by k_asm) (by k_asm) (by first | exact rfl | assumption) (take_con (by k_mem) (by omega) (by omega) (by omega) (by omega) (by omega)) (by ktr_room) (by ktr_units) ?_; rintro _ _ _ _ _ _ ⟨_, _, _, _, _, _, rfl, _, _, _, _, _, _, _⟩; (try dsimp only)))
  k_with "call ref" => (k_here; (with_reducible show wpAny _ _ (call (Value.ref 35) _) _ _ _); k_dflt (refine Con.use (by k_asm) (by k_asm) (by k_asm) (by k_asm) (by k_asm) (by first | exact rfl | assumption) (wrap32_con (by omega) (by omega)) (by ktr_room) (by ktr_units) ?_; rintro _ _ _ _ _ _ ⟨_, rfl, rfl⟩; (try dsimp only)))
  k_with "call ref" => (k_here; (with_reducible show wpAny _ _ (call (Value.ref 28) _) _ _ _); k_dflt (refine Con.use (by k_asm) (by k_asm) (by k_asm) (by k_asm) (by k_asm) (by first | exact rfl | assumption) (muldiv_con (by omega) (by omega) (by omega) (by omega) (by omega) (by omega)) (by ktr_room) (by ktr_units) ?_; rintro _ _ _ _ _ _ ⟨_, rfl, rfl⟩; (try dsimp only)))
  k_with "call ref" => (k_here; (with_reducible show wpAny _ _ (call (Value.ref 333) _) _ _ _); k_dflt (refine Con.use (by k_asm) (by k_asm) (by k_asm) (by k_asm) (by k_asm) (by first | exact rfl | assumption) (held_con (by k_mem) (by omega) (by omega) (by omega) (by omega)) (by ktr_room) (by ktr_units) ?_; rintro _ _ _ _ _ _ ⟨_, rfl, _, _, _, _, _⟩; (try dsimp only)))
  k_with "call ref" => (k_here; (with_reducible show wpAny _ _ (call (Value.ref 354) _) _ _ _); k_dflt (refine Con.use (by k_asm) (by k_asm) (by k_asm) (by k_asm) (by k_asm) (by first | exact rfl | assumption) (count_con (by walk_at "mine zone") (by rfl) (by omega)) (by ktr_room) (by ktr_units) ?_; rintro _ _ _ _ _ _ ⟨_, rfl, rfl⟩; (try dsimp only)))
  k_with "call ref" => (k_here; (with_reducible show wpAny _ _ (call (Value.ref 361) _) _ _ _); k_dflt (refine Con.use (by k_asm) (by k_asm) (by k_asm) (by k_asm) (by k_asm) (by first | exact rfl | assumption) (check_con (by walk_at "mine zone") (by rfl) (by omega) (by omega) (by omega)) (by ktr_room) (by ktr_units) ?_; rintro _ _ _ _ _ _ ⟨rfl, rfl⟩; (try dsimp only)))
  exact trivial
variable {w : World} {mean : ExcName → Option Value} {mg mb : Str → Option Value}
set_option maxHeartbeats 8000000 in
theorem put_con {Z : ZRep} {news : Led} {i : Int} {t : Tok} {pl : Addr} {x y : Int} {tx ty : Tok} {k : Nat} (hz : ZIn news Z) {z : Addr} (ez : z = Z.z) (hn : Z.n ≤ 1000) (i0 : 0 ≤ i) (i1 : i < Z.n)
    (hm : (pl, tupOf #[.int x tx, .int y ty] k) ∈ news) (x0 : -2000000000 ≤ x) (x1 : x ≤ 2000000000) (y0 : -2000000000 ≤ y) (y1 : y ≤ 2000000000) :
    Con w mean mg mb 368 [.ref z, .int i t, .ref pl] 6 news (fun r news' => r = .none ∧ ∃ c, Kept [Z.lc] news news' ∧ ZIn news' (Z.setCur i.toNat c x y)) := by
  subst ez
  obtain ⟨h1, h2, h3, h4, h5, k1, k2, k3, k4, k5, k, hd⟩ := hz.dict
  obtain ⟨kc, hcl⟩ := hz.cl
  have hob := hz.obj
  unfold Con
  k_fill
  intro dp un gd cn cs aF ccd cl outer A₀ base h₀ L m s Q E B F X N T hk hd hu hret
  refine wpAny_call ?_
  k_dflt ktr_enter
  k_steps
  rename Kept [Z.lc] _ _ => K2
  rename Kept [] _ _ => K1
  rename News _ _ _ _ => N1
  rename (_, tupOf #[Value.int x _, Value.int y _] _) ∈ _ => M1
  exact hret _ _ _ _ (by k_asm) (by k_asm) ⟨rfl, _, Kept.trans K1 K2 (fun _ h => nomatch h) (fun _ h => h), ZIn.setCur (hz.inc K1) (by k_asm) K2 ⟨_, by assumption⟩ (PtAt.kept ⟨_, _, _, M1⟩ K2 (one_not (led_ne' M1 (K1.none hcl) tup_ne_list (by assumption))))⟩
end
section
theorem words_C4_1 : True := by
  k_with_none
  k_with "room" => ((simp only [depth_under_make, depth_under_kw, depth_in1, depth_deeper, depth_caller]); exact room_ok (by with_reducible assumption) (by decide))
  k_with "units" => ((simp only [units_in1, units_deeper, Around.mark_units, units_caller, units_under_make]); first | exact units_ok (by with_reducible assumption) (by decide) | (have hcL9 := cLine_is; omega))
  k_with "mem" => (first | (with_reducible assumption) | exact List.mem_cons_self | (refine List.mem_cons_of_mem _ ?_; k_mem) | (refine Kept.none (by with_reducible assumption) ?_; k_mem) | (refine Kept.one (by with_reducible assumption) (by k_mem) (by walk_at "mine ne")))
  k_with "mine ne" => ((try dsimp only); first | assumption | (refine Ne.symm ?_; assumption) | exact led_ne' (by with_reducible assumption) (by with_reducible assumption) inst_ne_list (by with_reducible assumption) | exact led_ne' (by with_reducible assumption) (by with_reducible assumption) dict_ne_list (by with_reducible assumption) | exact led_ne' (by with_reducible assumption) (by with_reducible assumption) tup_ne_list (by with_reducible assumption))
  k_with "mine zone" => (first | assumption | exact ZIn.inc (by assumption) (by assumption) | exact ZIn.inc (by assumption) Kept.cons)
  k_with "subscriptTail" => (k_here; (with_reducible show wpAny _ _ (subscriptTail _ _ (Value.ref _) (Value.int _ _)) _ _ _); (first | (refine itemL (by k_asm) (by k_mem) (by first | decide | assumption | omega) (by first | decide | with_reducible assumption | omega) (by first | rfl | assumption) ?_ (by with_unfolding_all rfl)) | (refine itemT (by k_asm) (by k_mem) (by first | decide | assumption | omega) (by first | decide | with_reducible assumption | omega) (by first | rfl | assumption) ?_ (by with_unfolding_all rfl))))
  k_with "binaryOp FloorDiv int int" => (k_here; k_dflt (refine floordiv_int (by omega) ?_ (Or.inl (PyProof.noPylong_small (by omega)))))
  k_with "call builtin:len" => (k_here; (with_reducible show wpAny _ _ (call (Value.builtin _) [Value.ref _]) _ _ _); k_dflt (refine lenL (by k_asm) (by k_mem) (by first | assumption | exact refs_len | rfl) (by first | decide | with_reducible assumption | omega) ?_))
  k_with "setItem ref int" => (k_here; (with_reducible show wpAny _ _ (setItem (Value.ref _) (Value.int _ _) _) _ _ _); k_dflt (refine setItemU (by k_asm) (by k_asm) (by k_mem) (by first | decide | assumption | omega) (by first | (simp only [refs_len, List.length_cons, List.length_nil]; omega) | omega) (by first | decide | omega) ?_; intro h' news' F' N' K' M'; (try simp only [Int.reduceToNat, List.set_cons_zero, List.set_cons_succ] at M')))
  k_with "call ref" => (k_here; (with_reducible show wpAny _ _ (call (Value.ref 396) _) _ _ _); k_dflt (refine Con.use (by k_asm) (by k_asm) (by k_asm) (by k_asm) (by k_asm) (by first | exact rfl | assumption) (take_con (by k_mem) (by omega) (by omega) (by omega) (by omega) (by omega)) (by ktr_room) (by ktr_units) ?_; rintro _ _ _ _ _ _ ⟨_, _, _, _, _, _, rfl, _, _, _, _, _, _, _⟩; (try dsimp only)))
  k_with "call ref" => (k_here; (with_reducible show wpAny _ _ (call (Value.ref 35) _) _ _ _); k_dflt (refine Con.use (by k_asm) (by k_asm) (by k_asm) (by k_asm) (by k_asm) (by first | exact rfl | assumption) (wrap32_con (by omega) (by omega)) (by ktr_room) (by ktr_units) ?_; rintro _ _ _ _ _ _ ⟨_, rfl, rfl⟩; (try dsimp only)))
  k_with "call ref" => (k_here; (with_reducible show wpAny _ _ (call (Value.ref 28) _) _ _ _); k_dflt (refine Con.use (by k_asm) (by k_asm) (by k_asm) (by k_asm) (by k_asm) (by first | exact rfl | assumption) (muldiv_con (by omega) (by omega) (by omega) (by omega) (by omega) (by omega)) (by ktr_room) (by ktr_units) ?_; rintro _ _ _ _ _ _ ⟨_, rfl, rfl⟩; (try dsimp only)))
  exact trivial
variable {w : World} {mean : ExcName → Option Value} {mg mb : Str → Option Value}
def dplace (o f0 f1 l0 l1 : Int) : Int := if o ≤ f0 then o + f1 - f0 else if l0 ≤ o then o + l1 - l0 else f1 + mdv (o - f0) (l1 - f1) (l0 - f0)
set_option maxHeartbeats 8000000 in
theorem drawn_con {o f0 f1 l0 l1 : Int} {t tf0 tf1 tl0 tl1 : Tok} {a b : Addr} {ka kb : Nat} {news : Led} (ha : (a, tupOf #[.int f0 tf0, .int f1 tf1] ka) ∈ news) (hb : (b, tupOf #[.int l0 tl0, .int l1 tl1] kb) ∈ news)
    (o0 : -1000 ≤ o) (o1 : o ≤ 1000) (f00 : -1000 ≤ f0) (f01 : f0 ≤ 1000) (f10 : -1000 ≤ f1) (f11 : f1 ≤ 1000) (l00 : -1000 ≤ l0) (l01 : l0 ≤ 1000) (l10 : -1000 ≤ l1) (l11 : l1 ≤ 1000) :
    Con w mean mg mb 42 [.int o t, .ref a, .ref b] 4 news (fun r news' => ∃ tr, r = .int (dplace o f0 f1 l0 l1) tr ∧ news' = news) := by
  have d1 : o ≤ f0 → dplace o f0 f1 l0 l1 = o + f1 - f0 := fun h => by unfold dplace; rw [if_pos h]
  have d2 : ¬ o ≤ f0 → l0 ≤ o → dplace o f0 f1 l0 l1 = o + l1 - l0 := fun h h' => by unfold dplace; rw [if_neg h, if_pos h']
  have d3 : ¬ o ≤ f0 → ¬ l0 ≤ o → dplace o f0 f1 l0 l1 = f1 + mdv (o - f0) (l1 - f1) (l0 - f0) := fun h h' => by unfold dplace; rw [if_neg h, if_neg h']
  unfold Con
  k_fill
  intro dp un gd cn cs aF ccd cl outer A₀ base h₀ L m s Q E B F X N T hk hd hu hret
  refine wpAny_call ?_
  k_dflt ktr_enter
  k_steps
  all_goals (first | rw [← d1 (by omega)] | rw [← d2 (by omega) (by omega)] | rw [← d3 (by omega) (by omega)])
  all_goals exact hret _ _ _ _ (by k_asm) (by k_asm) ⟨_, rfl, rfl⟩

set_option maxHeartbeats 8000000 in
theorem near_con {a b c : Int} {ta tb tc : Tok} {news : Led} (a0 : -1000000 ≤ a) (a1 : a ≤ 1000000) (b0 : 0 < b) (b1 : b ≤ 1000000) (c0 : -1000000 ≤ c) (c1 : c ≤ 1000000)
    (hN : 2 * (if a - b * c < 0 then -(a - b * c) else a - b * c) < b ∨ (2 * (if a - b * c < 0 then -(a - b * c) else a - b * c) = b ∧ (if a < 0 then -a else a) < (if b * c < 0 then -(b * c) else b * c))) :
    Con w mean mg mb 410 [.int a ta, .int b tb, .int c tc] 4 news (fun r news' => r = .bool true ∧ news' = news) := by
  have hbc := mul_bnd (a := b) (b := c) (x := 1000000) (y := 1000000) (by omega) (by omega) c0 c1
  have hb : (if b < 0 then -b else b) = b := if_neg (by omega)
  unfold Con
  k_fill
  intro dp un gd cn cs aF ccd cl outer A₀ base h₀ L m s Q E B F X N T hk hd hu hret
  refine wpAny_call ?_
  k_dflt ktr_enter
  k_steps
  all_goals refine q_true ?_ (hret _ _ _ _ (by k_asm) (by k_asm) ⟨rfl, rfl⟩)
  all_goals first
    | (rw [decide_eq_true_eq]; omega)
    | (exfalso; omega)
end
section
theorem words_C5_1 : True := by
  k_with_none
  k_with "room" => ((simp only [depth_under_make, depth_under_kw, depth_in1, depth_deeper, depth_caller]); exact room_ok (by with_reducible assumption) (by decide))
  k_with "units" => ((simp only [units_in1, units_deeper, Around.mark_units, units_caller, units_under_make]); first | exact units_ok (by with_reducible assumption) (by decide) | (have hcL9 := cLine_is; omega))
  k_with "mem" => (first | (with_reducible assumption) | exact List.mem_cons_self | (refine List.mem_cons_of_mem _ ?_; k_mem) | (refine Kept.none (by with_reducible assumption) ?_; k_mem) | (refine Kept.one (by with_reducible assumption) (by k_mem) (by walk_at "mine ne")))
  k_with "mine ne" => ((try dsimp only); first | assumption | (refine Ne.symm ?_; assumption) | exact led_ne' (by with_reducible assumption) (by with_reducible assumption) inst_ne_list (by with_reducible assumption) | exact led_ne' (by with_reducible assumption) (by with_reducible assumption) dict_ne_list (by with_reducible assumption) | exact led_ne' (by with_reducible assumption) (by with_reducible assumption) tup_ne_list (by with_reducible assumption))
  k_with "mine zone" => (first | assumption | exact ZIn.inc (by assumption) (by assumption) | exact ZIn.inc (by assumption) Kept.cons)
  k_with "subscriptTail" => (k_here; (with_reducible show wpAny _ _ (subscriptTail _ _ (Value.ref _) (Value.int _ _)) _ _ _); (first | (refine itemL (by k_asm) (by k_mem) (by first | decide | assumption | omega) (by first | decide | with_reducible assumption | omega) (by first | rfl | assumption) ?_ (by with_unfolding_all rfl)) | (refine itemT (by k_asm) (by k_mem) (by first | decide | assumption | omega) (by first | decide | with_reducible assumption | omega) (by first | rfl | assumption) ?_ (by with_unfolding_all rfl))))
  k_with "binaryOp FloorDiv int int" => (k_here; k_dflt (refine floordiv_int (by omega) ?_ (Or.inl (PyProof.noPylong_small (by omega)))))
  k_with "call builtin:len" => (k_here; (with_reducible show wpAny _ _ (call (Value.builtin _) [Value.ref _]) _ _ _); k_dflt (refine lenL (by k_asm) (by k_mem) (by first | assumption | exact refs_len | rfl) (by first | decide | with_reducible assumption | omega) ?_))
  k_with "setItem ref int" => (k_here; (with_reducible show wpAny _ _ (setItem (Value.ref _) (Value.int _ _) _) _ _ _); k_dflt (refine setItemU (by k_asm) (by k_asm) (by k_mem) (by first | decide | assumption | omega) (by first | (simp only [refs_len, List.length_cons, List.length_nil]; omega) | omega) (by first | decide | omega) ?_; intro h' news' F' N' K' M'; (try simp only [Int.reduceToNat, List.set_cons_zero, List.set_cons_succ] at M')))
  k_with "call ref" => (k_here; (with_reducible show wpAny _ _ (call (Value.ref 396) _) _ _ _); k_dflt (refine Con.use (by k_asm) (by k_asm) (by k_asm) (by k_asm) (by k_asm) (by first | exact rfl | assumption) (take_con (by k_mem) (by omega) (by omega) (by omega) (by omega) (by omega)) (by ktr_room) (by ktr_units) ?_; rintro _ _ _ _ _ _ ⟨_, _, _, _, _, _, rfl, _, _, _, _, _, _, _⟩; (try dsimp only)))
  k_with "call ref" => (k_here; (with_reducible show wpAny _ _ (call (Value.ref 35) _) _ _ _); k_dflt (refine Con.use (by k_asm) (by k_asm) (by k_asm) (by k_asm) (by k_asm) (by first | exact rfl | assumption) (wrap32_con (by omega) (by omega)) (by ktr_room) (by ktr_units) ?_; rintro _ _ _ _ _ _ ⟨_, rfl, rfl⟩; (try dsimp only)))
  k_with "call ref" => (k_here; (with_reducible show wpAny _ _ (call (Value.ref 28) _) _ _ _); k_dflt (refine Con.use (by k_asm) (by k_asm) (by k_asm) (by k_asm) (by k_asm) (by first | exact rfl | assumption) (muldiv_con (by omega) (by omega) (by omega) (by omega) (by omega) (by omega)) (by ktr_room) (by ktr_units) ?_; rintro _ _ _ _ _ _ ⟨_, rfl, rfl⟩; (try dsimp only)))
  k_with "call ref" => (k_here; (with_reducible show wpAny _ _ (call (Value.ref 333) _) _ _ _); k_dflt (refine Con.use (by k_asm) (by k_asm) (by k_asm) (by k_asm) (by k_asm) (by first | exact rfl | assumption) (held_con (by k_mem) (by omega) (by omega) (by omega) (by omega)) (by ktr_room) (by ktr_units) ?_; rintro _ _ _ _ _ _ ⟨_, rfl, _, _, _, _, _⟩; (try dsimp only)))
  k_with "call ref" => (k_here; (with_reducible show wpAny _ _ (call (Value.ref 354) _) _ _ _); k_dflt (refine Con.use (by k_asm) (by k_asm) (by k_asm) (by k_asm) (by k_asm) (by first | exact rfl | assumption) (count_con (by walk_at "mine zone") (by rfl) (by omega)) (by ktr_room) (by ktr_units) ?_; rintro _ _ _ _ _ _ ⟨_, rfl, rfl⟩; (try dsimp only)))
  k_with "call ref" => (k_here; (with_reducible show wpAny _ _ (call (Value.ref 361) _) _ _ _); k_dflt (refine Con.use (by k_asm) (by k_asm) (by k_asm) (by k_asm) (by k_asm) (by first | exact rfl | assumption) (check_con (by walk_at "mine zone") (by rfl) (by omega) (by omega) (by omega)) (by ktr_room) (by ktr_units) ?_; rintro _ _ _ _ _ _ ⟨rfl, rfl⟩; (try dsimp only)))
  k_with "call ref" => (k_here; (with_reducible show wpAny _ _ (call (Value.ref 368) _) _ _ _); k_dflt (refine Con.use (by k_asm) (by k_asm) (by k_asm) (by k_asm) (by k_asm) (by first | exact rfl | assumption) (put_con (by walk_at "mine zone") (by rfl) (by omega) (by omega) (by omega) (by k_mem) (by omega) (by omega) (by omega) (by omega)) (by ktr_room) (by ktr_units) ?_; rintro _ _ _ _ _ _ ⟨rfl, _, _, _⟩; (try dsimp only)))
  exact trivial
variable {w : World} {mean : ExcName → Option Value} {mg mb : Str → Option Value}
/-- a point's coordinate along an axis -/
def co (axis x y : Int) : Int := if axis = 0 then x else y
theorem co_get {axis x y : Int} {t t' : Tok} (h : axis = 0 ∨ axis = 1) : ∃ t'', ([Value.int x t, Value.int y t'] : List Value)[axis.toNat]? = some (.int (co axis x y) t'') := by
  rcases h with rfl | rfl
  · exact ⟨t, rfl⟩
  · exact ⟨t', rfl⟩
set_option maxHeartbeats 8000000 in
theorem pair_con {Z : ZRep} {news : Led} {i axis : Int} {t ta : Tok} (hz : ZIn news Z) {z : Addr} (ez : z = Z.z) (hn : Z.n ≤ 1000) (i0 : 0 ≤ i) (i1 : i < Z.n) (hx : axis = 0 ∨ axis = 1) :
    Con w mean mg mb 56 [.ref z, .int i t, .int axis ta] 2 news (fun r news' => ∃ c, r = .ref c ∧ Kept [] news news' ∧ PtAt news' c (co axis (Z.ox i.toNat) (Z.oy i.toNat)) (co axis (Z.cx i.toNat) (Z.cy i.toNat))) := by
  subst ez
  obtain ⟨h1, h2, h3, h4, h5, k1, k2, k3, k4, k5, k, hd⟩ := hz.dict
  obtain ⟨kc, hcl⟩ := hz.cl
  obtain ⟨ko, hol⟩ := hz.ol
  have hob := hz.obj
  have hi : i.toNat < Z.n := by omega
  obtain ⟨t1, t2, kk, hop⟩ := hz.op _ hi
  obtain ⟨t3, t4, kk', hcp⟩ := hz.cp _ hi
  obtain ⟨t5, ho⟩ := co_get (x := Z.ox i.toNat) (y := Z.oy i.toNat) (t := t1) (t' := t2) hx
  obtain ⟨t6, hc⟩ := co_get (x := Z.cx i.toNat) (y := Z.cy i.toNat) (t := t3) (t' := t4) hx
  have g1 : (refs Z.n Z.oa)[i.toNat]? = some (.ref (Z.oa i.toNat)) := refs_get hi
  have g2 : (refs Z.n Z.ca)[i.toNat]? = some (.ref (Z.ca i.toNat)) := refs_get hi
  have hx0 : 0 ≤ axis := by omega
  have hx1 : axis < 2 := by omega
  unfold Con
  k_fill
  intro dp un gd cn cs aF ccd cl outer A₀ base h₀ L m s Q E B F X N T hk hd hu hret
  refine wpAny_call ?_
  k_dflt ktr_enter
  k_steps
  exact hret _ _ _ _ (by k_asm) (by k_asm) ⟨_, rfl, Kept.cons, _, _, _, .head _⟩

set_option maxHeartbeats 8000000 in
theorem part_con {Z : ZRep} {news : Led} {i axis v : Int} {t ta tv : Tok} (hz : ZIn news Z) {z : Addr} (ez : z = Z.z) (hn : Z.n ≤ 1000) (i0 : 0 ≤ i) (i1 : i < Z.n) (hx : axis = 0 ∨ axis = 1) (v0 : -2000000000 ≤ v) (v1 : v ≤ 2000000000)
    (x0 : -2000000000 ≤ Z.cx i.toNat) (x1 : Z.cx i.toNat ≤ 2000000000) (y0 : -2000000000 ≤ Z.cy i.toNat) (y1 : Z.cy i.toNat ≤ 2000000000) :
    Con w mean mg mb 49 [.ref z, .int i t, .int axis ta, .int v tv] 8 news (fun r news' => r = .none ∧ ∃ c, Kept [Z.lc] news news' ∧ ZIn news' (Z.setCur i.toNat c (if axis = 0 then v else Z.cx i.toNat) (if axis = 0 then Z.cy i.toNat else v))) := by
  subst ez
  obtain ⟨h1, h2, h3, h4, h5, k1, k2, k3, k4, k5, k, hd⟩ := hz.dict
  obtain ⟨kc, hcl⟩ := hz.cl
  have hob := hz.obj
  have hi : i.toNat < Z.n := by omega
  obtain ⟨t3, t4, kk', hcp⟩ := hz.cp _ hi
  have g2 : (refs Z.n Z.ca)[i.toNat]? = some (.ref (Z.ca i.toNat)) := refs_get hi
  rcases hx with rfl | rfl
  all_goals simp only [if_true, show ((1 : Int) = 0) = False from by decide, if_false]
  · unfold Con
    k_fill
    intro dp un gd cn cs aF ccd cl outer A₀ base h₀ L m s Q E B F X N T hk hd hu hret
    refine wpAny_call ?_
    k_dflt ktr_enter
    k_steps
    rename Kept [Z.lc] _ _ => K2
    exact hret _ _ _ _ (by k_asm) (by k_asm) ⟨rfl, _, fun p hp hn => K2 p (.tail _ hp) hn, by assumption⟩
  · unfold Con
    k_fill
    intro dp un gd cn cs aF ccd cl outer A₀ base h₀ L m s Q E B F X N T hk hd hu hret
    refine wpAny_call ?_
    k_dflt ktr_enter
    k_steps
    rename Kept [Z.lc] _ _ => K2
    exact hret _ _ _ _ (by k_asm) (by k_asm) ⟨rfl, _, fun p hp hn => K2 p (.tail _ hp) hn, by assumption⟩
end
section
theorem words_C6_1 : True := by
  k_with_none
  k_with "room" => ((simp only [depth_under_make, depth_under_kw, depth_in1, depth_deeper, depth_caller]); exact room_ok (by with_reducible assumption) (by decide))
  k_with "units" => ((simp only [units_in1, units_deeper, Around.mark_units, units_caller, units_under_make]); first | exact units_ok (by with_reducible assumption) (by decide) | (have hcL9 := cLine_is; omega))
  k_with "mem" => (first | (with_reducible assumption) | exact List.mem_cons_self | (refine List.mem_cons_of_mem _ ?_; k_mem) | (refine Kept.none (by with_reducible assumption) ?_; k_mem) | (refine Kept.one (by with_reducible assumption) (by k_mem) (by walk_at "mine ne")))
  k_with "mine ne" => ((try dsimp only); first | assumption | (refine Ne.symm ?_; assumption) | exact led_ne' (by with_reducible assumption) (by with_reducible assumption) inst_ne_list (by with_reducible assumption) | exact led_ne' (by with_reducible assumption) (by with_reducible assumption) dict_ne_list (by with_reducible assumption) | exact led_ne' (by with_reducible assumption) (by with_reducible assumption) tup_ne_list (by with_reducible assumption))
  k_with "mine zone" => (first | assumption | exact ZIn.inc (by assumption) (by assumption) | exact ZIn.inc (by assumption) Kept.cons)
  k_with "subscriptTail" => (k_here; (with_reducible show wpAny _ _ (subscriptTail _ _ (Value.ref _) (Value.int _ _)) _ _ _); (first | (refine itemL (by k_asm) (by k_mem) (by first | decide | assumption | omega) (by first | decide | with_reducible assumption | omega) (by first | rfl | assumption) ?_ (by with_unfolding_all rfl)) | (refine itemT (by k_asm) (by k_mem) (by first | decide | assumption | omega) (by first | decide | with_reducible assumption | omega) (by first | rfl | assumption) ?_ (by with_unfolding_all rfl))))
  k_with "binaryOp FloorDiv int int" => (k_here; k_dflt (refine floordiv_int (by omega) ?_ (Or.inl (PyProof.noPylong_small (by omega)))))
  k_with "call builtin:len" => (k_here; (with_reducible show wpAny _ _ (call (Value.builtin _) [Value.ref _]) _ _ _); k_dflt (refine lenL (by k_asm) (by k_mem) (by first | assumption | exact refs_len | rfl) (by first | decide | with_reducible assumption | omega) ?_))
  k_with "setItem ref int" => (k_here; (with_reducible show wpAny _ _ (setItem (Value.ref _) (Value.int _ _) _) _ _ _); k_dflt (refine setItemU (by k_asm) (by k_asm) (by k_mem) (by first | decide | assumption | omega) (by first | (simp only [refs_len, List.length_cons, List.length_nil]; omega) | omega) (by first | decide | omega) ?_; intro h' news' F' N' K' M'; (try simp only [Int.reduceToNat, List.set_cons_zero, List.set_cons_succ] at M')))
  k_with "call ref" => (k_here; (with_reducible show wpAny _ _ (call (Value.ref 396) _) _ _ _); k_dflt (refine Con.use (by k_asm) (by k_asm) (by k_asm) (by k_asm) (by k_asm) (by first | exact rfl | assumption) (take_con (by k_mem) (by omega) (by omega) (by omega) (by omega) (by omega)) (by ktr_room) (by ktr_units) ?_; rintro _ _ _ _ _ _ ⟨_, _, _, _, _, _, rfl, _, _, _, _, _, _, _⟩; (try dsimp only)))
  k_with "call ref" => (k_here; (with_reducible show wpAny _ _ (call (Value.ref 35) _) _ _ _); k_dflt (refine Con.use (by k_asm) (by k_asm) (by k_asm) (by k_asm) (by k_asm) (by first | exact rfl | assumption) (wrap32_con (by omega) (by omega)) (by ktr_room) (by ktr_units) ?_; rintro _ _ _ _ _ _ ⟨_, rfl, rfl⟩; (try dsimp only)))
  k_with "call ref" => (k_here; (with_reducible show wpAny _ _ (call (Value.ref 28) _) _ _ _); k_dflt (refine Con.use (by k_asm) (by k_asm) (by k_asm) (by k_asm) (by k_asm) (by first | exact rfl | assumption) (muldiv_con (by omega) (by omega) (by omega) (by omega) (by omega) (by omega)) (by ktr_room) (by ktr_units) ?_; rintro _ _ _ _ _ _ ⟨_, rfl, rfl⟩; (try dsimp only)))
  k_with "call ref" => (k_here; (with_reducible show wpAny _ _ (call (Value.ref 333) _) _ _ _); k_dflt (refine Con.use (by k_asm) (by k_asm) (by k_asm) (by k_asm) (by k_asm) (by first | exact rfl | assumption) (held_con (by k_mem) (by omega) (by omega) (by omega) (by omega)) (by ktr_room) (by ktr_units) ?_; rintro _ _ _ _ _ _ ⟨_, rfl, _, _, _, _, _⟩; (try dsimp only)))
  k_with "call ref" => (k_here; (with_reducible show wpAny _ _ (call (Value.ref 354) _) _ _ _); k_dflt (refine Con.use (by k_asm) (by k_asm) (by k_asm) (by k_asm) (by k_asm) (by first | exact rfl | assumption) (count_con (by walk_at "mine zone") (by rfl) (by omega)) (by ktr_room) (by ktr_units) ?_; rintro _ _ _ _ _ _ ⟨_, rfl, rfl⟩; (try dsimp only)))
  k_with "call ref" => (k_here; (with_reducible show wpAny _ _ (call (Value.ref 361) _) _ _ _); k_dflt (refine Con.use (by k_asm) (by k_asm) (by k_asm) (by k_asm) (by k_asm) (by first | exact rfl | assumption) (check_con (by walk_at "mine zone") (by rfl) (by omega) (by omega) (by omega)) (by ktr_room) (by ktr_units) ?_; rintro _ _ _ _ _ _ ⟨rfl, rfl⟩; (try dsimp only)))
  k_with "call ref" => (k_here; (with_reducible show wpAny _ _ (call (Value.ref 368) _) _ _ _); k_dflt (refine Con.use (by k_asm) (by k_asm) (by k_asm) (by k_asm) (by k_asm) (by first | exact rfl | assumption) (put_con (by walk_at "mine zone") (by rfl) (by omega) (by omega) (by omega) (by k_mem) (by omega) (by omega) (by omega) (by omega)) (by ktr_room) (by ktr_units) ?_; rintro _ _ _ _ _ _ ⟨rfl, _, _, _⟩; (try dsimp only)))
  k_with "call ref" => (k_here; (with_reducible show wpAny _ _ (call (Value.ref 42) _) _ _ _); k_dflt (refine Con.use (by k_asm) (by k_asm) (by k_asm) (by k_asm) (by k_asm) (by first | exact rfl | assumption) (drawn_con (by k_mem) (by k_mem) (by omega) (by omega) (by omega) (by omega) (by omega) (by omega) (by omega) (by omega) (by omega) (by omega)) (by ktr_room) (by ktr_units) ?_; rintro _ _ _ _ _ _ ⟨_, rfl, rfl⟩; (try dsimp only)))
  k_with "call ref" => (k_here; (with_reducible show wpAny _ _ (call (Value.ref 56) _) _ _ _); k_dflt (refine Con.use (by k_asm) (by k_asm) (by k_asm) (by k_asm) (by k_asm) (by first | exact rfl | assumption) (pair_con (by walk_at "mine zone") (by rfl) (by omega) (by omega) (by omega) (by assumption)) (by ktr_room) (by ktr_units) ?_; rintro _ _ _ _ _ _ ⟨_, rfl, _, _, _, _, _⟩; (try dsimp only)))
  k_with "call ref" => (k_here; (with_reducible show wpAny _ _ (call (Value.ref 49) _) _ _ _); k_dflt (refine Con.use (by k_asm) (by k_asm) (by k_asm) (by k_asm) (by k_asm) (by first | exact rfl | assumption) (part_con (by walk_at "mine zone") (by rfl) (by omega) (by omega) (by omega) (by assumption) (by omega) (by omega) (by omega) (by omega) (by omega) (by omega)) (by ktr_room) (by ktr_units) ?_; rintro _ _ _ _ _ _ ⟨rfl, _, _, _⟩; (try dsimp only)))
  exact trivial
variable {w : World} {mean : ExcName → Option Value} {mg mb : Str → Option Value}
/-- where an old place goes, between two touched ones -/
def between (Z : ZRep) (axis : Int) (one other : Nat) (o : Int) : Int :=
  if co axis (Z.ox one) (Z.oy one) > co axis (Z.ox other) (Z.oy other) then
    dplace o (co axis (Z.ox other) (Z.oy other)) (co axis (Z.cx other) (Z.cy other)) (co axis (Z.ox one) (Z.oy one)) (co axis (Z.cx one) (Z.cy one))
  else dplace o (co axis (Z.ox one) (Z.oy one)) (co axis (Z.cx one) (Z.cy one)) (co axis (Z.ox other) (Z.oy other)) (co axis (Z.cx other) (Z.cy other))
theorem between_gt {Z : ZRep} {axis o : Int} {one other : Nat} (h : co axis (Z.ox other) (Z.oy other) < co axis (Z.ox one) (Z.oy one)) :
    dplace o (co axis (Z.ox other) (Z.oy other)) (co axis (Z.cx other) (Z.cy other)) (co axis (Z.ox one) (Z.oy one)) (co axis (Z.cx one) (Z.cy one)) = between Z axis one other o := by
  unfold between; rw [if_pos h]
theorem between_le {Z : ZRep} {axis o : Int} {one other : Nat} (h : ¬ co axis (Z.ox other) (Z.oy other) < co axis (Z.ox one) (Z.oy one)) :
    dplace o (co axis (Z.ox one) (Z.oy one)) (co axis (Z.cx one) (Z.cy one)) (co axis (Z.ox other) (Z.oy other)) (co axis (Z.cx other) (Z.cy other)) = between Z axis one other o := by
  unfold between; rw [if_neg h]
theorem co_small {axis x y k : Int} (hx : axis = 0 ∨ axis = 1) (a : -k ≤ x) (b : x ≤ k) (c : -k ≤ y) (d : y ≤ k) : -k ≤ co axis x y ∧ co axis x y ≤ k := by
  rcases hx with rfl | rfl <;> simp [co] <;> omega
def OSmall (Z : ZRep) : Prop := ∀ i, i < Z.n → -1000 ≤ Z.ox i ∧ Z.ox i ≤ 1000 ∧ -1000 ≤ Z.oy i ∧ Z.oy i ≤ 1000
def CSmall (Z : ZRep) (k : Int) (i : Nat) : Prop := -k ≤ Z.cx i ∧ Z.cx i ≤ k ∧ -k ≤ Z.cy i ∧ Z.cy i ≤ k
/-- Z' is Z but for the places now -/
abbrev ZRep.mv (Z : ZRep) (ca : Nat → Addr) (cx cy : Nat → Int) : ZRep := { Z with ca := ca, cx := cx, cy := cy }
def Moved (Z Z' : ZRep) : Prop := ∃ ca cx cy, Z' = Z.mv ca cx cy
theorem Moved.refl {Z} : Moved Z Z := ⟨Z.ca, Z.cx, Z.cy, rfl⟩
theorem Moved.setCur {Z Z' : ZRep} {i c x y} (h : Moved Z Z') : Moved Z (Z'.setCur i c x y) := by
  obtain ⟨ca, cx, cy, rfl⟩ := h
  exact ⟨_, _, _, rfl⟩
/-- the points of S stand at D along the axis, all else stands as it stood -/
def Drawn (Z Z' : ZRep) (axis : Int) (S : Nat → Prop) (D : Nat → Int) : Prop := ∀ j, j < Z.n →
  (S j → co axis (Z'.cx j) (Z'.cy j) = D j ∧ co (1 - axis) (Z'.cx j) (Z'.cy j) = co (1 - axis) (Z.cx j) (Z.cy j)) ∧ (¬ S j → Z'.cx j = Z.cx j ∧ Z'.cy j = Z.cy j)

theorem co_other {axis x y v : Int} (hx : axis = 0 ∨ axis = 1) : co axis (if axis = 0 then v else x) (if axis = 0 then y else v) = v ∧ co (1 - axis) (if axis = 0 then v else x) (if axis = 0 then y else v) = co (1 - axis) x y := by
  rcases hx with rfl | rfl <;> simp [co]
theorem Drawn.step {Z Z' : ZRep} {axis : Int} {S S' : Nat → Prop} {D : Nat → Int} {i : Nat} {c : Addr} (hx : axis = 0 ∨ axis = 1) (h : Drawn Z Z' axis S D) (hS : ∀ j, S' j ↔ S j ∨ j = i) :
    Drawn Z (Z'.setCur i c (if axis = 0 then D i else Z'.cx i) (if axis = 0 then Z'.cy i else D i)) axis S' D := by
  intro j hj
  have hj' := h j hj
  by_cases e : j = i
  · subst e
    have k := co_other (x := Z'.cx j) (y := Z'.cy j) (v := D j) hx
    refine ⟨fun _ => ?_, fun hn => absurd ((hS j).mpr (.inr rfl)) hn⟩
    simp only [ZRep.setCur, fup_self]
    refine ⟨k.1, k.2.trans ?_⟩
    by_cases hs : S j
    · exact (hj'.1 hs).2
    · rw [(hj'.2 hs).1, (hj'.2 hs).2]
  · simp only [ZRep.setCur, fup_ne e]
    exact ⟨fun hs => hj'.1 (((hS j).mp hs).resolve_right e), fun hn => hj'.2 fun hs => hn ((hS j).mpr (.inl hs))⟩
theorem Drawn.nil {Z : ZRep} {axis : Int} {D : Nat → Int} {S : Nat → Prop} (h : ∀ j, ¬ S j) : Drawn Z Z axis S D := fun j _ => ⟨fun hs => absurd hs (h j), fun _ => ⟨rfl, rfl⟩⟩
theorem Drawn.congr {Z Z' : ZRep} {axis : Int} {S S' : Nat → Prop} {D : Nat → Int} (h : Drawn Z Z' axis S D) (e : ∀ j, S j ↔ S' j) : Drawn Z Z' axis S' D := fun j hj => ⟨fun hs => (h j hj).1 ((e j).mpr hs), fun hn => (h j hj).2 fun hs => hn ((e j).mp hs)⟩

theorem CSmall.setCur {Z : ZRep} {k : Int} {i n : Nat} {c : Addr} {x y : Int} (h : ∀ j, j < n → CSmall Z k j) (hx : -k ≤ x ∧ x ≤ k) (hy : -k ≤ y ∧ y ≤ k) : ∀ j, j < n → CSmall (Z.setCur i c x y) k j := by
  intro j hj
  unfold CSmall ZRep.setCur
  by_cases e : j = i
  · subst e; simp only [fup_self]; exact ⟨hx.1, hx.2, hy.1, hy.2⟩
  · simp only [fup_ne e]; exact h j hj
theorem ite_bnd {c : Prop} [Decidable c] {k x y : Int} (hx : -k ≤ x ∧ x ≤ k) (hy : -k ≤ y ∧ y ≤ k) : -k ≤ (if c then x else y) ∧ (if c then x else y) ≤ k := by
  split
  · exact hx
  · exact hy
theorem mdv_bnd {a b c : Int} (a0 : -2000 ≤ a) (a1 : a ≤ 2000) (b0 : -2000 ≤ b) (b1 : b ≤ 2000) (c0 : 0 < c) (c1 : c ≤ 2000) : -9000000 ≤ mdv a b c ∧ mdv a b c ≤ 9000000 := by
  have h := mul_bnd a0 a1 b0 b1
  have key : ∀ x : Int, 0 ≤ x → x ≤ 8002000 → 0 ≤ x.fdiv (2 * c) ∧ x.fdiv (2 * c) ≤ 8002000 := fun x h0 h1 => by
    refine ⟨Int.fdiv_nonneg h0 (by omega), ?_⟩
    rw [Int.fdiv_eq_ediv_of_nonneg _ (by omega)]
    exact Int.le_trans (Int.ediv_le_self _ h0) h1
  unfold mdv
  split
  · have := key (0 - 2 * (a * b) + c) (by omega) (by omega); omega
  · have := key (2 * (a * b) + c) (by omega) (by omega); omega
theorem dplace_bnd {o f0 f1 l0 l1 : Int} (o0 : -1000 ≤ o) (o1 : o ≤ 1000) (f00 : -1000 ≤ f0) (f01 : f0 ≤ 1000) (f10 : -1000 ≤ f1) (f11 : f1 ≤ 1000) (l00 : -1000 ≤ l0) (l01 : l0 ≤ 1000) (l10 : -1000 ≤ l1) (l11 : l1 ≤ 1000) :
    -10000000 ≤ dplace o f0 f1 l0 l1 ∧ dplace o f0 f1 l0 l1 ≤ 10000000 := by
  unfold dplace
  split
  · omega
  · split
    · omega
    · have := mdv_bnd (a := o - f0) (b := l1 - f1) (c := l0 - f0) (by omega) (by omega) (by omega) (by omega) (by omega) (by omega)
      omega

set_option maxHeartbeats 8000000 in
theorem betw_con {Z : ZRep} {news : Led} {axis one other : Int} {ta t1 t2 : Tok} {ln : Addr} {vs : List Value} {ns : List Int} {kn : Nat} (hz : ZIn news Z) {z : Addr} (ez : z = Z.z) (hn : Z.n ≤ 1000) (hO : OSmall Z) (hx : axis = 0 ∨ axis = 1)
    (o0 : 0 ≤ one) (o1 : one < Z.n) (p0 : 0 ≤ other) (p1 : other < Z.n) (q1 : CSmall Z 1000 one.toNat) (q2 : CSmall Z 1000 other.toNat) (hB : ∀ j, j < Z.n → CSmall Z 10000000 j)
    (hl : (ln, W.listOf vs.toArray kn) ∈ news) (hi : IntsAre vs ns) (hb : ∀ j ∈ ns, 0 ≤ j ∧ j < Z.n) (hdist : ln ≠ Z.lc) :
    Con w mean mg mb 63 [.ref z, .int axis ta, .ref ln, .int one t1, .int other t2] 10 news (fun r news' => r = .none ∧ Kept [Z.lc] news news' ∧
      ∃ Z', Moved Z Z' ∧ ZIn news' Z' ∧ (∀ j, j < Z.n → CSmall Z' 10000000 j) ∧ Drawn Z Z' axis (fun j => (j : Int) ∈ ns) (fun j => between Z axis one.toNat other.toNat (co axis (Z.ox j) (Z.oy j)))) := by
  subst ez
  have u1 := hO one.toNat (by omega)
  have u2 := hO other.toNat (by omega)
  have c1 := co_small hx u1.1 u1.2.1 u1.2.2.1 u1.2.2.2
  have c2 := co_small hx u2.1 u2.2.1 u2.2.2.1 u2.2.2.2
  have c3 := co_small hx q1.1 q1.2.1 q1.2.2.1 q1.2.2.2
  have c4 := co_small hx q2.1 q2.2.1 q2.2.2.1 q2.2.2.2
  unfold Con
  k_fill
  intro dp un gd cn cs aF ccd cl outer A₀ base h₀ L m s Q E B F X N T hk hd hu hret
  refine wpAny_call ?_
  k_dflt ktr_enter
  k_steps
  all_goals generalize hnl : (_ :: _ : Led) = newsL at *
  all_goals rename (_, tupOf #[Value.int (co axis (Z.ox one.toNat) _) _, _] _) ∈ _ => M1
  all_goals rename (_, tupOf #[Value.int (co axis (Z.ox other.toNat) _) _, _] _) ∈ _ => M2
  all_goals rename Kept [] news _ => K1
  all_goals rename Kept [] _ _ => K2
  all_goals rename News _ _ _ newsL => NL
  all_goals first | (have K3 := kept_t2 hnl) | (have K3 := kept_t1 hnl)
  all_goals have hKL := (K1.then K2).then K3
  all_goals have hM1 := (K2.then K3).none M1
  all_goals have hM2 := K3.none M2
  all_goals clear hnl M1 M2 K1 K2 K3
  all_goals rename IntsAre _ _ => hi
  all_goals have hzL := hz.inc hKL
  all_goals have hlL := hKL.none hl
  all_goals obtain ⟨kL, hclL⟩ := hzL.cl
  all_goals have n1 := led_ne' hM1 hclL tup_ne_list NL
  all_goals have n2 := led_ne' hM2 hclL tup_ne_list NL
  all_goals refine iter_listS [] (fun i nx => Kept [Z.lc] newsL nx ∧ ∃ Z', Moved Z Z' ∧ ZIn nx Z' ∧ (∀ j, j < Z.n → CSmall Z' 10000000 j) ∧ Drawn Z Z' axis (fun j => (j : Int) ∈ ns.take i) (fun j => between Z axis one.toNat other.toNat (co axis (Z.ox j) (Z.oy j)))) rfl hlL (by k_asm) NL ?_ ⟨Kept.refl, Z, .refl, hzL, hB, Drawn.nil (by simp)⟩ ?_ ?_
  all_goals try (rintro i nx nx' h ⟨hk, Z', hm, hz', hb', hd'⟩; exact ⟨hk.quiet h, Z', hm, hz'.quiet (fun p hp hq => h p hp (.inl hq)), hb', hd'⟩)
  · rintro i v u nx h tk I io hi' hv hio hI hl' ⟨hk, Z', ⟨ca, cx, cy, rfl⟩, hz', hb', hd'⟩ F1 N1
    have hil : i < ns.length := by rw [← hi.length]; exact hi'
    obtain ⟨t9, hx'⟩ := hi.get i ns[i] (by simp [hil])
    have hmem : ns[i] ∈ ns := List.getElem_mem hil
    have htk : ns.take (i + 1) = ns.take i ++ [ns[i]] := by rw [List.take_add_one, List.getElem?_eq_getElem hil]; rfl
    generalize ns[i] = x0 at hx' hmem htk
    rw [hx'] at hv
    cases hv
    obtain ⟨b0, b1⟩ := hb x0 hmem
    have hx0n : x0.toNat < Z.n := by omega
    obtain ⟨h1, h2, h3, h4, h5, k1, k2, k3, k4, k5, k, hdd⟩ := hz'.dict
    obtain ⟨kc, hcl⟩ := hz'.cl
    obtain ⟨ko, hol⟩ := hz'.ol
    have hob := hz'.obj
    obtain ⟨t11, t12, kk, hop⟩ := hz'.op _ hx0n
    obtain ⟨t13, ho⟩ := co_get (x := Z.ox x0.toNat) (y := Z.oy x0.toNat) (t := t11) (t' := t12) hx
    have g1 : (refs Z.n Z.oa)[x0.toNat]? = some (.ref (Z.oa x0.toNat)) := refs_get hx0n
    have m1 := hk.one hM1 n1
    have m2 := hk.one hM2 n2
    have u3 := hO x0.toNat hx0n
    have c5 := co_small hx u3.1 u3.2.1 u3.2.2.1 u3.2.2.2
    obtain ⟨b31, b32, b33, b34⟩ := hb' x0.toNat hx0n
    have hb1' : x0 < ((Z.mv ca cx cy).n : Int) := b1
    have hn' : (Z.mv ca cx cy).n ≤ 1000 := hn
    have hbn := dplace_bnd (o := co axis (Z.ox x0.toNat) (Z.oy x0.toNat)) c5.1 c5.2 c2.1 c2.2 c4.1 c4.2 c1.1 c1.2 c3.1 c3.2
    have hx0' : 0 ≤ axis := by omega
    have hx1' : axis < 2 := by omega
    clear hzL hM1 hM2 hclL
    dsimp only [ZRep.mv] at hob hdd hcl hol hop
    k_steps
    rename Kept [(Z.mv ca cx cy).lc] _ _ => K9
    rename ZIn _ (ZRep.setCur _ _ _ _ _) => Z9
    have e1 := between_gt (Z := Z) (axis := axis) (one := one.toNat) (other := other.toNat) (o := co axis (Z.ox x0.toNat) (Z.oy x0.toNat)) (by assumption)
    rw [e1] at Z9 hbn
    refine TP.next (by k_asm) (by k_asm) (keep2 (K9.one hI (led_ne' hI hcl (itc_ne_list hio) N1)) (K9.one hl' hdist)) ⟨⟨fun p hp hn => K9 p (hk p hp hn) hn, _, Moved.setCur ⟨_, _, _, rfl⟩, Z9, CSmall.setCur hb' (ite_bnd hbn ⟨b31, b32⟩) (ite_bnd ⟨b33, b34⟩ hbn), Drawn.step hx hd' fun j => ?_⟩, same_stm⟩
    rw [htk]
    simp only [List.mem_append, List.mem_singleton]
    rw [show ((j : Int) = x0) ↔ j = x0.toNat by omega]
  · rintro u nx h tk ⟨hk, Z', hm, hz', hb', hd'⟩ hl' F1 N1
    k_steps
    exact hret _ _ _ _ (by k_asm) (by k_asm) ⟨rfl, fun p hp hn => hk p (hKL.none hp) hn, Z', hm, hz', hb', hd'.congr fun j => by rw [List.take_of_length_le (Nat.le_of_eq hi.length.symm)]⟩
  · rintro i v u nx h tk I io hi' hv hio hI hl' ⟨hk, Z', ⟨ca, cx, cy, rfl⟩, hz', hb', hd'⟩ F1 N1
    have hil : i < ns.length := by rw [← hi.length]; exact hi'
    obtain ⟨t9, hx'⟩ := hi.get i ns[i] (by simp [hil])
    have hmem : ns[i] ∈ ns := List.getElem_mem hil
    have htk : ns.take (i + 1) = ns.take i ++ [ns[i]] := by rw [List.take_add_one, List.getElem?_eq_getElem hil]; rfl
    generalize ns[i] = x0 at hx' hmem htk
    rw [hx'] at hv
    cases hv
    obtain ⟨b0, b1⟩ := hb x0 hmem
    have hx0n : x0.toNat < Z.n := by omega
    obtain ⟨h1, h2, h3, h4, h5, k1, k2, k3, k4, k5, k, hdd⟩ := hz'.dict
    obtain ⟨kc, hcl⟩ := hz'.cl
    obtain ⟨ko, hol⟩ := hz'.ol
    have hob := hz'.obj
    obtain ⟨t11, t12, kk, hop⟩ := hz'.op _ hx0n
    obtain ⟨t13, ho⟩ := co_get (x := Z.ox x0.toNat) (y := Z.oy x0.toNat) (t := t11) (t' := t12) hx
    have g1 : (refs Z.n Z.oa)[x0.toNat]? = some (.ref (Z.oa x0.toNat)) := refs_get hx0n
    have m1 := hk.one hM1 n1
    have m2 := hk.one hM2 n2
    have u3 := hO x0.toNat hx0n
    have c5 := co_small hx u3.1 u3.2.1 u3.2.2.1 u3.2.2.2
    obtain ⟨b31, b32, b33, b34⟩ := hb' x0.toNat hx0n
    have hb1' : x0 < ((Z.mv ca cx cy).n : Int) := b1
    have hn' : (Z.mv ca cx cy).n ≤ 1000 := hn
    have hbn := dplace_bnd (o := co axis (Z.ox x0.toNat) (Z.oy x0.toNat)) c5.1 c5.2 c1.1 c1.2 c3.1 c3.2 c2.1 c2.2 c4.1 c4.2
    have hx0' : 0 ≤ axis := by omega
    have hx1' : axis < 2 := by omega
    clear hzL hM1 hM2 hclL
    dsimp only [ZRep.mv] at hob hdd hcl hol hop
    k_steps
    rename Kept [(Z.mv ca cx cy).lc] _ _ => K9
    rename ZIn _ (ZRep.setCur _ _ _ _ _) => Z9
    have e1 := between_le (Z := Z) (axis := axis) (one := one.toNat) (other := other.toNat) (o := co axis (Z.ox x0.toNat) (Z.oy x0.toNat)) (by assumption)
    rw [e1] at Z9 hbn
    refine TP.next (by k_asm) (by k_asm) (keep2 (K9.one hI (led_ne' hI hcl (itc_ne_list hio) N1)) (K9.one hl' hdist)) ⟨⟨fun p hp hn => K9 p (hk p hp hn) hn, _, Moved.setCur ⟨_, _, _, rfl⟩, Z9, CSmall.setCur hb' (ite_bnd hbn ⟨b31, b32⟩) (ite_bnd ⟨b33, b34⟩ hbn), Drawn.step hx hd' fun j => ?_⟩, same_stm⟩
    rw [htk]
    simp only [List.mem_append, List.mem_singleton]
    rw [show ((j : Int) = x0) ↔ j = x0.toNat by omega]
  · rintro u nx h tk ⟨hk, Z', hm, hz', hb', hd'⟩ hl' F1 N1
    k_steps
    exact hret _ _ _ _ (by k_asm) (by k_asm) ⟨rfl, fun p hp hn => hk p (hKL.none hp) hn, Z', hm, hz', hb', hd'.congr fun j => by rw [List.take_of_length_le (Nat.le_of_eq hi.length.symm)]⟩
end
section
theorem words_C8_1 : True := by
  k_with_none
  k_with "room" => ((simp only [depth_under_make, depth_under_kw, depth_in1, depth_deeper, depth_caller]); exact room_ok (by with_reducible assumption) (by decide))
  k_with "units" => ((simp only [units_in1, units_deeper, Around.mark_units, units_caller, units_under_make]); first | exact units_ok (by with_reducible assumption) (by decide) | (have hcL9 := cLine_is; omega))
  k_with "mem" => (first | (with_reducible assumption) | exact List.mem_cons_self | (refine List.mem_cons_of_mem _ ?_; k_mem) | (refine Kept.none (by with_reducible assumption) ?_; k_mem) | (refine Kept.one (by with_reducible assumption) (by k_mem) (by walk_at "mine ne")))
  k_with "mine ne" => ((try dsimp only); first | assumption | (refine Ne.symm ?_; assumption) | exact led_ne' (by with_reducible assumption) (by with_reducible assumption) inst_ne_list (by with_reducible assumption) | exact led_ne' (by with_reducible assumption) (by with_reducible assumption) dict_ne_list (by with_reducible assumption) | exact led_ne' (by with_reducible assumption) (by with_reducible assumption) tup_ne_list (by with_reducible assumption))
  k_with "mine zone" => (first | assumption | exact ZIn.inc (by assumption) (by assumption) | exact ZIn.inc (by assumption) Kept.cons)
  k_with "subscriptTail" => (k_here; (with_reducible show wpAny _ _ (subscriptTail _ _ (Value.ref _) (Value.int _ _)) _ _ _); (first | (refine itemL (by k_asm) (by k_mem) (by first | decide | assumption | omega) (by first | decide | with_reducible assumption | omega) (by first | rfl | assumption) ?_ (by with_unfolding_all rfl)) | (refine itemT (by k_asm) (by k_mem) (by first | decide | assumption | omega) (by first | decide | with_reducible assumption | omega) (by first | rfl | assumption) ?_ (by with_unfolding_all rfl))))
  k_with "binaryOp FloorDiv int int" => (k_here; k_dflt (refine floordiv_int (by omega) ?_ (Or.inl (PyProof.noPylong_small (by omega)))))
  k_with "call builtin:len" => (k_here; (with_reducible show wpAny _ _ (call (Value.builtin _) [Value.ref _]) _ _ _); k_dflt (refine lenL (by k_asm) (by k_mem) (by first | assumption | exact refs_len | rfl) (by first | decide | with_reducible assumption | omega) ?_))
  k_with "setItem ref int" => (k_here; (with_reducible show wpAny _ _ (setItem (Value.ref _) (Value.int _ _) _) _ _ _); k_dflt (refine setItemU (by k_asm) (by k_asm) (by k_mem) (by first | decide | assumption | omega) (by first | (simp only [refs_len, List.length_cons, List.length_nil]; omega) | omega) (by first | decide | omega) ?_; intro h' news' F' N' K' M'; (try simp only [Int.reduceToNat, List.set_cons_zero, List.set_cons_succ] at M')))
  k_with "call ref" => (k_here; (with_reducible show wpAny _ _ (call (Value.ref 396) _) _ _ _); k_dflt (refine Con.use (by k_asm) (by k_asm) (by k_asm) (by k_asm) (by k_asm) (by first | exact rfl | assumption) (take_con (by k_mem) (by omega) (by omega) (by omega) (by omega) (by omega)) (by ktr_room) (by ktr_units) ?_; rintro _ _ _ _ _ _ ⟨_, _, _, _, _, _, rfl, _, _, _, _, _, _, _⟩; (try dsimp only)))
  k_with "call ref" => (k_here; (with_reducible show wpAny _ _ (call (Value.ref 35) _) _ _ _); k_dflt (refine Con.use (by k_asm) (by k_asm) (by k_asm) (by k_asm) (by k_asm) (by first | exact rfl | assumption) (wrap32_con (by omega) (by omega)) (by ktr_room) (by ktr_units) ?_; rintro _ _ _ _ _ _ ⟨_, rfl, rfl⟩; (try dsimp only)))
  k_with "call ref" => (k_here; (with_reducible show wpAny _ _ (call (Value.ref 28) _) _ _ _); k_dflt (refine Con.use (by k_asm) (by k_asm) (by k_asm) (by k_asm) (by k_asm) (by first | exact rfl | assumption) (muldiv_con (by omega) (by omega) (by omega) (by omega) (by omega) (by omega)) (by ktr_room) (by ktr_units) ?_; rintro _ _ _ _ _ _ ⟨_, rfl, rfl⟩; (try dsimp only)))
  k_with "call ref" => (k_here; (with_reducible show wpAny _ _ (call (Value.ref 333) _) _ _ _); k_dflt (refine Con.use (by k_asm) (by k_asm) (by k_asm) (by k_asm) (by k_asm) (by first | exact rfl | assumption) (held_con (by k_mem) (by omega) (by omega) (by omega) (by omega)) (by ktr_room) (by ktr_units) ?_; rintro _ _ _ _ _ _ ⟨_, rfl, _, _, _, _, _⟩; (try dsimp only)))
  k_with "call ref" => (k_here; (with_reducible show wpAny _ _ (call (Value.ref 354) _) _ _ _); k_dflt (refine Con.use (by k_asm) (by k_asm) (by k_asm) (by k_asm) (by k_asm) (by first | exact rfl | assumption) (count_con (by walk_at "mine zone") (by rfl) (by omega)) (by ktr_room) (by ktr_units) ?_; rintro _ _ _ _ _ _ ⟨_, rfl, rfl⟩; (try dsimp only)))
  k_with "call ref" => (k_here; (with_reducible show wpAny _ _ (call (Value.ref 361) _) _ _ _); k_dflt (refine Con.use (by k_asm) (by k_asm) (by k_asm) (by k_asm) (by k_asm) (by first | exact rfl | assumption) (check_con (by walk_at "mine zone") (by rfl) (by omega) (by omega) (by omega)) (by ktr_room) (by ktr_units) ?_; rintro _ _ _ _ _ _ ⟨rfl, rfl⟩; (try dsimp only)))
  k_with "call ref" => (k_here; (with_reducible show wpAny _ _ (call (Value.ref 368) _) _ _ _); k_dflt (refine Con.use (by k_asm) (by k_asm) (by k_asm) (by k_asm) (by k_asm) (by first | exact rfl | assumption) (put_con (by walk_at "mine zone") (by rfl) (by omega) (by omega) (by omega) (by k_mem) (by omega) (by omega) (by omega) (by omega)) (by ktr_room) (by ktr_units) ?_; rintro _ _ _ _ _ _ ⟨rfl, _, _, _⟩; (try dsimp only)))
  exact trivial
local macro_rules | `(tactic| k_get) => `(tactic| assumption)
variable {w : World} {mean : ExcName → Option Value} {mg mb : Str → Option Value}
/-- a state: what its freedom vector is -/
def StIn (news : Led) (st : Addr) (f0 f1 : Int) : Prop := ∃ dst es k fr kf t0 t1, (st, instObj 208 dst) ∈ news ∧ (dst, dictOf es k) ∈ news ∧ getL (Str.ofString "freedom") es = some (some (.ref fr)) ∧ (fr, tupOf #[.int f0 t0, .int f1 t1] kf) ∈ news
theorem StIn.kept {h₀ h : Heap} {L : Addr} {news news' : Led} {st : Addr} {f0 f1 : Int} (hs : StIn news st f0 f1) (N : News h₀ L h news) {d : Addr} {vs : Array Value} {k : Nat} (hd : (d, W.listOf vs k) ∈ news) (K : Kept [d] news news') : StIn news' st f0 f1 := by
  obtain ⟨dst, es, k, fr, kf, t0, t1, a, b, c, d⟩ := hs
  exact ⟨dst, es, k, fr, kf, t0, t1, K.one a (led_ne N a hd inst_ne_list), K.one b (led_ne N b hd dict_ne_list), c, K.one d (led_ne N d hd tup_ne_list)⟩
theorem StIn.inc {news news' : Led} {st : Addr} {f0 f1 : Int} (hs : StIn news st f0 f1) (K : Kept [] news news') : StIn news' st f0 f1 := by
  obtain ⟨dst, es, k, fr, kf, t0, t1, a, b, c, d⟩ := hs
  exact ⟨dst, es, k, fr, kf, t0, t1, K.none a, K.none b, c, K.none d⟩
theorem StIn.quiet {news news' : Led} {st : Addr} {f0 f1 : Int} (hs : StIn news st f0 f1) (K : ∀ p ∈ news, ¬ Itc p.2 → p ∈ news') : StIn news' st f0 f1 := by
  obtain ⟨dst, es, k, fr, kf, t0, t1, a, b, c, d⟩ := hs
  exact ⟨dst, es, k, fr, kf, t0, t1, K _ a itc_inst, K _ b itc_dict, c, K _ d itc_tup⟩
/-- one coordinate is free -/
def Free (f0 f1 : Int) : Prop := (f0 = 16384 ∧ f1 = 0) ∨ (f0 = 0 ∧ f1 = 16384)
def ZRep.touchM (Z : ZRep) (f0 : Int) (i : Nat) : ZRep := { Z with b0 := if f0 = 0 then Z.b0 else fup Z.b0 i true, b1 := if f0 = 0 then fup Z.b1 i true else Z.b1 }
def ZRep.shiftM (Z : ZRep) (f0 : Int) (i : Nat) (c : Addr) (s0 s1 : Int) : ZRep := Z.setCur i c (if f0 = 0 then Z.cx i else Z.cx i + s0) (if f0 = 0 then Z.cy i + s1 else Z.cy i)

set_option maxHeartbeats 8000000 in
theorem touch_con {Z : ZRep} {news : Led} {st : Addr} {f0 f1 i : Int} {t : Tok} (hz : ZIn news Z) {z : Addr} (ez : z = Z.z) (hst : StIn news st f0 f1) (hf : Free f0 f1) (i0 : 0 ≤ i) (i1 : i < Z.n) (hn : Z.n ≤ 1000) :
    Con w mean mg mb 75 [.ref st, .ref z, .int i t] 2 news (fun r news' => r = .none ∧ Kept [Z.ta i.toNat] news news' ∧ ZIn news' (Z.touchM f0 i.toNat)) := by
  subst ez
  obtain ⟨h1, h2, h3, h4, h5, k1, k2, k3, k4, k5, k, hdd⟩ := hz.dict
  obtain ⟨kt, htl⟩ := hz.tl
  have hob := hz.obj
  have hin : i.toNat < Z.n := by omega
  obtain ⟨kb, hb⟩ := hz.tp _ hin
  have g1 : (refs Z.n Z.ta)[i.toNat]? = some (.ref (Z.ta i.toNat)) := refs_get hin
  obtain ⟨dst, es, ks, fr, kf, t0, t1, s1, s2, s3, s4⟩ := hst
  rcases hf with ⟨rfl, rfl⟩ | ⟨rfl, rfl⟩
  · unfold Con
    k_fill
    intro dp un gd cn cs aF ccd cl outer A₀ base h₀ L m s Q E B F X N T hk hd hu hret
    refine wpAny_call ?_
    k_dflt ktr_enter
    k_steps
    rename Kept [Z.ta i.toNat] _ _ => K2
    exact hret _ _ _ _ (by k_asm) (by k_asm) ⟨rfl, K2, ZIn.setB (b0 := fup Z.b0 i.toNat true) (b1 := Z.b1) hz (by assumption) hin K2 ⟨_, by rw [fup_self]; assumption⟩ (fun j hj => fup_ne hj) (fun _ _ => rfl)⟩
  · unfold Con
    k_fill
    intro dp un gd cn cs aF ccd cl outer A₀ base h₀ L m s Q E B F X N T hk hd hu hret
    refine wpAny_call ?_
    k_dflt ktr_enter
    k_steps
    rename Kept [Z.ta i.toNat] _ _ => K2
    exact hret _ _ _ _ (by k_asm) (by k_asm) ⟨rfl, K2, ZIn.setB (b0 := Z.b0) (b1 := fup Z.b1 i.toNat true) hz (by assumption) hin K2 ⟨_, by rw [fup_self]; assumption⟩ (fun _ _ => rfl) (fun j hj => fup_ne hj)⟩
end
section
theorem words_C9_1 : True := by
  k_with_none
  k_with "room" => ((simp only [depth_under_make, depth_under_kw, depth_in1, depth_deeper, depth_caller]); exact room_ok (by with_reducible assumption) (by decide))
  k_with "units" => ((simp only [units_in1, units_deeper, Around.mark_units, units_caller, units_under_make]); first | exact units_ok (by with_reducible assumption) (by decide) | (have hcL9 := cLine_is; omega))
  k_with "mem" => (first | (with_reducible assumption) | exact List.mem_cons_self | (refine List.mem_cons_of_mem _ ?_; k_mem) | (refine Kept.none (by with_reducible assumption) ?_; k_mem) | (refine Kept.one (by with_reducible assumption) (by k_mem) (by walk_at "mine ne")))
  k_with "mine ne" => ((try dsimp only); first | assumption | (refine Ne.symm ?_; assumption) | exact led_ne' (by with_reducible assumption) (by with_reducible assumption) inst_ne_list (by with_reducible assumption) | exact led_ne' (by with_reducible assumption) (by with_reducible assumption) dict_ne_list (by with_reducible assumption) | exact led_ne' (by with_reducible assumption) (by with_reducible assumption) tup_ne_list (by with_reducible assumption))
  k_with "mine zone" => (first | assumption | exact ZIn.inc (by assumption) (by assumption) | exact ZIn.inc (by assumption) Kept.cons)
  k_with "subscriptTail" => (k_here; (with_reducible show wpAny _ _ (subscriptTail _ _ (Value.ref _) (Value.int _ _)) _ _ _); (first | (refine itemL (by k_asm) (by k_mem) (by first | decide | assumption | omega) (by first | decide | with_reducible assumption | omega) (by first | rfl | assumption) ?_ (by with_unfolding_all rfl)) | (refine itemT (by k_asm) (by k_mem) (by first | decide | assumption | omega) (by first | decide | with_reducible assumption | omega) (by first | rfl | assumption) ?_ (by with_unfolding_all rfl))))
  k_with "binaryOp FloorDiv int int" => (k_here; k_dflt (refine floordiv_int (by omega) ?_ (Or.inl (PyProof.noPylong_small (by omega)))))
  k_with "call builtin:len" => (k_here; (with_reducible show wpAny _ _ (call (Value.builtin _) [Value.ref _]) _ _ _); k_dflt (refine lenL (by k_asm) (by k_mem) (by first | assumption | exact refs_len | rfl) (by first | decide | with_reducible assumption | omega) ?_))
  k_with "setItem ref int" => (k_here; (with_reducible show wpAny _ _ (setItem (Value.ref _) (Value.int _ _) _) _ _ _); k_dflt (refine setItemU (by k_asm) (by k_asm) (by k_mem) (by first | decide | assumption | omega) (by first | (simp only [refs_len, List.length_cons, List.length_nil]; omega) | omega) (by first | decide | omega) ?_; intro h' news' F' N' K' M'; (try simp only [Int.reduceToNat, List.set_cons_zero, List.set_cons_succ] at M')))
  exact trivial
section
variable {prog : Program} {w : World} {E : Value → Shared → Prop} {s : Shared} {h₀ : Heap} {L d : Addr} {m : Str → Option Value} {news : Led} {o : Obj} {Q : Value → Shared → Prop} {vs : List (Value × Value)}
theorem kdn_made_my (F : Fr h₀ L s.heap m) (N : News h₀ L s.heap news) (hm : (d, o) ∈ news) (hd : o.IsDictOf (PySem.strKind prog w) []) (hk : allStrKeys vs = true) (hn : ((strPairs vs).map (·.1)).Nodup)
    (h : ∀ h' o' news', Fr h₀ L h' m → News h₀ L h' news' → Kept [d] news news' → (d, o') ∈ news' → o'.IsDictOf (PySem.strKind prog w) (strPairs vs) → Q (.ref d) { s with heap := h', toks := s.toks + vs.length }) : KdnMade prog w (PySem.strKind prog w) d Q vs s := by
  have z := N _ hm
  refine display_done_str hk hn (Heap.dictOf_iff.mpr ⟨o, z.1, hd⟩) fun h' hmm hs => ?_
  obtain ⟨o', ho', hd'⟩ := Heap.dictOf_iff.mp hmm
  exact h h' o' _ (F.change hs z.2.1 z.2.2) (news_put N hs ho' z.2.1 z.2.2) put_kept (put_self hm) hd'
end
theorem words_C9_2 : True := by
  k_with "eval Dict" => (k_here; (with_reducible show wpAny _ _ (eval (.Dict (_ :: _) _ _) _) _ _ _); k_dflt (refine' kdn_str ?q9 ?F9 ?N9 ?b9 ?a9 ?l9 ?e9 ?n9 ?_; (case q9 => rfl); (case F9 => k_asm); (case N9 => k_asm); (case b9 => exact Top.nolimit (by k_asm)); (case a9 => rfl); (case l9 => rfl); (case e9 => exact List.cons_ne_nil _ _); (case n9 => exact Nat.le_of_ble_eq_true rfl)); intro d' h' o' F' N' l1 lo' hd'; (try k_lt l1))
  k_with "KdnMade" => (k_here; k_dflt (refine kdn_made_my (by k_asm) (by k_asm) (by k_mem) (by k_asm) (by rfl) (of_decide_eq_true (by first | rfl | kernel_rfl!)) ?_; intro h' o' news' F' N' K' M' hd'))
  k_with "compareOp NotIn str ref" => (k_here; k_dflt (refine kdg_notin (knd := PySem.strKind _ _) (by k_asm) (by k_mem) (by k_asm) (by k_asm) (strKind_is _ _ _ _) true (by rfl) ?_); (try dsimp only [Bool.not_true, Bool.not_false]))
  k_with "subscriptTail" => (k_here; (with_reducible show wpAny _ _ (subscriptTail _ _ (Value.ref _) (Value.str _ _)) _ _ _); k_dflt (refine kda_item (knd := PySem.strKind _ _) (by k_asm) (by k_mem) (by k_asm) (strKind_is _ _ _ _) (by rfl) ?_))
  k_with "mine ne" => ((try dsimp only); k_ne)
  exact trivial
variable {w : World} {mean : ExcName → Option Value} {mg mb : Str → Option Value}
theorem kept_dict {d : Addr} {news nw news' : Led} {x y : Addr × Obj} (K : Kept [d] nw news') (hs : ∀ p ∈ news, p ∈ nw) (hl : ∀ p ∈ news, p.1 < d) : Kept [] news (x :: y :: news') :=
  fun p hp _ => .tail _ (.tail _ (K p (hs p hp) (one_not (Nat.ne_of_lt (hl p hp)))))
set_option maxHeartbeats 8000000 in
theorem named_con {t : Tok} {news : Led} : Con w mean mg mb 163 [.str (Str.ofString "grid") t] 4 news (fun r news' => ∃ st, r = .ref st ∧ Kept [] news news') := by
  unfold Con
  k_fill
  intro dp un gd cn cs aF ccd cl outer A₀ base h₀ L m s Q E B F X N T hk hd hu hret
  refine wpAny_call ?_
  k_dflt ktr_enter
  repeat' ((fail_if_success (with_reducible show KdnMade _ _ _ _ _ _ _)); (first | walk1 | (dsimp only; walk1)))
  walk1
  k_steps
  rename Kept _ _ _ => K9
  exact hret _ _ _ _ (by k_asm) (by k_asm) ⟨_, rfl, kept_dict K9 (fun p hp => by repeat' (first | exact hp | apply List.mem_cons_of_mem)) (by assumption)⟩
end
section
theorem words_C10_1 : True := by
  k_with_none
  k_with "room" => ((simp only [depth_under_make, depth_under_kw, depth_in1, depth_deeper, depth_caller]); exact room_ok (by with_reducible assumption) (by decide))
  k_with "units" => ((simp only [units_in1, units_deeper, Around.mark_units, units_caller, units_under_make]); first | exact units_ok (by with_reducible assumption) (by decide) | (have hcL9 := cLine_is; omega))
  k_with "mem" => (first | (with_reducible assumption) | exact List.mem_cons_self | (refine List.mem_cons_of_mem _ ?_; k_mem) | (refine Kept.none (by with_reducible assumption) ?_; k_mem) | (refine Kept.one (by with_reducible assumption) (by k_mem) (by walk_at "mine ne")))
  k_with "mine ne" => ((try dsimp only); first | assumption | (refine Ne.symm ?_; assumption) | exact led_ne' (by with_reducible assumption) (by with_reducible assumption) inst_ne_list (by with_reducible assumption) | exact led_ne' (by with_reducible assumption) (by with_reducible assumption) dict_ne_list (by with_reducible assumption) | exact led_ne' (by with_reducible assumption) (by with_reducible assumption) tup_ne_list (by with_reducible assumption))
  k_with "mine zone" => (first | assumption | exact ZIn.inc (by assumption) (by assumption) | exact ZIn.inc (by assumption) Kept.cons)
  k_with "subscriptTail" => (k_here; (with_reducible show wpAny _ _ (subscriptTail _ _ (Value.ref _) (Value.int _ _)) _ _ _); (first | (refine itemL (by k_asm) (by k_mem) (by first | decide | assumption | omega) (by first | decide | with_reducible assumption | omega) (by first | rfl | assumption) ?_ (by with_unfolding_all rfl)) | (refine itemT (by k_asm) (by k_mem) (by first | decide | assumption | omega) (by first | decide | with_reducible assumption | omega) (by first | rfl | assumption) ?_ (by with_unfolding_all rfl))))
  k_with "binaryOp FloorDiv int int" => (k_here; k_dflt (refine floordiv_int (by omega) ?_ (Or.inl (PyProof.noPylong_small (by omega)))))
  k_with "call builtin:len" => (k_here; (with_reducible show wpAny _ _ (call (Value.builtin _) [Value.ref _]) _ _ _); k_dflt (refine lenL (by k_asm) (by k_mem) (by first | assumption | exact refs_len | rfl) (by first | decide | with_reducible assumption | omega) ?_))
  k_with "setItem ref int" => (k_here; (with_reducible show wpAny _ _ (setItem (Value.ref _) (Value.int _ _) _) _ _ _); k_dflt (refine setItemU (by k_asm) (by k_asm) (by k_mem) (by first | decide | assumption | omega) (by first | (simp only [refs_len, List.length_cons, List.length_nil]; omega) | omega) (by first | decide | omega) ?_; intro h' news' F' N' K' M'; (try simp only [Int.reduceToNat, List.set_cons_zero, List.set_cons_succ] at M')))
  k_with "call ref" => (k_here; (with_reducible show wpAny _ _ (call (Value.ref 163) _) _ _ _); k_dflt (refine Con.use (by k_asm) (by k_asm) (by k_asm) (by k_asm) (by k_asm) (by first | exact rfl | assumption) (named_con) (by ktr_room) (by ktr_units) ?_; rintro _ _ _ _ _ _ ⟨_, rfl, _⟩; (try dsimp only)))
  exact trivial
section
variable {prog : Program} {w : World} {A : Around} {E : Value → Shared → Prop} {s : Shared} {h₀ : Heap} {L d x C dx : Addr} {m : Str → Option Value} {news : Led} {o o' : Obj} {K : Frag} {es es' : List DictEntry} {n n' : Nat} {name : Str} {v : Value}
def pull (news : Led) (d : Addr) (o : Obj) : Led := (d, o) :: news.filter fun p => p.1 != d
theorem news_pull {h : Heap} (N : News h₀ L h news) (hm : (d, o) ∈ news) : News h₀ L h (pull news d o) := fun p hp => by
  rcases List.mem_cons.mp hp with rfl | hp
  · exact N _ hm
  · exact N _ (List.mem_filter.mp hp).1
theorem upd_pull : Upd d o o' (pull news d o) (pull news d o') := .head fun p hp => by simpa using (List.mem_filter.mp hp).2
theorem pull_kept : Kept [d] news (pull news d o) := fun p hp hn => .tail _ (List.mem_filter.mpr ⟨hp, by simpa using hn⟩)
theorem pull_self : (d, o) ∈ pull news d o := .head _
theorem set_my {Q : Unit → Shared → Prop} (F : Fr h₀ L s.heap m) (X₀ : K.In h₀) (N : News h₀ L s.heap news) (hx : (x, instObj C dx) ∈ news) (hm : (dx, dictOf es n) ∈ news)
    (hs : findIn K (.ref C) "__setattr__" = some (some (.builtin "object.__setattr__"))) (hp : plainOver K C = true) (ht : takerIn K C name = some none) (hh : hasDictIn K C = true) (hl : (getL name es).isSome = true)
    (e : (putL name (PyData.keyHash w.params name) (.str name (s.toks + 1)) v es, putN name es n) = (es', n')) (hz : es'.length ≤ 1000)
    (h : ∀ h' news', Fr h₀ L h' m → News h₀ L h' news' → Kept [dx] news news' → (dx, dictOf es' n') ∈ news' → Q () { s with heap := h', toks := s.toks + 2 }) :
    wpAny (model prog w) A (setAttr (.ref x) name v) Q E s :=
  set_dict F X₀ (news_pull N hm) (InstAt.of_news N hx hm) rfl hs hp ht hh hl e upd_pull hz fun h' F' N' => h h' _ F' N' pull_kept pull_self
end
#check @set_dict
#check @InstAt.of_news
theorem words_C10_2 : True := by
  k_with "setAttr ref" => (k_here; (with_reducible show wpAny _ _ (setAttr _ (Str.ofString "rounding") _) _ _ _); k_dflt (refine set_my (by k_asm) (by k_asm) (by k_asm) (by k_mem) (by k_mem) (by k_is) (by k_is) (by k_is) (by k_is) (by k_get) (by k_put) (by exact Nat.le_of_ble_eq_true rfl) ?_; intro _ _ _ _ _ _))
  exact trivial
variable {w : World} {mean : ExcName → Option Value} {mg mb : Str → Option Value}
/-- a state whose vectors stand in a dict of few words -/
def StL (news0 news : Led) (st : Addr) : Prop := ∃ dst es k, (st, instObj 208 dst) ∈ news ∧ (dst, dictOf es k) ∈ news ∧ (getL (Str.ofString "freedom") es).isSome = true ∧ es.length ≤ 20 ∧ es ≠ [] ∧ ∀ p ∈ news0, p.1 ≠ dst
theorem empty_ne {h₀ h : Heap} {L d : Addr} {news : Led} {es : List DictEntry} {k : Nat} (N : News h₀ L h news) (m : (d, dictOf es k) ∈ news) (hs : es ≠ []) : ∀ x j, (x, dictOf [] j) ∈ news → d ≠ x := fun x j hx e => by
  subst e
  have := led_eq N m hx
  simp [dictOf] at this
  exact hs this.1
theorem use_empty {d x : Addr} {j : Nat} {news : Led} (h : ∀ x j, (x, dictOf [] j) ∈ news → d ≠ x) (m : (x, dictOf [] j) ∈ news) : d ≠ x := h x j m
set_option maxHeartbeats 8000000 in
theorem gs_con {news : Led} : Con w mean mg mb 208 [] 6 news (fun r news' => ∃ st, r = .ref st ∧ Kept [] news news' ∧ StL news news' st) := by
  unfold Con
  k_fill
  intro dp un gd cn cs aF ccd cl outer A₀ base h₀ L m s Q E B F X N T hk hd hu hret
  k_dflt (refine' call_cls ?k1 ?k2 ?k3 ?k4 ?k5 ?k6 ?_; (case k1 => k_asm); (case k2 => k_asm); (case k3 => k_asm); (case k4 => k_is); (case k5 => k_is); (case k6 => k_is); k_whole; intro x' d' h' F' N' l1 l2; (try k_lt l1); (try k_lt2 l2); ktr_enter)
  k_steps
  rename Kept [] _ _ => K9
  rename Kept [d'] _ _ => K8
  exact hret _ _ _ _ (by k_asm) (by k_asm) ⟨_, rfl, fun p hp _ => K8.one (K9.none (by repeat' (first | exact hp | apply List.mem_cons_of_mem))) (Nat.ne_of_lt (l1 p hp)), _, _, _, K8.one (K9.none (by k_mem)) (Ne.symm (Nat.ne_of_lt l2)), by assumption, by k_get, Nat.le_of_ble_eq_true rfl, List.cons_ne_nil _ _, fun p hp => Nat.ne_of_lt (l1 p hp)⟩
end
section
theorem words_C11_1 : True := by
  k_with_none
  k_with "room" => ((simp only [depth_under_make, depth_under_kw, depth_in1, depth_deeper, depth_caller]); exact room_ok (by with_reducible assumption) (by decide))
  k_with "units" => ((simp only [units_in1, units_deeper, Around.mark_units, units_caller, units_under_make]); first | exact units_ok (by with_reducible assumption) (by decide) | (have hcL9 := cLine_is; omega))
  k_with "mem" => (first | (with_reducible assumption) | exact List.mem_cons_self | (refine List.mem_cons_of_mem _ ?_; k_mem) | (refine Kept.none (by with_reducible assumption) ?_; k_mem) | (refine Kept.one (by with_reducible assumption) (by k_mem) (by walk_at "mine ne")))
  k_with "mine ne" => ((try dsimp only); first | assumption | (refine Ne.symm ?_; assumption) | exact led_ne' (by with_reducible assumption) (by with_reducible assumption) inst_ne_list (by with_reducible assumption) | exact led_ne' (by with_reducible assumption) (by with_reducible assumption) dict_ne_list (by with_reducible assumption) | exact led_ne' (by with_reducible assumption) (by with_reducible assumption) tup_ne_list (by with_reducible assumption))
  k_with "mine zone" => (first | assumption | exact ZIn.inc (by assumption) (by assumption) | exact ZIn.inc (by assumption) Kept.cons)
  k_with "subscriptTail" => (k_here; (with_reducible show wpAny _ _ (subscriptTail _ _ (Value.ref _) (Value.int _ _)) _ _ _); (first | (refine itemL (by k_asm) (by k_mem) (by first | decide | assumption | omega) (by first | decide | with_reducible assumption | omega) (by first | rfl | assumption) ?_ (by with_unfolding_all rfl)) | (refine itemT (by k_asm) (by k_mem) (by first | decide | assumption | omega) (by first | decide | with_reducible assumption | omega) (by first | rfl | assumption) ?_ (by with_unfolding_all rfl))))
  k_with "binaryOp FloorDiv int int" => (k_here; k_dflt (refine floordiv_int (by omega) ?_ (Or.inl (PyProof.noPylong_small (by omega)))))
  k_with "call builtin:len" => (k_here; (with_reducible show wpAny _ _ (call (Value.builtin _) [Value.ref _]) _ _ _); k_dflt (refine lenL (by k_asm) (by k_mem) (by first | assumption | exact refs_len | rfl) (by first | decide | with_reducible assumption | omega) ?_))
  k_with "setItem ref int" => (k_here; (with_reducible show wpAny _ _ (setItem (Value.ref _) (Value.int _ _) _) _ _ _); k_dflt (refine setItemU (by k_asm) (by k_asm) (by k_mem) (by first | decide | assumption | omega) (by first | (simp only [refs_len, List.length_cons, List.length_nil]; omega) | omega) (by first | decide | omega) ?_; intro h' news' F' N' K' M'; (try simp only [Int.reduceToNat, List.set_cons_zero, List.set_cons_succ] at M')))
  exact trivial
theorem lt_all {news : Led} {a d : Addr} {o : Obj} (h : ∀ p ∈ news, p.1 < d) (m : (a, o) ∈ news) : a < d := h _ m
theorem lt_ne {a b : Addr} (h : a < b) : a ≠ b := Nat.ne_of_lt h
theorem inst_ne_dict {C d : Addr} {es : List DictEntry} {k : Nat} : instObj C d ≠ dictOf es k := fun h => by simp [instObj, dictOf] at h
theorem tup_ne_dict {vs : Array Value} {n : Nat} {es : List DictEntry} {k : Nat} : tupOf vs n ≠ dictOf es k := fun h => by simp [tupOf, dictOf] at h
theorem kept_new {h₀ h : Heap} {L d a : Addr} {o o' : Obj} {nw news' : Led} (K : Kept [d] ((a, o) :: nw) news') (N : News h₀ L h ((a, o) :: nw)) (m : (d, o') ∈ (a, o) :: nw) (hn : o ≠ o') : (a, o) ∈ news' := K.one (.head _) (led_ne N (.head _) m hn)
theorem putL_get {name : Str} {hsh : Int} {key v : Value} (hk : key.isStr name = true) : ∀ es, getL name (putL name hsh key v es) = some (some v)
  | [] => by simp [putL, getL, hk]
  | e :: r => by
    have ih := putL_get (hsh := hsh) (v := v) hk r
    unfold putL
    split
    · rename_i h; simp [getL, h]
    · rename_i h
      unfold getL at ih ⊢
      rw [List.find?_cons_of_neg (by simpa using h)]
      split at ih
      · simpa using ih
      · split at ih <;> simp at ih
theorem putL_len {name : Str} {hsh : Int} {key v : Value} : ∀ es, (putL name hsh key v es).length ≤ es.length + 1
  | [] => by simp [putL]
  | e :: r => by
    have ih := putL_len (name := name) (hsh := hsh) (key := key) (v := v) r
    unfold putL
    split <;> simp <;> omega
variable {w : World} {mean : ExcName → Option Value} {mg mb : Str → Option Value}
set_option maxHeartbeats 8000000 in
theorem hs_con {t : Tok} {news : Led} : Con w mean mg mb 271 [.int 64 t] 3 news (fun r news' => ∃ a, r = .ref a ∧ Kept [] news news') := by
  unfold Con
  k_fill
  intro dp un gd cn cs aF ccd cl outer A₀ base h₀ L m s Q E B F X N T hk hd hu hret
  k_dflt (refine' call_cls ?k1 ?k2 ?k3 ?k4 ?k5 ?k6 ?_; (case k1 => k_asm); (case k2 => k_asm); (case k3 => k_asm); (case k4 => k_is); (case k5 => k_is); (case k6 => k_is); k_whole; intro x' d' h' F' N' l1 l2; (try k_lt l1); (try k_lt2 l2); ktr_enter)
  k_steps
  exact hret _ _ _ _ (by k_asm) (by k_asm) ⟨_, rfl, fun p hp _ => by repeat' (first | exact hp | apply List.mem_cons_of_mem)⟩
theorem words_C11_2 : True := by
  k_with "call ref" => (k_here; (with_reducible show wpAny _ _ (call (Value.ref 271) _) _ _ _); k_dflt (refine Con.use (by k_asm) (by k_asm) (by k_asm) (by k_asm) (by k_asm) (by first | exact rfl | assumption) (hs_con) (by ktr_room) (by ktr_units) ?_; rintro _ _ _ _ _ _ ⟨_, rfl, _⟩; (try dsimp only)))
  k_with "setAttr ref" => (k_here; k_dflt (refine set_my (by k_asm) (by k_asm) (by k_asm) (by k_mem) (by k_mem) (by k_is) (by k_is) (by k_is) (by k_is) (by first | k_get | assumption) (by first | k_put | rfl) (by first | exact Nat.le_of_ble_eq_true rfl | exact Nat.le_trans (putL_len _) (by omega)) ?_; intro _ _ _ _ _ _))
  k_with "mine ne" => ((try dsimp only); first | with_reducible assumption | (refine Ne.symm ?_; with_reducible assumption) | k_ne | (refine use_empty (by with_reducible assumption) (by k_mem)) | (refine lt_ne (lt_all (by assumption) (by k_mem))) | (refine (lt_ne (lt_all (by assumption) (by k_mem))).symm) | exact led_ne' (by with_reducible assumption) (by with_reducible assumption) inst_ne_list (by with_reducible assumption) | exact led_ne' (by with_reducible assumption) (by with_reducible assumption) inst_ne_dict (by with_reducible assumption) | exact led_ne' (by with_reducible assumption) (by with_reducible assumption) tup_ne_dict (by with_reducible assumption))
  exact trivial
set_option maxHeartbeats 8000000 in
theorem state_con {a : Int} {t : Tok} {news : Led} (ha : a = 0 ∨ a = 1) : Con w mean mg mb 417 [.int a t] 14 news (fun r news' => ∃ st, r = .ref st ∧ Kept [] news news' ∧ StIn news' st (if a = 0 then 16384 else 0) (if a = 0 then 0 else 16384)) := by
  have a0 : 0 ≤ a := by omega
  have a1 : a ≤ 1 := by omega
  unfold Con
  k_fill
  intro dp un gd cn cs aF ccd cl outer A₀ base h₀ L m s Q E B F X N T hk hd hu hret
  refine wpAny_call ?_
  k_dflt ktr_enter
  repeat' ((fail_if_success (with_reducible show wpAny _ _ (call (Value.ref 208) _) _ _ _)); (first | walk1 | (dsimp only; walk1)))
  k_dflt (refine' Con.use ?B ?F ?X ?N ?T ?k ?c ?d ?u ?_; (case B => k_asm); (case F => k_asm); (case X => k_asm); (case N => k_asm); (case T => k_asm); (case k => first | exact rfl | assumption); (case c => exact gs_con); (case d => ktr_room); (case u => ktr_units))
  intro r9 news9 h9 tk9 F9 N9 P9
  obtain ⟨a9, rfl, K9, d9, es9, k9, M9, m9, g9, l9, q9, f9⟩ := P9
  have e1 := led_ne N9 M9 (K9.none (.tail _ (.head _))) inst_ne_dict
  have e2 := led_ne N9 m9 (K9.none (.tail _ (.head _))) (fun h => q9 (by simp [dictOf] at h; exact h.1))
  have e4 := led_ne N9 M9 m9 inst_ne_dict
  have e3 := led_ne N9 (K9.none (.head _)) m9 inst_ne_dict
  k_steps
  · obtain rfl : a = 0 := by
      rcases ha with rfl | rfl
      · rfl
      · exact absurd (by assumption : Int.fmod _ 2 = 1) (by decide)
    rename _ < _ ∧ _ < _ ∧ AllLt _ news => l1
    rename Kept [d9] _ _ => K8
    exact hret _ _ _ _ (by k_asm) (by k_asm) ⟨_, rfl, fun p hp _ => by (have n1 := Nat.ne_of_lt (ktn_ltOf l1.2.2 p hp); have n2 := f9 p (.tail _ (.tail _ (.tail _ (.tail _ hp)))); k_mem), _, _, _, _, _, _, _, by k_mem, by assumption, putL_get rfl _, kept_new K8 (by assumption) (by k_mem) tup_ne_dict⟩
  · obtain rfl : a = 1 := by
      rcases ha with rfl | rfl
      · exact absurd (show Int.fmod (5 - 0) 2 = 1 by decide) (by assumption)
      · rfl
    rename _ < _ ∧ _ < _ ∧ AllLt _ news => l1
    rename Kept [d9] _ _ => K8
    exact hret _ _ _ _ (by k_asm) (by k_asm) ⟨_, rfl, fun p hp _ => by (have n1 := Nat.ne_of_lt (ktn_ltOf l1.2.2 p hp); have n2 := f9 p (.tail _ (.tail _ (.tail _ (.tail _ hp)))); k_mem), _, _, _, _, _, _, _, by k_mem, by assumption, putL_get rfl _, kept_new K8 (by assumption) (by k_mem) tup_ne_dict⟩
end
section
theorem words_C12_1 : True := by
  k_with_none
  k_with "room" => ((simp only [depth_under_make, depth_under_kw, depth_in1, depth_deeper, depth_caller]); exact room_ok (by with_reducible assumption) (by decide))
  k_with "units" => ((simp only [units_in1, units_deeper, Around.mark_units, units_caller, units_under_make]); first | exact units_ok (by with_reducible assumption) (by decide) | (have hcL9 := cLine_is; omega))
  k_with "mem" => (first | (with_reducible assumption) | exact List.mem_cons_self | (refine List.mem_cons_of_mem _ ?_; k_mem) | (refine Kept.none (by with_reducible assumption) ?_; k_mem) | (refine Kept.one (by with_reducible assumption) (by k_mem) (by walk_at "mine ne")))
  k_with "mine ne" => ((try dsimp only); first | assumption | (refine Ne.symm ?_; assumption) | exact led_ne' (by with_reducible assumption) (by with_reducible assumption) inst_ne_list (by with_reducible assumption) | exact led_ne' (by with_reducible assumption) (by with_reducible assumption) dict_ne_list (by with_reducible assumption) | exact led_ne' (by with_reducible assumption) (by with_reducible assumption) tup_ne_list (by with_reducible assumption))
  k_with "mine zone" => (first | assumption | exact ZIn.inc (by assumption) (by assumption) | exact ZIn.inc (by assumption) Kept.cons)
  k_with "subscriptTail" => (k_here; (with_reducible show wpAny _ _ (subscriptTail _ _ (Value.ref _) (Value.int _ _)) _ _ _); (first | (refine itemL (by k_asm) (by k_mem) (by first | decide | assumption | omega) (by first | decide | with_reducible assumption | omega) (by first | rfl | assumption) ?_ (by with_unfolding_all rfl)) | (refine itemT (by k_asm) (by k_mem) (by first | decide | assumption | omega) (by first | decide | with_reducible assumption | omega) (by first | rfl | assumption) ?_ (by with_unfolding_all rfl))))
  k_with "binaryOp FloorDiv int int" => (k_here; k_dflt (refine floordiv_int (by omega) ?_ (Or.inl (PyProof.noPylong_small (by omega)))))
  k_with "call builtin:len" => (k_here; (with_reducible show wpAny _ _ (call (Value.builtin _) [Value.ref _]) _ _ _); k_dflt (refine lenL (by k_asm) (by k_mem) (by first | assumption | exact refs_len | rfl) (by first | decide | with_reducible assumption | omega) ?_))
  k_with "setItem ref int" => (k_here; (with_reducible show wpAny _ _ (setItem (Value.ref _) (Value.int _ _) _) _ _ _); k_dflt (refine setItemU (by k_asm) (by k_asm) (by k_mem) (by first | decide | assumption | omega) (by first | (simp only [refs_len, List.length_cons, List.length_nil]; omega) | omega) (by first | decide | omega) ?_; intro h' news' F' N' K' M'; (try simp only [Int.reduceToNat, List.set_cons_zero, List.set_cons_succ] at M')))
  k_with "call ref" => (k_here; (with_reducible show wpAny _ _ (call (Value.ref 396) _) _ _ _); k_dflt (refine Con.use (by k_asm) (by k_asm) (by k_asm) (by k_asm) (by k_asm) (by first | exact rfl | assumption) (take_con (by k_mem) (by omega) (by omega) (by omega) (by omega) (by omega)) (by ktr_room) (by ktr_units) ?_; rintro _ _ _ _ _ _ ⟨_, _, _, _, _, _, rfl, _, _, _, _, _, _, _⟩; (try dsimp only)))
  k_with "call ref" => (k_here; (with_reducible show wpAny _ _ (call (Value.ref 35) _) _ _ _); k_dflt (refine Con.use (by k_asm) (by k_asm) (by k_asm) (by k_asm) (by k_asm) (by first | exact rfl | assumption) (wrap32_con (by omega) (by omega)) (by ktr_room) (by ktr_units) ?_; rintro _ _ _ _ _ _ ⟨_, rfl, rfl⟩; (try dsimp only)))
  k_with "call ref" => (k_here; (with_reducible show wpAny _ _ (call (Value.ref 28) _) _ _ _); k_dflt (refine Con.use (by k_asm) (by k_asm) (by k_asm) (by k_asm) (by k_asm) (by first | exact rfl | assumption) (muldiv_con (by omega) (by omega) (by omega) (by omega) (by omega) (by omega)) (by ktr_room) (by ktr_units) ?_; rintro _ _ _ _ _ _ ⟨_, rfl, rfl⟩; (try dsimp only)))
  k_with "call ref" => (k_here; (with_reducible show wpAny _ _ (call (Value.ref 333) _) _ _ _); k_dflt (refine Con.use (by k_asm) (by k_asm) (by k_asm) (by k_asm) (by k_asm) (by first | exact rfl | assumption) (held_con (by k_mem) (by omega) (by omega) (by omega) (by omega)) (by ktr_room) (by ktr_units) ?_; rintro _ _ _ _ _ _ ⟨_, rfl, _, _, _, _, _⟩; (try dsimp only)))
  k_with "call ref" => (k_here; (with_reducible show wpAny _ _ (call (Value.ref 354) _) _ _ _); k_dflt (refine Con.use (by k_asm) (by k_asm) (by k_asm) (by k_asm) (by k_asm) (by first | exact rfl | assumption) (count_con (by walk_at "mine zone") (by rfl) (by omega)) (by ktr_room) (by ktr_units) ?_; rintro _ _ _ _ _ _ ⟨_, rfl, rfl⟩; (try dsimp only)))
  k_with "call ref" => (k_here; (with_reducible show wpAny _ _ (call (Value.ref 361) _) _ _ _); k_dflt (refine Con.use (by k_asm) (by k_asm) (by k_asm) (by k_asm) (by k_asm) (by first | exact rfl | assumption) (check_con (by walk_at "mine zone") (by rfl) (by omega) (by omega) (by omega)) (by ktr_room) (by ktr_units) ?_; rintro _ _ _ _ _ _ ⟨rfl, rfl⟩; (try dsimp only)))
  k_with "call ref" => (k_here; (with_reducible show wpAny _ _ (call (Value.ref 368) _) _ _ _); k_dflt (refine Con.use (by k_asm) (by k_asm) (by k_asm) (by k_asm) (by k_asm) (by first | exact rfl | assumption) (put_con (by walk_at "mine zone") (by rfl) (by omega) (by omega) (by omega) (by k_mem) (by omega) (by omega) (by omega) (by omega)) (by ktr_room) (by ktr_units) ?_; rintro _ _ _ _ _ _ ⟨rfl, _, _, _⟩; (try dsimp only)))
  exact trivial
local macro_rules | `(tactic| k_get) => `(tactic| assumption)
variable {w : World} {mean : ExcName → Option Value} {mg mb : Str → Option Value}
def ZRep.moveM (Z : ZRep) (f0 : Int) (i : Nat) (c : Addr) (s0 s1 : Int) (tb : Bool) : ZRep := if tb then (Z.shiftM f0 i c s0 s1).touchM f0 i else Z.shiftM f0 i c s0 s1
set_option maxHeartbeats 8000000 in
theorem shifted_con {Z : ZRep} {news : Led} {st sp : Addr} {f0 f1 i s0 s1 : Int} {t t0 t1 : Tok} {kp : Nat} {tb : Bool} (hz : ZIn news Z) {z : Addr} (ez : z = Z.z) (hst : StIn news st f0 f1) (hf : Free f0 f1) (i0 : 0 ≤ i) (i1 : i < Z.n) (hn : Z.n ≤ 1000)
    (hs : (sp, tupOf #[.int s0 t0, .int s1 t1] kp) ∈ news) (hb : -1000 ≤ s0 ∧ s0 ≤ 1000 ∧ -1000 ≤ s1 ∧ s1 ≤ 1000) (hc : -1000 ≤ Z.cx i.toNat ∧ Z.cx i.toNat ≤ 1000 ∧ -1000 ≤ Z.cy i.toNat ∧ Z.cy i.toNat ≤ 1000) :
    Con w mean mg mb 82 [.ref st, .ref z, .int i t, .ref sp, .bool tb] 8 news (fun r news' => r = .none ∧ ∃ c, Kept [Z.lc, Z.ta i.toNat] news news' ∧ ZIn news' (Z.moveM f0 i.toNat c s0 s1 tb)) := by
  subst ez
  obtain ⟨h1, h2, h3, h4, h5, k1, k2, k3, k4, k5, k, hdd⟩ := hz.dict
  obtain ⟨kc, hcl⟩ := hz.cl
  have hob := hz.obj
  have hin : i.toNat < Z.n := by omega
  obtain ⟨pt, pt', pk, hpt⟩ := hz.cp _ hin
  have g1 : (refs Z.n Z.ca)[i.toNat]? = some (.ref (Z.ca i.toNat)) := refs_get hin
  have hst' := hst
  obtain ⟨dst, es, ks, fr, kf, u0, u1, q1, q2, q3, q4⟩ := hst
  rcases hf with ⟨rfl, rfl⟩ | ⟨rfl, rfl⟩
  · cases tb
    · unfold Con
      k_fill
      intro dp un gd cn cs aF ccd cl outer A₀ base h₀ L m s Q E B F X N T hk hd hu hret
      refine wpAny_call ?_
      k_dflt ktr_enter
      k_steps
      rename ZIn _ (ZRep.setCur _ _ _ _ _) => Z9
      rename Kept [Z.lc] _ _ => K9
      exact hret _ _ _ _ (by k_asm) (by k_asm) ⟨rfl, _, Kept.trans Kept.cons K9 (S := []) (fun _ h => nomatch h) (fun _ h => List.mem_cons.mpr (Or.inl (List.mem_singleton.mp h))), by simpa [ZRep.moveM, ZRep.shiftM] using Z9⟩
    · unfold Con
      k_fill
      intro dp un gd cn cs aF ccd cl outer A₀ base h₀ L m s Q E B F X N T hk hd hu hret
      refine wpAny_call ?_
      k_dflt ktr_enter
      repeat' ((fail_if_success (with_reducible show wpAny _ _ (call (Value.ref 75) _) _ _ _)); (first | walk1 | (dsimp only; walk1)))
      rename ZIn _ (ZRep.setCur _ _ _ _ _) => Z9
      rename Kept [Z.lc] _ _ => K9
      have q9 := StIn.kept (StIn.inc hst' Kept.cons) (by assumption) (.tail _ hcl) K9
      k_dflt (refine' Con.use ?B ?F ?X ?N ?T ?k ?c ?d ?u ?_; (case B => k_asm); (case F => k_asm); (case X => k_asm); (case N => k_asm); (case T => k_asm); (case k => first | exact rfl | assumption); (case c => exact touch_con (Z := ZRep.setCur _ _ _ _ _) Z9 rfl q9 (Or.inl ⟨rfl, rfl⟩) i0 i1 hn); (case d => ktr_room); (case u => ktr_units))
      intro r8 news8 h8 tk8 F8 N8 P8
      obtain ⟨rfl, K8, Z8⟩ := P8
      k_steps
      exact hret _ _ _ _ (by k_asm) (by k_asm) ⟨rfl, _, Kept.trans (Kept.trans Kept.cons K9 (S := []) (T := [Z.lc]) (fun _ h => nomatch h) (fun _ h => h)) K8 (fun _ h => List.mem_cons.mpr (Or.inl (List.mem_singleton.mp h))) (fun _ h => .tail _ h), by simpa [ZRep.moveM, ZRep.shiftM] using Z8⟩
  · cases tb
    · unfold Con
      k_fill
      intro dp un gd cn cs aF ccd cl outer A₀ base h₀ L m s Q E B F X N T hk hd hu hret
      refine wpAny_call ?_
      k_dflt ktr_enter
      k_steps
      rename ZIn _ (ZRep.setCur _ _ _ _ _) => Z9
      rename Kept [Z.lc] _ _ => K9
      exact hret _ _ _ _ (by k_asm) (by k_asm) ⟨rfl, _, Kept.trans Kept.cons K9 (S := []) (fun _ h => nomatch h) (fun _ h => List.mem_cons.mpr (Or.inl (List.mem_singleton.mp h))), by simpa [ZRep.moveM, ZRep.shiftM] using Z9⟩
    · unfold Con
      k_fill
      intro dp un gd cn cs aF ccd cl outer A₀ base h₀ L m s Q E B F X N T hk hd hu hret
      refine wpAny_call ?_
      k_dflt ktr_enter
      repeat' ((fail_if_success (with_reducible show wpAny _ _ (call (Value.ref 75) _) _ _ _)); (first | walk1 | (dsimp only; walk1)))
      rename ZIn _ (ZRep.setCur _ _ _ _ _) => Z9
      rename Kept [Z.lc] _ _ => K9
      have q9 := StIn.kept (StIn.inc hst' Kept.cons) (by assumption) (.tail _ hcl) K9
      k_dflt (refine' Con.use ?B ?F ?X ?N ?T ?k ?c ?d ?u ?_; (case B => k_asm); (case F => k_asm); (case X => k_asm); (case N => k_asm); (case T => k_asm); (case k => first | exact rfl | assumption); (case c => exact touch_con (Z := ZRep.setCur _ _ _ _ _) Z9 rfl q9 (Or.inr ⟨rfl, rfl⟩) i0 i1 hn); (case d => ktr_room); (case u => ktr_units))
      intro r8 news8 h8 tk8 F8 N8 P8
      obtain ⟨rfl, K8, Z8⟩ := P8
      k_steps
      exact hret _ _ _ _ (by k_asm) (by k_asm) ⟨rfl, _, Kept.trans (Kept.trans Kept.cons K9 (S := []) (T := [Z.lc]) (fun _ h => nomatch h) (fun _ h => h)) K8 (fun _ h => List.mem_cons.mpr (Or.inl (List.mem_singleton.mp h))) (fun _ h => .tail _ h), by simpa [ZRep.moveM, ZRep.shiftM] using Z8⟩
end
section
theorem words_C14_1 : True := by
  k_with_none
  k_with "room" => ((simp only [depth_under_make, depth_under_kw, depth_in1, depth_deeper, depth_caller]); exact room_ok (by with_reducible assumption) (by decide))
  k_with "units" => ((simp only [units_in1, units_deeper, Around.mark_units, units_caller, units_under_make]); first | exact units_ok (by with_reducible assumption) (by decide) | (have hcL9 := cLine_is; omega))
  k_with "mem" => (first | (with_reducible assumption) | exact List.mem_cons_self | (refine List.mem_cons_of_mem _ ?_; k_mem) | (refine Kept.none (by with_reducible assumption) ?_; k_mem) | (refine Kept.one (by with_reducible assumption) (by k_mem) (by walk_at "mine ne")))
  k_with "mine ne" => ((try dsimp only); first | assumption | (refine Ne.symm ?_; assumption) | exact led_ne' (by with_reducible assumption) (by with_reducible assumption) inst_ne_list (by with_reducible assumption) | exact led_ne' (by with_reducible assumption) (by with_reducible assumption) dict_ne_list (by with_reducible assumption) | exact led_ne' (by with_reducible assumption) (by with_reducible assumption) tup_ne_list (by with_reducible assumption))
  k_with "mine zone" => (first | assumption | exact ZIn.inc (by assumption) (by assumption) | exact ZIn.inc (by assumption) Kept.cons)
  k_with "subscriptTail" => (k_here; (with_reducible show wpAny _ _ (subscriptTail _ _ (Value.ref _) (Value.int _ _)) _ _ _); (first | (refine itemL (by k_asm) (by k_mem) (by first | decide | assumption | omega) (by first | decide | with_reducible assumption | omega) (by first | rfl | assumption) ?_ (by with_unfolding_all rfl)) | (refine itemT (by k_asm) (by k_mem) (by first | decide | assumption | omega) (by first | decide | with_reducible assumption | omega) (by first | rfl | assumption) ?_ (by with_unfolding_all rfl))))
  k_with "binaryOp FloorDiv int int" => (k_here; k_dflt (refine floordiv_int (by omega) ?_ (Or.inl (PyProof.noPylong_small (by omega)))))
  k_with "call builtin:len" => (k_here; (with_reducible show wpAny _ _ (call (Value.builtin _) [Value.ref _]) _ _ _); k_dflt (refine lenL (by k_asm) (by k_mem) (by first | assumption | exact refs_len | rfl) (by first | decide | with_reducible assumption | omega) ?_))
  k_with "setItem ref int" => (k_here; (with_reducible show wpAny _ _ (setItem (Value.ref _) (Value.int _ _) _) _ _ _); k_dflt (refine setItemU (by k_asm) (by k_asm) (by k_mem) (by first | decide | assumption | omega) (by first | (simp only [refs_len, List.length_cons, List.length_nil]; omega) | omega) (by first | decide | omega) ?_; intro h' news' F' N' K' M'; (try simp only [Int.reduceToNat, List.set_cons_zero, List.set_cons_succ] at M')))
  k_with "call ref" => (k_here; (with_reducible show wpAny _ _ (call (Value.ref 396) _) _ _ _); k_dflt (refine Con.use (by k_asm) (by k_asm) (by k_asm) (by k_asm) (by k_asm) (by first | exact rfl | assumption) (take_con (by k_mem) (by omega) (by omega) (by omega) (by omega) (by omega)) (by ktr_room) (by ktr_units) ?_; rintro _ _ _ _ _ _ ⟨_, _, _, _, _, _, rfl, _, _, _, _, _, _, _⟩; (try dsimp only)))
  k_with "call ref" => (k_here; (with_reducible show wpAny _ _ (call (Value.ref 35) _) _ _ _); k_dflt (refine Con.use (by k_asm) (by k_asm) (by k_asm) (by k_asm) (by k_asm) (by first | exact rfl | assumption) (wrap32_con (by omega) (by omega)) (by ktr_room) (by ktr_units) ?_; rintro _ _ _ _ _ _ ⟨_, rfl, rfl⟩; (try dsimp only)))
  k_with "call ref" => (k_here; (with_reducible show wpAny _ _ (call (Value.ref 28) _) _ _ _); k_dflt (refine Con.use (by k_asm) (by k_asm) (by k_asm) (by k_asm) (by k_asm) (by first | exact rfl | assumption) (muldiv_con (by omega) (by omega) (by omega) (by omega) (by omega) (by omega)) (by ktr_room) (by ktr_units) ?_; rintro _ _ _ _ _ _ ⟨_, rfl, rfl⟩; (try dsimp only)))
  exact trivial
variable {w : World} {mean : ExcName → Option Value} {mg mb : Str → Option Value}
set_option maxHeartbeats 8000000 in
theorem one_con {src lt : Addr} {p q : Int} {tp tq : Tok} {n kt : Nat} {vs : List Value} {news : Led}
    (hm : (src, W.listOf #[.int p tp, .int q tq] n) ∈ news) (hp : 0 ≤ p) (hq0 : 0 ≤ q) (hq1 : q < 2147483647) (hl : (lt, W.listOf vs.toArray kt) ∈ news) (hne : lt ≠ src) (h0 : 0 < vs.length) (h1 : vs.length ≤ 1000) :
    Con w mean mg mb 403 [.ref src, .ref lt] 4 news (fun r news' => ∃ (i : Nat) (p' q' : Int) (tp' tq' : Tok), vs[i]? = some r ∧ 0 ≤ p' ∧ 0 ≤ q' ∧ q' < 2147483647 ∧
      Kept [src] news news' ∧ (src, W.listOf #[.int p' tp', .int q' tq'] n) ∈ news') := by
  unfold Con
  k_fill
  intro dp un gd cn cs aF ccd cl outer A₀ base h₀ L m s Q E B F X N T hk hd hu hret
  refine wpAny_call ?_
  k_dflt ktr_enter
  repeat' ((fail_if_success (with_reducible show wpAny _ _ (call (Value.builtin "len") _) _ _ _)); (first | walk1 | (dsimp only; walk1)))
  k_dflt (refine lenL (by k_asm) hl rfl (by omega) ?_)
  repeat' ((fail_if_success (with_reducible show wpAny _ _ (call (Value.ref _) _) _ _ _)); (first | walk1 | (dsimp only; walk1)))
  k_dflt (refine' Con.use ?B ?F ?X ?N ?T ?k ?c ?d ?u ?_; (case B => k_asm); (case F => k_asm); (case X => k_asm); (case N => k_asm); (case T => k_asm); (case k => first | exact rfl | assumption); (case c => exact take_con hm hp hq0 hq1 (by omega) (by omega)); (case d => ktr_room); (case u => ktr_units))
  rintro r9 news9 h9 tk9 F9 N9 ⟨i9, tr9, p9, q9, tp9, tq9, rfl, i90, i91, p90, q90, q91, K9, M9⟩
  (try dsimp only)
  have hl' := K9.one hl hne
  have hg : vs[i9.toNat]? = some (vs[i9.toNat]'(by omega)) := List.getElem?_eq_getElem (by omega)
  k_steps
  exact hret _ _ _ _ (by k_asm) (by k_asm) ⟨_, _, _, _, _, hg, p90, q90, q91, K9, M9⟩
end
section
theorem words_C14b_1 : True := by
  k_with_none
  k_with "room" => ((simp only [depth_under_make, depth_under_kw, depth_in1, depth_deeper, depth_caller]); exact room_ok (by with_reducible assumption) (by decide))
  k_with "units" => ((simp only [units_in1, units_deeper, Around.mark_units, units_caller, units_under_make]); first | exact units_ok (by with_reducible assumption) (by decide) | (have hcL9 := cLine_is; omega))
  k_with "mem" => (first | (with_reducible assumption) | exact List.mem_cons_self | (refine List.mem_cons_of_mem _ ?_; k_mem) | (refine Kept.none (by with_reducible assumption) ?_; k_mem) | (refine Kept.one (by with_reducible assumption) (by k_mem) (by walk_at "mine ne")))
  k_with "mine ne" => ((try dsimp only); first | assumption | (refine Ne.symm ?_; assumption) | exact led_ne' (by with_reducible assumption) (by with_reducible assumption) inst_ne_list (by with_reducible assumption) | exact led_ne' (by with_reducible assumption) (by with_reducible assumption) dict_ne_list (by with_reducible assumption) | exact led_ne' (by with_reducible assumption) (by with_reducible assumption) tup_ne_list (by with_reducible assumption))
  k_with "mine zone" => (first | assumption | exact ZIn.inc (by assumption) (by assumption) | exact ZIn.inc (by assumption) Kept.cons)
  k_with "subscriptTail" => (k_here; (with_reducible show wpAny _ _ (subscriptTail _ _ (Value.ref _) (Value.int _ _)) _ _ _); (first | (refine itemL (by k_asm) (by k_mem) (by first | decide | assumption | omega) (by first | decide | with_reducible assumption | omega) (by first | rfl | assumption) ?_ (by with_unfolding_all rfl)) | (refine itemT (by k_asm) (by k_mem) (by first | decide | assumption | omega) (by first | decide | with_reducible assumption | omega) (by first | rfl | assumption) ?_ (by with_unfolding_all rfl))))
  k_with "binaryOp FloorDiv int int" => (k_here; k_dflt (refine floordiv_int (by omega) ?_ (Or.inl (PyProof.noPylong_small (by omega)))))
  k_with "call builtin:len" => (k_here; (with_reducible show wpAny _ _ (call (Value.builtin _) [Value.ref _]) _ _ _); k_dflt (refine lenL (by k_asm) (by k_mem) (by first | assumption | exact refs_len | rfl) (by first | decide | with_reducible assumption | omega) ?_))
  k_with "setItem ref int" => (k_here; (with_reducible show wpAny _ _ (setItem (Value.ref _) (Value.int _ _) _) _ _ _); k_dflt (refine setItemU (by k_asm) (by k_asm) (by k_mem) (by first | decide | assumption | omega) (by first | (simp only [refs_len, List.length_cons, List.length_nil]; omega) | omega) (by first | decide | omega) ?_; intro h' news' F' N' K' M'; (try simp only [Int.reduceToNat, List.set_cons_zero, List.set_cons_succ] at M')))
  k_with "call ref" => (k_here; (with_reducible show wpAny _ _ (call (Value.ref 396) _) _ _ _); k_dflt (refine Con.use (by k_asm) (by k_asm) (by k_asm) (by k_asm) (by k_asm) (by first | exact rfl | assumption) (take_con (by k_mem) (by omega) (by omega) (by omega) (by omega) (by omega)) (by ktr_room) (by ktr_units) ?_; rintro _ _ _ _ _ _ ⟨_, _, _, _, _, _, rfl, _, _, _, _, _, _, _⟩; (try dsimp only)))
  k_with "call ref" => (k_here; (with_reducible show wpAny _ _ (call (Value.ref 35) _) _ _ _); k_dflt (refine Con.use (by k_asm) (by k_asm) (by k_asm) (by k_asm) (by k_asm) (by first | exact rfl | assumption) (wrap32_con (by omega) (by omega)) (by ktr_room) (by ktr_units) ?_; rintro _ _ _ _ _ _ ⟨_, rfl, rfl⟩; (try dsimp only)))
  k_with "call ref" => (k_here; (with_reducible show wpAny _ _ (call (Value.ref 28) _) _ _ _); k_dflt (refine Con.use (by k_asm) (by k_asm) (by k_asm) (by k_asm) (by k_asm) (by first | exact rfl | assumption) (muldiv_con (by omega) (by omega) (by omega) (by omega) (by omega) (by omega)) (by ktr_room) (by ktr_units) ?_; rintro _ _ _ _ _ _ ⟨_, rfl, rfl⟩; (try dsimp only)))
  exact trivial
theorem isl_keep {h₀ h : Heap} {L l : Addr} {m : Str → Option Value} {vs : Array Value} (F : Fr h₀ L h m) (hl : h₀.IsList l vs) : h.IsList l vs := by
  obtain ⟨o, ho, r⟩ := hl
  exact ⟨o, F.keep _ _ ho, r⟩
section
variable {prog : Program} {w : World} {A : Around} {E : Value → Shared → Prop} {s : Shared} {h₀ : Heap} {L l : Addr} {m : Str → Option Value}
theorem lenO {vs : List Value} {n : Nat} {Q : Value → Shared → Prop} (F : Fr h₀ L s.heap m) (hl : h₀.IsList l vs.toArray) (hs : vs.length = n) (hf : n < 2 ^ 62) (h : Q (.int (n : Nat) (s.toks + 1)) { s with toks := s.toks + 1 + 1 }) :
    wpAny (model prog w) A (call (.builtin "len") [.ref l]) Q E s := by
  refine Calls.call_len_list (isl_keep F hl) (by simp only [List.size_toArray]; omega) ?_
  rw [List.size_toArray, hs]
  exact h
theorem itemO {value slice : PySem.Expr} {vs : List Value} {k : Int} {u : Tok} {v : Value} {Q : Value → Shared → Prop} (F : Fr h₀ L s.heap m) (hl : h₀.IsList l vs.toArray)
    (hk0 : 0 ≤ k) (hfit : k < 2 ^ 63) (hx : vs[k.toNat]? = some v) (h : Q v s)
    (hs : subscripted slice false (.ref l) (.int k u) = operate [.ref l, .int k u] (getItem (.ref l) (.int k u)) := by with_unfolding_all rfl) :
    wpAny (model prog w) A (subscriptTail value slice (.ref l) (.int k u)) Q E s := by
  have hl' := isl_keep F hl
  exact tail_any hl'.typeIs slot_list_getitem.lookup (wpAny_getItem_list hl' hk0 hfit (by simpa using hx) h) hs
end
/-- a contract over a base heap of which H holds -/
def ConO (w : World) (mean : ExcName → Option Value) (mg mb : Str → Option Value) (H : Heap → Prop) (f : Addr) (vs : List Value) (d : Nat) (news : Led) (P : Value → Led → Prop) : Prop :=
  ∀ (dp un : Nat) (gd : Option (List Code)) (cn : Str) (cs : Scope) (a : Addr) (ccd : Value) (cl : List (Str × Addr)) (outer : List Env) (A₀ : Around) (base h₀ : Heap) (L : Addr) (m : Str → Option Value) (s : Shared) (Q E : Value → Shared → Prop),
  H h₀ → Below A₀ base outer h₀ → Fr h₀ L s.heap m → (Hd.K w.params).In h₀ → News h₀ L s.heap news → Top Hd.view LW mean mg mb h₀ → cs.kind = .function → dp + d < recursionLimit → un + 8 * d < cLine →
  (∀ r news' h' tk', Fr h₀ L h' m → News h₀ L h' news' → P r news' → Q r { s with heap := h', toks := tk' }) →
  wpAny (model PySem.Challenge.rw_xm0734_01.row.prog w) (ktrTop dp un gd cn cs L a ccd cl outer) (call (.ref f) vs) Q E s
theorem ConO.use {w : World} {mean : ExcName → Option Value} {mg mb : Str → Option Value} {H : Heap → Prop} {f : Addr} {vs : List Value} {d : Nat} {news : Led} {P : Value → Led → Prop}
    {dp un : Nat} {gd : Option (List Code)} {cn : Str} {cs : Scope} {a : Addr} {ccd : Value} {cl : List (Str × Addr)} {outer : List Env} {A₀ : Around} {base h₀ : Heap} {L : Addr} {m : Str → Option Value} {s : Shared} {Q E : Value → Shared → Prop}
    (B : Below A₀ base outer h₀) (F : Fr h₀ L s.heap m) (X : (Hd.K w.params).In h₀) (N : News h₀ L s.heap news) (T : Top Hd.view LW mean mg mb h₀) (hk : cs.kind = .function) (c : ConO w mean mg mb H f vs d news P) (hH : H h₀) (hd : dp + d < recursionLimit) (hu : un + 8 * d < cLine)
    (ret : ∀ r news' h' tk', Fr h₀ L h' m → News h₀ L h' news' → P r news' → Q r { s with heap := h', toks := tk' }) :
    wpAny (model PySem.Challenge.rw_xm0734_01.row.prog w) (ktrTop dp un gd cn cs L a ccd cl outer) (call (.ref f) vs) Q E s :=
  c dp un gd cn cs a ccd cl outer A₀ base h₀ L m s Q E hH B F X N T hk hd hu ret
variable {w : World} {mean : ExcName → Option Value} {mg mb : Str → Option Value}
set_option maxHeartbeats 8000000 in
theorem pool_old {sl : Addr} {vs : List Value} {news : Led} (hi : vs = [] ∨ ∃ c t r, vs = .int c t :: r) (hn : vs.length ≤ 1000) :
    ConO w mean mg mb (fun h => h.IsList sl vs.toArray) 389 [.ref sl] 4 news (fun r news' => ∃ src p q tp tq k, r = .ref src ∧ 0 ≤ p ∧ 0 ≤ q ∧ q < 2147483647 ∧ Kept [] news news' ∧ (src, W.listOf #[.int p tp, .int q tq] k) ∈ news') := by
  unfold ConO
  k_fill
  intro dp un gd cn cs aF ccd cl outer A₀ base h₀ L m s Q E hH B F X N T hk hd hu hret
  rcases hi with rfl | ⟨c, t, r, rfl⟩
  all_goals refine wpAny_call ?_
  · k_dflt ktr_enter
    rename Fr h₀ L _ _ => FG
    have hG := isl_keep FG hH
    repeat' ((fail_if_success (with_reducible show wpAny _ _ (call (Value.builtin "len") _) _ _ _)); (first | walk1 | (dsimp only; walk1)))
    k_dflt (refine lenO (by k_asm) hG rfl (by omega) ?_)
    k_steps
    all_goals exact hret _ _ _ _ (by k_asm) (by k_asm) ⟨_, _, _, _, _, _, rfl, by omega, (fmod_bnd (by decide)).1, (fmod_bnd (by decide)).2, Kept.cons, .head _⟩
  · k_dflt ktr_enter
    rename Fr h₀ L _ _ => FG
    have hG := isl_keep FG hH
    repeat' ((fail_if_success (with_reducible show wpAny _ _ (call (Value.builtin "len") _) _ _ _)); (first | walk1 | (dsimp only; walk1)))
    k_dflt (refine lenO (by k_asm) hG rfl (by omega) ?_)
    repeat' ((fail_if_success (with_reducible show wpAny _ _ (subscriptTail _ _ _ _) _ _ _)); (first | walk1 | (dsimp only; walk1)))
    k_dflt (refine itemO (k := 0) (by k_asm) hG (by decide) (by decide) rfl ?_)
    k_steps
    all_goals exact hret _ _ _ _ (by k_asm) (by k_asm) ⟨_, _, _, _, _, _, rfl, by omega, (fmod_bnd (by decide)).1, (fmod_bnd (by decide)).2, Kept.cons, .head _⟩
end
section
theorem words_C15_1 : True := by
  k_with_none
  k_with "room" => ((simp only [depth_under_make, depth_under_kw, depth_in1, depth_deeper, depth_caller]); exact room_ok (by with_reducible assumption) (by decide))
  k_with "units" => ((simp only [units_in1, units_deeper, Around.mark_units, units_caller, units_under_make]); first | exact units_ok (by with_reducible assumption) (by decide) | (have hcL9 := cLine_is; omega))
  k_with "mem" => (first | (with_reducible assumption) | exact List.mem_cons_self | (refine List.mem_cons_of_mem _ ?_; k_mem) | (refine Kept.none (by with_reducible assumption) ?_; k_mem) | (refine Kept.one (by with_reducible assumption) (by k_mem) (by walk_at "mine ne")))
  k_with "mine ne" => ((try dsimp only); first | assumption | (refine Ne.symm ?_; assumption) | exact led_ne' (by with_reducible assumption) (by with_reducible assumption) inst_ne_list (by with_reducible assumption) | exact led_ne' (by with_reducible assumption) (by with_reducible assumption) dict_ne_list (by with_reducible assumption) | exact led_ne' (by with_reducible assumption) (by with_reducible assumption) tup_ne_list (by with_reducible assumption))
  k_with "mine zone" => (first | assumption | exact ZIn.inc (by assumption) (by assumption) | exact ZIn.inc (by assumption) Kept.cons)
  k_with "subscriptTail" => (k_here; (with_reducible show wpAny _ _ (subscriptTail _ _ (Value.ref _) (Value.int _ _)) _ _ _); (first | (refine itemL (by k_asm) (by k_mem) (by first | decide | assumption | omega) (by first | decide | with_reducible assumption | omega) (by first | rfl | assumption) ?_ (by with_unfolding_all rfl)) | (refine itemT (by k_asm) (by k_mem) (by first | decide | assumption | omega) (by first | decide | with_reducible assumption | omega) (by first | rfl | assumption) ?_ (by with_unfolding_all rfl))))
  k_with "binaryOp FloorDiv int int" => (k_here; k_dflt (refine floordiv_int (by omega) ?_ (Or.inl (PyProof.noPylong_small (by omega)))))
  k_with "call builtin:len" => (k_here; (with_reducible show wpAny _ _ (call (Value.builtin _) [Value.ref _]) _ _ _); k_dflt (refine lenL (by k_asm) (by k_mem) (by first | assumption | exact refs_len | rfl) (by first | decide | with_reducible assumption | omega) ?_))
  k_with "setItem ref int" => (k_here; (with_reducible show wpAny _ _ (setItem (Value.ref _) (Value.int _ _) _) _ _ _); k_dflt (refine setItemU (by k_asm) (by k_asm) (by k_mem) (by first | decide | assumption | omega) (by first | (simp only [refs_len, List.length_cons, List.length_nil]; omega) | omega) (by first | decide | omega) ?_; intro h' news' F' N' K' M'; (try simp only [Int.reduceToNat, List.set_cons_zero, List.set_cons_succ] at M')))
  k_with "call ref" => (k_here; (with_reducible show wpAny _ _ (call (Value.ref 410) _) _ _ _); k_dflt (refine Con.use (by k_asm) (by k_asm) (by k_asm) (by k_asm) (by k_asm) (by first | exact rfl | assumption) (near_con (by omega) (by omega) (by omega) (by omega) (by omega) (by omega) (by assumption)) (by ktr_room) (by ktr_units) ?_; rintro _ _ _ _ _ _ ⟨rfl, rfl⟩; (try dsimp only)))
  exact trivial
variable {w : World} {mean : ExcName → Option Value} {mg mb : Str → Option Value}
theorem near_law {a b : Int} (hb : 0 < b) {q : Int} (hq : q = if a < 0 then 0 - (0 - 2 * a + b).fdiv (2 * b) else (2 * a + b).fdiv (2 * b)) :
    2 * (if a - b * q < 0 then -(a - b * q) else a - b * q) < b ∨ (2 * (if a - b * q < 0 then -(a - b * q) else a - b * q) = b ∧ (if a < 0 then -a else a) < (if b * q < 0 then -(b * q) else b * q)) := by
  have key : ∀ x : Int, ∃ r, 0 ≤ r ∧ r < 2 * b ∧ x = 2 * (b * (x.fdiv (2 * b))) + r := fun x => by
    refine ⟨x.fmod (2 * b), (fmod_bnd (by omega)).1, (fmod_bnd (by omega)).2, ?_⟩
    have := Int.mul_fdiv_add_fmod x (2 * b)
    rw [Int.mul_assoc] at this
    omega
  by_cases h : a < 0
  · rw [if_pos h] at hq
    obtain ⟨r, r0, r1, e⟩ := key (0 - 2 * a + b)
    have eq : b * q = -(b * (0 - 2 * a + b).fdiv (2 * b)) := by rw [hq, Int.zero_sub, Int.mul_neg]
    generalize b * (0 - 2 * a + b).fdiv (2 * b) = y at *
    generalize b * q = z at *
    split <;> split <;> (try split) <;> omega
  · rw [if_neg h] at hq
    obtain ⟨r, r0, r1, e⟩ := key (2 * a + b)
    rw [← hq] at e
    generalize b * q = z at *
    split <;> split <;> (try split) <;> omega
set_option maxHeartbeats 8000000 in
theorem put_is_con {told old f0 f1 l0 l1 : Int} {t t' tf0 tf1 tl0 tl1 : Tok} {a b : Addr} {ka kb : Nat} {news : Led} (ha : (a, tupOf #[.int f0 tf0, .int f1 tf1] ka) ∈ news) (hb : (b, tupOf #[.int l0 tl0, .int l1 tl1] kb) ∈ news)
    (o0 : -1000 ≤ old) (o1 : old ≤ 1000) (f00 : -1000 ≤ f0) (f01 : f0 ≤ 1000) (f10 : -1000 ≤ f1) (f11 : f1 ≤ 1000) (l00 : -1000 ≤ l0) (l01 : l0 ≤ 1000) (l10 : -1000 ≤ l1) (l11 : l1 ≤ 1000) (hfl : f0 ≤ l0) (he : told = dplace old f0 f1 l0 l1) :
    Con w mean mg mb 431 [.int told t, .int old t', .ref a, .ref b] 6 news (fun r news' => r = .bool true ∧ news' = news) := by
  have e1 : old ≤ f0 → told = old + f1 - f0 := fun h => by rw [he]; unfold dplace; rw [if_pos h]
  have e2 : ¬ old ≤ f0 → l0 ≤ old → told = old + l1 - l0 := fun h h' => by rw [he]; unfold dplace; rw [if_neg h, if_pos h']
  have e3 : ¬ old ≤ f0 → ¬ l0 ≤ old → told - f1 = mdv (old - f0) (l1 - f1) (l0 - f0) := fun h h' => by rw [he]; unfold dplace; rw [if_neg h, if_neg h']; omega
  have e4 : ¬ old ≤ f0 → ¬ l0 ≤ old → _ := fun h h' => near_law (a := (old - f0) * (l1 - f1)) (b := l0 - f0) (by omega) (e3 h h')
  clear he
  unfold Con
  k_fill
  intro dp un gd cn cs aF ccd cl outer A₀ base h₀ L m s Q E B F X N T hk hd hu hret
  refine wpAny_call ?_
  k_dflt ktr_enter
  k_steps
  · exact q_true (by rw [beq_iff_eq]; have := e1 (by assumption); omega) (hret _ _ _ _ (by k_asm) (by k_asm) ⟨rfl, rfl⟩)
  · exact q_true (by rw [beq_iff_eq]; have := e2 (by assumption) (by assumption); omega) (hret _ _ _ _ (by k_asm) (by k_asm) ⟨rfl, rfl⟩)
  all_goals (have e5 := e4 (by assumption) (by assumption))
  all_goals (have hb9 : (if l0 - f0 < 0 then -(l0 - f0) else l0 - f0) = l0 - f0 := if_neg (by omega))
  all_goals refine q_true ?_ (hret _ _ _ _ (by k_asm) (by k_asm) ⟨rfl, rfl⟩)
  all_goals (simp only [hb9] at *)
  all_goals generalize (old - f0) * (l1 - f1) = y1 at *
  all_goals generalize (l0 - f0) * (told - f1) = y2 at *
  all_goals (first | rw [decide_eq_true_eq] | rw [beq_iff_eq])
  all_goals omega
end
section
theorem words_C16_1 : True := by
  k_with_none
  k_with "room" => ((simp only [depth_under_make, depth_under_kw, depth_in1, depth_deeper, depth_caller]); exact room_ok (by with_reducible assumption) (by decide))
  k_with "units" => ((simp only [units_in1, units_deeper, Around.mark_units, units_caller, units_under_make]); first | exact units_ok (by with_reducible assumption) (by decide) | (have hcL9 := cLine_is; omega))
  k_with "mem" => (first | (with_reducible assumption) | exact List.mem_cons_self | (refine List.mem_cons_of_mem _ ?_; k_mem) | (refine Kept.none (by with_reducible assumption) ?_; k_mem) | (refine Kept.one (by with_reducible assumption) (by k_mem) (by walk_at "mine ne")))
  k_with "mine ne" => ((try dsimp only); first | assumption | (refine Ne.symm ?_; assumption) | exact led_ne' (by with_reducible assumption) (by with_reducible assumption) inst_ne_list (by with_reducible assumption) | exact led_ne' (by with_reducible assumption) (by with_reducible assumption) dict_ne_list (by with_reducible assumption) | exact led_ne' (by with_reducible assumption) (by with_reducible assumption) tup_ne_list (by with_reducible assumption))
  k_with "mine zone" => (first | assumption | exact ZIn.inc (by assumption) (by assumption) | exact ZIn.inc (by assumption) Kept.cons)
  k_with "subscriptTail" => (k_here; (with_reducible show wpAny _ _ (subscriptTail _ _ (Value.ref _) (Value.int _ _)) _ _ _); (first | (refine itemL (by k_asm) (by k_mem) (by first | decide | assumption | omega) (by first | decide | with_reducible assumption | omega) (by first | rfl | assumption) ?_ (by with_unfolding_all rfl)) | (refine itemT (by k_asm) (by k_mem) (by first | decide | assumption | omega) (by first | decide | with_reducible assumption | omega) (by first | rfl | assumption) ?_ (by with_unfolding_all rfl))))
  k_with "binaryOp FloorDiv int int" => (k_here; k_dflt (refine floordiv_int (by omega) ?_ (Or.inl (PyProof.noPylong_small (by omega)))))
  k_with "call builtin:len" => (k_here; (with_reducible show wpAny _ _ (call (Value.builtin _) [Value.ref _]) _ _ _); k_dflt (refine lenL (by k_asm) (by k_mem) (by first | assumption | exact refs_len | rfl) (by first | decide | with_reducible assumption | omega) ?_))
  k_with "setItem ref int" => (k_here; (with_reducible show wpAny _ _ (setItem (Value.ref _) (Value.int _ _) _) _ _ _); k_dflt (refine setItemU (by k_asm) (by k_asm) (by k_mem) (by first | decide | assumption | omega) (by first | (simp only [refs_len, List.length_cons, List.length_nil]; omega) | omega) (by first | decide | omega) ?_; intro h' news' F' N' K' M'; (try simp only [Int.reduceToNat, List.set_cons_zero, List.set_cons_succ] at M')))
  exact trivial
variable {w : World} {mean : ExcName → Option Value} {mg mb : Str → Option Value}
def bools (n : Nat) (mk : Nat → Bool) : List Value := (List.range n).map fun i => Value.bool (mk i)
theorem bools_len {n mk} : (bools n mk).length = n := by simp [bools]
theorem bools_get {n : Nat} {mk : Nat → Bool} {i : Nat} (h : i < n) : (bools n mk)[i]? = some (.bool (mk i)) := by simp [bools, h]
/-- where the way back stands -/
def BackAt (mk : Nat → Bool) (f l j : Nat) (x : Int) : Prop :=
  ((f : Int) - 1 ≤ x ∧ x < j ∧ ∀ q : Nat, x < q → q < j → f ≤ q → mk q = false) ∨ ((j : Int) ≤ x ∧ x ≤ l ∧ (∀ q, f ≤ q → q < j → mk q = false) ∧ ∀ q : Nat, x < q → q ≤ l → mk q = false)
def backM (f l j : Nat) (x : Int) : Nat := if x < j then (x - f + 1).toNat + (l + 2 - j) else (x + 1 - j).toNat
theorem BackAt.start {mk : Nat → Bool} {f l j : Nat} (h : f ≤ j) : BackAt mk f l j (j + -1) := .inl ⟨by omega, by omega, fun q a b _ => by omega⟩
theorem BackAt.stop {mk : Nat → Bool} {f l j : Nat} {x : Int} (h : BackAt mk f l j x) (h0 : (f : Int) ≤ x) (h1 : x ≤ l) (hm : mk x.toNat = true) : IsPrev mk f l j x.toNat := by
  refine ⟨by omega, by omega, hm, ?_⟩
  rcases h with ⟨a, b, c⟩ | ⟨a, b, c, d⟩
  · exact .inl ⟨by omega, fun q p r => c q (by omega) r (by omega)⟩
  · exact .inr ⟨by omega, c, fun q p r => d q (by omega) r⟩
theorem BackAt.back {mk : Nat → Bool} {f l j : Nat} {x : Int} (h : BackAt mk f l j x) (hj : f ≤ j ∧ j ≤ l) (h0 : (f : Int) ≤ x) (h1 : x ≤ l) (hm : mk x.toNat = false) (ht : ∃ t, f ≤ t ∧ t ≤ l ∧ mk t = true) : BackAt mk f l j (x + -1) ∧ backM f l j (x + -1) < backM f l j x := by
  have hx : ∀ q : Nat, (q : Int) = x → mk q = false := fun q e => by rw [← e] at hm; simpa using hm
  have no : ∀ q, mk q = true → mk q = false → False := fun q a b => by rw [a] at b; cases b
  rcases h with ⟨a, b, c⟩ | ⟨a, b, c, d⟩
  · refine ⟨.inl ⟨by omega, by omega, fun q p r s => ?_⟩, ?_⟩
    · by_cases e : (q : Int) = x
      · exact hx q e
      · exact c q (by omega) r s
    · unfold backM; rw [if_pos (by omega), if_pos (by omega)]; omega
  · obtain ⟨t, t0, t1, t2⟩ := ht
    have hgt : (j : Int) < x := by
      by_cases e : (j : Int) < x
      · exact e
      · exfalso
        by_cases e1 : t < j
        · exact no t t2 (c t t0 e1)
        · by_cases e2 : (t : Int) = x
          · exact no t t2 (hx t e2)
          · exact no t t2 (d t (by omega) t1)
    refine ⟨.inr ⟨by omega, by omega, c, fun q p r => ?_⟩, ?_⟩
    · by_cases e : (q : Int) = x
      · exact hx q e
      · exact d q (by omega) r
    · unfold backM; rw [if_neg (by omega), if_neg (by omega)]; omega
theorem BackAt.wrap {mk : Nat → Bool} {f l j : Nat} {x : Int} (h : BackAt mk f l j x) (hj : f ≤ j ∧ j ≤ l) (hn : ¬ ((f : Int) ≤ x ∧ x ≤ l)) : x < f ∧ BackAt mk f l j l ∧ backM f l j l < backM f l j x := by
  rcases h with ⟨a, b, c⟩ | ⟨a, b, c, d⟩
  · refine ⟨by omega, .inr ⟨by omega, by omega, fun q p r => c q (by omega) r p, fun q p r => by omega⟩, ?_⟩
    unfold backM; rw [if_neg (by omega), if_pos (by omega)]; omega
  · omega
/-- where the way on stands -/
def OnAt (mk : Nat → Bool) (f l j : Nat) (x : Int) : Prop :=
  ((j : Int) < x ∧ x ≤ l + 1 ∧ ∀ q : Nat, j < q → q < x → q ≤ l → mk q = false) ∨ ((f : Int) ≤ x ∧ x ≤ j ∧ (∀ q, j < q → q ≤ l → mk q = false) ∧ ∀ q : Nat, f ≤ q → q < x → mk q = false)
def onM (f l j : Nat) (x : Int) : Nat := if j < x then (l + 1 - x).toNat + (j + 2 - f) else (j + 1 - x).toNat
theorem OnAt.start {mk : Nat → Bool} {f l j : Nat} (h : j ≤ l) : OnAt mk f l j (j + 1) := .inl ⟨by omega, by omega, fun q a b _ => by omega⟩
theorem OnAt.stop {mk : Nat → Bool} {f l j : Nat} {x : Int} (h : OnAt mk f l j x) (h0 : (f : Int) ≤ x) (h1 : x ≤ l) (hm : mk x.toNat = true) : IsNext mk f l j x.toNat := by
  refine ⟨by omega, by omega, hm, ?_⟩
  rcases h with ⟨a, b, c⟩ | ⟨a, b, c, d⟩
  · exact .inl ⟨by omega, fun q p r => c q p (by omega) (by omega)⟩
  · exact .inr ⟨by omega, c, fun q p r => d q p (by omega)⟩
theorem OnAt.on {mk : Nat → Bool} {f l j : Nat} {x : Int} (h : OnAt mk f l j x) (hj : f ≤ j ∧ j ≤ l) (h0 : (f : Int) ≤ x) (h1 : x ≤ l) (hm : mk x.toNat = false) (ht : ∃ t, f ≤ t ∧ t ≤ l ∧ mk t = true) : OnAt mk f l j (x + 1) ∧ onM f l j (x + 1) < onM f l j x := by
  have hx : ∀ q : Nat, (q : Int) = x → mk q = false := fun q e => by rw [← e] at hm; simpa using hm
  have no : ∀ q, mk q = true → mk q = false → False := fun q a b => by rw [a] at b; cases b
  rcases h with ⟨a, b, c⟩ | ⟨a, b, c, d⟩
  · refine ⟨.inl ⟨by omega, by omega, fun q p r s => ?_⟩, ?_⟩
    · by_cases e : (q : Int) = x
      · exact hx q e
      · exact c q p (by omega) s
    · unfold onM; rw [if_pos (by omega), if_pos (by omega)]; omega
  · obtain ⟨t, t0, t1, t2⟩ := ht
    have hgt : x < (j : Int) := by
      by_cases e : x < (j : Int)
      · exact e
      · exfalso
        by_cases e1 : j < t
        · exact no t t2 (c t e1 t1)
        · by_cases e2 : (t : Int) = x
          · exact no t t2 (hx t e2)
          · exact no t t2 (d t t0 (by omega))
    refine ⟨.inr ⟨by omega, by omega, c, fun q p r => ?_⟩, ?_⟩
    · by_cases e : (q : Int) = x
      · exact hx q e
      · exact d q p (by omega)
    · unfold onM; rw [if_neg (by omega), if_neg (by omega)]; omega
theorem OnAt.wrap {mk : Nat → Bool} {f l j : Nat} {x : Int} (h : OnAt mk f l j x) (hj : f ≤ j ∧ j ≤ l) (hn : ¬ ((f : Int) ≤ x ∧ x ≤ l)) : ¬ x < f ∧ OnAt mk f l j f ∧ onM f l j f < onM f l j x := by
  rcases h with ⟨a, b, c⟩ | ⟨a, b, c, d⟩
  · refine ⟨by omega, .inr ⟨by omega, by omega, fun q p r => c q p (by omega) r, fun q p r => by omega⟩, ?_⟩
    unfold onM; rw [if_neg (by omega), if_pos (by omega)]; omega
  · omega
section
variable {prog : Program} {w : World} {A : Around} {E : Value → Shared → Prop} {Q : Flow → Shared → Prop} {s : Shared} {env : Env} {h₀ : Heap} {L : Addr}
def OneName (x : Str) (m₀ : Str → Option Value) (J : Nat → Value → Led → Prop) (k : Nat) (m : Str → Option Value) (nx : Led) : Prop := ∃ v, m = (fun y => if y = x then some v else m₀ y) ∧ J k v nx
theorem While_x {test : Expr} {body : List Stmt} {pos : Pos} {x : Str} {v₀ : Value} {m₀ : Str → Option Value} {news : Led} (J : Nat → Value → Led → Prop) {n₀ : Nat} (F : Fr h₀ L s.heap (fun y => if y = x then some v₀ else m₀ y)) (N : News h₀ L s.heap news) (hJ : J n₀ v₀ news)
    (turn : ∀ n v nx h₁ tk₁, Fr h₀ L h₁ (fun y => if y = x then some v else m₀ y) → News h₀ L h₁ nx → J n v nx →
      wpAny (model prog w) A (isTrue test env (eval test env)) (fun b s₂ =>
        if b = true then wpAny (model prog w) A (execs body env) (WhileStep h₀ L s (OneName x m₀ J) n) E s₂ else Q .next s₂) E { s with heap := h₁, toks := tk₁ })
    (hE : PassesOwn (model prog w) A env E := by passes_own) :
    wpAny (model prog w) A (exec (.While test body [] pos) env) Q E s :=
  While_inv (OneName x m₀ J) F N ⟨v₀, rfl, hJ⟩ (fun n m₁ nx h₁ tk₁ F₁ N₁ ⟨v, e, j⟩ => by subst e; exact turn n v nx h₁ tk₁ F₁ N₁ j) hE
theorem OneName.twice {x : Str} {v v' : Value} {m₀ : Str → Option Value} {J : Nat → Value → Led → Prop} {k : Nat} {nx : Led} (j : J k v' nx) : OneName x m₀ J k (fun y => if y = x then some v' else if y = x then some v else m₀ y) nx :=
  ⟨v', funext fun y => by split <;> rfl, j⟩
end
set_option maxHeartbeats 8000000 in
theorem prev_con {lm : Addr} {n f l j km : Nat} {mk : Nat → Bool} {tj tw tf tl : Tok} {news : Led} (hm : (lm, W.listOf (bools n mk).toArray km) ∈ news) (hn : n ≤ 1000) (hl : l < n) (hj : f ≤ j ∧ j ≤ l) (ht : ∃ t, f ≤ t ∧ t ≤ l ∧ mk t = true) :
    Con w mean mg mb 424 [.ref lm, .int j tj, .int (-1) tw, .int f tf, .int l tl] 4 news (fun r news' => (∃ p : Nat, ∃ t, r = .int p t ∧ IsPrev mk f l j p) ∧ news' = news) := by
  unfold Con
  k_fill
  intro dp un gd cn cs aF ccd cl outer A₀ base h₀ L m s Q E B F X N T hk hd hu hret
  refine wpAny_call ?_
  k_dflt ktr_enter
  repeat' ((fail_if_success (with_reducible show wpAny _ _ (exec (.While _ _ _ _) _) _ _ _)); (first | walk1 | (dsimp only; walk1)))
  rename Fr _ _ _ _ => FW
  rename News _ _ _ _ => NW
  refine While_x (n₀ := backM f l j (j + -1)) (fun k v nx => nx = news ∧ ∃ x t, v = .int x t ∧ BackAt mk f l j x ∧ k = backM f l j x) FW NW ⟨rfl, _, _, rfl, BackAt.start hj.1, rfl⟩ ?_
  rintro k v nx h2 tk2 F2 N2 ⟨rfl, x, t, rfl, hb, rfl⟩
  by_cases hin : (f : Int) ≤ x ∧ x ≤ l
  · obtain ⟨x0, x1⟩ := hin
    have hg := bools_get (n := n) (mk := mk) (i := x.toNat) (by omega)
    cases hmk : mk x.toNat with
    | true =>
      rw [hmk] at hg
      k_steps
      exact hret _ _ _ _ (by k_asm) (by k_asm) ⟨⟨x.toNat, t, by rw [Int.toNat_of_nonneg (by omega)], hb.stop x0 x1 hmk⟩, rfl⟩
    | false =>
      rw [hmk] at hg
      k_steps
      exact WhileStep.intro (by k_asm) (by k_asm) (hb.back hj x0 x1 hmk ht).2 (OneName.twice ⟨rfl, _, _, rfl, (hb.back hj x0 x1 hmk ht).1, rfl⟩)
  · have hw := hb.wrap hj hin
    k_steps
    exact WhileStep.intro (by k_asm) (by k_asm) hw.2.2 (OneName.twice ⟨rfl, _, _, rfl, hw.2.1, rfl⟩)
set_option maxHeartbeats 8000000 in
theorem next_con {lm : Addr} {n f l j km : Nat} {mk : Nat → Bool} {tj tw tf tl : Tok} {news : Led} (hm : (lm, W.listOf (bools n mk).toArray km) ∈ news) (hn : n ≤ 1000) (hl : l < n) (hj : f ≤ j ∧ j ≤ l) (ht : ∃ t, f ≤ t ∧ t ≤ l ∧ mk t = true) :
    Con w mean mg mb 424 [.ref lm, .int j tj, .int 1 tw, .int f tf, .int l tl] 4 news (fun r news' => (∃ p : Nat, ∃ t, r = .int p t ∧ IsNext mk f l j p) ∧ news' = news) := by
  unfold Con
  k_fill
  intro dp un gd cn cs aF ccd cl outer A₀ base h₀ L m s Q E B F X N T hk hd hu hret
  refine wpAny_call ?_
  k_dflt ktr_enter
  repeat' ((fail_if_success (with_reducible show wpAny _ _ (exec (.While _ _ _ _) _) _ _ _)); (first | walk1 | (dsimp only; walk1)))
  rename Fr _ _ _ _ => FW
  rename News _ _ _ _ => NW
  refine While_x (n₀ := onM f l j (j + 1)) (fun k v nx => nx = news ∧ ∃ x t, v = .int x t ∧ OnAt mk f l j x ∧ k = onM f l j x) FW NW ⟨rfl, _, _, rfl, OnAt.start hj.2, rfl⟩ ?_
  rintro k v nx h2 tk2 F2 N2 ⟨rfl, x, t, rfl, hb, rfl⟩
  by_cases hin : (f : Int) ≤ x ∧ x ≤ l
  · obtain ⟨x0, x1⟩ := hin
    have hg := bools_get (n := n) (mk := mk) (i := x.toNat) (by omega)
    cases hmk : mk x.toNat with
    | true =>
      rw [hmk] at hg
      k_steps
      exact hret _ _ _ _ (by k_asm) (by k_asm) ⟨⟨x.toNat, t, by rw [Int.toNat_of_nonneg (by omega)], hb.stop x0 x1 hmk⟩, rfl⟩
    | false =>
      rw [hmk] at hg
      k_steps
      exact WhileStep.intro (by k_asm) (by k_asm) (hb.on hj x0 x1 hmk ht).2 (OneName.twice ⟨rfl, _, _, rfl, (hb.on hj x0 x1 hmk ht).1, rfl⟩)
  · have hw := hb.wrap hj hin
    k_steps
    exact WhileStep.intro (by k_asm) (by k_asm) hw.2.2 (OneName.twice ⟨rfl, _, _, rfl, hw.2.1, rfl⟩)
end
section
theorem words_C7_1 : True := by
  k_with_none
  k_with "room" => ((simp only [depth_under_make, depth_under_kw, depth_in1, depth_deeper, depth_caller]); exact room_ok (by with_reducible assumption) (by decide))
  k_with "units" => ((simp only [units_in1, units_deeper, Around.mark_units, units_caller, units_under_make]); first | exact units_ok (by with_reducible assumption) (by decide) | (have hcL9 := cLine_is; omega))
  k_with "mem" => (first | (with_reducible assumption) | exact List.mem_cons_self | (refine List.mem_cons_of_mem _ ?_; k_mem) | (refine Kept.none (by with_reducible assumption) ?_; k_mem) | (refine Kept.one (by with_reducible assumption) (by k_mem) (by walk_at "mine ne")))
  k_with "mine ne" => ((try dsimp only); first | assumption | (refine Ne.symm ?_; assumption) | exact led_ne' (by with_reducible assumption) (by with_reducible assumption) inst_ne_list (by with_reducible assumption) | exact led_ne' (by with_reducible assumption) (by with_reducible assumption) dict_ne_list (by with_reducible assumption) | exact led_ne' (by with_reducible assumption) (by with_reducible assumption) tup_ne_list (by with_reducible assumption))
  k_with "mine zone" => (first | assumption | exact ZIn.inc (by assumption) (by assumption) | exact ZIn.inc (by assumption) Kept.cons)
  k_with "subscriptTail" => (k_here; (with_reducible show wpAny _ _ (subscriptTail _ _ (Value.ref _) (Value.int _ _)) _ _ _); (first | (refine itemL (by k_asm) (by k_mem) (by first | decide | assumption | omega) (by first | decide | with_reducible assumption | omega) (by first | rfl | assumption) ?_ (by with_unfolding_all rfl)) | (refine itemT (by k_asm) (by k_mem) (by first | decide | assumption | omega) (by first | decide | with_reducible assumption | omega) (by first | rfl | assumption) ?_ (by with_unfolding_all rfl))))
  k_with "binaryOp FloorDiv int int" => (k_here; k_dflt (refine floordiv_int (by omega) ?_ (Or.inl (PyProof.noPylong_small (by omega)))))
  k_with "call builtin:len" => (k_here; (with_reducible show wpAny _ _ (call (Value.builtin _) [Value.ref _]) _ _ _); k_dflt (refine lenL (by k_asm) (by k_mem) (by first | assumption | exact refs_len | rfl) (by first | decide | with_reducible assumption | omega) ?_))
  k_with "setItem ref int" => (k_here; (with_reducible show wpAny _ _ (setItem (Value.ref _) (Value.int _ _) _) _ _ _); k_dflt (refine setItemU (by k_asm) (by k_asm) (by k_mem) (by first | decide | assumption | omega) (by first | (simp only [refs_len, List.length_cons, List.length_nil]; omega) | omega) (by first | decide | omega) ?_; intro h' news' F' N' K' M'; (try simp only [Int.reduceToNat, List.set_cons_zero, List.set_cons_succ] at M')))
  k_with "call ref" => (k_here; (with_reducible show wpAny _ _ (call (Value.ref 396) _) _ _ _); k_dflt (refine Con.use (by k_asm) (by k_asm) (by k_asm) (by k_asm) (by k_asm) (by first | exact rfl | assumption) (take_con (by k_mem) (by omega) (by omega) (by omega) (by omega) (by omega)) (by ktr_room) (by ktr_units) ?_; rintro _ _ _ _ _ _ ⟨_, _, _, _, _, _, rfl, _, _, _, _, _, _, _⟩; (try dsimp only)))
  k_with "call ref" => (k_here; (with_reducible show wpAny _ _ (call (Value.ref 35) _) _ _ _); k_dflt (refine Con.use (by k_asm) (by k_asm) (by k_asm) (by k_asm) (by k_asm) (by first | exact rfl | assumption) (wrap32_con (by omega) (by omega)) (by ktr_room) (by ktr_units) ?_; rintro _ _ _ _ _ _ ⟨_, rfl, rfl⟩; (try dsimp only)))
  k_with "call ref" => (k_here; (with_reducible show wpAny _ _ (call (Value.ref 28) _) _ _ _); k_dflt (refine Con.use (by k_asm) (by k_asm) (by k_asm) (by k_asm) (by k_asm) (by first | exact rfl | assumption) (muldiv_con (by omega) (by omega) (by omega) (by omega) (by omega) (by omega)) (by ktr_room) (by ktr_units) ?_; rintro _ _ _ _ _ _ ⟨_, rfl, rfl⟩; (try dsimp only)))
  k_with "call ref" => (k_here; (with_reducible show wpAny _ _ (call (Value.ref 333) _) _ _ _); k_dflt (refine Con.use (by k_asm) (by k_asm) (by k_asm) (by k_asm) (by k_asm) (by first | exact rfl | assumption) (held_con (by k_mem) (by omega) (by omega) (by omega) (by omega)) (by ktr_room) (by ktr_units) ?_; rintro _ _ _ _ _ _ ⟨_, rfl, _, _, _, _, _⟩; (try dsimp only)))
  k_with "call ref" => (k_here; (with_reducible show wpAny _ _ (call (Value.ref 354) _) _ _ _); k_dflt (refine Con.use (by k_asm) (by k_asm) (by k_asm) (by k_asm) (by k_asm) (by first | exact rfl | assumption) (count_con (by walk_at "mine zone") (by rfl) (by omega)) (by ktr_room) (by ktr_units) ?_; rintro _ _ _ _ _ _ ⟨_, rfl, rfl⟩; (try dsimp only)))
  k_with "call ref" => (k_here; (with_reducible show wpAny _ _ (call (Value.ref 361) _) _ _ _); k_dflt (refine Con.use (by k_asm) (by k_asm) (by k_asm) (by k_asm) (by k_asm) (by first | exact rfl | assumption) (check_con (by walk_at "mine zone") (by rfl) (by omega) (by omega) (by omega)) (by ktr_room) (by ktr_units) ?_; rintro _ _ _ _ _ _ ⟨rfl, rfl⟩; (try dsimp only)))
  k_with "call ref" => (k_here; (with_reducible show wpAny _ _ (call (Value.ref 368) _) _ _ _); k_dflt (refine Con.use (by k_asm) (by k_asm) (by k_asm) (by k_asm) (by k_asm) (by first | exact rfl | assumption) (put_con (by walk_at "mine zone") (by rfl) (by omega) (by omega) (by omega) (by k_mem) (by omega) (by omega) (by omega) (by omega)) (by ktr_room) (by ktr_units) ?_; rintro _ _ _ _ _ _ ⟨rfl, _, _, _⟩; (try dsimp only)))
  k_with "call ref" => (k_here; (with_reducible show wpAny _ _ (call (Value.ref 42) _) _ _ _); k_dflt (refine Con.use (by k_asm) (by k_asm) (by k_asm) (by k_asm) (by k_asm) (by first | exact rfl | assumption) (drawn_con (by k_mem) (by k_mem) (by omega) (by omega) (by omega) (by omega) (by omega) (by omega) (by omega) (by omega) (by omega) (by omega)) (by ktr_room) (by ktr_units) ?_; rintro _ _ _ _ _ _ ⟨_, rfl, rfl⟩; (try dsimp only)))
  k_with "call ref" => (k_here; (with_reducible show wpAny _ _ (call (Value.ref 56) _) _ _ _); k_dflt (refine Con.use (by k_asm) (by k_asm) (by k_asm) (by k_asm) (by k_asm) (by first | exact rfl | assumption) (pair_con (by walk_at "mine zone") (by rfl) (by omega) (by omega) (by omega) (by assumption)) (by ktr_room) (by ktr_units) ?_; rintro _ _ _ _ _ _ ⟨_, rfl, _, _, _, _, _⟩; (try dsimp only)))
  k_with "call ref" => (k_here; (with_reducible show wpAny _ _ (call (Value.ref 49) _) _ _ _); k_dflt (refine Con.use (by k_asm) (by k_asm) (by k_asm) (by k_asm) (by k_asm) (by first | exact rfl | assumption) (part_con (by walk_at "mine zone") (by rfl) (by omega) (by omega) (by omega) (by assumption) (by omega) (by omega) (by omega) (by omega) (by omega) (by omega)) (by ktr_room) (by ktr_units) ?_; rintro _ _ _ _ _ _ ⟨rfl, _, _, _⟩; (try dsimp only)))
  k_with "eval Name" => (k_here; k_inBlock; k_dflt (first | (refine comp_local2 (by rfl) (by rfl) (by decide) (by with_reducible assumption) (by with_reducible assumption) (by k_mem) (by k_asm) ?_) | (refine comp_cell2 (by rfl) (by rfl) (by decide) (by rfl) (by k_mem) (by with_reducible assumption) (by k_asm) ?_)))
  k_with "mine assign" => (k_dflt (refine comp_assign (by k_asm) (by with_unfolding_all rfl) (by with_unfolding_all rfl) (by with_unfolding_all rfl) (by decide) (by with_unfolding_all rfl) (by decide) (by with_unfolding_all rfl) (by with_unfolding_all rfl) (by with_unfolding_all rfl) ?_ (by intro _; with_unfolding_all rfl)))
  k_with "mine comp" => (k_dflt (refine comp_eval (by k_asm) (by with_unfolding_all rfl) (by decide) (by with_unfolding_all rfl) (by decide) (by with_unfolding_all rfl) ?_ (by intro _; with_unfolding_all rfl)))
  k_with "mine to assign" => (repeat' ((fail_if_success (with_reducible show wpAny _ _ (exec (.Assign [_] (.ListComp _ _ _ _) _) _) _ _ _)); (first | walk1 | (dsimp only; walk1))))
  k_with "mine to comp" => (repeat' ((fail_if_success (with_reducible show wpAny _ _ (eval (.ListComp _ _ _ _) _) _ _ _)); (first | walk1 | (dsimp only; walk1))))
  k_with "call type:list" => (k_here; (with_reducible show wpAny _ _ (call (Value.type "list") [Value.ref _]) _ _ _); k_dflt (refine kll_range (by exact rfl) (by k_asm) (by k_asm) (by assumption) (by exact rng_small (by first | with_reducible assumption | omega) (by first | with_reducible assumption | omega) (by first | with_reducible assumption | omega) (by first | with_reducible assumption | omega)) (by exact rangeSize_nat _ _) (by first | with_reducible assumption | omega) ?_; intro _ _ _ _ _ _ _ _ _))
  k_with "binaryOp Add ref ref" => (k_here; k_dflt (refine addL (by k_asm) (by k_asm) (by k_mem) (by k_mem) (by first | omega | (have hq1 := IntsAre.length (by assumption); omega) | (simp only [List.length_map, List.length_range, refs_len, List.length_cons, List.length_nil]; first | with_reducible assumption | omega)) ?_; intro _ _ _ _ _))
  k_with "mine to 63" => (repeat' ((fail_if_success (with_reducible show wpAny _ _ (call (Value.ref 63) _) _ _ _)); (first | walk1 | (dsimp only; walk1))))
  exact trivial
variable {w : World} {mean : ExcName → Option Value} {mg mb : Str → Option Value}
def ZRep.mark (Z : ZRep) (axis : Int) (j : Nat) : Bool := if axis = 0 then Z.b0 j else Z.b1 j
def Final (Z Z' : ZRep) (axis : Int) (f l : Nat) : Prop := ∀ j, j < Z.n →
  (Open (Z.mark axis) f l j → co (1 - axis) (Z'.cx j) (Z'.cy j) = co (1 - axis) (Z.cx j) (Z.cy j) ∧
    ∀ p q, IsPrev (Z.mark axis) f l j p → IsNext (Z.mark axis) f l j q → co axis (Z'.cx j) (Z'.cy j) = between Z axis p q (co axis (Z.ox j) (Z.oy j))) ∧
  (¬ Open (Z.mark axis) f l j → Z'.cx j = Z.cx j ∧ Z'.cy j = Z.cy j)

theorem CSmall.weak {Z : ZRep} {k k' : Int} {i : Nat} (h : CSmall Z k i) (hk : k ≤ k') : CSmall Z k' i := by
  obtain ⟨a, b, c, d⟩ := h
  exact ⟨by omega, by omega, by omega, by omega⟩
theorem final_none {Z : ZRep} {axis : Int} {f l : Nat} (h : ∀ t, f ≤ t → t ≤ l → Z.mark axis t = false) : Final Z Z axis f l := by
  intro j _
  refine ⟨fun ho => ?_, fun _ => ⟨rfl, rfl⟩⟩
  obtain ⟨_, _, _, t, a, b, c⟩ := ho
  rw [h t a b] at c
  cases c
/-- the arcs below at are done, all else stands -/
def ArcDone (Z Z' : ZRep) (axis : Int) (tt : Nat → Nat) (len f l at_ : Nat) : Prop := ∀ j, j < Z.n →
  ((∃ k, k < at_ ∧ InArc tt len f l k j) → co (1 - axis) (Z'.cx j) (Z'.cy j) = co (1 - axis) (Z.cx j) (Z.cy j) ∧ ∃ k, k < at_ ∧ InArc tt len f l k j ∧ co axis (Z'.cx j) (Z'.cy j) = between Z axis (tt k) (tt ((k + 1) % len)) (co axis (Z.ox j) (Z.oy j))) ∧
  ((¬ ∃ k, k < at_ ∧ InArc tt len f l k j) → Z'.cx j = Z.cx j ∧ Z'.cy j = Z.cy j)
theorem ArcDone.start {Z : ZRep} {axis : Int} {tt : Nat → Nat} {len f l : Nat} : ArcDone Z Z axis tt len f l 0 := fun j _ => ⟨fun ⟨k, h, _⟩ => absurd h (Nat.not_lt_zero _), fun _ => ⟨rfl, rfl⟩⟩
theorem ArcDone.final {Z Z' : ZRep} {axis : Int} {tt : Nat → Nat} {len f l : Nat} (M : Marks (Z.mark axis) f l tt len) (h : ArcDone Z Z' axis tt len f l len) : Final Z Z' axis f l := fun j hj => by
  have hj' := h j hj
  refine ⟨fun ho => ?_, fun hn => hj'.2 fun ⟨k, hk, ha⟩ => hn (M.arc_open hk ha)⟩
  obtain ⟨k0, hk0, ha0⟩ := M.cover ho
  obtain ⟨h1, k, hk, ha, e⟩ := hj'.1 ⟨k0, hk0, ha0⟩
  refine ⟨h1, fun p q hp hq => ?_⟩
  rw [M.arc_prev hk ha hp, M.arc_next hk ha hq]
  exact e
/-- marked ones stand -/
theorem ArcDone.mark {Z Z' : ZRep} {axis : Int} {tt : Nat → Nat} {len f l at_ k : Nat} (M : Marks (Z.mark axis) f l tt len) (h : ArcDone Z Z' axis tt len f l at_) (ha : at_ ≤ len) (hk : k < len) (hl : l < Z.n) : Z'.cx (tt k) = Z.cx (tt k) ∧ Z'.cy (tt k) = Z.cy (tt k) := by
  have ht := M.at hk
  refine (h (tt k) (by omega)).2 fun ⟨i, hi, hai⟩ => ?_
  have := (M.arc_open (by omega) hai).2.2.1
  rw [ht.2.2] at this
  cases this
theorem ArcDone.step {Z : ZRep} {ca ca' : Nat → Addr} {cx cy cx' cy' : Nat → Int} {axis : Int} {tt : Nat → Nat} {len f l at_ : Nat} {S : Nat → Prop} (M : Marks (Z.mark axis) f l tt len) (h : ArcDone Z (Z.mv ca cx cy) axis tt len f l at_) (ha : at_ < len) (hl : l < Z.n)
    (d : Drawn (Z.mv ca cx cy) (Z.mv ca' cx' cy') axis S (fun j => between (Z.mv ca cx cy) axis (tt at_) (tt ((at_ + 1) % len)) (co axis (Z.ox j) (Z.oy j)))) (hS : ∀ j, S j ↔ InArc tt len f l at_ j) :
    ArcDone Z (Z.mv ca' cx' cy') axis tt len f l (at_ + 1) := by
  intro j hj
  have hj1 := h j hj
  have hj2 := d j hj
  have m1 := ArcDone.mark M h (Nat.le_of_lt ha) ha hl
  have m2 := ArcDone.mark M h (Nat.le_of_lt ha) (k := (at_ + 1) % len) (Nat.mod_lt _ (by omega)) hl
  have eb : ∀ o, between (Z.mv ca cx cy) axis (tt at_) (tt ((at_ + 1) % len)) o = between Z axis (tt at_) (tt ((at_ + 1) % len)) o := fun o => by
    unfold between
    rw [m1.1, m1.2, m2.1, m2.2]
  by_cases hs : S j
  · have a1 := hj2.1 hs
    have hin := (hS j).mp hs
    refine ⟨fun _ => ⟨?_, at_, Nat.lt_succ_self _, hin, a1.1.trans (eb _)⟩, fun hn => absurd ⟨at_, Nat.lt_succ_self _, hin⟩ hn⟩
    refine a1.2.trans ?_
    by_cases hd : ∃ k, k < at_ ∧ InArc tt len f l k j
    · exact (hj1.1 hd).1
    · show co (1 - axis) ((Z.mv ca cx cy).cx j) ((Z.mv ca cx cy).cy j) = _
      rw [(hj1.2 hd).1, (hj1.2 hd).2]
  · have a2 := hj2.2 hs
    have e1 : (Z.mv ca' cx' cy').cx j = (Z.mv ca cx cy).cx j := a2.1
    have e2 : (Z.mv ca' cx' cy').cy j = (Z.mv ca cx cy).cy j := a2.2
    have eq : (∃ k, k < at_ + 1 ∧ InArc tt len f l k j) ↔ ∃ k, k < at_ ∧ InArc tt len f l k j := by
      constructor
      · rintro ⟨k, hk, hk'⟩
        rcases Nat.lt_or_eq_of_le (Nat.le_of_lt_succ hk) with h3 | h3
        · exact ⟨k, h3, hk'⟩
        · subst h3; exact absurd ((hS j).mpr hk') hs
      · rintro ⟨k, hk, hk'⟩; exact ⟨k, by omega, hk'⟩
    rw [e1, e2, eq]
    refine ⟨fun hd => ?_, hj1.2⟩
    obtain ⟨b1, k, hk, b2, b3⟩ := hj1.1 hd
    exact ⟨b1, k, by omega, b2, b3⟩
theorem mark_get {axis : Int} {x y : Bool} (h : axis = 0 ∨ axis = 1) : ([Value.bool x, Value.bool y] : List Value)[axis.toNat]? = some (.bool (if axis = 0 then x else y)) := by
  rcases h with rfl | rfl <;> rfl

set_option maxHeartbeats 8000000 in
theorem draw_con {Z : ZRep} {news : Led} {axis first last : Int} {ta tf tl : Tok} (hz : ZIn news Z) {z : Addr} (ez : z = Z.z) (hn : Z.n ≤ 1000) (hO : OSmall Z) (hC : ∀ j, j < Z.n → CSmall Z 1000 j) (hx : axis = 0 ∨ axis = 1)
    (f0 : 0 ≤ first) (fl : first ≤ last) (lN : last < Z.n) :
    Con w mean mg mb 68 [.ref z, .int axis ta, .int first tf, .int last tl] 14 news (fun r news' => r = .none ∧ Kept [Z.lc] news news' ∧ ∃ Z', Moved Z Z' ∧ ZIn news' Z' ∧ Final Z Z' axis first.toNat last.toNat) := by
  subst ez
  obtain ⟨h1, h2, h3, h4, h5, k1, k2, k3, k4, k5, k, hdd⟩ := hz.dict
  obtain ⟨kt, htl⟩ := hz.tl
  have hob := hz.obj
  obtain ⟨hx0, hx1⟩ := ax_bnd hx
  have hn9 : (Z.n : Int) ≤ 1000 := Int.ofNat_le.mpr hn
  have lNn : last.toNat < Z.n := (Int.toNat_lt (Int.le_trans f0 fl)).mpr lN
  have b1 : -1000000 ≤ last + 1 := lo_nn (Int.le_add_one (Int.le_trans f0 fl))
  have b2 : last + 1 ≤ 1000000 := dr_hi lN hn9
  have b3 : -1000000 ≤ first := lo_nn f0
  have b4 : first ≤ 1000000 := Int.le_trans fl (dr_hi0 lN hn9)
  unfold Con
  k_fill
  intro dp un gd cn cs aF ccd cl outer A₀ base h₀ L m s Q E B F X N T hk hd hu hret
  refine wpAny_call ?_
  k_dflt (refine' code_defC ?k1 ?k2 ?k3 ?k4 ?k5 ?kA ?kF ?kK ?k6 ?k7 ?k8 ?k9 ?kB ?kD ?_ ?c2 ?c3 ?c4; (case kA => exact rfl); (case kF => exact rfl); (case kK => assumption); (case k1 => k_asm); (case k2 => k_asm); (case k3 => k_asm); (case k4 => k_asm); (case k5 => k_asm); (case k6 => k_is); (case k7 => k_is); (case k8 => ktr_room); (case k9 => exact BindsTo.of_eq rfl); (case kB => exact rfl); (case kD => decide +kernel); (case c2 => exact rfl); (case c3 => exact rfl); (case c4 => exact rfl); k_whole; intro g' L' h' tk' cells' FG' F' N' Y' B' X' T' l1; k_cells Y'; (try simp only [List.cons_append, List.nil_append] at N'); (try dsimp only); (try k_lift B'); (try k_fold))
  rename_i o1 o2 d1 d2
  walk_at "mine to assign"
  walk_at "mine assign"
  k_steps
  refine ⟨_, _, (last + 1 - first).toNat, _, fun X i ys nx => Kept [] ((L' + 1 + 1, o1) :: (L' + 1, o2) :: news) nx ∧ IntsAre ys ((sel (Z.mark axis) first.toNat i).map (Nat.cast : Nat → Int)), src_range rfl (by assumption) (rng_small b3 b4 b1 b2) (rangeSize_nat _ _) (by k_asm) (by k_asm), ⟨sz (dr_len f0 lN) hn, ?_, ?_, ?_⟩, ?_⟩
  · exact fun X i ys nx nx' h j => ⟨fun p hp hn => h p (j.1 p hp hn) (.inr hp), j.2⟩
  · exact fun X h => ⟨Kept.refl, .nil⟩
  · rintro I C D i v ys nx h tk io oC kD m₂ E' hi ⟨_, t9, rfl⟩ hio hI hCm hCn hv hD _ ⟨hk1, hys⟩ F1 N1 hfr
    have hlt : first + (i : Int) < Z.n := dr_lt lN hi
    have hin : (first + (i : Int)).toNat < Z.n := dr_in f0 hlt
    have hk0 : 0 ≤ first + (i : Int) := Int.add_nonneg f0 (nn i)
    have hk9 : first + (i : Int) < 2 ^ 63 := fit hlt hn
    have g1 : (refs Z.n Z.ta)[(first + (i : Int)).toNat]? = some (.ref (Z.ta (first + (i : Int)).toNat)) := refs_get hin
    obtain ⟨kb, hb⟩ := hz.tp _ hin
    have m0 := hk1.none (.tail _ (.tail _ hob))
    have m1 := hk1.none (.tail _ (.tail _ hdd))
    have m2 := hk1.none (.tail _ (.tail _ htl))
    have m3 := hk1.none (.tail _ (.tail _ hb))
    have m4 := hk1.none (.head _)
    have m5 := hk1.none (.tail _ (.head _))
    have g2 := mark_get (x := Z.b0 (first + (i : Int)).toNat) (y := Z.b1 (first + (i : Int)).toNat) hx
    have eT : (first + (i : Int)).toNat = first.toNat + i := toNat_add f0
    refine tests_one ?_
    k_steps
    refine CStep.intro (by k_asm) (by k_asm) (keep3 hI hCm hD) ?_
    cases hmk : (if axis = 0 then Z.b0 (first + (i : Int)).toNat else Z.b1 (first + (i : Int)).toNat) with
    | false =>
      simp only [Bool.false_eq_true, if_false]
      refine ⟨hk1, ?_⟩
      rw [sel_succ, if_neg (by rw [← eT]; unfold ZRep.mark; rw [hmk]; decide), List.append_nil]
      exact hys
    | true =>
      simp only [if_true]
      k_steps
      refine CStep.intro (by k_asm) (by k_asm) (keep3 hI hCm hD) ⟨hk1, ?_⟩
      rw [sel_succ, if_pos (by rw [← eT]; unfold ZRep.mark; exact hmk), List.map_append]
      refine hys.append ?_
      rw [cast_add (i := i) f0]
      exact ints_one
  · intro X D h tk nx ys kD F1 N1 _ hX hD hJ
    obtain ⟨hk1, hys⟩ := hJ
    generalize hT : sel (Z.mark axis) first.toNat (last + 1 - first).toNat = T at hys
    have hylen : ys.length = T.length := by rw [hys.length, List.length_map]
    have hTlen : T.length ≤ 1000 := by
      rw [← hT]
      refine Nat.le_trans (List.length_filter_le _ _) ?_
      rw [List.length_map, List.length_range]
      exact Nat.le_trans (dr_len f0 lN) hn
    have hT62 : T.length < 2 ^ 62 := Nat.lt_of_le_of_lt hTlen (by decide)
    have M := sel_marks (mk := Z.mark axis) (f := first.toNat) (l := last.toNat) (Int.toNat_le_toNat fl)
    have eL : last.toNat + 1 - first.toNat = (last + 1 - first).toNat := dr_eL f0 fl
    rw [eL, hT] at M
    k_steps
    · rename decide _ = true => hdec
      have hT0 : T = [] := by simpa using hdec
      exact hret _ _ _ _ (by k_asm) (by k_asm) ⟨rfl, fun p hp _ => .tail _ (.tail _ (hk1.none (.tail _ (.tail _ hp)))), Z, .refl, hz.inc (fun p hp _ => .tail _ (.tail _ (hk1.none (.tail _ (.tail _ hp))))), final_none fun t a b => by
        cases e : Z.mark axis t with
        | false => rfl
        | true =>
          obtain ⟨k, hk, _⟩ := (M.mem t).mp ⟨a, b, e⟩
          rw [hT0] at hk
          exact absurd hk (Nat.not_lt_zero _)⟩
    · generalize hnl : (_ :: (D, W.listOf ys.toArray kD) :: nx : Led) = newsS at *
      rename IsRange _ _ _ _ _ _ _ _ => hr
      rename News _ _ _ newsS => NL
      have hKS : Kept [] ((L' + 1 + 1, o1) :: (L' + 1, o2) :: news) newsS := fun p hp _ => hnl ▸ .tail _ (.tail _ (hk1.none hp))
      have hDS : (D, W.listOf ys.toArray kD) ∈ newsS := hnl ▸ .tail _ (.head _)
      clear hnl
      obtain ⟨kc, hcl⟩ := hz.cl
      have c1 : L' + 1 + 1 ≠ Z.lc := Nat.ne_of_gt (Nat.lt_succ_of_lt (Nat.lt_succ_of_lt (l1 _ hcl)))
      have c2 : L' + 1 ≠ Z.lc := Nat.ne_of_gt (Nat.lt_succ_of_lt (l1 _ hcl))
      have c3 : D ≠ Z.lc := (hD _ (.tail _ (.tail _ hcl))).symm
      have hzS : ZIn newsS Z := hz.inc fun p hp _ => hKS.none (.tail _ (.tail _ hp))
      refine iter_rangeS (n := T.length) [Str.ofString "one", Str.ofString "other", Str.ofString "numbers"] (fun i nx' => Kept [Z.lc] newsS nx' ∧ ∃ ca cx cy, ZIn nx' (Z.mv ca cx cy) ∧ (∀ j, j < Z.n → CSmall (Z.mv ca cx cy) 10000000 j) ∧
        ArcDone Z (Z.mv ca cx cy) axis (fun k => T.getD k 0) T.length first.toNat last.toNat i) rfl hr (rng0 hTlen) rs0 (by k_asm) NL ?_
        ⟨Kept.refl, Z.ca, Z.cx, Z.cy, hzS, fun j hj => (hC j hj).weak (by decide), ArcDone.start⟩ ?_ ?_
      · rintro i nx nx' h ⟨hk, ca, cx, cy, hz', hb', hd'⟩
        exact ⟨hk.quiet h, ca, cx, cy, hz'.quiet (fun p hp hq => h p hp (.inl hq)), hb', hd'⟩
      · rintro i t9 u nx2 h2' tk2 I io hi hio hI ⟨hk, ca, cx, cy, hz', hb', hd'⟩ F2 N2
        have hi2 : (i + 1) % T.length < T.length := Nat.mod_lt _ (Nat.zero_lt_of_lt hi)
        obtain ⟨ti1, e1⟩ := ints_at hys (k := i) (n := ((T.getD i 0 : Nat) : Int)) (by simp [List.getD_eq_getElem?_getD, List.getElem?_eq_getElem hi])
        obtain ⟨ti2, e2⟩ := ints_at hys (k := (i + 1) % T.length) (n := ((T.getD ((i + 1) % T.length) 0 : Nat) : Int)) (by simp [List.getD_eq_getElem?_getD, List.getElem?_eq_getElem hi2])
        have ei1 : (0 + (i : Int)).toNat = i := zadd
        have ei2 : ((0 + (i : Int) + 1).fmod (T.length : Int)).toNat = (i + 1) % T.length := turn
        have e1' : ys[(0 + (i : Int)).toNat]? = some (.int ((T.getD i 0 : Nat) : Int) ti1) := by rw [ei1]; exact e1
        have e2' : ys[((0 + (i : Int) + 1).fmod (T.length : Int)).toNat]? = some (.int ((T.getD ((i + 1) % T.length) 0 : Nat) : Int) ti2) := by rw [ei2]; exact e2
        obtain ⟨fb1, fb2⟩ := fmod_bnd (a := 0 + (i : Int) + 1) (b := (T.length : Int)) (Int.natCast_pos.mpr (Nat.zero_lt_of_lt hi))
        have z0 : 0 ≤ 0 + (i : Int) := by rw [Int.zero_add]; exact nn i
        have z1 : 0 + (i : Int) < 2 ^ 63 := by rw [Int.zero_add]; exact fit (Int.ofNat_lt.mpr hi) hTlen
        have z2 : (0 + (i : Int) + 1).fmod (T.length : Int) < 2 ^ 63 := fit fb2 hTlen
        have M1 := M.at hi
        have M2 := M.at hi2

        have M1' : first.toNat ≤ T.getD i 0 ∧ T.getD i 0 ≤ last.toNat := ⟨M1.1, M1.2.1⟩
        have M2' : first.toNat ≤ T.getD ((i + 1) % T.length) 0 ∧ T.getD ((i + 1) % T.length) 0 ≤ last.toNat := ⟨M2.1, M2.2.1⟩
        have d1' := hk.one hDS c3
        have d2' := hk.one (hKS.none (.head _)) c1
        have d3' := hk.one (hKS.none (.tail _ (.head _))) c2
        clear hzS hKS hDS NL e1 e2
        have hM3 := fun j => M.arc_open (k := i) (j := j) hi
        generalize hA : T.getD i 0 = a1 at *
        generalize hB : T.getD ((i + 1) % T.length) 0 = a2 at *
        have a1n : a1 < Z.n := Nat.lt_of_le_of_lt M1'.2 lNn
        have a2n : a2 < Z.n := Nat.lt_of_le_of_lt M2'.2 lNn
        have a3n : (a1 : Int) < Z.n := Int.ofNat_lt.mpr a1n
        have a4n : (a2 : Int) < Z.n := Int.ofNat_lt.mpr a2n
        have a0n : 0 ≤ (a1 : Int) + 1 := Int.le_add_one (nn a1)
        have c5 : -1000000 ≤ (a1 : Int) + 1 := lo_nn a0n
        have c6 : (a1 : Int) + 1 ≤ 1000000 := dr_hi a3n hn9
        have c7 : -1000000 ≤ (a2 : Int) := lo_nn (nn a2)
        have c8 : (a2 : Int) ≤ 1000000 := dr_hi0 a4n hn9
        have r1 := rk_len a0n (Int.le_of_lt a4n)
        have r2 := rk_len a0n (show last + 1 ≤ (Z.n : Int) from lN)
        have r3 := rk_len f0 (Int.le_of_lt a4n)
        have s1 : ((a2 : Int) - ((a1 : Int) + 1)).toNat ≤ 2 ^ 24 := sz r1 hn
        have s2 : (last + 1 - ((a1 : Int) + 1)).toNat ≤ 2 ^ 24 := sz r2 hn
        have s3 : ((a2 : Int) - first).toNat ≤ 2 ^ 24 := sz r3 hn
        have s4 : (last + 1 - ((a1 : Int) + 1)).toNat + ((a2 : Int) - first).toNat ≤ 16777216 := sz2 r2 r3 hn
        have q1 : CSmall (Z.mv ca cx cy) 1000 a1 := by
          have := hd'.mark M (Nat.le_of_lt hi) hi lNn
          simp only [hA] at this
          have h9 := hC a1 a1n
          unfold CSmall at h9 ⊢
          show -1000 ≤ cx a1 ∧ cx a1 ≤ 1000 ∧ -1000 ≤ cy a1 ∧ cy a1 ≤ 1000
          rw [this.1, this.2]; exact h9
        have q2 : CSmall (Z.mv ca cx cy) 1000 a2 := by
          have := hd'.mark M (Nat.le_of_lt hi) hi2 lNn
          simp only [hB] at this
          have h9 := hC a2 a2n
          unfold CSmall at h9 ⊢
          show -1000 ≤ cx a2 ∧ cx a2 ≤ 1000 ∧ -1000 ≤ cy a2 ∧ cy a2 ≤ 1000
          rw [this.1, this.2]; exact h9
        obtain ⟨kc2, hcl2⟩ := hz'.cl
        walk_at "mine to 63"
        · rename (0 + (i : Int) + 1 < (T.length : Int)) => hbr
          rename IntsAre _ _ => iA
          have hne : _ ≠ Z.lc := Nat.ne_of_gt ((by assumption : ∀ (p : Addr × Obj), p ∈ nx2 → p.1 < _) _ hcl2)
          k_dflt (refine' Con.use ?B ?F ?X ?N ?T ?k ?c ?d ?u ?_; (case B => k_asm); (case F => k_asm); (case X => k_asm); (case N => k_asm); (case T => k_asm); (case k => first | exact rfl | assumption); (case c => exact betw_con (Z := Z.mv ca cx cy) (hz'.inc Kept.cons) (by rfl) hn hO hx (nn a1) a3n (nn a2) a4n q1 q2 hb' (by k_mem) iA (fun j hj => rk_in (n := Z.n) a0n (Int.le_of_lt a4n) (mem_rangeKs hj)) hne); (case d => ktr_room); (case u => ktr_units))
          rintro r9 news9 h9 tk9 F9 N9 ⟨e9, K9, Z2, ⟨ca2, cx2, cy2, rfl⟩, hz2, hb2, hd2⟩
          subst e9
          (try dsimp only)
          k_steps
          refine TP.next (by k_asm) (by k_asm) (keep1 (K9.one (.tail _ hI) (led_ne' hI hcl2 (itc_ne_list hio) N2))) ⟨⟨fun p hp hn => K9 p (.tail _ (hk p hp hn)) hn, ca2, cx2, cy2, hz2, hb2, ArcDone.step (S := fun j => (j : Int) ∈ _) M hd' hi lNn (by subst hA; subst hB; exact hd2) fun j => ?_⟩, ?_⟩
          · rw [mem_rangeKs_iff]
            unfold InArc
            rw [if_pos (br_lt hbr)]
            show _ ↔ T.getD i 0 < j ∧ j < T.getD (i + 1) 0
            have hB0 := hB
            rw [Nat.mod_eq_of_lt (br_lt hbr)] at hB
            rw [hA, hB]
            first | exact arc_one | (rw [hB0]; exact arc_one)
          · intro z h1 h2
            have z1 := ncont h2 (y := Str.ofString "one") (by simp)
            have z2 := ncont h2 (y := Str.ofString "other") (by simp)
            have z3 := ncont h2 (y := Str.ofString "numbers") (by simp)
            simp only [z1, z2, z3, h1, h2, if_false, Bool.false_eq_true]
        · rename (¬ 0 + (i : Int) + 1 < (T.length : Int)) => hbr
          rename IntsAre _ _ => iA
          rename (_ < _ ∧ _ < _ ∧ AllLt _ nx2) => lz
          have hne := Nat.ne_of_gt (ktn_ltOf lz.2.2 _ hcl2)
          k_dflt (refine' Con.use ?B ?F ?X ?N ?T ?k ?c ?d ?u ?_; (case B => k_asm); (case F => k_asm); (case X => k_asm); (case N => k_asm); (case T => k_asm); (case k => first | exact rfl | assumption); (case c => exact betw_con (Z := Z.mv ca cx cy) (hz'.inc (fun p hp _ => .tail _ (.tail _ (.tail _ hp)))) (by rfl) hn hO hx (nn a1) a3n (nn a2) a4n q1 q2 hb' (by k_mem) iA (fun j hj => (List.mem_append.mp hj).elim (fun q => rk_in (n := Z.n) a0n lN (mem_rangeKs q)) (fun q => rk_in (n := Z.n) f0 (Int.le_of_lt a4n) (mem_rangeKs q))) hne); (case d => ktr_room); (case u => ktr_units))
          rintro r9 news9 h9 tk9 F9 N9 ⟨e9, K9, Z2, ⟨ca2, cx2, cy2, rfl⟩, hz2, hb2, hd2⟩
          subst e9
          (try dsimp only)
          k_steps
          refine TP.next (by k_asm) (by k_asm) (keep1 (K9.one (.tail _ (.tail _ (.tail _ hI))) (led_ne' hI hcl2 (itc_ne_list hio) N2))) ⟨⟨fun p hp hn => K9 p (.tail _ (.tail _ (.tail _ (hk p hp hn)))) hn, ca2, cx2, cy2, hz2, hb2, ArcDone.step (S := fun j => (j : Int) ∈ _) M hd' hi lNn (by subst hA; subst hB; exact hd2) fun j => ?_⟩, ?_⟩
          · rw [List.mem_append, mem_rangeKs_iff, mem_rangeKs_iff]
            unfold InArc
            rw [if_neg (fun q => Nat.ne_of_lt q (br_ge hbr hi))]
            show _ ↔ (T.getD i 0 < j ∧ j ≤ last.toNat) ∨ (first.toNat ≤ j ∧ j < T.getD 0 0)
            have hB0 := hB
            rw [show (i + 1) % T.length = 0 by rw [br_ge hbr hi]; exact Nat.mod_self _] at hB
            rw [hA, hB]
            first | exact arc_two f0 fl | (rw [hB0]; exact arc_two f0 fl)
          · intro z h1 h2
            have z1 := ncont h2 (y := Str.ofString "one") (by simp)
            have z2 := ncont h2 (y := Str.ofString "other") (by simp)
            have z3 := ncont h2 (y := Str.ofString "numbers") (by simp)
            simp only [z1, z2, z3, h1, h2, if_false, Bool.false_eq_true]
      · rintro u nx2 h2' tk2 ⟨hk, ca, cx, cy, hz', hb', hd'⟩ F2 N2
        k_steps
        exact hret _ _ _ _ (by k_asm) (by k_asm) ⟨rfl, fun p hp hn => hk p (hKS.none (.tail _ (.tail _ hp))) hn, _, ⟨ca, cx, cy, rfl⟩, hz', hd'.final M⟩
end
section
theorem words_C13_1 : True := by
  k_with_none
  k_with "room" => ((simp only [depth_under_make, depth_under_kw, depth_in1, depth_deeper, depth_caller]); exact room_ok (by with_reducible assumption) (by decide))
  k_with "units" => ((simp only [units_in1, units_deeper, Around.mark_units, units_caller, units_under_make]); first | exact units_ok (by with_reducible assumption) (by decide) | (have hcL9 := cLine_is; omega))
  k_with "mem" => (first | (with_reducible assumption) | exact List.mem_cons_self | (refine List.mem_cons_of_mem _ ?_; k_mem) | (refine Kept.none (by with_reducible assumption) ?_; k_mem) | (refine Kept.one (by with_reducible assumption) (by k_mem) (by walk_at "mine ne")))
  k_with "mine ne" => ((try dsimp only); first | assumption | (refine Ne.symm ?_; assumption) | exact led_ne' (by with_reducible assumption) (by with_reducible assumption) inst_ne_list (by with_reducible assumption) | exact led_ne' (by with_reducible assumption) (by with_reducible assumption) dict_ne_list (by with_reducible assumption) | exact led_ne' (by with_reducible assumption) (by with_reducible assumption) tup_ne_list (by with_reducible assumption))
  k_with "mine zone" => (first | assumption | exact ZIn.inc (by assumption) (by assumption) | exact ZIn.inc (by assumption) Kept.cons)
  k_with "subscriptTail" => (k_here; (with_reducible show wpAny _ _ (subscriptTail _ _ (Value.ref _) (Value.int _ _)) _ _ _); (first | (refine itemL (by k_asm) (by k_mem) (by first | decide | assumption | omega) (by first | decide | with_reducible assumption | omega) (by first | rfl | assumption) ?_ (by with_unfolding_all rfl)) | (refine itemT (by k_asm) (by k_mem) (by first | decide | assumption | omega) (by first | decide | with_reducible assumption | omega) (by first | rfl | assumption) ?_ (by with_unfolding_all rfl))))
  k_with "binaryOp FloorDiv int int" => (k_here; k_dflt (refine floordiv_int (by omega) ?_ (Or.inl (PyProof.noPylong_small (by omega)))))
  k_with "call builtin:len" => (k_here; (with_reducible show wpAny _ _ (call (Value.builtin _) [Value.ref _]) _ _ _); k_dflt (refine lenL (by k_asm) (by k_mem) (by first | assumption | exact refs_len | rfl) (by first | decide | with_reducible assumption | omega) ?_))
  k_with "setItem ref int" => (k_here; (with_reducible show wpAny _ _ (setItem (Value.ref _) (Value.int _ _) _) _ _ _); k_dflt (refine setItemU (by k_asm) (by k_asm) (by k_mem) (by first | decide | assumption | omega) (by first | (simp only [refs_len, List.length_cons, List.length_nil]; omega) | omega) (by first | decide | omega) ?_; intro h' news' F' N' K' M'; (try simp only [Int.reduceToNat, List.set_cons_zero, List.set_cons_succ] at M')))
  k_with "eval Name" => (k_here; k_inBlock; k_dflt (first | (refine comp_local2 (by rfl) (by rfl) (by decide) (by with_reducible assumption) (by with_reducible assumption) (by k_mem) (by k_asm) ?_) | (refine comp_cell2 (by rfl) (by rfl) (by decide) (by rfl) (by k_mem) (by with_reducible assumption) (by k_asm) ?_)))
  k_with "mine assign" => (k_dflt (refine comp_assign (by k_asm) (by with_unfolding_all rfl) (by with_unfolding_all rfl) (by with_unfolding_all rfl) (by decide) (by with_unfolding_all rfl) (by decide) (by with_unfolding_all rfl) (by with_unfolding_all rfl) (by with_unfolding_all rfl) ?_ (by intro _; with_unfolding_all rfl)))
  k_with "mine comp" => (k_dflt (refine comp_eval (by k_asm) (by with_unfolding_all rfl) (by decide) (by with_unfolding_all rfl) (by decide) (by with_unfolding_all rfl) ?_ (by intro _; with_unfolding_all rfl)))
  k_with "mine to assign" => (repeat' ((fail_if_success (with_reducible show wpAny _ _ (exec (.Assign [_] (.ListComp _ _ _ _) _) _) _ _ _)); (first | walk1 | (dsimp only; walk1))))
  k_with "mine to comp" => (repeat' ((fail_if_success (with_reducible show wpAny _ _ (eval (.ListComp _ _ _ _) _) _ _ _)); (first | walk1 | (dsimp only; walk1))))
  k_with "call type:list" => (k_here; (with_reducible show wpAny _ _ (call (Value.type "list") [Value.ref _]) _ _ _); k_dflt (refine kll_range (by exact rfl) (by k_asm) (by k_asm) (by assumption) (by exact rng_small (by first | with_reducible assumption | omega) (by first | with_reducible assumption | omega) (by first | with_reducible assumption | omega) (by first | with_reducible assumption | omega)) (by exact rangeSize_nat _ _) (by first | with_reducible assumption | omega) ?_; intro _ _ _ _ _ _ _ _ _))
  k_with "binaryOp Add ref ref" => (k_here; k_dflt (refine addL (by k_asm) (by k_asm) (by k_mem) (by k_mem) (by first | omega | (have hq1 := IntsAre.length (by assumption); omega) | (simp only [List.length_map, List.length_range, refs_len, List.length_cons, List.length_nil]; first | with_reducible assumption | omega)) ?_; intro _ _ _ _ _))
  k_with "mine to 63" => (repeat' ((fail_if_success (with_reducible show wpAny _ _ (call (Value.ref 63) _) _ _ _)); (first | walk1 | (dsimp only; walk1))))
  k_with "call ref" => (k_here; (with_reducible show wpAny _ _ (call (Value.ref 333) _) _ _ _); k_dflt (refine Con.use (by k_asm) (by k_asm) (by k_asm) (by k_asm) (by k_asm) (by first | exact rfl | assumption) (held_con (by k_mem) (by omega) (by omega) (by omega) (by omega)) (by ktr_room) (by ktr_units) ?_; rintro _ _ _ _ _ _ ⟨_, rfl, _, _, _, _, _⟩; (try dsimp only)))
  k_with "call ref" => (k_here; (with_reducible show wpAny _ _ (call (Value.ref 354) _) _ _ _); k_dflt (refine Con.use (by k_asm) (by k_asm) (by k_asm) (by k_asm) (by k_asm) (by first | exact rfl | assumption) (count_con (by walk_at "mine zone") (by rfl) (by omega)) (by ktr_room) (by ktr_units) ?_; rintro _ _ _ _ _ _ ⟨_, rfl, rfl⟩; (try dsimp only)))
  k_with "call ref" => (k_here; (with_reducible show wpAny _ _ (call (Value.ref 361) _) _ _ _); k_dflt (refine Con.use (by k_asm) (by k_asm) (by k_asm) (by k_asm) (by k_asm) (by first | exact rfl | assumption) (check_con (by walk_at "mine zone") (by rfl) (by omega) (by omega) (by omega)) (by ktr_room) (by ktr_units) ?_; rintro _ _ _ _ _ _ ⟨rfl, rfl⟩; (try dsimp only)))
  k_with "setAttr ref" => (k_here; k_dflt (refine set_my (by k_asm) (by k_asm) (by k_asm) (by k_mem) (by k_mem) (by k_is) (by k_is) (by k_is) (by k_is) (by first | k_get | assumption) (by first | k_put | rfl) (by first | exact Nat.le_of_ble_eq_true rfl | exact Nat.le_trans (putL_len _) (by omega)) ?_; intro _ _ _ _ _ _))
  k_with "mine ne" => ((try dsimp only); first | with_reducible assumption | (refine Ne.symm ?_; with_reducible assumption) | k_ne | (refine use_empty (by with_reducible assumption) (by k_mem)) | (refine lt_ne (lt_all (by assumption) (by k_mem))) | (refine (lt_ne (lt_all (by assumption) (by k_mem))).symm) | exact led_ne' (by with_reducible assumption) (by with_reducible assumption) inst_ne_list (by with_reducible assumption) | exact led_ne' (by with_reducible assumption) (by with_reducible assumption) inst_ne_dict (by with_reducible assumption) | exact led_ne' (by with_reducible assumption) (by with_reducible assumption) tup_ne_dict (by with_reducible assumption))
  k_with "call type:tuple" => (k_here; (with_reducible show wpAny _ _ (call (Value.type _) [Value.ref _]) _ _ _); k_dflt (refine call_tuple_tup (News.isTup (by k_asm) (by k_mem)) ?_))
  k_with "call type:list" => (k_here; (with_reducible show wpAny _ _ (call (Value.type _) [Value.ref _]) _ _ _); k_dflt (refine kup_listOf (by k_asm) (by k_asm) (by k_mem) (by first | exact List.toList_toArray _ | rfl) ?_ (by first | (refine Nat.le_trans (Nat.le_of_eq refs_len) ?_; rw [sizeLine_eq]; omega) | exact Nat.le_of_ble_eq_true rfl)); intro _ _ _ _ _ _)
  exact trivial
theorem kept_two {a b : Led} {p q : Addr × Obj} (x : Kept [] a b) : Kept [] a (p :: q :: b) := fun _ hp _ => .tail _ (.tail _ (x.none hp))
theorem refs_snoc {i : Nat} {f : Nat → Addr} {b : Addr} : refs i f ++ [.ref b] = refs (i + 1) (fup f i b) := by
  unfold refs
  rw [List.range_succ, List.map_append, List.map_singleton, fup_self]
  congr 1
  exact List.map_congr_left fun j hj => by rw [fup_ne (Nat.ne_of_lt (List.mem_range.mp hj))]
theorem bp_ne_refs {x y : Bool} {k k' n : Nat} {f : Nat → Addr} : W.listOf #[.bool x, .bool y] k ≠ W.listOf (refs n f).toArray k' := fun h => by
  simp [W.listOf] at h
  have h1 := h.1
  cases n with
  | zero => simp [refs] at h1
  | succ n => simp [refs, List.range_succ_eq_map] at h1
theorem words_C13_2 : True := by
  k_with "binaryOp Mult ref int" => (k_here; (with_reducible show wpAny _ _ (binaryOp Operator.Mult (Value.ref _) (Value.int _ _)) _ _ _); k_dflt (refine KMa.mul (vs := [Value.bool true]) (by k_asm) (by k_asm) (by exact News.isList (by k_asm) (by k_mem)) (by omega) (by omega) (by simp only [List.length_cons, List.length_nil]; omega) (by exact rfl) ?_); intro _ _ _ _ _)
  k_with "call ref" => (k_here; (with_reducible show wpAny _ _ (call (Value.ref 354) _) _ _ _); k_dflt (refine Con.use (by k_asm) (by k_asm) (by k_asm) (by k_asm) (by k_asm) (by first | exact rfl | assumption) (count_con (Z := _) (by walk_at "mine zone") (by with_reducible assumption) (by omega)) (by ktr_room) (by ktr_units) ?_; rintro _ _ _ _ _ _ ⟨_, rfl, rfl⟩; (try dsimp only)))
  exact trivial
section
variable {prog : Program} {w : World} {A : Around} {s : Shared} {h₀ : Heap} {L : Addr} {m : Str → Option Value}
theorem src_refs {l : Addr} {n : Nat} {f : Nat → Addr} {nn : Nat} {news : Led} (hh : A.handled = none) (hl : (l, W.listOf (refs n f).toArray nn) ∈ news) (F : Fr h₀ L s.heap m) (N : News h₀ L s.heap news) :
    Src prog w A h₀ L m news [(l, W.listOf (refs n f).toArray nn)] n (fun i v => (refs n f)[i]? = some v) (.ref l) s := by
  have := src_list (prog := prog) (w := w) (A := A) hh hl F N
  rw [refs_len] at this
  exact this
end
variable {w : World} {mean : ExcName → Option Value} {mg mb : Str → Option Value}
set_option maxHeartbeats 8000000 in
theorem zone_con {news : Led} {lp le : Addr} {n : Nat} {pa : Nat → Addr} {px py : Nat → Int} {kl ke : Nat} {e : Int} {te : Tok} (hl : (lp, W.listOf (refs n pa).toArray kl) ∈ news) (hp : ∀ i, i < n → PtAt news (pa i) (px i) (py i))
    (he : (le, W.listOf #[.int e te] ke) ∈ news) (h0 : 0 ≤ e) (h1 : e < n) (hn : n ≤ 200) :
    Con w mean mg mb 378 [.ref lp, .ref le] 14 news (fun r news' => ∃ Z : ZRep, r = .ref Z.z ∧ Z.n = n ∧ (∀ i, i < n → Z.ox i = px i ∧ Z.oy i = py i ∧ Z.cx i = px i ∧ Z.cy i = py i ∧ Z.b0 i = false ∧ Z.b1 i = false) ∧ Kept [] news news' ∧ ZIn news' Z) := by
  unfold Con
  k_fill
  intro dp un gd cn cs aF ccd cl outer A₀ base h₀ L m s Q E B F X N T hk hd hu hret
  k_dflt (refine' call_cls ?k1 ?k2 ?k3 ?k4 ?k5 ?k6 ?_; (case k1 => k_asm); (case k2 => k_asm); (case k3 => k_asm); (case k4 => k_is); (case k5 => k_is); (case k6 => k_is); k_whole; intro x' d' h' F' N' l1 l2; (try k_lt l1); (try k_lt2 l2); refine' code_defC ?k1 ?k2 ?k3 ?k4 ?k5 ?kA ?kF ?kK ?k6 ?k7 ?k8 ?k9 ?kB ?kD ?_ ?c2 ?c3 ?c4; (case kA => exact rfl); (case kF => exact rfl); (case kK => assumption); (case k1 => k_asm); (case k2 => k_asm); (case k3 => k_asm); (case k4 => k_asm); (case k5 => k_asm); (case k6 => k_is); (case k7 => k_is); (case k8 => ktr_room); (case k9 => first | exact BindsTo.of_eq rfl | exact binds_K (by k_in) rfl (by k_is) rfl rfl rfl); (case kB => exact rfl); (case kD => decide +kernel); (case c2 => exact rfl); (case c3 => exact rfl); (case c4 => exact rfl); k_whole; intro g' L' h' tk' cells' FG' F' N' Y' B' X' T' l1; k_cells Y'; (try simp only [List.cons_append, List.nil_append] at N'); (try dsimp only); (try k_lift B'); (try k_fold))
  rename_i o1 d1
  walk_at "mine to comp"
  walk_at "mine comp"
  k_steps
  refine ⟨_, _, n, _, fun X i ys nx => Kept [] ((L' + 1, o1) :: (x', instObj 378 d') :: (d', dictOf [] 0) :: news) nx ∧ ys = refs i pa, src_refs (f := pa) (nn := kl) rfl (.tail _ (.tail _ (.tail _ hl))) (by k_asm) (by k_asm), ⟨by omega, ?_, ?_, ?_⟩, ?_⟩
  · exact fun X i ys nx nx' h j => ⟨fun p hp hn => h p (j.1 p hp hn) (.inr hp), j.2⟩
  · exact fun X h => ⟨Kept.refl, rfl⟩
  · rintro I C D i v ys nx h tk io oC kD m₂ E' hi hv0 hio hI hCm hCn hv hD hKp ⟨hk1, hys⟩ F1 N1 hfr
    rw [refs_get hi] at hv0
    obtain rfl := Option.some.inj hv0
    obtain ⟨u1, u2, uk, hpt⟩ := hp i hi
    have mp := hk1.none (.tail _ (.tail _ (.tail _ hpt)))
    refine tests_none ?_
    refine CStep.intro (by k_asm) (by k_asm) (keep4 hI hCm hD (hKp _ (.head _))) ?_
    simp only [if_true]
    k_steps
    refine CStep.intro (by k_asm) (by k_asm) (keep4 hI hCm hD (hKp _ (.head _))) ⟨hk1, ?_⟩
    subst hys
    simp [refs, List.range_succ]
  · intro X D h tk nx ys kD F1 N1 _ hX hD hJ
    obtain ⟨hk1, rfl⟩ := hJ
    have k1 : Kept [] ((L' + 1, o1) :: (x', instObj 378 d') :: (d', dictOf [] 0) :: news) ((D, W.listOf (refs n pa).toArray kD) :: nx) := fun p hp _ => .tail _ (hk1.none hp)
    have mx := k1.none (.tail _ (.head _))
    have md := k1.none (.tail _ (.tail _ (.head _)))
    repeat' ((fail_if_success (with_reducible show wpAny _ _ (setAttr _ _ _) _ _ _)); (first | walk1 | (dsimp only; walk1)))
    walk1
    rename Kept [d'] _ _ => K1
    rename (d', _) ∈ _ => M1
    rename News _ _ _ _ => N2
    have nD : D ≠ d' := (hD _ (.tail _ (.tail _ (.head _)))).symm
    have nx' : x' ≠ d' := (Nat.ne_of_lt l2).symm
    have nL : L' + 1 ≠ d' := (Nat.ne_of_lt (Nat.lt_succ_of_lt (l1 _ (.tail _ (.head _))))).symm
    repeat' ((fail_if_success (with_reducible show wpAny _ _ (setAttr _ _ _) _ _ _)); (first | walk1 | (dsimp only; walk1)))
    rename_i D2 c2 h2 F2 N3 l3
    have nD2 : D2 ≠ d' := (Nat.ne_of_lt (l3 _ M1)).symm
    walk1
    rename_i h3 news3 F3 N4 K2 M2
    have hD2 := K2.one (.head _) nD2
    have hD1 := K2.one (.tail _ (K1.one (.head _) nD)) nD
    have mx2 := K2.one (.tail _ (K1.one mx nx')) nx'
    have mo2 := K2.one (.tail _ (K1.one (k1.none (.head _)) nL)) nL
    have kp2 : Kept [] news news3 := fun p hp _ => K2.one (.tail _ (K1.one (k1.none (.tail _ (.tail _ (.tail _ hp)))) (Nat.ne_of_lt ((by assumption : ∀ p ∈ news, p.1 < d') p hp)))) (Nat.ne_of_lt ((by assumption : ∀ p ∈ news, p.1 < d') p hp))
    walk_at "mine to comp"
    walk_at "mine comp"
    k_steps
    refine ⟨_, _, n, _, fun X i ys nx => Kept [] news3 nx ∧ ∃ ta : Nat → Addr, ys = refs i ta ∧ (∀ j, j < i → BpAt nx (ta j) false false ∧ ta j ∉ X ∧ ∀ p ∈ news3, p.1 ≠ ta j) ∧ (∀ j k, j < i → k < i → j ≠ k → ta j ≠ ta k), src_refs (f := pa) rfl hD1 (by k_asm) (by k_asm), ⟨by omega, ?_, ?_, ?_⟩, ?_⟩
    · exact fun X i ys nx nx' h ⟨a, ta, e, b, c⟩ => ⟨fun p hp hn => h p (a p hp hn) (.inr hp), ta, e, fun j hj => ⟨let ⟨k, m⟩ := (b j hj).1; ⟨k, h _ m (.inl (b j hj).2.1)⟩, (b j hj).2⟩, c⟩
    · exact fun X h => ⟨Kept.refl, fun _ => 0, rfl, fun j hj => absurd hj (Nat.not_lt_zero _), fun j k hj => absurd hj (Nat.not_lt_zero _)⟩
    · rintro I C D' i v ys nx h tk io oC kD m₂ E' hi hv0 hio hI hCm hCn hv hD' hKp ⟨hk2, ta, rfl, hb, hne⟩ F1 N1 hfr
      refine tests_none ?_
      refine CStep.intro (by k_asm) (by k_asm) (keep4 hI hCm hD' (hKp _ (.head _))) ?_
      simp only [if_true]
      k_steps
      rename_i b2 h5 F5 N5 l5
      have lI : I ≠ b2 := Nat.ne_of_lt (l5 (I, io) hI)
      have lC : C ≠ b2 := Nat.ne_of_lt (l5 (C, oC) hCm)
      have lD : D' ≠ b2 := Nat.ne_of_lt (l5 (D', _) hD')
      refine CStep.intro (by k_asm) (by k_asm) (fun p hp => .tail _ (keep4 hI hCm hD' (hKp _ (.head _)) p hp)) ⟨fun p hp hn => .tail _ (hk2 p hp hn), fup ta i b2, refs_snoc, fun j hj => ?_, fun j k hj hk hjk => ?_⟩
      · by_cases e : j = i
        · subst e
          rw [fup_self]
          exact ⟨⟨0, .head _⟩, by simp [lI.symm, lC.symm, lD.symm], fun p hp => Nat.ne_of_lt (l5 _ (hk2.none hp))⟩
        · rw [fup_ne e]
          obtain ⟨⟨k, b⟩, c⟩ := hb j (by omega)
          exact ⟨⟨k, .tail _ b⟩, c⟩
      · by_cases e : j = i <;> by_cases e' : k = i
        · omega
        · subst e
          rw [fup_self, fup_ne e']
          obtain ⟨⟨kk, b⟩, c⟩ := hb k (by omega)
          exact (Nat.ne_of_lt (l5 _ b)).symm
        · subst e'
          rw [fup_self, fup_ne e]
          obtain ⟨⟨kk, b⟩, c⟩ := hb j (by omega)
          exact Nat.ne_of_lt (l5 _ b)
        · rw [fup_ne e, fup_ne e']
          exact hne j k (by omega) (by omega) hjk
    · intro X D3 h tk nx ys kD3 F1 N1 _ hX hD3 hJ
      obtain ⟨hk2, ta, rfl, hb, hne⟩ := hJ
      have k3 : Kept [] news3 ((D3, W.listOf (refs n ta).toArray kD3) :: nx) := fun p hp _ => .tail _ (hk2.none hp)
      have md3 := k3.none M2
      have mx3 := k3.none mx2
      have nD3 : D3 ≠ d' := (hD3 _ M2).symm
      repeat' ((fail_if_success (with_reducible show wpAny _ _ (setAttr _ _ _) _ _ _)); (first | walk1 | (dsimp only; walk1)))
      walk1
      rename_i h4 news4 F4 N5 K4 M4
      have nta : ∀ j, j < n → ta j ≠ d' := fun j hj => ((hb j hj).2.2 _ M2).symm
      have mx4 := K4.one mx3 nx'
      have mo4 := K4.one (k3.none mo2) nL
      have q1 := K4.one (k3.none hD1) nD
      have q2 := K4.one (k3.none hD2) nD2
      have q3 := K4.one (.head _) nD3
      have kp4 : Kept [] news news4 := fun p hp _ => K4.one (k3.none (kp2.none hp)) (Nat.ne_of_lt ((by assumption : ∀ p ∈ news, p.1 < d') p hp))
      have tp4 : ∀ j, j < n → BpAt news4 (ta j) false false := fun j hj => let ⟨k, b⟩ := (hb j hj).1; ⟨k, K4.one (.tail _ b) (nta j hj)⟩
      have t1 : ∀ j, j < n → ta j ≠ D := fun j hj => ((hb j hj).2.2 _ hD1).symm
      have t2 : ∀ j, j < n → ta j ≠ D2 := fun j hj => ((hb j hj).2.2 _ hD2).symm
      have t3 : ∀ j, j < n → ta j ≠ D3 := fun j hj => let ⟨k, b⟩ := tp4 j hj; led_ne N5 b q3 bp_ne_refs
      have hle4 := kp4.none he
      repeat' ((fail_if_success (with_reducible show wpAny _ _ (setAttr _ _ _) _ _ _)); (first | walk1 | (dsimp only; walk1)))
      rename_i D4 c4 h6 F6 N6 l6
      have nD4 : D4 ≠ d' := (Nat.ne_of_lt (l6 _ M4)).symm
      walk1
      rename_i h7 news5 F7 N7 K5 M5
      have mx5 := K5.one (.tail _ mx4) nx'
      have mo5 := K5.one (.tail _ mo4) nL
      have r1 := K5.one (.tail _ q1) nD
      have r2 := K5.one (.tail _ q2) nD2
      have r3 := K5.one (.tail _ q3) nD3
      have r4 := K5.one (.head _) nD4
      have kp5 : Kept [] news news5 := fun p hp _ => K5.one (.tail _ (kp4.none hp)) (Nat.ne_of_lt ((by assumption : ∀ p ∈ news, p.1 < d') p hp))
      have tp5 : ∀ j, j < n → BpAt news5 (ta j) false false := fun j hj => let ⟨k, b⟩ := tp4 j hj; ⟨k, K5.one (.tail _ b) (nta j hj)⟩
      repeat' ((fail_if_success (with_reducible show wpAny _ _ (setAttr _ _ _) _ _ _)); (first | walk1 | (dsimp only; walk1)))
      rename_i D6 h8 F8 N8 l8
      have nD6 : D6 ≠ d' := (Nat.ne_of_lt (l8 _ (.tail _ M5))).symm
      walk1
      rename_i h9 news6 F9 N9 K6 M6
      have hlen : (List.replicate (n : Int).toNat [Value.bool true]).flatten.length = n := by simp
      have mx6 := K6.one (.tail _ (.tail _ mx5)) nx'
      have mo6 := K6.one (.tail _ (.tail _ mo5)) nL
      have s1 := K6.one (.tail _ (.tail _ r1)) nD
      have s2 := K6.one (.tail _ (.tail _ r2)) nD2
      have s3 := K6.one (.tail _ (.tail _ r3)) nD3
      have s4 := K6.one (.tail _ (.tail _ r4)) nD4
      have s6 := K6.one (.head _) nD6
      have kp6 : Kept [] news news6 := fun p hp _ => K6.one (.tail _ (.tail _ (kp5.none hp))) (Nat.ne_of_lt ((by assumption : ∀ p ∈ news, p.1 < d') p hp))
      have tp6 : ∀ j, j < n → BpAt news6 (ta j) false false := fun j hj => let ⟨k, b⟩ := tp5 j hj; ⟨k, K6.one (.tail _ (.tail _ b)) (nta j hj)⟩
      let Z : ZRep := { z := x', dz := d', lo := D, lc := D2, lt := D3, le := D4, lb := D6, n := n, oa := pa, ca := pa, ta := ta, ox := px, oy := py, cx := px, cy := py, b0 := fun _ => false, b1 := fun _ => false }
      have hz : ZIn news6 Z :=
        { obj := mx6, dict := ⟨_, _, _, _, _, _, _, _, _, _, _, M6⟩, ol := ⟨_, s1⟩, cl := ⟨_, s2⟩, tl := ⟨_, s3⟩, op := fun i hi => PtAt.kept (hp i hi) kp6 (by simp), cp := fun i hi => PtAt.kept (hp i hi) kp6 (by simp), tp := tp6,
          hoc := Nat.ne_of_lt (l3 _ (K1.one (.head _) nD)), hot := hD3 _ hD1, hct := hD3 _ hD2, hto := t1, htc := t2, htt := t3, hta := fun i j hi hj => hne i j hi hj }
      have fin : Kept [] news news6 := kp6
      have zn : Z.n = n := rfl
      have zz : x' = Z.z := rfl
      have zf : ∀ i, i < n → Z.ox i = px i ∧ Z.oy i = py i ∧ Z.cx i = px i ∧ Z.cy i = py i ∧ Z.b0 i = false ∧ Z.b1 i = false := fun _ _ => ⟨rfl, rfl, rfl, rfl, rfl, rfl⟩
      clear_value Z
      clear tp6 s1 s2 s3 t1 t2 t3 nta hb hne K6 tp5 r1 r2 r3 r4 mx5 mo5 K5 M5 tp4 q1 q2 q3 K4 M4 mx4 mo4 k3 md3 mx3 hk2 kp5 kp4 kp2 hD1 hD2 mx2 mo2 K2 M2 K1 M1 k1 mx md hk1 nD nD2 nD3 nD4 nD6
      iterate 12 ((fail_if_success (with_reducible show wpAny _ _ (eval (.ListComp _ _ _ _) _) _ _ _)); (first | walk1 | (dsimp only; walk1)))
      k_dflt (refine lenL (by k_asm) s6 hlen (by omega) ?_)
      iterate 9 (first | walk1 | (dsimp only; walk1))
      · exfalso
        omega
      walk_at "mine to comp"
      walk_at "mine comp"
      rename List (Addr × Obj) => news9
      repeat' ((fail_if_success (with_reducible show CompGo _ _ _ _ _ _ _ _ _ _ _ _ _ _ _ _)); (first | walk1 | (dsimp only; walk1)))
      refine ⟨_, _, 1, _, fun X i ys nx => Kept [] news9 nx ∧ ys = [], src_list (vs := [Value.int e te]) rfl s4 (by k_asm) (by k_asm), ⟨by omega, ?_, ?_, ?_⟩, ?_⟩
      · exact fun X i ys nx nx' h j => ⟨fun p hp hn => h p (j.1 p hp hn) (.inr hp), j.2⟩
      · exact fun X h => ⟨Kept.refl, rfl⟩
      · rintro I C D9 i v ys nx h tk io oC kD m₂ E' hi hv0 hio hI hCm hCn hv hD9 hKp ⟨hk9, hys⟩ F1 N1 hfr
        obtain rfl : i = 0 := by omega
        obtain rfl := Option.some.inj hv0
        have hz9 := hz.inc hk9
        have mx9 := hk9.none mx6
        have mo9 := hk9.none mo6
        refine tests_one ?_
        k_steps
        refine CStep.intro (by k_asm) (by k_asm) (keep4 hI hCm hD9 (hKp _ (.head _))) ?_
        first
          | exact ⟨hk9, hys⟩
          | (simp only [Bool.false_eq_true, if_false]; exact ⟨hk9, hys⟩)
          | (rw [if_neg (by rw [decide_eq_true (show e < (Z.n : Int) by omega)]; decide)]; exact ⟨hk9, hys⟩)
      · intro X D9 h tk nx ys kD9 F1 N1 _ hX hD9 hJ
        obtain ⟨hk9, rfl⟩ := hJ
        k_steps
        k_dflt (refine ne_intsK (vs := []) (us := []) (ns := []) (ms := []) (News.isList (by k_asm) (.tail _ (.head _))) .nil (News.isList (by k_asm) (.head _)) .nil (by ktr_units) ?_)
        simp only [decide_true, Bool.not_true]
        k_steps
        all_goals exact hret _ _ _ _ (by k_asm) (by k_asm) ⟨Z, zz ▸ rfl, zn, zf, fin.then (kept_two hk9), hz.inc (kept_two hk9)⟩
end
def tri {α : Type} (a b c : α) (i : Nat) : α := if i = 0 then a else if i = 1 then b else c
theorem pts3 {news : Led} {a b c : Addr} {x0 y0 x1 y1 x2 y2 : Int} (ha : PtAt news a x0 y0) (hb : PtAt news b x1 y1) (hc : PtAt news c x2 y2) : ∀ i, i < 3 → PtAt news (tri a b c i) (tri x0 x1 x2 i) (tri y0 y1 y2 i) := fun i hi => by
  match i, hi with
  | 0, _ => exact ha
  | 1, _ => exact hb
  | 2, _ => exact hc
/-- the told letter behind its one move -/
theorem demo_small {Z : ZRep} {c : Addr} (zn : Z.n = 3) (hz0 : ∀ i, i < 3 → Z.ox i = tri 0 10 20 i ∧ Z.oy i = tri 0 0 0 i ∧ Z.cx i = tri 0 10 20 i ∧ Z.cy i = tri 0 0 0 i ∧ Z.b0 i = false ∧ Z.b1 i = false) :
    OSmall (Z.moveM 16384 1 c 5 0 true) ∧ ∀ j, j < (Z.moveM 16384 1 c 5 0 true).n → CSmall (Z.moveM 16384 1 c 5 0 true) 1000 j := by
  have e0 := hz0 0 (by decide)
  have e1 := hz0 1 (by decide)
  have e2 := hz0 2 (by decide)
  have hn : (Z.moveM 16384 1 c 5 0 true).n = 3 := zn
  simp [tri] at e0 e1 e2
  constructor
  · intro i hi
    rw [hn] at hi
    show -1000 ≤ Z.ox i ∧ Z.ox i ≤ 1000 ∧ -1000 ≤ Z.oy i ∧ Z.oy i ≤ 1000
    match i, hi with
    | 0, _ => simp [e0]
    | 1, _ => simp [e1]
    | 2, _ => simp [e2]
  · intro i hi
    rw [hn] at hi
    match i, hi with
    | 0, _ => simp [CSmall, ZRep.moveM, ZRep.touchM, ZRep.shiftM, ZRep.setCur, fup, e0]
    | 1, _ => simp [CSmall, ZRep.moveM, ZRep.touchM, ZRep.shiftM, ZRep.setCur, fup, e1]
    | 2, _ => simp [CSmall, ZRep.moveM, ZRep.touchM, ZRep.shiftM, ZRep.setCur, fup, e2]
theorem demo_final {Z Z' : ZRep} {c : Addr} (zn : Z.n = 3) (hz0 : ∀ i, i < 3 → Z.ox i = tri 0 10 20 i ∧ Z.oy i = tri 0 0 0 i ∧ Z.cx i = tri 0 10 20 i ∧ Z.cy i = tri 0 0 0 i ∧ Z.b0 i = false ∧ Z.b1 i = false)
    (h : Final (Z.moveM 16384 1 c 5 0 true) Z' 0 0 2) : ∀ i, i < 3 → Z'.cx i = tri 5 15 25 i ∧ Z'.cy i = tri 0 0 0 i := by
  have e0 := hz0 0 (by decide)
  have e1 := hz0 1 (by decide)
  have e2 := hz0 2 (by decide)
  simp only [tri, if_true] at e0 e1 e2
  have hn : (Z.moveM 16384 1 c 5 0 true).n = 3 := zn
  have m0 : (Z.moveM 16384 1 c 5 0 true).mark 0 0 = false := by simp [ZRep.mark, ZRep.moveM, ZRep.touchM, ZRep.shiftM, ZRep.setCur, fup, e0]
  have m1 : (Z.moveM 16384 1 c 5 0 true).mark 0 1 = true := by simp [ZRep.mark, ZRep.moveM, ZRep.touchM, ZRep.shiftM, ZRep.setCur, fup]
  have m2 : (Z.moveM 16384 1 c 5 0 true).mark 0 2 = false := by simp [ZRep.mark, ZRep.moveM, ZRep.touchM, ZRep.shiftM, ZRep.setCur, fup, e2]
  have p1 : ∀ j, j ≤ 2 → j ≠ 1 → (Z.moveM 16384 1 c 5 0 true).mark 0 j = false := fun j h h' => by
    match j, h with
    | 0, _ => exact m0
    | 1, _ => exact absurd rfl h'
    | 2, _ => exact m2
  have a0 := (h 0 (by rw [hn]; decide)).1 ⟨Nat.le_refl _, by decide, m0, 1, by decide, by decide, m1⟩
  have a2 := (h 2 (by rw [hn]; decide)).1 ⟨by decide, Nat.le_refl _, m2, 1, by decide, by decide, m1⟩
  have a1 := (h 1 (by rw [hn]; decide)).2 (fun ho => by rw [ho.2.2.1] at m1; cases m1)
  have b0 := a0.2 1 1 ⟨by decide, by decide, m1, .inr ⟨by decide, fun q _ h => absurd h (Nat.not_lt_zero _), fun q h h' => p1 q h' (Nat.ne_of_gt h)⟩⟩ ⟨by decide, by decide, m1, .inl ⟨by decide, fun q h h' => by omega⟩⟩
  have b2 := a2.2 1 1 ⟨by decide, by decide, m1, .inl ⟨by decide, fun q h h' => by omega⟩⟩ ⟨by decide, by decide, m1, .inr ⟨by decide, fun q h h' => by omega, fun q _ h => p1 q (by omega) (Nat.ne_of_lt h)⟩⟩
  have c0 := a0.1
  have c2 := a2.1
  clear a0 a2 h
  simp [co, between, dplace, ZRep.moveM, ZRep.touchM, ZRep.shiftM, ZRep.setCur, fup, e0, e1, e2] at b0 b2 c0 c2 a1
  intro i hi
  match i, hi with
  | 0, _ => exact ⟨b0, c0⟩
  | 1, _ => exact a1
  | 2, _ => exact ⟨b2, c2⟩
theorem StIn.kept2 {h₀ h : Heap} {L : Addr} {news news' : Led} {st : Addr} {f0 f1 : Int} (hs : StIn news st f0 f1) (N : News h₀ L h news) {d d' : Addr} {vs vs' : Array Value} {k k' : Nat} (hd : (d, W.listOf vs k) ∈ news) (hd' : (d', W.listOf vs' k') ∈ news) (K : Kept [d, d'] news news') : StIn news' st f0 f1 := by
  obtain ⟨a, es, n, fr, kf, t0, t1, m1, m2, g, m3⟩ := hs
  have nn : ∀ {p : Addr × Obj}, p ∈ news → (∀ us j, p.2 ≠ W.listOf us j) → p ∈ news' := fun {p} hp hn => K p hp (by
    have x1 := led_ne N (a := p.1) (o := p.2) hp hd (hn _ _)
    have x2 := led_ne N (a := p.1) (o := p.2) hp hd' (hn _ _)
    simp [x1, x2])
  exact ⟨a, es, n, fr, kf, t0, t1, nn m1 fun _ _ => inst_ne_list, nn m2 fun _ _ => dict_ne_list, g, nn m3 fun _ _ => tup_ne_list⟩
section
variable {prog : Program} {w : World} {A : Around} {E : Value → Shared → Prop} {s : Shared} {h₀ : Heap} {L l : Addr} {m : Str → Option Value} {news : Led}
theorem appendU {vs : List Value} {n : Nat} {x : Value} {Q : Value → Shared → Prop} (F : Fr h₀ L s.heap m) (N : News h₀ L s.heap news) (hm : (l, W.listOf vs.toArray n) ∈ news) (hsz : vs.length ≤ 1000)
    (h : ∀ h' news', Fr h₀ L h' m → News h₀ L h' news' → Kept [l] news news' → (l, W.listOf (vs ++ [x]).toArray (n + 1)) ∈ news' → Q .none { s with heap := h' }) :
    wpAny (model prog w) A (call (.builtin "list.append") [.ref l, x]) Q E s := by
  have z := N _ hm
  refine append_at (hsz := by rw [List.size_toArray, sizeLine_eq]; omega) z.1 fun h' hs ho => ?_
  have e : vs.toArray.push x = (vs ++ [x]).toArray := by simp
  rw [e] at ho
  exact h _ (put news l _) (F.change hs z.2.1 z.2.2) (news_put N hs ho z.2.1 z.2.2) put_kept (put_self hm)
end
theorem pick5 {t0 t1 t2 t3 t4 : Tok} {x : Int} {r : Value} {i : Nat} (h : ([.int 0 t0, .int 10 t1, .int 64 t2, .int (-33) t3, .int x t4] : List Value)[i]? = some r) (x0 : 0 ≤ x) (x1 : x < 90) : ∃ v t, r = .int v t ∧ -33 ≤ v ∧ v ≤ 89 := by
  match i, h with
  | 0, h => cases h; exact ⟨_, _, rfl, by omega, by omega⟩
  | 1, h => cases h; exact ⟨_, _, rfl, by omega, by omega⟩
  | 2, h => cases h; exact ⟨_, _, rfl, by omega, by omega⟩
  | 3, h => cases h; exact ⟨_, _, rfl, by omega, by omega⟩
  | 4, h => cases h; exact ⟨_, _, rfl, by omega, by omega⟩
theorem pick3 {t0 t1 t2 : Tok} {x n : Int} {r : Value} {i : Nat} (h : ([.int 0 t0, .int 0 t1, .int x t2] : List Value)[i]? = some r) (x0 : 0 ≤ x) (x1 : x < n) : ∃ v t, r = .int v t ∧ 0 ≤ v ∧ v < n := by
  match i, h with
  | 0, h => cases h; exact ⟨_, _, rfl, by omega, by omega⟩
  | 1, h => cases h; exact ⟨_, _, rfl, by omega, by omega⟩
  | 2, h => cases h; exact ⟨_, _, rfl, by omega, by omega⟩
theorem pick2 {t0 t1 : Tok} {x n f : Int} {r : Value} {i : Nat} (h : ([.int (n - 1) t0, .int (f + x) t1] : List Value)[i]? = some r) (f1 : f < n) (x0 : 0 ≤ x) (x1 : x < n - f) : ∃ v t, r = .int v t ∧ f ≤ v ∧ v < n := by
  match i, h with
  | 0, h => cases h; exact ⟨_, _, rfl, by omega, by omega⟩
  | 1, h => cases h; exact ⟨_, _, rfl, by omega, by omega⟩
/-- one move of the letter: the places stay small, what stands ahead is not met yet -/
theorem move_small {Z : ZRep} {f0 s0 s1 : Int} {i : Nat} {c : Addr} {tb : Bool} (hi : i < Z.n) (s0a : -45 ≤ s0) (s0b : s0 ≤ 45) (s1a : -45 ≤ s1) (s1b : s1 ≤ 45)
    (hC : ∀ j, j < Z.n → CSmall Z 200 j ∧ (i ≤ j → CSmall Z 100 j)) : (Z.moveM f0 i c s0 s1 tb).n = Z.n ∧ (Z.moveM f0 i c s0 s1 tb).ox = Z.ox ∧ (Z.moveM f0 i c s0 s1 tb).oy = Z.oy ∧ (Z.moveM f0 i c s0 s1 tb).z = Z.z ∧
    ∀ j, j < Z.n → CSmall (Z.moveM f0 i c s0 s1 tb) 200 j ∧ (i + 1 ≤ j → CSmall (Z.moveM f0 i c s0 s1 tb) 100 j) := by
  have ex : (Z.moveM f0 i c s0 s1 tb).cx = fup Z.cx i (if f0 = 0 then Z.cx i else Z.cx i + s0) := by cases tb <;> rfl
  have ey : (Z.moveM f0 i c s0 s1 tb).cy = fup Z.cy i (if f0 = 0 then Z.cy i + s1 else Z.cy i) := by cases tb <;> rfl
  refine ⟨by cases tb <;> rfl, by cases tb <;> rfl, by cases tb <;> rfl, by cases tb <;> rfl, fun j hj => ?_⟩
  unfold CSmall
  rw [ex, ey]
  by_cases e : j = i
  · subst e
    obtain ⟨a, b, d, g⟩ := (hC j hj).2 (Nat.le_refl _)
    rw [fup_self, fup_self]
    refine ⟨?_, fun h => by omega⟩
    split <;> refine ⟨by omega, by omega, by omega, by omega⟩
  · rw [fup_ne e, fup_ne e]
    exact ⟨(hC j hj).1, fun h => (hC j hj).2 (by omega)⟩
theorem refs_ne_ints {n : Nat} {f : Nat → Addr} {k k' : Nat} {a b : Int} {ta tb : Tok} : W.listOf #[.int a ta, .int b tb] k ≠ W.listOf (refs n f).toArray k' := fun h => by
  have h2 : [Value.int a ta, .int b tb] = refs n f := by
    have := congrArg Obj.data h
    simp only [W.listOf, Data.seq.injEq] at this
    simpa using congrArg Array.toList this.1
  match n, h2 with
  | 0, h2 => simp [refs] at h2
  | n + 1, h2 => simp [refs, List.range_succ_eq_map] at h2
theorem bools_ne_ints {k k' : Nat} {a b : Int} {ta tb : Tok} {x y : Bool} : W.listOf #[.int a ta, .int b tb] k ≠ W.listOf #[.bool x, .bool y] k' := fun h => by
  have := congrArg Obj.data h
  simp [W.listOf] at this
theorem refs_ne_two {n : Nat} {f : Nat → Addr} {k k' : Nat} {a b : Addr} (hn : 3 ≤ n) : W.listOf #[.ref a, .ref b] k ≠ W.listOf (refs n f).toArray k' := fun h => by
  have h2 : [Value.ref a, .ref b] = refs n f := by
    have := congrArg Obj.data h
    simp only [W.listOf, Data.seq.injEq] at this
    simpa using congrArg Array.toList this.1
  have h3 := congrArg List.length h2
  rw [refs_len] at h3
  simp at h3
  omega
theorem bools_ne_two {k k' : Nat} {a b : Addr} {x y : Bool} : W.listOf #[.ref a, .ref b] k ≠ W.listOf #[.bool x, .bool y] k' := fun h => by
  have := congrArg Obj.data h
  simp [W.listOf] at this

theorem gen_1 {g h : Heap} {L : Addr} {m : Str → Option Value} {x1 x3 x4 : Str} {v1 v3 v4 : Option Value} (F : Fr g L h (fun y => if y = x1 then v1 else m y)) (e3 : m x3 = v3) (e4 : m x4 = v4) (n3 : x3 ≠ x1) (n4 : x4 ≠ x1) :
    ∃ m' : Str → Option Value, m' x1 = v1 ∧ m' x3 = v3 ∧ m' x4 = v4 ∧ Fr g L h m' := ⟨_, if_pos rfl, (if_neg n3).trans e3, (if_neg n4).trans e4, F⟩
theorem gen_2 {g h : Heap} {L : Addr} {m : Str → Option Value} {x1 x2 x3 : Str} {v1 v2 v3 : Option Value} (F : Fr g L h (fun y => if y = x1 then v1 else if y = x2 then v2 else m y)) (e3 : m x3 = v3) (n2 : x2 ≠ x1) (n3 : x3 ≠ x1) (n3' : x3 ≠ x2) :
    ∃ m' : Str → Option Value, m' x1 = v1 ∧ m' x2 = v2 ∧ m' x3 = v3 ∧ Fr g L h m' := ⟨_, if_pos rfl, (if_neg n2).trans (if_pos rfl), (if_neg n3).trans ((if_neg n3').trans e3), F⟩

theorem Kept.two {h₀ h : Heap} {L a b d : Addr} {news news' : Led} {o : Obj} {us vs : Array Value} {j k : Nat} (K : Kept [a, b] news news') (N : News h₀ L h news) (ha : (a, W.listOf us k) ∈ news) (hb : (b, W.listOf vs j) ∈ news) (m : (d, o) ∈ news) (n1 : o ≠ W.listOf us k) (n2 : o ≠ W.listOf vs j) : (d, o) ∈ news' :=
  K _ m (by
    have x1 := led_ne N m ha n1
    have x2 := led_ne N m hb n2
    simp [x1, x2])

theorem StIn.cell {h₀ h : Heap} {L c : Addr} {news news' : Led} {st : Addr} {f0 f1 : Int} {o : Obj} {v : Option Value} (hd : o.data = .cell v) (hs : StIn news st f0 f1) (N : News h₀ L h news) (hc : (c, o) ∈ news) (K : Kept [c] news news') : StIn news' st f0 f1 := by
  obtain ⟨a, es, n, fr, kf, t0, t1, m1, m2, g, m3⟩ := hs
  exact ⟨a, es, n, fr, kf, t0, t1, K.one m1 (led_ne N m1 hc (inst_ne_cell hd)), K.one m2 (led_ne N m2 hc (dict_ne_cell hd)), g, K.one m3 (led_ne N m3 hc (tup_ne_cell hd))⟩
theorem ints_head {vs : List Value} {ns : List Int} (h : IntsAre vs ns) : vs = [] ∨ ∃ c t r, vs = .int c t :: r := by
  cases h with
  | nil => exact .inl rfl
  | cons n t _ => exact .inr ⟨n, t, _, rfl⟩
theorem two_ne_ints {k k' : Nat} {a b : Addr} {x y : Int} {tx ty : Tok} : W.listOf #[.ref a, .ref b] k ≠ W.listOf #[.int x tx, .int y ty] k' := fun h => by
  have := congrArg Obj.data h
  simp [W.listOf] at this
/-- what the law keeps at hand: the cell of source, the two states, the pool -/
structure Base (c : Addr) (oS : Obj) (sls : Addr) (ksl : Nat) (st0 st1 src : Addr) (ksr : Nat) (nx : Led) : Prop where
  mc : (c, oS) ∈ nx
  qs : (sls, W.listOf #[.ref st0, .ref st1] ksl) ∈ nx
  s0 : StIn nx st0 16384 0
  s1 : StIn nx st1 0 16384
  sr : ∃ p q tp tq, 0 ≤ p ∧ 0 ≤ q ∧ q < 2147483647 ∧ (src, W.listOf #[.int p tp, .int q tq] ksr) ∈ nx
section
variable {c : Addr} {oS : Obj} {sls : Addr} {ksl : Nat} {st0 st1 src : Addr} {ksr : Nat} {nx nx' : Led}
theorem Base.inc (b : Base c oS sls ksl st0 st1 src ksr nx) (K : Kept [] nx nx') : Base c oS sls ksl st0 st1 src ksr nx' :=
  ⟨K.none b.mc, K.none b.qs, b.s0.inc K, b.s1.inc K, let ⟨p, q, tp, tq, h1, h2, h3, h4⟩ := b.sr; ⟨p, q, tp, tq, h1, h2, h3, K.none h4⟩⟩
theorem Base.quiet {news : Led} (b : Base c oS sls ksl st0 st1 src ksr nx) (hm : (c, oS) ∈ news) (h : ∀ p ∈ nx, ¬ Itc p.2 ∨ p ∈ news → p ∈ nx') : Base c oS sls ksl st0 st1 src ksr nx' :=
  have h' : ∀ p ∈ nx, ¬ Itc p.2 → p ∈ nx' := fun p hp hq => h p hp (.inl hq)
  ⟨h _ b.mc (.inr hm), h' _ b.qs itc_list, b.s0.quiet h', b.s1.quiet h', let ⟨p, q, tp, tq, h1, h2, h3, h4⟩ := b.sr; ⟨p, q, tp, tq, h1, h2, h3, h' _ h4 itc_list⟩⟩
theorem Base.take {h₀ h : Heap} {L : Addr} {v : Option Value} {p q p' q' : Int} {tp tq tp' tq' : Tok} (b : Base c oS sls ksl st0 st1 src ksr nx) (dS : oS.data = .cell v) (N : News h₀ L h nx) (m : (src, W.listOf #[.int p tp, .int q tq] ksr) ∈ nx) (K : Kept [src] nx nx')
    (m' : (src, W.listOf #[.int p' tp', .int q' tq'] ksr) ∈ nx') (p0 : 0 ≤ p') (q0 : 0 ≤ q') (q1 : q' < 2147483647) : Base c oS sls ksl st0 st1 src ksr nx' :=
  ⟨K.one b.mc (led_ne N b.mc m (list_ne_cell dS).symm), K.one b.qs (led_ne N b.qs m two_ne_ints), b.s0.kept N m K, b.s1.kept N m K, p', q', tp', tq', p0, q0, q1, m'⟩
theorem Base.one {h₀ h : Heap} {L d : Addr} {v : Option Value} {us : Array Value} {k : Nat} (b : Base c oS sls ksl st0 st1 src ksr nx) (dS : oS.data = .cell v) (N : News h₀ L h nx) (hd : (d, W.listOf us k) ∈ nx) (n1 : sls ≠ d) (n2 : src ≠ d) (K : Kept [d] nx nx') : Base c oS sls ksl st0 st1 src ksr nx' :=
  ⟨K.one b.mc (led_ne N b.mc hd (list_ne_cell dS).symm), K.one b.qs n1, b.s0.kept N hd K, b.s1.kept N hd K, let ⟨p, q, tp, tq, h1, h2, h3, h4⟩ := b.sr; ⟨p, q, tp, tq, h1, h2, h3, K.one h4 n2⟩⟩
theorem Base.two {h₀ h : Heap} {L d e : Addr} {v : Option Value} {n : Nat} {f : Nat → Addr} {j k : Nat} {x y : Bool} (b : Base c oS sls ksl st0 st1 src ksr nx) (dS : oS.data = .cell v) (N : News h₀ L h nx) (hd : (d, W.listOf (refs n f).toArray k) ∈ nx) (he : (e, W.listOf #[.bool x, .bool y] j) ∈ nx) (hn : 3 ≤ n) (K : Kept [d, e] nx nx') : Base c oS sls ksl st0 st1 src ksr nx' :=
  ⟨Kept.two K N hd he b.mc (list_ne_cell dS).symm (list_ne_cell dS).symm, Kept.two K N hd he b.qs (refs_ne_two hn) bools_ne_two, b.s0.kept2 N hd he K, b.s1.kept2 N hd he K,
    let ⟨p, q, tp, tq, h1, h2, h3, h4⟩ := b.sr; ⟨p, q, tp, tq, h1, h2, h3, Kept.two K N hd he h4 refs_ne_ints bools_ne_ints⟩⟩
end
/-- the places built so far -/
def Pts (pl : Addr) (i : Nat) (nx : Led) : Prop := ∃ (pa : Nat → Addr) (px py : Nat → Int) (k : Nat), (pl, W.listOf (refs i pa).toArray k) ∈ nx ∧ ∀ j, j < i → PtAt nx (pa j) (px j) (py j) ∧ -33 ≤ px j ∧ px j ≤ 89 ∧ -33 ≤ py j ∧ py j ≤ 89
theorem Pts.quiet {pl : Addr} {i : Nat} {nx nx' : Led} (p : Pts pl i nx) (h : ∀ p ∈ nx, ¬ Itc p.2 → p ∈ nx') : Pts pl i nx' :=
  let ⟨pa, px, py, k, m, b⟩ := p
  ⟨pa, px, py, k, h _ m itc_list, fun j hj => ⟨(b j hj).1.quiet h, (b j hj).2⟩⟩
theorem Pts.kept {h₀ h : Heap} {L pl d : Addr} {i k : Nat} {us : Array Value} {nx nx' : Led} (p : Pts pl i nx) (N : News h₀ L h nx) (hd : (d, W.listOf us k) ∈ nx) (K : Kept [d] nx nx') (hne : pl ≠ d) : Pts pl i nx' :=
  let ⟨pa, px, py, k, m, b⟩ := p
  ⟨pa, px, py, k, K.one m hne, fun j hj => ⟨let ⟨t, t', n, m2⟩ := (b j hj).1; ⟨t, t', n, K.one m2 (led_ne N m2 hd tup_ne_list)⟩, (b j hj).2⟩⟩
theorem Pts.inc {pl : Addr} {i : Nat} {nx nx' : Led} (p : Pts pl i nx) (K : Kept [] nx nx') : Pts pl i nx' :=
  let ⟨pa, px, py, k, m, b⟩ := p
  ⟨pa, px, py, k, K.none m, fun j hj => ⟨let ⟨t, t', n, m2⟩ := (b j hj).1; ⟨t, t', n, K.none m2⟩, (b j hj).2⟩⟩
/-- one place more -/
theorem Pts.snoc {h₀ h : Heap} {L pl a : Addr} {i k : Nat} {x y : Int} {pa : Nat → Addr} {px py : Nat → Int} {nx nx' : Led} (N : News h₀ L h nx) (m : (pl, W.listOf (refs i pa).toArray k) ∈ nx) (b : ∀ j, j < i → PtAt nx (pa j) (px j) (py j) ∧ -33 ≤ px j ∧ px j ≤ 89 ∧ -33 ≤ py j ∧ py j ≤ 89)
    (ha : PtAt nx a x y) (x0 : -33 ≤ x) (x1 : x ≤ 89) (y0 : -33 ≤ y) (y1 : y ≤ 89) (K : Kept [pl] nx nx') {k' : Nat} (m' : (pl, W.listOf (refs i pa ++ [Value.ref a]).toArray k') ∈ nx') : Pts pl (i + 1) nx' := by
  have pk : ∀ {c u v}, PtAt nx c u v → PtAt nx' c u v := fun ⟨t, t', n, m2⟩ => ⟨t, t', n, K.one m2 (led_ne N m2 m tup_ne_list)⟩
  refine ⟨fup pa i a, fup px i x, fup py i y, k', by rw [← refs_snoc]; exact m', fun j hj => ?_⟩
  by_cases e : j = i
  · subst e
    rw [fup_self, fup_self, fup_self]
    exact ⟨pk ha, x0, x1, y0, y1⟩
  · rw [fup_ne e, fup_ne e, fup_ne e]
    have := b j (by omega)
    exact ⟨pk this.1, this.2⟩
/-- the bounds of the drawn numbers -/
def Small (ys : List Value) : Prop := ∀ v ∈ ys, ∃ x t, v = Value.int x t ∧ -33 ≤ x ∧ x ≤ 89
theorem Small.two {ys : List Value} (h : Small ys) (hl : ys.length = 2) : ∃ x tx y ty, ys = [.int x tx, .int y ty] ∧ -33 ≤ x ∧ x ≤ 89 ∧ -33 ≤ y ∧ y ≤ 89 := by
  match ys, hl with
  | [a, b], _ =>
    obtain ⟨x, tx, rfl, x0, x1⟩ := h a (by simp)
    obtain ⟨y, ty, rfl, y0, y1⟩ := h b (by simp)
    exact ⟨x, tx, y, ty, rfl, x0, x1, y0, y1⟩
theorem gen_3 {g h : Heap} {L : Addr} {m : Str → Option Value} {x1 x2 x3 x4 : Str} {v1 v2 v3 v4 : Option Value} (F : Fr g L h (fun y => if y = x1 then v1 else if y = x2 then v2 else if y = x3 then v3 else m y)) (e4 : m x4 = v4) (n2 : x2 ≠ x1) (n3 : x3 ≠ x1) (n3' : x3 ≠ x2) (n4 : x4 ≠ x1) (n4' : x4 ≠ x2) (n4'' : x4 ≠ x3) :
    ∃ m' : Str → Option Value, m' x1 = v1 ∧ m' x2 = v2 ∧ m' x3 = v3 ∧ m' x4 = v4 ∧ Fr g L h m' := ⟨_, if_pos rfl, (if_neg n2).trans (if_pos rfl), (if_neg n3).trans ((if_neg n3').trans (if_pos rfl)), (if_neg n4).trans ((if_neg n4').trans ((if_neg n4'').trans e4)), F⟩
theorem gen_turn {g h : Heap} {L : Addr} {st : List Str} {x : Str} {v : Option Value} {u m₀ : Str → Option Value} (F : Fr g L h (fun y => if y = x then v else if st.contains y then u y else m₀ y)) : ∃ mm : Str → Option Value, mm x = v ∧ Same x st m₀ mm ∧ Fr g L h mm := ⟨_, if_pos rfl, same_stm, F⟩
theorem Same.at {st : List Str} {x z : Str} {v : Option Value} {m₀ mm : Str → Option Value} (h : Same x st m₀ mm) (e : m₀ z = v) (n : z ≠ x) (c : st.contains z = false) : mm z = v := (h z n c).trans e
theorem gen_put2 {g h : Heap} {L : Addr} {st : List Str} {x a b : Str} {va vb vx : Option Value} {m₀ mm : Str → Option Value} (F : Fr g L h (fun y => if y = a then va else if y = b then vb else mm y)) (hs : Same x st m₀ mm) (ex : mm x = vx) (ha : a ∈ st) (hb : b ∈ st) (nab : b ≠ a) (nxa : x ≠ a) (nxb : x ≠ b) :
    ∃ m' : Str → Option Value, m' a = va ∧ m' b = vb ∧ m' x = vx ∧ Same x st m₀ m' ∧ Fr g L h m' := by
  refine ⟨_, if_pos rfl, (if_neg nab).trans (if_pos rfl), (if_neg nxa).trans ((if_neg nxb).trans ex), fun z hz hc => ?_, F⟩
  have z1 := ncont hc ha
  have z2 := ncont hc hb
  simp only [z1, z2, if_false]
  exact hs z hz hc
theorem gen_done {g h : Heap} {L : Addr} {st : List Str} {x : Str} {u m₀ : Str → Option Value} (F : Fr g L h (fun y => if y = x then u y else if st.contains y then u y else m₀ y)) : ∃ mm : Str → Option Value, Same x st m₀ mm ∧ Fr g L h mm :=
  ⟨_, fun z hz hc => by simp only [hz, hc, if_false, Bool.false_eq_true], F⟩
def SmallN (n : Nat) : Prop := 3 ≤ n ∧ n ≤ 8
theorem Small.snoc {ys : List Value} (h : Small ys) {x : Int} {t : Tok} (x0 : -33 ≤ x) (x1 : x ≤ 89) : Small (ys ++ [.int x t]) := fun v hv => by
  rcases List.mem_append.mp hv with hv | hv
  · exact h v hv
  · exact ⟨x, t, List.mem_singleton.mp hv, x0, x1⟩
theorem ZIn.take {h₀ h : Heap} {L src : Addr} {nx nx' : Led} {Z : ZRep} {p q : Int} {tp tq : Tok} {k : Nat} (hz : ZIn nx Z) (N : News h₀ L h nx) (m : (src, W.listOf #[.int p tp, .int q tq] k) ∈ nx) (K : Kept [src] nx nx') : ZIn nx' Z :=
  let ⟨_, h1⟩ := hz.ol
  let ⟨_, h2⟩ := hz.cl
  let ⟨_, h3⟩ := hz.tl
  hz.kept N m K (led_ne N m h1 refs_ne_ints) (led_ne N m h2 refs_ne_ints) (led_ne N m h3 refs_ne_ints) fun i hi => let ⟨_, h4⟩ := hz.tp i hi; (led_ne N m h4 bools_ne_ints).symm
theorem Base.state {c : Addr} {oS : Obj} {sls : Addr} {ksl : Nat} {st0 st1 src : Addr} {ksr : Nat} {nx : Led} (b : Base c oS sls ksl st0 st1 src ksr nx) {ax : Int} (a0 : 0 ≤ ax) (a1 : ax < 2) : ∃ st f0 f1, ([Value.ref st0, .ref st1] : List Value)[ax.toNat]? = some (.ref st) ∧ StIn nx st f0 f1 ∧ Free f0 f1 := by
  rcases (show ax = 0 ∨ ax = 1 by omega) with rfl | rfl
  · exact ⟨st0, _, _, rfl, b.s0, .inl ⟨rfl, rfl⟩⟩
  · exact ⟨st1, _, _, rfl, b.s1, .inr ⟨rfl, rfl⟩⟩
/-- the letter behind i moves -/
def Turn (Z : ZRep) (n i : Nat) (nx : Led) : Prop := ∃ Z' : ZRep, Z'.z = Z.z ∧ Z'.n = n ∧ Z'.ox = Z.ox ∧ Z'.oy = Z.oy ∧ ZIn nx Z' ∧ ∀ j, j < n → CSmall Z' 200 j ∧ (i ≤ j → CSmall Z' 100 j)
theorem Turn.quiet {Z : ZRep} {n i : Nat} {nx nx' : Led} (h : Turn Z n i nx) (k : ∀ p ∈ nx, ¬ Itc p.2 → p ∈ nx') : Turn Z n i nx' := let ⟨Z', a, b, c, d, e, f⟩ := h; ⟨Z', a, b, c, d, e.quiet k, f⟩
theorem turn_none {Z Z' : ZRep} {n i : Nat} {nx : Led} (e1 : Z'.z = Z.z) (e2 : Z'.n = n) (e3 : Z'.ox = Z.ox) (e4 : Z'.oy = Z.oy) (hz : ZIn nx Z') (hs : ∀ j, j < n → CSmall Z' 200 j ∧ (i ≤ j → CSmall Z' 100 j)) : Turn Z n (i + 1) nx :=
  ⟨Z', e1, e2, e3, e4, hz, fun j hj => ⟨(hs j hj).1, fun h => (hs j hj).2 (by omega)⟩⟩
theorem turn_step {c : Addr} {oS : Obj} {sls : Addr} {ksl : Nat} {st0 st1 src : Addr} {ksr : Nat} {nx nx2 : Led} {h₀ h : Heap} {L : Addr} {v : Option Value} {Z Z' : ZRep} {n i : Nat} {i' f0 s0 s1 : Int} {d : Addr} {tb : Bool} (b : Base c oS sls ksl st0 st1 src ksr nx) (dS : oS.data = .cell v) (N : News h₀ L h nx)
    (e1 : Z'.z = Z.z) (e2 : Z'.n = n) (e3 : Z'.ox = Z.ox) (e4 : Z'.oy = Z.oy) (hz : ZIn nx Z') (hs : ∀ j, j < n → CSmall Z' 200 j ∧ (i ≤ j → CSmall Z' 100 j)) (hi : i < n) (hn3 : 3 ≤ n) (s0a : -45 ≤ s0) (s0b : s0 ≤ 45) (s1a : -45 ≤ s1) (s1b : s1 ≤ 45)
    (ei : i'.toNat = i) (K : Kept [Z'.lc, Z'.ta i'.toNat] nx nx2) (hz2 : ZIn nx2 (Z'.moveM f0 i'.toNat d s0 s1 tb)) : Base c oS sls ksl st0 st1 src ksr nx2 ∧ Turn Z n (i + 1) nx2 := by
  rw [ei] at K hz2
  subst e2
  obtain ⟨_, h1⟩ := hz.cl
  obtain ⟨_, h2⟩ := hz.tp i hi
  have m := move_small (f0 := f0) (c := d) (tb := tb) hi s0a s0b s1a s1b hs
  exact ⟨b.two dS N h1 h2 hn3 K, _, m.2.2.2.1.trans e1, m.1, m.2.1.trans e3, m.2.2.1.trans e4, hz2, m.2.2.2.2⟩
theorem gen_13 {g h : Heap} {L : Addr} {m : Str → Option Value} {x1 x2 x3 x4 : Str} {v1 v2 v3 v4 : Option Value} (F : Fr g L h (fun y => if y = x1 then v1 else m y)) (e2 : m x2 = v2) (e3 : m x3 = v3) (e4 : m x4 = v4) (n2 : x2 ≠ x1) (n3 : x3 ≠ x1) (n4 : x4 ≠ x1) :
    ∃ m' : Str → Option Value, m' x1 = v1 ∧ m' x2 = v2 ∧ m' x3 = v3 ∧ m' x4 = v4 ∧ Fr g L h m' := ⟨_, if_pos rfl, (if_neg n2).trans e2, (if_neg n3).trans e3, (if_neg n4).trans e4, F⟩
theorem turn_zero {Z : ZRep} {n : Nat} {nx : Led} {px py : Nat → Int} (zn : Z.n = n) (hz0 : ∀ i, i < n → Z.ox i = px i ∧ Z.oy i = py i ∧ Z.cx i = px i ∧ Z.cy i = py i ∧ Z.b0 i = false ∧ Z.b1 i = false) (hb : ∀ j, j < n → -33 ≤ px j ∧ px j ≤ 89 ∧ -33 ≤ py j ∧ py j ≤ 89) (hz : ZIn nx Z) : Turn Z n 0 nx :=
  ⟨Z, rfl, zn, rfl, rfl, hz, fun j hj => by
    obtain ⟨a, b, c, d⟩ := hb j hj
    have e := hz0 j hj
    have h : CSmall Z 100 j := by unfold CSmall; rw [e.2.2.1, e.2.2.2.1]; exact ⟨by omega, by omega, by omega, by omega⟩
    exact ⟨h.weak (by decide), fun _ => h⟩⟩
theorem osmall {Z Z' : ZRep} {n : Nat} {px py : Nat → Int} (e2 : Z'.n = n) (e3 : Z'.ox = Z.ox) (e4 : Z'.oy = Z.oy) (hz0 : ∀ i, i < n → Z.ox i = px i ∧ Z.oy i = py i ∧ Z.cx i = px i ∧ Z.cy i = py i ∧ Z.b0 i = false ∧ Z.b1 i = false) (hb : ∀ j, j < n → -33 ≤ px j ∧ px j ≤ 89 ∧ -33 ≤ py j ∧ py j ≤ 89) : OSmall Z' := fun j hj => by
  rw [e2] at hj
  obtain ⟨a, b, c, d⟩ := hb j hj
  have e := hz0 j hj
  rw [e3, e4, e.1, e.2.1]
  exact ⟨by omega, by omega, by omega, by omega⟩
/-- the law is well said: by pieces, each a small look of the kernel -/
theorem said : PySem.Challenge.rw_xm0734_01.wellSaid = true := by
  unfold OpenLaw.wellSaid
  with_reducible repeat' refine look_both ?_ ?_
  · unfold OpenRow.wellSaid OpenRow.partSaid looksOpen
    with_reducible repeat' refine look_both ?_ ?_
    all_goals decide +kernel
  all_goals decide +kernel
section
theorem words_C17_1 : True := by
  k_with_none
  k_with "room" => ((simp only [depth_under_make, depth_under_kw, depth_in1, depth_deeper, depth_caller]); exact room_ok (by with_reducible assumption) (by decide))
  k_with "units" => ((simp only [units_in1, units_deeper, Around.mark_units, units_caller, units_under_make]); first | exact units_ok (by with_reducible assumption) (by decide) | (have hcL9 := cLine_is; omega))
  k_with "mem" => (first | (with_reducible assumption) | exact List.mem_cons_self | (refine List.mem_cons_of_mem _ ?_; k_mem) | (refine Kept.none (by with_reducible assumption) ?_; k_mem) | (refine Kept.one (by with_reducible assumption) (by k_mem) (by walk_at "mine ne")))
  k_with "mine ne" => ((try dsimp only); first | assumption | (refine Ne.symm ?_; assumption) | exact led_ne' (by with_reducible assumption) (by with_reducible assumption) inst_ne_list (by with_reducible assumption) | exact led_ne' (by with_reducible assumption) (by with_reducible assumption) dict_ne_list (by with_reducible assumption) | exact led_ne' (by with_reducible assumption) (by with_reducible assumption) tup_ne_list (by with_reducible assumption))
  k_with "mine zone" => (first | assumption | exact ZIn.inc (by assumption) (by assumption) | exact ZIn.inc (by assumption) Kept.cons)
  k_with "subscriptTail" => (k_here; (with_reducible show wpAny _ _ (subscriptTail _ _ (Value.ref _) (Value.int _ _)) _ _ _); (first | (refine itemL (by k_asm) (by k_mem) (by first | decide | assumption | omega) (by first | decide | with_reducible assumption | omega) (by first | rfl | assumption) ?_ (by with_unfolding_all rfl)) | (refine itemT (by k_asm) (by k_mem) (by first | decide | assumption | omega) (by first | decide | with_reducible assumption | omega) (by first | rfl | assumption) ?_ (by with_unfolding_all rfl))))
  k_with "binaryOp FloorDiv int int" => (k_here; k_dflt (refine floordiv_int (by omega) ?_ (Or.inl (PyProof.noPylong_small (by omega)))))
  k_with "call builtin:len" => (k_here; (with_reducible show wpAny _ _ (call (Value.builtin _) [Value.ref _]) _ _ _); k_dflt (refine lenL (by k_asm) (by k_mem) (by first | assumption | exact refs_len | rfl) (by first | decide | with_reducible assumption | omega) ?_))
  k_with "setItem ref int" => (k_here; (with_reducible show wpAny _ _ (setItem (Value.ref _) (Value.int _ _) _) _ _ _); k_dflt (refine setItemU (by k_asm) (by k_asm) (by k_mem) (by first | decide | assumption | omega) (by first | (simp only [refs_len, List.length_cons, List.length_nil]; omega) | omega) (by first | decide | omega) ?_; intro h' news' F' N' K' M'; (try simp only [Int.reduceToNat, List.set_cons_zero, List.set_cons_succ] at M')))
  k_with "eval Name" => (k_here; k_inBlock; k_dflt (first | (refine comp_local2 (by rfl) (by rfl) (by decide) (by with_reducible assumption) (by with_reducible assumption) (by k_mem) (by k_asm) ?_) | (refine comp_cell2 (by rfl) (by rfl) (by decide) (by rfl) (by k_mem) (by with_reducible assumption) (by k_asm) ?_)))
  k_with "mine assign" => (k_dflt (refine comp_assign (by k_asm) (by with_unfolding_all rfl) (by with_unfolding_all rfl) (by with_unfolding_all rfl) (by decide) (by with_unfolding_all rfl) (by decide) (by with_unfolding_all rfl) (by with_unfolding_all rfl) (by with_unfolding_all rfl) ?_ (by intro _; with_unfolding_all rfl)))
  k_with "mine comp" => (k_dflt (refine comp_eval (by k_asm) (by with_unfolding_all rfl) (by decide) (by with_unfolding_all rfl) (by decide) (by with_unfolding_all rfl) ?_ (by intro _; with_unfolding_all rfl)))
  k_with "mine to assign" => (repeat' ((fail_if_success (with_reducible show wpAny _ _ (exec (.Assign [_] (.ListComp _ _ _ _) _) _) _ _ _)); (first | walk1 | (dsimp only; walk1))))
  k_with "mine to comp" => (repeat' ((fail_if_success (with_reducible show wpAny _ _ (eval (.ListComp _ _ _ _) _) _ _ _)); (first | walk1 | (dsimp only; walk1))))
  k_with "call type:list" => (k_here; (with_reducible show wpAny _ _ (call (Value.type "list") [Value.ref _]) _ _ _); k_dflt (refine kll_range (by exact rfl) (by k_asm) (by k_asm) (by assumption) (by exact rng_small (by first | with_reducible assumption | omega) (by first | with_reducible assumption | omega) (by first | with_reducible assumption | omega) (by first | with_reducible assumption | omega)) (by exact rangeSize_nat _ _) (by first | with_reducible assumption | omega) ?_; intro _ _ _ _ _ _ _ _ _))
  k_with "binaryOp Add ref ref" => (k_here; k_dflt (refine addL (by k_asm) (by k_asm) (by k_mem) (by k_mem) (by first | omega | (have hq1 := IntsAre.length (by assumption); omega) | (simp only [List.length_map, List.length_range, refs_len, List.length_cons, List.length_nil]; first | with_reducible assumption | omega)) ?_; intro _ _ _ _ _))
  k_with "mine to 63" => (repeat' ((fail_if_success (with_reducible show wpAny _ _ (call (Value.ref 63) _) _ _ _)); (first | walk1 | (dsimp only; walk1))))
  k_with "eval Name" => (k_here; k_inBlock; k_dflt (refine nameG_K (by k_asm) (by k_asm) (by k_asm) (by k_is) ?_ (by rfl) (by rfl) (by rfl) (by decide); k_whole))
  k_with "call ref" => (k_here; (with_reducible show wpAny _ _ (call (Value.ref 333) _) _ _ _); k_dflt (refine Con.use (by k_asm) (by k_asm) (by k_asm) (by k_asm) (by k_asm) (by first | exact rfl | assumption) (held_con (by k_mem) (by omega) (by omega) (by omega) (by omega)) (by ktr_room) (by ktr_units) ?_; rintro _ _ _ _ _ _ ⟨_, rfl, _, _, _, _, _⟩; (try dsimp only)))
  k_with "call ref" => (k_here; (with_reducible show wpAny _ _ (call (Value.ref 354) _) _ _ _); k_dflt (refine Con.use (by k_asm) (by k_asm) (by k_asm) (by k_asm) (by k_asm) (by first | exact rfl | assumption) (count_con (by walk_at "mine zone") (by rfl) (by omega)) (by ktr_room) (by ktr_units) ?_; rintro _ _ _ _ _ _ ⟨_, rfl, rfl⟩; (try dsimp only)))
  k_with "call ref" => (k_here; (with_reducible show wpAny _ _ (call (Value.ref 361) _) _ _ _); k_dflt (refine Con.use (by k_asm) (by k_asm) (by k_asm) (by k_asm) (by k_asm) (by first | exact rfl | assumption) (check_con (by walk_at "mine zone") (by rfl) (by omega) (by omega) (by omega)) (by ktr_room) (by ktr_units) ?_; rintro _ _ _ _ _ _ ⟨rfl, rfl⟩; (try dsimp only)))
  k_with "call type:list" => (k_here; (with_reducible show wpAny _ _ (call (Value.type _) [Value.ref _]) _ _ _); k_dflt (refine kup_listOf (by k_asm) (by k_asm) (by k_mem) (by first | exact List.toList_toArray _ | rfl) ?_ (by first | (refine Nat.le_trans (Nat.le_of_eq refs_len) ?_; rw [sizeLine_eq]; omega) | exact Nat.le_of_ble_eq_true rfl)); intro _ _ _ _ _ _)
  k_with "storeName" => (k_here; k_dflt (refine store_my (by k_asm) (by k_asm) (by rfl) (by k_mem) (by k_asm) ?_ (by rfl) (by rfl); k_whole); intro _ _ _ _ _ _ _ _)
  k_with "isTrue" => (refine isTrue_plain ?_)
  exact trivial
theorem same_keep {st : List Str} {u m₀ : Str → Option Value} : ∀ z, st.contains z = false → (fun y => if st.contains y then u y else m₀ y) z = m₀ z := fun z hz => by
  simp only [hz, Bool.false_eq_true, if_false]
theorem words_C17_2 : True := by
  k_with "eval Name" => (k_here; k_dflt (refine nameX_L (by k_asm) (by with_reducible assumption) ?_ (by rfl) (by rfl); k_whole))
  exact trivial
theorem gen_m {S : List Str} {g' h : Heap} {L : Addr} {u m₀ : Str → Option Value} {x1 x2 : Str} {v1 v2 : Value} (F : Fr g' L h (fun y => if S.contains y then u y else m₀ y)) (e1 : m₀ x1 = some v1) (e2 : m₀ x2 = some v2) (n1 : S.contains x1 = false) (n2 : S.contains x2 = false) :
    ∃ mm : Str → Option Value, mm x1 = some v1 ∧ mm x2 = some v2 ∧ (∀ z, S.contains z = false → mm z = m₀ z) ∧ Fr g' L h mm :=
  ⟨_, (same_keep x1 n1).trans e1, (same_keep x2 n2).trans e2, same_keep, F⟩
theorem gen_e {g' h : Heap} {L : Addr} {m2 m₀ : Str → Option Value} {c z : Value} (F : Fr g' L h (fun y => if y = Str.ofString "ends" then some c else m2 y)) (u1 : m2 (Str.ofString "zone") = some z) (u2 : ∀ z, [Str.ofString "ends", Str.ofString "low", Str.ofString "high"].contains z = false → m2 z = m₀ z) :
    ∃ m3 : Str → Option Value, m3 (Str.ofString "zone") = some z ∧ m3 (Str.ofString "ends") = some c ∧ (∀ z, [Str.ofString "ends", Str.ofString "low", Str.ofString "high"].contains z = false → m3 z = m₀ z) ∧ Fr g' L h m3 := by
  refine ⟨_, ?_, ?_, ?_, F⟩
  · rw [if_neg (by decide +kernel)]; exact u1
  · rw [if_pos rfl]
  · intro y hy
    have z1 := ncont hy (y := Str.ofString "ends") (by simp)
    simp only [z1, if_false]
    exact u2 y hy
theorem gen_lh {g' h : Heap} {L : Addr} {m2 m₀ : Str → Option Value} {a b z : Value} (F : Fr g' L h (fun y => if y = Str.ofString "high" then some b else if y = Str.ofString "low" then some a else m2 y)) (u1 : m2 (Str.ofString "zone") = some z) (u2 : ∀ z, [Str.ofString "ends", Str.ofString "low", Str.ofString "high"].contains z = false → m2 z = m₀ z) :
    ∃ m3 : Str → Option Value, m3 (Str.ofString "zone") = some z ∧ m3 (Str.ofString "low") = some a ∧ m3 (Str.ofString "high") = some b ∧ (∀ z, [Str.ofString "ends", Str.ofString "low", Str.ofString "high"].contains z = false → m3 z = m₀ z) ∧ Fr g' L h m3 := by
  refine ⟨_, ?_, ?_, ?_, ?_, F⟩
  · rw [if_neg (by decide +kernel), if_neg (by decide +kernel)]; exact u1
  · rw [if_neg (by decide +kernel), if_pos rfl]
  · rw [if_pos rfl]
  · intro y hy
    have z2 := ncont hy (y := Str.ofString "low") (by simp)
    have z3 := ncont hy (y := Str.ofString "high") (by simp)
    simp only [z2, z3, if_false]
    exact u2 y hy
theorem gen_swap {g' h : Heap} {L : Addr} {m2 m₀ : Str → Option Value} {a b z : Value} (F : Fr g' L h (fun y => if y = Str.ofString "low" then some b else if y = Str.ofString "high" then some a else m2 y)) (u1 : m2 (Str.ofString "zone") = some z) (u2 : ∀ z, [Str.ofString "ends", Str.ofString "low", Str.ofString "high"].contains z = false → m2 z = m₀ z) :
    ∃ m3 : Str → Option Value, m3 (Str.ofString "zone") = some z ∧ m3 (Str.ofString "low") = some b ∧ m3 (Str.ofString "high") = some a ∧ (∀ z, [Str.ofString "ends", Str.ofString "low", Str.ofString "high"].contains z = false → m3 z = m₀ z) ∧ Fr g' L h m3 := by
  refine ⟨_, ?_, ?_, ?_, ?_, F⟩
  · rw [if_neg (by decide +kernel), if_neg (by decide +kernel)]; exact u1
  · rw [if_pos rfl]
  · rw [if_neg (by decide +kernel), if_pos rfl]
  · intro y hy
    have z2 := ncont hy (y := Str.ofString "low") (by simp)
    have z3 := ncont hy (y := Str.ofString "high") (by simp)
    simp only [z2, z3, if_false]
    exact u2 y hy
theorem PtAt.none {nx nx' : Led} {a : Addr} {x y : Int} (h : PtAt nx a x y) (K : Kept [] nx nx') : PtAt nx' a x y := let ⟨t, t', k, m⟩ := h; ⟨t, t', k, K.none m⟩
theorem BpAt.none {nx nx' : Led} {a : Addr} {x y : Bool} (h : BpAt nx a x y) (K : Kept [] nx nx') : BpAt nx' a x y := let ⟨k, m⟩ := h; ⟨k, K.none m⟩
theorem two_of {ys : List Value} {a b : Value} (hl : ys.length = 2) (h0 : ys[0]? = some a) (h1 : ys[1]? = some b) : ys = [a, b] := by
  match ys, hl with
  | [x, y], _ =>
    simp only [List.getElem?_cons_zero, List.getElem?_cons_succ, Option.some.injEq] at h0 h1
    rw [h0, h1]
theorem mono_pt {news nx nx' : Led} {X : List Addr} (h : ∀ p ∈ nx, p.1 ∉ X ∨ p ∈ news → p ∈ nx') {ys : List Value} {j : Nat} {x y : Int} (b : ∃ T, ys[j]? = some (.ref T) ∧ T ∉ X ∧ PtAt nx T x y) : ∃ T, ys[j]? = some (.ref T) ∧ T ∉ X ∧ PtAt nx' T x y :=
  let ⟨T, e, f, t, t', k, m⟩ := b
  ⟨T, e, f, t, t', k, h _ m (.inl f)⟩
def among (n f l : Nat) (mk : Nat → Bool) : Bool := (((List.range n).drop f).take (l + 1 - f)).any mk
theorem among_iff {n f l : Nat} {mk : Nat → Bool} (hl : l < n) : among n f l mk = true ↔ ∃ t, f ≤ t ∧ t ≤ l ∧ mk t = true := by
  unfold among
  rw [List.any_eq_true]
  constructor
  · rintro ⟨x, hx, h⟩
    rw [List.mem_iff_getElem] at hx
    obtain ⟨k, hk, e⟩ := hx
    rw [List.length_take, List.length_drop, List.length_range] at hk
    rw [List.getElem_take, List.getElem_drop, List.getElem_range] at e
    exact ⟨x, by omega, by omega, h⟩
  · rintro ⟨t, a, b, h⟩
    refine ⟨t, List.mem_iff_getElem.mpr ⟨t - f, by rw [List.length_take, List.length_drop, List.length_range]; omega, ?_⟩, h⟩
    rw [List.getElem_take, List.getElem_drop, List.getElem_range]
    omega
section
variable {prog : Program} {w : World} {A : Around} {E : Value → Shared → Prop} {s : Shared} {h₀ : Heap} {L D : Addr} {news : Led} {Q : Value → Shared → Prop}
theorem in_marks {n f l : Nat} {mk : Nat → Bool} {k : Nat} {lo hi : Int} (N : News h₀ L s.heap news) (hm : (D, W.listOf (slicePick (bools n mk).toArray (some lo) (some hi) none) k) ∈ news) (hlo : lo = f) (hhi : hi = (l + 1 : Nat)) (hl : l < n) (hf : f ≤ l) (hu : A.units + 1 < cLine)
    (h : Q (.bool (among n f l mk)) s) : wpAny (model prog w) A (compareOp .In (.bool true) (.ref D)) Q E s := by
  subst hlo hhi
  rw [slicePick_run _ _ _ (by rw [List.size_toArray, bools_len]; omega) (by omega)] at hm
  have e : ((bools n mk).toArray.toList.drop f).take (l + 1 - f) = (((List.range n).drop f).take (l + 1 - f)).map fun i => Value.bool (mk i) := by
    unfold bools
    rw [List.toList_toArray, ← List.map_drop, ← List.map_take]
  rw [e] at hm
  obtain ⟨as, ha⟩ := reads_map (h := s.heap) (g := fun i => .bool (mk i)) (d := fun i => .bool (mk i)) (((List.range n).drop f).take (l + 1 - f)) fun i _ => ⟨_, .bool _⟩
  have hc : ∀ l : List Nat, PyData.canLayAll0 (l.map fun i => PyData.bool (mk i)) = true := fun l => by
    induction l with
    | nil => rfl
    | cons i l ih => simp only [List.map_cons, PyData.canLayAll0, PyData.canLay0, ih, Bool.and_self]
  refine SeqAt.in_list_reads (.list (N _ hm).1 rfl rfl ha) (.bool true) (hc _) rfl (by simp only [PyData.depth, Nat.min_zero]; exact hu) ?_
  have e2 : ((((List.range n).drop f).take (l + 1 - f)).map fun i => PyData.bool (mk i)).any (fun y => PyData.eqv y (.bool true)) = among n f l mk := by
    unfold among
    rw [List.any_map]
    congr 1
    funext i
    show PyData.eqv (.bool (mk i)) (.bool true) = mk i
    simp [PyData.eqv]
  rw [e2]
  exact h
end
variable {w : World} {mean : ExcName → Option Value} {mg mb : Str → Option Value}
set_option maxHeartbeats 8000000 in
theorem right_con {Z : ZRep} {news : Led} {axis first last : Int} {ta tf tl : Tok} (hz : ZIn news Z) {z : Addr} (ez : z = Z.z) (hn : Z.n ≤ 200) (hO : OSmall Z) (hC : ∀ j, j < Z.n → CSmall Z 1000 j) (hx : axis = 0 ∨ axis = 1)
    (f0 : 0 ≤ first) (fl : first ≤ last) (lN : last < Z.n) :
    Con w mean mg mb 436 [.ref z, .int axis ta, .int first tf, .int last tl] 30 news (fun r news' => r = .bool true) := by
  subst ez
  obtain ⟨f, rfl⟩ := Int.eq_ofNat_of_zero_le f0
  obtain ⟨l, rfl⟩ := Int.eq_ofNat_of_zero_le (show 0 ≤ last by omega)
  obtain ⟨h1, h2, h3, h4, h5, k1, k2, k3, k4, k5, k, hdd⟩ := hz.dict
  obtain ⟨kt, htl⟩ := hz.tl
  obtain ⟨ko, hol⟩ := hz.ol
  obtain ⟨kc, hcl⟩ := hz.cl
  have hob := hz.obj
  have hx0 : 0 ≤ axis := by omega
  have hx1 : axis < 2 := by omega
  unfold Con
  k_fill
  intro dp un gd cn cs aF ccd cl outer A₀ base h₀ L m s Q E B F X N T hk hd hu hret
  refine wpAny_call ?_
  k_dflt (refine' code_defC ?k1 ?k2 ?k3 ?k4 ?k5 ?kA ?kF ?kK ?k6 ?k7 ?k8 ?k9 ?kB ?kD ?_ ?c2 ?c3 ?c4; (case kA => exact rfl); (case kF => exact rfl); (case kK => assumption); (case k1 => k_asm); (case k2 => k_asm); (case k3 => k_asm); (case k4 => k_asm); (case k5 => k_asm); (case k6 => k_is); (case k7 => k_is); (case k8 => ktr_room); (case k9 => exact BindsTo.of_eq rfl); (case kB => exact rfl); (case kD => decide +kernel); (case c2 => exact rfl); (case c3 => exact rfl); (case c4 => exact rfl); k_whole; intro g' L' h' tk' cells' FG' F' N' Y' B' X' T' l1; (obtain ⟨o1, o2, o3, o4, o5, o6, o7, hE', d1, d2, d3, d4, d5, d6, d7⟩ := CellsAre.seven Y'; subst hE'; clear Y'); (try simp only [List.cons_append, List.nil_append] at N'); (try dsimp only); (try k_lift B'); (try k_fold))
  repeat' ((fail_if_success (with_reducible show wpAny _ _ (storeName _ _ _) _ _ _)); (first | walk1 | (dsimp only; walk1)))
  rename_i Do kco hpA gA Dn kcn hpB gB Dt hpC gC hpD FD ND
  have nDo : Do ≠ Z.lc := (lt_ne (gA _ (.tail _ (.tail _ (.tail _ (.tail _ (.tail _ (.tail _ (.tail _ (hcl)))))))))).symm
  have nDn : Dn ≠ Z.lc := (lt_ne (gB _ (.tail _ (.tail _ (.tail _ (.tail _ (.tail _ (.tail _ (.tail _ (.tail _ (hcl))))))))))).symm
  obtain ⟨LA, NA, q1, q2, q3, q4, q5, q6, q7, qo, qn, hzA⟩ : ∃ LA : Led, News g' L' hpD LA ∧ (L' + 1 + 1 + 1 + 1 + 1 + 1 + 1, o1) ∈ LA ∧ (L' + 1 + 1 + 1 + 1 + 1 + 1, o2) ∈ LA ∧ (L' + 1 + 1 + 1 + 1 + 1, o3) ∈ LA ∧ (L' + 1 + 1 + 1 + 1, o4) ∈ LA ∧ (L' + 1 + 1 + 1, o5) ∈ LA ∧ (L' + 1 + 1, o6) ∈ LA ∧ (L' + 1, o7) ∈ LA ∧ (Do, W.listOf (refs Z.n Z.oa).toArray kco) ∈ LA ∧ (Dn, W.listOf (refs Z.n Z.ca).toArray kcn) ∈ LA ∧ ZIn LA Z :=
    ⟨_, ND, .tail _ (.tail _ (.tail _ (.head _))), .tail _ (.tail _ (.tail _ (.tail _ (.head _)))), .tail _ (.tail _ (.tail _ (.tail _ (.tail _ (.head _))))), .tail _ (.tail _ (.tail _ (.tail _ (.tail _ (.tail _ (.head _)))))), .tail _ (.tail _ (.tail _ (.tail _ (.tail _ (.tail _ (.tail _ (.head _))))))), .tail _ (.tail _ (.tail _ (.tail _ (.tail _ (.tail _ (.tail _ (.tail _ (.head _)))))))), .tail _ (.tail _ (.tail _ (.tail _ (.tail _ (.tail _ (.tail _ (.tail _ (.tail _ (.head _))))))))), .tail _ (.tail _ (.head _)), .tail _ (.head _), hz.inc fun p hp _ => .tail _ (.tail _ (.tail _ (.tail _ (.tail _ (.tail _ (.tail _ (.tail _ (.tail _ (.tail _ (hp))))))))))⟩
  clear ND gA gB gC
  walk1
  rename_i h1 LB oOld F1 N1 K1 mOld dOld
  replace qo := K1.list NA q4 d4 qo
  replace qn := K1.list NA q4 d4 qn
  have hzB := ZIn.cell d4 hzA NA q4 K1
  replace q7 := K1.one q7 (by k_ne)
  replace q6 := K1.one q6 (by k_ne)
  replace q5 := K1.one q5 (by k_ne)
  replace q3 := K1.one q3 (by k_ne)
  replace q2 := K1.one q2 (by k_ne)
  replace q1 := K1.one q1 (by k_ne)
  clear K1 q4 NA hzA
  repeat' ((fail_if_success (with_reducible show wpAny _ _ (storeName _ _ _) _ _ _)); (first | walk1 | (dsimp only; walk1)))
  walk1
  rename_i h2 LC oNow F2 N2 K2 mNow dNow
  replace qo := K2.list N1 q3 d3 qo
  replace qn := K2.list N1 q3 d3 qn
  have hzC := ZIn.cell d3 hzB N1 q3 K2
  replace q7 := K2.one q7 (by k_ne)
  replace q6 := K2.one q6 (by k_ne)
  replace q5 := K2.one q5 (by k_ne)
  replace q2 := K2.one q2 (by k_ne)
  replace q1 := K2.one q1 (by k_ne)
  replace mOld := K2.one mOld (by k_ne)
  clear K2 q3 N1 hzB
  walk_at "mine to comp"
  walk_at "mine comp"
  obtain ⟨h1z, h2z, h3z, h4z, h5z, k1z, k2z, k3z, k4z, k5z, kz, hddC⟩ := hzC.dict
  have hobC := hzC.obj
  obtain ⟨ktC, htlC⟩ := hzC.tl
  k_steps
  refine ⟨_, _, Z.n, _, fun X i ys nx => Kept [] LC nx ∧ ∃ tb : Nat → Addr, ys = refs i tb ∧ ∀ j, j < i → BpAt nx (tb j) (Z.b0 j) (Z.b1 j) ∧ tb j ∉ X ∧ ∀ p ∈ LC, p.1 ≠ tb j, src_refs (f := Z.ta) rfl htlC (by k_asm) (by k_asm), ⟨by omega, ?_, ?_, ?_⟩, ?_⟩
  · exact fun X i ys nx nx' h ⟨a, tb, e, b⟩ => ⟨fun p hp hn => h p (a p hp hn) (.inr hp), tb, e, fun j hj => ⟨let ⟨k, m⟩ := (b j hj).1; ⟨k, h _ m (.inl (b j hj).2.1)⟩, (b j hj).2⟩⟩
  · exact fun X h => ⟨Kept.refl, fun _ => 0, rfl, fun j hj => absurd hj (Nat.not_lt_zero _)⟩
  · rintro I C D' i v ys nx h tk io oC kD m₂ E' hi hv0 hio hI hCm hCn hv hD' hKp ⟨hk2, tb, rfl, hb⟩ F1 N1 hfr
    rw [refs_get hi] at hv0
    obtain rfl := Option.some.inj hv0
    obtain ⟨kb, mb⟩ := hzC.tp i hi
    have mb2 := hk2.none mb
    refine tests_none ?_
    refine CStep.intro (by k_asm) (by k_asm) (keep4 hI hCm hD' (hKp _ (.head _))) ?_
    simp only [if_true]
    k_steps
    rename_i b2 c5 h5 F5 N5 l5
    have lI : I ≠ b2 := Nat.ne_of_lt (l5 (I, io) hI)
    have lC : C ≠ b2 := Nat.ne_of_lt (l5 (C, oC) hCm)
    have lD : D' ≠ b2 := Nat.ne_of_lt (l5 (D', _) hD')
    refine CStep.intro (by k_asm) (by k_asm) (fun p hp => .tail _ (keep4 hI hCm hD' (hKp _ (.head _)) p hp)) ⟨fun p hp hn => .tail _ (hk2 p hp hn), fup tb i b2, refs_snoc, fun j hj => ?_⟩
    by_cases e : j = i
    · subst e
      rw [fup_self]
      exact ⟨⟨c5, .head _⟩, by simp [lI.symm, lC.symm, lD.symm], fun p hp => Nat.ne_of_lt (l5 _ (hk2.none hp))⟩
    · rw [fup_ne e]
      obtain ⟨⟨k, b⟩, c⟩ := hb j (by omega)
      exact ⟨⟨k, .tail _ b⟩, c⟩
  · intro X Dtc h tk nx ys kDt F1 N1 _ hX hD3 hJ
    obtain ⟨hk2, tb, rfl, hb⟩ := hJ
    obtain ⟨LD, ND, kCD, qt, hbD⟩ : ∃ LD : Led, News g' L' h LD ∧ Kept [] LC LD ∧ (Dtc, W.listOf (refs Z.n tb).toArray kDt) ∈ LD ∧ ∀ j, j < Z.n → BpAt LD (tb j) (Z.b0 j) (Z.b1 j) := ⟨_, N1, fun p hp _ => .tail _ (hk2.none hp), .head _, fun j hj => let ⟨k, b⟩ := (hb j hj).1; ⟨k, .tail _ b⟩⟩
    obtain ⟨kcC, hclC⟩ := hzC.cl
    have nDtc : Dtc ≠ Z.lc := (hD3 _ hclC).symm
    have ntb : ∀ j, j < Z.n → tb j ≠ Z.lc := fun j hj => ((hb j hj).2.2 _ hclC).symm
    clear N1 hk2 hb hX hD3
    replace qo := kCD.none qo
    replace qn := kCD.none qn
    have hzD := hzC.inc kCD
    replace q7 := kCD.none q7
    replace q6 := kCD.none q6
    replace q5 := kCD.none q5
    replace q2 := kCD.none q2
    replace q1 := kCD.none q1
    replace mOld := kCD.none mOld
    replace mNow := kCD.none mNow
    replace hddC := kCD.none hddC
    replace hobC := kCD.none hobC
    replace htlC := kCD.none htlC
    clear kCD hzC N2
    walk_at "mine to comp"
    walk_at "mine comp"
    k_steps
    refine ⟨_, _, Z.n, _, fun X i ys nx => Kept [] LD nx ∧ ys = bools i (Z.mark axis), src_refs (f := Z.ta) rfl htlC (by k_asm) (by k_asm), ⟨by omega, ?_, ?_, ?_⟩, ?_⟩
    · exact fun X i ys nx nx' h j => ⟨fun p hp hn => h p (j.1 p hp hn) (.inr hp), j.2⟩
    · exact fun X h => ⟨Kept.refl, rfl⟩
    · rintro I C D' i v ys nx h tk io oC kD m₂ E' hi hv0 hio hI hCm hCn hv hD' hKp ⟨hk2, rfl⟩ F1 N1 hfr
      rw [refs_get hi] at hv0
      obtain rfl := Option.some.inj hv0
      obtain ⟨kb, mb⟩ := hzD.tp i hi
      have mb2 := hk2.none mb
      have q7' := hk2.none q7
      have g2 := mark_get (x := Z.b0 i) (y := Z.b1 i) hx
      refine tests_none ?_
      refine CStep.intro (by k_asm) (by k_asm) (keep4 hI hCm hD' (hKp _ (.head _))) ?_
      simp only [if_true]
      k_steps
      refine CStep.intro (by k_asm) (by k_asm) (keep4 hI hCm hD' (hKp _ (.head _))) ⟨hk2, ?_⟩
      simp [bools, List.range_succ, ZRep.mark]
    · intro X Dm h tk nx ys kDm F1 N1 _ hX hD3 hJ
      obtain ⟨hk2, rfl⟩ := hJ
      obtain ⟨LE, NE, kDE, qm⟩ : ∃ LE : Led, News g' L' h LE ∧ Kept [] LD LE ∧ (Dm, W.listOf (bools Z.n (Z.mark axis)).toArray kDm) ∈ LE := ⟨_, N1, fun p hp _ => .tail _ (hk2.none hp), .head _⟩
      obtain ⟨kcD, hclD⟩ := hzD.cl
      have nDm : Dm ≠ Z.lc := (hD3 _ hclD).symm
      clear N1 hk2 hX hD3
      replace qo := kDE.none qo
      replace qn := kDE.none qn
      have hzE := hzD.inc kDE
      replace q7 := kDE.none q7
      replace q6 := kDE.none q6
      replace q5 := kDE.none q5
      replace q2 := kDE.none q2
      replace q1 := kDE.none q1
      replace mOld := kDE.none mOld
      replace mNow := kDE.none mNow
      replace qt := kDE.none qt
      replace hbD : ∀ j, j < Z.n → BpAt LE (tb j) (Z.b0 j) (Z.b1 j) := fun j hj => (hbD j hj).none kDE
      clear kDE hzD ND hddC hobC htlC
      repeat' ((fail_if_success (with_reducible show wpAny _ _ (storeName _ _ _) _ _ _)); (first | walk1 | (dsimp only; walk1)))
      walk1
      repeat' ((fail_if_success (with_reducible show wpAny _ _ (storeName _ _ _) _ _ _)); (first | walk1 | (dsimp only; walk1)))
      rename News _ _ _ (_ :: LE) => NF
      walk1
      rename_i h6 LF oMk F6 N6 K6 mMk dMk
      replace qo := K6.list NF (.tail _ q2) d2 (.tail _ qo)
      replace qn := K6.list NF (.tail _ q2) d2 (.tail _ qn)
      replace qt := K6.list NF (.tail _ q2) d2 (.tail _ qt)
      replace qm := K6.list NF (.tail _ q2) d2 (.tail _ qm)
      replace hbD := K6.bps NF (.tail _ q2) d2 fun j hj => let ⟨k, b⟩ := hbD j hj; ⟨k, .tail _ b⟩
      have hzF := ZIn.cell d2 (hzE.inc Kept.cons) NF (.tail _ q2) K6
      replace q7 := K6.one (.tail _ q7) (by k_ne)
      replace q6 := K6.one (.tail _ q6) (by k_ne)
      replace q5 := K6.one (.tail _ q5) (by k_ne)
      replace q1 := K6.one (.tail _ q1) (by k_ne)
      replace mOld := K6.one (.tail _ mOld) (by k_ne)
      replace mNow := K6.one (.tail _ mNow) (by k_ne)
      clear K6 NF q2 hzE
      repeat' ((fail_if_success (with_reducible show wpAny _ _ (call (Value.ref 68) _) _ _ _)); (first | walk1 | (dsimp only; walk1)))
      obtain ⟨kcF, hclF⟩ := hzF.cl
      have nc : ∀ {a : Addr} {o : Obj} {v : Option Value}, (a, o) ∈ LF → o.data = .cell v → a ≠ Z.lc := fun m hd => (led_ne N6 hclF m (list_ne_cell hd)).symm
      k_dflt (refine' Con.use ?B ?F ?X ?N ?T ?k ?c ?d ?u ?_; (case B => k_asm); (case F => k_asm); (case X => k_asm); (case N => k_asm); (case T => k_asm); (case k => first | exact rfl | assumption); (case c => exact draw_con hzF (by rfl) (by omega) hO hC hx f0 fl lN); (case d => ktr_room); (case u => ktr_units))
      rintro r9 LG h9 tk9 F9 N9 ⟨e9, K9, Z', ⟨ca', cx', cy', rfl⟩, hz', hfin⟩
      subst e9
      (try dsimp only)
      replace hbD : ∀ j, j < Z.n → BpAt LG (tb j) (Z.b0 j) (Z.b1 j) := fun j hj => let ⟨k, b⟩ := hbD j hj; ⟨k, K9.one b (ntb j hj)⟩
      have hptn : ∀ j, j < Z.n → PtAt LG (Z.ca j) (Z.cx j) (Z.cy j) := fun j hj => let ⟨t, t', k, b⟩ := hzF.cp j hj; ⟨t, t', k, K9.one b (led_ne N6 b hclF tup_ne_list)⟩
      replace qo := K9.one qo nDo
      replace qn := K9.one qn nDn
      replace qt := K9.one qt nDtc
      replace qm := K9.one qm nDm
      replace q7 := K9.one q7 (nc q7 d7)
      replace q6 := K9.one q6 (nc q6 d6)
      replace q5 := K9.one q5 (nc q5 d5)
      replace q1 := K9.one q1 (nc q1 d1)
      replace mOld := K9.one mOld (nc mOld dOld)
      replace mNow := K9.one mNow (nc mNow dNow)
      replace mMk := K9.one mMk (nc mMk dMk)
      clear nc nDo nDn nDtc nDm ntb K9 hclF hzF N6 hz
      generalize hZ2 : Z.mv ca' cx' cy' = Z2 at *
      simp only [Int.toNat_natCast] at hfin
      obtain ⟨g1z, g2z, g3z, g4z, g5z, j1z, j2z, j3z, j4z, j5z, jz, hddG⟩ := hz'.dict
      have hobG := hz'.obj
      obtain ⟨ktG, htlG⟩ := hz'.tl
      obtain ⟨koG, holG⟩ := hz'.ol
      obtain ⟨kcG, hclG⟩ := hz'.cl
      have e1 : Z2.z = Z.z := by subst hZ2; rfl
      have e2 : Z2.n = Z.n := by subst hZ2; rfl
      have e3 : Z2.oa = Z.oa := by subst hZ2; rfl
      have e4 : Z2.ox = Z.ox := by subst hZ2; rfl
      have e5 : Z2.oy = Z.oy := by subst hZ2; rfl
      have e6 : Z2.b0 = Z.b0 := by subst hZ2; rfl
      have e7 : Z2.b1 = Z.b1 := by subst hZ2; rfl
      rw [e1] at hobG
      rw [← e2] at qn qt qm qo hbD hptn lN hn
      rw [← e3] at qo
      rw [← e6, ← e7] at hbD
      repeat' ((fail_if_success (with_reducible show wpAny _ _ (compareOp _ _ _) _ _ _)); (first | walk1 | (dsimp only; walk1)))
      k_dflt (refine ne_same (reads_pts (by k_asm) holG hz'.op) (reads_pts (by k_asm) qo hz'.op) (shaped_map (fun _ => dpt_ok) _) (by ktr_units) ?_)
      repeat' ((fail_if_success (with_reducible show wpAny _ _ (compareOp _ _ _) _ _ _)); (first | walk1 | (dsimp only; walk1)))
      k_dflt (refine ne_same (reads_bps (by k_asm) htlG hz'.tp) (reads_bps (by k_asm) qt hbD) (shaped_map (fun _ => dbp_ok) _) (by ktr_units) ?_)
      repeat' ((fail_if_success (with_reducible show wpAny _ _ (call (Value.ref 354) _) _ _ _)); (first | walk1 | (dsimp only; walk1)))
      k_dflt (refine' Con.use ?B ?F ?X ?N ?T ?k ?c ?d ?u ?_; (case B => k_asm); (case F => k_asm); (case X => k_asm); (case N => k_asm); (case T => k_asm); (case k => first | exact rfl | assumption); (case c => exact count_con hz' e1.symm (by omega)); (case d => ktr_room); (case u => ktr_units))
      rintro r9 LG' h9' tk9' F9' N9' ⟨tr9, e9, e9'⟩
      subst e9 e9'
      (try dsimp only)
      clear F9 N9
      repeat' ((fail_if_success (with_reducible show wpAny _ _ (call (Value.builtin "len") _) _ _ _)); (first | walk1 | (dsimp only; walk1)))
      k_dflt (refine lenL (by k_asm) qn refs_len (by omega) ?_)
      iterate 3 (first | walk1 | (dsimp only; walk1))
      · (rename _ ≠ _ => hne9; exact (hne9 rfl).elim)
      repeat' ((fail_if_success (with_reducible show wpAny _ _ (subscriptTail _ _ _ _) _ _ _)); (first | walk1 | (dsimp only; walk1)))
      k_dflt (refine' slice_list3 (lo := some (f : Int)) (hi := some ((l : Int) + 1)) (st := none) ?F ?N ?l ?pl ?pu ?pk ?h0 ?_ ?hs ?ht ?hsz; (case F => k_asm); (case N => k_asm); (case l => exact News.isList (by k_asm) qm); (case pl => exact .int _ _); (case pu => exact .int _ _); (case pk => exact .none); (case h0 => simp); (case hs => with_unfolding_all rfl); (case ht => intro _; with_unfolding_all rfl); (case hsz => rw [List.size_toArray, bools_len, sizeLine_eq]; omega))
      intro h10 F10 N10
      generalize hDs : (_ : Heap).objs.size + 1 = Ds at N10 ⊢
      clear hDs
      repeat' ((fail_if_success (with_reducible show wpAny _ _ (compareOp _ _ _) _ _ _)); (first | walk1 | (dsimp only; walk1)))
      k_dflt (refine in_marks (n := Z2.n) (mk := Z.mark axis) (f := f) (l := l) N10 (.head _) (by omega) (by omega) (by omega) (by omega) (by ktr_units) ?_)
      have hB := among_iff (n := Z2.n) (f := f) (l := l) (mk := Z.mark axis) (by omega)
      generalize among Z2.n f l (Z.mark axis) = B at *
      obtain ⟨LH, NH, kGH⟩ : ∃ LH : Led, News g' L' h10 LH ∧ Kept [] LG' LH := ⟨_, N10, Kept.cons⟩
      clear N10
      replace qn := kGH.none qn
      replace qo := kGH.none qo
      replace qm := kGH.none qm
      replace q7 := kGH.none q7
      replace q6 := kGH.none q6
      replace q5 := kGH.none q5
      replace q1 := kGH.none q1
      replace mOld := kGH.none mOld
      replace mNow := kGH.none mNow
      replace mMk := kGH.none mMk
      replace hz' := hz'.inc kGH
      replace hptn : ∀ j, j < Z2.n → PtAt LH (Z.ca j) (Z.cx j) (Z.cy j) := fun j hj => (hptn j hj).none kGH
      replace hobG := kGH.none hobG
      replace hddG := kGH.none hddG
      replace hclG := kGH.none hclG
      clear kGH N9' hbD qt htlG holG
      repeat' ((fail_if_success (with_reducible show wpAny _ _ (exec (.For _ _ _ _ _) _) _ _ _)); (first | walk1 | (dsimp only; walk1)))
      rename Fr g' L' _ _ => FL
      obtain ⟨m0, e0z, e0a, FM⟩ : ∃ m0 : Str → Option Value, m0 (Str.ofString "zone") = some (.ref Z.z) ∧ m0 (Str.ofString "is_any") = some (.bool B) ∧ Fr g' L' _ m0 := ⟨_, by kernel_rfl, by kernel_rfl, FL⟩
      clear FL
      rename News g' L' _ LH => NL
      k_dflt (refine For_cell (c := L' + 1 + 1 + 1 + 1 + 1 + 1 + 1) [Str.ofString "ends", Str.ofString "low", Str.ofString "high"] FM rfl (by rfl) (by rfl) (by rfl) ?_)
      repeat' ((fail_if_success (with_reducible show CellGo _ _ _ _ _ _ _ _ _ _ _ _)); (first | walk1 | (dsimp only; walk1)))
      rename IsRange _ _ _ _ _ _ _ _ => hr
      rename News g' L' _ LH => NL
      refine ⟨_, _, _, _, _, _, Z2.n, _, _, _, _, fun i nx => Kept [L' + 1 + 1 + 1 + 1 + 1 + 1 + 1] LH nx, rfl, hr, rng_small (by omega) (by omega) (by omega) (by omega), by rw [rangeSize_nat]; omega, by k_asm, by k_asm, q1, d1, ?_, Kept.refl, ?_, ?_⟩
      · exact fun i nx nx' h j p hp hn => h p (j p hp hn) (by simpa using hn) (.inr hp)
      · rintro i t u nx h tk2 I io oc hi hio hI hc hcd hJ F1 N1
        obtain ⟨mm, vz, va, vs, F1⟩ := gen_m F1 e0z e0a (by kernel_rfl) (by kernel_rfl)
        have hz2 := ZIn.cell d1 hz' NL q1 hJ
        replace qn := hJ.list NL q1 d1 qn
        replace qo := hJ.list NL q1 d1 qo
        replace qm := hJ.list NL q1 d1 qm
        replace hclG := hJ.list NL q1 d1 hclG
        replace q7 := hJ.one q7 (by k_ne)
        replace q6 := hJ.one q6 (by k_ne)
        replace q5 := hJ.one q5 (by k_ne)
        replace mOld := hJ.one mOld (by k_ne)
        replace mNow := hJ.one mNow (by k_ne)
        replace mMk := hJ.one mMk (by k_ne)
        replace hobG := hJ.one hobG (led_ne NL hobG q1 (inst_ne_cell d1))
        replace hddG := hJ.one hddG (led_ne NL hddG q1 (dict_ne_cell d1))
        replace hptn := hJ.pts NL q1 d1 hptn
        clear NL hr
        rw [Int.zero_add] at hcd
        have ei : ((i : Int)).toNat = i := Int.toNat_natCast i
        have i0 : 0 ≤ (i : Int) := by omega
        have gc : (refs Z2.n Z2.ca)[((i : Int)).toNat]? = some (.ref (Z2.ca i)) := by rw [ei]; exact refs_get hi
        have gn : (refs Z2.n Z.ca)[((i : Int)).toNat]? = some (.ref (Z.ca i)) := by rw [ei]; exact refs_get hi
        obtain ⟨tc, tc', kc2, mc⟩ := hz2.cp i hi
        obtain ⟨tn, tn', kn2, mn⟩ := hptn i hi
        have hfi := hfin i (e2 ▸ hi)
        have eo : co (1 - axis) (Z2.cx i) (Z2.cy i) = co (1 - axis) (Z.cx i) (Z.cy i) := by
          by_cases ho : Open (Z.mark axis) f l i
          · exact (hfi.1 ho).1
          · rw [(hfi.2 ho).1, (hfi.2 ho).2]
        obtain ⟨s1, gs1⟩ := co_get (axis := 1 - axis) (x := Z2.cx i) (y := Z2.cy i) (t := tc) (t' := tc') (by omega)
        obtain ⟨s2, gs2⟩ := co_get (axis := 1 - axis) (x := Z.cx i) (y := Z.cy i) (t := tn) (t' := tn') (by omega)
        rw [← eo] at gs2
        have ax1 : 0 ≤ 1 - axis := by omega
        have ax2 : 1 - axis < 2 := by omega
        repeat' ((fail_if_success (with_reducible show wpAny _ _ (compareOp _ _ _) _ _ _)); (first | walk1 | (dsimp only; walk1)))
        iterate 3 (first | walk1 | (dsimp only; walk1))
        · (rename _ ≠ _ => hne9; exact (hne9 rfl).elim)
        repeat' ((fail_if_success (with_reducible show wpAny _ _ (isTrue _ _ _) _ _ _)); (first | walk1 | (dsimp only; walk1)))
        have gm : (bools Z2.n (Z.mark axis))[((i : Int)).toNat]? = some (.bool (Z.mark axis i)) := by rw [ei]; exact bools_get hi
        by_cases ho : Open (Z.mark axis) f l i
        · obtain ⟨p1, p2, p3, p4⟩ := id ho
          obtain rfl : B = true := hB.mpr p4
          rw [p3] at gm
          walk_at "mine to assign"
          walk_at "mine assign"
          k_steps
          rename_i Dw hw Fw Nw lw
          obtain ⟨LW, NW, kW, w1, w2, kk, mW⟩ : ∃ LW : Led, News g' _ hw LW ∧ Kept [] nx LW ∧ ∃ t1 t2 kk, (Dw, W.listOf #[Value.int (-1) t1, Value.int 1 t2] kk) ∈ LW := ⟨_, Nw, Kept.cons, _, _, _, .head _⟩
          clear Nw lw
          replace qn := kW.none qn
          replace qo := kW.none qo
          replace qm := kW.none qm
          replace hclG := kW.none hclG
          replace q7 := kW.none q7
          replace q6 := kW.none q6
          replace q5 := kW.none q5
          replace mOld := kW.none mOld
          replace mNow := kW.none mNow
          replace mMk := kW.none mMk
          replace hobG := kW.none hobG
          replace hddG := kW.none hddG
          replace mc := kW.none mc
          replace hz2 := hz2.inc kW
          replace hptn : ∀ j, j < Z2.n → PtAt LW (Z.ca j) (Z.cx j) (Z.cy j) := fun j hj => (hptn j hj).none kW
          have hc' := kW.none hc
          have hI' := kW.none hI
          have hJ' : Kept [L' + 1 + 1 + 1 + 1 + 1 + 1 + 1] LH LW := fun p hp hn => kW.none (hJ p hp hn)
          clear hc hI hJ kW gn gs1 gs2 eo mn
          refine ⟨_, _, 2, _, fun X i2 ys nx' => Kept [] LW nx' ∧ (1 ≤ i2 → ∃ p t, ys[0]? = some (.int ((p : Nat) : Int) t) ∧ IsPrev (Z.mark axis) f l i p) ∧ (2 ≤ i2 → ∃ p t, ys[1]? = some (.int ((p : Nat) : Int) t) ∧ IsNext (Z.mark axis) f l i p) ∧ ys.length = i2, src_list (vs := [Value.int (-1) w1, Value.int 1 w2]) rfl mW (by k_asm) (by k_asm), ⟨by omega, ?_, ?_, ?_⟩, ?_⟩
          · exact fun X i ys nx nx' h j => ⟨fun p hp hn => h p (j.1 p hp hn) (.inr hp), j.2⟩
          · exact fun X h => ⟨Kept.refl, fun h => absurd h (by decide), fun h => absurd h (by decide), rfl⟩
          · rintro Ix C D i2 v ys nx' h tk io' oC kD m₂ E' hi2 hv0 hio' hIx hCm hCn hv hD' hKp ⟨hk2, hy1, hy2, hyl⟩ F1 N1 hfr
            have r1 := hk2.none qm
            have r2 := hk2.none q6
            have r3 := hk2.none q5
            have r4 := hk2.none mMk
            have r5 := hk2.none hc'
            have hi3 : i2 = 0 ∨ i2 = 1 := by omega
            refine tests_none ?_
            refine CStep.intro (by k_asm) (by k_asm) (keep4 hIx hCm hD' (hKp _ (.head _))) ?_
            simp only [if_true]
            rcases hi3 with rfl | rfl
            · obtain rfl := Option.some.inj hv0
              repeat' ((fail_if_success (with_reducible show wpAny _ _ (call (Value.ref 424) _) _ _ _)); (first | walk1 | (dsimp only; walk1)))
              k_dflt (refine' Con.use ?B ?F ?X ?N ?T ?k ?c ?d ?u ?_; (case B => k_asm); (case F => k_asm); (case X => k_asm); (case N => k_asm); (case T => k_asm); (case k => first | exact rfl | assumption); (case c => exact prev_con r1 (by omega) (by omega) ⟨p1, p2⟩ p4); (case d => ktr_room); (case u => ktr_units))
              rintro r9 LX h9 tk9 F9 N9 ⟨⟨p, t9, e9, hp⟩, e9'⟩
              subst e9 e9'
              (try dsimp only)
              k_steps
              refine CStep.intro (by k_asm) (by k_asm) (keep4 hIx hCm hD' (hKp _ (.head _))) ⟨hk2, fun _ => ⟨p, t9, ?_, hp⟩, fun h => absurd h (by decide), by simp [hyl]⟩
              rw [List.eq_nil_of_length_eq_zero hyl]
              rfl
            · obtain rfl := Option.some.inj hv0
              repeat' ((fail_if_success (with_reducible show wpAny _ _ (call (Value.ref 424) _) _ _ _)); (first | walk1 | (dsimp only; walk1)))
              k_dflt (refine' Con.use ?B ?F ?X ?N ?T ?k ?c ?d ?u ?_; (case B => k_asm); (case F => k_asm); (case X => k_asm); (case N => k_asm); (case T => k_asm); (case k => first | exact rfl | assumption); (case c => exact next_con r1 (by omega) (by omega) ⟨p1, p2⟩ p4); (case d => ktr_room); (case u => ktr_units))
              rintro r9 LX h9 tk9 F9 N9 ⟨⟨p, t9, e9, hp⟩, e9'⟩
              subst e9 e9'
              (try dsimp only)
              k_steps
              obtain ⟨p0, t0, e0, hp0⟩ := hy1 (Nat.le_refl _)
              refine CStep.intro (by k_asm) (by k_asm) (keep4 hIx hCm hD' (hKp _ (.head _))) ⟨hk2, fun _ => ⟨p0, t0, ?_, hp0⟩, fun _ => ⟨p, t9, ?_, hp⟩, by simp [hyl]⟩
              · rw [List.getElem?_append_left (by omega)]; exact e0
              · rw [List.getElem?_append_right (by omega), hyl]; rfl
          · rintro X De h tk3 nx3 ys kDe F1 N1 - hX hDe ⟨hk2, hy1, hy2, hyl⟩
            obtain ⟨p, t0, e0, hp⟩ := hy1 (by decide)
            obtain ⟨q, t1', e1', hq⟩ := hy2 (by decide)
            obtain rfl : ys = [.int p t0, .int q t1'] := two_of hyl e0 e1'
            clear hX hDe hy1 hy2 hyl e0 e1'
            obtain ⟨LY, NY, kY, qe⟩ : ∃ LY : Led, News g' _ h LY ∧ Kept [] LW LY ∧ (De, W.listOf #[.int p t0, .int q t1'] kDe) ∈ LY := ⟨_, N1, fun p hp _ => .tail _ (hk2.none hp), .head _⟩
            clear N1 hk2
            replace qn := kY.none qn
            replace qo := kY.none qo
            replace hclG := kY.none hclG
            replace q7 := kY.none q7
            replace mOld := kY.none mOld
            replace mNow := kY.none mNow
            replace hobG := kY.none hobG
            replace hddG := kY.none hddG
            replace mc := kY.none mc
            replace hz2 := hz2.inc kY
            replace hptn : ∀ j, j < Z2.n → PtAt LY (Z.ca j) (Z.cx j) (Z.cy j) := fun j hj => (hptn j hj).none kY
            replace hc' := kY.none hc'
            replace hI' := kY.none hI'
            replace hJ' : Kept [L' + 1 + 1 + 1 + 1 + 1 + 1 + 1] LH LY := fun p hp hn => kY.none (hJ' p hp hn)
            clear kY qm q6 q5 mMk mW NW
            obtain ⟨m2, u1, ue, u2, FY⟩ := gen_e (m2 := mm) (c := .ref De) F1 vz vs
            clear F1 vz va vs
            walk_at "mine to comp"
            walk_at "mine comp"
            k_steps
            have hpn : p < Z2.n := Nat.lt_of_le_of_lt hp.2.1 (by omega)
            have hqn : q < Z2.n := Nat.lt_of_le_of_lt hq.2.1 (by omega)
            refine ⟨_, _, 2, _, fun X i2 ys nx' => Kept [] LY nx' ∧ (1 ≤ i2 → ∃ T, ys[0]? = some (.ref T) ∧ T ∉ X ∧ PtAt nx' T (co axis (Z2.ox p) (Z2.oy p)) (co axis (Z.cx p) (Z.cy p))) ∧ (2 ≤ i2 → ∃ T, ys[1]? = some (.ref T) ∧ T ∉ X ∧ PtAt nx' T (co axis (Z2.ox q) (Z2.oy q)) (co axis (Z.cx q) (Z.cy q))) ∧ ys.length = i2, src_list (vs := [.int p t0, .int q t1']) rfl qe (by k_asm) (by k_asm), ⟨by omega, ?_, ?_, ?_⟩, ?_⟩
            · exact fun X i ys nx nx' h j => ⟨fun p hp hn => h p (j.1 p hp hn) (.inr hp), fun hi => mono_pt h (j.2.1 hi), fun hi => mono_pt h (j.2.2.1 hi), j.2.2.2⟩
            · exact fun X h => ⟨Kept.refl, fun h => absurd h (by decide), fun h => absurd h (by decide), rfl⟩
            · rintro Ix C D i2 v ys nx' h tk io' oC kD m₂ E' hi2 hv0 hio' hIx hCm hCn hv hD' hKp ⟨hk2, hy1, hy2, hyl⟩ F1 N1 hfr
              have r1 := hk2.none qn
              have r2 := hk2.none qo
              have r3 := hk2.none q7
              have r4 := hk2.none mOld
              have r5 := hk2.none mNow
              have hi3 : i2 = 0 ∨ i2 = 1 := by omega
              refine tests_none ?_
              refine CStep.intro (by k_asm) (by k_asm) (keep4 hIx hCm hD' (hKp _ (.head _))) ?_
              simp only [if_true]
              rcases hi3 with rfl | rfl
              · obtain rfl := Option.some.inj hv0
                obtain ⟨b1, b2, b3, mo⟩ := hz2.op p hpn
                obtain ⟨b4, b5, b6, mn⟩ := hptn p hpn
                have r6 := hk2.none mo
                have r7 := hk2.none mn
                have g1 : (refs Z2.n Z2.oa)[((p : Nat) : Int).toNat]? = some (.ref (Z2.oa p)) := by rw [Int.toNat_natCast]; exact refs_get hpn
                have g2 : (refs Z2.n Z.ca)[((p : Nat) : Int).toNat]? = some (.ref (Z.ca p)) := by rw [Int.toNat_natCast]; exact refs_get hpn
                obtain ⟨b7, g3⟩ := co_get (axis := axis) (x := Z2.ox p) (y := Z2.oy p) (t := b1) (t' := b2) hx
                obtain ⟨b8, g4⟩ := co_get (axis := axis) (x := Z.cx p) (y := Z.cy p) (t := b4) (t' := b5) hx
                k_steps
                rename_i T9 h9 F9 N9 l9
                have lI := lt_ne (lt_all l9 hIx)
                have lC := lt_ne (lt_all l9 hCm)
                have lD := lt_ne (lt_all l9 hD')
                have hnx : T9 ∉ [Ix, C, D] := by simp [lI.symm, lC.symm, lD.symm]
                have hk4 := keep4 hIx hCm hD' (hKp _ (.head _))
                refine CStep.intro (by k_asm) (by k_asm) (fun p hp => .tail _ (hk4 p hp)) ⟨fun p hp hn => .tail _ (hk2 p hp hn), fun _ => ⟨T9, ?_, hnx, _, _, _, .head _⟩, fun h => absurd h (by decide), by simp [hyl]⟩
                rw [List.eq_nil_of_length_eq_zero hyl]
                rfl
              · obtain rfl := Option.some.inj hv0
                obtain ⟨b1, b2, b3, mo⟩ := hz2.op q hqn
                obtain ⟨b4, b5, b6, mn⟩ := hptn q hqn
                have r6 := hk2.none mo
                have r7 := hk2.none mn
                have g1 : (refs Z2.n Z2.oa)[((q : Nat) : Int).toNat]? = some (.ref (Z2.oa q)) := by rw [Int.toNat_natCast]; exact refs_get hqn
                have g2 : (refs Z2.n Z.ca)[((q : Nat) : Int).toNat]? = some (.ref (Z.ca q)) := by rw [Int.toNat_natCast]; exact refs_get hqn
                obtain ⟨b7, g3⟩ := co_get (axis := axis) (x := Z2.ox q) (y := Z2.oy q) (t := b1) (t' := b2) hx
                obtain ⟨b8, g4⟩ := co_get (axis := axis) (x := Z.cx q) (y := Z.cy q) (t := b4) (t' := b5) hx
                k_steps
                rename_i T9 h9 F9 N9 l9
                have lI := lt_ne (lt_all l9 hIx)
                have lC := lt_ne (lt_all l9 hCm)
                have lD := lt_ne (lt_all l9 hD')
                have hnx : T9 ∉ [Ix, C, D] := by simp [lI.symm, lC.symm, lD.symm]
                have hk4 := keep4 hIx hCm hD' (hKp _ (.head _))
                obtain ⟨T0, e0, x0, y0⟩ := hy1 (Nat.le_refl _)
                obtain ⟨y1, y2, y3, y4⟩ := y0
                refine CStep.intro (by k_asm) (by k_asm) (fun p hp => .tail _ (hk4 p hp)) ⟨fun p hp hn => .tail _ (hk2 p hp hn), fun _ => ⟨T0, ?_, x0, _, _, _, .tail _ y4⟩, fun _ => ⟨T9, ?_, hnx, _, _, _, .head _⟩, by simp [hyl]⟩
                · rw [List.getElem?_append_left (by omega)]; exact e0
                · rw [List.getElem?_append_right (by omega), hyl]; rfl
            · rintro X Dg h tk4 nx4 ys kDg F1 N1 - hX hDg ⟨hk2, hy1, hy2, hyl⟩
              obtain ⟨T1, w1e, _, w1p⟩ := hy1 (by decide)
              obtain ⟨T2, w2e, _, w2p⟩ := hy2 (by decide)
              obtain rfl : ys = [.ref T1, .ref T2] := two_of hyl w1e w2e
              obtain ⟨a1, a2, a3, w1m⟩ := w1p
              obtain ⟨a4, a5, a6, w2m⟩ := w2p
              obtain ⟨LZ, NZ, kZ, qg, w1m, w2m⟩ : ∃ LZ : Led, News g' _ h LZ ∧ Kept [] LY LZ ∧ (Dg, W.listOf #[.ref T1, .ref T2] kDg) ∈ LZ ∧ (T1, tupOf #[.int (co axis (Z2.ox p) (Z2.oy p)) a1, .int (co axis (Z.cx p) (Z.cy p)) a2] a3) ∈ LZ ∧ (T2, tupOf #[.int (co axis (Z2.ox q) (Z2.oy q)) a4, .int (co axis (Z.cx q) (Z.cy q)) a5] a6) ∈ LZ := ⟨_, N1, fun p hp _ => .tail _ (hk2.none hp), .head _, .tail _ w1m, .tail _ w2m⟩
              clear N1 hk2 hX hDg hy1 hy2 hyl w1e w2e
              replace hclG := kZ.none hclG
              replace qo := kZ.none qo
              replace q7 := kZ.none q7
              replace mOld := kZ.none mOld
              replace hobG := kZ.none hobG
              replace hddG := kZ.none hddG
              replace mc := kZ.none mc
              replace hz2 := hz2.inc kZ
              replace hc' := kZ.none hc'
              replace hI' := kZ.none hI'
              replace hJ' : Kept [L' + 1 + 1 + 1 + 1 + 1 + 1 + 1] LH LZ := fun p hp hn => kZ.none (hJ' p hp hn)
              clear kZ qn mNow hptn NY qe
              k_dflt (refine kun_list F1 NZ (News.isList NZ qg) rfl (by rfl) (by rfl) ?_)
              intro h20 F20 N20
              clear NZ F1
              repeat' ((fail_if_success (with_reducible show wpAny _ _ (exec (.If _ _ _ _) _) _ _ _)); (first | walk1 | (dsimp only; walk1)))
              rename Fr g' L' _ _ => F21
              obtain ⟨m3, v1, v2, v3, v4, F22⟩ := gen_lh F21 u1 u2
              clear F21 F20 FY u1 u2 ue
              rw [e4, e5] at w1m w2m
              have ip : p < Z.n := e2 ▸ hpn
              have iq : q < Z.n := e2 ▸ hqn
              have ii : i < Z.n := e2 ▸ hi
              have bp := co_small (k := 1000) hx (hO p ip).1 (hO p ip).2.1 (hO p ip).2.2.1 (hO p ip).2.2.2
              have bq := co_small (k := 1000) hx (hO q iq).1 (hO q iq).2.1 (hO q iq).2.2.1 (hO q iq).2.2.2
              have bi := co_small (k := 1000) hx (hO i ii).1 (hO i ii).2.1 (hO i ii).2.2.1 (hO i ii).2.2.2
              have cp := co_small (k := 1000) hx (hC p ip).1 (hC p ip).2.1 (hC p ip).2.2.1 (hC p ip).2.2.2
              have cq := co_small (k := 1000) hx (hC q iq).1 (hC q iq).2.1 (hC q iq).2.2.1 (hC q iq).2.2.2
              have go : (refs Z2.n Z2.oa)[((i : Int)).toNat]? = some (.ref (Z2.oa i)) := by rw [ei]; exact refs_get hi
              obtain ⟨z1, z2, z3, mo⟩ := hz2.op i hi
              rw [e4, e5] at mo
              obtain ⟨z4, gz4⟩ := co_get (axis := axis) (x := Z2.cx i) (y := Z2.cy i) (t := tc) (t' := tc') hx
              obtain ⟨z5, gz5⟩ := co_get (axis := axis) (x := Z.ox i) (y := Z.oy i) (t := z1) (t' := z2) hx
              have hb9 := (hfi.1 ho).2 p q hp hq
              by_cases hgt : co axis (Z.ox p) (Z.oy p) > co axis (Z.ox q) (Z.oy q)
              · have he9 : co axis (Z2.cx i) (Z2.cy i) = dplace (co axis (Z.ox i) (Z.oy i)) (co axis (Z.ox q) (Z.oy q)) (co axis (Z.cx q) (Z.cy q)) (co axis (Z.ox p) (Z.oy p)) (co axis (Z.cx p) (Z.cy p)) := by rw [hb9]; unfold between; rw [if_pos hgt]
                repeat' ((fail_if_success (with_reducible show wpAny _ _ (eval (Expr.Name (Str.ofString "zone") _) _) _ _ _)); (first | walk1 | (dsimp only; walk1)))
                rename Fr g' L' _ _ => F23
                obtain ⟨m4, x1, x2, x3, x4, F24⟩ := gen_swap F23 v1 v4
                clear F23 v1 v2 v3 v4
                rename News g' L' _ (_ :: LZ) => N24
                obtain ⟨LU, N25, kU⟩ : ∃ LU : Led, News g' L' _ LU ∧ Kept [] LZ LU := ⟨_, N24, Kept.cons⟩
                clear N24
                replace hobG := kU.none hobG
                replace hddG := kU.none hddG
                replace hclG := kU.none hclG
                replace qo := kU.none qo
                replace q7 := kU.none q7
                replace mOld := kU.none mOld
                replace mc := kU.none mc
                replace mo := kU.none mo
                replace hz2 := hz2.inc kU
                replace hc' := kU.none hc'
                replace hI' := kU.none hI'
                replace hJ' : Kept [L' + 1 + 1 + 1 + 1 + 1 + 1 + 1] LH LU := fun p hp hn => kU.none (hJ' p hp hn)
                replace w1m := kU.none w1m
                replace w2m := kU.none w2m
                clear kU
                repeat' ((fail_if_success (with_reducible show wpAny _ _ (call (Value.ref 431) _) _ _ _)); (first | walk1 | (dsimp only; walk1)))
                k_dflt (refine' Con.use ?B ?F ?X ?N ?T ?k ?c ?d ?u ?_; (case B => k_asm); (case F => k_asm); (case X => k_asm); (case N => k_asm); (case T => k_asm); (case k => first | exact rfl | assumption); (case c => exact put_is_con w2m w1m bi.1 bi.2 bq.1 bq.2 cq.1 cq.2 bp.1 bp.2 cp.1 cp.2 (Int.le_of_lt hgt) he9); (case d => ktr_room); (case u => ktr_units))
                rintro r9 LX h9 tk9 F9 N9 ⟨e9, e9'⟩
                subst e9 e9'
                (try dsimp only)
                k_steps
                (refine' TC.next ?f ?n hI' hc' hcd x4 hJ'; (case f => k_asm); (case n => k_asm))
              · have he9 : co axis (Z2.cx i) (Z2.cy i) = dplace (co axis (Z.ox i) (Z.oy i)) (co axis (Z.ox p) (Z.oy p)) (co axis (Z.cx p) (Z.cy p)) (co axis (Z.ox q) (Z.oy q)) (co axis (Z.cx q) (Z.cy q)) := by rw [hb9]; unfold between; rw [if_neg hgt]
                repeat' ((fail_if_success (with_reducible show wpAny _ _ (call (Value.ref 431) _) _ _ _)); (first | walk1 | (dsimp only; walk1)))
                k_dflt (refine' Con.use ?B ?F ?X ?N ?T ?k ?c ?d ?u ?_; (case B => k_asm); (case F => k_asm); (case X => k_asm); (case N => k_asm); (case T => k_asm); (case k => first | exact rfl | assumption); (case c => exact put_is_con w1m w2m bi.1 bi.2 bp.1 bp.2 cp.1 cp.2 bq.1 bq.2 cq.1 cq.2 (Int.not_lt.mp hgt) he9); (case d => ktr_room); (case u => ktr_units))
                rintro r9 LX h9 tk9 F9 N9 ⟨e9, e9'⟩
                subst e9 e9'
                (try dsimp only)
                k_steps
                (refine' TC.next ?f ?n hI' hc' hcd v4 hJ'; (case f => k_asm); (case n => k_asm))
        · have hq : B = false ∨ (B = true ∧ Z.mark axis i = true) ∨ (B = true ∧ Z.mark axis i = false ∧ ¬ ((f : Int) ≤ i ∧ (i : Int) ≤ l)) := by
            cases B with
            | false => exact .inl rfl
            | true =>
              cases hm : Z.mark axis i with
              | true => exact .inr (.inl ⟨rfl, rfl⟩)
              | false => exact .inr (.inr ⟨rfl, rfl, fun hr => ho ⟨by omega, by omega, hm, hB.mp rfl⟩⟩)
          have wp2 : PtAt nx (Z.ca i) (Z2.cx i) (Z2.cy i) := by rw [(hfi.2 ho).1, (hfi.2 ho).2]; exact ⟨_, _, _, mn⟩
          rcases hq with rfl | ⟨rfl, hm⟩ | ⟨rfl, hm, hout⟩
          · repeat' ((fail_if_success (with_reducible show wpAny _ _ (compareOp .NotEq (Value.ref _) (Value.ref _)) _ _ _)); (first | walk1 | (dsimp only; walk1)))
            k_dflt (refine ne_same (reads_pt (by k_asm) (hz2.cp i hi)) (reads_pt (by k_asm) wp2) dpt_shaped (by ktr_units) ?_)
            k_steps
            (refine' TC.next ?f ?n hI hc hcd vs hJ; (case f => k_asm); (case n => k_asm))
          · rw [hm] at gm
            repeat' ((fail_if_success (with_reducible show wpAny _ _ (compareOp .NotEq (Value.ref _) (Value.ref _)) _ _ _)); (first | walk1 | (dsimp only; walk1)))
            k_dflt (refine ne_same (reads_pt (by k_asm) (hz2.cp i hi)) (reads_pt (by k_asm) wp2) dpt_shaped (by ktr_units) ?_)
            k_steps
            (refine' TC.next ?f ?n hI hc hcd vs hJ; (case f => k_asm); (case n => k_asm))
          · rw [hm] at gm
            repeat' ((fail_if_success (with_reducible show wpAny _ _ (compareOp .NotEq (Value.ref _) (Value.ref _)) _ _ _)); (first | walk1 | (dsimp only; walk1)))
            all_goals (try (exfalso; omega))
            all_goals k_dflt (refine ne_same (reads_pt (by k_asm) (hz2.cp i hi)) (reads_pt (by k_asm) wp2) dpt_shaped (by ktr_units) ?_)
            all_goals k_steps
            all_goals (refine' TC.next ?f ?n hI hc hcd vs hJ; (case f => k_asm); (case n => k_asm))
      · rintro u nx h tk2 hJ F1 N1
        k_steps
        exact hret _ _ _ _ (by k_asm) (by k_asm) rfl
end
section
theorem words_C18_1 : True := by
  k_with_none
  k_with "room" => ((simp only [depth_under_make, depth_under_kw, depth_in1, depth_deeper, depth_caller]); exact room_ok (by with_reducible assumption) (by decide))
  k_with "units" => ((simp only [units_in1, units_deeper, Around.mark_units, units_caller, units_under_make]); first | exact units_ok (by with_reducible assumption) (by decide) | (have hcL9 := cLine_is; omega))
  k_with "mem" => (first | (with_reducible assumption) | exact List.mem_cons_self | (refine List.mem_cons_of_mem _ ?_; k_mem) | (refine Kept.none (by with_reducible assumption) ?_; k_mem) | (refine Kept.one (by with_reducible assumption) (by k_mem) (by walk_at "mine ne")))
  k_with "mine ne" => ((try dsimp only); first | assumption | (refine Ne.symm ?_; assumption) | exact led_ne' (by with_reducible assumption) (by with_reducible assumption) inst_ne_list (by with_reducible assumption) | exact led_ne' (by with_reducible assumption) (by with_reducible assumption) dict_ne_list (by with_reducible assumption) | exact led_ne' (by with_reducible assumption) (by with_reducible assumption) tup_ne_list (by with_reducible assumption))
  k_with "mine zone" => (first | assumption | exact ZIn.inc (by assumption) (by assumption) | exact ZIn.inc (by assumption) Kept.cons)
  k_with "subscriptTail" => (k_here; (with_reducible show wpAny _ _ (subscriptTail _ _ (Value.ref _) (Value.int _ _)) _ _ _); (first | (refine itemL (by k_asm) (by k_mem) (by first | decide | assumption | omega) (by first | decide | with_reducible assumption | omega) (by first | rfl | assumption) ?_ (by with_unfolding_all rfl)) | (refine itemT (by k_asm) (by k_mem) (by first | decide | assumption | omega) (by first | decide | with_reducible assumption | omega) (by first | rfl | assumption) ?_ (by with_unfolding_all rfl))))
  k_with "binaryOp FloorDiv int int" => (k_here; k_dflt (refine floordiv_int (by omega) ?_ (Or.inl (PyProof.noPylong_small (by omega)))))
  k_with "call builtin:len" => (k_here; (with_reducible show wpAny _ _ (call (Value.builtin _) [Value.ref _]) _ _ _); k_dflt (refine lenL (by k_asm) (by k_mem) (by first | assumption | exact refs_len | rfl) (by first | decide | with_reducible assumption | omega) ?_))
  k_with "setItem ref int" => (k_here; (with_reducible show wpAny _ _ (setItem (Value.ref _) (Value.int _ _) _) _ _ _); k_dflt (refine setItemU (by k_asm) (by k_asm) (by k_mem) (by first | decide | assumption | omega) (by first | (simp only [refs_len, List.length_cons, List.length_nil]; omega) | omega) (by first | decide | omega) ?_; intro h' news' F' N' K' M'; (try simp only [Int.reduceToNat, List.set_cons_zero, List.set_cons_succ] at M')))
  k_with "eval Name" => (k_here; k_inBlock; k_dflt (first | (refine comp_local2 (by rfl) (by rfl) (by decide) (by with_reducible assumption) (by with_reducible assumption) (by k_mem) (by k_asm) ?_) | (refine comp_cell2 (by rfl) (by rfl) (by decide) (by rfl) (by k_mem) (by with_reducible assumption) (by k_asm) ?_)))
  k_with "mine assign" => (k_dflt (refine comp_assign (by k_asm) (by with_unfolding_all rfl) (by with_unfolding_all rfl) (by with_unfolding_all rfl) (by decide) (by with_unfolding_all rfl) (by decide) (by with_unfolding_all rfl) (by with_unfolding_all rfl) (by with_unfolding_all rfl) ?_ (by intro _; with_unfolding_all rfl)))
  k_with "mine comp" => (k_dflt (refine comp_eval (by k_asm) (by with_unfolding_all rfl) (by decide) (by with_unfolding_all rfl) (by decide) (by with_unfolding_all rfl) ?_ (by intro _; with_unfolding_all rfl)))
  k_with "mine to assign" => (repeat' ((fail_if_success (with_reducible show wpAny _ _ (exec (.Assign [_] (.ListComp _ _ _ _) _) _) _ _ _)); (first | walk1 | (dsimp only; walk1))))
  k_with "mine to comp" => (repeat' ((fail_if_success (with_reducible show wpAny _ _ (eval (.ListComp _ _ _ _) _) _ _ _)); (first | walk1 | (dsimp only; walk1))))
  k_with "call type:list" => (k_here; (with_reducible show wpAny _ _ (call (Value.type "list") [Value.ref _]) _ _ _); k_dflt (refine kll_range (by exact rfl) (by k_asm) (by k_asm) (by assumption) (by exact rng_small (by first | with_reducible assumption | omega) (by first | with_reducible assumption | omega) (by first | with_reducible assumption | omega) (by first | with_reducible assumption | omega)) (by exact rangeSize_nat _ _) (by first | with_reducible assumption | omega) ?_; intro _ _ _ _ _ _ _ _ _))
  k_with "binaryOp Add ref ref" => (k_here; k_dflt (refine addL (by k_asm) (by k_asm) (by k_mem) (by k_mem) (by first | omega | (have hq1 := IntsAre.length (by assumption); omega) | (simp only [List.length_map, List.length_range, refs_len, List.length_cons, List.length_nil]; first | with_reducible assumption | omega)) ?_; intro _ _ _ _ _))
  k_with "mine to 63" => (repeat' ((fail_if_success (with_reducible show wpAny _ _ (call (Value.ref 63) _) _ _ _)); (first | walk1 | (dsimp only; walk1))))
  k_with "eval Name" => (k_here; k_inBlock; (with_reducible rename Fr _ _ _ _ => kF); k_dflt (refine nameG_my (by rfl) (by rfl) (by rfl) (by decide) kF (by k_asm) (by k_asm) (by k_is) ?_))
  k_with "eval Name" => (k_here; k_inBlock; k_dflt (refine comp_cell3 (by rfl) (by rfl) (by decide) (by k_asm) (by rfl) (by with_reducible assumption) (by with_reducible assumption) ?_))
  k_with "storeName" => (k_here; k_dflt (refine store_my2 (by rfl) (by rfl) (by k_asm) (by k_asm) (by rfl) (by k_mem) (by k_asm) ?_); intro _ _ _ _ _ _ _ _)
  k_with "eval Name" => (k_here; k_dflt (refine nameX_L2 (by rfl) (by rfl) (by k_asm) (by with_reducible assumption) ?_))
  k_with "subscriptTail" => (k_here; (with_reducible show wpAny _ _ (subscriptTail _ _ (Value.ref _) (Value.int _ _)) _ _ _); k_dflt (refine itemL (by k_asm) (by with_reducible assumption) (by first | decide | assumption) (by first | decide | omega) (by first | rfl | assumption) ?_ (by with_unfolding_all rfl)))
  exact trivial
local macro_rules | `(tactic| ktr_units) => `(tactic| k_extra "units2")
local macro_rules | `(tactic| ktr_room) => `(tactic| k_extra "room2")
local macro_rules | `(tactic| k_qdec) => `(tactic| decide +kernel)
theorem words_C18_2 : True := by
  k_with "units2" => (have hcL9 := cLine_is; (simp only [units_in1, units_deeper, Around.mark_units, units_caller, units_under_make]); omega)
  k_with "room2" => ((try simp only [depth_under_make, depth_under_kw, depth_in1, depth_deeper, depth_caller]); decide)
  exact trivial
set_option maxHeartbeats 100000000 in
theorem law_holds : PySem.Challenge.rw_xm0734_01.Holds := by
  w_on
  refine holds_law said fun said => ?_
  refine holds_open (q := Hd.view) (loose := ["HintWork", "Zone"]) (Xt := fun s => xlAt Hd.view [] s && recOk PySem.Challenge.rw_xm0734_01.row.records s) (XP := XL Hd.view []) (Yf := Hook.obs (kHook Hd.K Hd.as Hd.asIs)) (Ya := Hook.val (kHook Hd.K Hd.as Hd.asIs)) (YP := Hook.says (kHook Hd.K Hd.as Hd.asIs)) (N := 6138) ?hl (Hook.of (kHook Hd.K Hd.as Hd.asIs)) (Hook.keeps (kHook Hd.K Hd.as Hd.asIs)) (fun s e => xl_of s (Bool.and_eq_true_iff.mp e).1) XL.keeps (by rfl) (by rfl) (by rfl) (fun s e => recFacts_of (Bool.and_eq_true_iff.mp e).2) (by rfl) (by assumption) (by decide +kernel) ⟨rfl, rfl, rfl, rfl, rfl, by decide +kernel⟩ ?hw ?hc
  case hl => exact Hd.left
  case hw => w_witness2
  case hc =>
    k_go0
    rename_i wW sS0 sS mg mb GG YY fa oo pm doc ho hg KX XM VL GL TT BT TE TW wa wo MM wc wd hcd nsI hshp lay0 lay1 hr1 hl2 ad4 ad5 sl vals adrs hL ra w1 r0 hI hr hc63 hc2 B0 hD h1 tk1 F0 oc dc N0 X0
    clear X0 B0
    have B0 : Below callerA sS.heap [] sS.heap := below_caller _
    obtain ⟨m0, e0s, F0⟩ : ∃ m0 : Str → Option Value, m0 (Str.ofString "script") = some (.ref sl) ∧ Fr sS.heap sS.heap.objs.size h1 m0 := ⟨_, by kernel_rfl, F0⟩
    repeat' ((fail_if_success (with_reducible show wpAny _ _ (call (Value.ref 378) _) _ _ _)); (first | walk1 | (dsimp only; walk1)))
    rename_i Da hDa lDa Db hDb lDb Dc hDc lDc lp hlp llp le hle FA NO lA
    have hx9 : W.listOf #[.ref Da, .ref Db, .ref Dc] 0 = W.listOf (refs 3 (tri Da Db Dc)).toArray 0 := rfl
    rw [hx9] at NO
    clear hx9 lDa lDb lDc llp lA
    obtain ⟨LA, NA, ml, ⟨te, me⟩, mp, mc⟩ : ∃ LA : Led, News sS.heap sS.heap.objs.size hle LA ∧ (lp, W.listOf (refs 3 (tri Da Db Dc)).toArray 0) ∈ LA ∧ (∃ te, (le, W.listOf #[.int 2 te] 0) ∈ LA) ∧ (∀ i, i < 3 → PtAt LA (tri Da Db Dc i) (tri 0 10 20 i) (tri 0 0 0 i)) ∧ (sS.heap.objs.size + 1, oc) ∈ LA :=
      ⟨_, NO, .tail _ (.head _), ⟨_, .head _⟩, pts3 ⟨_, _, _, .tail _ (.tail _ (.tail _ (.tail _ (.head _))))⟩ ⟨_, _, _, .tail _ (.tail _ (.tail _ (.head _)))⟩ ⟨_, _, _, .tail _ (.tail _ (.head _))⟩, .tail _ (.tail _ (.tail _ (.tail _ (.tail _ (.head _)))))⟩
    clear NO
    k_dflt ((refine Con.use (by k_asm) (by k_asm) (by k_asm) (by k_asm) (by k_asm) (by first | exact rfl | assumption) (zone_con ml mp me (by decide) (by decide) (by decide)) (by ktr_room) (by ktr_units) ?_))
    rintro r9 LB h9 tk9 F9 NB ⟨Z, e9, zn, hz0, KB, hz⟩
    subst e9
    (try dsimp only)
    replace mc := KB.none mc
    clear NA KB ml me mp FA
    repeat' ((fail_if_success (with_reducible show wpAny _ _ (call (Value.ref 417) _) _ _ _)); (first | walk1 | (dsimp only; walk1)))
    k_dflt ((refine Con.use (by k_asm) (by k_asm) (by k_asm) (by k_asm) (by k_asm) (by first | exact rfl | assumption) (state_con (.inl rfl)) (by ktr_room) (by ktr_units) ?_))
    rintro r9 LC h10 tk10 F10 NC ⟨st0, e9, KC, hs0⟩
    rw [if_pos rfl, if_pos rfl] at hs0
    subst e9
    (try dsimp only)
    replace mc := KC.none mc
    replace hz := hz.inc KC
    clear KC NB F9
    repeat' ((fail_if_success (with_reducible show wpAny _ _ (call (Value.ref 417) _) _ _ _)); (first | walk1 | (dsimp only; walk1)))
    k_dflt ((refine Con.use (by k_asm) (by k_asm) (by k_asm) (by k_asm) (by k_asm) (by first | exact rfl | assumption) (state_con (.inr rfl)) (by ktr_room) (by ktr_units) ?_))
    rintro r9 LD h11 tk11 F11 ND ⟨st1, e9, KD, hs1⟩
    rw [if_neg (by decide), if_neg (by decide)] at hs1
    subst e9
    (try dsimp only)
    replace mc := KD.none mc
    replace hz := hz.inc KD
    replace hs0 := hs0.inc KD
    clear KD NC F10
    repeat' ((fail_if_success (with_reducible show wpAny _ _ (exec (.Expr _ _) _) _ _ _)); (first | walk1 | (dsimp only; walk1)))
    rename Fr _ _ _ _ => F12
    rename News _ _ _ _ => N12
    obtain ⟨m1, vz, vst, vsc, F1⟩ := gen_2 F12 e0s (by decide +kernel) (by decide +kernel) (by decide +kernel)
    obtain ⟨LE, NE, KE, ⟨sls, ksl, esl, qs⟩⟩ : ∃ LE : Led, News sS.heap sS.heap.objs.size _ LE ∧ Kept [] LD LE ∧ ∃ sls ksl, m1 (Str.ofString "states") = some (.ref sls) ∧ (sls, W.listOf #[.ref st0, .ref st1] ksl) ∈ LE := ⟨_, N12, kept_two Kept.refl, _, _, vst, .tail _ (.head _)⟩
    clear vst
    replace mc := KE.none mc
    replace hz := hz.inc KE
    replace hs0 := hs0.inc KE
    replace hs1 := hs1.inc KE
    clear KE
    repeat' ((fail_if_success (with_reducible show wpAny _ _ (call (Value.ref 82) _) _ _ _)); (first | walk1 | (dsimp only; walk1)))
    rename_i sp hsp FS NS lS
    obtain ⟨LF, NF, KF, ⟨t50, t51, msp⟩⟩ : ∃ LF : Led, News sS.heap sS.heap.objs.size hsp LF ∧ Kept [] LE LF ∧ (∃ t0 t1 , (sp, tupOf #[.int 5 t0, .int 0 t1] 0) ∈ LF) := ⟨_, NS, Kept.cons, _, _, .head _⟩
    clear NS lS
    replace mc := KF.none mc
    replace qs := KF.none qs
    replace hz := hz.inc KF
    replace hs0 := hs0.inc KF
    replace hs1 := hs1.inc KF
    have e1 := hz0 1 (by decide)
    have hc1 : -1000 ≤ Z.cx 1 ∧ Z.cx 1 ≤ 1000 ∧ -1000 ≤ Z.cy 1 ∧ Z.cy 1 ≤ 1000 := by rw [e1.2.2.1, e1.2.2.2.1]; decide
    k_dflt ((refine Con.use (by k_asm) (by k_asm) (by k_asm) (by k_asm) (by k_asm) (by first | exact rfl | assumption) (shifted_con (i := 1) (tb := true) hz rfl hs0 (.inl ⟨rfl, rfl⟩) (by decide) (by omega) (by omega) msp (by decide) hc1) (by ktr_room) (by ktr_units) ?_))
    rintro r9 LG h9 tk9 F9 NG ⟨e9, c, KG, hz1⟩
    subst e9
    (try dsimp only)
    obtain ⟨kc, hcl⟩ := hz.cl
    obtain ⟨kb, htp⟩ := hz.tp 1 (by omega)
    replace mc := Kept.two KG NF hcl htp mc (list_ne_cell dc).symm (list_ne_cell dc).symm
    replace qs := Kept.two KG NF hcl htp qs (by rw [zn]; exact refs_ne_two (by decide)) bools_ne_two
    replace hs0 := hs0.kept2 NF hcl htp KG
    replace hs1 := hs1.kept2 NF hcl htp KG
    have hsm := demo_small (c := c) zn hz0
    have hfl := fun Z' => demo_final (Z' := Z') (c := c) zn hz0
    have hn1 : (Z.moveM 16384 1 c 5 0 true).n = 3 := zn
    have ez1 : (Z.moveM 16384 1 c 5 0 true).z = Z.z := rfl
    replace hz1 : ZIn LG (Z.moveM 16384 1 c 5 0 true) := hz1
    generalize Z.moveM 16384 1 c 5 0 true = Z1 at hsm hfl hn1 ez1 hz1
    clear KF KG hcl htp hc1 e1 msp hz NF
    repeat' ((fail_if_success (with_reducible show wpAny _ _ (call (Value.ref 68) _) _ _ _)); (first | walk1 | (dsimp only; walk1)))
    k_dflt ((refine Con.use (by k_asm) (by k_asm) (by k_asm) (by k_asm) (by k_asm) (by first | exact rfl | assumption) (draw_con hz1 ez1.symm (by omega) hsm.1 hsm.2 (.inl rfl) (by decide) (by decide) (by omega)) (by ktr_room) (by ktr_units) ?_))
    rintro r9 LH h12 tk12 F12 NH ⟨e9, KH, Z2, ⟨ca', cx', cy', rfl⟩, hz2, hfin⟩
    subst e9
    (try dsimp only)
    replace hfl := hfl _ hfin
    obtain ⟨kc, hcl⟩ := hz1.cl
    replace mc := KH.one mc (led_ne NG hcl mc (list_ne_cell dc)).symm
    replace qs := KH.one qs (led_ne NG qs hcl (by rw [hn1]; exact refs_ne_two (by decide)))
    replace hs0 := hs0.kept NG hcl KH
    replace hs1 := hs1.kept NG hcl KH
    have hn2 : (Z1.mv ca' cx' cy').n = 3 := hn1
    have ez2 : (Z1.mv ca' cx' cy').z = Z.z := ez1
    generalize Z1.mv ca' cx' cy' = Z2 at hn2 ez2 hz2 hfl
    clear hfin KH hcl hz1 NG F9 hsm hn1 ez1
    obtain ⟨d1, d2, d3, d4, d5, u1, u2, u3, u4, u5, u6, hdd⟩ := hz2.dict
    obtain ⟨kc, hcl⟩ := hz2.cl
    have hob := hz2.obj
    rw [ez2] at hob
    repeat' ((fail_if_success (with_reducible show wpAny _ _ (compareOp _ _ _) _ _ _)); (first | walk1 | (dsimp only; walk1)))
    rename_i Pa hPa lPa Pb hPb lPb Pc hPc lPc ll hll FL NL lL
    have hx9 : W.listOf #[.ref Pa, .ref Pb, .ref Pc] 0 = W.listOf (refs 3 (tri Pa Pb Pc)).toArray 0 := rfl
    rw [hx9] at NL
    obtain ⟨LI, NI, KI, ml, mp⟩ : ∃ LI : Led, News sS.heap sS.heap.objs.size hll LI ∧ Kept [] LH LI ∧ (ll, W.listOf (refs 3 (tri Pa Pb Pc)).toArray 0) ∈ LI ∧ (∀ i, i < 3 → PtAt LI (tri Pa Pb Pc i) (tri 5 15 25 i) (tri 0 0 0 i)) := ⟨_, NL, fun p hp _ => .tail _ (.tail _ (.tail _ (.tail _ hp))), .head _, pts3 ⟨_, _, _, .tail _ (.tail _ (.tail _ (.head _)))⟩ ⟨_, _, _, .tail _ (.tail _ (.head _))⟩ ⟨_, _, _, .tail _ (.head _)⟩⟩
    clear NL lPa lPb lPc lL hx9
    replace mc := KI.none mc
    replace qs := KI.none qs
    replace hs0 := hs0.inc KI
    replace hs1 := hs1.inc KI
    replace hz2 := hz2.inc KI
    replace hcl := KI.none hcl
    rw [← hn2] at ml
    have mp2 : ∀ i, i < Z2.n → PtAt LI (tri Pa Pb Pc i) (Z2.cx i) (Z2.cy i) := fun i hi => by
      have hi3 : i < 3 := hn2 ▸ hi
      rw [(hfl i hi3).1, (hfl i hi3).2]
      exact mp i hi3
    k_dflt (refine ne_same (reads_pts (by k_asm) hcl hz2.cp) (reads_pts (by k_asm) ml mp2) (shaped_map (fun _ => dpt_ok) _) (by ktr_units) ?_)
    clear ml mp mp2 hcl hz2 hfl hn2 ez2 KI hob hdd vz
    repeat' ((fail_if_success (with_reducible show wpAny _ _ (call (Value.ref 389) _) _ _ _)); (first | walk1 | (dsimp only; walk1)))
    k_dflt (refine ConO.use (by k_asm) (by k_asm) (by k_asm) (by k_asm) (by k_asm) (by first | exact rfl | assumption) (pool_old (ints_head hI) (by have := hI.length; omega)) hL (by ktr_room) (by ktr_units) ?_)
    rintro r9 LJ h9 tk9 F9 NJ ⟨src, sp0, sq, tsp, tsq, ksr, e9, p0, q0, q1, KJ, msrc⟩
    subst e9
    (try dsimp only)
    replace mc := KJ.none mc
    replace qs := KJ.none qs
    replace hs0 := hs0.inc KJ
    replace hs1 := hs1.inc KJ
    clear KJ NI
    repeat' ((fail_if_success (with_reducible show wpAny _ _ (storeName _ _ _) _ _ _)); (first | walk1 | (dsimp only; walk1)))
    walk1
    rename_i h13 LK oS FK NK KK mS dS
    have b0 : Base (sS.heap.objs.size + 1) oS sls ksl st0 st1 src ksr LK := ⟨mS, KK.list NJ mc dc qs, StIn.cell dc hs0 NJ mc KK, StIn.cell dc hs1 NJ mc KK, sp0, sq, tsp, tsq, p0, q0, q1, KK.list NJ mc dc msrc⟩
    clear KK mc NJ F9 dc qs hs0 hs1 msrc p0 q0 q1 mS
    obtain ⟨p, q, tp, tq, p0, q0, q1, msrc⟩ := b0.sr
    have mc := b0.mc
    repeat' ((fail_if_success (with_reducible show wpAny _ _ (call (Value.ref 396) _) _ _ _)); (first | walk1 | (dsimp only; walk1)))
    k_dflt ((refine Con.use (by k_asm) (by k_asm) (by k_asm) (by k_asm) (by k_asm) (by first | exact rfl | assumption) (take_con msrc p0 q0 q1 (by decide) (by decide)) (by ktr_room) (by ktr_units) ?_))
    rintro r9 LL h9 tk9 F9 NL ⟨i6, t6, p', q', tp', tq', e9, i60, i61, p0', q0', q1', KL, msrc'⟩
    subst e9
    (try dsimp only)
    have b1 := b0.take dS NK msrc KL msrc' p0' q0' q1'
    clear b0 mc msrc p0 q0 q1 msrc' p0' q0' q1' KL NK
    obtain ⟨p, q, tp, tq, p0, q0, q1, msrc⟩ := b1.sr
    have mc := b1.mc
    repeat' ((fail_if_success (with_reducible show wpAny _ _ (call (Value.ref 396) _) _ _ _)); (first | walk1 | (dsimp only; walk1)))
    k_dflt ((refine Con.use (by k_asm) (by k_asm) (by k_asm) (by k_asm) (by k_asm) (by first | exact rfl | assumption) (take_con msrc p0 q0 q1 (by decide) (by decide)) (by ktr_room) (by ktr_units) ?_))
    rintro r9 LM h10 tk10 F10 NM ⟨ax, tax, p', q', tp', tq', e9, a0, a1, p0', q0', q1', KM, msrc'⟩
    subst e9
    (try dsimp only)
    have b2 := b1.take dS NL msrc KM msrc' p0' q0' q1'
    clear b1 mc msrc p0 q0 q1 msrc' p0' q0' q1' KM NL F9
    repeat' ((fail_if_success (with_reducible show wpAny _ _ (exec (.For _ _ _ _ _) _) _ _ _)); (first | walk1 | (dsimp only; walk1)))
    rename Fr _ _ _ _ => F14
    rename News _ _ _ _ => N14
    rename _ ∧ AllLt _ _ => hA14
    obtain ⟨n, hn⟩ : ∃ n : Nat, 3 + i6 = (n : Int) := ⟨(3 + i6).toNat, by omega⟩
    obtain ⟨m2, vpl, vmany, vax, vst, FM⟩ := gen_3 F14 esl (by decide +kernel) (by decide +kernel) (by decide +kernel) (by decide +kernel) (by decide +kernel) (by decide +kernel)
    obtain ⟨LN, NN, KN, ⟨pl, kpl, epl, mpl, hpl⟩⟩ : ∃ LN : Led, News sS.heap sS.heap.objs.size _ LN ∧ Kept [] LM LN ∧ ∃ pl kpl, m2 (Str.ofString "places") = some (.ref pl) ∧ (pl, W.listOf (refs 0 (fun _ => 0)).toArray kpl) ∈ LN ∧ (∀ p ∈ LM, p.1 ≠ pl) := ⟨_, N14, kept_two Kept.refl, _, _, vpl, .head _, fun p hp => Nat.ne_of_lt (ktn_ltOf hA14.2 p hp)⟩
    clear F14 N14 vpl
    have n1 : sls ≠ pl := hpl _ b2.qs
    have n2 : src ≠ pl := by obtain ⟨_, _, _, _, _, _, _, h⟩ := b2.sr; exact hpl _ h
    have b3 := b2.inc KN
    rw [hn] at vmany
    have hnS : SmallN n := ⟨by omega, by omega⟩
    clear b2 KN hpl esl hn i60 i61 hA14
    repeat' ((fail_if_success (with_reducible show wpAny _ _ (pyIter _) _ _ _)); (first | walk1 | (dsimp only; walk1)))
    rename IsRange _ _ _ _ _ _ _ _ => hr
    rename News _ _ _ _ => NN
    have hn3 := hnS.1
    have hn8 := hnS.2
    refine iter_rangeS (n := n) [Str.ofString "across", Str.ofString "up"] (fun i nx => Base (sS.heap.objs.size + 1) oS sls ksl st0 st1 src ksr nx ∧ Pts pl i nx) rfl hr (rng_small (by omega) (by omega) (by omega) (by omega)) (by rw [rangeSize_nat]; omega) (by k_asm) NN ?_ ⟨b3, fun _ => 0, fun _ => 0, fun _ => 0, kpl, mpl, fun j hj => absurd hj (Nat.not_lt_zero _)⟩ ?_ ?_
    · exact fun i nx nx' h ⟨b, p⟩ => ⟨b.quiet b3.mc h, p.quiet fun p hp hq => h p hp (.inl hq)⟩
    · rintro i ti u nx h tk2 I io hi hio hI ⟨bJ, pJ⟩ F1 N1
      obtain ⟨mm, _, hsm, FA⟩ := gen_turn F1
      have wpl := hsm.at epl (by decide +kernel) (by decide +kernel)
      obtain ⟨pa, px, py, kp, mpl', hpp⟩ := pJ
      clear F1 mpl b3 NN hr
      walk_at "mine to comp"
      walk_at "mine comp"
      k_steps
      rename IsRange _ _ _ _ _ _ _ _ => hr2
      rename News _ _ _ nx => NR
      obtain ⟨p, q, tp, tq, p0, q0, q1, msrc⟩ := bJ.sr
      have nc := led_ne NR bJ.mc msrc (list_ne_cell dS).symm
      refine ⟨_, _, 2, _, fun X k ys nx' => Kept [src] nx nx' ∧ src ∉ X ∧ (∃ p q tp tq, 0 ≤ p ∧ 0 ≤ q ∧ q < 2147483647 ∧ (src, W.listOf #[.int p tp, .int q tq] ksr) ∈ nx') ∧ ys.length = k ∧ Small ys, src_range rfl hr2 (rng_small (by decide) (by decide) (by decide) (by decide)) (by decide) (by k_asm) NR, ⟨by decide, ?_, ?_, ?_⟩, ?_⟩
      · exact fun X k ys nx' nx'' h ⟨K, hX, ⟨p, q, tp, tq, a, b, c, m⟩, r⟩ => ⟨fun p hp hn => h p (K p hp hn) (.inr hp), hX, ⟨p, q, tp, tq, a, b, c, h _ m (.inl hX)⟩, r⟩
      · exact fun X h => ⟨Kept.refl, h _ msrc, ⟨p, q, tp, tq, p0, q0, q1, msrc⟩, rfl, fun v hv => absurd hv List.not_mem_nil⟩
      · rintro Ix C D k v ys nx' h' tk3 io' oC kD m₂ E' hk ⟨_, tv, rfl⟩ hio' hIx hCm hCn hv hD' _ ⟨hk2, hX, ⟨p', q', tp', tq', p0', q0', q1', ms'⟩, hyl, hys⟩ F1 N1 hfr
        have mc' := hk2.one bJ.mc nc
        have nI : Ix ≠ src := fun e => hX (e ▸ .head _)
        have nC : C ≠ src := fun e => hX (e ▸ .tail _ (.head _))
        have nD : D ≠ src := fun e => hX (e ▸ .tail _ (.tail _ (.head _)))
        refine tests_none ?_
        refine CStep.intro (by k_asm) (by k_asm) (keep3 hIx hCm hD') ?_
        simp only [if_true]
        repeat' ((fail_if_success (with_reducible show wpAny _ _ (call (Value.ref 396) _) _ _ _)); (first | walk1 | (dsimp only; walk1)))
        k_dflt ((refine Con.use (by k_asm) (by k_asm) (by k_asm) (by k_asm) (by k_asm) (by first | exact rfl | assumption) (take_con ms' p0' q0' q1' (by decide) (by decide)) (by ktr_room) (by ktr_units) ?_))
        rintro r9 LX h9 tk9 F9 N9 ⟨x9, t9, p2, q2, tp2, tq2, e9, x90, x91, p20, q20, q21, KX, ms2⟩
        subst e9
        (try dsimp only)
        repeat' ((fail_if_success (with_reducible show wpAny _ _ (call (Value.ref 403) _) _ _ _)); (first | walk1 | (dsimp only; walk1)))
        rename_i lt hlt Fl Nl ll
        k_dflt ((refine Con.use (by k_asm) (by k_asm) (by k_asm) (by k_asm) (by k_asm) (by first | exact rfl | assumption) (one_con (.tail _ ms2) p20 q20 q21 (.head _) (Nat.ne_of_gt (ll _ ms2)) (by simp) (by simp)) (by ktr_room) (by ktr_units) ?_))
        rintro r9 LY h10 tk10 F10 N10 ⟨k9, p3, q3, tp3, tq3, hr9, p30, q30, q31, KY, ms3⟩
        obtain ⟨v9, t9', rfl, v0, v1⟩ := pick5 hr9 x90 x91
        (try dsimp only)
        k_steps
        exact CStep.intro (by k_asm) (by k_asm) (keep3 (KY.one (.tail _ (KX.one hIx nI)) nI) (KY.one (.tail _ (KX.one hCm nC)) nC) (KY.one (.tail _ (KX.one hD' nD)) nD)) ⟨fun p hp hn => KY p (.tail _ (KX p (hk2 p hp hn) hn)) hn, hX, ⟨p3, q3, tp3, tq3, p30, q30, q31, ms3⟩, by simp [hyl], hys.snoc v0 v1⟩
      · rintro X De h3 tk3 nx3 ys kDe F3 N3 - hX hDe ⟨hk2, hX2, ⟨p', q', tp', tq', p0', q0', q1', ms'⟩, hyl, hys⟩
        obtain ⟨x, tx, y, ty, rfl, x0, x1, y0, y1⟩ := hys.two hyl
        have bY := bJ.take dS NR msrc hk2 ms' p0' q0' q1'
        have npl := n2.symm
        have mY := hk2.one mpl' npl
        have hI3 := hk2.one hI (led_ne NR hI msrc (itc_ne_list hio))
        have hpY : ∀ j, j < i → PtAt nx3 (pa j) (px j) (py j) ∧ -33 ≤ px j ∧ px j ≤ 89 ∧ -33 ≤ py j ∧ py j ≤ 89 := fun j hj => ⟨let ⟨t, t', k, m⟩ := (hpp j hj).1; ⟨t, t', k, hk2.one m (led_ne NR m msrc tup_ne_list)⟩, (hpp j hj).2⟩
        clear hX hDe hX2 hyl hys hpp mpl' ms' bJ msrc NR hk2 hr2
        k_dflt (refine kun_list F3 N3 (News.isList N3 (.head _)) rfl (by rfl) (by rfl) ?_)
        intro h20 F20 N20
        clear F3 N3
        repeat' ((fail_if_success (with_reducible show wpAny _ _ (exec (.Expr _ _) _) _ _ _)); (first | walk1 | (dsimp only; walk1)))
        rename Fr _ _ _ _ => F21
        obtain ⟨m4, vu, va, vi, hs4, F22⟩ := gen_put2 F21 hsm (by assumption) (by simp) (by simp) (by decide +kernel) (by decide +kernel) (by decide +kernel)
        have wpl4 := hs4.at epl (by decide +kernel) (by decide +kernel)
        clear F21 F20 hsm wpl
        repeat' ((fail_if_success (with_reducible show wpAny _ _ (call (Value.builtin _) _) _ _ _)); (first | walk1 | (dsimp only; walk1)))
        rename_i tpn htp Ft Nt lt'
        obtain ⟨LP, NP, KP, mtp⟩ : ∃ LP : Led, News sS.heap sS.heap.objs.size _ LP ∧ Kept [] nx3 LP ∧ PtAt LP tpn x y := ⟨_, Nt, kept_two Kept.refl, _, _, _, .head _⟩
        clear Nt lt'
        k_dflt (refine appendU (by k_asm) NP (KP.none mY) (by rw [refs_len]; omega) ?_)
        intro h21 LQ F23 NQ KQ mQ
        have bQ := (bY.inc KP).one dS NP (KP.none mY) n1 n2 KQ
        have pQ := Pts.snoc NP (KP.none mY) (fun j hj => let ⟨⟨t, t', k, m⟩, r⟩ := hpY j hj; ⟨⟨t, t', k, KP.none m⟩, r⟩) mtp x0 x1 y0 y1 KQ mQ
        have hI4 := KQ.one (KP.none hI3) (led_ne NP (KP.none hI3) (KP.none mY) (itc_ne_list hio))
        clear NP KP KQ mQ mtp hpY mY bY
        k_steps
        exact TP.next (by k_asm) (by k_asm) (keep1 hI4) ⟨⟨bQ, pQ⟩, hs4⟩
    · rintro u nx h tk2 ⟨bJ, pJ⟩ F1 N1
      obtain ⟨mm, hsm, FA⟩ := gen_done F1
      have vst' := hsm.at vst (by decide +kernel) (by decide +kernel)
      have vax' := hsm.at vax (by decide +kernel) (by decide +kernel)
      have vma' := hsm.at vmany (by decide +kernel) (by decide +kernel)
      have wpl := hsm.at epl (by decide +kernel) (by decide +kernel)
      clear F1 mpl b3 NN hr hsm vst vax vmany epl
      obtain ⟨pa, px, py, kp, mpl', hpp⟩ := pJ
      repeat' ((fail_if_success (with_reducible show wpAny _ _ (call (Value.ref 378) _) _ _ _)); (first | walk1 | (dsimp only; walk1)))
      rename_i le hle Fe Ne lle
      obtain ⟨LR, NR, KR, ⟨te, mle⟩⟩ : ∃ LR : Led, News sS.heap sS.heap.objs.size hle LR ∧ Kept [] nx LR ∧ (∃ te, (le, W.listOf #[.int ((n : Int) - 1) te] 0) ∈ LR) := ⟨_, Ne, Kept.cons, _, .head _⟩
      have bR := bJ.inc KR
      clear Ne lle
      k_dflt ((refine Con.use (by k_asm) (by k_asm) (by k_asm) (by k_asm) (by k_asm) (by first | exact rfl | assumption) (zone_con (KR.none mpl') (fun j hj => let ⟨⟨t, t', k, m⟩, _⟩ := hpp j hj; ⟨t, t', k, KR.none m⟩) mle (by omega) (by omega) (by omega)) (by ktr_room) (by ktr_units) ?_))
      rintro r9 LS h9 tk9' F9 NS ⟨Z, e9, zn, hz0, KS, hz⟩
      subst e9
      (try dsimp only)
      have bS := bR.inc KS
      have hT := turn_zero zn hz0 (fun j hj => (hpp j hj).2) hz
      have hO := fun Z' e2 e3 e4 => osmall (Z' := Z') (Z := Z) e2 e3 e4 hz0 (fun j hj => (hpp j hj).2)
      clear bR bJ KR KS mle mpl' hpp hz0 hz zn NR wpl hn3 hn8
      repeat' ((fail_if_success (with_reducible show wpAny _ _ (exec (.For _ _ _ _ _) _) _ _ _)); (first | walk1 | (dsimp only; walk1)))
      rename Fr _ _ _ _ => F30
      obtain ⟨m5, vzo, vst, vax, vma, FZ⟩ := gen_13 F30 vst' vax' vma' (by decide +kernel) (by decide +kernel) (by decide +kernel)
      clear F30 vst' vax' vma'
      repeat' ((fail_if_success (with_reducible show wpAny _ _ (pyIter _) _ _ _)); (first | walk1 | (dsimp only; walk1)))
      rename IsRange _ _ _ _ _ _ _ _ => hr
      rename News _ _ _ LS => NN
      have hn3 := hnS.1
      have hn8 := hnS.2
      refine iter_rangeS (n := n) [Str.ofString "way", Str.ofString "step"] (fun i nx => Base (sS.heap.objs.size + 1) oS sls ksl st0 st1 src ksr nx ∧ Turn Z n i nx) rfl hr (rng_small (by omega) (by omega) (by omega) (by omega)) (by rw [rangeSize_nat]; omega) (by k_asm) NN ?_ ⟨bS, hT⟩ ?_ ?_
      · exact fun i nx nx' h ⟨b, p⟩ => ⟨b.quiet bS.mc h, p.quiet fun p hp hq => h p hp (.inl hq)⟩
      · rintro i ti u nx h tk2 I io hi hio hI ⟨bJ, Z', z1, z2, z3, z4, hz', hsz⟩ F1 N1
        obtain ⟨mm, vi, hsm, FA⟩ := gen_turn F1
        clear F1 bS NN hr hT hO
        obtain ⟨p, q, tp, tq, p0, q0, q1, msrc⟩ := bJ.sr
        have mc := bJ.mc
        repeat' ((fail_if_success (with_reducible show wpAny _ _ (call (Value.ref 396) _) _ _ _)); (first | walk1 | (dsimp only; walk1)))
        k_dflt ((refine Con.use (by k_asm) (by k_asm) (by k_asm) (by k_asm) (by k_asm) (by first | exact rfl | assumption) (take_con msrc p0 q0 q1 (by decide) (by decide)) (by ktr_room) (by ktr_units) ?_))
        rintro r9 LT1 hh31 tk31' FT1 NT1 ⟨wy, twy, p', q', tp', tq', e9, wy0, wy1, p0', q0', q1', KL, msrc'⟩
        subst e9
        (try dsimp only)
        have bT1 := bJ.take dS N1 msrc KL msrc' p0' q0' q1'
        replace hz' := hz'.take N1 msrc KL
        replace hI := KL.one hI (led_ne N1 hI msrc (itc_ne_list hio))
        clear bJ mc msrc p0 q0 q1 msrc' p0' q0' q1' KL N1
        obtain ⟨p, q, tp, tq, p0, q0, q1, msrc⟩ := bT1.sr
        have mc := bT1.mc
        repeat' ((fail_if_success (with_reducible show wpAny _ _ (call (Value.ref 396) _) _ _ _)); (first | walk1 | (dsimp only; walk1)))
        k_dflt ((refine Con.use (by k_asm) (by k_asm) (by k_asm) (by k_asm) (by k_asm) (by first | exact rfl | assumption) (take_con msrc p0 q0 q1 (by decide) (by decide)) (by ktr_room) (by ktr_units) ?_))
        rintro r9 LT2 hh32 tk32' FT2 NT2 ⟨sx, tsx, p', q', tp', tq', e9, sx0, sx1, p0', q0', q1', KL, msrc'⟩
        subst e9
        (try dsimp only)
        have bT2 := bT1.take dS NT1 msrc KL msrc' p0' q0' q1'
        replace hz' := hz'.take NT1 msrc KL
        replace hI := KL.one hI (led_ne NT1 hI msrc (itc_ne_list hio))
        clear bT1 mc msrc p0 q0 q1 msrc' p0' q0' q1' KL NT1
        obtain ⟨p, q, tp, tq, p0, q0, q1, msrc⟩ := bT2.sr
        have mc := bT2.mc
        repeat' ((fail_if_success (with_reducible show wpAny _ _ (call (Value.ref 396) _) _ _ _)); (first | walk1 | (dsimp only; walk1)))
        k_dflt ((refine Con.use (by k_asm) (by k_asm) (by k_asm) (by k_asm) (by k_asm) (by first | exact rfl | assumption) (take_con msrc p0 q0 q1 (by decide) (by decide)) (by ktr_room) (by ktr_units) ?_))
        rintro r9 LT3 hh33 tk33' FT3 NT3 ⟨sy, tsy, p', q', tp', tq', e9, sy0, sy1, p0', q0', q1', KL, msrc'⟩
        subst e9
        (try dsimp only)
        have bT3 := bT2.take dS NT2 msrc KL msrc' p0' q0' q1'
        replace hz' := hz'.take NT2 msrc KL
        replace hI := KL.one hI (led_ne NT2 hI msrc (itc_ne_list hio))
        clear bT2 mc msrc p0 q0 q1 msrc' p0' q0' q1' KL NT2
        repeat' ((fail_if_success (with_reducible show wpAny _ _ (exec (.If _ _ _ _) _) _ _ _)); (first | walk1 | (dsimp only; walk1)))
        rename Fr _ _ _ _ => F40
        rename News _ _ _ (_ :: _ :: LT3) => N40
        obtain ⟨m6, vwy, vsp, vi6, hs6, F41⟩ := gen_put2 F40 hsm vi (by simp) (by simp) (by decide +kernel) (by decide +kernel) (by decide +kernel)
        have vzo6 := hs6.at vzo (by decide +kernel) (by decide +kernel)
        have vst6 := hs6.at vst (by decide +kernel) (by decide +kernel)
        have vax6 := hs6.at vax (by decide +kernel) (by decide +kernel)
        obtain ⟨LT4, NT4, KT4, ⟨sp, ts0, ts1, ksp, esp, msp⟩⟩ : ∃ LT4 : Led, News sS.heap sS.heap.objs.size _ LT4 ∧ Kept [] LT3 LT4 ∧ ∃ sp ts0 ts1 ksp, m6 (Str.ofString "step") = some (.ref sp) ∧ (sp, tupOf #[.int (sx - 45) ts0, .int (sy - 45) ts1] ksp) ∈ LT4 := ⟨_, N40, kept_two Kept.refl, _, _, _, _, vsp, .tail _ (.head _)⟩
        have bT4 := bT3.inc KT4
        replace hz' := hz'.inc KT4
        replace hI := KT4.none hI
        clear F40 N40 hsm vi bT3 KT4 vsp
        obtain ⟨sA, fA0, fA1, gA, sAin, fA⟩ := bT4.state a0 a1
        obtain ⟨sB, fB0, fB1, gB, sBin, fB⟩ := bT4.state (ax := 1 - ax) (by omega) (by omega)
        have aB0 : 0 ≤ 1 - ax := by omega
        have mqs := bT4.qs
        have hcz : -1000 ≤ Z'.cx (0 + (i : Int)).toNat ∧ Z'.cx (0 + (i : Int)).toNat ≤ 1000 ∧ -1000 ≤ Z'.cy (0 + (i : Int)).toNat ∧ Z'.cy (0 + (i : Int)).toNat ≤ 1000 := by
          rw [show (0 + (i : Int)).toNat = i by omega]
          exact ((hsz i hi).1).weak (by decide)
        have hbs : -1000 ≤ sx - 45 ∧ sx - 45 ≤ 1000 ∧ -1000 ≤ sy - 45 ∧ sy - 45 ≤ 1000 := ⟨by omega, by omega, by omega, by omega⟩
        have hii : (0 + (i : Int)).toNat = i := by omega
        repeat' ((fail_if_success (with_reducible show wpAny _ _ (call (Value.ref 82) _) _ _ _)); (first | walk1 | (dsimp only; walk1)))
        · k_dflt ((refine Con.use (by k_asm) (by k_asm) (by k_asm) (by k_asm) (by k_asm) (by first | exact rfl | assumption) (shifted_con hz' z1.symm sAin fA (by omega) (by omega) (by omega) msp hbs hcz) (by ktr_room) (by ktr_units) ?_))
          rintro r9 LU h50 tk50 F50 N50 ⟨e9, d, KU, hz2⟩
          subst e9
          (try dsimp only)
          obtain ⟨bU, tU⟩ := turn_step bT4 dS NT4 z1 z2 z3 z4 hz' hsz hi hn3 (by omega) (by omega) (by omega) (by omega) hii KU hz2
          obtain ⟨_, hcl⟩ := hz'.cl
          obtain ⟨_, htp⟩ := hz'.tp (0 + (i : Int)).toNat (by omega)
          have hI5 := Kept.two KU NT4 hcl htp hI (itc_ne_list hio) (itc_ne_list hio)
          k_steps
          exact TP.next (by k_asm) (by k_asm) (keep1 hI5) ⟨⟨bU, tU⟩, hs6⟩
        · k_dflt ((refine Con.use (by k_asm) (by k_asm) (by k_asm) (by k_asm) (by k_asm) (by first | exact rfl | assumption) (shifted_con hz' z1.symm sAin fA (by omega) (by omega) (by omega) msp hbs hcz) (by ktr_room) (by ktr_units) ?_))
          rintro r9 LU h50 tk50 F50 N50 ⟨e9, d, KU, hz2⟩
          subst e9
          (try dsimp only)
          obtain ⟨bU, tU⟩ := turn_step bT4 dS NT4 z1 z2 z3 z4 hz' hsz hi hn3 (by omega) (by omega) (by omega) (by omega) hii KU hz2
          obtain ⟨_, hcl⟩ := hz'.cl
          obtain ⟨_, htp⟩ := hz'.tp (0 + (i : Int)).toNat (by omega)
          have hI5 := Kept.two KU NT4 hcl htp hI (itc_ne_list hio) (itc_ne_list hio)
          k_steps
          exact TP.next (by k_asm) (by k_asm) (keep1 hI5) ⟨⟨bU, tU⟩, hs6⟩
        · k_dflt ((refine Con.use (by k_asm) (by k_asm) (by k_asm) (by k_asm) (by k_asm) (by first | exact rfl | assumption) (shifted_con hz' z1.symm sBin fB (by omega) (by omega) (by omega) msp hbs hcz) (by ktr_room) (by ktr_units) ?_))
          rintro r9 LU h50 tk50 F50 N50 ⟨e9, d, KU, hz2⟩
          subst e9
          (try dsimp only)
          obtain ⟨bU, tU⟩ := turn_step bT4 dS NT4 z1 z2 z3 z4 hz' hsz hi hn3 (by omega) (by omega) (by omega) (by omega) hii KU hz2
          obtain ⟨_, hcl⟩ := hz'.cl
          obtain ⟨_, htp⟩ := hz'.tp (0 + (i : Int)).toNat (by omega)
          have hI5 := Kept.two KU NT4 hcl htp hI (itc_ne_list hio) (itc_ne_list hio)
          k_steps
          exact TP.next (by k_asm) (by k_asm) (keep1 hI5) ⟨⟨bU, tU⟩, hs6⟩
        · exact TP.next (by k_asm) (by k_asm) (keep1 hI) ⟨⟨bT4, turn_none z1 z2 z3 z4 hz' hsz⟩, hs6⟩
      · rintro u nx h tk2 ⟨bJ, Z', z1, z2, z3, z4, hz', hsz⟩ F1 N1
        obtain ⟨mm, hsm, FA⟩ := gen_done F1
        have vst' := hsm.at vst (by decide +kernel) (by decide +kernel)
        have vax' := hsm.at vax (by decide +kernel) (by decide +kernel)
        have vma' := hsm.at vma (by decide +kernel) (by decide +kernel)
        have vzo' := hsm.at vzo (by decide +kernel) (by decide +kernel)
        have hO' := hO Z' z2 z3 z4
        clear F1 bS NN hr hsm vst vax vma vzo hT hO z3 z4 vst'
        obtain ⟨p, q, tp, tq, p0, q0, q1, msrc⟩ := bJ.sr
        have mc := bJ.mc
        repeat' ((fail_if_success (with_reducible show wpAny _ _ (call (Value.ref 396) _) _ _ _)); (first | walk1 | (dsimp only; walk1)))
        k_dflt ((refine Con.use (by k_asm) (by k_asm) (by k_asm) (by k_asm) (by k_asm) (by first | exact rfl | assumption) (take_con msrc p0 q0 q1 (by omega) (by omega)) (by ktr_room) (by ktr_units) ?_))
        rintro r9 LT1 hh61 tk61 F61 NT1 ⟨x9, tx9, p', q', tp', tq', e9, x90, x91, p0', q0', q1', KL, msrc'⟩
        subst e9
        (try dsimp only)
        have bT1 := bJ.take dS N1 msrc KL msrc' p0' q0' q1'
        replace hz' := hz'.take N1 msrc KL
        clear bJ mc msrc p0 q0 q1 KL N1
        repeat' ((fail_if_success (with_reducible show wpAny _ _ (call (Value.ref 403) _) _ _ _)); (first | walk1 | (dsimp only; walk1)))
        rename_i lt hlt Fl Nl ll
        k_dflt ((refine Con.use (by k_asm) (by k_asm) (by k_asm) (by k_asm) (by k_asm) (by first | exact rfl | assumption) (one_con (.tail _ msrc') p0' q0' q1' (.head _) (Nat.ne_of_gt (ll _ msrc')) (by simp) (by simp)) (by ktr_room) (by ktr_units) ?_))
        rintro r9 LT2 hh62 tk62 F62 NT2 ⟨k9, p3, q3, tp3, tq3, hr9, p30, q30, q31, KY, ms3⟩
        obtain ⟨fi, tfi, rfl, fi0, fi1⟩ := pick3 hr9 x90 x91
        (try dsimp only)
        have bT2 := (bT1.inc Kept.cons).take dS Nl (.tail _ msrc') KY ms3 p30 q30 q31
        replace hz' := (hz'.inc Kept.cons).take Nl (.tail _ msrc') KY
        clear bT1 msrc' p0' q0' q1' KY Nl ll hr9
        have mc := bT2.mc
        repeat' ((fail_if_success (with_reducible show wpAny _ _ (exec (.Return _ _) _) _ _ _)); (first | walk1 | (dsimp only; walk1)))
        rename Fr _ _ _ _ => F70
        obtain ⟨m7, vfi, vzo7, vax7, vma7, F7⟩ := gen_13 F70 vzo' vax' vma' (by decide +kernel) (by decide +kernel) (by decide +kernel)
        clear F70 vzo' vax' vma'
        repeat' ((fail_if_success (with_reducible show wpAny _ _ (call (Value.ref 396) _) _ _ _)); (first | walk1 | (dsimp only; walk1)))
        k_dflt ((refine Con.use (by k_asm) (by k_asm) (by k_asm) (by k_asm) (by k_asm) (by first | exact rfl | assumption) (take_con ms3 p30 q30 q31 (by omega) (by omega)) (by ktr_room) (by ktr_units) ?_))
        rintro r9 LT3 hh63 tk63 F63 NT3 ⟨x8, tx8, p', q', tp', tq', e9, x80, x81, p0', q0', q1', KL, msrc'⟩
        subst e9
        (try dsimp only)
        replace hz' := hz'.take (by assumption) ms3 KL
        clear bT2 mc ms3 p30 q30 q31 KL
        repeat' ((fail_if_success (with_reducible show wpAny _ _ (call (Value.ref 403) _) _ _ _)); (first | walk1 | (dsimp only; walk1)))
        rename_i lt2 hlt2 Fl Nl ll
        k_dflt ((refine Con.use (by k_asm) (by k_asm) (by k_asm) (by k_asm) (by k_asm) (by first | exact rfl | assumption) (one_con (.tail _ msrc') p0' q0' q1' (.head _) (Nat.ne_of_gt (ll _ msrc')) (by simp) (by simp)) (by ktr_room) (by ktr_units) ?_))
        rintro r9 LT4 hh64 tk64 F64 NT4 ⟨k9, p3, q3, tp3, tq3, hr9, p30, q30, q31, KY, ms3⟩
        obtain ⟨la, tla, rfl, la0, la1⟩ := pick2 hr9 fi1 x80 x81
        (try dsimp only)
        replace hz' := (hz'.inc Kept.cons).take Nl (.tail _ msrc') KY
        clear msrc' p0' q0' q1' KY Nl ll hr9 ms3
        repeat' ((fail_if_success (with_reducible show wpAny _ _ (call (Value.ref 436) _) _ _ _)); (first | walk1 | (dsimp only; walk1)))
        k_dflt ((refine Con.use (by k_asm) (by k_asm) (by k_asm) (by k_asm) (by k_asm) (by first | exact rfl | assumption) (right_con hz' z1.symm (by omega) hO' (fun j hj => ((hsz j (z2 ▸ hj)).1).weak (by decide)) (by omega) fi0 la0 (by omega)) (by ktr_room) (by ktr_units) ?_))
        rintro r9 LT5 hh65 tk65 F65 NT5 e9
        subst e9
        (try dsimp only)
        k_steps
end
end Mine
theorem PySem.Challenge.cw_xm0734_01_holds : PySem.Challenge.rw_xm0734_01.Holds := by
  exact Mine.law_holds
