import PyProof.Rows.All
import Wide.All
import OpenK.AllK
import Wide.FinOn
import PySem.Challenge.RW_pq0667_01
section
open PySem PySem.W PyProof.Rows
set_option Elab.async false
namespace Mine
set_option compiler.extract_closed false
set_option maxRecDepth 100000

def st0 : Stmt := ((PySem.Challenge.pw_pq0667_01.main.body[0]?).getD default)
def st1 : Stmt := ((PySem.Challenge.pw_pq0667_01.main.body[1]?).getD default)
def st2 : Stmt := ((PySem.Challenge.pw_pq0667_01.main.body[2]?).getD default)
def st3 : Stmt := ((PySem.Challenge.pw_pq0667_01.main.body[3]?).getD default)
def st4 : Stmt := ((PySem.Challenge.pw_pq0667_01.main.body[4]?).getD default)
def st5 : Stmt := ((PySem.Challenge.pw_pq0667_01.main.body[5]?).getD default)
def st6 : Stmt := ((PySem.Challenge.pw_pq0667_01.main.body[6]?).getD default)
def st7 : Stmt := ((PySem.Challenge.pw_pq0667_01.main.body[7]?).getD default)
def st8 : Stmt := ((PySem.Challenge.pw_pq0667_01.main.body[8]?).getD default)
def st9 : Stmt := ((PySem.Challenge.pw_pq0667_01.main.body[9]?).getD default)
def st10 : Stmt := ((PySem.Challenge.pw_pq0667_01.main.body[10]?).getD default)
def st11 : Stmt := ((PySem.Challenge.pw_pq0667_01.main.body[11]?).getD default)
def st12 : Stmt := ((PySem.Challenge.pw_pq0667_01.main.body[12]?).getD default)
def st13 : Stmt := ((PySem.Challenge.pw_pq0667_01.main.body[13]?).getD default)
def st14 : Stmt := ((PySem.Challenge.pw_pq0667_01.main.body[14]?).getD default)
def st15 : Stmt := ((PySem.Challenge.pw_pq0667_01.main.body[15]?).getD default)
def st16 : Stmt := ((PySem.Challenge.pw_pq0667_01.main.body[16]?).getD default)
def st17 : Stmt := ((PySem.Challenge.pw_pq0667_01.main.body[17]?).getD default)
def st18 : Stmt := ((PySem.Challenge.pw_pq0667_01.main.body[18]?).getD default)
def st19 : Stmt := ((PySem.Challenge.pw_pq0667_01.main.body[19]?).getD default)
def st20 : Stmt := ((PySem.Challenge.pw_pq0667_01.main.body[20]?).getD default)
def st21 : Stmt := ((PySem.Challenge.pw_pq0667_01.main.body[21]?).getD default)
def st22 : Stmt := ((PySem.Challenge.pw_pq0667_01.main.body[22]?).getD default)
def st23 : Stmt := ((PySem.Challenge.pw_pq0667_01.main.body[23]?).getD default)
def st24 : Stmt := ((PySem.Challenge.pw_pq0667_01.main.body[24]?).getD default)
def sc0 : Scope := (PySem.Challenge.pw_pq0667_01.main.scope)
def gv0 : Given := (PySem.Challenge.pw_pq0667_01.given)
def prog1 : Program := { main := { body := [st0, st1, st2, st3, st4, st5, st6, st7, st8, st9, st10, st11, st12, st13, st14, st15, st16, st17, st18, st19, st20, st21, st22, st23, st24], scope := sc0, futureAnnotations := false, file := "/claim/cut.py", more := [] }, modules := [], parses := [], absent := [], harvested := [], given := gv0 }
def law1 : OpenLaw := { prog := prog1, name := (PySem.Str.ofString "law"), about := [(PySem.Str.ofString "read_copy")], foot := 12, most := some 63, bound := none, writes := false }
theorem law1_eq : PySem.Challenge.rw_pq0667_01 = law1 := by kernel_rfl
end Mine
end

section
open PySem PySem.W PyProof.Rows PySem.Calls
set_option Elab.async false
set_option linter.unusedVariables false
namespace Mine
set_option maxRecDepth 100000
abbrev prog0 : Program := prog1
def inSt (s : Stmt) (j : Nat) : Stmt := match s with
  | .ClassDef _ _ _ b _ _ _ _ _ _ _ => (match b[j]? with | some s => s | none => default)
  | _ => default
abbrev fnObj (st : Stmt) (qual : Str) (dV pm : Value) (cd : Nat) : Obj := match st with
  | .FunctionDef name args body _ _ _ scope _ _ _ => ⟨.type "function", none, .func (fnOf name qual args body scope dV .none .none pm none (.ref cd) .none), #[]⟩
  | _ => default

def ko30 : Obj := fnObj (inSt st1 0) (Str.ofString "LedgerError.__init__") (.ref 23) (.str (Str.ofString "ledgerspeak.errors") 187) 29
def ko37 : Obj := fnObj (inSt st1 1) (Str.ofString "LedgerError.told") (.none) (.str (Str.ofString "ledgerspeak.errors") 187) 36
def ko70 : Obj := fnObj (inSt st4 0) (Str.ofString "Walk.__init__") (.ref 63) (.str (Str.ofString "ledgerspeak.copying") 245) 69
def ko77 : Obj := fnObj (inSt st4 1) (Str.ofString "Walk.is_done") (.none) (.str (Str.ofString "ledgerspeak.copying") 245) 76
def ko84 : Obj := fnObj (inSt st4 2) (Str.ofString "Walk.peek") (.none) (.str (Str.ofString "ledgerspeak.copying") 245) 83
def ko91 : Obj := fnObj (inSt st4 3) (Str.ofString "Walk.stands") (.none) (.str (Str.ofString "ledgerspeak.copying") 245) 90
def ko98 : Obj := fnObj (inSt st4 4) (Str.ofString "Walk.skip") (.none) (.str (Str.ofString "ledgerspeak.copying") 245) 97
def ko105 : Obj := fnObj (inSt st4 5) (Str.ofString "Walk.fault") (.none) (.str (Str.ofString "ledgerspeak.copying") 245) 104
def ko112 : Obj := fnObj (inSt st4 6) (Str.ofString "Walk.take") (.none) (.str (Str.ofString "ledgerspeak.copying") 245) 111
def ko119 : Obj := fnObj (inSt st4 7) (Str.ofString "Walk.need") (.none) (.str (Str.ofString "ledgerspeak.copying") 245) 118
def ko133 : Obj := fnObj (st5) (Str.ofString "read_pseudo") (.none) (.str (Str.ofString "ledgerspeak.copying") 245) 132
def ko140 : Obj := fnObj (st6) (Str.ofString "read_side") (.none) (.str (Str.ofString "ledgerspeak.copying") 245) 139
def ko147 : Obj := fnObj (st7) (Str.ofString "read_pair") (.none) (.str (Str.ofString "ledgerspeak.copying") 245) 146
def ko154 : Obj := fnObj (st8) (Str.ofString "read_pairs") (.none) (.str (Str.ofString "ledgerspeak.copying") 245) 153
def ko161 : Obj := fnObj (st9) (Str.ofString "read_copy") (.none) (.str (Str.ofString "ledgerspeak.copying") 245) 160
def ko177 : Obj := fnObj (inSt st11 0) (Str.ofString "Token.__init__") (.ref 170) (.str (Str.ofString "ledgerspeak.tokens") 382) 176
def ko184 : Obj := fnObj (inSt st11 1) (Str.ofString "Token.told") (.none) (.str (Str.ofString "ledgerspeak.tokens") 382) 183
def ko198 : Obj := fnObj (st13) (Str.ofString "_law_take") (.none) (.str (Str.ofString "law_pq0667_01") 428) 197
def ko205 : Obj := fnObj (st14) (Str.ofString "_law_bag") (.none) (.str (Str.ofString "law_pq0667_01") 428) 204
def ko212 : Obj := fnObj (st15) (Str.ofString "_law_single") (.none) (.str (Str.ofString "law_pq0667_01") 428) 211
def ko217 : Obj := fnObj (st16) (Str.ofString "_law_side") (.none) (.str (Str.ofString "law_pq0667_01") 428) 216
def ko224 : Obj := fnObj (st17) (Str.ofString "_law_rows") (.none) (.str (Str.ofString "law_pq0667_01") 428) 223
def ko231 : Obj := fnObj (st18) (Str.ofString "_law_one_side") (.none) (.str (Str.ofString "law_pq0667_01") 428) 230
def ko238 : Obj := fnObj (st19) (Str.ofString "_law_due") (.none) (.str (Str.ofString "law_pq0667_01") 428) 237
def ko243 : Obj := fnObj (st20) (Str.ofString "_law_plain") (.none) (.str (Str.ofString "law_pq0667_01") 428) 242
def ko248 : Obj := fnObj (st21) (Str.ofString "_law_heard") (.none) (.str (Str.ofString "law_pq0667_01") 428) 247
def ko255 : Obj := fnObj (st22) (Str.ofString "_law_written") (.none) (.str (Str.ofString "law_pq0667_01") 428) 254
def ko262 : Obj := fnObj (st23) (Str.ofString "_law_cut") (.none) (.str (Str.ofString "law_pq0667_01") 428) 261
def ko269 : Obj := fnObj (st24) (Str.ofString "law") (.none) (.str (Str.ofString "law_pq0667_01") 428) 268
abbrev fpS (s : Stmt) : Arguments := match s with
  | .FunctionDef _ ps _ _ _ _ _ _ _ _ => ps
  | _ => default
abbrev fbS (s : Stmt) : FuncBody := match s with
  | .FunctionDef _ _ b _ _ _ _ _ _ _ => .stmts b
  | .ClassDef _ _ _ b _ _ _ _ _ _ _ => .stmts b
  | _ => default
abbrev fsS (s : Stmt) : Scope := match s with
  | .FunctionDef _ _ _ _ _ _ s _ _ _ => s
  | .ClassDef _ _ _ _ _ _ s _ _ _ _ => s
  | _ => default
noncomputable abbrev kx0 : Str := ⟨⟨[nat_lit 60, nat_lit 109, nat_lit 111, nat_lit 100, nat_lit 117, nat_lit 108, nat_lit 101, nat_lit 62]⟩⟩
noncomputable abbrev kx1 : Str := ⟨⟨[nat_lit 47, nat_lit 99, nat_lit 108, nat_lit 97, nat_lit 105, nat_lit 109, nat_lit 47, nat_lit 99, nat_lit 117, nat_lit 116, nat_lit 46, nat_lit 112, nat_lit 121]⟩⟩
noncomputable abbrev kx2 : Str := ⟨⟨[nat_lit 95, nat_lit 95, nat_lit 109, nat_lit 97, nat_lit 105, nat_lit 110, nat_lit 95, nat_lit 95]⟩⟩
noncomputable abbrev kx3 : Str := ⟨⟨[nat_lit 95, nat_lit 95, nat_lit 110, nat_lit 97, nat_lit 109, nat_lit 101, nat_lit 95, nat_lit 95]⟩⟩
noncomputable abbrev kx4 : Str := ⟨⟨[nat_lit 108, nat_lit 101, nat_lit 100, nat_lit 103, nat_lit 101, nat_lit 114, nat_lit 115, nat_lit 112, nat_lit 101, nat_lit 97, nat_lit 107, nat_lit 46, nat_lit 101, nat_lit 114, nat_lit 114, nat_lit 111, nat_lit 114, nat_lit 115]⟩⟩
noncomputable abbrev kx5 : Str := ⟨⟨[nat_lit 95, nat_lit 95, nat_lit 100, nat_lit 111, nat_lit 99, nat_lit 95, nat_lit 95]⟩⟩
noncomputable abbrev kx6 : Str := ⟨⟨[nat_lit 95, nat_lit 95, nat_lit 112, nat_lit 97, nat_lit 99, nat_lit 107, nat_lit 97, nat_lit 103, nat_lit 101, nat_lit 95, nat_lit 95]⟩⟩
noncomputable abbrev kx7 : Str := ⟨⟨[nat_lit 95, nat_lit 95, nat_lit 108, nat_lit 111, nat_lit 97, nat_lit 100, nat_lit 101, nat_lit 114, nat_lit 95, nat_lit 95]⟩⟩
noncomputable abbrev kx8 : Str := ⟨⟨[nat_lit 95, nat_lit 95, nat_lit 115, nat_lit 112, nat_lit 101, nat_lit 99, nat_lit 95, nat_lit 95]⟩⟩
noncomputable abbrev kx9 : Str := ⟨⟨[nat_lit 95, nat_lit 95, nat_lit 97, nat_lit 110, nat_lit 110, nat_lit 111, nat_lit 116, nat_lit 97, nat_lit 116, nat_lit 105, nat_lit 111, nat_lit 110, nat_lit 115, nat_lit 95, nat_lit 95]⟩⟩
noncomputable abbrev kx10 : Str := ⟨⟨[nat_lit 95, nat_lit 95, nat_lit 98, nat_lit 117, nat_lit 105, nat_lit 108, nat_lit 116, nat_lit 105, nat_lit 110, nat_lit 115, nat_lit 95, nat_lit 95]⟩⟩
noncomputable abbrev kx11 : Str := ⟨⟨[nat_lit 95, nat_lit 95, nat_lit 102, nat_lit 105, nat_lit 108, nat_lit 101, nat_lit 95, nat_lit 95]⟩⟩
noncomputable abbrev kx12 : Str := ⟨⟨[nat_lit 95, nat_lit 95, nat_lit 99, nat_lit 97, nat_lit 99, nat_lit 104, nat_lit 101, nat_lit 100, nat_lit 95, nat_lit 95]⟩⟩
noncomputable abbrev kx13 : Str := ⟨⟨[nat_lit 76, nat_lit 101, nat_lit 100, nat_lit 103, nat_lit 101, nat_lit 114, nat_lit 69, nat_lit 114, nat_lit 114, nat_lit 111, nat_lit 114]⟩⟩
noncomputable abbrev kx14 : Str := ⟨⟨[nat_lit 95, nat_lit 95, nat_lit 109, nat_lit 111, nat_lit 100, nat_lit 117, nat_lit 108, nat_lit 101, nat_lit 95, nat_lit 95]⟩⟩
noncomputable abbrev kx15 : Str := ⟨⟨[nat_lit 95, nat_lit 95, nat_lit 102, nat_lit 105, nat_lit 114, nat_lit 115, nat_lit 116, nat_lit 108, nat_lit 105, nat_lit 110, nat_lit 101, nat_lit 110, nat_lit 111, nat_lit 95, nat_lit 95]⟩⟩
noncomputable abbrev kx16 : Str := ⟨⟨[nat_lit 95, nat_lit 95, nat_lit 105, nat_lit 110, nat_lit 105, nat_lit 116, nat_lit 95, nat_lit 95]⟩⟩
noncomputable abbrev kx17 : Str := ⟨⟨[nat_lit 116, nat_lit 111, nat_lit 108, nat_lit 100]⟩⟩
noncomputable abbrev kx18 : Str := ⟨⟨[nat_lit 95, nat_lit 95, nat_lit 115, nat_lit 116, nat_lit 97, nat_lit 116, nat_lit 105, nat_lit 99, nat_lit 95, nat_lit 97, nat_lit 116, nat_lit 116, nat_lit 114, nat_lit 105, nat_lit 98, nat_lit 117, nat_lit 116, nat_lit 101, nat_lit 115, nat_lit 95, nat_lit 95]⟩⟩
noncomputable abbrev kx19 : Str := ⟨⟨[nat_lit 95, nat_lit 95, nat_lit 119, nat_lit 101, nat_lit 97, nat_lit 107, nat_lit 114, nat_lit 101, nat_lit 102, nat_lit 95, nat_lit 95]⟩⟩
noncomputable abbrev kx20 : Str := ⟨⟨[nat_lit 76, nat_lit 101, nat_lit 100, nat_lit 103, nat_lit 101, nat_lit 114, nat_lit 69, nat_lit 114, nat_lit 114, nat_lit 111, nat_lit 114, nat_lit 46, nat_lit 116, nat_lit 111, nat_lit 108, nat_lit 100]⟩⟩
noncomputable abbrev kx21 : Str := ⟨⟨[nat_lit 95, nat_lit 95, nat_lit 113, nat_lit 117, nat_lit 97, nat_lit 108, nat_lit 110, nat_lit 97, nat_lit 109, nat_lit 101, nat_lit 95, nat_lit 95]⟩⟩
noncomputable abbrev kx22 : Str := ⟨⟨[nat_lit 115, nat_lit 101, nat_lit 108, nat_lit 102]⟩⟩
noncomputable abbrev kx23 : Str := ⟨⟨[nat_lit 76, nat_lit 101, nat_lit 100, nat_lit 103, nat_lit 101, nat_lit 114, nat_lit 69, nat_lit 114, nat_lit 114, nat_lit 111, nat_lit 114, nat_lit 46, nat_lit 95, nat_lit 95, nat_lit 105, nat_lit 110, nat_lit 105, nat_lit 116, nat_lit 95, nat_lit 95]⟩⟩
noncomputable abbrev kx24 : Str := ⟨⟨[nat_lit 116, nat_lit 121, nat_lit 112, nat_lit 101, nat_lit 46, nat_lit 95, nat_lit 95, nat_lit 115, nat_lit 117, nat_lit 98, nat_lit 99, nat_lit 108, nat_lit 97, nat_lit 115, nat_lit 115, nat_lit 101, nat_lit 115, nat_lit 95, nat_lit 95, nat_lit 46, nat_lit 69, nat_lit 120, nat_lit 99, nat_lit 101, nat_lit 112, nat_lit 116, nat_lit 105, nat_lit 111, nat_lit 110, nat_lit 46, nat_lit 48]⟩⟩
noncomputable abbrev kx25 : Str := ⟨⟨[nat_lit 116, nat_lit 121, nat_lit 112, nat_lit 101, nat_lit 46, nat_lit 95, nat_lit 95, nat_lit 115, nat_lit 117, nat_lit 98, nat_lit 99, nat_lit 108, nat_lit 97, nat_lit 115, nat_lit 115, nat_lit 101, nat_lit 115, nat_lit 95, nat_lit 95, nat_lit 46, nat_lit 69, nat_lit 120, nat_lit 99, nat_lit 101, nat_lit 112, nat_lit 116, nat_lit 105, nat_lit 111, nat_lit 110, nat_lit 46, nat_lit 110]⟩⟩
noncomputable abbrev kx26 : Str := ⟨⟨[nat_lit 119, nat_lit 104, nat_lit 97, nat_lit 116]⟩⟩
noncomputable abbrev kx27 : Str := ⟨⟨[nat_lit 97, nat_lit 116]⟩⟩
noncomputable abbrev kx28 : Str := ⟨⟨[nat_lit 108, nat_lit 101, nat_lit 100, nat_lit 103, nat_lit 101, nat_lit 114, nat_lit 115, nat_lit 112, nat_lit 101, nat_lit 97, nat_lit 107, nat_lit 46, nat_lit 99, nat_lit 111, nat_lit 112, nat_lit 121, nat_lit 105, nat_lit 110, nat_lit 103]⟩⟩
noncomputable abbrev kx29 : Str := ⟨⟨[nat_lit 67, nat_lit 111, nat_lit 112, nat_lit 121, nat_lit 70, nat_lit 97, nat_lit 117, nat_lit 108, nat_lit 116]⟩⟩
noncomputable abbrev kx30 : Str := ⟨⟨[nat_lit 87, nat_lit 97, nat_lit 108, nat_lit 107]⟩⟩
noncomputable abbrev kx31 : Str := ⟨⟨[nat_lit 116, nat_lit 97, nat_lit 107, nat_lit 101]⟩⟩
noncomputable abbrev kx32 : Str := ⟨⟨[nat_lit 87, nat_lit 97, nat_lit 108, nat_lit 107, nat_lit 46, nat_lit 116, nat_lit 97, nat_lit 107, nat_lit 101]⟩⟩
noncomputable abbrev kx33 : Str := ⟨⟨[nat_lit 102, nat_lit 97, nat_lit 117, nat_lit 108, nat_lit 116]⟩⟩
noncomputable abbrev kx34 : Str := ⟨⟨[nat_lit 87, nat_lit 97, nat_lit 108, nat_lit 107, nat_lit 46, nat_lit 102, nat_lit 97, nat_lit 117, nat_lit 108, nat_lit 116]⟩⟩
noncomputable abbrev kx35 : Str := ⟨⟨[nat_lit 107, nat_lit 105, nat_lit 110, nat_lit 100]⟩⟩
noncomputable abbrev kx36 : Str := ⟨⟨[nat_lit 119, nat_lit 111, nat_lit 114, nat_lit 116, nat_lit 104]⟩⟩
noncomputable abbrev kx37 : Str := ⟨⟨[nat_lit 116, nat_lit 111, nat_lit 107, nat_lit 101, nat_lit 110]⟩⟩
noncomputable abbrev kx38 : Str := ⟨⟨[nat_lit 112, nat_lit 101, nat_lit 101, nat_lit 107]⟩⟩
noncomputable abbrev kx39 : Str := ⟨⟨[nat_lit 87, nat_lit 97, nat_lit 108, nat_lit 107, nat_lit 46, nat_lit 112, nat_lit 101, nat_lit 101, nat_lit 107]⟩⟩
noncomputable abbrev kx40 : Str := ⟨⟨[nat_lit 105, nat_lit 115, nat_lit 95, nat_lit 100, nat_lit 111, nat_lit 110, nat_lit 101]⟩⟩
noncomputable abbrev kx41 : Str := ⟨⟨[nat_lit 87, nat_lit 97, nat_lit 108, nat_lit 107, nat_lit 46, nat_lit 105, nat_lit 115, nat_lit 95, nat_lit 100, nat_lit 111, nat_lit 110, nat_lit 101]⟩⟩
noncomputable abbrev kx42 : Str := ⟨⟨[nat_lit 95, nat_lit 95, nat_lit 100, nat_lit 105, nat_lit 99, nat_lit 116, nat_lit 95, nat_lit 95]⟩⟩
noncomputable abbrev kx43 : Str := ⟨⟨[nat_lit 115, nat_lit 107, nat_lit 105, nat_lit 112]⟩⟩
noncomputable abbrev kx44 : Str := ⟨⟨[nat_lit 87, nat_lit 97, nat_lit 108, nat_lit 107, nat_lit 46, nat_lit 115, nat_lit 107, nat_lit 105, nat_lit 112]⟩⟩
noncomputable abbrev kx45 : Str := ⟨⟨[nat_lit 115, nat_lit 116, nat_lit 97, nat_lit 110, nat_lit 100, nat_lit 115]⟩⟩
noncomputable abbrev kx46 : Str := ⟨⟨[nat_lit 87, nat_lit 97, nat_lit 108, nat_lit 107, nat_lit 46, nat_lit 115, nat_lit 116, nat_lit 97, nat_lit 110, nat_lit 100, nat_lit 115]⟩⟩
noncomputable abbrev kx47 : Str := ⟨⟨[nat_lit 110, nat_lit 101, nat_lit 101, nat_lit 100]⟩⟩
noncomputable abbrev kx48 : Str := ⟨⟨[nat_lit 87, nat_lit 97, nat_lit 108, nat_lit 107, nat_lit 46, nat_lit 95, nat_lit 95, nat_lit 105, nat_lit 110, nat_lit 105, nat_lit 116, nat_lit 95, nat_lit 95]⟩⟩
noncomputable abbrev kx49 : Str := ⟨⟨[nat_lit 87, nat_lit 97, nat_lit 108, nat_lit 107, nat_lit 46, nat_lit 110, nat_lit 101, nat_lit 101, nat_lit 100]⟩⟩
noncomputable abbrev kx50 : Str := ⟨⟨[nat_lit 116, nat_lit 111, nat_lit 107, nat_lit 101, nat_lit 110, nat_lit 115]⟩⟩
noncomputable abbrev kx51 : Str := ⟨⟨[nat_lit 108, nat_lit 101, nat_lit 100, nat_lit 103, nat_lit 101, nat_lit 114, nat_lit 115, nat_lit 112, nat_lit 101, nat_lit 97, nat_lit 107, nat_lit 46, nat_lit 116, nat_lit 111, nat_lit 107, nat_lit 101, nat_lit 110, nat_lit 115]⟩⟩
noncomputable abbrev kx52 : Str := ⟨⟨[nat_lit 114, nat_lit 101, nat_lit 97, nat_lit 100, nat_lit 95, nat_lit 112, nat_lit 115, nat_lit 101, nat_lit 117, nat_lit 100, nat_lit 111]⟩⟩
noncomputable abbrev kx53 : Str := ⟨⟨[nat_lit 114, nat_lit 101, nat_lit 97, nat_lit 100, nat_lit 95, nat_lit 115, nat_lit 105, nat_lit 100, nat_lit 101]⟩⟩
noncomputable abbrev kx54 : Str := ⟨⟨[nat_lit 114, nat_lit 101, nat_lit 97, nat_lit 100, nat_lit 95, nat_lit 112, nat_lit 97, nat_lit 105, nat_lit 114]⟩⟩
noncomputable abbrev kx55 : Str := ⟨⟨[nat_lit 114, nat_lit 101, nat_lit 97, nat_lit 100, nat_lit 95, nat_lit 112, nat_lit 97, nat_lit 105, nat_lit 114, nat_lit 115]⟩⟩
noncomputable abbrev kx56 : Str := ⟨⟨[nat_lit 114, nat_lit 101, nat_lit 97, nat_lit 100, nat_lit 95, nat_lit 99, nat_lit 111, nat_lit 112, nat_lit 121]⟩⟩
noncomputable abbrev kx57 : Str := ⟨⟨[nat_lit 119, nat_lit 97, nat_lit 108, nat_lit 107]⟩⟩
noncomputable abbrev kx58 : Str := ⟨⟨[nat_lit 114, nat_lit 101, nat_lit 97, nat_lit 100]⟩⟩
noncomputable abbrev kx59 : Str := ⟨⟨[nat_lit 109, nat_lit 97, nat_lit 114, nat_lit 107]⟩⟩
noncomputable abbrev kx60 : Str := ⟨⟨[nat_lit 111, nat_lit 108, nat_lit 100]⟩⟩
noncomputable abbrev kx61 : Str := ⟨⟨[nat_lit 102, nat_lit 111, nat_lit 117, nat_lit 110, nat_lit 100]⟩⟩
noncomputable abbrev kx62 : Str := ⟨⟨[nat_lit 112, nat_lit 97, nat_lit 105, nat_lit 114, nat_lit 115]⟩⟩
noncomputable abbrev kx63 : Str := ⟨⟨[nat_lit 108, nat_lit 97, nat_lit 119, nat_lit 95, nat_lit 112, nat_lit 113, nat_lit 48, nat_lit 54, nat_lit 54, nat_lit 55, nat_lit 95, nat_lit 48, nat_lit 49]⟩⟩
noncomputable abbrev kx64 : Str := ⟨⟨[nat_lit 84, nat_lit 111, nat_lit 107, nat_lit 101, nat_lit 110]⟩⟩
noncomputable abbrev kx65 : Str := ⟨⟨[nat_lit 95, nat_lit 108, nat_lit 97, nat_lit 119, nat_lit 95, nat_lit 116, nat_lit 97, nat_lit 107, nat_lit 101]⟩⟩
noncomputable abbrev kx66 : Str := ⟨⟨[nat_lit 95, nat_lit 108, nat_lit 97, nat_lit 119, nat_lit 95, nat_lit 98, nat_lit 97, nat_lit 103]⟩⟩
noncomputable abbrev kx67 : Str := ⟨⟨[nat_lit 95, nat_lit 108, nat_lit 97, nat_lit 119, nat_lit 95, nat_lit 115, nat_lit 105, nat_lit 110, nat_lit 103, nat_lit 108, nat_lit 101]⟩⟩
noncomputable abbrev kx68 : Str := ⟨⟨[nat_lit 95, nat_lit 108, nat_lit 97, nat_lit 119, nat_lit 95, nat_lit 115, nat_lit 105, nat_lit 100, nat_lit 101]⟩⟩
noncomputable abbrev kx69 : Str := ⟨⟨[nat_lit 84, nat_lit 111, nat_lit 107, nat_lit 101, nat_lit 110, nat_lit 46, nat_lit 95, nat_lit 95, nat_lit 105, nat_lit 110, nat_lit 105, nat_lit 116, nat_lit 95, nat_lit 95]⟩⟩
noncomputable abbrev kx70 : Str := ⟨⟨[nat_lit 84, nat_lit 111, nat_lit 107, nat_lit 101, nat_lit 110, nat_lit 46, nat_lit 116, nat_lit 111, nat_lit 108, nat_lit 100]⟩⟩
noncomputable abbrev kx71 : Str := ⟨⟨[nat_lit 115, nat_lit 99, nat_lit 114, nat_lit 105, nat_lit 112, nat_lit 116]⟩⟩
noncomputable abbrev kx72 : Str := ⟨⟨[nat_lit 110, nat_lit 117, nat_lit 109, nat_lit 98, nat_lit 101, nat_lit 114]⟩⟩
noncomputable abbrev kx73 : Str := ⟨⟨[nat_lit 99, nat_lit 101, nat_lit 108, nat_lit 108]⟩⟩
noncomputable abbrev kx74 : Str := ⟨⟨[nat_lit 105, nat_lit 115, nat_lit 95, nat_lit 105, nat_lit 110, nat_lit 95, nat_lit 97]⟩⟩
noncomputable abbrev kx75 : Str := ⟨⟨[nat_lit 98, nat_lit 97, nat_lit 103]⟩⟩
noncomputable abbrev kx76 : Str := ⟨⟨[nat_lit 109, nat_lit 97, nat_lit 110, nat_lit 121]⟩⟩
noncomputable abbrev kx77 : Str := ⟨⟨[nat_lit 95, nat_lit 108, nat_lit 97, nat_lit 119, nat_lit 95, nat_lit 114, nat_lit 111, nat_lit 119, nat_lit 115]⟩⟩
noncomputable abbrev kx78 : Str := ⟨⟨[nat_lit 95, nat_lit 108, nat_lit 97, nat_lit 119, nat_lit 95, nat_lit 111, nat_lit 110, nat_lit 101, nat_lit 95, nat_lit 115, nat_lit 105, nat_lit 100, nat_lit 101]⟩⟩
noncomputable abbrev kx79 : Str := ⟨⟨[nat_lit 95, nat_lit 108, nat_lit 97, nat_lit 119, nat_lit 95, nat_lit 100, nat_lit 117, nat_lit 101]⟩⟩
noncomputable abbrev kx80 : Str := ⟨⟨[nat_lit 95, nat_lit 108, nat_lit 97, nat_lit 119, nat_lit 95, nat_lit 112, nat_lit 108, nat_lit 97, nat_lit 105, nat_lit 110]⟩⟩
noncomputable abbrev kx81 : Str := ⟨⟨[nat_lit 95, nat_lit 108, nat_lit 97, nat_lit 119, nat_lit 95, nat_lit 104, nat_lit 101, nat_lit 97, nat_lit 114, nat_lit 100]⟩⟩
noncomputable abbrev kx82 : Str := ⟨⟨[nat_lit 95, nat_lit 108, nat_lit 97, nat_lit 119, nat_lit 95, nat_lit 119, nat_lit 114, nat_lit 105, nat_lit 116, nat_lit 116, nat_lit 101, nat_lit 110]⟩⟩
noncomputable abbrev kx83 : Str := ⟨⟨[nat_lit 95, nat_lit 108, nat_lit 97, nat_lit 119, nat_lit 95, nat_lit 99, nat_lit 117, nat_lit 116]⟩⟩
noncomputable abbrev kx84 : Str := ⟨⟨[nat_lit 108, nat_lit 97, nat_lit 119]⟩⟩
noncomputable abbrev kx85 : Str := ⟨⟨[nat_lit 114, nat_lit 111, nat_lit 119, nat_lit 115]⟩⟩
noncomputable abbrev kx86 : Str := ⟨⟨[nat_lit 101, nat_lit 110, nat_lit 100]⟩⟩
noncomputable abbrev kx87 : Str := ⟨⟨[nat_lit 119, nat_lit 111, nat_lit 114, nat_lit 100]⟩⟩
noncomputable abbrev kx88 : Str := ⟨⟨[nat_lit 116, nat_lit 101, nat_lit 120, nat_lit 116]⟩⟩
noncomputable abbrev kx89 : Str := ⟨⟨[nat_lit 100, nat_lit 117, nat_lit 101]⟩⟩
noncomputable abbrev kx90 : Str := ⟨⟨[nat_lit 116, nat_lit 117, nat_lit 114, nat_lit 110]⟩⟩
noncomputable abbrev kx91 : Str := ⟨⟨[nat_lit 119, nat_lit 97, nat_lit 121]⟩⟩
noncomputable abbrev kx92 : Str := ⟨⟨[nat_lit 115, nat_lit 112, nat_lit 111, nat_lit 116]⟩⟩
noncomputable abbrev kx93 : Str := ⟨⟨[nat_lit 109, nat_lit 111, nat_lit 114, nat_lit 101]⟩⟩
noncomputable abbrev kx94 : Str := ⟨⟨[nat_lit 110, nat_lit 97, nat_lit 109, nat_lit 101]⟩⟩
noncomputable abbrev kx95 : Str := ⟨⟨[nat_lit 98, nat_lit 101, nat_lit 103, nat_lit 117, nat_lit 110]⟩⟩
noncomputable abbrev kx96 : Str := ⟨⟨[nat_lit 110, nat_lit 101, nat_lit 119]⟩⟩
noncomputable def ho_539 (P : Params) : Obj := (PySem.Obj.mk (PySem.Value.type "tuple") Option.none (PySem.Data.seq ⟨[]⟩ (nat_lit 0)) ⟨[]⟩)
noncomputable def ho_540 (P : Params) : Obj := (PySem.Obj.mk PySem.Value.none Option.none (PySem.Data.fields ⟨[]⟩) ⟨[]⟩)
noncomputable def ho_541 (P : Params) : Obj := (PySem.Obj.mk (PySem.Value.type "code") Option.none (PySem.Data.fields ⟨[(PySem.Value.str kx0 (nat_lit 182)), (PySem.Value.str kx0 (nat_lit 183)), (PySem.Value.str kx1 (nat_lit 184)), (PySem.Value.int (Int.ofNat (nat_lit 1)) (nat_lit 0)), (PySem.Value.int (Int.ofNat (nat_lit 0)) (nat_lit 0)), (PySem.Value.int (Int.ofNat (nat_lit 0)) (nat_lit 0)), (PySem.Value.int (Int.ofNat (nat_lit 0)) (nat_lit 0)), (PySem.Value.int (Int.ofNat (nat_lit 0)) (nat_lit 0)), (PySem.Value.ref (nat_lit 11)), (PySem.Value.bool Bool.false), (PySem.Value.int (Int.ofNat (nat_lit 181)) (nat_lit 0)), (PySem.Value.ref (nat_lit 12)), PySem.Value.none, PySem.Value.none, PySem.Value.none, PySem.Value.none, (PySem.Value.int (Int.ofNat (nat_lit 185)) (nat_lit 0)), (PySem.Value.int (Int.ofNat (nat_lit 1)) (nat_lit 0)), (PySem.Value.str kx1 (nat_lit 186))]⟩) ⟨[]⟩)
noncomputable def ho_542 (P : Params) : Obj := (PySem.Obj.mk (PySem.Value.type "frame") Option.none PySem.Data.plain ⟨[(Option.some (PySem.Value.ref (nat_lit 13))), (Option.some (PySem.Value.ref (nat_lit 3))), (Option.some (PySem.Value.ref (nat_lit 3))), Option.none, (Option.some (PySem.Value.str kx2 (nat_lit 164))), Option.none, (Option.some (PySem.Value.ref (nat_lit 0)))]⟩)
noncomputable def ho_546 (P : Params) : Obj := (PySem.Obj.mk (PySem.Value.type "dict") Option.none (PySem.Data.dict ⟨[(PySem.DictEntry.mk (PyData.keyHash P kx3) (PySem.Value.str kx3 (nat_lit 165)) (PySem.Value.str kx4 (nat_lit 187))), (PySem.DictEntry.mk (PyData.keyHash P kx5) (PySem.Value.str kx5 (nat_lit 166)) PySem.Value.none), (PySem.DictEntry.mk (PyData.keyHash P kx6) (PySem.Value.str kx6 (nat_lit 167)) PySem.Value.none), (PySem.DictEntry.mk (PyData.keyHash P kx7) (PySem.Value.str kx7 (nat_lit 168)) (PySem.Value.builtin "__main__.__loader__#opaque")), (PySem.DictEntry.mk (PyData.keyHash P kx8) (PySem.Value.str kx8 (nat_lit 169)) PySem.Value.none), (PySem.DictEntry.mk (PyData.keyHash P kx9) (PySem.Value.str kx9 (nat_lit 170)) (PySem.Value.ref (nat_lit 6))), (PySem.DictEntry.mk (PyData.keyHash P kx10) (PySem.Value.str kx10 (nat_lit 171)) (PySem.Value.ref (nat_lit 4))), (PySem.DictEntry.mk (PyData.keyHash P kx11) (PySem.Value.str kx11 (nat_lit 173)) (PySem.Value.str kx1 (nat_lit 172))), (PySem.DictEntry.mk (PyData.keyHash P kx12) (PySem.Value.str kx12 (nat_lit 174)) PySem.Value.none), (PySem.DictEntry.mk (PyData.keyHash P kx13) (PySem.Value.str kx13 (nat_lit 228)) (PySem.Value.ref (nat_lit 40)))]⟩ (nat_lit 10)) ⟨[]⟩)
noncomputable def ho_548 (P : Params) : Obj := (PySem.Obj.mk (PySem.Value.type "tuple") Option.none (PySem.Data.seq ⟨[(PySem.Value.type "Exception")]⟩ (nat_lit 0)) ⟨[]⟩)
noncomputable def ho_564 (P : Params) : Obj := (PySem.Obj.mk (PySem.Value.type "tuple") Option.none (PySem.Data.seq ⟨[]⟩ (nat_lit 0)) ⟨[]⟩)
noncomputable def ho_556 (P : Params) : Obj := (PySem.Obj.mk (PySem.Value.type "tuple") Option.none (PySem.Data.seq ⟨[(PySem.Value.ref (nat_lit 22))]⟩ (nat_lit 0)) ⟨[]⟩)
noncomputable def ho_572 (P : Params) : Obj := (PySem.Obj.mk (PySem.Value.type "dict") Option.none (PySem.Data.dict ⟨[(PySem.DictEntry.mk (PyData.keyHash P kx14) (PySem.Value.str kx14 (nat_lit 196)) (PySem.Value.str kx4 (nat_lit 187))), (PySem.DictEntry.mk (PyData.keyHash P kx15) (PySem.Value.str kx15 (nat_lit 200)) (PySem.Value.int (Int.ofNat (nat_lit 2)) (nat_lit 199))), (PySem.DictEntry.mk (PyData.keyHash P kx16) (PySem.Value.str kx16 (nat_lit 211)) (PySem.Value.ref (nat_lit 30))), (PySem.DictEntry.mk (PyData.keyHash P kx17) (PySem.Value.str kx17 (nat_lit 218)) (PySem.Value.ref (nat_lit 37))), (PySem.DictEntry.mk (PyData.keyHash P kx18) (PySem.Value.str kx18 (nat_lit 221)) (PySem.Value.ref (nat_lit 38))), (PySem.DictEntry.mk (PyData.keyHash P kx19) (PySem.Value.str kx19 (nat_lit 223)) (PySem.Value.ref (nat_lit 41))), (PySem.DictEntry.mk (PyData.keyHash P kx5) (PySem.Value.str kx5 (nat_lit 224)) PySem.Value.none)]⟩ (nat_lit 3)) ⟨[]⟩)
noncomputable def ho_552 (P : Params) : Obj := (PySem.Obj.mk PySem.Value.none Option.none (PySem.Data.fields ⟨[(PySem.Value.int (Int.ofNat (nat_lit 4)) (nat_lit 0)), (PySem.Value.int (Int.ofNat (nat_lit 4)) (nat_lit 0)), (PySem.Value.ref (nat_lit 29)), (PySem.Value.int (Int.ofNat (nat_lit 9)) (nat_lit 0)), (PySem.Value.int (Int.ofNat (nat_lit 4)) (nat_lit 0)), (PySem.Value.ref (nat_lit 36))]⟩) ⟨[]⟩)
noncomputable def ho_568 (P : Params) : Obj := (PySem.Obj.mk PySem.Value.none Option.none (PySem.Data.func (PySem.FuncData.mk kx17 kx20 (fpS (inSt st1 1)) (fbS (inSt st1 1)) (fsS (inSt st1 1)) (nat_lit 0) [] PySem.Value.none PySem.Value.none PySem.Value.none PySem.Value.none Option.none PySem.Value.none PySem.Value.none (nat_lit 0))) ⟨[]⟩)
noncomputable def ho_560 (P : Params) : Obj := (PySem.Obj.mk (PySem.Value.type "tuple") Option.none (PySem.Data.seq ⟨[]⟩ (nat_lit 0)) ⟨[]⟩)
noncomputable def ho_576 (P : Params) : Obj := (PySem.Obj.mk (PySem.Value.type "builtin_function_or_method") Option.none (PySem.Data.fields ⟨[(PySem.Value.builtin "object.__init_subclass__"), (PySem.Value.ref (nat_lit 40))]⟩) ⟨[]⟩)
noncomputable def ho_550 (P : Params) : Obj := (PySem.Obj.mk (PySem.Value.type "dict") Option.none (PySem.Data.dict ⟨[(PySem.DictEntry.mk (PyData.keyHash P kx14) (PySem.Value.str kx14 (nat_lit 196)) (PySem.Value.str kx4 (nat_lit 187))), (PySem.DictEntry.mk (PyData.keyHash P kx21) (PySem.Value.str kx21 (nat_lit 198)) (PySem.Value.str kx13 (nat_lit 197))), (PySem.DictEntry.mk (PyData.keyHash P kx15) (PySem.Value.str kx15 (nat_lit 200)) (PySem.Value.int (Int.ofNat (nat_lit 2)) (nat_lit 199))), (PySem.DictEntry.mk (PyData.keyHash P kx16) (PySem.Value.str kx16 (nat_lit 211)) (PySem.Value.ref (nat_lit 30))), (PySem.DictEntry.mk (PyData.keyHash P kx17) (PySem.Value.str kx17 (nat_lit 218)) (PySem.Value.ref (nat_lit 37))), (PySem.DictEntry.mk (PyData.keyHash P kx18) (PySem.Value.str kx18 (nat_lit 221)) (PySem.Value.ref (nat_lit 38)))]⟩ (nat_lit 6)) ⟨[]⟩)
noncomputable def ho_566 (P : Params) : Obj := (PySem.Obj.mk (PySem.Value.type "tuple") Option.none (PySem.Data.seq ⟨[(PySem.Value.str kx22 (nat_lit 215))]⟩ (nat_lit 0)) ⟨[]⟩)
noncomputable def ho_558 (P : Params) : Obj := (PySem.Obj.mk PySem.Value.none Option.none (PySem.Data.fields ⟨[]⟩) ⟨[]⟩)
noncomputable def ho_574 (P : Params) : Obj := (PySem.Obj.mk (PySem.Value.type "getset_descriptor") Option.none (PySem.Data.fields ⟨[(PySem.Value.str kx19 (nat_lit 222)), (PySem.Value.ref (nat_lit 40)), (PySem.Value.builtin "ExceptionGroup.__weakref__"), PySem.Value.none]⟩) ⟨[]⟩)
noncomputable def ho_554 (P : Params) : Obj := (PySem.Obj.mk (PySem.Value.type "frame") Option.none PySem.Data.plain ⟨[(Option.some (PySem.Value.ref (nat_lit 20))), (Option.some (PySem.Value.ref (nat_lit 3))), (Option.some (PySem.Value.ref (nat_lit 17))), Option.none, (Option.some (PySem.Value.str kx4 (nat_lit 187))), Option.none, (Option.some (PySem.Value.ref (nat_lit 0)))]⟩)
noncomputable def ho_570 (P : Params) : Obj := ko37
noncomputable def ho_562 (P : Params) : Obj := (PySem.Obj.mk (PySem.Value.type "code") Option.none (PySem.Data.fields ⟨[(PySem.Value.str kx16 (nat_lit 203)), (PySem.Value.str kx23 (nat_lit 204)), (PySem.Value.str kx1 (nat_lit 205)), (PySem.Value.int (Int.ofNat (nat_lit 4)) (nat_lit 0)), (PySem.Value.int (Int.ofNat (nat_lit 3)) (nat_lit 0)), (PySem.Value.int (Int.ofNat (nat_lit 0)) (nat_lit 0)), (PySem.Value.int (Int.ofNat (nat_lit 0)) (nat_lit 0)), (PySem.Value.int (Int.ofNat (nat_lit 3)) (nat_lit 0)), (PySem.Value.ref (nat_lit 24)), (PySem.Value.bool Bool.true), (PySem.Value.int (Int.ofNat (nat_lit 181)) (nat_lit 0)), (PySem.Value.ref (nat_lit 25)), PySem.Value.none, (PySem.Value.ref (nat_lit 26)), (PySem.Value.ref (nat_lit 27)), (PySem.Value.ref (nat_lit 28)), (PySem.Value.int (Int.ofNat (nat_lit 209)) (nat_lit 0)), (PySem.Value.int (Int.ofNat (nat_lit 4)) (nat_lit 0)), (PySem.Value.str kx1 (nat_lit 210))]⟩) ⟨[]⟩)
noncomputable def ho_545 (P : Params) : Obj := (PySem.Obj.mk PySem.Value.none Option.none (PySem.Data.dict ⟨[(PySem.DictEntry.mk (PyData.keyHash P kx24) (PySem.Value.str kx24 (nat_lit 225)) (PySem.Value.int (Int.ofNat (nat_lit 40)) (nat_lit 0))), (PySem.DictEntry.mk (PyData.keyHash P kx25) (PySem.Value.str kx25 (nat_lit 226)) (PySem.Value.int (Int.ofNat (nat_lit 1)) (nat_lit 0)))]⟩ (nat_lit 2)) ⟨[]⟩)
noncomputable def ho_549 (P : Params) : Obj := (PySem.Obj.mk (PySem.Value.type "builtin_function_or_method") Option.none (PySem.Data.fields ⟨[(PySem.Value.builtin "type.__prepare__"), (PySem.Value.type "type")]⟩) ⟨[]⟩)
noncomputable def ho_565 (P : Params) : Obj := (PySem.Obj.mk PySem.Value.none Option.none (PySem.Data.fields ⟨[]⟩) ⟨[]⟩)
noncomputable def ho_557 (P : Params) : Obj := (PySem.Obj.mk (PySem.Value.type "tuple") Option.none (PySem.Data.seq ⟨[]⟩ (nat_lit 0)) ⟨[]⟩)
noncomputable def ho_573 (P : Params) : Obj := (PySem.Obj.mk (PySem.Value.type "type") Option.none (PySem.Data.cls (PySem.ClassData.mk kx13 [(PySem.Value.type "Exception")] [(PySem.Value.ref (nat_lit 40)), (PySem.Value.type "Exception"), (PySem.Value.type "BaseException"), (PySem.Value.type "object")] (nat_lit 39) kx13 Bool.true [] [] Bool.false Option.none Bool.false)) ⟨[(Option.some (PySem.Value.ref (nat_lit 15))), Option.none, (Option.some (PySem.Value.str kx13 (nat_lit 189))), (Option.some (PySem.Value.str kx13 (nat_lit 197))), (Option.some (PySem.Value.builtin "Exception.__new__")), (Option.some (PySem.Value.bool Bool.true))]⟩)
noncomputable def ho_547 (P : Params) : Obj := (PySem.Obj.mk PySem.Value.none Option.none (PySem.Data.fields ⟨[(PySem.Value.int (Int.ofNat (nat_lit 2)) (nat_lit 0)), (PySem.Value.int (Int.ofNat (nat_lit 0)) (nat_lit 0)), (PySem.Value.ref (nat_lit 20))]⟩) ⟨[]⟩)
noncomputable def ho_553 (P : Params) : Obj := (PySem.Obj.mk (PySem.Value.type "code") Option.none (PySem.Data.fields ⟨[(PySem.Value.str kx13 (nat_lit 191)), (PySem.Value.str kx13 (nat_lit 192)), (PySem.Value.str kx1 (nat_lit 193)), (PySem.Value.int (Int.ofNat (nat_lit 2)) (nat_lit 0)), (PySem.Value.int (Int.ofNat (nat_lit 0)) (nat_lit 0)), (PySem.Value.int (Int.ofNat (nat_lit 0)) (nat_lit 0)), (PySem.Value.int (Int.ofNat (nat_lit 0)) (nat_lit 0)), (PySem.Value.int (Int.ofNat (nat_lit 0)) (nat_lit 0)), (PySem.Value.ref (nat_lit 18)), (PySem.Value.bool Bool.false), (PySem.Value.int (Int.ofNat (nat_lit 181)) (nat_lit 0)), (PySem.Value.ref (nat_lit 19)), PySem.Value.none, PySem.Value.none, PySem.Value.none, PySem.Value.none, (PySem.Value.int (Int.ofNat (nat_lit 194)) (nat_lit 0)), (PySem.Value.int (Int.ofNat (nat_lit 2)) (nat_lit 0)), (PySem.Value.str kx1 (nat_lit 195))]⟩) ⟨[]⟩)
noncomputable def ho_569 (P : Params) : Obj := (PySem.Obj.mk (PySem.Value.type "code") Option.none (PySem.Data.fields ⟨[(PySem.Value.str kx17 (nat_lit 212)), (PySem.Value.str kx20 (nat_lit 213)), (PySem.Value.str kx1 (nat_lit 214)), (PySem.Value.int (Int.ofNat (nat_lit 9)) (nat_lit 0)), (PySem.Value.int (Int.ofNat (nat_lit 1)) (nat_lit 0)), (PySem.Value.int (Int.ofNat (nat_lit 0)) (nat_lit 0)), (PySem.Value.int (Int.ofNat (nat_lit 0)) (nat_lit 0)), (PySem.Value.int (Int.ofNat (nat_lit 3)) (nat_lit 0)), (PySem.Value.ref (nat_lit 31)), (PySem.Value.bool Bool.true), (PySem.Value.int (Int.ofNat (nat_lit 181)) (nat_lit 0)), (PySem.Value.ref (nat_lit 32)), PySem.Value.none, (PySem.Value.ref (nat_lit 33)), (PySem.Value.ref (nat_lit 34)), (PySem.Value.ref (nat_lit 35)), (PySem.Value.int (Int.ofNat (nat_lit 216)) (nat_lit 0)), (PySem.Value.int (Int.ofNat (nat_lit 9)) (nat_lit 0)), (PySem.Value.str kx1 (nat_lit 217))]⟩) ⟨[]⟩)
noncomputable def ho_561 (P : Params) : Obj := (PySem.Obj.mk PySem.Value.none Option.none (PySem.Data.func (PySem.FuncData.mk kx16 kx23 (fpS (inSt st1 0)) (fbS (inSt st1 0)) (fsS (inSt st1 0)) (nat_lit 0) [] PySem.Value.none PySem.Value.none PySem.Value.none PySem.Value.none Option.none PySem.Value.none PySem.Value.none (nat_lit 0))) ⟨[]⟩)
noncomputable def ho_551 (P : Params) : Obj := (PySem.Obj.mk (PySem.Value.type "tuple") Option.none (PySem.Data.seq ⟨[]⟩ (nat_lit 0)) ⟨[]⟩)
noncomputable def ho_567 (P : Params) : Obj := (PySem.Obj.mk (PySem.Value.type "tuple") Option.none (PySem.Data.seq ⟨[]⟩ (nat_lit 0)) ⟨[]⟩)
noncomputable def ho_559 (P : Params) : Obj := (PySem.Obj.mk (PySem.Value.type "tuple") Option.none (PySem.Data.seq ⟨[(PySem.Value.str kx22 (nat_lit 206)), (PySem.Value.str kx26 (nat_lit 207)), (PySem.Value.str kx27 (nat_lit 208))]⟩ (nat_lit 0)) ⟨[]⟩)
noncomputable def ho_575 (P : Params) : Obj := (PySem.Obj.mk (PySem.Value.type "super") Option.none (PySem.Data.fields ⟨[(PySem.Value.ref (nat_lit 40)), (PySem.Value.ref (nat_lit 40)), (PySem.Value.ref (nat_lit 40))]⟩) ⟨[]⟩)
noncomputable def ho_555 (P : Params) : Obj := (PySem.Obj.mk (PySem.Value.type "tuple") Option.none (PySem.Data.seq ⟨[(PySem.Value.int (Int.ofNat (nat_lit 0)) (nat_lit 201)), (PySem.Value.int (Int.ofNat (nat_lit 0)) (nat_lit 202))]⟩ (nat_lit 0)) ⟨[]⟩)
noncomputable def ho_571 (P : Params) : Obj := (PySem.Obj.mk (PySem.Value.type "tuple") Option.none (PySem.Data.seq ⟨[(PySem.Value.str kx27 (nat_lit 219)), (PySem.Value.str kx26 (nat_lit 220))]⟩ (nat_lit 0)) ⟨[]⟩)
noncomputable def ho_563 (P : Params) : Obj := ko30
noncomputable def ho_577 (P : Params) : Obj := (PySem.Obj.mk (PySem.Value.type "dict") Option.none (PySem.Data.dict ⟨[(PySem.DictEntry.mk (PyData.keyHash P kx3) (PySem.Value.str kx3 (nat_lit 165)) (PySem.Value.str kx28 (nat_lit 245))), (PySem.DictEntry.mk (PyData.keyHash P kx5) (PySem.Value.str kx5 (nat_lit 166)) PySem.Value.none), (PySem.DictEntry.mk (PyData.keyHash P kx6) (PySem.Value.str kx6 (nat_lit 167)) PySem.Value.none), (PySem.DictEntry.mk (PyData.keyHash P kx7) (PySem.Value.str kx7 (nat_lit 168)) (PySem.Value.builtin "__main__.__loader__#opaque")), (PySem.DictEntry.mk (PyData.keyHash P kx8) (PySem.Value.str kx8 (nat_lit 169)) PySem.Value.none), (PySem.DictEntry.mk (PyData.keyHash P kx9) (PySem.Value.str kx9 (nat_lit 170)) (PySem.Value.ref (nat_lit 6))), (PySem.DictEntry.mk (PyData.keyHash P kx10) (PySem.Value.str kx10 (nat_lit 171)) (PySem.Value.ref (nat_lit 4))), (PySem.DictEntry.mk (PyData.keyHash P kx11) (PySem.Value.str kx11 (nat_lit 173)) (PySem.Value.str kx1 (nat_lit 172))), (PySem.DictEntry.mk (PyData.keyHash P kx12) (PySem.Value.str kx12 (nat_lit 174)) PySem.Value.none), (PySem.DictEntry.mk (PyData.keyHash P kx13) (PySem.Value.str kx13 (nat_lit 228)) (PySem.Value.ref (nat_lit 40))), (PySem.DictEntry.mk (PyData.keyHash P kx29) (PySem.Value.str kx29 (nat_lit 244)) (PySem.Value.ref (nat_lit 53)))]⟩ (nat_lit 11)) ⟨[]⟩)
noncomputable def ho_583 (P : Params) : Obj := (PySem.Obj.mk (PySem.Value.type "tuple") Option.none (PySem.Data.seq ⟨[]⟩ (nat_lit 0)) ⟨[]⟩)
noncomputable def ho_591 (P : Params) : Obj := (PySem.Obj.mk (PySem.Value.type "builtin_function_or_method") Option.none (PySem.Data.fields ⟨[(PySem.Value.builtin "object.__init_subclass__"), (PySem.Value.ref (nat_lit 53))]⟩) ⟨[]⟩)
noncomputable def ho_587 (P : Params) : Obj := (PySem.Obj.mk (PySem.Value.type "tuple") Option.none (PySem.Data.seq ⟨[]⟩ (nat_lit 0)) ⟨[]⟩)
noncomputable def ho_585 (P : Params) : Obj := (PySem.Obj.mk (PySem.Value.type "code") Option.none (PySem.Data.fields ⟨[(PySem.Value.str kx29 (nat_lit 231)), (PySem.Value.str kx29 (nat_lit 232)), (PySem.Value.str kx1 (nat_lit 233)), (PySem.Value.int (Int.ofNat (nat_lit 11)) (nat_lit 0)), (PySem.Value.int (Int.ofNat (nat_lit 0)) (nat_lit 0)), (PySem.Value.int (Int.ofNat (nat_lit 0)) (nat_lit 0)), (PySem.Value.int (Int.ofNat (nat_lit 0)) (nat_lit 0)), (PySem.Value.int (Int.ofNat (nat_lit 0)) (nat_lit 0)), (PySem.Value.ref (nat_lit 47)), (PySem.Value.bool Bool.false), (PySem.Value.int (Int.ofNat (nat_lit 181)) (nat_lit 0)), (PySem.Value.ref (nat_lit 48)), PySem.Value.none, PySem.Value.none, PySem.Value.none, PySem.Value.none, (PySem.Value.int (Int.ofNat (nat_lit 234)) (nat_lit 0)), (PySem.Value.int (Int.ofNat (nat_lit 11)) (nat_lit 0)), (PySem.Value.str kx1 (nat_lit 235))]⟩) ⟨[]⟩)
noncomputable def ho_589 (P : Params) : Obj := (PySem.Obj.mk (PySem.Value.type "type") Option.none (PySem.Data.cls (PySem.ClassData.mk kx29 [(PySem.Value.ref (nat_lit 40))] [(PySem.Value.ref (nat_lit 53)), (PySem.Value.ref (nat_lit 40)), (PySem.Value.type "Exception"), (PySem.Value.type "BaseException"), (PySem.Value.type "object")] (nat_lit 52) kx29 Bool.true [] [] Bool.false Option.none Bool.false)) ⟨[(Option.some (PySem.Value.ref (nat_lit 44))), Option.none, (Option.some (PySem.Value.str kx29 (nat_lit 229))), (Option.some (PySem.Value.str kx29 (nat_lit 237))), (Option.some (PySem.Value.builtin "Exception.__new__")), (Option.some (PySem.Value.bool Bool.true))]⟩)
noncomputable def ho_581 (P : Params) : Obj := (PySem.Obj.mk (PySem.Value.type "builtin_function_or_method") Option.none (PySem.Data.fields ⟨[(PySem.Value.builtin "type.__prepare__"), (PySem.Value.type "type")]⟩) ⟨[]⟩)
noncomputable def ho_584 (P : Params) : Obj := (PySem.Obj.mk PySem.Value.none Option.none (PySem.Data.fields ⟨[]⟩) ⟨[]⟩)
noncomputable def ho_579 (P : Params) : Obj := (PySem.Obj.mk (PySem.Value.type "type") Option.none (PySem.Data.cls (PySem.ClassData.mk kx13 [(PySem.Value.type "Exception")] [(PySem.Value.ref (nat_lit 40)), (PySem.Value.type "Exception"), (PySem.Value.type "BaseException"), (PySem.Value.type "object")] (nat_lit 39) kx13 Bool.true [] [(PySem.Value.ref (nat_lit 53))] Bool.false Option.none Bool.false)) ⟨[(Option.some (PySem.Value.ref (nat_lit 15))), Option.none, (Option.some (PySem.Value.str kx13 (nat_lit 189))), (Option.some (PySem.Value.str kx13 (nat_lit 197))), (Option.some (PySem.Value.builtin "Exception.__new__")), (Option.some (PySem.Value.bool Bool.true))]⟩)
noncomputable def ho_578 (P : Params) : Obj := (PySem.Obj.mk PySem.Value.none Option.none (PySem.Data.fields ⟨[(PySem.Value.int (Int.ofNat (nat_lit 2)) (nat_lit 0)), (PySem.Value.int (Int.ofNat (nat_lit 0)) (nat_lit 0)), (PySem.Value.ref (nat_lit 20)), (PySem.Value.int (Int.ofNat (nat_lit 11)) (nat_lit 0)), (PySem.Value.int (Int.ofNat (nat_lit 0)) (nat_lit 0)), (PySem.Value.ref (nat_lit 49))]⟩) ⟨[]⟩)
noncomputable def ho_588 (P : Params) : Obj := (PySem.Obj.mk (PySem.Value.type "dict") Option.none (PySem.Data.dict ⟨[(PySem.DictEntry.mk (PyData.keyHash P kx14) (PySem.Value.str kx14 (nat_lit 236)) (PySem.Value.str kx4 (nat_lit 187))), (PySem.DictEntry.mk (PyData.keyHash P kx15) (PySem.Value.str kx15 (nat_lit 240)) (PySem.Value.int (Int.ofNat (nat_lit 11)) (nat_lit 239))), (PySem.DictEntry.mk (PyData.keyHash P kx18) (PySem.Value.str kx18 (nat_lit 241)) (PySem.Value.ref (nat_lit 51))), (PySem.DictEntry.mk (PyData.keyHash P kx5) (PySem.Value.str kx5 (nat_lit 242)) PySem.Value.none)]⟩ (nat_lit 2)) ⟨[]⟩)
noncomputable def ho_580 (P : Params) : Obj := (PySem.Obj.mk (PySem.Value.type "tuple") Option.none (PySem.Data.seq ⟨[(PySem.Value.ref (nat_lit 40))]⟩ (nat_lit 0)) ⟨[]⟩)
noncomputable def ho_586 (P : Params) : Obj := (PySem.Obj.mk (PySem.Value.type "frame") Option.none PySem.Data.plain ⟨[(Option.some (PySem.Value.ref (nat_lit 49))), (Option.some (PySem.Value.ref (nat_lit 3))), (Option.some (PySem.Value.ref (nat_lit 46))), Option.none, (Option.some (PySem.Value.str kx4 (nat_lit 187))), Option.none, (Option.some (PySem.Value.ref (nat_lit 0)))]⟩)
noncomputable def ho_590 (P : Params) : Obj := (PySem.Obj.mk (PySem.Value.type "super") Option.none (PySem.Data.fields ⟨[(PySem.Value.ref (nat_lit 53)), (PySem.Value.ref (nat_lit 53)), (PySem.Value.ref (nat_lit 53))]⟩) ⟨[]⟩)
noncomputable def ho_582 (P : Params) : Obj := (PySem.Obj.mk (PySem.Value.type "dict") Option.none (PySem.Data.dict ⟨[(PySem.DictEntry.mk (PyData.keyHash P kx14) (PySem.Value.str kx14 (nat_lit 236)) (PySem.Value.str kx4 (nat_lit 187))), (PySem.DictEntry.mk (PyData.keyHash P kx21) (PySem.Value.str kx21 (nat_lit 238)) (PySem.Value.str kx29 (nat_lit 237))), (PySem.DictEntry.mk (PyData.keyHash P kx15) (PySem.Value.str kx15 (nat_lit 240)) (PySem.Value.int (Int.ofNat (nat_lit 11)) (nat_lit 239))), (PySem.DictEntry.mk (PyData.keyHash P kx18) (PySem.Value.str kx18 (nat_lit 241)) (PySem.Value.ref (nat_lit 51)))]⟩ (nat_lit 4)) ⟨[]⟩)
noncomputable def ho_592 (P : Params) : Obj := (PySem.Obj.mk (PySem.Value.type "dict") Option.none (PySem.Data.dict ⟨[(PySem.DictEntry.mk (PyData.keyHash P kx3) (PySem.Value.str kx3 (nat_lit 165)) (PySem.Value.str kx28 (nat_lit 245))), (PySem.DictEntry.mk (PyData.keyHash P kx5) (PySem.Value.str kx5 (nat_lit 166)) PySem.Value.none), (PySem.DictEntry.mk (PyData.keyHash P kx6) (PySem.Value.str kx6 (nat_lit 167)) PySem.Value.none), (PySem.DictEntry.mk (PyData.keyHash P kx7) (PySem.Value.str kx7 (nat_lit 168)) (PySem.Value.builtin "__main__.__loader__#opaque")), (PySem.DictEntry.mk (PyData.keyHash P kx8) (PySem.Value.str kx8 (nat_lit 169)) PySem.Value.none), (PySem.DictEntry.mk (PyData.keyHash P kx9) (PySem.Value.str kx9 (nat_lit 170)) (PySem.Value.ref (nat_lit 6))), (PySem.DictEntry.mk (PyData.keyHash P kx10) (PySem.Value.str kx10 (nat_lit 171)) (PySem.Value.ref (nat_lit 4))), (PySem.DictEntry.mk (PyData.keyHash P kx11) (PySem.Value.str kx11 (nat_lit 173)) (PySem.Value.str kx1 (nat_lit 172))), (PySem.DictEntry.mk (PyData.keyHash P kx12) (PySem.Value.str kx12 (nat_lit 174)) PySem.Value.none), (PySem.DictEntry.mk (PyData.keyHash P kx13) (PySem.Value.str kx13 (nat_lit 228)) (PySem.Value.ref (nat_lit 40))), (PySem.DictEntry.mk (PyData.keyHash P kx29) (PySem.Value.str kx29 (nat_lit 244)) (PySem.Value.ref (nat_lit 53))), (PySem.DictEntry.mk (PyData.keyHash P kx30) (PySem.Value.str kx30 (nat_lit 337)) (PySem.Value.ref (nat_lit 122)))]⟩ (nat_lit 12)) ⟨[]⟩)
noncomputable def ho_601 (P : Params) : Obj := (PySem.Obj.mk (PySem.Value.type "tuple") Option.none (PySem.Data.seq ⟨[(PySem.Value.int (Int.ofNat (nat_lit 0)) (nat_lit 259))]⟩ (nat_lit 0)) ⟨[]⟩)
noncomputable def ho_633 (P : Params) : Obj := (PySem.Obj.mk (PySem.Value.type "tuple") Option.none (PySem.Data.seq ⟨[]⟩ (nat_lit 0)) ⟨[]⟩)
noncomputable def ho_617 (P : Params) : Obj := (PySem.Obj.mk PySem.Value.none Option.none (PySem.Data.fields ⟨[]⟩) ⟨[]⟩)
noncomputable def ho_649 (P : Params) : Obj := (PySem.Obj.mk (PySem.Value.type "code") Option.none (PySem.Data.fields ⟨[(PySem.Value.str kx31 (nat_lit 310)), (PySem.Value.str kx32 (nat_lit 311)), (PySem.Value.str kx1 (nat_lit 312)), (PySem.Value.int (Int.ofNat (nat_lit 41)) (nat_lit 0)), (PySem.Value.int (Int.ofNat (nat_lit 2)) (nat_lit 0)), (PySem.Value.int (Int.ofNat (nat_lit 0)) (nat_lit 0)), (PySem.Value.int (Int.ofNat (nat_lit 0)) (nat_lit 0)), (PySem.Value.int (Int.ofNat (nat_lit 3)) (nat_lit 0)), (PySem.Value.ref (nat_lit 106)), (PySem.Value.bool Bool.true), (PySem.Value.int (Int.ofNat (nat_lit 181)) (nat_lit 0)), (PySem.Value.ref (nat_lit 107)), PySem.Value.none, (PySem.Value.ref (nat_lit 108)), (PySem.Value.ref (nat_lit 109)), (PySem.Value.ref (nat_lit 110)), (PySem.Value.int (Int.ofNat (nat_lit 315)) (nat_lit 0)), (PySem.Value.int (Int.ofNat (nat_lit 41)) (nat_lit 0)), (PySem.Value.str kx1 (nat_lit 316))]⟩) ⟨[]⟩)
noncomputable def ho_609 (P : Params) : Obj := (PySem.Obj.mk (PySem.Value.type "tuple") Option.none (PySem.Data.seq ⟨[]⟩ (nat_lit 0)) ⟨[]⟩)
noncomputable def ho_641 (P : Params) : Obj := (PySem.Obj.mk PySem.Value.none Option.none (PySem.Data.func (PySem.FuncData.mk kx33 kx34 (fpS (inSt st4 5)) (fbS (inSt st4 5)) (fsS (inSt st4 5)) (nat_lit 0) [] PySem.Value.none PySem.Value.none PySem.Value.none PySem.Value.none Option.none PySem.Value.none PySem.Value.none (nat_lit 0))) ⟨[]⟩)
noncomputable def ho_625 (P : Params) : Obj := (PySem.Obj.mk (PySem.Value.type "tuple") Option.none (PySem.Data.seq ⟨[(PySem.Value.str kx22 (nat_lit 286)), (PySem.Value.str kx35 (nat_lit 287)), (PySem.Value.str kx36 (nat_lit 288)), (PySem.Value.str kx37 (nat_lit 289))]⟩ (nat_lit 0)) ⟨[]⟩)
noncomputable def ho_657 (P : Params) : Obj := ko119
noncomputable def ho_605 (P : Params) : Obj := (PySem.Obj.mk (PySem.Value.type "tuple") Option.none (PySem.Data.seq ⟨[]⟩ (nat_lit 0)) ⟨[]⟩)
noncomputable def ho_637 (P : Params) : Obj := (PySem.Obj.mk (PySem.Value.type "tuple") Option.none (PySem.Data.seq ⟨[]⟩ (nat_lit 0)) ⟨[]⟩)
noncomputable def ho_621 (P : Params) : Obj := (PySem.Obj.mk (PySem.Value.type "code") Option.none (PySem.Data.fields ⟨[(PySem.Value.str kx38 (nat_lit 276)), (PySem.Value.str kx39 (nat_lit 277)), (PySem.Value.str kx1 (nat_lit 278)), (PySem.Value.int (Int.ofNat (nat_lit 23)) (nat_lit 0)), (PySem.Value.int (Int.ofNat (nat_lit 1)) (nat_lit 0)), (PySem.Value.int (Int.ofNat (nat_lit 0)) (nat_lit 0)), (PySem.Value.int (Int.ofNat (nat_lit 0)) (nat_lit 0)), (PySem.Value.int (Int.ofNat (nat_lit 3)) (nat_lit 0)), (PySem.Value.ref (nat_lit 78)), (PySem.Value.bool Bool.true), (PySem.Value.int (Int.ofNat (nat_lit 181)) (nat_lit 0)), (PySem.Value.ref (nat_lit 79)), PySem.Value.none, (PySem.Value.ref (nat_lit 80)), (PySem.Value.ref (nat_lit 81)), (PySem.Value.ref (nat_lit 82)), (PySem.Value.int (Int.ofNat (nat_lit 280)) (nat_lit 0)), (PySem.Value.int (Int.ofNat (nat_lit 23)) (nat_lit 0)), (PySem.Value.str kx1 (nat_lit 281))]⟩) ⟨[]⟩)
noncomputable def ho_653 (P : Params) : Obj := (PySem.Obj.mk (PySem.Value.type "tuple") Option.none (PySem.Data.seq ⟨[(PySem.Value.str kx22 (nat_lit 321)), (PySem.Value.str kx35 (nat_lit 322)), (PySem.Value.str kx36 (nat_lit 323)), (PySem.Value.str kx26 (nat_lit 324))]⟩ (nat_lit 0)) ⟨[]⟩)
noncomputable def ho_613 (P : Params) : Obj := (PySem.Obj.mk PySem.Value.none Option.none (PySem.Data.func (PySem.FuncData.mk kx40 kx41 (fpS (inSt st4 1)) (fbS (inSt st4 1)) (fsS (inSt st4 1)) (nat_lit 0) [] PySem.Value.none PySem.Value.none PySem.Value.none PySem.Value.none Option.none PySem.Value.none PySem.Value.none (nat_lit 0))) ⟨[]⟩)
noncomputable def ho_645 (P : Params) : Obj := (PySem.Obj.mk PySem.Value.none Option.none (PySem.Data.fields ⟨[]⟩) ⟨[]⟩)
noncomputable def ho_597 (P : Params) : Obj := (PySem.Obj.mk (PySem.Value.type "tuple") Option.none (PySem.Data.seq ⟨[]⟩ (nat_lit 0)) ⟨[]⟩)
noncomputable def ho_629 (P : Params) : Obj := ko91
noncomputable def ho_661 (P : Params) : Obj := (PySem.Obj.mk (PySem.Value.type "getset_descriptor") Option.none (PySem.Data.fields ⟨[(PySem.Value.str kx42 (nat_lit 331)), (PySem.Value.ref (nat_lit 122)), (PySem.Value.builtin "function.__dict__"), (PySem.Value.builtin "function.__dict__#set")]⟩) ⟨[]⟩)
noncomputable def ho_603 (P : Params) : Obj := (PySem.Obj.mk PySem.Value.none Option.none (PySem.Data.fields ⟨[]⟩) ⟨[]⟩)
noncomputable def ho_635 (P : Params) : Obj := (PySem.Obj.mk (PySem.Value.type "code") Option.none (PySem.Data.fields ⟨[(PySem.Value.str kx43 (nat_lit 293)), (PySem.Value.str kx44 (nat_lit 294)), (PySem.Value.str kx1 (nat_lit 295)), (PySem.Value.int (Int.ofNat (nat_lit 30)) (nat_lit 0)), (PySem.Value.int (Int.ofNat (nat_lit 3)) (nat_lit 0)), (PySem.Value.int (Int.ofNat (nat_lit 0)) (nat_lit 0)), (PySem.Value.int (Int.ofNat (nat_lit 0)) (nat_lit 0)), (PySem.Value.int (Int.ofNat (nat_lit 3)) (nat_lit 0)), (PySem.Value.ref (nat_lit 92)), (PySem.Value.bool Bool.true), (PySem.Value.int (Int.ofNat (nat_lit 181)) (nat_lit 0)), (PySem.Value.ref (nat_lit 93)), PySem.Value.none, (PySem.Value.ref (nat_lit 94)), (PySem.Value.ref (nat_lit 95)), (PySem.Value.ref (nat_lit 96)), (PySem.Value.int (Int.ofNat (nat_lit 299)) (nat_lit 0)), (PySem.Value.int (Int.ofNat (nat_lit 30)) (nat_lit 0)), (PySem.Value.str kx1 (nat_lit 300))]⟩) ⟨[]⟩)
noncomputable def ho_619 (P : Params) : Obj := (PySem.Obj.mk (PySem.Value.type "tuple") Option.none (PySem.Data.seq ⟨[]⟩ (nat_lit 0)) ⟨[]⟩)
noncomputable def ho_651 (P : Params) : Obj := (PySem.Obj.mk (PySem.Value.type "tuple") Option.none (PySem.Data.seq ⟨[]⟩ (nat_lit 0)) ⟨[]⟩)
noncomputable def ho_611 (P : Params) : Obj := (PySem.Obj.mk (PySem.Value.type "tuple") Option.none (PySem.Data.seq ⟨[(PySem.Value.str kx22 (nat_lit 272))]⟩ (nat_lit 0)) ⟨[]⟩)
noncomputable def ho_643 (P : Params) : Obj := ko105
noncomputable def ho_595 (P : Params) : Obj := (PySem.Obj.mk (PySem.Value.type "builtin_function_or_method") Option.none (PySem.Data.fields ⟨[(PySem.Value.builtin "type.__prepare__"), (PySem.Value.type "type")]⟩) ⟨[]⟩)
noncomputable def ho_627 (P : Params) : Obj := (PySem.Obj.mk PySem.Value.none Option.none (PySem.Data.func (PySem.FuncData.mk kx45 kx46 (fpS (inSt st4 3)) (fbS (inSt st4 3)) (fsS (inSt st4 3)) (nat_lit 0) [] PySem.Value.none PySem.Value.none PySem.Value.none PySem.Value.none Option.none PySem.Value.none PySem.Value.none (nat_lit 0))) ⟨[]⟩)
noncomputable def ho_659 (P : Params) : Obj := (PySem.Obj.mk (PySem.Value.type "dict") Option.none (PySem.Data.dict ⟨[(PySem.DictEntry.mk (PyData.keyHash P kx14) (PySem.Value.str kx14 (nat_lit 254)) (PySem.Value.str kx28 (nat_lit 245))), (PySem.DictEntry.mk (PyData.keyHash P kx15) (PySem.Value.str kx15 (nat_lit 258)) (PySem.Value.int (Int.ofNat (nat_lit 14)) (nat_lit 257))), (PySem.DictEntry.mk (PyData.keyHash P kx16) (PySem.Value.str kx16 (nat_lit 268)) (PySem.Value.ref (nat_lit 70))), (PySem.DictEntry.mk (PyData.keyHash P kx40) (PySem.Value.str kx40 (nat_lit 275)) (PySem.Value.ref (nat_lit 77))), (PySem.DictEntry.mk (PyData.keyHash P kx38) (PySem.Value.str kx38 (nat_lit 282)) (PySem.Value.ref (nat_lit 84))), (PySem.DictEntry.mk (PyData.keyHash P kx45) (PySem.Value.str kx45 (nat_lit 292)) (PySem.Value.ref (nat_lit 91))), (PySem.DictEntry.mk (PyData.keyHash P kx43) (PySem.Value.str kx43 (nat_lit 301)) (PySem.Value.ref (nat_lit 98))), (PySem.DictEntry.mk (PyData.keyHash P kx33) (PySem.Value.str kx33 (nat_lit 309)) (PySem.Value.ref (nat_lit 105))), (PySem.DictEntry.mk (PyData.keyHash P kx31) (PySem.Value.str kx31 (nat_lit 317)) (PySem.Value.ref (nat_lit 112))), (PySem.DictEntry.mk (PyData.keyHash P kx47) (PySem.Value.str kx47 (nat_lit 327)) (PySem.Value.ref (nat_lit 119))), (PySem.DictEntry.mk (PyData.keyHash P kx18) (PySem.Value.str kx18 (nat_lit 330)) (PySem.Value.ref (nat_lit 120))), (PySem.DictEntry.mk (PyData.keyHash P kx42) (PySem.Value.str kx42 (nat_lit 332)) (PySem.Value.ref (nat_lit 123))), (PySem.DictEntry.mk (PyData.keyHash P kx19) (PySem.Value.str kx19 (nat_lit 334)) (PySem.Value.ref (nat_lit 124))), (PySem.DictEntry.mk (PyData.keyHash P kx5) (PySem.Value.str kx5 (nat_lit 335)) PySem.Value.none)]⟩ (nat_lit 4)) ⟨[]⟩)
noncomputable def ho_607 (P : Params) : Obj := (PySem.Obj.mk (PySem.Value.type "code") Option.none (PySem.Data.fields ⟨[(PySem.Value.str kx16 (nat_lit 260)), (PySem.Value.str kx48 (nat_lit 261)), (PySem.Value.str kx1 (nat_lit 262)), (PySem.Value.int (Int.ofNat (nat_lit 16)) (nat_lit 0)), (PySem.Value.int (Int.ofNat (nat_lit 3)) (nat_lit 0)), (PySem.Value.int (Int.ofNat (nat_lit 0)) (nat_lit 0)), (PySem.Value.int (Int.ofNat (nat_lit 0)) (nat_lit 0)), (PySem.Value.int (Int.ofNat (nat_lit 3)) (nat_lit 0)), (PySem.Value.ref (nat_lit 64)), (PySem.Value.bool Bool.true), (PySem.Value.int (Int.ofNat (nat_lit 181)) (nat_lit 0)), (PySem.Value.ref (nat_lit 65)), PySem.Value.none, (PySem.Value.ref (nat_lit 66)), (PySem.Value.ref (nat_lit 67)), (PySem.Value.ref (nat_lit 68)), (PySem.Value.int (Int.ofNat (nat_lit 266)) (nat_lit 0)), (PySem.Value.int (Int.ofNat (nat_lit 16)) (nat_lit 0)), (PySem.Value.str kx1 (nat_lit 267))]⟩) ⟨[]⟩)
noncomputable def ho_639 (P : Params) : Obj := (PySem.Obj.mk (PySem.Value.type "tuple") Option.none (PySem.Data.seq ⟨[(PySem.Value.str kx22 (nat_lit 305)), (PySem.Value.str kx26 (nat_lit 306))]⟩ (nat_lit 0)) ⟨[]⟩)
noncomputable def ho_623 (P : Params) : Obj := (PySem.Obj.mk (PySem.Value.type "tuple") Option.none (PySem.Data.seq ⟨[]⟩ (nat_lit 0)) ⟨[]⟩)
noncomputable def ho_655 (P : Params) : Obj := (PySem.Obj.mk PySem.Value.none Option.none (PySem.Data.func (PySem.FuncData.mk kx47 kx49 (PySem.Arguments.mk [] [(PySem.Arg.mk kx22 Option.none (PySem.Pos.mk (nat_lit 47) (nat_lit 13) (nat_lit 47) (nat_lit 17))), (PySem.Arg.mk kx35 Option.none (PySem.Pos.mk (nat_lit 47) (nat_lit 19) (nat_lit 47) (nat_lit 23))), (PySem.Arg.mk kx36 Option.none (PySem.Pos.mk (nat_lit 47) (nat_lit 25) (nat_lit 47) (nat_lit 30))), (PySem.Arg.mk kx26 Option.none (PySem.Pos.mk (nat_lit 47) (nat_lit 32) (nat_lit 47) (nat_lit 36)))] Option.none [] [] Option.none []) (PySem.FuncBody.stmts [(PySem.Stmt.If (PySem.Expr.UnaryOp PySem.UnaryOp.Not (PySem.Expr.Call (PySem.Expr.Attribute (PySem.Expr.Name kx22 (PySem.Pos.mk (nat_lit 48) (nat_lit 15) (nat_lit 48) (nat_lit 19))) kx43 (PySem.Pos.mk (nat_lit 48) (nat_lit 15) (nat_lit 48) (nat_lit 24))) [(PySem.Expr.Name kx35 (PySem.Pos.mk (nat_lit 48) (nat_lit 25) (nat_lit 48) (nat_lit 29))), (PySem.Expr.Name kx36 (PySem.Pos.mk (nat_lit 48) (nat_lit 31) (nat_lit 48) (nat_lit 36)))] [] (PySem.Pos.mk (nat_lit 48) (nat_lit 15) (nat_lit 48) (nat_lit 37))) (PySem.Pos.mk (nat_lit 48) (nat_lit 11) (nat_lit 48) (nat_lit 37))) [(PySem.Stmt.Raise (Option.some (PySem.Expr.Call (PySem.Expr.Attribute (PySem.Expr.Name kx22 (PySem.Pos.mk (nat_lit 49) (nat_lit 18) (nat_lit 49) (nat_lit 22))) kx33 (PySem.Pos.mk (nat_lit 49) (nat_lit 18) (nat_lit 49) (nat_lit 28))) [(PySem.Expr.Name kx26 (PySem.Pos.mk (nat_lit 49) (nat_lit 29) (nat_lit 49) (nat_lit 33)))] [] (PySem.Pos.mk (nat_lit 49) (nat_lit 18) (nat_lit 49) (nat_lit 34)))) Option.none (PySem.Pos.mk (nat_lit 49) (nat_lit 12) (nat_lit 49) (nat_lit 34)))] [] (PySem.Pos.mk (nat_lit 48) (nat_lit 8) (nat_lit 49) (nat_lit 34)))]) (PySem.Scope.mk PySem.ScopeKind.function [(Prod.mk kx22 PySem.NameKind.local), (Prod.mk kx35 PySem.NameKind.local), (Prod.mk kx36 PySem.NameKind.local), (Prod.mk kx26 PySem.NameKind.local)] Bool.false Bool.false []) (nat_lit 0) [] PySem.Value.none PySem.Value.none PySem.Value.none PySem.Value.none Option.none PySem.Value.none PySem.Value.none (nat_lit 0))) ⟨[]⟩)
noncomputable def ho_615 (P : Params) : Obj := ko77
noncomputable def ho_647 (P : Params) : Obj := (PySem.Obj.mk (PySem.Value.type "tuple") Option.none (PySem.Data.seq ⟨[]⟩ (nat_lit 0)) ⟨[]⟩)
noncomputable def ho_599 (P : Params) : Obj := (PySem.Obj.mk (PySem.Value.type "code") Option.none (PySem.Data.fields ⟨[(PySem.Value.str kx30 (nat_lit 249)), (PySem.Value.str kx30 (nat_lit 250)), (PySem.Value.str kx1 (nat_lit 251)), (PySem.Value.int (Int.ofNat (nat_lit 14)) (nat_lit 0)), (PySem.Value.int (Int.ofNat (nat_lit 0)) (nat_lit 0)), (PySem.Value.int (Int.ofNat (nat_lit 0)) (nat_lit 0)), (PySem.Value.int (Int.ofNat (nat_lit 0)) (nat_lit 0)), (PySem.Value.int (Int.ofNat (nat_lit 0)) (nat_lit 0)), (PySem.Value.ref (nat_lit 59)), (PySem.Value.bool Bool.false), (PySem.Value.int (Int.ofNat (nat_lit 181)) (nat_lit 0)), (PySem.Value.ref (nat_lit 60)), PySem.Value.none, PySem.Value.none, PySem.Value.none, PySem.Value.none, (PySem.Value.int (Int.ofNat (nat_lit 252)) (nat_lit 0)), (PySem.Value.int (Int.ofNat (nat_lit 14)) (nat_lit 0)), (PySem.Value.str kx1 (nat_lit 253))]⟩) ⟨[]⟩)
noncomputable def ho_631 (P : Params) : Obj := (PySem.Obj.mk PySem.Value.none Option.none (PySem.Data.fields ⟨[]⟩) ⟨[]⟩)
noncomputable def ho_663 (P : Params) : Obj := (PySem.Obj.mk (PySem.Value.type "super") Option.none (PySem.Data.fields ⟨[(PySem.Value.ref (nat_lit 122)), (PySem.Value.ref (nat_lit 122)), (PySem.Value.ref (nat_lit 122))]⟩) ⟨[]⟩)
noncomputable def ho_602 (P : Params) : Obj := (PySem.Obj.mk (PySem.Value.type "tuple") Option.none (PySem.Data.seq ⟨[]⟩ (nat_lit 0)) ⟨[]⟩)
noncomputable def ho_634 (P : Params) : Obj := (PySem.Obj.mk PySem.Value.none Option.none (PySem.Data.func (PySem.FuncData.mk kx43 kx44 (fpS (inSt st4 4)) (fbS (inSt st4 4)) (fsS (inSt st4 4)) (nat_lit 0) [] PySem.Value.none PySem.Value.none PySem.Value.none PySem.Value.none Option.none PySem.Value.none PySem.Value.none (nat_lit 0))) ⟨[]⟩)
noncomputable def ho_618 (P : Params) : Obj := (PySem.Obj.mk (PySem.Value.type "tuple") Option.none (PySem.Data.seq ⟨[(PySem.Value.str kx22 (nat_lit 279))]⟩ (nat_lit 0)) ⟨[]⟩)
noncomputable def ho_650 (P : Params) : Obj := ko112
noncomputable def ho_610 (P : Params) : Obj := (PySem.Obj.mk PySem.Value.none Option.none (PySem.Data.fields ⟨[]⟩) ⟨[]⟩)
noncomputable def ho_642 (P : Params) : Obj := (PySem.Obj.mk (PySem.Value.type "code") Option.none (PySem.Data.fields ⟨[(PySem.Value.str kx33 (nat_lit 302)), (PySem.Value.str kx34 (nat_lit 303)), (PySem.Value.str kx1 (nat_lit 304)), (PySem.Value.int (Int.ofNat (nat_lit 36)) (nat_lit 0)), (PySem.Value.int (Int.ofNat (nat_lit 2)) (nat_lit 0)), (PySem.Value.int (Int.ofNat (nat_lit 0)) (nat_lit 0)), (PySem.Value.int (Int.ofNat (nat_lit 0)) (nat_lit 0)), (PySem.Value.int (Int.ofNat (nat_lit 3)) (nat_lit 0)), (PySem.Value.ref (nat_lit 99)), (PySem.Value.bool Bool.true), (PySem.Value.int (Int.ofNat (nat_lit 181)) (nat_lit 0)), (PySem.Value.ref (nat_lit 100)), PySem.Value.none, (PySem.Value.ref (nat_lit 101)), (PySem.Value.ref (nat_lit 102)), (PySem.Value.ref (nat_lit 103)), (PySem.Value.int (Int.ofNat (nat_lit 307)) (nat_lit 0)), (PySem.Value.int (Int.ofNat (nat_lit 36)) (nat_lit 0)), (PySem.Value.str kx1 (nat_lit 308))]⟩) ⟨[]⟩)
noncomputable def ho_594 (P : Params) : Obj := (PySem.Obj.mk (PySem.Value.type "tuple") Option.none (PySem.Data.seq ⟨[]⟩ (nat_lit 0)) ⟨[]⟩)
noncomputable def ho_626 (P : Params) : Obj := (PySem.Obj.mk (PySem.Value.type "tuple") Option.none (PySem.Data.seq ⟨[]⟩ (nat_lit 0)) ⟨[]⟩)
noncomputable def ho_658 (P : Params) : Obj := (PySem.Obj.mk (PySem.Value.type "tuple") Option.none (PySem.Data.seq ⟨[(PySem.Value.str kx27 (nat_lit 328)), (PySem.Value.str kx50 (nat_lit 329))]⟩ (nat_lit 0)) ⟨[]⟩)
noncomputable def ho_593 (P : Params) : Obj := (PySem.Obj.mk PySem.Value.none Option.none (PySem.Data.fields ⟨[(PySem.Value.int (Int.ofNat (nat_lit 2)) (nat_lit 0)), (PySem.Value.int (Int.ofNat (nat_lit 0)) (nat_lit 0)), (PySem.Value.ref (nat_lit 20)), (PySem.Value.int (Int.ofNat (nat_lit 11)) (nat_lit 0)), (PySem.Value.int (Int.ofNat (nat_lit 0)) (nat_lit 0)), (PySem.Value.ref (nat_lit 49)), (PySem.Value.int (Int.ofNat (nat_lit 14)) (nat_lit 0)), (PySem.Value.int (Int.ofNat (nat_lit 0)) (nat_lit 0)), (PySem.Value.ref (nat_lit 61))]⟩) ⟨[]⟩)
noncomputable def ho_606 (P : Params) : Obj := (PySem.Obj.mk PySem.Value.none Option.none (PySem.Data.func (PySem.FuncData.mk kx16 kx48 (fpS (inSt st4 0)) (fbS (inSt st4 0)) (fsS (inSt st4 0)) (nat_lit 0) [] PySem.Value.none PySem.Value.none PySem.Value.none PySem.Value.none Option.none PySem.Value.none PySem.Value.none (nat_lit 0))) ⟨[]⟩)
noncomputable def ho_638 (P : Params) : Obj := (PySem.Obj.mk PySem.Value.none Option.none (PySem.Data.fields ⟨[]⟩) ⟨[]⟩)
noncomputable def ho_622 (P : Params) : Obj := ko84
noncomputable def ho_654 (P : Params) : Obj := (PySem.Obj.mk (PySem.Value.type "tuple") Option.none (PySem.Data.seq ⟨[]⟩ (nat_lit 0)) ⟨[]⟩)
noncomputable def ho_614 (P : Params) : Obj := (PySem.Obj.mk (PySem.Value.type "code") Option.none (PySem.Data.fields ⟨[(PySem.Value.str kx40 (nat_lit 269)), (PySem.Value.str kx41 (nat_lit 270)), (PySem.Value.str kx1 (nat_lit 271)), (PySem.Value.int (Int.ofNat (nat_lit 20)) (nat_lit 0)), (PySem.Value.int (Int.ofNat (nat_lit 1)) (nat_lit 0)), (PySem.Value.int (Int.ofNat (nat_lit 0)) (nat_lit 0)), (PySem.Value.int (Int.ofNat (nat_lit 0)) (nat_lit 0)), (PySem.Value.int (Int.ofNat (nat_lit 3)) (nat_lit 0)), (PySem.Value.ref (nat_lit 71)), (PySem.Value.bool Bool.true), (PySem.Value.int (Int.ofNat (nat_lit 181)) (nat_lit 0)), (PySem.Value.ref (nat_lit 72)), PySem.Value.none, (PySem.Value.ref (nat_lit 73)), (PySem.Value.ref (nat_lit 74)), (PySem.Value.ref (nat_lit 75)), (PySem.Value.int (Int.ofNat (nat_lit 273)) (nat_lit 0)), (PySem.Value.int (Int.ofNat (nat_lit 20)) (nat_lit 0)), (PySem.Value.str kx1 (nat_lit 274))]⟩) ⟨[]⟩)
noncomputable def ho_646 (P : Params) : Obj := (PySem.Obj.mk (PySem.Value.type "tuple") Option.none (PySem.Data.seq ⟨[(PySem.Value.str kx22 (nat_lit 313)), (PySem.Value.str kx26 (nat_lit 314))]⟩ (nat_lit 0)) ⟨[]⟩)
noncomputable def ho_598 (P : Params) : Obj := (PySem.Obj.mk PySem.Value.none Option.none (PySem.Data.fields ⟨[(PySem.Value.int (Int.ofNat (nat_lit 16)) (nat_lit 0)), (PySem.Value.int (Int.ofNat (nat_lit 4)) (nat_lit 0)), (PySem.Value.ref (nat_lit 69)), (PySem.Value.int (Int.ofNat (nat_lit 20)) (nat_lit 0)), (PySem.Value.int (Int.ofNat (nat_lit 4)) (nat_lit 0)), (PySem.Value.ref (nat_lit 76)), (PySem.Value.int (Int.ofNat (nat_lit 23)) (nat_lit 0)), (PySem.Value.int (Int.ofNat (nat_lit 4)) (nat_lit 0)), (PySem.Value.ref (nat_lit 83)), (PySem.Value.int (Int.ofNat (nat_lit 26)) (nat_lit 0)), (PySem.Value.int (Int.ofNat (nat_lit 4)) (nat_lit 0)), (PySem.Value.ref (nat_lit 90)), (PySem.Value.int (Int.ofNat (nat_lit 30)) (nat_lit 0)), (PySem.Value.int (Int.ofNat (nat_lit 4)) (nat_lit 0)), (PySem.Value.ref (nat_lit 97)), (PySem.Value.int (Int.ofNat (nat_lit 36)) (nat_lit 0)), (PySem.Value.int (Int.ofNat (nat_lit 4)) (nat_lit 0)), (PySem.Value.ref (nat_lit 104)), (PySem.Value.int (Int.ofNat (nat_lit 41)) (nat_lit 0)), (PySem.Value.int (Int.ofNat (nat_lit 4)) (nat_lit 0)), (PySem.Value.ref (nat_lit 111)), (PySem.Value.int (Int.ofNat (nat_lit 47)) (nat_lit 0)), (PySem.Value.int (Int.ofNat (nat_lit 4)) (nat_lit 0)), (PySem.Value.ref (nat_lit 118))]⟩) ⟨[]⟩)
noncomputable def ho_630 (P : Params) : Obj := (PySem.Obj.mk (PySem.Value.type "tuple") Option.none (PySem.Data.seq ⟨[]⟩ (nat_lit 0)) ⟨[]⟩)
noncomputable def ho_662 (P : Params) : Obj := (PySem.Obj.mk (PySem.Value.type "getset_descriptor") Option.none (PySem.Data.fields ⟨[(PySem.Value.str kx19 (nat_lit 333)), (PySem.Value.ref (nat_lit 122)), (PySem.Value.builtin "ExceptionGroup.__weakref__"), PySem.Value.none]⟩) ⟨[]⟩)
noncomputable def ho_604 (P : Params) : Obj := (PySem.Obj.mk (PySem.Value.type "tuple") Option.none (PySem.Data.seq ⟨[(PySem.Value.str kx22 (nat_lit 263)), (PySem.Value.str kx50 (nat_lit 264)), (PySem.Value.str kx27 (nat_lit 265))]⟩ (nat_lit 0)) ⟨[]⟩)
noncomputable def ho_636 (P : Params) : Obj := ko98
noncomputable def ho_620 (P : Params) : Obj := (PySem.Obj.mk PySem.Value.none Option.none (PySem.Data.func (PySem.FuncData.mk kx38 kx39 (fpS (inSt st4 2)) (fbS (inSt st4 2)) (fsS (inSt st1 1)) (nat_lit 0) [] PySem.Value.none PySem.Value.none PySem.Value.none PySem.Value.none Option.none PySem.Value.none PySem.Value.none (nat_lit 0))) ⟨[]⟩)
noncomputable def ho_652 (P : Params) : Obj := (PySem.Obj.mk PySem.Value.none Option.none (PySem.Data.fields ⟨[]⟩) ⟨[]⟩)
noncomputable def ho_612 (P : Params) : Obj := (PySem.Obj.mk (PySem.Value.type "tuple") Option.none (PySem.Data.seq ⟨[]⟩ (nat_lit 0)) ⟨[]⟩)
noncomputable def ho_644 (P : Params) : Obj := (PySem.Obj.mk (PySem.Value.type "tuple") Option.none (PySem.Data.seq ⟨[]⟩ (nat_lit 0)) ⟨[]⟩)
noncomputable def ho_596 (P : Params) : Obj := (PySem.Obj.mk (PySem.Value.type "dict") Option.none (PySem.Data.dict ⟨[(PySem.DictEntry.mk (PyData.keyHash P kx14) (PySem.Value.str kx14 (nat_lit 254)) (PySem.Value.str kx28 (nat_lit 245))), (PySem.DictEntry.mk (PyData.keyHash P kx21) (PySem.Value.str kx21 (nat_lit 256)) (PySem.Value.str kx30 (nat_lit 255))), (PySem.DictEntry.mk (PyData.keyHash P kx15) (PySem.Value.str kx15 (nat_lit 258)) (PySem.Value.int (Int.ofNat (nat_lit 14)) (nat_lit 257))), (PySem.DictEntry.mk (PyData.keyHash P kx16) (PySem.Value.str kx16 (nat_lit 268)) (PySem.Value.ref (nat_lit 70))), (PySem.DictEntry.mk (PyData.keyHash P kx40) (PySem.Value.str kx40 (nat_lit 275)) (PySem.Value.ref (nat_lit 77))), (PySem.DictEntry.mk (PyData.keyHash P kx38) (PySem.Value.str kx38 (nat_lit 282)) (PySem.Value.ref (nat_lit 84))), (PySem.DictEntry.mk (PyData.keyHash P kx45) (PySem.Value.str kx45 (nat_lit 292)) (PySem.Value.ref (nat_lit 91))), (PySem.DictEntry.mk (PyData.keyHash P kx43) (PySem.Value.str kx43 (nat_lit 301)) (PySem.Value.ref (nat_lit 98))), (PySem.DictEntry.mk (PyData.keyHash P kx33) (PySem.Value.str kx33 (nat_lit 309)) (PySem.Value.ref (nat_lit 105))), (PySem.DictEntry.mk (PyData.keyHash P kx31) (PySem.Value.str kx31 (nat_lit 317)) (PySem.Value.ref (nat_lit 112))), (PySem.DictEntry.mk (PyData.keyHash P kx47) (PySem.Value.str kx47 (nat_lit 327)) (PySem.Value.ref (nat_lit 119))), (PySem.DictEntry.mk (PyData.keyHash P kx18) (PySem.Value.str kx18 (nat_lit 330)) (PySem.Value.ref (nat_lit 120)))]⟩ (nat_lit 12)) ⟨[]⟩)
noncomputable def ho_628 (P : Params) : Obj := (PySem.Obj.mk (PySem.Value.type "code") Option.none (PySem.Data.fields ⟨[(PySem.Value.str kx45 (nat_lit 283)), (PySem.Value.str kx46 (nat_lit 284)), (PySem.Value.str kx1 (nat_lit 285)), (PySem.Value.int (Int.ofNat (nat_lit 26)) (nat_lit 0)), (PySem.Value.int (Int.ofNat (nat_lit 3)) (nat_lit 0)), (PySem.Value.int (Int.ofNat (nat_lit 0)) (nat_lit 0)), (PySem.Value.int (Int.ofNat (nat_lit 0)) (nat_lit 0)), (PySem.Value.int (Int.ofNat (nat_lit 3)) (nat_lit 0)), (PySem.Value.ref (nat_lit 85)), (PySem.Value.bool Bool.true), (PySem.Value.int (Int.ofNat (nat_lit 181)) (nat_lit 0)), (PySem.Value.ref (nat_lit 86)), PySem.Value.none, (PySem.Value.ref (nat_lit 87)), (PySem.Value.ref (nat_lit 88)), (PySem.Value.ref (nat_lit 89)), (PySem.Value.int (Int.ofNat (nat_lit 290)) (nat_lit 0)), (PySem.Value.int (Int.ofNat (nat_lit 26)) (nat_lit 0)), (PySem.Value.str kx1 (nat_lit 291))]⟩) ⟨[]⟩)
noncomputable def ho_660 (P : Params) : Obj := (PySem.Obj.mk (PySem.Value.type "type") Option.none (PySem.Data.cls (PySem.ClassData.mk kx30 [(PySem.Value.type "object")] [(PySem.Value.ref (nat_lit 122)), (PySem.Value.type "object")] (nat_lit 121) kx30 Bool.true [] [] Bool.false Option.none Bool.false)) ⟨[Option.none, Option.none, (Option.some (PySem.Value.str kx30 (nat_lit 247))), (Option.some (PySem.Value.str kx30 (nat_lit 255))), (Option.some (PySem.Value.builtin "object.__new__")), (Option.some (PySem.Value.bool Bool.true))]⟩)
noncomputable def ho_608 (P : Params) : Obj := ko70
noncomputable def ho_640 (P : Params) : Obj := (PySem.Obj.mk (PySem.Value.type "tuple") Option.none (PySem.Data.seq ⟨[]⟩ (nat_lit 0)) ⟨[]⟩)
noncomputable def ho_624 (P : Params) : Obj := (PySem.Obj.mk PySem.Value.none Option.none (PySem.Data.fields ⟨[]⟩) ⟨[]⟩)
noncomputable def ho_656 (P : Params) : Obj := (PySem.Obj.mk (PySem.Value.type "code") Option.none (PySem.Data.fields ⟨[(PySem.Value.str kx47 (nat_lit 318)), (PySem.Value.str kx49 (nat_lit 319)), (PySem.Value.str kx1 (nat_lit 320)), (PySem.Value.int (Int.ofNat (nat_lit 47)) (nat_lit 0)), (PySem.Value.int (Int.ofNat (nat_lit 4)) (nat_lit 0)), (PySem.Value.int (Int.ofNat (nat_lit 0)) (nat_lit 0)), (PySem.Value.int (Int.ofNat (nat_lit 0)) (nat_lit 0)), (PySem.Value.int (Int.ofNat (nat_lit 3)) (nat_lit 0)), (PySem.Value.ref (nat_lit 113)), (PySem.Value.bool Bool.true), (PySem.Value.int (Int.ofNat (nat_lit 181)) (nat_lit 0)), (PySem.Value.ref (nat_lit 114)), PySem.Value.none, (PySem.Value.ref (nat_lit 115)), (PySem.Value.ref (nat_lit 116)), (PySem.Value.ref (nat_lit 117)), (PySem.Value.int (Int.ofNat (nat_lit 325)) (nat_lit 0)), (PySem.Value.int (Int.ofNat (nat_lit 47)) (nat_lit 0)), (PySem.Value.str kx1 (nat_lit 326))]⟩) ⟨[]⟩)
noncomputable def ho_616 (P : Params) : Obj := (PySem.Obj.mk (PySem.Value.type "tuple") Option.none (PySem.Data.seq ⟨[]⟩ (nat_lit 0)) ⟨[]⟩)
noncomputable def ho_648 (P : Params) : Obj := (PySem.Obj.mk PySem.Value.none Option.none (PySem.Data.func (PySem.FuncData.mk kx31 kx32 (fpS (inSt st4 6)) (fbS (inSt st4 6)) (fsS (inSt st4 6)) (nat_lit 0) [] PySem.Value.none PySem.Value.none PySem.Value.none PySem.Value.none Option.none PySem.Value.none PySem.Value.none (nat_lit 0))) ⟨[]⟩)
noncomputable def ho_600 (P : Params) : Obj := (PySem.Obj.mk (PySem.Value.type "frame") Option.none PySem.Data.plain ⟨[(Option.some (PySem.Value.ref (nat_lit 61))), (Option.some (PySem.Value.ref (nat_lit 3))), (Option.some (PySem.Value.ref (nat_lit 58))), Option.none, (Option.some (PySem.Value.str kx28 (nat_lit 245))), Option.none, (Option.some (PySem.Value.ref (nat_lit 0)))]⟩)
noncomputable def ho_632 (P : Params) : Obj := (PySem.Obj.mk (PySem.Value.type "tuple") Option.none (PySem.Data.seq ⟨[(PySem.Value.str kx22 (nat_lit 296)), (PySem.Value.str kx35 (nat_lit 297)), (PySem.Value.str kx36 (nat_lit 298))]⟩ (nat_lit 0)) ⟨[]⟩)
noncomputable def ho_664 (P : Params) : Obj := (PySem.Obj.mk (PySem.Value.type "builtin_function_or_method") Option.none (PySem.Data.fields ⟨[(PySem.Value.builtin "object.__init_subclass__"), (PySem.Value.ref (nat_lit 122))]⟩) ⟨[]⟩)
noncomputable def ho_665 (P : Params) : Obj := (PySem.Obj.mk (PySem.Value.type "dict") Option.none (PySem.Data.dict ⟨[(PySem.DictEntry.mk (PyData.keyHash P kx3) (PySem.Value.str kx3 (nat_lit 165)) (PySem.Value.str kx51 (nat_lit 382))), (PySem.DictEntry.mk (PyData.keyHash P kx5) (PySem.Value.str kx5 (nat_lit 166)) PySem.Value.none), (PySem.DictEntry.mk (PyData.keyHash P kx6) (PySem.Value.str kx6 (nat_lit 167)) PySem.Value.none), (PySem.DictEntry.mk (PyData.keyHash P kx7) (PySem.Value.str kx7 (nat_lit 168)) (PySem.Value.builtin "__main__.__loader__#opaque")), (PySem.DictEntry.mk (PyData.keyHash P kx8) (PySem.Value.str kx8 (nat_lit 169)) PySem.Value.none), (PySem.DictEntry.mk (PyData.keyHash P kx9) (PySem.Value.str kx9 (nat_lit 170)) (PySem.Value.ref (nat_lit 6))), (PySem.DictEntry.mk (PyData.keyHash P kx10) (PySem.Value.str kx10 (nat_lit 171)) (PySem.Value.ref (nat_lit 4))), (PySem.DictEntry.mk (PyData.keyHash P kx11) (PySem.Value.str kx11 (nat_lit 173)) (PySem.Value.str kx1 (nat_lit 172))), (PySem.DictEntry.mk (PyData.keyHash P kx12) (PySem.Value.str kx12 (nat_lit 174)) PySem.Value.none), (PySem.DictEntry.mk (PyData.keyHash P kx13) (PySem.Value.str kx13 (nat_lit 228)) (PySem.Value.ref (nat_lit 40))), (PySem.DictEntry.mk (PyData.keyHash P kx29) (PySem.Value.str kx29 (nat_lit 244)) (PySem.Value.ref (nat_lit 53))), (PySem.DictEntry.mk (PyData.keyHash P kx30) (PySem.Value.str kx30 (nat_lit 337)) (PySem.Value.ref (nat_lit 122))), (PySem.DictEntry.mk (PyData.keyHash P kx52) (PySem.Value.str kx52 (nat_lit 346)) (PySem.Value.ref (nat_lit 133))), (PySem.DictEntry.mk (PyData.keyHash P kx53) (PySem.Value.str kx53 (nat_lit 354)) (PySem.Value.ref (nat_lit 140))), (PySem.DictEntry.mk (PyData.keyHash P kx54) (PySem.Value.str kx54 (nat_lit 364)) (PySem.Value.ref (nat_lit 147))), (PySem.DictEntry.mk (PyData.keyHash P kx55) (PySem.Value.str kx55 (nat_lit 373)) (PySem.Value.ref (nat_lit 154))), (PySem.DictEntry.mk (PyData.keyHash P kx56) (PySem.Value.str kx56 (nat_lit 381)) (PySem.Value.ref (nat_lit 161)))]⟩ (nat_lit 17)) ⟨[]⟩)
noncomputable def ho_667 (P : Params) : Obj := (PySem.Obj.mk (PySem.Value.type "tuple") Option.none (PySem.Data.seq ⟨[]⟩ (nat_lit 0)) ⟨[]⟩)
noncomputable def ho_699 (P : Params) : Obj := (PySem.Obj.mk PySem.Value.none Option.none (PySem.Data.func (PySem.FuncData.mk kx56 kx56 (fpS st9) (fbS st9) (fsS st9) (nat_lit 0) [] PySem.Value.none PySem.Value.none PySem.Value.none PySem.Value.none Option.none PySem.Value.none PySem.Value.none (nat_lit 0))) ⟨[]⟩)
noncomputable def ho_683 (P : Params) : Obj := (PySem.Obj.mk (PySem.Value.type "tuple") Option.none (PySem.Data.seq ⟨[(PySem.Value.str kx57 (nat_lit 358)), (PySem.Value.str kx58 (nat_lit 359)), (PySem.Value.str kx59 (nat_lit 360)), (PySem.Value.str kx60 (nat_lit 361))]⟩ (nat_lit 0)) ⟨[]⟩)
noncomputable def ho_675 (P : Params) : Obj := (PySem.Obj.mk PySem.Value.none Option.none (PySem.Data.fields ⟨[]⟩) ⟨[]⟩)
noncomputable def ho_691 (P : Params) : Obj := (PySem.Obj.mk (PySem.Value.type "tuple") Option.none (PySem.Data.seq ⟨[]⟩ (nat_lit 0)) ⟨[]⟩)
noncomputable def ho_671 (P : Params) : Obj := (PySem.Obj.mk PySem.Value.none Option.none (PySem.Data.func (PySem.FuncData.mk kx52 kx52 (fpS st5) (fbS st5) (fsS st5) (nat_lit 0) [] PySem.Value.none PySem.Value.none PySem.Value.none PySem.Value.none Option.none PySem.Value.none PySem.Value.none (nat_lit 0))) ⟨[]⟩)
noncomputable def ho_687 (P : Params) : Obj := ko147
noncomputable def ho_679 (P : Params) : Obj := (PySem.Obj.mk (PySem.Value.type "code") Option.none (PySem.Data.fields ⟨[(PySem.Value.str kx53 (nat_lit 347)), (PySem.Value.str kx53 (nat_lit 348)), (PySem.Value.str kx1 (nat_lit 349)), (PySem.Value.int (Int.ofNat (nat_lit 61)) (nat_lit 0)), (PySem.Value.int (Int.ofNat (nat_lit 1)) (nat_lit 0)), (PySem.Value.int (Int.ofNat (nat_lit 0)) (nat_lit 0)), (PySem.Value.int (Int.ofNat (nat_lit 0)) (nat_lit 0)), (PySem.Value.int (Int.ofNat (nat_lit 3)) (nat_lit 0)), (PySem.Value.ref (nat_lit 134)), (PySem.Value.bool Bool.true), (PySem.Value.int (Int.ofNat (nat_lit 181)) (nat_lit 0)), (PySem.Value.ref (nat_lit 135)), PySem.Value.none, (PySem.Value.ref (nat_lit 136)), (PySem.Value.ref (nat_lit 137)), (PySem.Value.ref (nat_lit 138)), (PySem.Value.int (Int.ofNat (nat_lit 352)) (nat_lit 0)), (PySem.Value.int (Int.ofNat (nat_lit 61)) (nat_lit 0)), (PySem.Value.str kx1 (nat_lit 353))]⟩) ⟨[]⟩)
noncomputable def ho_695 (P : Params) : Obj := (PySem.Obj.mk (PySem.Value.type "tuple") Option.none (PySem.Data.seq ⟨[]⟩ (nat_lit 0)) ⟨[]⟩)
noncomputable def ho_669 (P : Params) : Obj := (PySem.Obj.mk (PySem.Value.type "tuple") Option.none (PySem.Data.seq ⟨[(PySem.Value.str kx57 (nat_lit 341)), (PySem.Value.str kx61 (nat_lit 342)), (PySem.Value.str kx37 (nat_lit 343))]⟩ (nat_lit 0)) ⟨[]⟩)
noncomputable def ho_701 (P : Params) : Obj := ko161
noncomputable def ho_685 (P : Params) : Obj := (PySem.Obj.mk PySem.Value.none Option.none (PySem.Data.func (PySem.FuncData.mk kx54 kx54 (fpS st7) (fbS st7) (fsS st7) (nat_lit 0) [] PySem.Value.none PySem.Value.none PySem.Value.none PySem.Value.none Option.none PySem.Value.none PySem.Value.none (nat_lit 0))) ⟨[]⟩)
noncomputable def ho_677 (P : Params) : Obj := (PySem.Obj.mk (PySem.Value.type "tuple") Option.none (PySem.Data.seq ⟨[]⟩ (nat_lit 0)) ⟨[]⟩)
noncomputable def ho_693 (P : Params) : Obj := (PySem.Obj.mk (PySem.Value.type "code") Option.none (PySem.Data.fields ⟨[(PySem.Value.str kx55 (nat_lit 365)), (PySem.Value.str kx55 (nat_lit 366)), (PySem.Value.str kx1 (nat_lit 367)), (PySem.Value.int (Int.ofNat (nat_lit 77)) (nat_lit 0)), (PySem.Value.int (Int.ofNat (nat_lit 2)) (nat_lit 0)), (PySem.Value.int (Int.ofNat (nat_lit 0)) (nat_lit 0)), (PySem.Value.int (Int.ofNat (nat_lit 0)) (nat_lit 0)), (PySem.Value.int (Int.ofNat (nat_lit 3)) (nat_lit 0)), (PySem.Value.ref (nat_lit 148)), (PySem.Value.bool Bool.true), (PySem.Value.int (Int.ofNat (nat_lit 181)) (nat_lit 0)), (PySem.Value.ref (nat_lit 149)), PySem.Value.none, (PySem.Value.ref (nat_lit 150)), (PySem.Value.ref (nat_lit 151)), (PySem.Value.ref (nat_lit 152)), (PySem.Value.int (Int.ofNat (nat_lit 371)) (nat_lit 0)), (PySem.Value.int (Int.ofNat (nat_lit 77)) (nat_lit 0)), (PySem.Value.str kx1 (nat_lit 372))]⟩) ⟨[]⟩)
noncomputable def ho_673 (P : Params) : Obj := ko133
noncomputable def ho_689 (P : Params) : Obj := (PySem.Obj.mk PySem.Value.none Option.none (PySem.Data.fields ⟨[]⟩) ⟨[]⟩)
noncomputable def ho_681 (P : Params) : Obj := (PySem.Obj.mk (PySem.Value.type "tuple") Option.none (PySem.Data.seq ⟨[]⟩ (nat_lit 0)) ⟨[]⟩)
noncomputable def ho_697 (P : Params) : Obj := (PySem.Obj.mk (PySem.Value.type "tuple") Option.none (PySem.Data.seq ⟨[(PySem.Value.str kx57 (nat_lit 377)), (PySem.Value.str kx37 (nat_lit 378))]⟩ (nat_lit 0)) ⟨[]⟩)
noncomputable def ho_668 (P : Params) : Obj := (PySem.Obj.mk PySem.Value.none Option.none (PySem.Data.fields ⟨[]⟩) ⟨[]⟩)
noncomputable def ho_700 (P : Params) : Obj := (PySem.Obj.mk (PySem.Value.type "code") Option.none (PySem.Data.fields ⟨[(PySem.Value.str kx56 (nat_lit 374)), (PySem.Value.str kx56 (nat_lit 375)), (PySem.Value.str kx1 (nat_lit 376)), (PySem.Value.int (Int.ofNat (nat_lit 82)) (nat_lit 0)), (PySem.Value.int (Int.ofNat (nat_lit 1)) (nat_lit 0)), (PySem.Value.int (Int.ofNat (nat_lit 0)) (nat_lit 0)), (PySem.Value.int (Int.ofNat (nat_lit 0)) (nat_lit 0)), (PySem.Value.int (Int.ofNat (nat_lit 3)) (nat_lit 0)), (PySem.Value.ref (nat_lit 155)), (PySem.Value.bool Bool.true), (PySem.Value.int (Int.ofNat (nat_lit 181)) (nat_lit 0)), (PySem.Value.ref (nat_lit 156)), PySem.Value.none, (PySem.Value.ref (nat_lit 157)), (PySem.Value.ref (nat_lit 158)), (PySem.Value.ref (nat_lit 159)), (PySem.Value.int (Int.ofNat (nat_lit 379)) (nat_lit 0)), (PySem.Value.int (Int.ofNat (nat_lit 82)) (nat_lit 0)), (PySem.Value.str kx1 (nat_lit 380))]⟩) ⟨[]⟩)
noncomputable def ho_684 (P : Params) : Obj := (PySem.Obj.mk (PySem.Value.type "tuple") Option.none (PySem.Data.seq ⟨[]⟩ (nat_lit 0)) ⟨[]⟩)
noncomputable def ho_676 (P : Params) : Obj := (PySem.Obj.mk (PySem.Value.type "tuple") Option.none (PySem.Data.seq ⟨[(PySem.Value.str kx57 (nat_lit 350)), (PySem.Value.str kx37 (nat_lit 351))]⟩ (nat_lit 0)) ⟨[]⟩)
noncomputable def ho_692 (P : Params) : Obj := (PySem.Obj.mk PySem.Value.none Option.none (PySem.Data.func (PySem.FuncData.mk kx55 kx55 (fpS st8) (fbS st8) (fsS st8) (nat_lit 0) [] PySem.Value.none PySem.Value.none PySem.Value.none PySem.Value.none Option.none PySem.Value.none PySem.Value.none (nat_lit 0))) ⟨[]⟩)
noncomputable def ho_666 (P : Params) : Obj := (PySem.Obj.mk PySem.Value.none Option.none (PySem.Data.fields ⟨[(PySem.Value.int (Int.ofNat (nat_lit 2)) (nat_lit 0)), (PySem.Value.int (Int.ofNat (nat_lit 0)) (nat_lit 0)), (PySem.Value.ref (nat_lit 20)), (PySem.Value.int (Int.ofNat (nat_lit 11)) (nat_lit 0)), (PySem.Value.int (Int.ofNat (nat_lit 0)) (nat_lit 0)), (PySem.Value.ref (nat_lit 49)), (PySem.Value.int (Int.ofNat (nat_lit 14)) (nat_lit 0)), (PySem.Value.int (Int.ofNat (nat_lit 0)) (nat_lit 0)), (PySem.Value.ref (nat_lit 61)), (PySem.Value.int (Int.ofNat (nat_lit 50)) (nat_lit 0)), (PySem.Value.int (Int.ofNat (nat_lit 0)) (nat_lit 0)), (PySem.Value.ref (nat_lit 132)), (PySem.Value.int (Int.ofNat (nat_lit 61)) (nat_lit 0)), (PySem.Value.int (Int.ofNat (nat_lit 0)) (nat_lit 0)), (PySem.Value.ref (nat_lit 139)), (PySem.Value.int (Int.ofNat (nat_lit 69)) (nat_lit 0)), (PySem.Value.int (Int.ofNat (nat_lit 0)) (nat_lit 0)), (PySem.Value.ref (nat_lit 146)), (PySem.Value.int (Int.ofNat (nat_lit 77)) (nat_lit 0)), (PySem.Value.int (Int.ofNat (nat_lit 0)) (nat_lit 0)), (PySem.Value.ref (nat_lit 153)), (PySem.Value.int (Int.ofNat (nat_lit 82)) (nat_lit 0)), (PySem.Value.int (Int.ofNat (nat_lit 0)) (nat_lit 0)), (PySem.Value.ref (nat_lit 160))]⟩) ⟨[]⟩)
noncomputable def ho_672 (P : Params) : Obj := (PySem.Obj.mk (PySem.Value.type "code") Option.none (PySem.Data.fields ⟨[(PySem.Value.str kx52 (nat_lit 338)), (PySem.Value.str kx52 (nat_lit 339)), (PySem.Value.str kx1 (nat_lit 340)), (PySem.Value.int (Int.ofNat (nat_lit 50)) (nat_lit 0)), (PySem.Value.int (Int.ofNat (nat_lit 1)) (nat_lit 0)), (PySem.Value.int (Int.ofNat (nat_lit 0)) (nat_lit 0)), (PySem.Value.int (Int.ofNat (nat_lit 0)) (nat_lit 0)), (PySem.Value.int (Int.ofNat (nat_lit 3)) (nat_lit 0)), (PySem.Value.ref (nat_lit 127)), (PySem.Value.bool Bool.true), (PySem.Value.int (Int.ofNat (nat_lit 181)) (nat_lit 0)), (PySem.Value.ref (nat_lit 128)), PySem.Value.none, (PySem.Value.ref (nat_lit 129)), (PySem.Value.ref (nat_lit 130)), (PySem.Value.ref (nat_lit 131)), (PySem.Value.int (Int.ofNat (nat_lit 344)) (nat_lit 0)), (PySem.Value.int (Int.ofNat (nat_lit 50)) (nat_lit 0)), (PySem.Value.str kx1 (nat_lit 345))]⟩) ⟨[]⟩)
noncomputable def ho_688 (P : Params) : Obj := (PySem.Obj.mk (PySem.Value.type "tuple") Option.none (PySem.Data.seq ⟨[]⟩ (nat_lit 0)) ⟨[]⟩)
noncomputable def ho_680 (P : Params) : Obj := ko140
noncomputable def ho_696 (P : Params) : Obj := (PySem.Obj.mk PySem.Value.none Option.none (PySem.Data.fields ⟨[]⟩) ⟨[]⟩)
noncomputable def ho_670 (P : Params) : Obj := (PySem.Obj.mk (PySem.Value.type "tuple") Option.none (PySem.Data.seq ⟨[]⟩ (nat_lit 0)) ⟨[]⟩)
noncomputable def ho_686 (P : Params) : Obj := (PySem.Obj.mk (PySem.Value.type "code") Option.none (PySem.Data.fields ⟨[(PySem.Value.str kx54 (nat_lit 355)), (PySem.Value.str kx54 (nat_lit 356)), (PySem.Value.str kx1 (nat_lit 357)), (PySem.Value.int (Int.ofNat (nat_lit 69)) (nat_lit 0)), (PySem.Value.int (Int.ofNat (nat_lit 2)) (nat_lit 0)), (PySem.Value.int (Int.ofNat (nat_lit 0)) (nat_lit 0)), (PySem.Value.int (Int.ofNat (nat_lit 0)) (nat_lit 0)), (PySem.Value.int (Int.ofNat (nat_lit 3)) (nat_lit 0)), (PySem.Value.ref (nat_lit 141)), (PySem.Value.bool Bool.true), (PySem.Value.int (Int.ofNat (nat_lit 181)) (nat_lit 0)), (PySem.Value.ref (nat_lit 142)), PySem.Value.none, (PySem.Value.ref (nat_lit 143)), (PySem.Value.ref (nat_lit 144)), (PySem.Value.ref (nat_lit 145)), (PySem.Value.int (Int.ofNat (nat_lit 362)) (nat_lit 0)), (PySem.Value.int (Int.ofNat (nat_lit 69)) (nat_lit 0)), (PySem.Value.str kx1 (nat_lit 363))]⟩) ⟨[]⟩)
noncomputable def ho_678 (P : Params) : Obj := (PySem.Obj.mk PySem.Value.none Option.none (PySem.Data.func (PySem.FuncData.mk kx53 kx53 (fpS st6) (fbS st6) (fsS st6) (nat_lit 0) [] PySem.Value.none PySem.Value.none PySem.Value.none PySem.Value.none Option.none PySem.Value.none PySem.Value.none (nat_lit 0))) ⟨[]⟩)
noncomputable def ho_694 (P : Params) : Obj := ko154
noncomputable def ho_674 (P : Params) : Obj := (PySem.Obj.mk (PySem.Value.type "tuple") Option.none (PySem.Data.seq ⟨[]⟩ (nat_lit 0)) ⟨[]⟩)
noncomputable def ho_690 (P : Params) : Obj := (PySem.Obj.mk (PySem.Value.type "tuple") Option.none (PySem.Data.seq ⟨[(PySem.Value.str kx57 (nat_lit 368)), (PySem.Value.str kx58 (nat_lit 369)), (PySem.Value.str kx62 (nat_lit 370))]⟩ (nat_lit 0)) ⟨[]⟩)
noncomputable def ho_682 (P : Params) : Obj := (PySem.Obj.mk PySem.Value.none Option.none (PySem.Data.fields ⟨[]⟩) ⟨[]⟩)
noncomputable def ho_698 (P : Params) : Obj := (PySem.Obj.mk (PySem.Value.type "tuple") Option.none (PySem.Data.seq ⟨[]⟩ (nat_lit 0)) ⟨[]⟩)
noncomputable def ho_702 (P : Params) : Obj := (PySem.Obj.mk (PySem.Value.type "dict") Option.none (PySem.Data.dict ⟨[(PySem.DictEntry.mk (PyData.keyHash P kx3) (PySem.Value.str kx3 (nat_lit 165)) (PySem.Value.str kx63 (nat_lit 428))), (PySem.DictEntry.mk (PyData.keyHash P kx5) (PySem.Value.str kx5 (nat_lit 166)) PySem.Value.none), (PySem.DictEntry.mk (PyData.keyHash P kx6) (PySem.Value.str kx6 (nat_lit 167)) PySem.Value.none), (PySem.DictEntry.mk (PyData.keyHash P kx7) (PySem.Value.str kx7 (nat_lit 168)) (PySem.Value.builtin "__main__.__loader__#opaque")), (PySem.DictEntry.mk (PyData.keyHash P kx8) (PySem.Value.str kx8 (nat_lit 169)) PySem.Value.none), (PySem.DictEntry.mk (PyData.keyHash P kx9) (PySem.Value.str kx9 (nat_lit 170)) (PySem.Value.ref (nat_lit 6))), (PySem.DictEntry.mk (PyData.keyHash P kx10) (PySem.Value.str kx10 (nat_lit 171)) (PySem.Value.ref (nat_lit 4))), (PySem.DictEntry.mk (PyData.keyHash P kx11) (PySem.Value.str kx11 (nat_lit 173)) (PySem.Value.str kx1 (nat_lit 172))), (PySem.DictEntry.mk (PyData.keyHash P kx12) (PySem.Value.str kx12 (nat_lit 174)) PySem.Value.none), (PySem.DictEntry.mk (PyData.keyHash P kx13) (PySem.Value.str kx13 (nat_lit 228)) (PySem.Value.ref (nat_lit 40))), (PySem.DictEntry.mk (PyData.keyHash P kx29) (PySem.Value.str kx29 (nat_lit 244)) (PySem.Value.ref (nat_lit 53))), (PySem.DictEntry.mk (PyData.keyHash P kx30) (PySem.Value.str kx30 (nat_lit 337)) (PySem.Value.ref (nat_lit 122))), (PySem.DictEntry.mk (PyData.keyHash P kx52) (PySem.Value.str kx52 (nat_lit 346)) (PySem.Value.ref (nat_lit 133))), (PySem.DictEntry.mk (PyData.keyHash P kx53) (PySem.Value.str kx53 (nat_lit 354)) (PySem.Value.ref (nat_lit 140))), (PySem.DictEntry.mk (PyData.keyHash P kx54) (PySem.Value.str kx54 (nat_lit 364)) (PySem.Value.ref (nat_lit 147))), (PySem.DictEntry.mk (PyData.keyHash P kx55) (PySem.Value.str kx55 (nat_lit 373)) (PySem.Value.ref (nat_lit 154))), (PySem.DictEntry.mk (PyData.keyHash P kx56) (PySem.Value.str kx56 (nat_lit 381)) (PySem.Value.ref (nat_lit 161))), (PySem.DictEntry.mk (PyData.keyHash P kx64) (PySem.Value.str kx64 (nat_lit 427)) (PySem.Value.ref (nat_lit 187))), (PySem.DictEntry.mk (PyData.keyHash P kx65) (PySem.Value.str kx65 (nat_lit 438)) (PySem.Value.ref (nat_lit 198))), (PySem.DictEntry.mk (PyData.keyHash P kx66) (PySem.Value.str kx66 (nat_lit 447)) (PySem.Value.ref (nat_lit 205))), (PySem.DictEntry.mk (PyData.keyHash P kx67) (PySem.Value.str kx67 (nat_lit 454)) (PySem.Value.ref (nat_lit 212))), (PySem.DictEntry.mk (PyData.keyHash P kx68) (PySem.Value.str kx68 (nat_lit 460)) (PySem.Value.ref (nat_lit 217)))]⟩ (nat_lit 22)) ⟨[]⟩)
noncomputable def ho_733 (P : Params) : Obj := (PySem.Obj.mk (PySem.Value.type "builtin_function_or_method") Option.none (PySem.Data.fields ⟨[(PySem.Value.builtin "object.__init_subclass__"), (PySem.Value.ref (nat_lit 187))]⟩) ⟨[]⟩)
noncomputable def ho_749 (P : Params) : Obj := (PySem.Obj.mk PySem.Value.none Option.none (PySem.Data.fields ⟨[]⟩) ⟨[]⟩)
noncomputable def ho_717 (P : Params) : Obj := (PySem.Obj.mk PySem.Value.none Option.none (PySem.Data.func (PySem.FuncData.mk kx16 kx69 (fpS (inSt st11 0)) (fbS (inSt st11 0)) (fsS (inSt st11 0)) (nat_lit 0) [] PySem.Value.none PySem.Value.none PySem.Value.none PySem.Value.none Option.none PySem.Value.none PySem.Value.none (nat_lit 0))) ⟨[]⟩)
noncomputable def ho_741 (P : Params) : Obj := (PySem.Obj.mk (PySem.Value.type "tuple") Option.none (PySem.Data.seq ⟨[]⟩ (nat_lit 0)) ⟨[]⟩)
noncomputable def ho_709 (P : Params) : Obj := (PySem.Obj.mk (PySem.Value.type "code") Option.none (PySem.Data.fields ⟨[(PySem.Value.str kx64 (nat_lit 386)), (PySem.Value.str kx64 (nat_lit 387)), (PySem.Value.str kx1 (nat_lit 388)), (PySem.Value.int (Int.ofNat (nat_lit 94)) (nat_lit 0)), (PySem.Value.int (Int.ofNat (nat_lit 0)) (nat_lit 0)), (PySem.Value.int (Int.ofNat (nat_lit 0)) (nat_lit 0)), (PySem.Value.int (Int.ofNat (nat_lit 0)) (nat_lit 0)), (PySem.Value.int (Int.ofNat (nat_lit 0)) (nat_lit 0)), (PySem.Value.ref (nat_lit 165)), (PySem.Value.bool Bool.false), (PySem.Value.int (Int.ofNat (nat_lit 181)) (nat_lit 0)), (PySem.Value.ref (nat_lit 166)), PySem.Value.none, PySem.Value.none, PySem.Value.none, PySem.Value.none, (PySem.Value.int (Int.ofNat (nat_lit 389)) (nat_lit 0)), (PySem.Value.int (Int.ofNat (nat_lit 94)) (nat_lit 0)), (PySem.Value.str kx1 (nat_lit 390))]⟩) ⟨[]⟩)
noncomputable def ho_757 (P : Params) : Obj := (PySem.Obj.mk PySem.Value.none Option.none (PySem.Data.func (PySem.FuncData.mk kx68 kx68 (fpS st16) (fbS st16) (fsS st16) (nat_lit 0) [] PySem.Value.none PySem.Value.none PySem.Value.none PySem.Value.none Option.none PySem.Value.none PySem.Value.none (nat_lit 0))) ⟨[]⟩)
noncomputable def ho_725 (P : Params) : Obj := (PySem.Obj.mk (PySem.Value.type "code") Option.none (PySem.Data.fields ⟨[(PySem.Value.str kx17 (nat_lit 409)), (PySem.Value.str kx70 (nat_lit 410)), (PySem.Value.str kx1 (nat_lit 411)), (PySem.Value.int (Int.ofNat (nat_lit 102)) (nat_lit 0)), (PySem.Value.int (Int.ofNat (nat_lit 1)) (nat_lit 0)), (PySem.Value.int (Int.ofNat (nat_lit 0)) (nat_lit 0)), (PySem.Value.int (Int.ofNat (nat_lit 0)) (nat_lit 0)), (PySem.Value.int (Int.ofNat (nat_lit 3)) (nat_lit 0)), (PySem.Value.ref (nat_lit 178)), (PySem.Value.bool Bool.true), (PySem.Value.int (Int.ofNat (nat_lit 181)) (nat_lit 0)), (PySem.Value.ref (nat_lit 179)), PySem.Value.none, (PySem.Value.ref (nat_lit 180)), (PySem.Value.ref (nat_lit 181)), (PySem.Value.ref (nat_lit 182)), (PySem.Value.int (Int.ofNat (nat_lit 413)) (nat_lit 0)), (PySem.Value.int (Int.ofNat (nat_lit 102)) (nat_lit 0)), (PySem.Value.str kx1 (nat_lit 414))]⟩) ⟨[]⟩)
noncomputable def ho_737 (P : Params) : Obj := (PySem.Obj.mk (PySem.Value.type "tuple") Option.none (PySem.Data.seq ⟨[]⟩ (nat_lit 0)) ⟨[]⟩)
noncomputable def ho_705 (P : Params) : Obj := (PySem.Obj.mk (PySem.Value.type "builtin_function_or_method") Option.none (PySem.Data.fields ⟨[(PySem.Value.builtin "type.__prepare__"), (PySem.Value.type "type")]⟩) ⟨[]⟩)
noncomputable def ho_753 (P : Params) : Obj := (PySem.Obj.mk (PySem.Value.type "code") Option.none (PySem.Data.fields ⟨[(PySem.Value.str kx67 (nat_lit 448)), (PySem.Value.str kx67 (nat_lit 449)), (PySem.Value.str kx1 (nat_lit 450)), (PySem.Value.int (Int.ofNat (nat_lit 114)) (nat_lit 0)), (PySem.Value.int (Int.ofNat (nat_lit 1)) (nat_lit 0)), (PySem.Value.int (Int.ofNat (nat_lit 0)) (nat_lit 0)), (PySem.Value.int (Int.ofNat (nat_lit 0)) (nat_lit 0)), (PySem.Value.int (Int.ofNat (nat_lit 3)) (nat_lit 0)), (PySem.Value.ref (nat_lit 206)), (PySem.Value.bool Bool.true), (PySem.Value.int (Int.ofNat (nat_lit 181)) (nat_lit 0)), (PySem.Value.ref (nat_lit 207)), PySem.Value.none, (PySem.Value.ref (nat_lit 208)), (PySem.Value.ref (nat_lit 209)), (PySem.Value.ref (nat_lit 210)), (PySem.Value.int (Int.ofNat (nat_lit 452)) (nat_lit 0)), (PySem.Value.int (Int.ofNat (nat_lit 114)) (nat_lit 0)), (PySem.Value.str kx1 (nat_lit 453))]⟩) ⟨[]⟩)
noncomputable def ho_721 (P : Params) : Obj := (PySem.Obj.mk PySem.Value.none Option.none (PySem.Data.fields ⟨[]⟩) ⟨[]⟩)
noncomputable def ho_745 (P : Params) : Obj := (PySem.Obj.mk PySem.Value.none Option.none (PySem.Data.func (PySem.FuncData.mk kx66 kx66 (fpS st14) (fbS st14) (fsS st14) (nat_lit 0) [] PySem.Value.none PySem.Value.none PySem.Value.none PySem.Value.none Option.none PySem.Value.none PySem.Value.none (nat_lit 0))) ⟨[]⟩)
noncomputable def ho_713 (P : Params) : Obj := (PySem.Obj.mk (PySem.Value.type "tuple") Option.none (PySem.Data.seq ⟨[]⟩ (nat_lit 0)) ⟨[]⟩)
noncomputable def ho_729 (P : Params) : Obj := (PySem.Obj.mk (PySem.Value.type "type") Option.none (PySem.Data.cls (PySem.ClassData.mk kx64 [(PySem.Value.type "object")] [(PySem.Value.ref (nat_lit 187)), (PySem.Value.type "object")] (nat_lit 186) kx64 Bool.true [] [] Bool.false Option.none Bool.false)) ⟨[Option.none, Option.none, (Option.some (PySem.Value.str kx64 (nat_lit 384))), (Option.some (PySem.Value.str kx64 (nat_lit 392))), (Option.some (PySem.Value.builtin "object.__new__")), (Option.some (PySem.Value.bool Bool.true))]⟩)
noncomputable def ho_735 (P : Params) : Obj := (PySem.Obj.mk PySem.Value.none Option.none (PySem.Data.fields ⟨[]⟩) ⟨[]⟩)
noncomputable def ho_751 (P : Params) : Obj := (PySem.Obj.mk (PySem.Value.type "tuple") Option.none (PySem.Data.seq ⟨[]⟩ (nat_lit 0)) ⟨[]⟩)
noncomputable def ho_719 (P : Params) : Obj := ko177
noncomputable def ho_743 (P : Params) : Obj := (PySem.Obj.mk (PySem.Value.type "tuple") Option.none (PySem.Data.seq ⟨[(PySem.Value.str kx71 (nat_lit 442)), (PySem.Value.str kx72 (nat_lit 443)), (PySem.Value.str kx73 (nat_lit 444))]⟩ (nat_lit 0)) ⟨[]⟩)
noncomputable def ho_711 (P : Params) : Obj := (PySem.Obj.mk (PySem.Value.type "tuple") Option.none (PySem.Data.seq ⟨[(PySem.Value.int (Int.ofNat (nat_lit 0)) (nat_lit 396)), (PySem.Value.int (Int.ofNat (nat_lit 0)) (nat_lit 397))]⟩ (nat_lit 0)) ⟨[]⟩)
noncomputable def ho_759 (P : Params) : Obj := ko217
noncomputable def ho_727 (P : Params) : Obj := (PySem.Obj.mk (PySem.Value.type "tuple") Option.none (PySem.Data.seq ⟨[(PySem.Value.str kx27 (nat_lit 416)), (PySem.Value.str kx74 (nat_lit 417)), (PySem.Value.str kx35 (nat_lit 418)), (PySem.Value.str kx36 (nat_lit 419))]⟩ (nat_lit 0)) ⟨[]⟩)
noncomputable def ho_739 (P : Params) : Obj := (PySem.Obj.mk (PySem.Value.type "code") Option.none (PySem.Data.fields ⟨[(PySem.Value.str kx65 (nat_lit 430)), (PySem.Value.str kx65 (nat_lit 431)), (PySem.Value.str kx1 (nat_lit 432)), (PySem.Value.int (Int.ofNat (nat_lit 105)) (nat_lit 0)), (PySem.Value.int (Int.ofNat (nat_lit 2)) (nat_lit 0)), (PySem.Value.int (Int.ofNat (nat_lit 0)) (nat_lit 0)), (PySem.Value.int (Int.ofNat (nat_lit 0)) (nat_lit 0)), (PySem.Value.int (Int.ofNat (nat_lit 3)) (nat_lit 0)), (PySem.Value.ref (nat_lit 192)), (PySem.Value.bool Bool.true), (PySem.Value.int (Int.ofNat (nat_lit 181)) (nat_lit 0)), (PySem.Value.ref (nat_lit 193)), PySem.Value.none, (PySem.Value.ref (nat_lit 194)), (PySem.Value.ref (nat_lit 195)), (PySem.Value.ref (nat_lit 196)), (PySem.Value.int (Int.ofNat (nat_lit 436)) (nat_lit 0)), (PySem.Value.int (Int.ofNat (nat_lit 105)) (nat_lit 0)), (PySem.Value.str kx1 (nat_lit 437))]⟩) ⟨[]⟩)
noncomputable def ho_707 (P : Params) : Obj := (PySem.Obj.mk (PySem.Value.type "tuple") Option.none (PySem.Data.seq ⟨[]⟩ (nat_lit 0)) ⟨[]⟩)
noncomputable def ho_755 (P : Params) : Obj := (PySem.Obj.mk (PySem.Value.type "tuple") Option.none (PySem.Data.seq ⟨[]⟩ (nat_lit 0)) ⟨[]⟩)
noncomputable def ho_723 (P : Params) : Obj := (PySem.Obj.mk (PySem.Value.type "tuple") Option.none (PySem.Data.seq ⟨[]⟩ (nat_lit 0)) ⟨[]⟩)
noncomputable def ho_747 (P : Params) : Obj := ko205
noncomputable def ho_715 (P : Params) : Obj := (PySem.Obj.mk (PySem.Value.type "tuple") Option.none (PySem.Data.seq ⟨[(PySem.Value.str kx22 (nat_lit 401)), (PySem.Value.str kx35 (nat_lit 402)), (PySem.Value.str kx36 (nat_lit 403)), (PySem.Value.str kx27 (nat_lit 404)), (PySem.Value.str kx74 (nat_lit 405))]⟩ (nat_lit 0)) ⟨[]⟩)
noncomputable def ho_731 (P : Params) : Obj := (PySem.Obj.mk (PySem.Value.type "getset_descriptor") Option.none (PySem.Data.fields ⟨[(PySem.Value.str kx19 (nat_lit 423)), (PySem.Value.ref (nat_lit 187)), (PySem.Value.builtin "ExceptionGroup.__weakref__"), PySem.Value.none]⟩) ⟨[]⟩)
noncomputable def ho_734 (P : Params) : Obj := (PySem.Obj.mk (PySem.Value.type "tuple") Option.none (PySem.Data.seq ⟨[]⟩ (nat_lit 0)) ⟨[]⟩)
noncomputable def ho_750 (P : Params) : Obj := (PySem.Obj.mk (PySem.Value.type "tuple") Option.none (PySem.Data.seq ⟨[(PySem.Value.str kx75 (nat_lit 451))]⟩ (nat_lit 0)) ⟨[]⟩)
noncomputable def ho_718 (P : Params) : Obj := (PySem.Obj.mk (PySem.Value.type "code") Option.none (PySem.Data.fields ⟨[(PySem.Value.str kx16 (nat_lit 398)), (PySem.Value.str kx69 (nat_lit 399)), (PySem.Value.str kx1 (nat_lit 400)), (PySem.Value.int (Int.ofNat (nat_lit 96)) (nat_lit 0)), (PySem.Value.int (Int.ofNat (nat_lit 5)) (nat_lit 0)), (PySem.Value.int (Int.ofNat (nat_lit 0)) (nat_lit 0)), (PySem.Value.int (Int.ofNat (nat_lit 0)) (nat_lit 0)), (PySem.Value.int (Int.ofNat (nat_lit 3)) (nat_lit 0)), (PySem.Value.ref (nat_lit 171)), (PySem.Value.bool Bool.true), (PySem.Value.int (Int.ofNat (nat_lit 181)) (nat_lit 0)), (PySem.Value.ref (nat_lit 172)), PySem.Value.none, (PySem.Value.ref (nat_lit 173)), (PySem.Value.ref (nat_lit 174)), (PySem.Value.ref (nat_lit 175)), (PySem.Value.int (Int.ofNat (nat_lit 406)) (nat_lit 0)), (PySem.Value.int (Int.ofNat (nat_lit 96)) (nat_lit 0)), (PySem.Value.str kx1 (nat_lit 407))]⟩) ⟨[]⟩)
noncomputable def ho_742 (P : Params) : Obj := (PySem.Obj.mk PySem.Value.none Option.none (PySem.Data.fields ⟨[]⟩) ⟨[]⟩)
noncomputable def ho_710 (P : Params) : Obj := (PySem.Obj.mk (PySem.Value.type "frame") Option.none PySem.Data.plain ⟨[(Option.some (PySem.Value.ref (nat_lit 167))), (Option.some (PySem.Value.ref (nat_lit 3))), (Option.some (PySem.Value.ref (nat_lit 164))), Option.none, (Option.some (PySem.Value.str kx51 (nat_lit 382))), Option.none, (Option.some (PySem.Value.ref (nat_lit 0)))]⟩)
noncomputable def ho_758 (P : Params) : Obj := (PySem.Obj.mk (PySem.Value.type "code") Option.none (PySem.Data.fields ⟨[(PySem.Value.str kx68 (nat_lit 455)), (PySem.Value.str kx68 (nat_lit 456)), (PySem.Value.str kx1 (nat_lit 457)), (PySem.Value.int (Int.ofNat (nat_lit 116)) (nat_lit 0)), (PySem.Value.int (Int.ofNat (nat_lit 1)) (nat_lit 0)), (PySem.Value.int (Int.ofNat (nat_lit 0)) (nat_lit 0)), (PySem.Value.int (Int.ofNat (nat_lit 0)) (nat_lit 0)), (PySem.Value.int (Int.ofNat (nat_lit 3)) (nat_lit 0)), (PySem.Value.ref (nat_lit 213)), (PySem.Value.bool Bool.true), (PySem.Value.int (Int.ofNat (nat_lit 181)) (nat_lit 0)), (PySem.Value.ref (nat_lit 214)), PySem.Value.none, PySem.Value.none, PySem.Value.none, (PySem.Value.ref (nat_lit 215)), (PySem.Value.int (Int.ofNat (nat_lit 458)) (nat_lit 0)), (PySem.Value.int (Int.ofNat (nat_lit 116)) (nat_lit 0)), (PySem.Value.str kx1 (nat_lit 459))]⟩) ⟨[]⟩)
noncomputable def ho_726 (P : Params) : Obj := ko184
noncomputable def ho_703 (P : Params) : Obj := (PySem.Obj.mk PySem.Value.none Option.none (PySem.Data.fields ⟨[(PySem.Value.int (Int.ofNat (nat_lit 2)) (nat_lit 0)), (PySem.Value.int (Int.ofNat (nat_lit 0)) (nat_lit 0)), (PySem.Value.ref (nat_lit 20)), (PySem.Value.int (Int.ofNat (nat_lit 11)) (nat_lit 0)), (PySem.Value.int (Int.ofNat (nat_lit 0)) (nat_lit 0)), (PySem.Value.ref (nat_lit 49)), (PySem.Value.int (Int.ofNat (nat_lit 14)) (nat_lit 0)), (PySem.Value.int (Int.ofNat (nat_lit 0)) (nat_lit 0)), (PySem.Value.ref (nat_lit 61)), (PySem.Value.int (Int.ofNat (nat_lit 50)) (nat_lit 0)), (PySem.Value.int (Int.ofNat (nat_lit 0)) (nat_lit 0)), (PySem.Value.ref (nat_lit 132)), (PySem.Value.int (Int.ofNat (nat_lit 61)) (nat_lit 0)), (PySem.Value.int (Int.ofNat (nat_lit 0)) (nat_lit 0)), (PySem.Value.ref (nat_lit 139)), (PySem.Value.int (Int.ofNat (nat_lit 69)) (nat_lit 0)), (PySem.Value.int (Int.ofNat (nat_lit 0)) (nat_lit 0)), (PySem.Value.ref (nat_lit 146)), (PySem.Value.int (Int.ofNat (nat_lit 77)) (nat_lit 0)), (PySem.Value.int (Int.ofNat (nat_lit 0)) (nat_lit 0)), (PySem.Value.ref (nat_lit 153)), (PySem.Value.int (Int.ofNat (nat_lit 82)) (nat_lit 0)), (PySem.Value.int (Int.ofNat (nat_lit 0)) (nat_lit 0)), (PySem.Value.ref (nat_lit 160)), (PySem.Value.int (Int.ofNat (nat_lit 94)) (nat_lit 0)), (PySem.Value.int (Int.ofNat (nat_lit 0)) (nat_lit 0)), (PySem.Value.ref (nat_lit 167)), (PySem.Value.int (Int.ofNat (nat_lit 105)) (nat_lit 0)), (PySem.Value.int (Int.ofNat (nat_lit 0)) (nat_lit 0)), (PySem.Value.ref (nat_lit 197)), (PySem.Value.int (Int.ofNat (nat_lit 109)) (nat_lit 0)), (PySem.Value.int (Int.ofNat (nat_lit 0)) (nat_lit 0)), (PySem.Value.ref (nat_lit 204)), (PySem.Value.int (Int.ofNat (nat_lit 114)) (nat_lit 0)), (PySem.Value.int (Int.ofNat (nat_lit 0)) (nat_lit 0)), (PySem.Value.ref (nat_lit 211)), (PySem.Value.int (Int.ofNat (nat_lit 116)) (nat_lit 0)), (PySem.Value.int (Int.ofNat (nat_lit 0)) (nat_lit 0)), (PySem.Value.ref (nat_lit 216))]⟩) ⟨[]⟩)
noncomputable def ho_738 (P : Params) : Obj := (PySem.Obj.mk PySem.Value.none Option.none (PySem.Data.func (PySem.FuncData.mk kx65 kx65 (fpS st13) (fbS st13) (fsS st13) (nat_lit 0) [] PySem.Value.none PySem.Value.none PySem.Value.none PySem.Value.none Option.none PySem.Value.none PySem.Value.none (nat_lit 0))) ⟨[]⟩)
noncomputable def ho_706 (P : Params) : Obj := (PySem.Obj.mk (PySem.Value.type "dict") Option.none (PySem.Data.dict ⟨[(PySem.DictEntry.mk (PyData.keyHash P kx14) (PySem.Value.str kx14 (nat_lit 391)) (PySem.Value.str kx51 (nat_lit 382))), (PySem.DictEntry.mk (PyData.keyHash P kx21) (PySem.Value.str kx21 (nat_lit 393)) (PySem.Value.str kx64 (nat_lit 392))), (PySem.DictEntry.mk (PyData.keyHash P kx15) (PySem.Value.str kx15 (nat_lit 395)) (PySem.Value.int (Int.ofNat (nat_lit 94)) (nat_lit 394))), (PySem.DictEntry.mk (PyData.keyHash P kx16) (PySem.Value.str kx16 (nat_lit 408)) (PySem.Value.ref (nat_lit 177))), (PySem.DictEntry.mk (PyData.keyHash P kx17) (PySem.Value.str kx17 (nat_lit 415)) (PySem.Value.ref (nat_lit 184))), (PySem.DictEntry.mk (PyData.keyHash P kx18) (PySem.Value.str kx18 (nat_lit 420)) (PySem.Value.ref (nat_lit 185)))]⟩ (nat_lit 6)) ⟨[]⟩)
noncomputable def ho_754 (P : Params) : Obj := ko212
noncomputable def ho_722 (P : Params) : Obj := (PySem.Obj.mk (PySem.Value.type "tuple") Option.none (PySem.Data.seq ⟨[(PySem.Value.str kx22 (nat_lit 412))]⟩ (nat_lit 0)) ⟨[]⟩)
noncomputable def ho_746 (P : Params) : Obj := (PySem.Obj.mk (PySem.Value.type "code") Option.none (PySem.Data.fields ⟨[(PySem.Value.str kx66 (nat_lit 439)), (PySem.Value.str kx66 (nat_lit 440)), (PySem.Value.str kx1 (nat_lit 441)), (PySem.Value.int (Int.ofNat (nat_lit 109)) (nat_lit 0)), (PySem.Value.int (Int.ofNat (nat_lit 1)) (nat_lit 0)), (PySem.Value.int (Int.ofNat (nat_lit 0)) (nat_lit 0)), (PySem.Value.int (Int.ofNat (nat_lit 0)) (nat_lit 0)), (PySem.Value.int (Int.ofNat (nat_lit 3)) (nat_lit 0)), (PySem.Value.ref (nat_lit 199)), (PySem.Value.bool Bool.true), (PySem.Value.int (Int.ofNat (nat_lit 181)) (nat_lit 0)), (PySem.Value.ref (nat_lit 200)), PySem.Value.none, (PySem.Value.ref (nat_lit 201)), (PySem.Value.ref (nat_lit 202)), (PySem.Value.ref (nat_lit 203)), (PySem.Value.int (Int.ofNat (nat_lit 445)) (nat_lit 0)), (PySem.Value.int (Int.ofNat (nat_lit 109)) (nat_lit 0)), (PySem.Value.str kx1 (nat_lit 446))]⟩) ⟨[]⟩)
noncomputable def ho_714 (P : Params) : Obj := (PySem.Obj.mk PySem.Value.none Option.none (PySem.Data.fields ⟨[]⟩) ⟨[]⟩)
noncomputable def ho_730 (P : Params) : Obj := (PySem.Obj.mk (PySem.Value.type "getset_descriptor") Option.none (PySem.Data.fields ⟨[(PySem.Value.str kx42 (nat_lit 421)), (PySem.Value.ref (nat_lit 187)), (PySem.Value.builtin "function.__dict__"), (PySem.Value.builtin "function.__dict__#set")]⟩) ⟨[]⟩)
noncomputable def ho_736 (P : Params) : Obj := (PySem.Obj.mk (PySem.Value.type "tuple") Option.none (PySem.Data.seq ⟨[(PySem.Value.str kx75 (nat_lit 433)), (PySem.Value.str kx76 (nat_lit 434)), (PySem.Value.str kx36 (nat_lit 435))]⟩ (nat_lit 0)) ⟨[]⟩)
noncomputable def ho_704 (P : Params) : Obj := (PySem.Obj.mk (PySem.Value.type "tuple") Option.none (PySem.Data.seq ⟨[]⟩ (nat_lit 0)) ⟨[]⟩)
noncomputable def ho_752 (P : Params) : Obj := (PySem.Obj.mk PySem.Value.none Option.none (PySem.Data.func (PySem.FuncData.mk kx67 kx67 (fpS st15) (fbS st15) (fsS st15) (nat_lit 0) [] PySem.Value.none PySem.Value.none PySem.Value.none PySem.Value.none Option.none PySem.Value.none PySem.Value.none (nat_lit 0))) ⟨[]⟩)
noncomputable def ho_720 (P : Params) : Obj := (PySem.Obj.mk (PySem.Value.type "tuple") Option.none (PySem.Data.seq ⟨[]⟩ (nat_lit 0)) ⟨[]⟩)
noncomputable def ho_744 (P : Params) : Obj := (PySem.Obj.mk (PySem.Value.type "tuple") Option.none (PySem.Data.seq ⟨[]⟩ (nat_lit 0)) ⟨[]⟩)
noncomputable def ho_712 (P : Params) : Obj := (PySem.Obj.mk (PySem.Value.type "tuple") Option.none (PySem.Data.seq ⟨[(PySem.Value.ref (nat_lit 169)), (PySem.Value.bool Bool.false)]⟩ (nat_lit 0)) ⟨[]⟩)
noncomputable def ho_728 (P : Params) : Obj := (PySem.Obj.mk (PySem.Value.type "dict") Option.none (PySem.Data.dict ⟨[(PySem.DictEntry.mk (PyData.keyHash P kx14) (PySem.Value.str kx14 (nat_lit 391)) (PySem.Value.str kx51 (nat_lit 382))), (PySem.DictEntry.mk (PyData.keyHash P kx15) (PySem.Value.str kx15 (nat_lit 395)) (PySem.Value.int (Int.ofNat (nat_lit 94)) (nat_lit 394))), (PySem.DictEntry.mk (PyData.keyHash P kx16) (PySem.Value.str kx16 (nat_lit 408)) (PySem.Value.ref (nat_lit 177))), (PySem.DictEntry.mk (PyData.keyHash P kx17) (PySem.Value.str kx17 (nat_lit 415)) (PySem.Value.ref (nat_lit 184))), (PySem.DictEntry.mk (PyData.keyHash P kx18) (PySem.Value.str kx18 (nat_lit 420)) (PySem.Value.ref (nat_lit 185))), (PySem.DictEntry.mk (PyData.keyHash P kx42) (PySem.Value.str kx42 (nat_lit 422)) (PySem.Value.ref (nat_lit 188))), (PySem.DictEntry.mk (PyData.keyHash P kx19) (PySem.Value.str kx19 (nat_lit 424)) (PySem.Value.ref (nat_lit 189))), (PySem.DictEntry.mk (PyData.keyHash P kx5) (PySem.Value.str kx5 (nat_lit 425)) PySem.Value.none)]⟩ (nat_lit 4)) ⟨[]⟩)
noncomputable def ho_740 (P : Params) : Obj := ko198
noncomputable def ho_708 (P : Params) : Obj := (PySem.Obj.mk PySem.Value.none Option.none (PySem.Data.fields ⟨[(PySem.Value.int (Int.ofNat (nat_lit 96)) (nat_lit 0)), (PySem.Value.int (Int.ofNat (nat_lit 4)) (nat_lit 0)), (PySem.Value.ref (nat_lit 176)), (PySem.Value.int (Int.ofNat (nat_lit 102)) (nat_lit 0)), (PySem.Value.int (Int.ofNat (nat_lit 4)) (nat_lit 0)), (PySem.Value.ref (nat_lit 183))]⟩) ⟨[]⟩)
noncomputable def ho_756 (P : Params) : Obj := (PySem.Obj.mk PySem.Value.none Option.none (PySem.Data.fields ⟨[]⟩) ⟨[]⟩)
noncomputable def ho_724 (P : Params) : Obj := (PySem.Obj.mk PySem.Value.none Option.none (PySem.Data.func (PySem.FuncData.mk kx17 kx70 (fpS (inSt st11 1)) (fbS (inSt st11 1)) (fsS (inSt st1 1)) (nat_lit 0) [] PySem.Value.none PySem.Value.none PySem.Value.none PySem.Value.none Option.none PySem.Value.none PySem.Value.none (nat_lit 0))) ⟨[]⟩)
noncomputable def ho_748 (P : Params) : Obj := (PySem.Obj.mk (PySem.Value.type "tuple") Option.none (PySem.Data.seq ⟨[]⟩ (nat_lit 0)) ⟨[]⟩)
noncomputable def ho_716 (P : Params) : Obj := (PySem.Obj.mk (PySem.Value.type "tuple") Option.none (PySem.Data.seq ⟨[]⟩ (nat_lit 0)) ⟨[]⟩)
noncomputable def ho_732 (P : Params) : Obj := (PySem.Obj.mk (PySem.Value.type "super") Option.none (PySem.Data.fields ⟨[(PySem.Value.ref (nat_lit 187)), (PySem.Value.ref (nat_lit 187)), (PySem.Value.ref (nat_lit 187))]⟩) ⟨[]⟩)
noncomputable def ho_760 (P : Params) : Obj := (PySem.Obj.mk (PySem.Value.type "dict") Option.none (PySem.Data.dict ⟨[(PySem.DictEntry.mk (PyData.keyHash P kx3) (PySem.Value.str kx3 (nat_lit 165)) (PySem.Value.str kx63 (nat_lit 428))), (PySem.DictEntry.mk (PyData.keyHash P kx5) (PySem.Value.str kx5 (nat_lit 166)) PySem.Value.none), (PySem.DictEntry.mk (PyData.keyHash P kx6) (PySem.Value.str kx6 (nat_lit 167)) PySem.Value.none), (PySem.DictEntry.mk (PyData.keyHash P kx7) (PySem.Value.str kx7 (nat_lit 168)) (PySem.Value.builtin "__main__.__loader__#opaque")), (PySem.DictEntry.mk (PyData.keyHash P kx8) (PySem.Value.str kx8 (nat_lit 169)) PySem.Value.none), (PySem.DictEntry.mk (PyData.keyHash P kx9) (PySem.Value.str kx9 (nat_lit 170)) (PySem.Value.ref (nat_lit 6))), (PySem.DictEntry.mk (PyData.keyHash P kx10) (PySem.Value.str kx10 (nat_lit 171)) (PySem.Value.ref (nat_lit 4))), (PySem.DictEntry.mk (PyData.keyHash P kx11) (PySem.Value.str kx11 (nat_lit 173)) (PySem.Value.str kx1 (nat_lit 172))), (PySem.DictEntry.mk (PyData.keyHash P kx12) (PySem.Value.str kx12 (nat_lit 174)) PySem.Value.none), (PySem.DictEntry.mk (PyData.keyHash P kx13) (PySem.Value.str kx13 (nat_lit 228)) (PySem.Value.ref (nat_lit 40))), (PySem.DictEntry.mk (PyData.keyHash P kx29) (PySem.Value.str kx29 (nat_lit 244)) (PySem.Value.ref (nat_lit 53))), (PySem.DictEntry.mk (PyData.keyHash P kx30) (PySem.Value.str kx30 (nat_lit 337)) (PySem.Value.ref (nat_lit 122))), (PySem.DictEntry.mk (PyData.keyHash P kx52) (PySem.Value.str kx52 (nat_lit 346)) (PySem.Value.ref (nat_lit 133))), (PySem.DictEntry.mk (PyData.keyHash P kx53) (PySem.Value.str kx53 (nat_lit 354)) (PySem.Value.ref (nat_lit 140))), (PySem.DictEntry.mk (PyData.keyHash P kx54) (PySem.Value.str kx54 (nat_lit 364)) (PySem.Value.ref (nat_lit 147))), (PySem.DictEntry.mk (PyData.keyHash P kx55) (PySem.Value.str kx55 (nat_lit 373)) (PySem.Value.ref (nat_lit 154))), (PySem.DictEntry.mk (PyData.keyHash P kx56) (PySem.Value.str kx56 (nat_lit 381)) (PySem.Value.ref (nat_lit 161))), (PySem.DictEntry.mk (PyData.keyHash P kx64) (PySem.Value.str kx64 (nat_lit 427)) (PySem.Value.ref (nat_lit 187))), (PySem.DictEntry.mk (PyData.keyHash P kx65) (PySem.Value.str kx65 (nat_lit 438)) (PySem.Value.ref (nat_lit 198))), (PySem.DictEntry.mk (PyData.keyHash P kx66) (PySem.Value.str kx66 (nat_lit 447)) (PySem.Value.ref (nat_lit 205))), (PySem.DictEntry.mk (PyData.keyHash P kx67) (PySem.Value.str kx67 (nat_lit 454)) (PySem.Value.ref (nat_lit 212))), (PySem.DictEntry.mk (PyData.keyHash P kx68) (PySem.Value.str kx68 (nat_lit 460)) (PySem.Value.ref (nat_lit 217))), (PySem.DictEntry.mk (PyData.keyHash P kx77) (PySem.Value.str kx77 (nat_lit 473)) (PySem.Value.ref (nat_lit 224))), (PySem.DictEntry.mk (PyData.keyHash P kx78) (PySem.Value.str kx78 (nat_lit 482)) (PySem.Value.ref (nat_lit 231))), (PySem.DictEntry.mk (PyData.keyHash P kx79) (PySem.Value.str kx79 (nat_lit 495)) (PySem.Value.ref (nat_lit 238))), (PySem.DictEntry.mk (PyData.keyHash P kx80) (PySem.Value.str kx80 (nat_lit 501)) (PySem.Value.ref (nat_lit 243))), (PySem.DictEntry.mk (PyData.keyHash P kx81) (PySem.Value.str kx81 (nat_lit 507)) (PySem.Value.ref (nat_lit 248))), (PySem.DictEntry.mk (PyData.keyHash P kx82) (PySem.Value.str kx82 (nat_lit 514)) (PySem.Value.ref (nat_lit 255))), (PySem.DictEntry.mk (PyData.keyHash P kx83) (PySem.Value.str kx83 (nat_lit 523)) (PySem.Value.ref (nat_lit 262))), (PySem.DictEntry.mk (PyData.keyHash P kx84) (PySem.Value.str kx84 (nat_lit 535)) (PySem.Value.ref (nat_lit 269)))]⟩ (nat_lit 30)) ⟨[]⟩)
noncomputable def ho_799 (P : Params) : Obj := ko255
noncomputable def ho_767 (P : Params) : Obj := (PySem.Obj.mk (PySem.Value.type "code") Option.none (PySem.Data.fields ⟨[(PySem.Value.str kx77 (nat_lit 461)), (PySem.Value.str kx77 (nat_lit 462)), (PySem.Value.str kx1 (nat_lit 463)), (PySem.Value.int (Int.ofNat (nat_lit 121)) (nat_lit 0)), (PySem.Value.int (Int.ofNat (nat_lit 1)) (nat_lit 0)), (PySem.Value.int (Int.ofNat (nat_lit 0)) (nat_lit 0)), (PySem.Value.int (Int.ofNat (nat_lit 0)) (nat_lit 0)), (PySem.Value.int (Int.ofNat (nat_lit 3)) (nat_lit 0)), (PySem.Value.ref (nat_lit 218)), (PySem.Value.bool Bool.true), (PySem.Value.int (Int.ofNat (nat_lit 181)) (nat_lit 0)), (PySem.Value.ref (nat_lit 219)), PySem.Value.none, (PySem.Value.ref (nat_lit 220)), (PySem.Value.ref (nat_lit 221)), (PySem.Value.ref (nat_lit 222)), (PySem.Value.int (Int.ofNat (nat_lit 471)) (nat_lit 0)), (PySem.Value.int (Int.ofNat (nat_lit 121)) (nat_lit 0)), (PySem.Value.str kx1 (nat_lit 472))]⟩) ⟨[]⟩)
noncomputable def ho_783 (P : Params) : Obj := (PySem.Obj.mk (PySem.Value.type "tuple") Option.none (PySem.Data.seq ⟨[]⟩ (nat_lit 0)) ⟨[]⟩)
noncomputable def ho_807 (P : Params) : Obj := (PySem.Obj.mk (PySem.Value.type "tuple") Option.none (PySem.Data.seq ⟨[]⟩ (nat_lit 0)) ⟨[]⟩)
noncomputable def ho_775 (P : Params) : Obj := ko231
noncomputable def ho_791 (P : Params) : Obj := (PySem.Obj.mk (PySem.Value.type "code") Option.none (PySem.Data.fields ⟨[(PySem.Value.str kx81 (nat_lit 502)), (PySem.Value.str kx81 (nat_lit 503)), (PySem.Value.str kx1 (nat_lit 504)), (PySem.Value.int (Int.ofNat (nat_lit 177)) (nat_lit 0)), (PySem.Value.int (Int.ofNat (nat_lit 1)) (nat_lit 0)), (PySem.Value.int (Int.ofNat (nat_lit 0)) (nat_lit 0)), (PySem.Value.int (Int.ofNat (nat_lit 0)) (nat_lit 0)), (PySem.Value.int (Int.ofNat (nat_lit 3)) (nat_lit 0)), (PySem.Value.ref (nat_lit 244)), (PySem.Value.bool Bool.true), (PySem.Value.int (Int.ofNat (nat_lit 181)) (nat_lit 0)), (PySem.Value.ref (nat_lit 245)), PySem.Value.none, PySem.Value.none, PySem.Value.none, (PySem.Value.ref (nat_lit 246)), (PySem.Value.int (Int.ofNat (nat_lit 505)) (nat_lit 0)), (PySem.Value.int (Int.ofNat (nat_lit 177)) (nat_lit 0)), (PySem.Value.str kx1 (nat_lit 506))]⟩) ⟨[]⟩)
noncomputable def ho_803 (P : Params) : Obj := (PySem.Obj.mk (PySem.Value.type "tuple") Option.none (PySem.Data.seq ⟨[]⟩ (nat_lit 0)) ⟨[]⟩)
noncomputable def ho_771 (P : Params) : Obj := (PySem.Obj.mk (PySem.Value.type "tuple") Option.none (PySem.Data.seq ⟨[(PySem.Value.str kx85 (nat_lit 477)), (PySem.Value.str kx27 (nat_lit 478)), (PySem.Value.str kx86 (nat_lit 479))]⟩ (nat_lit 0)) ⟨[]⟩)
noncomputable def ho_787 (P : Params) : Obj := ko243
noncomputable def ho_811 (P : Params) : Obj := (PySem.Obj.mk PySem.Value.none Option.none (PySem.Data.func (PySem.FuncData.mk kx84 kx84 (fpS st24) (fbS st24) (fsS st24) (nat_lit 0) [] PySem.Value.none PySem.Value.none PySem.Value.none PySem.Value.none Option.none PySem.Value.none PySem.Value.none (nat_lit 0))) ⟨[]⟩)
noncomputable def ho_779 (P : Params) : Obj := (PySem.Obj.mk (PySem.Value.type "tuple") Option.none (PySem.Data.seq ⟨[]⟩ (nat_lit 0)) ⟨[]⟩)
noncomputable def ho_763 (P : Params) : Obj := (PySem.Obj.mk PySem.Value.none Option.none (PySem.Data.fields ⟨[]⟩) ⟨[]⟩)
noncomputable def ho_795 (P : Params) : Obj := (PySem.Obj.mk (PySem.Value.type "tuple") Option.none (PySem.Data.seq ⟨[(PySem.Value.str kx87 (nat_lit 511))]⟩ (nat_lit 0)) ⟨[]⟩)
noncomputable def ho_801 (P : Params) : Obj := (PySem.Obj.mk PySem.Value.none Option.none (PySem.Data.fields ⟨[]⟩) ⟨[]⟩)
noncomputable def ho_769 (P : Params) : Obj := (PySem.Obj.mk (PySem.Value.type "tuple") Option.none (PySem.Data.seq ⟨[]⟩ (nat_lit 0)) ⟨[]⟩)
noncomputable def ho_785 (P : Params) : Obj := (PySem.Obj.mk PySem.Value.none Option.none (PySem.Data.func (PySem.FuncData.mk kx80 kx80 (fpS st20) (fbS st20) (fsS st20) (nat_lit 0) [] PySem.Value.none PySem.Value.none PySem.Value.none PySem.Value.none Option.none PySem.Value.none PySem.Value.none (nat_lit 0))) ⟨[]⟩)
noncomputable def ho_809 (P : Params) : Obj := (PySem.Obj.mk (PySem.Value.type "tuple") Option.none (PySem.Data.seq ⟨[(PySem.Value.str kx71 (nat_lit 527)), (PySem.Value.str kx88 (nat_lit 528)), (PySem.Value.str kx89 (nat_lit 529)), (PySem.Value.str kx75 (nat_lit 530)), (PySem.Value.str kx90 (nat_lit 531)), (PySem.Value.str kx85 (nat_lit 532))]⟩ (nat_lit 0)) ⟨[]⟩)
noncomputable def ho_777 (P : Params) : Obj := (PySem.Obj.mk PySem.Value.none Option.none (PySem.Data.fields ⟨[]⟩) ⟨[]⟩)
noncomputable def ho_793 (P : Params) : Obj := (PySem.Obj.mk (PySem.Value.type "tuple") Option.none (PySem.Data.seq ⟨[]⟩ (nat_lit 0)) ⟨[]⟩)
noncomputable def ho_805 (P : Params) : Obj := (PySem.Obj.mk (PySem.Value.type "code") Option.none (PySem.Data.fields ⟨[(PySem.Value.str kx83 (nat_lit 515)), (PySem.Value.str kx83 (nat_lit 516)), (PySem.Value.str kx1 (nat_lit 517)), (PySem.Value.int (Int.ofNat (nat_lit 189)) (nat_lit 0)), (PySem.Value.int (Int.ofNat (nat_lit 1)) (nat_lit 0)), (PySem.Value.int (Int.ofNat (nat_lit 0)) (nat_lit 0)), (PySem.Value.int (Int.ofNat (nat_lit 0)) (nat_lit 0)), (PySem.Value.int (Int.ofNat (nat_lit 3)) (nat_lit 0)), (PySem.Value.ref (nat_lit 256)), (PySem.Value.bool Bool.true), (PySem.Value.int (Int.ofNat (nat_lit 181)) (nat_lit 0)), (PySem.Value.ref (nat_lit 257)), PySem.Value.none, (PySem.Value.ref (nat_lit 258)), (PySem.Value.ref (nat_lit 259)), (PySem.Value.ref (nat_lit 260)), (PySem.Value.int (Int.ofNat (nat_lit 521)) (nat_lit 0)), (PySem.Value.int (Int.ofNat (nat_lit 189)) (nat_lit 0)), (PySem.Value.str kx1 (nat_lit 522))]⟩) ⟨[]⟩)
noncomputable def ho_773 (P : Params) : Obj := (PySem.Obj.mk PySem.Value.none Option.none (PySem.Data.func (PySem.FuncData.mk kx78 kx78 (fpS st18) (fbS st18) (fsS st18) (nat_lit 0) [] PySem.Value.none PySem.Value.none PySem.Value.none PySem.Value.none Option.none PySem.Value.none PySem.Value.none (nat_lit 0))) ⟨[]⟩)
noncomputable def ho_789 (P : Params) : Obj := (PySem.Obj.mk PySem.Value.none Option.none (PySem.Data.fields ⟨[]⟩) ⟨[]⟩)
noncomputable def ho_813 (P : Params) : Obj := ko269
noncomputable def ho_781 (P : Params) : Obj := (PySem.Obj.mk (PySem.Value.type "code") Option.none (PySem.Data.fields ⟨[(PySem.Value.str kx79 (nat_lit 483)), (PySem.Value.str kx79 (nat_lit 484)), (PySem.Value.str kx1 (nat_lit 485)), (PySem.Value.int (Int.ofNat (nat_lit 150)) (nat_lit 0)), (PySem.Value.int (Int.ofNat (nat_lit 1)) (nat_lit 0)), (PySem.Value.int (Int.ofNat (nat_lit 0)) (nat_lit 0)), (PySem.Value.int (Int.ofNat (nat_lit 0)) (nat_lit 0)), (PySem.Value.int (Int.ofNat (nat_lit 3)) (nat_lit 0)), (PySem.Value.ref (nat_lit 232)), (PySem.Value.bool Bool.true), (PySem.Value.int (Int.ofNat (nat_lit 181)) (nat_lit 0)), (PySem.Value.ref (nat_lit 233)), PySem.Value.none, (PySem.Value.ref (nat_lit 234)), (PySem.Value.ref (nat_lit 235)), (PySem.Value.ref (nat_lit 236)), (PySem.Value.int (Int.ofNat (nat_lit 493)) (nat_lit 0)), (PySem.Value.int (Int.ofNat (nat_lit 150)) (nat_lit 0)), (PySem.Value.str kx1 (nat_lit 494))]⟩) ⟨[]⟩)
noncomputable def ho_765 (P : Params) : Obj := (PySem.Obj.mk (PySem.Value.type "tuple") Option.none (PySem.Data.seq ⟨[]⟩ (nat_lit 0)) ⟨[]⟩)
noncomputable def ho_797 (P : Params) : Obj := (PySem.Obj.mk PySem.Value.none Option.none (PySem.Data.func (PySem.FuncData.mk kx82 kx82 (fpS st1) (fbS st22) (fsS st22) (nat_lit 0) [] PySem.Value.none PySem.Value.none PySem.Value.none PySem.Value.none Option.none PySem.Value.none PySem.Value.none (nat_lit 0))) ⟨[]⟩)
noncomputable def ho_800 (P : Params) : Obj := (PySem.Obj.mk (PySem.Value.type "tuple") Option.none (PySem.Data.seq ⟨[]⟩ (nat_lit 0)) ⟨[]⟩)
noncomputable def ho_768 (P : Params) : Obj := ko224
noncomputable def ho_784 (P : Params) : Obj := (PySem.Obj.mk PySem.Value.none Option.none (PySem.Data.fields ⟨[]⟩) ⟨[]⟩)
noncomputable def ho_808 (P : Params) : Obj := (PySem.Obj.mk PySem.Value.none Option.none (PySem.Data.fields ⟨[]⟩) ⟨[]⟩)
noncomputable def ho_776 (P : Params) : Obj := (PySem.Obj.mk (PySem.Value.type "tuple") Option.none (PySem.Data.seq ⟨[]⟩ (nat_lit 0)) ⟨[]⟩)
noncomputable def ho_792 (P : Params) : Obj := ko248
noncomputable def ho_761 (P : Params) : Obj := (PySem.Obj.mk PySem.Value.none Option.none (PySem.Data.fields ⟨[(PySem.Value.int (Int.ofNat (nat_lit 2)) (nat_lit 0)), (PySem.Value.int (Int.ofNat (nat_lit 0)) (nat_lit 0)), (PySem.Value.ref (nat_lit 20)), (PySem.Value.int (Int.ofNat (nat_lit 11)) (nat_lit 0)), (PySem.Value.int (Int.ofNat (nat_lit 0)) (nat_lit 0)), (PySem.Value.ref (nat_lit 49)), (PySem.Value.int (Int.ofNat (nat_lit 14)) (nat_lit 0)), (PySem.Value.int (Int.ofNat (nat_lit 0)) (nat_lit 0)), (PySem.Value.ref (nat_lit 61)), (PySem.Value.int (Int.ofNat (nat_lit 50)) (nat_lit 0)), (PySem.Value.int (Int.ofNat (nat_lit 0)) (nat_lit 0)), (PySem.Value.ref (nat_lit 132)), (PySem.Value.int (Int.ofNat (nat_lit 61)) (nat_lit 0)), (PySem.Value.int (Int.ofNat (nat_lit 0)) (nat_lit 0)), (PySem.Value.ref (nat_lit 139)), (PySem.Value.int (Int.ofNat (nat_lit 69)) (nat_lit 0)), (PySem.Value.int (Int.ofNat (nat_lit 0)) (nat_lit 0)), (PySem.Value.ref (nat_lit 146)), (PySem.Value.int (Int.ofNat (nat_lit 77)) (nat_lit 0)), (PySem.Value.int (Int.ofNat (nat_lit 0)) (nat_lit 0)), (PySem.Value.ref (nat_lit 153)), (PySem.Value.int (Int.ofNat (nat_lit 82)) (nat_lit 0)), (PySem.Value.int (Int.ofNat (nat_lit 0)) (nat_lit 0)), (PySem.Value.ref (nat_lit 160)), (PySem.Value.int (Int.ofNat (nat_lit 94)) (nat_lit 0)), (PySem.Value.int (Int.ofNat (nat_lit 0)) (nat_lit 0)), (PySem.Value.ref (nat_lit 167)), (PySem.Value.int (Int.ofNat (nat_lit 105)) (nat_lit 0)), (PySem.Value.int (Int.ofNat (nat_lit 0)) (nat_lit 0)), (PySem.Value.ref (nat_lit 197)), (PySem.Value.int (Int.ofNat (nat_lit 109)) (nat_lit 0)), (PySem.Value.int (Int.ofNat (nat_lit 0)) (nat_lit 0)), (PySem.Value.ref (nat_lit 204)), (PySem.Value.int (Int.ofNat (nat_lit 114)) (nat_lit 0)), (PySem.Value.int (Int.ofNat (nat_lit 0)) (nat_lit 0)), (PySem.Value.ref (nat_lit 211)), (PySem.Value.int (Int.ofNat (nat_lit 116)) (nat_lit 0)), (PySem.Value.int (Int.ofNat (nat_lit 0)) (nat_lit 0)), (PySem.Value.ref (nat_lit 216)), (PySem.Value.int (Int.ofNat (nat_lit 121)) (nat_lit 0)), (PySem.Value.int (Int.ofNat (nat_lit 0)) (nat_lit 0)), (PySem.Value.ref (nat_lit 223)), (PySem.Value.int (Int.ofNat (nat_lit 139)) (nat_lit 0)), (PySem.Value.int (Int.ofNat (nat_lit 0)) (nat_lit 0)), (PySem.Value.ref (nat_lit 230)), (PySem.Value.int (Int.ofNat (nat_lit 150)) (nat_lit 0)), (PySem.Value.int (Int.ofNat (nat_lit 0)) (nat_lit 0)), (PySem.Value.ref (nat_lit 237)), (PySem.Value.int (Int.ofNat (nat_lit 175)) (nat_lit 0)), (PySem.Value.int (Int.ofNat (nat_lit 0)) (nat_lit 0)), (PySem.Value.ref (nat_lit 242)), (PySem.Value.int (Int.ofNat (nat_lit 177)) (nat_lit 0)), (PySem.Value.int (Int.ofNat (nat_lit 0)) (nat_lit 0)), (PySem.Value.ref (nat_lit 247)), (PySem.Value.int (Int.ofNat (nat_lit 186)) (nat_lit 0)), (PySem.Value.int (Int.ofNat (nat_lit 0)) (nat_lit 0)), (PySem.Value.ref (nat_lit 254)), (PySem.Value.int (Int.ofNat (nat_lit 189)) (nat_lit 0)), (PySem.Value.int (Int.ofNat (nat_lit 0)) (nat_lit 0)), (PySem.Value.ref (nat_lit 261)), (PySem.Value.int (Int.ofNat (nat_lit 201)) (nat_lit 0)), (PySem.Value.int (Int.ofNat (nat_lit 0)) (nat_lit 0)), (PySem.Value.ref (nat_lit 268))]⟩) ⟨[]⟩)
noncomputable def ho_804 (P : Params) : Obj := (PySem.Obj.mk PySem.Value.none Option.none (PySem.Data.func (PySem.FuncData.mk kx83 kx83 (fpS st23) (fbS st23) (fsS st23) (nat_lit 0) [] PySem.Value.none PySem.Value.none PySem.Value.none PySem.Value.none Option.none PySem.Value.none PySem.Value.none (nat_lit 0))) ⟨[]⟩)
noncomputable def ho_772 (P : Params) : Obj := (PySem.Obj.mk (PySem.Value.type "tuple") Option.none (PySem.Data.seq ⟨[]⟩ (nat_lit 0)) ⟨[]⟩)
noncomputable def ho_788 (P : Params) : Obj := (PySem.Obj.mk (PySem.Value.type "tuple") Option.none (PySem.Data.seq ⟨[]⟩ (nat_lit 0)) ⟨[]⟩)
noncomputable def ho_812 (P : Params) : Obj := (PySem.Obj.mk (PySem.Value.type "code") Option.none (PySem.Data.fields ⟨[(PySem.Value.str kx84 (nat_lit 524)), (PySem.Value.str kx84 (nat_lit 525)), (PySem.Value.str kx1 (nat_lit 526)), (PySem.Value.int (Int.ofNat (nat_lit 201)) (nat_lit 0)), (PySem.Value.int (Int.ofNat (nat_lit 1)) (nat_lit 0)), (PySem.Value.int (Int.ofNat (nat_lit 0)) (nat_lit 0)), (PySem.Value.int (Int.ofNat (nat_lit 0)) (nat_lit 0)), (PySem.Value.int (Int.ofNat (nat_lit 3)) (nat_lit 0)), (PySem.Value.ref (nat_lit 263)), (PySem.Value.bool Bool.true), (PySem.Value.int (Int.ofNat (nat_lit 181)) (nat_lit 0)), (PySem.Value.ref (nat_lit 264)), PySem.Value.none, (PySem.Value.ref (nat_lit 265)), (PySem.Value.ref (nat_lit 266)), (PySem.Value.ref (nat_lit 267)), (PySem.Value.int (Int.ofNat (nat_lit 533)) (nat_lit 0)), (PySem.Value.int (Int.ofNat (nat_lit 201)) (nat_lit 0)), (PySem.Value.str kx1 (nat_lit 534))]⟩) ⟨[]⟩)
noncomputable def ho_780 (P : Params) : Obj := (PySem.Obj.mk PySem.Value.none Option.none (PySem.Data.func (PySem.FuncData.mk kx79 kx79 (fpS st19) (fbS st19) (fsS st19) (nat_lit 0) [] PySem.Value.none PySem.Value.none PySem.Value.none PySem.Value.none Option.none PySem.Value.none PySem.Value.none (nat_lit 0))) ⟨[]⟩)
noncomputable def ho_764 (P : Params) : Obj := (PySem.Obj.mk (PySem.Value.type "tuple") Option.none (PySem.Data.seq ⟨[(PySem.Value.str kx75 (nat_lit 464)), (PySem.Value.str kx85 (nat_lit 465)), (PySem.Value.str kx76 (nat_lit 466)), (PySem.Value.str kx90 (nat_lit 467)), (PySem.Value.str kx91 (nat_lit 468)), (PySem.Value.str kx92 (nat_lit 469)), (PySem.Value.str kx93 (nat_lit 470))]⟩ (nat_lit 0)) ⟨[]⟩)
noncomputable def ho_796 (P : Params) : Obj := (PySem.Obj.mk (PySem.Value.type "tuple") Option.none (PySem.Data.seq ⟨[]⟩ (nat_lit 0)) ⟨[]⟩)
noncomputable def ho_802 (P : Params) : Obj := (PySem.Obj.mk (PySem.Value.type "tuple") Option.none (PySem.Data.seq ⟨[(PySem.Value.str kx88 (nat_lit 518)), (PySem.Value.str kx85 (nat_lit 519)), (PySem.Value.str kx87 (nat_lit 520))]⟩ (nat_lit 0)) ⟨[]⟩)
noncomputable def ho_770 (P : Params) : Obj := (PySem.Obj.mk PySem.Value.none Option.none (PySem.Data.fields ⟨[]⟩) ⟨[]⟩)
noncomputable def ho_786 (P : Params) : Obj := (PySem.Obj.mk (PySem.Value.type "code") Option.none (PySem.Data.fields ⟨[(PySem.Value.str kx80 (nat_lit 496)), (PySem.Value.str kx80 (nat_lit 497)), (PySem.Value.str kx1 (nat_lit 498)), (PySem.Value.int (Int.ofNat (nat_lit 175)) (nat_lit 0)), (PySem.Value.int (Int.ofNat (nat_lit 1)) (nat_lit 0)), (PySem.Value.int (Int.ofNat (nat_lit 0)) (nat_lit 0)), (PySem.Value.int (Int.ofNat (nat_lit 0)) (nat_lit 0)), (PySem.Value.int (Int.ofNat (nat_lit 3)) (nat_lit 0)), (PySem.Value.ref (nat_lit 239)), (PySem.Value.bool Bool.true), (PySem.Value.int (Int.ofNat (nat_lit 181)) (nat_lit 0)), (PySem.Value.ref (nat_lit 240)), PySem.Value.none, PySem.Value.none, PySem.Value.none, (PySem.Value.ref (nat_lit 241)), (PySem.Value.int (Int.ofNat (nat_lit 499)) (nat_lit 0)), (PySem.Value.int (Int.ofNat (nat_lit 175)) (nat_lit 0)), (PySem.Value.str kx1 (nat_lit 500))]⟩) ⟨[]⟩)
noncomputable def ho_810 (P : Params) : Obj := (PySem.Obj.mk (PySem.Value.type "tuple") Option.none (PySem.Data.seq ⟨[]⟩ (nat_lit 0)) ⟨[]⟩)
noncomputable def ho_778 (P : Params) : Obj := (PySem.Obj.mk (PySem.Value.type "tuple") Option.none (PySem.Data.seq ⟨[(PySem.Value.str kx85 (nat_lit 486)), (PySem.Value.str kx94 (nat_lit 487)), (PySem.Value.str kx27 (nat_lit 488)), (PySem.Value.str kx62 (nat_lit 489)), (PySem.Value.str kx95 (nat_lit 490)), (PySem.Value.str kx60 (nat_lit 491)), (PySem.Value.str kx96 (nat_lit 492))]⟩ (nat_lit 0)) ⟨[]⟩)
noncomputable def ho_762 (P : Params) : Obj := (PySem.Obj.mk (PySem.Value.type "tuple") Option.none (PySem.Data.seq ⟨[]⟩ (nat_lit 0)) ⟨[]⟩)
noncomputable def ho_794 (P : Params) : Obj := (PySem.Obj.mk PySem.Value.none Option.none (PySem.Data.fields ⟨[]⟩) ⟨[]⟩)
noncomputable def ho_806 (P : Params) : Obj := ko262
noncomputable def ho_774 (P : Params) : Obj := (PySem.Obj.mk (PySem.Value.type "code") Option.none (PySem.Data.fields ⟨[(PySem.Value.str kx78 (nat_lit 474)), (PySem.Value.str kx78 (nat_lit 475)), (PySem.Value.str kx1 (nat_lit 476)), (PySem.Value.int (Int.ofNat (nat_lit 139)) (nat_lit 0)), (PySem.Value.int (Int.ofNat (nat_lit 2)) (nat_lit 0)), (PySem.Value.int (Int.ofNat (nat_lit 0)) (nat_lit 0)), (PySem.Value.int (Int.ofNat (nat_lit 0)) (nat_lit 0)), (PySem.Value.int (Int.ofNat (nat_lit 3)) (nat_lit 0)), (PySem.Value.ref (nat_lit 225)), (PySem.Value.bool Bool.true), (PySem.Value.int (Int.ofNat (nat_lit 181)) (nat_lit 0)), (PySem.Value.ref (nat_lit 226)), PySem.Value.none, (PySem.Value.ref (nat_lit 227)), (PySem.Value.ref (nat_lit 228)), (PySem.Value.ref (nat_lit 229)), (PySem.Value.int (Int.ofNat (nat_lit 480)) (nat_lit 0)), (PySem.Value.int (Int.ofNat (nat_lit 139)) (nat_lit 0)), (PySem.Value.str kx1 (nat_lit 481))]⟩) ⟨[]⟩)
noncomputable def ho_790 (P : Params) : Obj := (PySem.Obj.mk PySem.Value.none Option.none (PySem.Data.func (PySem.FuncData.mk kx81 kx81 (fpS st21) (fbS st21) (fsS st21) (nat_lit 0) [] PySem.Value.none PySem.Value.none PySem.Value.none PySem.Value.none Option.none PySem.Value.none PySem.Value.none (nat_lit 0))) ⟨[]⟩)
noncomputable def ho_782 (P : Params) : Obj := ko238
noncomputable def ho_766 (P : Params) : Obj := (PySem.Obj.mk PySem.Value.none Option.none (PySem.Data.func (PySem.FuncData.mk kx77 kx77 (fpS st17) (fbS st17) (fsS st17) (nat_lit 0) [] PySem.Value.none PySem.Value.none PySem.Value.none PySem.Value.none Option.none PySem.Value.none PySem.Value.none (nat_lit 0))) ⟨[]⟩)
noncomputable def ho_798 (P : Params) : Obj := (PySem.Obj.mk (PySem.Value.type "code") Option.none (PySem.Data.fields ⟨[(PySem.Value.str kx82 (nat_lit 508)), (PySem.Value.str kx82 (nat_lit 509)), (PySem.Value.str kx1 (nat_lit 510)), (PySem.Value.int (Int.ofNat (nat_lit 186)) (nat_lit 0)), (PySem.Value.int (Int.ofNat (nat_lit 0)) (nat_lit 0)), (PySem.Value.int (Int.ofNat (nat_lit 0)) (nat_lit 0)), (PySem.Value.int (Int.ofNat (nat_lit 0)) (nat_lit 0)), (PySem.Value.int (Int.ofNat (nat_lit 3)) (nat_lit 0)), (PySem.Value.ref (nat_lit 249)), (PySem.Value.bool Bool.true), (PySem.Value.int (Int.ofNat (nat_lit 181)) (nat_lit 0)), (PySem.Value.ref (nat_lit 250)), PySem.Value.none, (PySem.Value.ref (nat_lit 251)), (PySem.Value.ref (nat_lit 252)), (PySem.Value.ref (nat_lit 253)), (PySem.Value.int (Int.ofNat (nat_lit 512)) (nat_lit 0)), (PySem.Value.int (Int.ofNat (nat_lit 186)) (nat_lit 0)), (PySem.Value.str kx1 (nat_lit 513))]⟩) ⟨[]⟩)
noncomputable def KM (P : Params) : Frag := [
  (nat_lit 2, ho_545 P),
  (nat_lit 3, ho_760 P),
  (nat_lit 15, ho_548 P),
  (nat_lit 22, ho_555 P),
  (nat_lit 23, ho_556 P),
  (nat_lit 24, ho_557 P),
  (nat_lit 26, ho_559 P),
  (nat_lit 27, ho_560 P),
  (nat_lit 29, ho_562 P),
  (nat_lit 30, ko30),
  (nat_lit 31, ho_564 P),
  (nat_lit 33, ho_566 P),
  (nat_lit 34, ho_567 P),
  (nat_lit 36, ho_569 P),
  (nat_lit 37, ko37),
  (nat_lit 38, ho_571 P),
  (nat_lit 39, ho_572 P),
  (nat_lit 40, ho_579 P),
  (nat_lit 41, ho_574 P),
  (nat_lit 44, ho_580 P),
  (nat_lit 51, ho_587 P),
  (nat_lit 52, ho_588 P),
  (nat_lit 53, ho_589 P),
  (nat_lit 63, ho_601 P),
  (nat_lit 64, ho_602 P),
  (nat_lit 66, ho_604 P),
  (nat_lit 67, ho_605 P),
  (nat_lit 69, ho_607 P),
  (nat_lit 70, ko70),
  (nat_lit 71, ho_609 P),
  (nat_lit 73, ho_611 P),
  (nat_lit 74, ho_612 P),
  (nat_lit 76, ho_614 P),
  (nat_lit 77, ko77),
  (nat_lit 78, ho_616 P),
  (nat_lit 80, ho_618 P),
  (nat_lit 81, ho_619 P),
  (nat_lit 83, ho_621 P),
  (nat_lit 84, ko84),
  (nat_lit 85, ho_623 P),
  (nat_lit 87, ho_625 P),
  (nat_lit 88, ho_626 P),
  (nat_lit 90, ho_628 P),
  (nat_lit 91, ko91),
  (nat_lit 92, ho_630 P),
  (nat_lit 94, ho_632 P),
  (nat_lit 95, ho_633 P),
  (nat_lit 97, ho_635 P),
  (nat_lit 98, ko98),
  (nat_lit 99, ho_637 P),
  (nat_lit 101, ho_639 P),
  (nat_lit 102, ho_640 P),
  (nat_lit 104, ho_642 P),
  (nat_lit 105, ko105),
  (nat_lit 106, ho_644 P),
  (nat_lit 108, ho_646 P),
  (nat_lit 109, ho_647 P),
  (nat_lit 111, ho_649 P),
  (nat_lit 112, ko112),
  (nat_lit 113, ho_651 P),
  (nat_lit 115, ho_653 P),
  (nat_lit 116, ho_654 P),
  (nat_lit 118, ho_656 P),
  (nat_lit 119, ko119),
  (nat_lit 120, ho_658 P),
  (nat_lit 121, ho_659 P),
  (nat_lit 122, ho_660 P),
  (nat_lit 123, ho_661 P),
  (nat_lit 124, ho_662 P),
  (nat_lit 127, ho_667 P),
  (nat_lit 129, ho_669 P),
  (nat_lit 130, ho_670 P),
  (nat_lit 132, ho_672 P),
  (nat_lit 133, ko133),
  (nat_lit 134, ho_674 P),
  (nat_lit 136, ho_676 P),
  (nat_lit 137, ho_677 P),
  (nat_lit 139, ho_679 P),
  (nat_lit 140, ko140),
  (nat_lit 141, ho_681 P),
  (nat_lit 143, ho_683 P),
  (nat_lit 144, ho_684 P),
  (nat_lit 146, ho_686 P),
  (nat_lit 147, ko147),
  (nat_lit 148, ho_688 P),
  (nat_lit 150, ho_690 P),
  (nat_lit 151, ho_691 P),
  (nat_lit 153, ho_693 P),
  (nat_lit 154, ko154),
  (nat_lit 155, ho_695 P),
  (nat_lit 157, ho_697 P),
  (nat_lit 158, ho_698 P),
  (nat_lit 160, ho_700 P),
  (nat_lit 161, ko161),
  (nat_lit 169, ho_711 P),
  (nat_lit 170, ho_712 P),
  (nat_lit 171, ho_713 P),
  (nat_lit 173, ho_715 P),
  (nat_lit 174, ho_716 P),
  (nat_lit 176, ho_718 P),
  (nat_lit 177, ko177),
  (nat_lit 178, ho_720 P),
  (nat_lit 180, ho_722 P),
  (nat_lit 181, ho_723 P),
  (nat_lit 183, ho_725 P),
  (nat_lit 184, ko184),
  (nat_lit 185, ho_727 P),
  (nat_lit 186, ho_728 P),
  (nat_lit 187, ho_729 P),
  (nat_lit 188, ho_730 P),
  (nat_lit 189, ho_731 P),
  (nat_lit 192, ho_734 P),
  (nat_lit 194, ho_736 P),
  (nat_lit 195, ho_737 P),
  (nat_lit 197, ho_739 P),
  (nat_lit 198, ko198),
  (nat_lit 199, ho_741 P),
  (nat_lit 201, ho_743 P),
  (nat_lit 202, ho_744 P),
  (nat_lit 204, ho_746 P),
  (nat_lit 205, ko205),
  (nat_lit 206, ho_748 P),
  (nat_lit 208, ho_750 P),
  (nat_lit 209, ho_751 P),
  (nat_lit 211, ho_753 P),
  (nat_lit 212, ko212),
  (nat_lit 213, ho_755 P),
  (nat_lit 216, ho_758 P),
  (nat_lit 217, ko217),
  (nat_lit 218, ho_762 P),
  (nat_lit 220, ho_764 P),
  (nat_lit 221, ho_765 P),
  (nat_lit 223, ho_767 P),
  (nat_lit 224, ko224),
  (nat_lit 225, ho_769 P),
  (nat_lit 227, ho_771 P),
  (nat_lit 228, ho_772 P),
  (nat_lit 230, ho_774 P),
  (nat_lit 231, ko231),
  (nat_lit 232, ho_776 P),
  (nat_lit 234, ho_778 P),
  (nat_lit 235, ho_779 P),
  (nat_lit 237, ho_781 P),
  (nat_lit 238, ko238),
  (nat_lit 239, ho_783 P),
  (nat_lit 242, ho_786 P),
  (nat_lit 243, ko243),
  (nat_lit 244, ho_788 P),
  (nat_lit 247, ho_791 P),
  (nat_lit 248, ko248),
  (nat_lit 249, ho_793 P),
  (nat_lit 251, ho_795 P),
  (nat_lit 252, ho_796 P),
  (nat_lit 254, ho_798 P),
  (nat_lit 255, ko255),
  (nat_lit 256, ho_800 P),
  (nat_lit 258, ho_802 P),
  (nat_lit 259, ho_803 P),
  (nat_lit 261, ho_805 P),
  (nat_lit 262, ko262),
  (nat_lit 263, ho_807 P),
  (nat_lit 265, ho_809 P),
  (nat_lit 266, ho_810 P),
  (nat_lit 268, ho_812 P),
  (nat_lit 269, ko269)]
theorem fill0 : (law1, KM) = (law1, KM) := by
  k_fill
  rfl
end Mine
end

noncomputable section
open PySem PySem.W PyProof.Rows PySem.Calls
set_option Elab.async false
set_option linter.unusedVariables false
namespace Mine
set_option maxRecDepth 100000
set_option maxHeartbeats 0
noncomputable def tree_543 (P : Params) : BT := (PySem.W.BT.node (PySem.W.boot_o_0 P) (PySem.W.BT.node (PySem.W.boot_o_1 P) (PySem.W.BT.node (PySem.W.boot_o_3 P) (PySem.W.BT.node (PySem.W.boot_o_7 P) PySem.W.BT.nil PySem.W.BT.nil) (PySem.W.BT.node (ho_539 P) PySem.W.BT.nil PySem.W.BT.nil)) (PySem.W.BT.node (PySem.W.boot_o_5 P) (PySem.W.BT.node (PySem.W.boot_o_9 P) PySem.W.BT.nil PySem.W.BT.nil) (PySem.W.BT.node (ho_541 P) PySem.W.BT.nil PySem.W.BT.nil))) (PySem.W.BT.node (PySem.W.boot_o_2 P) (PySem.W.BT.node (PySem.W.boot_o_4 P) (PySem.W.BT.node (PySem.W.boot_o_8 P) PySem.W.BT.nil PySem.W.BT.nil) (PySem.W.BT.node (ho_540 P) PySem.W.BT.nil PySem.W.BT.nil)) (PySem.W.BT.node (PySem.W.boot_o_6 P) (PySem.W.BT.node (PySem.W.boot_o_10 P) PySem.W.BT.nil PySem.W.BT.nil) (PySem.W.BT.node (ho_542 P) PySem.W.BT.nil PySem.W.BT.nil))))
noncomputable def tree_576 (P : Params) : BT := (PySem.W.BT.node (PySem.W.boot_o_0 P) (PySem.W.BT.node (PySem.W.boot_o_1 P) (PySem.W.BT.node (ho_546 P) (PySem.W.BT.node (PySem.W.boot_o_7 P) (PySem.W.BT.node (ho_548 P) (PySem.W.BT.node (ho_564 P) PySem.W.BT.nil PySem.W.BT.nil) PySem.W.BT.nil) (PySem.W.BT.node (ho_556 P) (PySem.W.BT.node (ho_572 P) PySem.W.BT.nil PySem.W.BT.nil) PySem.W.BT.nil)) (PySem.W.BT.node (ho_539 P) (PySem.W.BT.node (ho_552 P) (PySem.W.BT.node (ho_568 P) PySem.W.BT.nil PySem.W.BT.nil) PySem.W.BT.nil) (PySem.W.BT.node (ho_560 P) (PySem.W.BT.node (ho_576 P) PySem.W.BT.nil PySem.W.BT.nil) PySem.W.BT.nil))) (PySem.W.BT.node (PySem.W.boot_o_5 P) (PySem.W.BT.node (PySem.W.boot_o_9 P) (PySem.W.BT.node (ho_550 P) (PySem.W.BT.node (ho_566 P) PySem.W.BT.nil PySem.W.BT.nil) PySem.W.BT.nil) (PySem.W.BT.node (ho_558 P) (PySem.W.BT.node (ho_574 P) PySem.W.BT.nil PySem.W.BT.nil) PySem.W.BT.nil)) (PySem.W.BT.node (ho_541 P) (PySem.W.BT.node (ho_554 P) (PySem.W.BT.node (ho_570 P) PySem.W.BT.nil PySem.W.BT.nil) PySem.W.BT.nil) (PySem.W.BT.node (ho_562 P) PySem.W.BT.nil PySem.W.BT.nil)))) (PySem.W.BT.node (ho_545 P) (PySem.W.BT.node (PySem.W.boot_o_4 P) (PySem.W.BT.node (PySem.W.boot_o_8 P) (PySem.W.BT.node (ho_549 P) (PySem.W.BT.node (ho_565 P) PySem.W.BT.nil PySem.W.BT.nil) PySem.W.BT.nil) (PySem.W.BT.node (ho_557 P) (PySem.W.BT.node (ho_573 P) PySem.W.BT.nil PySem.W.BT.nil) PySem.W.BT.nil)) (PySem.W.BT.node (ho_547 P) (PySem.W.BT.node (ho_553 P) (PySem.W.BT.node (ho_569 P) PySem.W.BT.nil PySem.W.BT.nil) PySem.W.BT.nil) (PySem.W.BT.node (ho_561 P) PySem.W.BT.nil PySem.W.BT.nil))) (PySem.W.BT.node (PySem.W.boot_o_6 P) (PySem.W.BT.node (PySem.W.boot_o_10 P) (PySem.W.BT.node (ho_551 P) (PySem.W.BT.node (ho_567 P) PySem.W.BT.nil PySem.W.BT.nil) PySem.W.BT.nil) (PySem.W.BT.node (ho_559 P) (PySem.W.BT.node (ho_575 P) PySem.W.BT.nil PySem.W.BT.nil) PySem.W.BT.nil)) (PySem.W.BT.node (ho_542 P) (PySem.W.BT.node (ho_555 P) (PySem.W.BT.node (ho_571 P) PySem.W.BT.nil PySem.W.BT.nil) PySem.W.BT.nil) (PySem.W.BT.node (ho_563 P) PySem.W.BT.nil PySem.W.BT.nil)))))
noncomputable def tree_591 (P : Params) : BT := (PySem.W.BT.node (PySem.W.boot_o_0 P) (PySem.W.BT.node (PySem.W.boot_o_1 P) (PySem.W.BT.node (ho_577 P) (PySem.W.BT.node (PySem.W.boot_o_7 P) (PySem.W.BT.node (ho_548 P) (PySem.W.BT.node (ho_564 P) PySem.W.BT.nil PySem.W.BT.nil) (PySem.W.BT.node (ho_583 P) PySem.W.BT.nil PySem.W.BT.nil)) (PySem.W.BT.node (ho_556 P) (PySem.W.BT.node (ho_572 P) PySem.W.BT.nil PySem.W.BT.nil) (PySem.W.BT.node (ho_591 P) PySem.W.BT.nil PySem.W.BT.nil))) (PySem.W.BT.node (ho_539 P) (PySem.W.BT.node (ho_552 P) (PySem.W.BT.node (ho_568 P) PySem.W.BT.nil PySem.W.BT.nil) (PySem.W.BT.node (ho_587 P) PySem.W.BT.nil PySem.W.BT.nil)) (PySem.W.BT.node (ho_560 P) (PySem.W.BT.node (ho_576 P) PySem.W.BT.nil PySem.W.BT.nil) PySem.W.BT.nil))) (PySem.W.BT.node (PySem.W.boot_o_5 P) (PySem.W.BT.node (PySem.W.boot_o_9 P) (PySem.W.BT.node (ho_550 P) (PySem.W.BT.node (ho_566 P) PySem.W.BT.nil PySem.W.BT.nil) (PySem.W.BT.node (ho_585 P) PySem.W.BT.nil PySem.W.BT.nil)) (PySem.W.BT.node (ho_558 P) (PySem.W.BT.node (ho_574 P) PySem.W.BT.nil PySem.W.BT.nil) PySem.W.BT.nil)) (PySem.W.BT.node (ho_541 P) (PySem.W.BT.node (ho_554 P) (PySem.W.BT.node (ho_570 P) PySem.W.BT.nil PySem.W.BT.nil) (PySem.W.BT.node (ho_589 P) PySem.W.BT.nil PySem.W.BT.nil)) (PySem.W.BT.node (ho_562 P) (PySem.W.BT.node (ho_581 P) PySem.W.BT.nil PySem.W.BT.nil) PySem.W.BT.nil)))) (PySem.W.BT.node (ho_545 P) (PySem.W.BT.node (PySem.W.boot_o_4 P) (PySem.W.BT.node (PySem.W.boot_o_8 P) (PySem.W.BT.node (ho_549 P) (PySem.W.BT.node (ho_565 P) PySem.W.BT.nil PySem.W.BT.nil) (PySem.W.BT.node (ho_584 P) PySem.W.BT.nil PySem.W.BT.nil)) (PySem.W.BT.node (ho_557 P) (PySem.W.BT.node (ho_579 P) PySem.W.BT.nil PySem.W.BT.nil) PySem.W.BT.nil)) (PySem.W.BT.node (ho_578 P) (PySem.W.BT.node (ho_553 P) (PySem.W.BT.node (ho_569 P) PySem.W.BT.nil PySem.W.BT.nil) (PySem.W.BT.node (ho_588 P) PySem.W.BT.nil PySem.W.BT.nil)) (PySem.W.BT.node (ho_561 P) (PySem.W.BT.node (ho_580 P) PySem.W.BT.nil PySem.W.BT.nil) PySem.W.BT.nil))) (PySem.W.BT.node (PySem.W.boot_o_6 P) (PySem.W.BT.node (PySem.W.boot_o_10 P) (PySem.W.BT.node (ho_551 P) (PySem.W.BT.node (ho_567 P) PySem.W.BT.nil PySem.W.BT.nil) (PySem.W.BT.node (ho_586 P) PySem.W.BT.nil PySem.W.BT.nil)) (PySem.W.BT.node (ho_559 P) (PySem.W.BT.node (ho_575 P) PySem.W.BT.nil PySem.W.BT.nil) PySem.W.BT.nil)) (PySem.W.BT.node (ho_542 P) (PySem.W.BT.node (ho_555 P) (PySem.W.BT.node (ho_571 P) PySem.W.BT.nil PySem.W.BT.nil) (PySem.W.BT.node (ho_590 P) PySem.W.BT.nil PySem.W.BT.nil)) (PySem.W.BT.node (ho_563 P) (PySem.W.BT.node (ho_582 P) PySem.W.BT.nil PySem.W.BT.nil) PySem.W.BT.nil)))))
noncomputable def tree_664 (P : Params) : BT := (PySem.W.BT.node (PySem.W.boot_o_0 P) (PySem.W.BT.node (PySem.W.boot_o_1 P) (PySem.W.BT.node (ho_592 P) (PySem.W.BT.node (PySem.W.boot_o_7 P) (PySem.W.BT.node (ho_548 P) (PySem.W.BT.node (ho_564 P) (PySem.W.BT.node (ho_601 P) PySem.W.BT.nil PySem.W.BT.nil) (PySem.W.BT.node (ho_633 P) PySem.W.BT.nil PySem.W.BT.nil)) (PySem.W.BT.node (ho_583 P) (PySem.W.BT.node (ho_617 P) PySem.W.BT.nil PySem.W.BT.nil) (PySem.W.BT.node (ho_649 P) PySem.W.BT.nil PySem.W.BT.nil))) (PySem.W.BT.node (ho_556 P) (PySem.W.BT.node (ho_572 P) (PySem.W.BT.node (ho_609 P) PySem.W.BT.nil PySem.W.BT.nil) (PySem.W.BT.node (ho_641 P) PySem.W.BT.nil PySem.W.BT.nil)) (PySem.W.BT.node (ho_591 P) (PySem.W.BT.node (ho_625 P) PySem.W.BT.nil PySem.W.BT.nil) (PySem.W.BT.node (ho_657 P) PySem.W.BT.nil PySem.W.BT.nil)))) (PySem.W.BT.node (ho_539 P) (PySem.W.BT.node (ho_552 P) (PySem.W.BT.node (ho_568 P) (PySem.W.BT.node (ho_605 P) PySem.W.BT.nil PySem.W.BT.nil) (PySem.W.BT.node (ho_637 P) PySem.W.BT.nil PySem.W.BT.nil)) (PySem.W.BT.node (ho_587 P) (PySem.W.BT.node (ho_621 P) PySem.W.BT.nil PySem.W.BT.nil) (PySem.W.BT.node (ho_653 P) PySem.W.BT.nil PySem.W.BT.nil))) (PySem.W.BT.node (ho_560 P) (PySem.W.BT.node (ho_576 P) (PySem.W.BT.node (ho_613 P) PySem.W.BT.nil PySem.W.BT.nil) (PySem.W.BT.node (ho_645 P) PySem.W.BT.nil PySem.W.BT.nil)) (PySem.W.BT.node (ho_597 P) (PySem.W.BT.node (ho_629 P) PySem.W.BT.nil PySem.W.BT.nil) (PySem.W.BT.node (ho_661 P) PySem.W.BT.nil PySem.W.BT.nil))))) (PySem.W.BT.node (PySem.W.boot_o_5 P) (PySem.W.BT.node (PySem.W.boot_o_9 P) (PySem.W.BT.node (ho_550 P) (PySem.W.BT.node (ho_566 P) (PySem.W.BT.node (ho_603 P) PySem.W.BT.nil PySem.W.BT.nil) (PySem.W.BT.node (ho_635 P) PySem.W.BT.nil PySem.W.BT.nil)) (PySem.W.BT.node (ho_585 P) (PySem.W.BT.node (ho_619 P) PySem.W.BT.nil PySem.W.BT.nil) (PySem.W.BT.node (ho_651 P) PySem.W.BT.nil PySem.W.BT.nil))) (PySem.W.BT.node (ho_558 P) (PySem.W.BT.node (ho_574 P) (PySem.W.BT.node (ho_611 P) PySem.W.BT.nil PySem.W.BT.nil) (PySem.W.BT.node (ho_643 P) PySem.W.BT.nil PySem.W.BT.nil)) (PySem.W.BT.node (ho_595 P) (PySem.W.BT.node (ho_627 P) PySem.W.BT.nil PySem.W.BT.nil) (PySem.W.BT.node (ho_659 P) PySem.W.BT.nil PySem.W.BT.nil)))) (PySem.W.BT.node (ho_541 P) (PySem.W.BT.node (ho_554 P) (PySem.W.BT.node (ho_570 P) (PySem.W.BT.node (ho_607 P) PySem.W.BT.nil PySem.W.BT.nil) (PySem.W.BT.node (ho_639 P) PySem.W.BT.nil PySem.W.BT.nil)) (PySem.W.BT.node (ho_589 P) (PySem.W.BT.node (ho_623 P) PySem.W.BT.nil PySem.W.BT.nil) (PySem.W.BT.node (ho_655 P) PySem.W.BT.nil PySem.W.BT.nil))) (PySem.W.BT.node (ho_562 P) (PySem.W.BT.node (ho_581 P) (PySem.W.BT.node (ho_615 P) PySem.W.BT.nil PySem.W.BT.nil) (PySem.W.BT.node (ho_647 P) PySem.W.BT.nil PySem.W.BT.nil)) (PySem.W.BT.node (ho_599 P) (PySem.W.BT.node (ho_631 P) PySem.W.BT.nil PySem.W.BT.nil) (PySem.W.BT.node (ho_663 P) PySem.W.BT.nil PySem.W.BT.nil)))))) (PySem.W.BT.node (ho_545 P) (PySem.W.BT.node (PySem.W.boot_o_4 P) (PySem.W.BT.node (PySem.W.boot_o_8 P) (PySem.W.BT.node (ho_549 P) (PySem.W.BT.node (ho_565 P) (PySem.W.BT.node (ho_602 P) PySem.W.BT.nil PySem.W.BT.nil) (PySem.W.BT.node (ho_634 P) PySem.W.BT.nil PySem.W.BT.nil)) (PySem.W.BT.node (ho_584 P) (PySem.W.BT.node (ho_618 P) PySem.W.BT.nil PySem.W.BT.nil) (PySem.W.BT.node (ho_650 P) PySem.W.BT.nil PySem.W.BT.nil))) (PySem.W.BT.node (ho_557 P) (PySem.W.BT.node (ho_579 P) (PySem.W.BT.node (ho_610 P) PySem.W.BT.nil PySem.W.BT.nil) (PySem.W.BT.node (ho_642 P) PySem.W.BT.nil PySem.W.BT.nil)) (PySem.W.BT.node (ho_594 P) (PySem.W.BT.node (ho_626 P) PySem.W.BT.nil PySem.W.BT.nil) (PySem.W.BT.node (ho_658 P) PySem.W.BT.nil PySem.W.BT.nil)))) (PySem.W.BT.node (ho_593 P) (PySem.W.BT.node (ho_553 P) (PySem.W.BT.node (ho_569 P) (PySem.W.BT.node (ho_606 P) PySem.W.BT.nil PySem.W.BT.nil) (PySem.W.BT.node (ho_638 P) PySem.W.BT.nil PySem.W.BT.nil)) (PySem.W.BT.node (ho_588 P) (PySem.W.BT.node (ho_622 P) PySem.W.BT.nil PySem.W.BT.nil) (PySem.W.BT.node (ho_654 P) PySem.W.BT.nil PySem.W.BT.nil))) (PySem.W.BT.node (ho_561 P) (PySem.W.BT.node (ho_580 P) (PySem.W.BT.node (ho_614 P) PySem.W.BT.nil PySem.W.BT.nil) (PySem.W.BT.node (ho_646 P) PySem.W.BT.nil PySem.W.BT.nil)) (PySem.W.BT.node (ho_598 P) (PySem.W.BT.node (ho_630 P) PySem.W.BT.nil PySem.W.BT.nil) (PySem.W.BT.node (ho_662 P) PySem.W.BT.nil PySem.W.BT.nil))))) (PySem.W.BT.node (PySem.W.boot_o_6 P) (PySem.W.BT.node (PySem.W.boot_o_10 P) (PySem.W.BT.node (ho_551 P) (PySem.W.BT.node (ho_567 P) (PySem.W.BT.node (ho_604 P) PySem.W.BT.nil PySem.W.BT.nil) (PySem.W.BT.node (ho_636 P) PySem.W.BT.nil PySem.W.BT.nil)) (PySem.W.BT.node (ho_586 P) (PySem.W.BT.node (ho_620 P) PySem.W.BT.nil PySem.W.BT.nil) (PySem.W.BT.node (ho_652 P) PySem.W.BT.nil PySem.W.BT.nil))) (PySem.W.BT.node (ho_559 P) (PySem.W.BT.node (ho_575 P) (PySem.W.BT.node (ho_612 P) PySem.W.BT.nil PySem.W.BT.nil) (PySem.W.BT.node (ho_644 P) PySem.W.BT.nil PySem.W.BT.nil)) (PySem.W.BT.node (ho_596 P) (PySem.W.BT.node (ho_628 P) PySem.W.BT.nil PySem.W.BT.nil) (PySem.W.BT.node (ho_660 P) PySem.W.BT.nil PySem.W.BT.nil)))) (PySem.W.BT.node (ho_542 P) (PySem.W.BT.node (ho_555 P) (PySem.W.BT.node (ho_571 P) (PySem.W.BT.node (ho_608 P) PySem.W.BT.nil PySem.W.BT.nil) (PySem.W.BT.node (ho_640 P) PySem.W.BT.nil PySem.W.BT.nil)) (PySem.W.BT.node (ho_590 P) (PySem.W.BT.node (ho_624 P) PySem.W.BT.nil PySem.W.BT.nil) (PySem.W.BT.node (ho_656 P) PySem.W.BT.nil PySem.W.BT.nil))) (PySem.W.BT.node (ho_563 P) (PySem.W.BT.node (ho_582 P) (PySem.W.BT.node (ho_616 P) PySem.W.BT.nil PySem.W.BT.nil) (PySem.W.BT.node (ho_648 P) PySem.W.BT.nil PySem.W.BT.nil)) (PySem.W.BT.node (ho_600 P) (PySem.W.BT.node (ho_632 P) PySem.W.BT.nil PySem.W.BT.nil) (PySem.W.BT.node (ho_664 P) PySem.W.BT.nil PySem.W.BT.nil)))))))
noncomputable def tree_701 (P : Params) : BT := (PySem.W.BT.node (PySem.W.boot_o_0 P) (PySem.W.BT.node (PySem.W.boot_o_1 P) (PySem.W.BT.node (ho_665 P) (PySem.W.BT.node (PySem.W.boot_o_7 P) (PySem.W.BT.node (ho_548 P) (PySem.W.BT.node (ho_564 P) (PySem.W.BT.node (ho_601 P) (PySem.W.BT.node (ho_667 P) PySem.W.BT.nil PySem.W.BT.nil) PySem.W.BT.nil) (PySem.W.BT.node (ho_633 P) (PySem.W.BT.node (ho_699 P) PySem.W.BT.nil PySem.W.BT.nil) PySem.W.BT.nil)) (PySem.W.BT.node (ho_583 P) (PySem.W.BT.node (ho_617 P) (PySem.W.BT.node (ho_683 P) PySem.W.BT.nil PySem.W.BT.nil) PySem.W.BT.nil) (PySem.W.BT.node (ho_649 P) PySem.W.BT.nil PySem.W.BT.nil))) (PySem.W.BT.node (ho_556 P) (PySem.W.BT.node (ho_572 P) (PySem.W.BT.node (ho_609 P) (PySem.W.BT.node (ho_675 P) PySem.W.BT.nil PySem.W.BT.nil) PySem.W.BT.nil) (PySem.W.BT.node (ho_641 P) PySem.W.BT.nil PySem.W.BT.nil)) (PySem.W.BT.node (ho_591 P) (PySem.W.BT.node (ho_625 P) (PySem.W.BT.node (ho_691 P) PySem.W.BT.nil PySem.W.BT.nil) PySem.W.BT.nil) (PySem.W.BT.node (ho_657 P) PySem.W.BT.nil PySem.W.BT.nil)))) (PySem.W.BT.node (ho_539 P) (PySem.W.BT.node (ho_552 P) (PySem.W.BT.node (ho_568 P) (PySem.W.BT.node (ho_605 P) (PySem.W.BT.node (ho_671 P) PySem.W.BT.nil PySem.W.BT.nil) PySem.W.BT.nil) (PySem.W.BT.node (ho_637 P) PySem.W.BT.nil PySem.W.BT.nil)) (PySem.W.BT.node (ho_587 P) (PySem.W.BT.node (ho_621 P) (PySem.W.BT.node (ho_687 P) PySem.W.BT.nil PySem.W.BT.nil) PySem.W.BT.nil) (PySem.W.BT.node (ho_653 P) PySem.W.BT.nil PySem.W.BT.nil))) (PySem.W.BT.node (ho_560 P) (PySem.W.BT.node (ho_576 P) (PySem.W.BT.node (ho_613 P) (PySem.W.BT.node (ho_679 P) PySem.W.BT.nil PySem.W.BT.nil) PySem.W.BT.nil) (PySem.W.BT.node (ho_645 P) PySem.W.BT.nil PySem.W.BT.nil)) (PySem.W.BT.node (ho_597 P) (PySem.W.BT.node (ho_629 P) (PySem.W.BT.node (ho_695 P) PySem.W.BT.nil PySem.W.BT.nil) PySem.W.BT.nil) (PySem.W.BT.node (ho_661 P) PySem.W.BT.nil PySem.W.BT.nil))))) (PySem.W.BT.node (PySem.W.boot_o_5 P) (PySem.W.BT.node (PySem.W.boot_o_9 P) (PySem.W.BT.node (ho_550 P) (PySem.W.BT.node (ho_566 P) (PySem.W.BT.node (ho_603 P) (PySem.W.BT.node (ho_669 P) PySem.W.BT.nil PySem.W.BT.nil) PySem.W.BT.nil) (PySem.W.BT.node (ho_635 P) (PySem.W.BT.node (ho_701 P) PySem.W.BT.nil PySem.W.BT.nil) PySem.W.BT.nil)) (PySem.W.BT.node (ho_585 P) (PySem.W.BT.node (ho_619 P) (PySem.W.BT.node (ho_685 P) PySem.W.BT.nil PySem.W.BT.nil) PySem.W.BT.nil) (PySem.W.BT.node (ho_651 P) PySem.W.BT.nil PySem.W.BT.nil))) (PySem.W.BT.node (ho_558 P) (PySem.W.BT.node (ho_574 P) (PySem.W.BT.node (ho_611 P) (PySem.W.BT.node (ho_677 P) PySem.W.BT.nil PySem.W.BT.nil) PySem.W.BT.nil) (PySem.W.BT.node (ho_643 P) PySem.W.BT.nil PySem.W.BT.nil)) (PySem.W.BT.node (ho_595 P) (PySem.W.BT.node (ho_627 P) (PySem.W.BT.node (ho_693 P) PySem.W.BT.nil PySem.W.BT.nil) PySem.W.BT.nil) (PySem.W.BT.node (ho_659 P) PySem.W.BT.nil PySem.W.BT.nil)))) (PySem.W.BT.node (ho_541 P) (PySem.W.BT.node (ho_554 P) (PySem.W.BT.node (ho_570 P) (PySem.W.BT.node (ho_607 P) (PySem.W.BT.node (ho_673 P) PySem.W.BT.nil PySem.W.BT.nil) PySem.W.BT.nil) (PySem.W.BT.node (ho_639 P) PySem.W.BT.nil PySem.W.BT.nil)) (PySem.W.BT.node (ho_589 P) (PySem.W.BT.node (ho_623 P) (PySem.W.BT.node (ho_689 P) PySem.W.BT.nil PySem.W.BT.nil) PySem.W.BT.nil) (PySem.W.BT.node (ho_655 P) PySem.W.BT.nil PySem.W.BT.nil))) (PySem.W.BT.node (ho_562 P) (PySem.W.BT.node (ho_581 P) (PySem.W.BT.node (ho_615 P) (PySem.W.BT.node (ho_681 P) PySem.W.BT.nil PySem.W.BT.nil) PySem.W.BT.nil) (PySem.W.BT.node (ho_647 P) PySem.W.BT.nil PySem.W.BT.nil)) (PySem.W.BT.node (ho_599 P) (PySem.W.BT.node (ho_631 P) (PySem.W.BT.node (ho_697 P) PySem.W.BT.nil PySem.W.BT.nil) PySem.W.BT.nil) (PySem.W.BT.node (ho_663 P) PySem.W.BT.nil PySem.W.BT.nil)))))) (PySem.W.BT.node (ho_545 P) (PySem.W.BT.node (PySem.W.boot_o_4 P) (PySem.W.BT.node (PySem.W.boot_o_8 P) (PySem.W.BT.node (ho_549 P) (PySem.W.BT.node (ho_565 P) (PySem.W.BT.node (ho_602 P) (PySem.W.BT.node (ho_668 P) PySem.W.BT.nil PySem.W.BT.nil) PySem.W.BT.nil) (PySem.W.BT.node (ho_634 P) (PySem.W.BT.node (ho_700 P) PySem.W.BT.nil PySem.W.BT.nil) PySem.W.BT.nil)) (PySem.W.BT.node (ho_584 P) (PySem.W.BT.node (ho_618 P) (PySem.W.BT.node (ho_684 P) PySem.W.BT.nil PySem.W.BT.nil) PySem.W.BT.nil) (PySem.W.BT.node (ho_650 P) PySem.W.BT.nil PySem.W.BT.nil))) (PySem.W.BT.node (ho_557 P) (PySem.W.BT.node (ho_579 P) (PySem.W.BT.node (ho_610 P) (PySem.W.BT.node (ho_676 P) PySem.W.BT.nil PySem.W.BT.nil) PySem.W.BT.nil) (PySem.W.BT.node (ho_642 P) PySem.W.BT.nil PySem.W.BT.nil)) (PySem.W.BT.node (ho_594 P) (PySem.W.BT.node (ho_626 P) (PySem.W.BT.node (ho_692 P) PySem.W.BT.nil PySem.W.BT.nil) PySem.W.BT.nil) (PySem.W.BT.node (ho_658 P) PySem.W.BT.nil PySem.W.BT.nil)))) (PySem.W.BT.node (ho_666 P) (PySem.W.BT.node (ho_553 P) (PySem.W.BT.node (ho_569 P) (PySem.W.BT.node (ho_606 P) (PySem.W.BT.node (ho_672 P) PySem.W.BT.nil PySem.W.BT.nil) PySem.W.BT.nil) (PySem.W.BT.node (ho_638 P) PySem.W.BT.nil PySem.W.BT.nil)) (PySem.W.BT.node (ho_588 P) (PySem.W.BT.node (ho_622 P) (PySem.W.BT.node (ho_688 P) PySem.W.BT.nil PySem.W.BT.nil) PySem.W.BT.nil) (PySem.W.BT.node (ho_654 P) PySem.W.BT.nil PySem.W.BT.nil))) (PySem.W.BT.node (ho_561 P) (PySem.W.BT.node (ho_580 P) (PySem.W.BT.node (ho_614 P) (PySem.W.BT.node (ho_680 P) PySem.W.BT.nil PySem.W.BT.nil) PySem.W.BT.nil) (PySem.W.BT.node (ho_646 P) PySem.W.BT.nil PySem.W.BT.nil)) (PySem.W.BT.node (ho_598 P) (PySem.W.BT.node (ho_630 P) (PySem.W.BT.node (ho_696 P) PySem.W.BT.nil PySem.W.BT.nil) PySem.W.BT.nil) (PySem.W.BT.node (ho_662 P) PySem.W.BT.nil PySem.W.BT.nil))))) (PySem.W.BT.node (PySem.W.boot_o_6 P) (PySem.W.BT.node (PySem.W.boot_o_10 P) (PySem.W.BT.node (ho_551 P) (PySem.W.BT.node (ho_567 P) (PySem.W.BT.node (ho_604 P) (PySem.W.BT.node (ho_670 P) PySem.W.BT.nil PySem.W.BT.nil) PySem.W.BT.nil) (PySem.W.BT.node (ho_636 P) PySem.W.BT.nil PySem.W.BT.nil)) (PySem.W.BT.node (ho_586 P) (PySem.W.BT.node (ho_620 P) (PySem.W.BT.node (ho_686 P) PySem.W.BT.nil PySem.W.BT.nil) PySem.W.BT.nil) (PySem.W.BT.node (ho_652 P) PySem.W.BT.nil PySem.W.BT.nil))) (PySem.W.BT.node (ho_559 P) (PySem.W.BT.node (ho_575 P) (PySem.W.BT.node (ho_612 P) (PySem.W.BT.node (ho_678 P) PySem.W.BT.nil PySem.W.BT.nil) PySem.W.BT.nil) (PySem.W.BT.node (ho_644 P) PySem.W.BT.nil PySem.W.BT.nil)) (PySem.W.BT.node (ho_596 P) (PySem.W.BT.node (ho_628 P) (PySem.W.BT.node (ho_694 P) PySem.W.BT.nil PySem.W.BT.nil) PySem.W.BT.nil) (PySem.W.BT.node (ho_660 P) PySem.W.BT.nil PySem.W.BT.nil)))) (PySem.W.BT.node (ho_542 P) (PySem.W.BT.node (ho_555 P) (PySem.W.BT.node (ho_571 P) (PySem.W.BT.node (ho_608 P) (PySem.W.BT.node (ho_674 P) PySem.W.BT.nil PySem.W.BT.nil) PySem.W.BT.nil) (PySem.W.BT.node (ho_640 P) PySem.W.BT.nil PySem.W.BT.nil)) (PySem.W.BT.node (ho_590 P) (PySem.W.BT.node (ho_624 P) (PySem.W.BT.node (ho_690 P) PySem.W.BT.nil PySem.W.BT.nil) PySem.W.BT.nil) (PySem.W.BT.node (ho_656 P) PySem.W.BT.nil PySem.W.BT.nil))) (PySem.W.BT.node (ho_563 P) (PySem.W.BT.node (ho_582 P) (PySem.W.BT.node (ho_616 P) (PySem.W.BT.node (ho_682 P) PySem.W.BT.nil PySem.W.BT.nil) PySem.W.BT.nil) (PySem.W.BT.node (ho_648 P) PySem.W.BT.nil PySem.W.BT.nil)) (PySem.W.BT.node (ho_600 P) (PySem.W.BT.node (ho_632 P) (PySem.W.BT.node (ho_698 P) PySem.W.BT.nil PySem.W.BT.nil) PySem.W.BT.nil) (PySem.W.BT.node (ho_664 P) PySem.W.BT.nil PySem.W.BT.nil)))))))
noncomputable def tree_759 (P : Params) : BT := (PySem.W.BT.node (PySem.W.boot_o_0 P) (PySem.W.BT.node (PySem.W.boot_o_1 P) (PySem.W.BT.node (ho_702 P) (PySem.W.BT.node (PySem.W.boot_o_7 P) (PySem.W.BT.node (ho_548 P) (PySem.W.BT.node (ho_564 P) (PySem.W.BT.node (ho_601 P) (PySem.W.BT.node (ho_667 P) PySem.W.BT.nil PySem.W.BT.nil) (PySem.W.BT.node (ho_733 P) PySem.W.BT.nil PySem.W.BT.nil)) (PySem.W.BT.node (ho_633 P) (PySem.W.BT.node (ho_699 P) PySem.W.BT.nil PySem.W.BT.nil) PySem.W.BT.nil)) (PySem.W.BT.node (ho_583 P) (PySem.W.BT.node (ho_617 P) (PySem.W.BT.node (ho_683 P) PySem.W.BT.nil PySem.W.BT.nil) (PySem.W.BT.node (ho_749 P) PySem.W.BT.nil PySem.W.BT.nil)) (PySem.W.BT.node (ho_649 P) (PySem.W.BT.node (ho_717 P) PySem.W.BT.nil PySem.W.BT.nil) PySem.W.BT.nil))) (PySem.W.BT.node (ho_556 P) (PySem.W.BT.node (ho_572 P) (PySem.W.BT.node (ho_609 P) (PySem.W.BT.node (ho_675 P) PySem.W.BT.nil PySem.W.BT.nil) (PySem.W.BT.node (ho_741 P) PySem.W.BT.nil PySem.W.BT.nil)) (PySem.W.BT.node (ho_641 P) (PySem.W.BT.node (ho_709 P) PySem.W.BT.nil PySem.W.BT.nil) PySem.W.BT.nil)) (PySem.W.BT.node (ho_591 P) (PySem.W.BT.node (ho_625 P) (PySem.W.BT.node (ho_691 P) PySem.W.BT.nil PySem.W.BT.nil) (PySem.W.BT.node (ho_757 P) PySem.W.BT.nil PySem.W.BT.nil)) (PySem.W.BT.node (ho_657 P) (PySem.W.BT.node (ho_725 P) PySem.W.BT.nil PySem.W.BT.nil) PySem.W.BT.nil)))) (PySem.W.BT.node (ho_539 P) (PySem.W.BT.node (ho_552 P) (PySem.W.BT.node (ho_568 P) (PySem.W.BT.node (ho_605 P) (PySem.W.BT.node (ho_671 P) PySem.W.BT.nil PySem.W.BT.nil) (PySem.W.BT.node (ho_737 P) PySem.W.BT.nil PySem.W.BT.nil)) (PySem.W.BT.node (ho_637 P) (PySem.W.BT.node (ho_705 P) PySem.W.BT.nil PySem.W.BT.nil) PySem.W.BT.nil)) (PySem.W.BT.node (ho_587 P) (PySem.W.BT.node (ho_621 P) (PySem.W.BT.node (ho_687 P) PySem.W.BT.nil PySem.W.BT.nil) (PySem.W.BT.node (ho_753 P) PySem.W.BT.nil PySem.W.BT.nil)) (PySem.W.BT.node (ho_653 P) (PySem.W.BT.node (ho_721 P) PySem.W.BT.nil PySem.W.BT.nil) PySem.W.BT.nil))) (PySem.W.BT.node (ho_560 P) (PySem.W.BT.node (ho_576 P) (PySem.W.BT.node (ho_613 P) (PySem.W.BT.node (ho_679 P) PySem.W.BT.nil PySem.W.BT.nil) (PySem.W.BT.node (ho_745 P) PySem.W.BT.nil PySem.W.BT.nil)) (PySem.W.BT.node (ho_645 P) (PySem.W.BT.node (ho_713 P) PySem.W.BT.nil PySem.W.BT.nil) PySem.W.BT.nil)) (PySem.W.BT.node (ho_597 P) (PySem.W.BT.node (ho_629 P) (PySem.W.BT.node (ho_695 P) PySem.W.BT.nil PySem.W.BT.nil) PySem.W.BT.nil) (PySem.W.BT.node (ho_661 P) (PySem.W.BT.node (ho_729 P) PySem.W.BT.nil PySem.W.BT.nil) PySem.W.BT.nil))))) (PySem.W.BT.node (PySem.W.boot_o_5 P) (PySem.W.BT.node (PySem.W.boot_o_9 P) (PySem.W.BT.node (ho_550 P) (PySem.W.BT.node (ho_566 P) (PySem.W.BT.node (ho_603 P) (PySem.W.BT.node (ho_669 P) PySem.W.BT.nil PySem.W.BT.nil) (PySem.W.BT.node (ho_735 P) PySem.W.BT.nil PySem.W.BT.nil)) (PySem.W.BT.node (ho_635 P) (PySem.W.BT.node (ho_701 P) PySem.W.BT.nil PySem.W.BT.nil) PySem.W.BT.nil)) (PySem.W.BT.node (ho_585 P) (PySem.W.BT.node (ho_619 P) (PySem.W.BT.node (ho_685 P) PySem.W.BT.nil PySem.W.BT.nil) (PySem.W.BT.node (ho_751 P) PySem.W.BT.nil PySem.W.BT.nil)) (PySem.W.BT.node (ho_651 P) (PySem.W.BT.node (ho_719 P) PySem.W.BT.nil PySem.W.BT.nil) PySem.W.BT.nil))) (PySem.W.BT.node (ho_558 P) (PySem.W.BT.node (ho_574 P) (PySem.W.BT.node (ho_611 P) (PySem.W.BT.node (ho_677 P) PySem.W.BT.nil PySem.W.BT.nil) (PySem.W.BT.node (ho_743 P) PySem.W.BT.nil PySem.W.BT.nil)) (PySem.W.BT.node (ho_643 P) (PySem.W.BT.node (ho_711 P) PySem.W.BT.nil PySem.W.BT.nil) PySem.W.BT.nil)) (PySem.W.BT.node (ho_595 P) (PySem.W.BT.node (ho_627 P) (PySem.W.BT.node (ho_693 P) PySem.W.BT.nil PySem.W.BT.nil) (PySem.W.BT.node (ho_759 P) PySem.W.BT.nil PySem.W.BT.nil)) (PySem.W.BT.node (ho_659 P) (PySem.W.BT.node (ho_727 P) PySem.W.BT.nil PySem.W.BT.nil) PySem.W.BT.nil)))) (PySem.W.BT.node (ho_541 P) (PySem.W.BT.node (ho_554 P) (PySem.W.BT.node (ho_570 P) (PySem.W.BT.node (ho_607 P) (PySem.W.BT.node (ho_673 P) PySem.W.BT.nil PySem.W.BT.nil) (PySem.W.BT.node (ho_739 P) PySem.W.BT.nil PySem.W.BT.nil)) (PySem.W.BT.node (ho_639 P) (PySem.W.BT.node (ho_707 P) PySem.W.BT.nil PySem.W.BT.nil) PySem.W.BT.nil)) (PySem.W.BT.node (ho_589 P) (PySem.W.BT.node (ho_623 P) (PySem.W.BT.node (ho_689 P) PySem.W.BT.nil PySem.W.BT.nil) (PySem.W.BT.node (ho_755 P) PySem.W.BT.nil PySem.W.BT.nil)) (PySem.W.BT.node (ho_655 P) (PySem.W.BT.node (ho_723 P) PySem.W.BT.nil PySem.W.BT.nil) PySem.W.BT.nil))) (PySem.W.BT.node (ho_562 P) (PySem.W.BT.node (ho_581 P) (PySem.W.BT.node (ho_615 P) (PySem.W.BT.node (ho_681 P) PySem.W.BT.nil PySem.W.BT.nil) (PySem.W.BT.node (ho_747 P) PySem.W.BT.nil PySem.W.BT.nil)) (PySem.W.BT.node (ho_647 P) (PySem.W.BT.node (ho_715 P) PySem.W.BT.nil PySem.W.BT.nil) PySem.W.BT.nil)) (PySem.W.BT.node (ho_599 P) (PySem.W.BT.node (ho_631 P) (PySem.W.BT.node (ho_697 P) PySem.W.BT.nil PySem.W.BT.nil) PySem.W.BT.nil) (PySem.W.BT.node (ho_663 P) (PySem.W.BT.node (ho_731 P) PySem.W.BT.nil PySem.W.BT.nil) PySem.W.BT.nil)))))) (PySem.W.BT.node (ho_545 P) (PySem.W.BT.node (PySem.W.boot_o_4 P) (PySem.W.BT.node (PySem.W.boot_o_8 P) (PySem.W.BT.node (ho_549 P) (PySem.W.BT.node (ho_565 P) (PySem.W.BT.node (ho_602 P) (PySem.W.BT.node (ho_668 P) PySem.W.BT.nil PySem.W.BT.nil) (PySem.W.BT.node (ho_734 P) PySem.W.BT.nil PySem.W.BT.nil)) (PySem.W.BT.node (ho_634 P) (PySem.W.BT.node (ho_700 P) PySem.W.BT.nil PySem.W.BT.nil) PySem.W.BT.nil)) (PySem.W.BT.node (ho_584 P) (PySem.W.BT.node (ho_618 P) (PySem.W.BT.node (ho_684 P) PySem.W.BT.nil PySem.W.BT.nil) (PySem.W.BT.node (ho_750 P) PySem.W.BT.nil PySem.W.BT.nil)) (PySem.W.BT.node (ho_650 P) (PySem.W.BT.node (ho_718 P) PySem.W.BT.nil PySem.W.BT.nil) PySem.W.BT.nil))) (PySem.W.BT.node (ho_557 P) (PySem.W.BT.node (ho_579 P) (PySem.W.BT.node (ho_610 P) (PySem.W.BT.node (ho_676 P) PySem.W.BT.nil PySem.W.BT.nil) (PySem.W.BT.node (ho_742 P) PySem.W.BT.nil PySem.W.BT.nil)) (PySem.W.BT.node (ho_642 P) (PySem.W.BT.node (ho_710 P) PySem.W.BT.nil PySem.W.BT.nil) PySem.W.BT.nil)) (PySem.W.BT.node (ho_594 P) (PySem.W.BT.node (ho_626 P) (PySem.W.BT.node (ho_692 P) PySem.W.BT.nil PySem.W.BT.nil) (PySem.W.BT.node (ho_758 P) PySem.W.BT.nil PySem.W.BT.nil)) (PySem.W.BT.node (ho_658 P) (PySem.W.BT.node (ho_726 P) PySem.W.BT.nil PySem.W.BT.nil) PySem.W.BT.nil)))) (PySem.W.BT.node (ho_703 P) (PySem.W.BT.node (ho_553 P) (PySem.W.BT.node (ho_569 P) (PySem.W.BT.node (ho_606 P) (PySem.W.BT.node (ho_672 P) PySem.W.BT.nil PySem.W.BT.nil) (PySem.W.BT.node (ho_738 P) PySem.W.BT.nil PySem.W.BT.nil)) (PySem.W.BT.node (ho_638 P) (PySem.W.BT.node (ho_706 P) PySem.W.BT.nil PySem.W.BT.nil) PySem.W.BT.nil)) (PySem.W.BT.node (ho_588 P) (PySem.W.BT.node (ho_622 P) (PySem.W.BT.node (ho_688 P) PySem.W.BT.nil PySem.W.BT.nil) (PySem.W.BT.node (ho_754 P) PySem.W.BT.nil PySem.W.BT.nil)) (PySem.W.BT.node (ho_654 P) (PySem.W.BT.node (ho_722 P) PySem.W.BT.nil PySem.W.BT.nil) PySem.W.BT.nil))) (PySem.W.BT.node (ho_561 P) (PySem.W.BT.node (ho_580 P) (PySem.W.BT.node (ho_614 P) (PySem.W.BT.node (ho_680 P) PySem.W.BT.nil PySem.W.BT.nil) (PySem.W.BT.node (ho_746 P) PySem.W.BT.nil PySem.W.BT.nil)) (PySem.W.BT.node (ho_646 P) (PySem.W.BT.node (ho_714 P) PySem.W.BT.nil PySem.W.BT.nil) PySem.W.BT.nil)) (PySem.W.BT.node (ho_598 P) (PySem.W.BT.node (ho_630 P) (PySem.W.BT.node (ho_696 P) PySem.W.BT.nil PySem.W.BT.nil) PySem.W.BT.nil) (PySem.W.BT.node (ho_662 P) (PySem.W.BT.node (ho_730 P) PySem.W.BT.nil PySem.W.BT.nil) PySem.W.BT.nil))))) (PySem.W.BT.node (PySem.W.boot_o_6 P) (PySem.W.BT.node (PySem.W.boot_o_10 P) (PySem.W.BT.node (ho_551 P) (PySem.W.BT.node (ho_567 P) (PySem.W.BT.node (ho_604 P) (PySem.W.BT.node (ho_670 P) PySem.W.BT.nil PySem.W.BT.nil) (PySem.W.BT.node (ho_736 P) PySem.W.BT.nil PySem.W.BT.nil)) (PySem.W.BT.node (ho_636 P) (PySem.W.BT.node (ho_704 P) PySem.W.BT.nil PySem.W.BT.nil) PySem.W.BT.nil)) (PySem.W.BT.node (ho_586 P) (PySem.W.BT.node (ho_620 P) (PySem.W.BT.node (ho_686 P) PySem.W.BT.nil PySem.W.BT.nil) (PySem.W.BT.node (ho_752 P) PySem.W.BT.nil PySem.W.BT.nil)) (PySem.W.BT.node (ho_652 P) (PySem.W.BT.node (ho_720 P) PySem.W.BT.nil PySem.W.BT.nil) PySem.W.BT.nil))) (PySem.W.BT.node (ho_559 P) (PySem.W.BT.node (ho_575 P) (PySem.W.BT.node (ho_612 P) (PySem.W.BT.node (ho_678 P) PySem.W.BT.nil PySem.W.BT.nil) (PySem.W.BT.node (ho_744 P) PySem.W.BT.nil PySem.W.BT.nil)) (PySem.W.BT.node (ho_644 P) (PySem.W.BT.node (ho_712 P) PySem.W.BT.nil PySem.W.BT.nil) PySem.W.BT.nil)) (PySem.W.BT.node (ho_596 P) (PySem.W.BT.node (ho_628 P) (PySem.W.BT.node (ho_694 P) PySem.W.BT.nil PySem.W.BT.nil) PySem.W.BT.nil) (PySem.W.BT.node (ho_660 P) (PySem.W.BT.node (ho_728 P) PySem.W.BT.nil PySem.W.BT.nil) PySem.W.BT.nil)))) (PySem.W.BT.node (ho_542 P) (PySem.W.BT.node (ho_555 P) (PySem.W.BT.node (ho_571 P) (PySem.W.BT.node (ho_608 P) (PySem.W.BT.node (ho_674 P) PySem.W.BT.nil PySem.W.BT.nil) (PySem.W.BT.node (ho_740 P) PySem.W.BT.nil PySem.W.BT.nil)) (PySem.W.BT.node (ho_640 P) (PySem.W.BT.node (ho_708 P) PySem.W.BT.nil PySem.W.BT.nil) PySem.W.BT.nil)) (PySem.W.BT.node (ho_590 P) (PySem.W.BT.node (ho_624 P) (PySem.W.BT.node (ho_690 P) PySem.W.BT.nil PySem.W.BT.nil) (PySem.W.BT.node (ho_756 P) PySem.W.BT.nil PySem.W.BT.nil)) (PySem.W.BT.node (ho_656 P) (PySem.W.BT.node (ho_724 P) PySem.W.BT.nil PySem.W.BT.nil) PySem.W.BT.nil))) (PySem.W.BT.node (ho_563 P) (PySem.W.BT.node (ho_582 P) (PySem.W.BT.node (ho_616 P) (PySem.W.BT.node (ho_682 P) PySem.W.BT.nil PySem.W.BT.nil) (PySem.W.BT.node (ho_748 P) PySem.W.BT.nil PySem.W.BT.nil)) (PySem.W.BT.node (ho_648 P) (PySem.W.BT.node (ho_716 P) PySem.W.BT.nil PySem.W.BT.nil) PySem.W.BT.nil)) (PySem.W.BT.node (ho_600 P) (PySem.W.BT.node (ho_632 P) (PySem.W.BT.node (ho_698 P) PySem.W.BT.nil PySem.W.BT.nil) PySem.W.BT.nil) (PySem.W.BT.node (ho_664 P) (PySem.W.BT.node (ho_732 P) PySem.W.BT.nil PySem.W.BT.nil) PySem.W.BT.nil)))))))
noncomputable def tree_813 (P : Params) : BT := (PySem.W.BT.node (PySem.W.boot_o_0 P) (PySem.W.BT.node (PySem.W.boot_o_1 P) (PySem.W.BT.node (ho_760 P) (PySem.W.BT.node (PySem.W.boot_o_7 P) (PySem.W.BT.node (ho_548 P) (PySem.W.BT.node (ho_564 P) (PySem.W.BT.node (ho_601 P) (PySem.W.BT.node (ho_667 P) (PySem.W.BT.node (ho_799 P) PySem.W.BT.nil PySem.W.BT.nil) PySem.W.BT.nil) (PySem.W.BT.node (ho_733 P) PySem.W.BT.nil PySem.W.BT.nil)) (PySem.W.BT.node (ho_633 P) (PySem.W.BT.node (ho_699 P) PySem.W.BT.nil PySem.W.BT.nil) (PySem.W.BT.node (ho_767 P) PySem.W.BT.nil PySem.W.BT.nil))) (PySem.W.BT.node (ho_583 P) (PySem.W.BT.node (ho_617 P) (PySem.W.BT.node (ho_683 P) PySem.W.BT.nil PySem.W.BT.nil) (PySem.W.BT.node (ho_749 P) PySem.W.BT.nil PySem.W.BT.nil)) (PySem.W.BT.node (ho_649 P) (PySem.W.BT.node (ho_717 P) PySem.W.BT.nil PySem.W.BT.nil) (PySem.W.BT.node (ho_783 P) PySem.W.BT.nil PySem.W.BT.nil)))) (PySem.W.BT.node (ho_556 P) (PySem.W.BT.node (ho_572 P) (PySem.W.BT.node (ho_609 P) (PySem.W.BT.node (ho_675 P) (PySem.W.BT.node (ho_807 P) PySem.W.BT.nil PySem.W.BT.nil) PySem.W.BT.nil) (PySem.W.BT.node (ho_741 P) PySem.W.BT.nil PySem.W.BT.nil)) (PySem.W.BT.node (ho_641 P) (PySem.W.BT.node (ho_709 P) PySem.W.BT.nil PySem.W.BT.nil) (PySem.W.BT.node (ho_775 P) PySem.W.BT.nil PySem.W.BT.nil))) (PySem.W.BT.node (ho_591 P) (PySem.W.BT.node (ho_625 P) (PySem.W.BT.node (ho_691 P) PySem.W.BT.nil PySem.W.BT.nil) (PySem.W.BT.node (ho_757 P) PySem.W.BT.nil PySem.W.BT.nil)) (PySem.W.BT.node (ho_657 P) (PySem.W.BT.node (ho_725 P) PySem.W.BT.nil PySem.W.BT.nil) (PySem.W.BT.node (ho_791 P) PySem.W.BT.nil PySem.W.BT.nil))))) (PySem.W.BT.node (ho_539 P) (PySem.W.BT.node (ho_552 P) (PySem.W.BT.node (ho_568 P) (PySem.W.BT.node (ho_605 P) (PySem.W.BT.node (ho_671 P) (PySem.W.BT.node (ho_803 P) PySem.W.BT.nil PySem.W.BT.nil) PySem.W.BT.nil) (PySem.W.BT.node (ho_737 P) PySem.W.BT.nil PySem.W.BT.nil)) (PySem.W.BT.node (ho_637 P) (PySem.W.BT.node (ho_705 P) PySem.W.BT.nil PySem.W.BT.nil) (PySem.W.BT.node (ho_771 P) PySem.W.BT.nil PySem.W.BT.nil))) (PySem.W.BT.node (ho_587 P) (PySem.W.BT.node (ho_621 P) (PySem.W.BT.node (ho_687 P) PySem.W.BT.nil PySem.W.BT.nil) (PySem.W.BT.node (ho_753 P) PySem.W.BT.nil PySem.W.BT.nil)) (PySem.W.BT.node (ho_653 P) (PySem.W.BT.node (ho_721 P) PySem.W.BT.nil PySem.W.BT.nil) (PySem.W.BT.node (ho_787 P) PySem.W.BT.nil PySem.W.BT.nil)))) (PySem.W.BT.node (ho_560 P) (PySem.W.BT.node (ho_576 P) (PySem.W.BT.node (ho_613 P) (PySem.W.BT.node (ho_679 P) (PySem.W.BT.node (ho_811 P) PySem.W.BT.nil PySem.W.BT.nil) PySem.W.BT.nil) (PySem.W.BT.node (ho_745 P) PySem.W.BT.nil PySem.W.BT.nil)) (PySem.W.BT.node (ho_645 P) (PySem.W.BT.node (ho_713 P) PySem.W.BT.nil PySem.W.BT.nil) (PySem.W.BT.node (ho_779 P) PySem.W.BT.nil PySem.W.BT.nil))) (PySem.W.BT.node (ho_597 P) (PySem.W.BT.node (ho_629 P) (PySem.W.BT.node (ho_695 P) PySem.W.BT.nil PySem.W.BT.nil) (PySem.W.BT.node (ho_763 P) PySem.W.BT.nil PySem.W.BT.nil)) (PySem.W.BT.node (ho_661 P) (PySem.W.BT.node (ho_729 P) PySem.W.BT.nil PySem.W.BT.nil) (PySem.W.BT.node (ho_795 P) PySem.W.BT.nil PySem.W.BT.nil)))))) (PySem.W.BT.node (PySem.W.boot_o_5 P) (PySem.W.BT.node (PySem.W.boot_o_9 P) (PySem.W.BT.node (ho_550 P) (PySem.W.BT.node (ho_566 P) (PySem.W.BT.node (ho_603 P) (PySem.W.BT.node (ho_669 P) (PySem.W.BT.node (ho_801 P) PySem.W.BT.nil PySem.W.BT.nil) PySem.W.BT.nil) (PySem.W.BT.node (ho_735 P) PySem.W.BT.nil PySem.W.BT.nil)) (PySem.W.BT.node (ho_635 P) (PySem.W.BT.node (ho_701 P) PySem.W.BT.nil PySem.W.BT.nil) (PySem.W.BT.node (ho_769 P) PySem.W.BT.nil PySem.W.BT.nil))) (PySem.W.BT.node (ho_585 P) (PySem.W.BT.node (ho_619 P) (PySem.W.BT.node (ho_685 P) PySem.W.BT.nil PySem.W.BT.nil) (PySem.W.BT.node (ho_751 P) PySem.W.BT.nil PySem.W.BT.nil)) (PySem.W.BT.node (ho_651 P) (PySem.W.BT.node (ho_719 P) PySem.W.BT.nil PySem.W.BT.nil) (PySem.W.BT.node (ho_785 P) PySem.W.BT.nil PySem.W.BT.nil)))) (PySem.W.BT.node (ho_558 P) (PySem.W.BT.node (ho_574 P) (PySem.W.BT.node (ho_611 P) (PySem.W.BT.node (ho_677 P) (PySem.W.BT.node (ho_809 P) PySem.W.BT.nil PySem.W.BT.nil) PySem.W.BT.nil) (PySem.W.BT.node (ho_743 P) PySem.W.BT.nil PySem.W.BT.nil)) (PySem.W.BT.node (ho_643 P) (PySem.W.BT.node (ho_711 P) PySem.W.BT.nil PySem.W.BT.nil) (PySem.W.BT.node (ho_777 P) PySem.W.BT.nil PySem.W.BT.nil))) (PySem.W.BT.node (ho_595 P) (PySem.W.BT.node (ho_627 P) (PySem.W.BT.node (ho_693 P) PySem.W.BT.nil PySem.W.BT.nil) (PySem.W.BT.node (ho_759 P) PySem.W.BT.nil PySem.W.BT.nil)) (PySem.W.BT.node (ho_659 P) (PySem.W.BT.node (ho_727 P) PySem.W.BT.nil PySem.W.BT.nil) (PySem.W.BT.node (ho_793 P) PySem.W.BT.nil PySem.W.BT.nil))))) (PySem.W.BT.node (ho_541 P) (PySem.W.BT.node (ho_554 P) (PySem.W.BT.node (ho_570 P) (PySem.W.BT.node (ho_607 P) (PySem.W.BT.node (ho_673 P) (PySem.W.BT.node (ho_805 P) PySem.W.BT.nil PySem.W.BT.nil) PySem.W.BT.nil) (PySem.W.BT.node (ho_739 P) PySem.W.BT.nil PySem.W.BT.nil)) (PySem.W.BT.node (ho_639 P) (PySem.W.BT.node (ho_707 P) PySem.W.BT.nil PySem.W.BT.nil) (PySem.W.BT.node (ho_773 P) PySem.W.BT.nil PySem.W.BT.nil))) (PySem.W.BT.node (ho_589 P) (PySem.W.BT.node (ho_623 P) (PySem.W.BT.node (ho_689 P) PySem.W.BT.nil PySem.W.BT.nil) (PySem.W.BT.node (ho_755 P) PySem.W.BT.nil PySem.W.BT.nil)) (PySem.W.BT.node (ho_655 P) (PySem.W.BT.node (ho_723 P) PySem.W.BT.nil PySem.W.BT.nil) (PySem.W.BT.node (ho_789 P) PySem.W.BT.nil PySem.W.BT.nil)))) (PySem.W.BT.node (ho_562 P) (PySem.W.BT.node (ho_581 P) (PySem.W.BT.node (ho_615 P) (PySem.W.BT.node (ho_681 P) (PySem.W.BT.node (ho_813 P) PySem.W.BT.nil PySem.W.BT.nil) PySem.W.BT.nil) (PySem.W.BT.node (ho_747 P) PySem.W.BT.nil PySem.W.BT.nil)) (PySem.W.BT.node (ho_647 P) (PySem.W.BT.node (ho_715 P) PySem.W.BT.nil PySem.W.BT.nil) (PySem.W.BT.node (ho_781 P) PySem.W.BT.nil PySem.W.BT.nil))) (PySem.W.BT.node (ho_599 P) (PySem.W.BT.node (ho_631 P) (PySem.W.BT.node (ho_697 P) PySem.W.BT.nil PySem.W.BT.nil) (PySem.W.BT.node (ho_765 P) PySem.W.BT.nil PySem.W.BT.nil)) (PySem.W.BT.node (ho_663 P) (PySem.W.BT.node (ho_731 P) PySem.W.BT.nil PySem.W.BT.nil) (PySem.W.BT.node (ho_797 P) PySem.W.BT.nil PySem.W.BT.nil))))))) (PySem.W.BT.node (ho_545 P) (PySem.W.BT.node (PySem.W.boot_o_4 P) (PySem.W.BT.node (PySem.W.boot_o_8 P) (PySem.W.BT.node (ho_549 P) (PySem.W.BT.node (ho_565 P) (PySem.W.BT.node (ho_602 P) (PySem.W.BT.node (ho_668 P) (PySem.W.BT.node (ho_800 P) PySem.W.BT.nil PySem.W.BT.nil) PySem.W.BT.nil) (PySem.W.BT.node (ho_734 P) PySem.W.BT.nil PySem.W.BT.nil)) (PySem.W.BT.node (ho_634 P) (PySem.W.BT.node (ho_700 P) PySem.W.BT.nil PySem.W.BT.nil) (PySem.W.BT.node (ho_768 P) PySem.W.BT.nil PySem.W.BT.nil))) (PySem.W.BT.node (ho_584 P) (PySem.W.BT.node (ho_618 P) (PySem.W.BT.node (ho_684 P) PySem.W.BT.nil PySem.W.BT.nil) (PySem.W.BT.node (ho_750 P) PySem.W.BT.nil PySem.W.BT.nil)) (PySem.W.BT.node (ho_650 P) (PySem.W.BT.node (ho_718 P) PySem.W.BT.nil PySem.W.BT.nil) (PySem.W.BT.node (ho_784 P) PySem.W.BT.nil PySem.W.BT.nil)))) (PySem.W.BT.node (ho_557 P) (PySem.W.BT.node (ho_579 P) (PySem.W.BT.node (ho_610 P) (PySem.W.BT.node (ho_676 P) (PySem.W.BT.node (ho_808 P) PySem.W.BT.nil PySem.W.BT.nil) PySem.W.BT.nil) (PySem.W.BT.node (ho_742 P) PySem.W.BT.nil PySem.W.BT.nil)) (PySem.W.BT.node (ho_642 P) (PySem.W.BT.node (ho_710 P) PySem.W.BT.nil PySem.W.BT.nil) (PySem.W.BT.node (ho_776 P) PySem.W.BT.nil PySem.W.BT.nil))) (PySem.W.BT.node (ho_594 P) (PySem.W.BT.node (ho_626 P) (PySem.W.BT.node (ho_692 P) PySem.W.BT.nil PySem.W.BT.nil) (PySem.W.BT.node (ho_758 P) PySem.W.BT.nil PySem.W.BT.nil)) (PySem.W.BT.node (ho_658 P) (PySem.W.BT.node (ho_726 P) PySem.W.BT.nil PySem.W.BT.nil) (PySem.W.BT.node (ho_792 P) PySem.W.BT.nil PySem.W.BT.nil))))) (PySem.W.BT.node (ho_761 P) (PySem.W.BT.node (ho_553 P) (PySem.W.BT.node (ho_569 P) (PySem.W.BT.node (ho_606 P) (PySem.W.BT.node (ho_672 P) (PySem.W.BT.node (ho_804 P) PySem.W.BT.nil PySem.W.BT.nil) PySem.W.BT.nil) (PySem.W.BT.node (ho_738 P) PySem.W.BT.nil PySem.W.BT.nil)) (PySem.W.BT.node (ho_638 P) (PySem.W.BT.node (ho_706 P) PySem.W.BT.nil PySem.W.BT.nil) (PySem.W.BT.node (ho_772 P) PySem.W.BT.nil PySem.W.BT.nil))) (PySem.W.BT.node (ho_588 P) (PySem.W.BT.node (ho_622 P) (PySem.W.BT.node (ho_688 P) PySem.W.BT.nil PySem.W.BT.nil) (PySem.W.BT.node (ho_754 P) PySem.W.BT.nil PySem.W.BT.nil)) (PySem.W.BT.node (ho_654 P) (PySem.W.BT.node (ho_722 P) PySem.W.BT.nil PySem.W.BT.nil) (PySem.W.BT.node (ho_788 P) PySem.W.BT.nil PySem.W.BT.nil)))) (PySem.W.BT.node (ho_561 P) (PySem.W.BT.node (ho_580 P) (PySem.W.BT.node (ho_614 P) (PySem.W.BT.node (ho_680 P) (PySem.W.BT.node (ho_812 P) PySem.W.BT.nil PySem.W.BT.nil) PySem.W.BT.nil) (PySem.W.BT.node (ho_746 P) PySem.W.BT.nil PySem.W.BT.nil)) (PySem.W.BT.node (ho_646 P) (PySem.W.BT.node (ho_714 P) PySem.W.BT.nil PySem.W.BT.nil) (PySem.W.BT.node (ho_780 P) PySem.W.BT.nil PySem.W.BT.nil))) (PySem.W.BT.node (ho_598 P) (PySem.W.BT.node (ho_630 P) (PySem.W.BT.node (ho_696 P) PySem.W.BT.nil PySem.W.BT.nil) (PySem.W.BT.node (ho_764 P) PySem.W.BT.nil PySem.W.BT.nil)) (PySem.W.BT.node (ho_662 P) (PySem.W.BT.node (ho_730 P) PySem.W.BT.nil PySem.W.BT.nil) (PySem.W.BT.node (ho_796 P) PySem.W.BT.nil PySem.W.BT.nil)))))) (PySem.W.BT.node (PySem.W.boot_o_6 P) (PySem.W.BT.node (PySem.W.boot_o_10 P) (PySem.W.BT.node (ho_551 P) (PySem.W.BT.node (ho_567 P) (PySem.W.BT.node (ho_604 P) (PySem.W.BT.node (ho_670 P) (PySem.W.BT.node (ho_802 P) PySem.W.BT.nil PySem.W.BT.nil) PySem.W.BT.nil) (PySem.W.BT.node (ho_736 P) PySem.W.BT.nil PySem.W.BT.nil)) (PySem.W.BT.node (ho_636 P) (PySem.W.BT.node (ho_704 P) PySem.W.BT.nil PySem.W.BT.nil) (PySem.W.BT.node (ho_770 P) PySem.W.BT.nil PySem.W.BT.nil))) (PySem.W.BT.node (ho_586 P) (PySem.W.BT.node (ho_620 P) (PySem.W.BT.node (ho_686 P) PySem.W.BT.nil PySem.W.BT.nil) (PySem.W.BT.node (ho_752 P) PySem.W.BT.nil PySem.W.BT.nil)) (PySem.W.BT.node (ho_652 P) (PySem.W.BT.node (ho_720 P) PySem.W.BT.nil PySem.W.BT.nil) (PySem.W.BT.node (ho_786 P) PySem.W.BT.nil PySem.W.BT.nil)))) (PySem.W.BT.node (ho_559 P) (PySem.W.BT.node (ho_575 P) (PySem.W.BT.node (ho_612 P) (PySem.W.BT.node (ho_678 P) (PySem.W.BT.node (ho_810 P) PySem.W.BT.nil PySem.W.BT.nil) PySem.W.BT.nil) (PySem.W.BT.node (ho_744 P) PySem.W.BT.nil PySem.W.BT.nil)) (PySem.W.BT.node (ho_644 P) (PySem.W.BT.node (ho_712 P) PySem.W.BT.nil PySem.W.BT.nil) (PySem.W.BT.node (ho_778 P) PySem.W.BT.nil PySem.W.BT.nil))) (PySem.W.BT.node (ho_596 P) (PySem.W.BT.node (ho_628 P) (PySem.W.BT.node (ho_694 P) PySem.W.BT.nil PySem.W.BT.nil) (PySem.W.BT.node (ho_762 P) PySem.W.BT.nil PySem.W.BT.nil)) (PySem.W.BT.node (ho_660 P) (PySem.W.BT.node (ho_728 P) PySem.W.BT.nil PySem.W.BT.nil) (PySem.W.BT.node (ho_794 P) PySem.W.BT.nil PySem.W.BT.nil))))) (PySem.W.BT.node (ho_542 P) (PySem.W.BT.node (ho_555 P) (PySem.W.BT.node (ho_571 P) (PySem.W.BT.node (ho_608 P) (PySem.W.BT.node (ho_674 P) (PySem.W.BT.node (ho_806 P) PySem.W.BT.nil PySem.W.BT.nil) PySem.W.BT.nil) (PySem.W.BT.node (ho_740 P) PySem.W.BT.nil PySem.W.BT.nil)) (PySem.W.BT.node (ho_640 P) (PySem.W.BT.node (ho_708 P) PySem.W.BT.nil PySem.W.BT.nil) (PySem.W.BT.node (ho_774 P) PySem.W.BT.nil PySem.W.BT.nil))) (PySem.W.BT.node (ho_590 P) (PySem.W.BT.node (ho_624 P) (PySem.W.BT.node (ho_690 P) PySem.W.BT.nil PySem.W.BT.nil) (PySem.W.BT.node (ho_756 P) PySem.W.BT.nil PySem.W.BT.nil)) (PySem.W.BT.node (ho_656 P) (PySem.W.BT.node (ho_724 P) PySem.W.BT.nil PySem.W.BT.nil) (PySem.W.BT.node (ho_790 P) PySem.W.BT.nil PySem.W.BT.nil)))) (PySem.W.BT.node (ho_563 P) (PySem.W.BT.node (ho_582 P) (PySem.W.BT.node (ho_616 P) (PySem.W.BT.node (ho_682 P) PySem.W.BT.nil PySem.W.BT.nil) (PySem.W.BT.node (ho_748 P) PySem.W.BT.nil PySem.W.BT.nil)) (PySem.W.BT.node (ho_648 P) (PySem.W.BT.node (ho_716 P) PySem.W.BT.nil PySem.W.BT.nil) (PySem.W.BT.node (ho_782 P) PySem.W.BT.nil PySem.W.BT.nil))) (PySem.W.BT.node (ho_600 P) (PySem.W.BT.node (ho_632 P) (PySem.W.BT.node (ho_698 P) PySem.W.BT.nil PySem.W.BT.nil) (PySem.W.BT.node (ho_766 P) PySem.W.BT.nil PySem.W.BT.nil)) (PySem.W.BT.node (ho_664 P) (PySem.W.BT.node (ho_732 P) PySem.W.BT.nil PySem.W.BT.nil) (PySem.W.BT.node (ho_798 P) PySem.W.BT.nil PySem.W.BT.nil))))))))
noncomputable def heap_542 (P : Params) : Heap := (PySem.Heap.mk ⟨[(PySem.W.boot_o_0 P), (PySem.W.boot_o_1 P), (PySem.W.boot_o_2 P), (PySem.W.boot_o_3 P), (PySem.W.boot_o_4 P), (PySem.W.boot_o_5 P), (PySem.W.boot_o_6 P), (PySem.W.boot_o_7 P), (PySem.W.boot_o_8 P), (PySem.W.boot_o_9 P), (PySem.W.boot_o_10 P), (ho_539 P), (ho_540 P), (ho_541 P), (ho_542 P)]⟩ (PySem.Life.mk [] [] [] (nat_lit 0) [] [] Bool.false ⟨[]⟩ [] (nat_lit 0) Bool.false Bool.false Bool.false (Int.ofNat (nat_lit 0)) [(Int.ofNat (nat_lit 2000)), (Int.ofNat (nat_lit 10)), (Int.ofNat (nat_lit 10))] Bool.false (nat_lit 0) Bool.true [] [] (nat_lit 0) Bool.false))
noncomputable def heap_814 (P : Params) : Heap := (PySem.Heap.mk ⟨[(PySem.W.boot_o_0 P), (PySem.W.boot_o_1 P), (ho_545 P), (ho_760 P), (PySem.W.boot_o_4 P), (PySem.W.boot_o_5 P), (PySem.W.boot_o_6 P), (PySem.W.boot_o_7 P), (PySem.W.boot_o_8 P), (PySem.W.boot_o_9 P), (PySem.W.boot_o_10 P), (ho_539 P), (ho_761 P), (ho_541 P), (ho_542 P), (ho_548 P), (ho_549 P), (ho_550 P), (ho_551 P), (ho_552 P), (ho_553 P), (ho_554 P), (ho_555 P), (ho_556 P), (ho_557 P), (ho_558 P), (ho_559 P), (ho_560 P), (ho_561 P), (ho_562 P), (ho_563 P), (ho_564 P), (ho_565 P), (ho_566 P), (ho_567 P), (ho_568 P), (ho_569 P), (ho_570 P), (ho_571 P), (ho_572 P), (ho_579 P), (ho_574 P), (ho_575 P), (ho_576 P), (ho_580 P), (ho_581 P), (ho_582 P), (ho_583 P), (ho_584 P), (ho_585 P), (ho_586 P), (ho_587 P), (ho_588 P), (ho_589 P), (ho_590 P), (ho_591 P), (ho_594 P), (ho_595 P), (ho_596 P), (ho_597 P), (ho_598 P), (ho_599 P), (ho_600 P), (ho_601 P), (ho_602 P), (ho_603 P), (ho_604 P), (ho_605 P), (ho_606 P), (ho_607 P), (ho_608 P), (ho_609 P), (ho_610 P), (ho_611 P), (ho_612 P), (ho_613 P), (ho_614 P), (ho_615 P), (ho_616 P), (ho_617 P), (ho_618 P), (ho_619 P), (ho_620 P), (ho_621 P), (ho_622 P), (ho_623 P), (ho_624 P), (ho_625 P), (ho_626 P), (ho_627 P), (ho_628 P), (ho_629 P), (ho_630 P), (ho_631 P), (ho_632 P), (ho_633 P), (ho_634 P), (ho_635 P), (ho_636 P), (ho_637 P), (ho_638 P), (ho_639 P), (ho_640 P), (ho_641 P), (ho_642 P), (ho_643 P), (ho_644 P), (ho_645 P), (ho_646 P), (ho_647 P), (ho_648 P), (ho_649 P), (ho_650 P), (ho_651 P), (ho_652 P), (ho_653 P), (ho_654 P), (ho_655 P), (ho_656 P), (ho_657 P), (ho_658 P), (ho_659 P), (ho_660 P), (ho_661 P), (ho_662 P), (ho_663 P), (ho_664 P), (ho_667 P), (ho_668 P), (ho_669 P), (ho_670 P), (ho_671 P), (ho_672 P), (ho_673 P), (ho_674 P), (ho_675 P), (ho_676 P), (ho_677 P), (ho_678 P), (ho_679 P), (ho_680 P), (ho_681 P), (ho_682 P), (ho_683 P), (ho_684 P), (ho_685 P), (ho_686 P), (ho_687 P), (ho_688 P), (ho_689 P), (ho_690 P), (ho_691 P), (ho_692 P), (ho_693 P), (ho_694 P), (ho_695 P), (ho_696 P), (ho_697 P), (ho_698 P), (ho_699 P), (ho_700 P), (ho_701 P), (ho_704 P), (ho_705 P), (ho_706 P), (ho_707 P), (ho_708 P), (ho_709 P), (ho_710 P), (ho_711 P), (ho_712 P), (ho_713 P), (ho_714 P), (ho_715 P), (ho_716 P), (ho_717 P), (ho_718 P), (ho_719 P), (ho_720 P), (ho_721 P), (ho_722 P), (ho_723 P), (ho_724 P), (ho_725 P), (ho_726 P), (ho_727 P), (ho_728 P), (ho_729 P), (ho_730 P), (ho_731 P), (ho_732 P), (ho_733 P), (ho_734 P), (ho_735 P), (ho_736 P), (ho_737 P), (ho_738 P), (ho_739 P), (ho_740 P), (ho_741 P), (ho_742 P), (ho_743 P), (ho_744 P), (ho_745 P), (ho_746 P), (ho_747 P), (ho_748 P), (ho_749 P), (ho_750 P), (ho_751 P), (ho_752 P), (ho_753 P), (ho_754 P), (ho_755 P), (ho_756 P), (ho_757 P), (ho_758 P), (ho_759 P), (ho_762 P), (ho_763 P), (ho_764 P), (ho_765 P), (ho_766 P), (ho_767 P), (ho_768 P), (ho_769 P), (ho_770 P), (ho_771 P), (ho_772 P), (ho_773 P), (ho_774 P), (ho_775 P), (ho_776 P), (ho_777 P), (ho_778 P), (ho_779 P), (ho_780 P), (ho_781 P), (ho_782 P), (ho_783 P), (ho_784 P), (ho_785 P), (ho_786 P), (ho_787 P), (ho_788 P), (ho_789 P), (ho_790 P), (ho_791 P), (ho_792 P), (ho_793 P), (ho_794 P), (ho_795 P), (ho_796 P), (ho_797 P), (ho_798 P), (ho_799 P), (ho_800 P), (ho_801 P), (ho_802 P), (ho_803 P), (ho_804 P), (ho_805 P), (ho_806 P), (ho_807 P), (ho_808 P), (ho_809 P), (ho_810 P), (ho_811 P), (ho_812 P), (ho_813 P)]⟩ (PySem.Life.mk [] [] [] (nat_lit 0) [] [] Bool.false ⟨[]⟩ [] (nat_lit 0) Bool.false Bool.false Bool.false (Int.ofNat (nat_lit 0)) [(Int.ofNat (nat_lit 2000)), (Int.ofNat (nat_lit 10)), (Int.ofNat (nat_lit 10))] Bool.false (nat_lit 0) Bool.true [] [] (nat_lit 0) Bool.false))
noncomputable abbrev hEnv : Env := { scope := prog1.main.scope, locals := mainNs, globals := mainNs, cells := [], code := .ref 13, frame := some 14 }
noncomputable abbrev hCode : Code := .body (behindTheImports prog1) hEnv
noncomputable abbrev hSt (t : Params → BT) (n tk : Nat) (w : World) (os : OsState) : SharedT := { tree := t w.params, n := n, life := {}, gens := #[], drawn := {}, toks := tk, os := os }
theorem hp_go (w : World) : (fun os : OsState => topGo treeTable prog1 w 11 (some (.ref 6)) 12 ⟨boot_heap w.params, #[], boot_drawn, boot_toks, os⟩ (topStub prog1)) = fun os => some (⟨heap_542 w.params, #[], {}, 187, os⟩, ⟨denote treeTable hCode, hCode, ⟨0, 0, 0, 0⟩, [topFrame ⟨0, 0, 0, 0⟩]⟩) := by kernel_rfl
theorem hp_block (w : World) : (fun os : OsState => segRun treeTable prog1 w 11 (some (.ref 6)) 1 1 ⟨heap_542 w.params, #[], {}, 187, os⟩ (blockOf (behindTheImports prog1) hEnv hCode ⟨0, 0, 0, 0⟩ [topFrame ⟨0, 0, 0, 0⟩])) = fun os => some (.next, (hSt tree_543 15 187 w os).abs, hCode, ⟨0, 0, 0, 0⟩) := by kernel_rfl
theorem hp_0 (w : World) : (fun os : OsState => segRunT treeTable prog1 w 11 (some (.ref 6)) 1 276 (hSt tree_543 15 187 w os) (piecesOf [st0, st1] hEnv hCode ⟨0, 0, 0, 0⟩ [topFrame ⟨0, 0, 0, 0⟩])) = fun os => some (.next, hSt tree_576 44 229 w os, hCode, ⟨2, 0, 10, 35⟩) := by kernel_rfl
theorem hp_1 (w : World) : (fun os : OsState => segRunT treeTable prog1 w 11 (some (.ref 6)) 1 223 (hSt tree_576 44 229 w os) (piecesOf [st2, st3] hEnv hCode ⟨2, 0, 10, 35⟩ [topFrame ⟨0, 0, 0, 0⟩])) = fun os => some (.next, hSt tree_591 56 247 w os, hCode, ⟨13, 0, 13, 8⟩) := by kernel_rfl
theorem hp_2 (w : World) : (fun os : OsState => segRunT treeTable prog1 w 11 (some (.ref 6)) 1 454 (hSt tree_591 56 247 w os) (piecesOf [st4] hEnv hCode ⟨13, 0, 13, 8⟩ [topFrame ⟨0, 0, 0, 0⟩])) = fun os => some (.next, hSt tree_664 127 338 w os, hCode, ⟨14, 0, 49, 34⟩) := by kernel_rfl
theorem hp_3 (w : World) : (fun os : OsState => segRunT treeTable prog1 w 11 (some (.ref 6)) 1 164 (hSt tree_664 127 338 w os) (piecesOf [st5, st6, st7, st8, st9, st10] hEnv hCode ⟨14, 0, 49, 34⟩ [topFrame ⟨0, 0, 0, 0⟩])) = fun os => some (.next, hSt tree_701 162 384 w os, hCode, ⟨93, 0, 93, 8⟩) := by kernel_rfl
theorem hp_4 (w : World) : (fun os : OsState => segRunT treeTable prog1 w 11 (some (.ref 6)) 1 391 (hSt tree_701 162 384 w os) (piecesOf [st11, st12, st13, st14, st15, st16] hEnv hCode ⟨93, 0, 93, 8⟩ [topFrame ⟨0, 0, 0, 0⟩])) = fun os => some (.next, hSt tree_759 218 461 w os, hCode, ⟨116, 0, 120, 115⟩) := by kernel_rfl
theorem hp_5 (w : World) : (fun os : OsState => segRunT treeTable prog1 w 11 (some (.ref 6)) 1 248 (hSt tree_759 218 461 w os) (piecesOf [st17, st18, st19, st20, st21, st22, st23, st24] hEnv hCode ⟨116, 0, 120, 115⟩ [topFrame ⟨0, 0, 0, 0⟩])) = fun os => some (.next, hSt tree_813 270 536 w os, hCode, ⟨201, 0, 210, 15⟩) := by kernel_rfl
theorem hp_fin (w : World) : (fun os : OsState => topRun treeTable prog1 w 11 (some (.ref 6)) 2 (hSt tree_813 270 536 w os).abs ⟨doneF .next, hCode, ⟨201, 0, 210, 15⟩, [topFrame ⟨0, 0, 0, 0⟩]⟩) = fun os => some ⟨heap_814 w.params, #[], {}, 536, os⟩ := by kernel_rfl
end Mine
end

noncomputable section
open PySem PySem.W PyProof.Rows PySem.Calls
set_option Elab.async false
set_option linter.unusedVariables false
namespace Mine
set_option maxRecDepth 100000
set_option maxHeartbeats 0
def qv : Program := { prog1 with main := { prog1.main with body := [st24] } }
def lw : List Str := [Str.ofString "LedgerError", Str.ofString "CopyFault", Str.ofString "Walk", Str.ofString "read_pseudo", Str.ofString "read_side", Str.ofString "read_pair", Str.ofString "read_pairs", Str.ofString "read_copy", Str.ofString "Token", Str.ofString "_law_take", Str.ofString "_law_bag", Str.ofString "_law_single", Str.ofString "_law_side", Str.ofString "_law_rows", Str.ofString "_law_one_side", Str.ofString "_law_due", Str.ofString "_law_plain", Str.ofString "_law_heard", Str.ofString "_law_written", Str.ofString "_law_cut"]
def kas : List Addr := [2, 3, 15, 22, 23, 24, 26, 27, 29, 30, 31, 33, 34, 36, 37, 38, 39, 40, 41, 44, 51, 52, 53, 63, 64, 66, 67, 69, 70, 71, 73, 74, 76, 77, 78, 80, 81, 83, 84, 85, 87, 88, 90, 91, 92, 94, 95, 97, 98, 99, 101, 102, 104, 105, 106, 108, 109, 111, 112, 113, 115, 116, 118, 119, 120, 121, 122, 123, 124, 127, 129, 130, 132, 133, 134, 136, 137, 139, 140, 141, 143, 144, 146, 147, 148, 150, 151, 153, 154, 155, 157, 158, 160, 161, 169, 170, 171, 173, 174, 176, 177, 178, 180, 181, 183, 184, 185, 186, 187, 188, 189, 192, 194, 195, 197, 198, 199, 201, 202, 204, 205, 206, 208, 209, 211, 212, 213, 216, 217, 218, 220, 221, 223, 224, 225, 227, 228, 230, 231, 232, 234, 235, 237, 238, 239, 242, 243, 244, 247, 248, 249, 251, 252, 254, 255, 256, 258, 259, 261, 262, 263, 265, 266, 268, 269]
def hYf (s : Shared) : List (Option Obj) := kas.map s.heap.get?
noncomputable def hYa (w : World) : List (Option Obj) := (KM w.params).map fun p => some p.2
theorem hp_body : behindTheImports prog1 = ([st0, st1] ++ ([st2, st3] ++ ([st4] ++ ([st5, st6, st7, st8, st9, st10] ++ ([st11, st12, st13, st14, st15, st16] ++ ([st17, st18, st19, st20, st21, st22, st23, st24] ++ [])))))) := by kernel_rfl
theorem hp_rest (w : World) (os : OsState) : topRun treeTable prog1 w 11 (some (.ref 6)) (276 + (223 + (454 + (164 + (391 + (248 + 2)))))) (hSt tree_543 15 187 w os).abs (restOf (behindTheImports prog1) hEnv hCode ⟨0, 0, 0, 0⟩ [topFrame ⟨0, 0, 0, 0⟩]) = some ⟨heap_814 w.params, #[], {}, 536, os⟩ := by
  have k := (piece_app (l := [st0, st1]) (rest := ([st2, st3] ++ ([st4] ++ ([st5, st6, st7, st8, st9, st10] ++ ([st11, st12, st13, st14, st15, st16] ++ ([st17, st18, st19, st20, st21, st22, st23, st24] ++ [])))))) (segRun_of (congrFun (hp_0 w) os)) (piece_app (l := [st2, st3]) (rest := ([st4] ++ ([st5, st6, st7, st8, st9, st10] ++ ([st11, st12, st13, st14, st15, st16] ++ ([st17, st18, st19, st20, st21, st22, st23, st24] ++ []))))) (segRun_of (congrFun (hp_1 w) os)) (piece_app (l := [st4]) (rest := ([st5, st6, st7, st8, st9, st10] ++ ([st11, st12, st13, st14, st15, st16] ++ ([st17, st18, st19, st20, st21, st22, st23, st24] ++ [])))) (segRun_of (congrFun (hp_2 w) os)) (piece_app (l := [st5, st6, st7, st8, st9, st10]) (rest := ([st11, st12, st13, st14, st15, st16] ++ ([st17, st18, st19, st20, st21, st22, st23, st24] ++ []))) (segRun_of (congrFun (hp_3 w) os)) (piece_app (l := [st11, st12, st13, st14, st15, st16]) (rest := ([st17, st18, st19, st20, st21, st22, st23, st24] ++ [])) (segRun_of (congrFun (hp_4 w) os)) (piece_app (l := [st17, st18, st19, st20, st21, st22, st23, st24]) (rest := []) (segRun_of (congrFun (hp_5 w) os)) (piece_nil (congrFun (hp_fin w) os))))))))
  have e : ∀ b, b = behindTheImports prog1 → topRun treeTable prog1 w 11 (some (.ref 6)) (276 + (223 + (454 + (164 + (391 + (248 + 2)))))) (hSt tree_543 15 187 w os).abs (restOf b hEnv hCode ⟨0, 0, 0, 0⟩ [topFrame ⟨0, 0, 0, 0⟩]) = some ⟨heap_814 w.params, #[], {}, 536, os⟩ → topRun treeTable prog1 w 11 (some (.ref 6)) (276 + (223 + (454 + (164 + (391 + (248 + 2)))))) (hSt tree_543 15 187 w os).abs (restOf (behindTheImports prog1) hEnv hCode ⟨0, 0, 0, 0⟩ [topFrame ⟨0, 0, 0, 0⟩]) = some ⟨heap_814 w.params, #[], {}, 536, os⟩ := fun b h => h ▸ id
  exact e _ hp_body.symm k
theorem hp_run (w : World) (os : OsState) : topRun treeTable prog1 w 11 (some (.ref 6)) (12 + (1 + (276 + (223 + (454 + (164 + (391 + (248 + 2)))))))) ⟨boot_heap w.params, #[], boot_drawn, boot_toks, os⟩ (topStub prog1) = some ⟨heap_814 w.params, #[], {}, 536, os⟩ :=
  go_top (congrFun (hp_go w) os) (piece_block (congrFun (hp_block w) os) (hp_rest w os))
theorem hp_open : opening prog1 = plainProg prog1.main.scope.names := by kernel_rfl
theorem hp_fence : (fun s => fenceModules? prog1 s) = fun s => some s := by kernel_rfl
theorem hp_size (w : World) : ((boot_heap w.params).isNs mainGlobals && (#[] : Array GenState).size == 0, (boot_heap w.params).objs.size, (boot_heap w.params).nsMap mainGlobals "__annotations__") = (true, 11, some (.ref 6)) := by kernel_rfl
theorem hp_looks (w : World) : (fun os : OsState => ((staticsOk (importedModules prog1.main.body) (boot_heap w.params) (heap_814 w.params) && namesBound prog1 (heap_814 w.params) && gensDone ⟨heap_814 w.params, #[], {}, 536, os⟩ && laidKept (boot_heap w.params) (heap_814 w.params)), openSeen qv lw (importedModules prog1.main.body) (fun _ => true) true ⟨heap_814 w.params, #[], {}, 536, os⟩, hYf ⟨heap_814 w.params, #[], {}, 536, os⟩)) = fun _ => (true, openGood qv lw, hYa w) := by kernel_rfl
theorem left1 : LeftO prog1 qv lw (fun _ => true) hYf hYa 3626 :=
  LeftO.of_pieces (H₀ := boot_heap) (H₁ := heap_814) (gs₀ := #[]) (gs₁ := #[]) (d₀ := boot_drawn) (d₁ := {}) (k₀ := boot_toks) (k₁ := 536) (m₀ := 11) (ann := some (.ref 6)) (boot_open hp_open (by decide) fun s => congrFun hp_fence s) hp_size hp_run (by decide) hp_looks
end Mine
end

noncomputable section
open PySem PySem.W PyProof.Rows PySem.Calls
set_option Elab.async false
namespace Mine
set_option maxRecDepth 100000
set_option genSizeOf false
set_option genInjectivity false
set_option maxHeartbeats 8000000

/-- a row: the kind and the worth of a token -/
abbrev Row := Str × Str
noncomputable abbrev ent (P : Params) (x : Str) (t : Tok) (v : Value) : DictEntry := ⟨PyData.keyHash P x, .str x t, v⟩
noncomputable abbrev wdict (P : Params) (tl : Addr) (t1 t2 : Tok) (i : Int) (t3 : Tok) : Obj :=
  dictOf [ent P (Str.ofString "tokens") t1 (.ref tl), ent P (Str.ofString "at") t2 (.int i t3)] 2
noncomputable abbrev tupObj (vs : List Value) : Obj := { cls := .type "tuple", data := .seq vs.toArray }
noncomputable abbrev tdict (P : Params) (r : Row) (ta : Addr) (t1 t2 t3 t4 t5 t6 : Tok) : Obj :=
  dictOf [ent P (Str.ofString "kind") t1 (.str r.1 t2), ent P (Str.ofString "worth") t3 (.str r.2 t4), ent P (Str.ofString "at") t5 (.ref ta), ent P (Str.ofString "is_in_a") t6 (.bool false)] 4
/-- a token of this row, the j-th -/
inductive TokIn (P : Params) (imm : List (Addr × Obj)) (v : Value) (r : Row) (j : Nat) : Prop
  | mk (a d ta : Addr) (t1 t2 t3 t4 t5 t6 t7 t8 : Tok) (e : v = .ref a) (h1 : (a, instObj 187 d) ∈ imm) (h2 : (d, tdict P r ta t1 t2 t3 t4 t5 t6) ∈ imm) (h3 : (ta, tupObj [.int 3 t7, .int (j : Int) t8]) ∈ imm) : TokIn P imm v r j
noncomputable def ToksFrom (P : Params) (imm : List (Addr × Obj)) : List Value → List Row → Nat → Prop
  | [], [], _ => True
  | v :: vs, r :: rs, j => TokIn P imm v r j ∧ ToksFrom P imm vs rs (j + 1)
  | _, _, _ => False
theorem TokIn.mono {P : Params} {imm imm' : List (Addr × Obj)} (hs : ∀ p ∈ imm, p ∈ imm') {v : Value} {r : Row} {j : Nat} (h : TokIn P imm v r j) : TokIn P imm' v r j := by
  obtain ⟨a, d, ta, t1, t2, t3, t4, t5, t6, t7, t8, e, h1, h2, h3⟩ := h
  exact ⟨a, d, ta, t1, t2, t3, t4, t5, t6, t7, t8, e, hs _ h1, hs _ h2, hs _ h3⟩
theorem ToksFrom.mono {P : Params} {imm imm' : List (Addr × Obj)} (hs : ∀ p ∈ imm, p ∈ imm') {vs : List Value} {rs : List Row} {j : Nat} (h : ToksFrom P imm vs rs j) : ToksFrom P imm' vs rs j := by
  induction vs generalizing rs j with
  | nil => cases rs with
    | nil => trivial
    | cons r rs => exact h
  | cons v vs ih => cases rs with
    | nil => exact h
    | cons r rs => exact ⟨h.1.mono hs, ih h.2⟩

/-- room for n more calls, one in the other -/
structure Room (n : Nat) (A : Around) : Prop where
  dp : A.depth + n < recursionLimit
  un : A.units + 16 * n + 600 < cLine
theorem Room.lt {n : Nat} {A : Around} (R : Room n A) : A.depth < recursionLimit := by have := R.dp; omega
theorem Room.use {n k : Nat} {A : Around} (R : Room n A) (h : Nat.ble (k + 1) n = true) (env : Env) : Room k (A.deeper env) := by
  have h' := Nat.le_of_ble_eq_true h
  have := R.dp; have := R.un
  exact ⟨by show A.depth + 1 + k < _; omega, by show A.units + 3 + 16 * k + 600 < _; omega⟩
theorem Room.eq {n : Nat} {A : Around} (R : Room n A) : A.units + 500 < cLine := by have := R.un; omega

/-- where a call is made: the frame at hand, the frames below it, the program's own objects -/
structure Cx (w : World) (A : Around) (env : Env) (outer : List Env) (h₀ : Heap) (L : Addr) (m : Str → Option Value) (h : Heap) : Prop where
  B : ∃ A₀ base, Below A₀ base outer h₀
  F : Fr h₀ L h m
  X : (KM w.params).In h₀
  T : ∃ p loose mean mg mb, Top p loose mean mg mb h₀
  fr : A.frames = some (env :: outer)
  lo : env.frame = some L
  fn : env.scope.kind = .function
  hd : A.handled = none
theorem Cx.mk' {w : World} {A : Around} {env : Env} {outer : List Env} {base g h : Heap} {L' f : Addr} {m' : Str → Option Value} {q : Str} {sc : Scope} {cd : Value} {p : Program} {loose : List Str} {mean : ExcName → Option Value} {mg mb : Str → Option Value}
    (B : Below A base (env :: outer) g) (F : Fr g L' h m') (X : (KM w.params).In g) (T : Top p loose mean mg mb g) (hd : A.handled = none) (hk : sc.kind = .function := by rfl) : Cx w (A.deeper (envOf q sc L' f cd)) (envOf q sc L' f cd) (env :: outer) g L' m' h :=
  ⟨⟨_, _, B⟩, F, X, ⟨_, _, _, _, _, T⟩, Around.frames_deeper B.stack, rfl, hk, hd⟩
/-- what the callee's ground is made of -/
structure Gr (h : Heap) (news : List (Addr × Obj)) (g : Heap) (L' : Addr) : Prop where
  keep : ∀ b o, h.get? b = some o → (∀ q ∈ news, q.1 ≠ b) → g.get? b = some o
  size : h.objs.size = L'
def LeaveQ (h₀ : Heap) (L : Addr) (m : Str → Option Value) (g : Heap) (Q : Value → Shared → Prop) (v : Value) (s' : Shared) : Prop :=
  ∃ L' m' news', Fr g L' s'.heap m' ∧ News g L' s'.heap news' ∧ (Fr h₀ L s'.heap m → News h₀ L s'.heap news' → Q v s')
theorem leaveQ_ {h₀ g : Heap} {L L' : Addr} {m m' : Str → Option Value} {news' : List (Addr × Obj)} {Q : Value → Shared → Prop} {v : Value} {s' : Shared} (F' : Fr g L' s'.heap m') (N' : News g L' s'.heap news')
    (k : Fr h₀ L s'.heap m → News h₀ L s'.heap news' → Q v s') : LeaveQ h₀ L m g Q v s' := ⟨L', m', news', F', N', k⟩

theorem enter {w : World} {A : Around} {env : Env} {outer : List Env} {h₀ : Heap} {L : Addr} {m : Str → Option Value} {s : Shared} {news : List (Addr × Obj)} {Q E : Value → Shared → Prop}
    {name qual : Str} {params : Arguments} {body : List Stmt} {scope : Scope} {dV kV doc pm cdv ct oc : Value} {an od : Option Addr} {osl : Array (Option Value)} {f : Addr} {vals : List Value} (binds : List (Str × Value))
    (C : Cx w A env outer h₀ L m s.heap) (hr : A.depth < recursionLimit) (N : News h₀ L s.heap news)
    (ho : (KM w.params).lookup f = some ⟨oc, od, .func (fnOf name qual params body scope dV kV doc pm an cdv ct), osl⟩) (hcd : codeIn (KM w.params) cdv qual = true)
    (hbind : BindsTo s (fnOf name qual params body scope dV kV doc pm an cdv ct) ⟨vals, []⟩ binds) (hloc : ∀ y ∈ binds, scope.names.lookup y.1 = some .local)
    (h : ∀ g L' h₁ base p loose mean mg mb, Fr g L' h₁ (fun y => binds.reverse.lookup y) → News g L' h₁ news → Below A base (env :: outer) g → (KM w.params).In g → Top p loose mean mg mb g → Gr s.heap news g L' →
      wpAny (model prog0 w) (A.deeper (envOf qual scope L' f cdv)) (execs body (envOf qual scope L' f cdv))
        (fun fl s' => LeaveQ h₀ L m g Q (match fl with | .ret v => v | _ => .none) s' ∨ Q (match fl with | .ret v => v | _ => .none) s')
        (fun e s' => wpAny (model prog0 w) (A.deeper (envOf qual scope L' f cdv)) (leaving (envOf qual scope L' f cdv) e) (fun _ s'' => E e s'') (fun e' s'' => E e' s'') s')
        { s with heap := h₁, toks := s.toks + binds.length })
    (hcell : ∀ x ∈ scope.names, x.2 ≠ .cell) (hco : scope.isCoroutine = false) (hgen : scope.isGenerator = false) (hk : scope.kind = .function) : wpAny (model prog0 w) A (call (.ref f) vals) Q E s := by
  obtain ⟨⟨A₀, base, B⟩, F, X, ⟨p, loose, mean, mg, mb, T⟩, fr, lo, fn, _⟩ := C
  refine wpAny_call ?_
  obtain ⟨FG, BG, st, lv⟩ := groundX (R := fun r s' => match r with | .ok (.ret v) => Q v s' | .ok _ => False | .error e => E e s') B F N fr lo fn
  refine codeAny_call_def (fd := fnOf name qual params body scope dV kV doc pm an cdv ct) (body := body) (binds := binds) hr ((X.keeps F.keep) _ _ ho) rfl (T.nolimit.keeps F.keep) (codeRec_of (X.keeps F.keep) hcd) rfl hbind hcell hloc (fun h₁ hns hk₁ => ?_) hco hgen hk
  have gr : Gr s.heap news (hideAll s.heap (news.map (·.1))) s.heap.objs.size := ⟨fun b o e n => hideAll_get _ e fun q => by
    obtain ⟨p, hp, rfl⟩ := List.mem_map.mp q
    exact n p hp rfl, rfl⟩
  exact wpAny_mono (h _ s.heap.objs.size h₁ base p loose mean mg mb ⟨hns, fun b o e => hk₁ b o (of_hideAll _ e), Nat.le_of_eq (hideAll_size _ _)⟩
    (fun p hp => ⟨hk₁ _ _ (N p hp).1, Nat.ne_of_lt (Heap.lt_size (N p hp).1), hideAll_none _ (List.mem_map_of_mem hp)⟩) BG (X.keeps st) (T.keeps st) gr) (fun fl s' hl => hl.elim (fun hl => lv _ _ hl) fun hq => hq) fun _ _ y => y
end Mine
end

noncomputable section
open PySem PySem.W PyProof.Rows PySem.Calls
set_option Elab.async false
set_option linter.unusedVariables false
namespace Mine
set_option maxRecDepth 100000
set_option genSizeOf false
set_option genInjectivity false
set_option maxHeartbeats 8000000

abbrev Led := List (Addr × Obj)
/-- data: what a value stands for; tok: a token object, walk: a walk (its dict is a thing of its own), obj: just this object -/
inductive Dt where
  | none
  | bool (b : Bool)
  | int (i : Int)
  | str (x : Str)
  | tok (r : Row) (j : Nat)
  | walk (wd tl : Addr) (rows : List Row)
  | obj (a : Addr)
  | fix (o : Obj)
  | tuple (ds : List Dt)
  | list (ds : List Dt)
def WalkIn (P : Params) (imm : Led) (wa wd tl : Addr) (rows : List Row) : Prop :=
  (wa, instObj 122 wd) ∈ imm ∧ ∃ vs n, (tl, listOf vs.toArray n) ∈ imm ∧ ToksFrom P imm vs rows 0 ∧ rows.length < 1000000
mutual
inductive DtIn (P : Params) (imm : Led) : Value → Dt → Prop
  | none : DtIn P imm Value.none Dt.none
  | bool (b : Bool) : DtIn P imm (Value.bool b) (Dt.bool b)
  | int (i : Int) (t : Tok) : DtIn P imm (Value.int i t) (Dt.int i)
  | str (x : Str) (t : Tok) : DtIn P imm (Value.str x t) (Dt.str x)
  | tok {v : Value} {r : Row} {j : Nat} : TokIn P imm v r j → DtIn P imm v (Dt.tok r j)
  | walk {wa wd tl : Addr} {rows : List Row} : WalkIn P imm wa wd tl rows → DtIn P imm (Value.ref wa) (Dt.walk wd tl rows)
  | obj (a : Addr) : DtIn P imm (Value.ref a) (Dt.obj a)
  | fix {a : Addr} {o : Obj} : (a, o) ∈ imm → DtIn P imm (Value.ref a) (Dt.fix o)
  | tuple {a : Addr} {vs : List Value} {ds : List Dt} : (a, ({ cls := .type "tuple", data := .seq vs.toArray } : Obj)) ∈ imm → DtAll P imm vs ds → DtIn P imm (Value.ref a) (Dt.tuple ds)
  | list {a : Addr} {vs : List Value} {n : Nat} {ds : List Dt} : (a, listOf vs.toArray n) ∈ imm → DtAll P imm vs ds → DtIn P imm (Value.ref a) (Dt.list ds)
inductive DtAll (P : Params) (imm : Led) : List Value → List Dt → Prop
  | nil : DtAll P imm [] []
  | cons {v : Value} {vs : List Value} {d : Dt} {ds : List Dt} : DtIn P imm v d → DtAll P imm vs ds → DtAll P imm (v :: vs) (d :: ds)
end
theorem WalkIn.mono {P : Params} {imm imm' : Led} (hs : ∀ p ∈ imm, p ∈ imm') {wa wd tl : Addr} {rows : List Row} (h : WalkIn P imm wa wd tl rows) : WalkIn P imm' wa wd tl rows :=
  let ⟨a, vs, n, b, c, d⟩ := h
  ⟨hs _ a, vs, n, hs _ b, c.mono hs, d⟩
mutual
theorem DtIn.mono {P : Params} {imm imm' : Led} (hs : ∀ p ∈ imm, p ∈ imm') : ∀ {v : Value} {d : Dt}, DtIn P imm v d → DtIn P imm' v d
  | _, _, .none => .none
  | _, _, .bool b => .bool b
  | _, _, .int i t => .int i t
  | _, _, .str x t => .str x t
  | _, _, .tok h => .tok (h.mono hs)
  | _, _, .walk h => .walk (h.mono hs)
  | _, _, .obj a => .obj a
  | _, _, .fix h => .fix (hs _ h)
  | _, _, .tuple h r => .tuple (hs _ h) (DtAll.mono hs r)
  | _, _, .list h r => .list (hs _ h) (DtAll.mono hs r)
theorem DtAll.mono {P : Params} {imm imm' : Led} (hs : ∀ p ∈ imm, p ∈ imm') : ∀ {vs : List Value} {ds : List Dt}, DtAll P imm vs ds → DtAll P imm' vs ds
  | _, _, .nil => .nil
  | _, _, .cons h r => .cons (DtIn.mono hs h) (DtAll.mono hs r)
end
section
variable {P : Params} {imm : Led} {v : Value} {d : Dt} {vs ws : List Value} {ds es : List Dt}
theorem DtAll.length (h : DtAll P imm vs ds) : vs.length = ds.length := by
  induction vs generalizing ds with
  | nil => cases h; rfl
  | cons v vs ih =>
    cases h with
    | cons _ r => rw [List.length_cons, List.length_cons, ih r]
theorem DtAll.append (h : DtAll P imm vs ds) (k : DtAll P imm ws es) : DtAll P imm (vs ++ ws) (ds ++ es) := by
  induction vs generalizing ds with
  | nil => cases h; exact k
  | cons v vs ih =>
    cases h with
    | cons h r => exact .cons h (ih r)
theorem DtAll.get (h : DtAll P imm vs ds) {k : Nat} (hk : ds[k]? = some d) : ∃ v, vs[k]? = some v ∧ DtIn P imm v d := by
  induction vs generalizing ds k with
  | nil => cases h; cases hk
  | cons v vs ih =>
    cases h with
    | cons h r =>
      cases k with
      | zero => cases hk; exact ⟨v, rfl, h⟩
      | succ k => exact ih r hk
theorem DtAll.take (h : DtAll P imm vs ds) (n : Nat) : DtAll P imm (vs.take n) (ds.take n) := by
  induction n generalizing vs ds with
  | zero => rw [List.take_zero, List.take_zero]; exact .nil
  | succ n ih =>
    cases h with
    | nil => exact .nil
    | cons h r => exact .cons h (ih r)
theorem DtAll.drop (h : DtAll P imm vs ds) (n : Nat) : DtAll P imm (vs.drop n) (ds.drop n) := by
  induction n generalizing vs ds with
  | zero => exact h
  | succ n ih =>
    cases h with
    | nil => exact .nil
    | cons h r => exact ih r
end

abbrev Loc := List (Str × Dt)
def LocIn (P : Params) (imm : Led) (m : Str → Option Value) (δ : Loc) : Prop := ∀ x d, δ.lookup x = some d → ∃ v, m x = some v ∧ DtIn P imm v d
theorem LocIn.mono {P : Params} {imm imm' : Led} (hs : ∀ p ∈ imm, p ∈ imm') {m : Str → Option Value} {δ : Loc} (h : LocIn P imm m δ) : LocIn P imm' m δ := fun x d e => let ⟨v, a, b⟩ := h x d e; ⟨v, a, b.mono hs⟩
/-- an object that bears names -/
def NsObj (o : Obj) (m : Str → Option Value) : Prop := ∃ es ep, o.data = .dict es ep ∧ StrKeys es ∧ ∀ n, nsFind es n = m n
/-- told at: by (0, 0) of the class (j = -1), or by a token's own pair -/
def AtIn (imm : Led) (ta : Addr) (j : Int) : Prop := (ta = 22 ∧ j = -1) ∨ (0 ≤ j ∧ ∃ t u, (ta, tupObj [.int 3 t, .int j u]) ∈ imm)
noncomputable abbrev edict (P : Params) (x : Str) (ta : Addr) (t1 t2 t3 : Tok) : Obj :=
  dictOf [ent P (Str.ofString "what") t1 (.str x t2), ent P (Str.ofString "at") t3 (.ref ta)] 2
/-- things that change: a list of the call's own, a walk's dict, a CopyFault not yet raised, an object as it lies, a comprehension's names, a cell -/
inductive Mo where
  | lst (ds : List Dt)
  | wk (tl : Addr) (i : Nat)
  | exc (j : Int)
  | fix (o : Obj)
  | lit (l : Addr) (i : Nat)
  | ns (δ : Loc)
  | cell (d : Option Dt)
def MoIn (P : Params) (imm : Led) (o : Obj) : Mo → Prop
  | .lst ds => ∃ vs n, o = listOf vs.toArray n ∧ DtAll P imm vs ds
  | .wk tl i => ∃ t1 t2 t3, o = wdict P tl t1 t2 i t3
  | .exc j => ∃ vs d ta x t1 t2 t3, o.cls = .ref 53 ∧ o.dict = some d ∧ o.data = .fields vs ∧ (d, edict P x ta t1 t2 t3) ∈ imm ∧ AtIn imm ta j ∧ vs[1]? = some .none
  | .fix o' => o = o'
  | .lit l i => o.cls = .type "list_iterator" ∧ o.data = .fields #[.ref l, .int i 0]
  | .ns δ => ∃ m, NsObj o m ∧ LocIn P imm m δ
  | .cell d => ∃ v, o.data = .cell v ∧ ∀ d', d = some d' → ∃ u, v = some u ∧ DtIn P imm u d'
theorem MoIn.mono {P : Params} {imm imm' : Led} (hs : ∀ p ∈ imm, p ∈ imm') {o : Obj} {k : Mo} (h : MoIn P imm o k) : MoIn P imm' o k := by
  cases k with
  | lst ds => obtain ⟨vs, n, e, r⟩ := h; exact ⟨vs, n, e, r.mono hs⟩
  | wk tl i => exact h
  | exc j => obtain ⟨vs, d, ta, x, t1, t2, t3, a, b, c, e, f, g⟩ := h; exact ⟨vs, d, ta, x, t1, t2, t3, a, b, c, hs _ e, f.elim .inl (fun ⟨z, t, u, k⟩ => .inr ⟨z, t, u, hs _ k⟩), g⟩
  | fix o' => exact h
  | lit l i => exact h
  | ns δ => obtain ⟨m, a, b⟩ := h; exact ⟨m, a, b.mono hs⟩
  | cell d => obtain ⟨v, a, b⟩ := h; exact ⟨v, a, fun d' e => let ⟨u, p, q⟩ := b d' e; ⟨u, p, q.mono hs⟩⟩
abbrev Mus := List (Addr × Mo)
noncomputable def MuIn (P : Params) (imm : Led) : Led → Mus → Prop
  | [], [] => True
  | p :: mu, q :: μ => p.1 = q.1 ∧ MoIn P imm p.2 q.2 ∧ MuIn P imm mu μ
  | _, _ => False
theorem MuIn.mono {P : Params} {imm imm' : Led} (hs : ∀ p ∈ imm, p ∈ imm') {mu : Led} {μ : Mus} (h : MuIn P imm mu μ) : MuIn P imm' mu μ := by
  induction mu generalizing μ with
  | nil => cases μ with
    | nil => exact h
    | cons q μ => exact h
  | cons p mu ih => cases μ with
    | nil => exact h
    | cons q μ => exact ⟨h.1, h.2.1.mono hs, ih h.2.2⟩
theorem MuIn.split {P : Params} {imm : Led} {mu : Led} {μ ν : Mus} (h : MuIn P imm mu (μ ++ ν)) : ∃ mu₁ mu₂, mu = mu₁ ++ mu₂ ∧ MuIn P imm mu₁ μ ∧ MuIn P imm mu₂ ν := by
  induction μ generalizing mu with
  | nil => exact ⟨[], mu, rfl, trivial, h⟩
  | cons q μ ih => cases mu with
    | nil => exact h.elim
    | cons p mu =>
      obtain ⟨m1, m2, e, h1, h2⟩ := ih h.2.2
      exact ⟨p :: m1, m2, by rw [e]; rfl, ⟨h.1, h.2.1, h1⟩, h2⟩
theorem MuIn.append {P : Params} {imm : Led} {mu₁ mu₂ : Led} {μ ν : Mus} (h : MuIn P imm mu₁ μ) (k : MuIn P imm mu₂ ν) : MuIn P imm (mu₁ ++ mu₂) (μ ++ ν) := by
  induction mu₁ generalizing μ with
  | nil => cases μ with
    | nil => exact k
    | cons q μ => exact h.elim
  | cons p mu ih => cases μ with
    | nil => exact h.elim
    | cons q μ => exact ⟨h.1, h.2.1, ih h.2.2⟩

abbrev Tm := Value → Dt → Prop
def Tm.add (τ : Tm) (v : Value) (d : Dt) : Tm := fun v' d' => (v' = v ∧ d' = d) ∨ τ v' d'
def TmIn (P : Params) (imm : Led) (τ : Tm) : Prop := ∀ v d, τ v d → DtIn P imm v d
theorem TmIn.mono {P : Params} {imm imm' : Led} (hs : ∀ p ∈ imm, p ∈ imm') {τ : Tm} (h : TmIn P imm τ) : TmIn P imm' τ := fun v d e => (h v d e).mono hs
theorem TmIn.add {P : Params} {imm : Led} {τ : Tm} {v : Value} {d : Dt} (h : TmIn P imm τ) (hd : DtIn P imm v d) : TmIn P imm (τ.add v d) := fun v' d' e => by
  rcases e with ⟨rfl, rfl⟩ | e
  · exact hd
  · exact h v' d' e

/-- the changing things stand apart from each other and from all else -/
structure Sep (mu imm : Led) : Prop where
  off : ∀ p ∈ mu, ∀ q ∈ imm, p.1 ≠ q.1
  nd : (mu.map (·.1)).Nodup

/-- a def: its long name, its names, its address, its code -/
structure Fi where
  q : Str
  sc : Scope
  f : Addr
  cd : Value
  cl : Addr → List (Str × Addr) := fun _ => []
  top : Bool := false
noncomputable def Fi.env (fi : Fi) (L : Addr) : Env := envX fi.q fi.sc L fi.f fi.cd (fi.cl L)

/-- a call of it at hand -/
structure Fc (fi : Fi) (L : Addr) where
  w : World
  A : Around
  g : Heap
  outer : List Env
  s0 : Shared
  X : (KM w.params).In g
  T : ∃ p loose mean mg mb, Top p loose mean mg mb g
  B : ∃ A₀ base, Below A₀ base outer g
  fr : A.frames = some (fi.env L :: outer)
  hd : A.handled = none
  fn : fi.sc.kind = .function
  nl : g.get? L = none
  ot : fi.top = true → outer = []
abbrev Fc.L {fi : Fi} {L : Addr} (c : Fc fi L) : Addr := L
abbrev Fc.P {fi : Fi} {L : Addr} (c : Fc fi L) : Params := c.w.params
abbrev Fc.st {fi : Fi} {L : Addr} (c : Fc fi L) (h : Heap) (tk : Nat) : Shared := ⟨h, c.s0.gens, c.s0.drawn, tk, c.s0.os⟩

/-- the state of a call, told by data alone -/
inductive St {fi : Fi} {L : Addr} (c : Fc fi L) (δ : Loc) (τ : Tm) (μ : Mus) (h : Heap) : Prop
  | mk (m : Str → Option Value) (imm mu : Led) (F : Fr c.g c.L h m) (N : News c.g c.L h (mu ++ imm)) (s : Sep mu imm) (l : LocIn c.P imm m δ) (t : TmIn c.P imm τ) (u : MuIn c.P imm mu μ) : St c δ τ μ h

section
variable {fi : Fi} {L : Addr} {c : Fc fi L} {δ δ' : Loc} {τ τ' : Tm} {μ ν : Mus} {h h' : Heap} {v : Value} {d : Dt}
/-- a value that all of these bear may be held too -/
theorem St.hold (S : St c δ τ μ h) (k : ∀ m imm mu, Fr c.g c.L h m → News c.g c.L h (mu ++ imm) → LocIn c.P imm m δ → TmIn c.P imm τ → MuIn c.P imm mu μ → DtIn c.P imm v d) : St c δ (τ.add v d) μ h := by
  obtain ⟨m, imm, mu, F, N, s, l, t, u⟩ := S
  exact ⟨m, imm, mu, F, N, s, l, t.add (k m imm mu F N l t u), u⟩
theorem St.weaken (S : St c δ τ μ h) (hδ : ∀ x d, δ'.lookup x = some d → δ.lookup x = some d) (hτ : ∀ v d, τ' v d → τ v d) : St c δ' τ' μ h := by
  obtain ⟨m, imm, mu, F, N, s, l, t, u⟩ := S
  exact ⟨m, imm, mu, F, N, s, fun x d e => l x d (hδ x d e), fun v d e => t v d (hτ v d e), u⟩
theorem St.drop (S : St c δ (τ.add v d) μ h) : St c δ τ μ h := S.weaken (fun _ _ e => e) fun _ _ e => .inr e
/-- a new object -/
theorem St.push (S : St c δ τ μ h) {o : Obj} (ho : o.isFreed = false) (k : ∀ imm, TmIn c.P imm τ → DtIn c.P ((h.objs.size, o) :: imm) v d) : St c δ (τ.add v d) μ (h.push o) := by
  obtain ⟨m, imm, mu, F, N, s, l, t, u⟩ := S
  have hs : ∀ p ∈ imm, p ∈ (h.objs.size, o) :: imm := fun _ q => .tail _ q
  have N' := News.push F N o ho
  refine ⟨m, (h.objs.size, o) :: imm, mu, F.push o, fun p hp => N' p ?_, ⟨fun p hp q hq => ?_, s.nd⟩, l.mono hs, (t.mono hs).add (k imm t), u.mono hs⟩
  · rcases List.mem_append.mp hp with q | q
    · exact .tail _ (List.mem_append.mpr (.inl q))
    · rcases List.mem_cons.mp q with rfl | q
      · exact .head _
      · exact .tail _ (List.mem_append.mpr (.inr q))
  · rcases List.mem_cons.mp hq with rfl | hq
    · exact Nat.ne_of_lt (Heap.lt_size (N p (List.mem_append.mpr (.inl hp))).1)
    · exact s.off p hp q hq
/-- a new thing that changes -/
theorem St.pushMu (S : St c δ τ μ h) {o : Obj} {k : Mo} (ho : o.isFreed = false) (hk : ∀ imm, TmIn c.P imm τ → MoIn c.P imm o k) : St c δ (τ.add (.ref h.objs.size) (.obj h.objs.size)) ((h.objs.size, k) :: μ) (h.push o) := by
  obtain ⟨m, imm, mu, F, N, s, l, t, u⟩ := S
  have lt : ∀ p ∈ mu ++ imm, p.1 < h.objs.size := fun p hp => Heap.lt_size (N p hp).1
  refine ⟨m, imm, (h.objs.size, o) :: mu, F.push o, News.push F N o ho, ⟨fun p hp q hq => ?_, ?_⟩, l, t.add (.obj _), ⟨rfl, hk imm t, u⟩⟩
  · rcases List.mem_cons.mp hp with rfl | hp
    · exact Ne.symm (Nat.ne_of_lt (lt q (List.mem_append.mpr (.inr hq))))
    · exact s.off p hp q hq
  · refine List.nodup_cons.mpr ⟨fun q => ?_, s.nd⟩
    obtain ⟨p, hp, e⟩ := List.mem_map.mp q
    exact Nat.ne_of_lt (lt p (List.mem_append.mpr (.inl hp))) e
/-- a thing changes no more -/
theorem St.freeze {a : Addr} {ds : List Dt} (S : St c δ τ ((a, .lst ds) :: μ) h) (hδ : ∀ x d, δ'.lookup x = some d → δ.lookup x = some d ∨ (δ.lookup x = some (.obj a) ∧ d = .list ds))
    (hτ : ∀ v d, τ' v d → τ v d ∨ (τ v (.obj a) ∧ d = .list ds)) : St c δ' τ' μ h := by
  obtain ⟨m, imm, mu, F, N, s, l, t, u⟩ := S
  cases mu with
  | nil => exact u.elim
  | cons p mu =>
    obtain ⟨rfl, ⟨vs, n, eo, r⟩, u⟩ := u
    obtain ⟨a, o⟩ := p
    subst eo
    have hs : ∀ p ∈ imm, p ∈ (a, listOf vs.toArray n) :: imm := fun _ q => .tail _ q
    have hd : DtIn c.P ((a, listOf vs.toArray n) :: imm) (.ref a) (.list ds) := .list (.head _) (r.mono hs)
    refine ⟨m, (a, listOf vs.toArray n) :: imm, mu, F, fun p hp => N p ?_, ⟨fun p hp q hq => ?_, (List.nodup_cons.mp s.nd).2⟩, fun x d e => ?_, fun v d e => ?_, u.mono hs⟩
    · rcases List.mem_append.mp hp with q | q
      · exact .tail _ (List.mem_append.mpr (.inl q))
      · rcases List.mem_cons.mp q with rfl | q
        · exact .head _
        · exact .tail _ (List.mem_append.mpr (.inr q))
    · rcases List.mem_cons.mp hq with rfl | hq
      · exact fun e => (List.nodup_cons.mp s.nd).1 (List.mem_map.mpr ⟨p, hp, e⟩)
      · exact s.off p (.tail _ hp) q hq
    · rcases hδ x d e with e' | ⟨e', rfl⟩
      · exact (l.mono hs) x d e'
      · obtain ⟨v, hv, hd'⟩ := l x (.obj a) e'
        have : v = .ref a := by cases hd'; rfl
        subst this
        exact ⟨_, hv, hd⟩
    · rcases hτ v d e with e' | ⟨e', rfl⟩
      · exact (t.mono hs) v d e'
      · have hd' := t v (.obj a) e'
        have : v = .ref a := by cases hd'; rfl
        subst this
        exact hd
/-- a name is bound -/
theorem St.store (x : Str) (S : St c δ τ μ h) (hv : τ v d) : ∃ m, h.Ns c.L m ∧ ∀ h', h'.Ns c.L (fun y => if y = x then some v else m y) → Heap.SameBut c.L h h' → St c ((x, d) :: δ) τ μ h' := by
  obtain ⟨m, imm, mu, F, N, s, l, t, u⟩ := S
  refine ⟨m, F.ns, fun h' hn hs => ⟨_, imm, mu, F.set hn hs, N.set hs, s, fun y e q => ?_, t, u⟩⟩
  rw [List.lookup_cons] at q
  by_cases hy : y = x
  · subst hy
    rw [beq_self_eq_true] at q
    cases q
    exact ⟨v, if_pos rfl, t _ _ hv⟩
  · rw [beq_eq_false_iff_ne.mpr hy] at q
    obtain ⟨z, a, b⟩ := l y e q
    exact ⟨z, (if_neg hy).trans a, b⟩
theorem St.ns (S : St c δ τ μ h) : ∃ m, h.Ns c.L m := by
  obtain ⟨m, _, _, F⟩ := S
  exact ⟨m, F.ns⟩
theorem St.kin (S : St c δ τ μ h) : (KM c.P).In h := by
  obtain ⟨_, _, _, F⟩ := S
  exact c.X.keeps F.keep
end
end Mine
end

noncomputable section
open PySem PySem.W PyProof.Rows PySem.Calls
set_option Elab.async false
set_option linter.unusedVariables false
namespace Mine
set_option maxRecDepth 100000
set_option genSizeOf false
set_option genInjectivity false
set_option maxHeartbeats 8000000

/-- the first entry of a traceback; b: there is one -/
def TbIn (b : Bool) (g : Heap) (L : Addr) (imm : Led) (h : Heap) (e : Addr) (vs : Array Value) : Prop :=
  (b = false ∧ vs[1]? = some .none) ∨ ∃ T oT ts, vs[1]? = some (.ref T) ∧ T ≠ e ∧ (g.get? T = none ∧ T ≠ L ∧ ∀ p ∈ imm, p.1 ≠ T) ∧ h.get? T = some oT ∧ oT.data = .fields ts ∧ (ts[3]? = some .none ∨ ts[3]? = some (rawInt L))
/-- a CopyFault is on its way through this call, told at j; all else stands -/
inductive FlyB {fi : Fi} {L : Addr} (b : Bool) (c : Fc fi L) (δ : Loc) (τ : Tm) (ν : Mus) (e : Addr) (j : Int) (h : Heap) : Prop
  | mk (m : Str → Option Value) (imm mu : Led) (Ns : h.Ns c.L m) (keep : ∀ b o, c.g.get? b = some o → (b ∉ c.outer.filterMap (·.frame) → h.get? b = some o) ∧ ∃ sl, h.get? b = some { o with slots := sl }) (N : News c.g c.L h (mu ++ imm))
    (l : LocIn c.P imm m δ) (t : TmIn c.P imm τ) (s : Sep mu imm) (u : MuIn c.P imm mu ν) (oe : Obj) (vs : Array Value) (d ta : Addr) (x : Str) (t1 t2 t3 : Tok) (he : h.get? e = some oe) (hc : oe.cls = .ref 53) (hd : oe.dict = some d) (hf : oe.data = .fields vs)
    (off : c.g.get? e = none ∧ e ≠ c.L ∧ ∀ p ∈ mu ++ imm, p.1 ≠ e) (hm : (d, edict c.P x ta t1 t2 t3) ∈ imm) (ha : AtIn imm ta j) (tb : TbIn b c.g c.L (mu ++ imm) h e vs) : FlyB b c δ τ ν e j h
abbrev Fly {fi : Fi} {L : Addr} (c : Fc fi L) (δ : Loc) (τ : Tm) (ν : Mus) (e : Addr) (j : Int) (h : Heap) : Prop := FlyB false c δ τ ν e j h
theorem FlyB.weaken {fi : Fi} {L : Addr} {c : Fc fi L} {b : Bool} {δ δ' : Loc} {τ τ' : Tm} {ν : Mus} {e : Addr} {j : Int} {h : Heap} (f : FlyB b c δ τ ν e j h) (hδ : ∀ x d, δ'.lookup x = some d → δ.lookup x = some d) (hτ : ∀ v d, τ' v d → τ v d) : FlyB b c δ' τ' ν e j h := by
  obtain ⟨m, imm, mu, a, b, n, l, t, s, u, oe, vs, d, ta, x, t1, t2, t3, h1, h2, h3, h4, h5, h6, h7, tb⟩ := f
  exact ⟨m, imm, mu, a, b, n, fun x d e => l x d (hδ x d e), fun v d e => t v d (hτ v d e), s, u, oe, vs, d, ta, x, t1, t2, t3, h1, h2, h3, h4, h5, h6, h7, tb⟩
theorem FlyB.any {fi : Fi} {L : Addr} {c : Fc fi L} {b : Bool} {δ : Loc} {τ : Tm} {ν : Mus} {e : Addr} {j : Int} {h : Heap} (f : FlyB b c δ τ ν e j h) : Fly c δ τ ν e j h := by
  obtain ⟨m, imm, mu, a, b, n, l, t, s, u, oe, vs, d, ta, x, t1, t2, t3, h1, h2, h3, h4, h5, h6, h7, tb⟩ := f
  exact ⟨m, imm, mu, a, b, n, l, t, s, u, oe, vs, d, ta, x, t1, t2, t3, h1, h2, h3, h4, h5, h6, h7, tb.elim (fun z => .inl ⟨rfl, z.2⟩) .inr⟩

/-- some of the others' things are let go -/
theorem FlyB.loses {fi : Fi} {L : Addr} {c : Fc fi L} {b : Bool} {δ : Loc} {τ : Tm} {ρ ν : Mus} {e : Addr} {j : Int} {h : Heap} (f : FlyB b c δ τ (ρ ++ ν) e j h) : FlyB b c δ τ ν e j h := by
  obtain ⟨m, imm, mu, a, k, n, l, t, s, u, oe, vs, d, ta, x, t1, t2, t3, h1, h2, h3, h4, h5, h6, h7, tb⟩ := f
  obtain ⟨m1, m2, rfl, u1, u2⟩ := u.split
  have sub : ∀ p ∈ m2 ++ imm, p ∈ (m1 ++ m2) ++ imm := fun p q => (List.mem_append.mp q).elim (fun q => List.mem_append.mpr (.inl (List.mem_append.mpr (.inr q)))) fun q => List.mem_append.mpr (.inr q)
  have nd := s.nd
  rw [List.map_append] at nd
  refine ⟨m, imm, m2, a, k, fun p q => n p (sub p q), l, t, ⟨fun p q => s.off p (List.mem_append.mpr (.inr q)), (List.nodup_append.mp nd).2.1⟩, u2, oe, vs, d, ta, x, t1, t2, t3, h1, h2, h3, h4, ⟨h5.1, h5.2.1, fun p q => h5.2.2 p (sub p q)⟩, h6, h7, tb.elim .inl fun ⟨T, oT, ts, z1, z2, z3, z4⟩ => .inr ⟨T, oT, ts, z1, z2, ⟨z3.1, z3.2.1, fun p q => z3.2.2 p (sub p q)⟩, z4⟩⟩

/-- an expression: from the things μ it comes to the things μ' and to what d tells -/
def ED (n : Nat) (fi : Fi) (L : Addr) (ev : Env) (δ : Loc) (μ : Mus) (e : Expr) (μ' : Mus) (d : Dt) : Prop :=
  ∀ (c : Fc fi L) (τ : Tm) (ν : Mus) (Q E : Value → Shared → Prop) (h : Heap) (tk : Nat), Room n c.A → St c δ τ (μ ++ ν) h →
    (∀ v h' tk', St c δ (τ.add v d) (μ' ++ ν) h' → Q v (c.st h' tk')) → wpAny (model prog0 c.w) c.A (eval e ev) Q E (c.st h tk)
/-- an expression that raises, told at j -/
def ER (n : Nat) (fi : Fi) (L : Addr) (ev : Env) (δ : Loc) (μ : Mus) (e : Expr) (j : Int) : Prop :=
  ∀ (c : Fc fi L) (τ : Tm) (ν : Mus) (Q E : Value → Shared → Prop) (h : Heap) (tk : Nat), Room n c.A → St c δ τ (μ ++ ν) h →
    (∀ x h' tk', Fly c δ τ ν x j h' → E (.ref x) (c.st h' tk')) → wpAny (model prog0 c.w) c.A (eval e ev) Q E (c.st h tk)
/-- a test -/
def TD (n : Nat) (fi : Fi) (L : Addr) (ev : Env) (δ : Loc) (μ : Mus) (e : Expr) (μ' : Mus) (b : Bool) : Prop :=
  ∀ (c : Fc fi L) (τ : Tm) (ν : Mus) (Q : Bool → Shared → Prop) (E : Value → Shared → Prop) (h : Heap) (tk : Nat), Room n c.A → St c δ τ (μ ++ ν) h →
    (∀ h' tk', St c δ τ (μ' ++ ν) h' → Q b (c.st h' tk')) → wpAny (model prog0 c.w) c.A (isTrue e ev (eval e ev)) Q E (c.st h tk)
/-- an operation on two values -/
def Op2 (n : Nat) (op : CmpOp) (d₁ d₂ d : Dt) : Prop :=
  ∀ (fi : Fi) (L : Addr) (c : Fc fi L) (δ : Loc) (τ : Tm) (μ : Mus) (a b : Value) (Q E : Value → Shared → Prop) (h : Heap) (tk : Nat), Room n c.A → τ a d₁ → τ b d₂ → St c δ τ μ h →
    (∀ v h' tk', St c δ (τ.add v d) μ h' → Q v (c.st h' tk')) → wpAny (model prog0 c.w) c.A (compareOp op a b) Q E (c.st h tk)
def Bi2 (n : Nat) (op : Operator) (d₁ d₂ d : Dt) : Prop :=
  ∀ (fi : Fi) (L : Addr) (c : Fc fi L) (δ : Loc) (τ : Tm) (μ : Mus) (a b : Value) (Q E : Value → Shared → Prop) (h : Heap) (tk : Nat), Room n c.A → τ a d₁ → τ b d₂ → St c δ τ μ h →
    (∀ v h' tk', St c δ (τ.add v d) μ h' → Q v (c.st h' tk')) → wpAny (model prog0 c.w) c.A (binaryOp op a b) Q E (c.st h tk)

section
variable {n : Nat} {fi : Fi} {L : Addr} {ev : Env} {δ : Loc} {μ μ₁ μ₂ μ' : Mus} {d d₁ d₂ : Dt} {b : Bool} {pos p1 p2 : Pos} {k : Nat} {x : Str}
theorem eName (hx : fi.sc.names.lookup x = some .local) (hd : δ.lookup x = some d) (hb : (x == ("__debug__" : Str)) = false := by decide) : ED n fi L (fi.env L) δ μ (.Name x pos) μ d := by
  intro c τ ν Q E h tk R S K
  obtain ⟨v, hv, m, F, hm⟩ : ∃ v, St c δ (τ.add v d) (μ ++ ν) h ∧ ∃ m, Fr c.g c.L h m ∧ m x = some v := by
    obtain ⟨m, imm, mu, F, N, s, l, t, u⟩ := S
    obtain ⟨v, hv, hd'⟩ := l x d hd
    exact ⟨v, ⟨m, imm, mu, F, N, s, l, t.add hd', u⟩, m, F, hv⟩
  exact wpAny_Name (wpAny_loadName_local c.fn hx F.ns hm (K v h tk hv)) hb
theorem eInt {i : Int} : ED n fi L ev δ μ (.Constant (.int i) k pos) μ (.int i) := fun c τ ν Q E h tk R S K => wpAny_Constant_int (K _ _ _ (S.hold fun _ _ _ _ _ _ _ _ => .int _ _))
theorem eStr : ED n fi L ev δ μ (.Constant (.str x) k pos) μ (.str x) := fun c τ ν Q E h tk R S K => wpAny_Constant_str (K _ _ _ (S.hold fun _ _ _ _ _ _ _ _ => .str _ _))
theorem eNone : ED n fi L ev δ μ (.Constant .none k pos) μ .none := fun c τ ν Q E h tk R S K => wpAny_Constant_none (K _ _ _ (S.hold fun _ _ _ _ _ _ _ _ => .none))
theorem eBool : ED n fi L ev δ μ (.Constant (.bool b) k pos) μ (.bool b) := fun c τ ν Q E h tk R S K => wpAny_Constant_bool (K _ _ _ (S.hold fun _ _ _ _ _ _ _ _ => .bool _))
theorem eCmp {e₁ e₂ : Expr} {op : CmpOp} (h₁ : ED n fi L ev δ μ e₁ μ₁ d₁) (h₂ : ED n fi L ev δ μ₁ e₂ μ₂ d₂) (ho : Op2 n op d₁ d₂ d) (hm : behindInMarks op e₂ = false := by rfl) : ED n fi L ev δ μ (.Compare e₁ [op] [e₂] pos) μ₂ d := by
  intro c τ ν Q E h tk R S K
  refine wpAny_Compare1 (h₁ c τ ν _ _ h tk R S fun a h' tk' S₁ => h₂ c _ ν _ _ h' tk' R S₁ fun b h'' tk'' S₂ => ho fi L c δ _ _ a b _ _ _ _ R (.inr (.inl ⟨rfl, rfl⟩)) (.inl ⟨rfl, rfl⟩) S₂ fun v h₃ tk₃ S₃ => K _ _ _ ?_) hm
  exact S₃.weaken (fun _ _ e => e) fun v' d' e => by
    rcases e with e | e
    · exact .inl e
    · exact .inr (.inr (.inr e))
theorem tCmp {e₁ e₂ : Expr} {op : CmpOp} (h₁ : ED n fi L ev δ μ e₁ μ₁ d₁) (h₂ : ED n fi L ev δ μ₁ e₂ μ₂ d₂) (ho : Op2 n op d₁ d₂ (.bool b)) (hm : behindInMarks op e₂ = false := by rfl) : TD n fi L ev δ μ (.Compare e₁ [op] [e₂] pos) μ₂ b := by
  intro c τ ν Q E h tk R S K
  refine wpAny_isTrue_Compare1 (h₁ c τ ν _ _ h tk R S fun a h' tk' S₁ => h₂ c _ ν _ _ h' tk' R S₁ fun b' h'' tk'' S₂ => ho fi L c δ _ _ a b' _ _ _ _ R (.inr (.inl ⟨rfl, rfl⟩)) (.inl ⟨rfl, rfl⟩) S₂ fun v h₃ tk₃ S₃ => ?_) hm
  obtain rfl : v = .bool b := by
    obtain ⟨_, _, _, _, _, _, _, t, _⟩ := S₃
    have := t v (.bool b) (.inl ⟨rfl, rfl⟩)
    cases this; rfl
  exact wpAny_truthy_bool (K _ _ (S₃.weaken (fun _ _ e => e) fun v' d' e => .inr (.inr (.inr e))))
theorem eBin {e₁ e₂ : Expr} {op : Operator} (h₁ : ED n fi L ev δ μ e₁ μ₁ d₁) (h₂ : ED n fi L ev δ μ₁ e₂ μ₂ d₂) (ho : Bi2 n op d₁ d₂ d) : ED n fi L ev δ μ (.BinOp e₁ op e₂ pos) μ₂ d := by
  intro c τ ν Q E h tk R S K
  refine wpAny_BinOp (h₁ c τ ν _ _ h tk R S fun a h' tk' S₁ => h₂ c _ ν _ _ h' tk' R S₁ fun b h'' tk'' S₂ => ho fi L c δ _ _ a b _ _ _ _ R (.inr (.inl ⟨rfl, rfl⟩)) (.inl ⟨rfl, rfl⟩) S₂ fun v h₃ tk₃ S₃ => K _ _ _ ?_)
  exact S₃.weaken (fun _ _ e => e) fun v' d' e => by
    rcases e with e | e
    · exact .inl e
    · exact .inr (.inr (.inr e))
theorem tNot {e : Expr} (h₁ : TD n fi L ev δ μ e μ' b) : TD n fi L ev δ μ (.UnaryOp .Not e pos) μ' (!b) := fun c τ ν Q E h tk R S K => wpAny_isTrue_Not (h₁ c τ ν _ _ h tk R S fun h' tk' S' => K _ _ S')
/-- a test by a value that is a bool -/
theorem tVal {e : Expr} (h₁ : ED n fi L ev δ μ e μ' (.bool b)) (he : ∀ env whole, isTrue e env whole = (do let v ← whole; standAt e.pos; holding [v] (truthy v)) := by intro _ _; rfl) : TD n fi L ev δ μ e μ' b := by
  intro c τ ν Q E h tk R S K
  refine wpAny_isTrue_value (h₁ c τ ν _ _ h tk R S fun v h' tk' S' => ?_) (he _ _)
  obtain rfl : v = .bool b := by
    obtain ⟨_, _, _, _, _, _, _, t, _⟩ := S'
    have := t v (.bool b) (.inl ⟨rfl, rfl⟩)
    cases this; rfl
  exact wpAny_truthy_bool (K _ _ S'.drop)
theorem tAnd {e₁ e₂ : Expr} {b₁ b₂ : Bool} (h₁ : TD n fi L ev δ μ e₁ μ₁ b₁) (h₂ : b₁ = true → TD n fi L ev δ μ₁ e₂ μ₂ b₂) (hf : b₁ = false → μ₁ = μ₂) : TD n fi L ev δ μ (.BoolOp .And [e₁, e₂] pos) μ₂ (b₁ && b₂) := by
  intro c τ ν Q E h tk R S K
  refine wpAny_isTrue_BoolOp (wpAny_allTrue_And_cons (h₁ c τ ν _ _ h tk R S fun h' tk' S' => ?_))
  cases b₁ with
  | false => exact K _ _ (hf rfl ▸ S')
  | true =>
    refine wpAny_allTrue_And_cons (h₂ rfl c τ ν _ _ h' tk' R S' fun h'' tk'' S'' => ?_)
    cases b₂ with
    | false => exact K _ _ S''
    | true => exact wpAny_allTrue_And_nil (K _ _ S'')
theorem tOr {e₁ e₂ : Expr} {b₁ b₂ : Bool} (h₁ : TD n fi L ev δ μ e₁ μ₁ b₁) (h₂ : b₁ = false → TD n fi L ev δ μ₁ e₂ μ₂ b₂) (ht : b₁ = true → μ₁ = μ₂) : TD n fi L ev δ μ (.BoolOp .Or [e₁, e₂] pos) μ₂ (b₁ || b₂) := by
  intro c τ ν Q E h tk R S K
  refine wpAny_isTrue_BoolOp (wpAny_allTrue_Or_cons (h₁ c τ ν _ _ h tk R S fun h' tk' S' => ?_))
  cases b₁ with
  | true => exact K _ _ (ht rfl ▸ S')
  | false =>
    refine wpAny_allTrue_Or_cons (h₂ rfl c τ ν _ _ h' tk' R S' fun h'' tk'' S'' => ?_)
    cases b₂ with
    | true => exact K _ _ S''
    | false => exact wpAny_allTrue_Or_nil (K _ _ S'')
theorem eIf {t e₁ e₂ : Expr} (ht : TD n fi L ev δ μ t μ₁ b) (h₁ : b = true → ED n fi L ev δ μ₁ e₁ μ₂ d) (h₂ : b = false → ED n fi L ev δ μ₁ e₂ μ₂ d) : ED n fi L ev δ μ (.IfExp t e₁ e₂ pos) μ₂ d := by
  intro c τ ν Q E h tk R S K
  refine wpAny_IfExp (ht c τ ν _ _ h tk R S fun h' tk' S' => ?_)
  cases b with
  | true => exact h₁ rfl c τ ν _ _ h' tk' R S' K
  | false => exact h₂ rfl c τ ν _ _ h' tk' R S' K
end

/-- how statements may end -/
inductive Out where
  | ret (μ : Mus) (d : Dt)
  | next (δ : Loc) (μ : Mus)
  | exc (δ : Loc) (j : Int)
def Bd (n : Nat) (fi : Fi) (L : Addr) (δ : Loc) (μ : Mus) (b : List Stmt) (O : Out → Prop) : Prop :=
  ∀ (c : Fc fi L) (τ : Tm) (ν : Mus) (Q : Flow → Shared → Prop) (E : Value → Shared → Prop) (h : Heap) (tk : Nat), Room n c.A → St c δ τ (μ ++ ν) h →
    (∀ v d δ' μ' h' tk', O (.ret μ' d) → St c δ' (τ.add v d) (μ' ++ ν) h' → Q (.ret v) (c.st h' tk')) →
    (∀ δ' μ' h' tk', O (.next δ' μ') → St c δ' τ (μ' ++ ν) h' → Q .next (c.st h' tk')) →
    (∀ x δ' j h' tk', O (.exc δ' j) → Fly c δ' τ ν x j h' → E (.ref x) (c.st h' tk')) → wpAny (model prog0 c.w) c.A (execs b (fi.env L)) Q E (c.st h tk)
section
variable {n : Nat} {fi : Fi} {L : Addr} {ev : Env} {δ δ' : Loc} {μ μ₁ μ₂ μ' : Mus} {d d₁ d₂ : Dt} {b : Bool} {pos p1 p2 : Pos} {k : Nat} {x : Str} {e : Expr} {rest : List Stmt} {O : Out → Prop}
theorem bNil (h : O (.next δ μ)) : Bd n fi L δ μ [] O := fun c τ ν Q E hh tk R S kr kn ke => wpAny_execs_nil (kn _ _ _ _ h S)
theorem bWeak (h : Bd n fi L δ' μ rest O) (hδ : ∀ x d, δ'.lookup x = some d → δ.lookup x = some d) : Bd n fi L δ μ rest O := fun c τ ν Q E hh tk R S kr kn ke => h c τ ν Q E hh tk R (S.weaken hδ fun _ _ e => e) kr kn ke
theorem bMono {O' : Out → Prop} (h : Bd n fi L δ μ rest O') (k : ∀ o, O' o → O o) : Bd n fi L δ μ rest O :=
  fun c τ ν Q E hh tk R S kr kn ke => h c τ ν Q E hh tk R S (fun v d δ' μ' h' tk' o => kr v d δ' μ' h' tk' (k _ o)) (fun δ' μ' h' tk' o => kn δ' μ' h' tk' (k _ o)) fun x δ' j h' tk' o => ke x δ' j h' tk' (k _ o)
theorem bRet (he : ED n fi L (fi.env L) δ μ e μ' d) (h : O (.ret μ' d)) : Bd n fi L δ μ (.Return (some e) pos :: rest) O := by
  intro c τ ν Q E hh tk R S kr kn ke
  exact wpAny_execs_cons (wpAny_Return_some (he c τ ν _ _ hh tk R S fun v h' tk' S' => kr v d δ μ' _ _ h S'))
theorem bRetX {j : Int} (he : ER n fi L (fi.env L) δ μ e j) (h : O (.exc δ j)) : Bd n fi L δ μ (.Return (some e) pos :: rest) O := by
  intro c τ ν Q E hh tk R S kr kn ke
  exact wpAny_execs_cons (wpAny_Return_some (he c τ ν _ _ hh tk R S fun x h' tk' f => ke x δ j _ _ h f))
theorem bSet (he : ED n fi L (fi.env L) δ μ e μ' d) (hb : Bd n fi L ((x, d) :: δ) μ' rest O) (hx : fi.sc.names.lookup x = some .local) (hs : ∀ env, swapsWith e (some (.Name x p1)) pos.line env = pure false := by intro _; rfl) : Bd n fi L δ μ (.Assign [.Name x p1] e pos :: rest) O := by
  intro c τ ν Q E hh tk R S kr kn ke
  refine wpAny_execs_cons (wpAny_Assign_Name (he c τ ν _ _ hh tk R S fun v h' tk' S' => ?_) (hs _))
  obtain ⟨m, hm, st⟩ := S'.store x (.inl ⟨rfl, rfl⟩)
  exact wpAny_storeName_local hx hm (fun h'' hn hsb => hb c τ ν Q E h'' _ R (st h'' hn hsb).drop kr kn ke) (by show (fi.sc.kind == .class || (fi.sc.kind == .module && c.L != mainGlobals)) = false; rw [c.fn]; rfl)
theorem bSetX {j : Int} (he : ER n fi L (fi.env L) δ μ e j) (h : O (.exc δ j)) (hs : ∀ env, swapsWith e (some (.Name x p1)) pos.line env = pure false := by intro _; rfl) : Bd n fi L δ μ (.Assign [.Name x p1] e pos :: rest) O := by
  intro c τ ν Q E hh tk R S kr kn ke
  exact wpAny_execs_cons (wpAny_Assign_Name (he c τ ν _ _ hh tk R S fun x h' tk' f => ke x δ j _ _ h f) (hs _))
theorem execs_app {env : Env} {r : List Stmt} : ∀ b : List Stmt, execs (b ++ r) env = (execs b env >>= fun f => match f with | .next => execs r env | f => pure f)
  | [] => by rw [List.nil_append, execs_nil, pure_bind]
  | st :: b => by
    rw [List.cons_append, execs_cons, execs_cons, bind_assoc]
    refine congrArg (exec st env >>= ·) (funext fun f => ?_)
    cases f <;> first | exact execs_app b | exact (pure_bind _ _).symm
theorem execs_if {env : Env} {t : Expr} {b₁ b₂ r : List Stmt} : execs (.If t b₁ b₂ pos :: r) env = (standAt pos >>= fun _ => isTrue t env (eval t env) >>= fun b => if b then execs (b₁ ++ r) env else execs (b₂ ++ r) env) := by
  rw [execs_cons, exec_If, bind_assoc]
  refine congrArg (standAt pos >>= ·) (funext fun _ => ?_)
  rw [bind_assoc]
  refine congrArg (isTrue t env (eval t env) >>= ·) (funext fun b => ?_)
  cases b with
  | true => exact (execs_app b₁).symm
  | false => exact (execs_app b₂).symm
theorem bIf {t : Expr} {b₁ b₂ : List Stmt} (ht : TD n fi L (fi.env L) δ μ t μ' b) (h₁ : b = true → Bd n fi L δ μ' (b₁ ++ rest) O) (h₂ : b = false → Bd n fi L δ μ' (b₂ ++ rest) O) : Bd n fi L δ μ (.If t b₁ b₂ pos :: rest) O := by
  intro c τ ν Q E hh tk R S kr kn ke
  rw [execs_if]
  refine wpAny_bind (wpAny_standAt (wpAny_bind (ht c τ ν _ _ hh tk R S fun h' tk' S' => ?_)))
  cases b with
  | true => exact h₁ rfl c τ ν Q E h' tk' R S' kr kn ke
  | false => exact h₂ rfl c τ ν Q E h' tk' R S' kr kn ke
end
end Mine
end

noncomputable section
open PySem PySem.W PyProof.Rows PySem.Calls PySem.Spec
set_option Elab.async false
set_option linter.unusedVariables false
namespace Mine
set_option maxRecDepth 100000
set_option genSizeOf false
set_option genInjectivity false
set_option maxHeartbeats 8000000

mutual
noncomputable def toDat : Dt → Dat
  | .none => .none
  | .bool b => .bool b
  | .int i => .int i
  | .str x => .str x
  | .tok _ _ => .bytes #[]
  | .walk _ _ _ => .bytes #[]
  | .obj _ => .bytes #[]
  | .fix _ => .bytes #[]
  | .tuple ds => .tuple (toDats ds)
  | .list ds => .list (toDats ds)
noncomputable def toDats : List Dt → List Dat
  | [] => []
  | d :: ds => toDat d :: toDats ds
end
theorem toDats_eq : ∀ ds : List Dt, toDats ds = ds.map toDat
  | [] => rfl
  | d :: ds => by rw [toDats, toDats_eq ds]; rfl
mutual
theorem datIn_of {P : Params} {imm : Led} : ∀ {v : Value} {d : Dt} (n : Nat), DtIn P imm v d → kqdOk n (toDat d) = true → DatIn imm v (toDat d)
  | _, _, _, .none, _ => .none
  | _, _, _, .bool b, _ => .bool b
  | _, _, _, .int i t, _ => .int i t
  | _, _, _, .str x t, _ => .str x t
  | _, _, n, .tok _, hk => by cases n <;> simp [toDat, kqdOk] at hk
  | _, _, n, .walk _, hk => by cases n <;> simp [toDat, kqdOk] at hk
  | _, _, n, .obj _, hk => by cases n <;> simp [toDat, kqdOk] at hk
  | _, _, n, .fix _, hk => by cases n <;> simp [toDat, kqdOk] at hk
  | _, _, 0, .tuple _ _, hk => by simp [toDat, kqdOk] at hk
  | _, _, 0, .list _ _, hk => by simp [toDat, kqdOk] at hk
  | _, _, n + 1, .tuple hm r, hk => by rw [toDat]; exact .tuple hm (datAll_of n r (by simpa [toDat, kqdOk] using hk))
  | _, _, n + 1, .list hm r, hk => by rw [toDat]; exact .list hm (datAll_of n r (by simpa [toDat, kqdOk] using hk))
theorem datAll_of {P : Params} {imm : Led} : ∀ {vs : List Value} {ds : List Dt} (n : Nat), DtAll P imm vs ds → (∀ d ∈ toDats ds, kqdOk n d = true) → DatAll imm vs (toDats ds)
  | _, _, _, .nil, _ => .nil
  | _, _, n, .cons h r, hk => by
    rw [toDats] at hk ⊢
    exact .cons (datIn_of n h (hk _ (.head _))) (datAll_of n r fun d hm => hk d (.tail _ hm))
end
/-- data that == may look at -/
abbrev Ok (d : Dt) : Prop := kqdOk 8 (toDat d) = true
section
variable {fi : Fi} {L : Addr} {c : Fc fi L} {δ : Loc} {τ : Tm} {μ : Mus} {h : Heap} {v a b : Value} {d d₁ d₂ : Dt}
theorem St.reads (S : St c δ τ μ h) (ht : τ v d) (ok : Ok d) : ∃ as, Reads h v (kqdP (toDat d)) as := by
  obtain ⟨m, imm, mu, F, N, s, l, t, u⟩ := S
  exact kqd_in (L := c.L) (h₀ := c.g) (news := imm) (fun p hp => N p (List.mem_append.mpr (.inr hp))) 8 (datIn_of 8 (t v d ht) ok) ok
theorem shaped_of (ok : Ok d) : SeqAt.shaped (kqdP (toDat d)) = true := by
  have l := kqd_lay 8 (toDat d) ok
  unfold SeqAt.shaped
  rw [l.1, Bool.true_and]
  exact decide_eq_true (Nat.le_trans l.2 (by decide))
theorem eqv_of (o₁ : Ok d₁) (o₂ : Ok d₂) {r : Bool} (hr : r = true ↔ toDat d₁ = toDat d₂) : PyData.eqv (kqdP (toDat d₁)) (kqdP (toDat d₂)) = r := by
  have q := kqd_eqv 8 (toDat d₁) (toDat d₂) 8 o₁ o₂
  cases r with
  | true => exact q.mpr (hr.mp rfl)
  | false => exact Bool.eq_false_iff.mpr fun z => by have := hr.mpr (q.mp z); cases this
theorem oEq {n : Nat} {r : Bool} (o₁ : Ok d₁) (o₂ : Ok d₂) (hr : r = true ↔ toDat d₁ = toDat d₂) : Op2 n .Eq d₁ d₂ (.bool r) := by
  intro fi L c δ τ μ a b Q E h tk R ha hb S K
  obtain ⟨as, ra⟩ := S.reads ha o₁
  obtain ⟨bs, rb⟩ := S.reads hb o₂
  refine eq_dataH (s := c.st h tk) ra rb (shaped_of o₁) (shaped_of o₂) (by have := R.un; omega) ?_
  rw [eqv_of o₁ o₂ hr]
  exact K _ _ _ (S.hold fun _ _ _ _ _ _ _ _ => .bool _)
theorem oNe {n : Nat} {r : Bool} (o₁ : Ok d₁) (o₂ : Ok d₂) (hr : r = true ↔ ¬ toDat d₁ = toDat d₂) : Op2 n .NotEq d₁ d₂ (.bool r) := by
  intro fi L c δ τ μ a b Q E h tk R ha hb S K
  obtain ⟨as, ra⟩ := S.reads ha o₁
  obtain ⟨bs, rb⟩ := S.reads hb o₂
  refine ne_dataH (s := c.st h tk) ra rb (shaped_of o₁) (shaped_of o₂) (by have := R.un; omega) ?_
  have e : PyData.eqv (kqdP (toDat d₁)) (kqdP (toDat d₂)) = !r := eqv_of o₁ o₂ (by cases r <;> simp_all)
  rw [e, Bool.not_not]
  exact K _ _ _ (S.hold fun _ _ _ _ _ _ _ _ => .bool _)
theorem any_of {xs : List Dt} (hx : ∀ d ∈ xs, kqdOk 8 (toDat d) = true) (o : Ok d) {r : Bool} (hr : r = true ↔ ∃ x ∈ xs, toDat x = toDat d) : ((kqdPs (toDats xs)).any fun y => PyData.eqv y (kqdP (toDat d))) = r := by
  have hx' : ∀ e ∈ toDats xs, kqdOk 8 e = true := by
    intro e he
    rw [toDats_eq] at he
    obtain ⟨x, hm, rfl⟩ := List.mem_map.mp he
    exact hx x hm
  have q := kqd_any (toDats xs) (toDat d) hx' o
  have q2 : toDat d ∈ toDats xs ↔ ∃ x ∈ xs, toDat x = toDat d := by rw [toDats_eq]; exact List.mem_map
  cases r with
  | true => exact q.mpr (q2.mpr (hr.mp rfl))
  | false => exact Bool.eq_false_iff.mpr fun z => by have := hr.mpr (q2.mp (q.mp z)); cases this
theorem tup_ok {xs : List Dt} (hx : ∀ d ∈ xs, kqdOk 8 (toDat d) = true) : ∀ d ∈ toDats xs, kqdOk 8 d = true := by
  intro e he
  rw [toDats_eq] at he
  obtain ⟨x, hm, rfl⟩ := List.mem_map.mp he
  exact hx x hm
theorem St.readsT {xs : List Dt} (S : St c δ τ μ h) (ht : τ v (.tuple xs)) (hx : ∀ d ∈ xs, kqdOk 8 (toDat d) = true) : ∃ as, Reads h v (.tuple (kqdPs (toDats xs))) as := by
  obtain ⟨m, imm, mu, F, N, s, l, t, u⟩ := S
  have ok : kqdOk 9 (toDat (.tuple xs)) = true := by rw [toDat, kqdOk]; exact List.all_eq_true.mpr (tup_ok hx)
  have := kqd_in (L := c.L) (h₀ := c.g) (news := imm) (fun p hp => N p (List.mem_append.mpr (.inr hp))) 9 (datIn_of 9 (t v _ ht) ok) ok
  rw [toDat, kqdP] at this
  exact this
theorem oIn {n : Nat} {r : Bool} {xs : List Dt} (o : Ok d) (hx : ∀ d ∈ xs, kqdOk 8 (toDat d) = true) (hr : r = true ↔ ∃ x ∈ xs, toDat x = toDat d) : Op2 n .In d (.tuple xs) (.bool r) := by
  intro fi L c δ τ μ a b Q E h tk R ha hb S K
  obtain ⟨as, ra⟩ := S.reads ha o
  obtain ⟨bs, rb⟩ := S.readsT hb hx
  have l := kqd_layL (tup_ok hx)
  have ld := kqd_lay 8 (toDat d) o
  refine SeqAt.in_tuple_reads (s := c.st h tk) rb ra l.1 ld.1 ?_ ?_
  · have := R.un; have l2 := ld.2; have := Nat.min_le_right (PyData.depthAll (kqdPs (toDats xs))) (kqdP (toDat d)).depth; omega
  · rw [any_of hx o hr]; exact K _ _ _ (S.hold fun _ _ _ _ _ _ _ _ => .bool _)
theorem oNotIn {n : Nat} {r : Bool} {xs : List Dt} (o : Ok d) (hx : ∀ d ∈ xs, kqdOk 8 (toDat d) = true) (hr : r = true ↔ ¬ ∃ x ∈ xs, toDat x = toDat d) : Op2 n .NotIn d (.tuple xs) (.bool r) := by
  intro fi L c δ τ μ a b Q E h tk R ha hb S K
  obtain ⟨as, ra⟩ := S.reads ha o
  obtain ⟨bs, rb⟩ := S.readsT hb hx
  have l := kqd_layL (tup_ok hx)
  have ld := kqd_lay 8 (toDat d) o
  refine SeqAt.notIn_tuple_reads (s := c.st h tk) rb ra l.1 ld.1 ?_ ?_
  · have := R.un; have l2 := ld.2; have := Nat.min_le_right (PyData.depthAll (kqdPs (toDats xs))) (kqdP (toDat d)).depth; omega
  · rw [any_of hx o (r := !r) (by cases r <;> simp_all), Bool.not_not]; exact K _ _ _ (S.hold fun _ _ _ _ _ _ _ _ => .bool _)
theorem St.isInt {i : Int} (S : St c δ τ μ h) (ht : τ v (.int i)) : ∃ t, v = .int i t := by
  obtain ⟨_, _, _, _, _, _, _, t, _⟩ := S
  have := t v _ ht
  cases this; exact ⟨_, rfl⟩
theorem St.isStr {x : Str} (S : St c δ τ μ h) (ht : τ v (.str x)) : ∃ t, v = .str x t := by
  obtain ⟨_, _, _, _, _, _, _, t, _⟩ := S
  have := t v _ ht
  cases this; exact ⟨_, rfl⟩
theorem St.isObj {x : Addr} (S : St c δ τ μ h) (ht : τ v (.obj x)) : v = .ref x := by
  obtain ⟨_, _, _, _, _, _, _, t, _⟩ := S
  have := t v _ ht
  cases this; rfl
theorem oGe {n : Nat} {i j : Int} : Op2 n .GtE (.int i) (.int j) (.bool (decide (j ≤ i))) := by
  intro fi L c δ τ μ a b Q E h tk R ha hb S K
  obtain ⟨t, rfl⟩ := S.isInt ha
  obtain ⟨u, rfl⟩ := S.isInt hb
  exact ge_int (K _ _ _ (S.hold fun _ _ _ _ _ _ _ _ => .bool _))
theorem oLt {n : Nat} {i j : Int} : Op2 n .Lt (.int i) (.int j) (.bool (decide (i < j))) := by
  intro fi L c δ τ μ a b Q E h tk R ha hb S K
  obtain ⟨t, rfl⟩ := S.isInt ha
  obtain ⟨u, rfl⟩ := S.isInt hb
  exact lt_int (K _ _ _ (S.hold fun _ _ _ _ _ _ _ _ => .bool _))
theorem oGt {n : Nat} {i j : Int} : Op2 n .Gt (.int i) (.int j) (.bool (decide (j < i))) := by
  intro fi L c δ τ μ a b Q E h tk R ha hb S K
  obtain ⟨t, rfl⟩ := S.isInt ha
  obtain ⟨u, rfl⟩ := S.isInt hb
  exact gt_int (K _ _ _ (S.hold fun _ _ _ _ _ _ _ _ => .bool _))
theorem oIsNot {n : Nat} {r : Bool} (hr : r = true ↔ d ≠ .none) : Op2 n .IsNot d .none (.bool r) := by
  intro fi L c δ τ μ a b Q E h tk R ha hb S K
  obtain ⟨e1, e2⟩ : b = .none ∧ (a == .none) = !r := by
    obtain ⟨_, imm, _, _, _, _, _, t, _⟩ := S
    have q1 := t b _ hb
    have q2 := t a _ ha
    constructor
    · cases q1; rfl
    · cases r with
      | true => cases q2 <;> first | rfl | (exact absurd rfl (hr.mp rfl)) | (rename_i q; obtain ⟨a', _, _, _, _, _, _, _, _, _, _, e, _⟩ := q; subst e; rfl)
      | false =>
        have : d = .none := Classical.byContradiction fun z => by have := hr.mpr z; cases this
        subst this
        cases q2; rfl
  subst e1
  refine isNot_none ?_
  rw [e2, Bool.not_not]
  exact K _ _ _ (S.hold fun _ _ _ _ _ _ _ _ => .bool _)
theorem oIs {n : Nat} {r : Bool} (hr : r = true ↔ d = .none) : Op2 n .Is d .none (.bool r) := by
  intro fi L c δ τ μ a b Q E h tk R ha hb S K
  obtain ⟨e1, e2⟩ : b = .none ∧ (a == .none) = r := by
    obtain ⟨_, imm, _, _, _, _, _, t, _⟩ := S
    have q1 := t b _ hb
    have q2 := t a _ ha
    constructor
    · cases q1; rfl
    · cases r with
      | false => cases q2 <;> first | rfl | (have := hr.mpr rfl; cases this) | (rename_i q; obtain ⟨a', _, _, _, _, _, _, _, _, _, _, e, _⟩ := q; subst e; rfl)
      | true =>
        have : d = .none := hr.mp rfl
        subst this
        cases q2; rfl
  subst e1
  refine is_none ?_
  rw [e2]
  exact K _ _ _ (S.hold fun _ _ _ _ _ _ _ _ => .bool _)
theorem bAdd {n : Nat} {i j : Int} : Bi2 n .Add (.int i) (.int j) (.int (i + j)) := by
  intro fi L c δ τ μ a b Q E h tk R ha hb S K
  obtain ⟨t, rfl⟩ := S.isInt ha
  obtain ⟨u, rfl⟩ := S.isInt hb
  exact add_int (s := c.st h tk) (K _ _ _ (S.hold fun _ _ _ _ _ _ _ _ => .int _ _))
theorem bSub {n : Nat} {i j : Int} : Bi2 n .Sub (.int i) (.int j) (.int (i - j)) := by
  intro fi L c δ τ μ a b Q E h tk R ha hb S K
  obtain ⟨t, rfl⟩ := S.isInt ha
  obtain ⟨u, rfl⟩ := S.isInt hb
  exact sub_int (s := c.st h tk) (K _ _ _ (S.hold fun _ _ _ _ _ _ _ _ => .int _ _))
theorem bMod {n : Nat} {i j : Int} (hj : j ≠ 0) : Bi2 n .Mod (.int i) (.int j) (.int (i.fmod j)) := by
  intro fi L c δ τ μ a b Q E h tk R ha hb S K
  obtain ⟨t, rfl⟩ := S.isInt ha
  obtain ⟨u, rfl⟩ := S.isInt hb
  exact mod_int (s := c.st h tk) hj (K _ _ _ (S.hold fun _ _ _ _ _ _ _ _ => .int _ _))
theorem bDiv {n : Nat} {i j : Int} (hj : j ≠ 0) (hs : j.natAbs < 1073741824) : Bi2 n .FloorDiv (.int i) (.int j) (.int (i.fdiv j)) := by
  intro fi L c δ τ μ a b Q E h tk R ha hb S K
  obtain ⟨t, rfl⟩ := S.isInt ha
  obtain ⟨u, rfl⟩ := S.isInt hb
  exact floordiv_int (s := c.st h tk) hj (K _ _ _ (S.hold fun _ _ _ _ _ _ _ _ => .int _ _)) (.inl (PyProof.noPylong_small hs))
theorem bMul {n : Nat} {i j : Int} (hm : IntMulOk i j) : Bi2 n .Mult (.int i) (.int j) (.int (i * j)) := by
  intro fi L c δ τ μ a b Q E h tk R ha hb S K
  obtain ⟨t, rfl⟩ := S.isInt ha
  obtain ⟨u, rfl⟩ := S.isInt hb
  exact mul_int (s := c.st h tk) (K _ _ _ (S.hold fun _ _ _ _ _ _ _ _ => .int _ _)) hm
theorem bPow {n : Nat} {i j : Int} (hj : 0 ≤ j) (hs : (Builtin.Int.intBits i : Int) * j ≤ 2 ^ 27) : Bi2 n .Pow (.int i) (.int j) (.int (i ^ j.toNat)) := by
  intro fi L c δ τ μ a b Q E h tk R ha hb S K
  obtain ⟨t, rfl⟩ := S.isInt ha
  obtain ⟨u, rfl⟩ := S.isInt hb
  exact pow_int (s := c.st h tk) hj hs (K _ _ _ (S.hold fun _ _ _ _ _ _ _ _ => .int _ _))
end
end Mine
end

noncomputable section
open PySem PySem.W PyProof.Rows PySem.Calls PySem.Spec
set_option Elab.async false
set_option linter.unusedVariables false
namespace Mine
set_option maxRecDepth 100000
set_option genSizeOf false
set_option genInjectivity false
set_option maxHeartbeats 8000000

noncomputable def T2 (τ : Tm) : List Value → List Dt → Prop
  | [], [] => True
  | v :: vs, d :: ds => τ v d ∧ T2 τ vs ds
  | _, _ => False
theorem T2.mono {τ τ' : Tm} (k : ∀ v d, τ v d → τ' v d) : ∀ {vs : List Value} {ds : List Dt}, T2 τ vs ds → T2 τ' vs ds
  | [], [], _ => trivial
  | _ :: _, _ :: _, ⟨a, b⟩ => ⟨k _ _ a, T2.mono k b⟩
theorem T2.all {P : Params} {imm : Led} {τ : Tm} (t : TmIn P imm τ) : ∀ {vs : List Value} {ds : List Dt}, T2 τ vs ds → DtAll P imm vs ds
  | [], [], _ => .nil
  | _ :: _, _ :: _, ⟨a, b⟩ => .cons (t _ _ a) (T2.all t b)
theorem T2.length {τ : Tm} : ∀ {vs : List Value} {ds : List Dt}, T2 τ vs ds → vs.length = ds.length
  | [], [], _ => rfl
  | _ :: _, _ :: _, ⟨_, b⟩ => congrArg (· + 1) (T2.length b)
/-- expressions, one after the other -/
def EDs (n : Nat) (fi : Fi) (L : Addr) (ev : Env) (δ : Loc) (μ : Mus) (es : List Expr) (μ' : Mus) (ds : List Dt) : Prop :=
  ∀ (c : Fc fi L) (τ : Tm) (ν : Mus) (pos : Pos) (Q : List Value → Shared → Prop) (E : Value → Shared → Prop) (h : Heap) (tk : Nat), Room n c.A → St c δ τ (μ ++ ν) h →
    (∀ vs τ' h' tk', (∀ v d, τ v d → τ' v d) → T2 τ' vs ds → St c δ τ' (μ' ++ ν) h' → Q vs (c.st h' tk')) → wpAny (model prog0 c.w) c.A (spliced (backTo pos (starEach es ev))) Q E (c.st h tk)
section
variable {n : Nat} {fi : Fi} {L : Addr} {ev : Env} {δ : Loc} {μ μ₁ μ₂ μ' : Mus} {d d₁ d₂ : Dt} {ds : List Dt} {b : Bool} {pos p1 p2 : Pos} {k : Nat} {x : Str} {e : Expr} {es : List Expr}
theorem esNil : EDs n fi L ev δ μ [] μ [] := fun c τ ν pos Q E h tk R S K => wpAny_items_nil (K [] τ h tk (fun _ _ e => e) trivial S)
theorem esCons (h₁ : ED n fi L ev δ μ e μ₁ d) (h₂ : EDs n fi L ev δ μ₁ es μ₂ ds) (he : ∀ env, starEach (e :: es) env = (false, eval e env) :: starEach es env := by intro _; rfl) : EDs n fi L ev δ μ (e :: es) μ₂ (d :: ds) := by
  intro c τ ν pos Q E h tk R S K
  exact wpAny_items_cons (h₁ c τ ν _ _ h tk R S fun v h' tk' S₁ => h₂ c _ ν _ _ _ h' tk' R S₁ fun vs τ' h'' tk'' s t S₂ => K (v :: vs) τ' h'' tk'' (fun v d e => s v d (.inr e)) ⟨s _ _ (.inl ⟨rfl, rfl⟩), t⟩ S₂) (he _)
theorem fits {l : Nat} (h : l ≤ 1000000) : l ≤ sizeLine := Nat.le_trans h (by decide)
theorem eTup (h₁ : EDs n fi L ev δ μ es μ' ds) (hl : Nat.ble ds.length 1000000 = true := by rfl) : ED n fi L ev δ μ (.Tuple es k pos) μ' (.tuple ds) := by
  intro c τ ν Q E h tk R S K
  refine wpAny_Tuple (h₁ c τ ν _ _ _ h tk R S fun vs τ' h' tk' s t S' => ⟨fits (t.length ▸ Nat.le_of_ble_eq_true hl), K _ _ _ ?_⟩)
  exact (S'.push (o := { cls := .type "tuple", data := .seq vs.toArray }) (d := .tuple ds) rfl fun imm tm => .tuple (.head _) ((t.all tm).mono fun _ q => .tail _ q)).weaken (fun _ _ e => e) fun v d e => by
    rcases e with e | e
    · exact .inl e
    · exact .inr (s _ _ e)
theorem eLst (h₁ : EDs n fi L ev δ μ es μ' ds) (hl : Nat.ble ds.length 1000000 = true := by rfl) : ED n fi L ev δ μ (.List es pos) μ' (.list ds) := by
  intro c τ ν Q E h tk R S K
  refine wpAny_List (h₁ c τ ν _ _ _ h tk R S fun vs τ' h' tk' s t S' => ⟨fits (t.length ▸ Nat.le_of_ble_eq_true hl), K _ _ _ ?_⟩)
  exact (S'.push (o := { cls := .type "list", data := .seq vs.toArray }) (d := .list ds) rfl fun imm tm => .list (.head _) ((t.all tm).mono fun _ q => .tail _ q)).weaken (fun _ _ e => e) fun v d e => by
    rcases e with e | e
    · exact .inl e
    · exact .inr (s _ _ e)
end
section
variable {fi : Fi} {L : Addr} {c : Fc fi L} {δ : Loc} {τ : Tm} {μ ν : Mus} {h : Heap} {v a b : Value} {d d₁ d₂ : Dt} {ds : List Dt}
/-- a list that is held -/
theorem St.list (S : St c δ τ μ h) (ht : τ v (.list ds)) : ∃ (l : Addr) (vs : List Value), v = .ref l ∧ h.IsList l vs.toArray ∧ vs.length = ds.length ∧ (∀ (k : Nat) (d : Dt), ds[k]? = some d → ∃ u : Value, vs[k]? = some u ∧ St c δ (τ.add u d) μ h) := by
  obtain ⟨m, imm, mu, F, N, s, lo, t, u⟩ := S
  have q := t v _ ht
  cases q with
  | @list l vs n _ hm r =>
    exact ⟨l, vs, rfl, ⟨_, (N _ (List.mem_append.mpr (.inr hm))).1, rfl, n, rfl⟩, r.length, fun k d hk => by
      obtain ⟨u', e, hd⟩ := r.get hk
      exact ⟨u', e, m, imm, mu, F, N, s, lo, t.add hd, u⟩⟩
theorem St.tuple (S : St c δ τ μ h) (ht : τ v (.tuple ds)) : ∃ (l : Addr) (vs : List Value), v = .ref l ∧ IsTup h l vs.toArray ∧ vs.length = ds.length ∧ (∀ (k : Nat) (d : Dt), ds[k]? = some d → ∃ u : Value, vs[k]? = some u ∧ St c δ (τ.add u d) μ h) := by
  obtain ⟨m, imm, mu, F, N, s, lo, t, u⟩ := S
  have q := t v _ ht
  cases q with
  | @tuple l vs _ hm r =>
    exact ⟨l, vs, rfl, ⟨_, (N _ (List.mem_append.mpr (.inr hm))).1, rfl, _, rfl⟩, r.length, fun k d hk => by
      obtain ⟨u', e, hd⟩ := r.get hk
      exact ⟨u', e, m, imm, mu, F, N, s, lo, t.add hd, u⟩⟩
end
section
variable {n : Nat} {fi : Fi} {L : Addr} {ev : Env} {δ : Loc} {μ μ₁ μ₂ μ' : Mus} {d d₁ d₂ : Dt} {ds : List Dt} {b : Bool} {pos p1 p2 : Pos} {k : Nat} {x : Str} {e e₁ e₂ : Expr} {es : List Expr}
/-- an item of a list -/
theorem eItem {i : Int} (h₁ : ED n fi L ev δ μ e₁ μ₁ (.list ds)) (h₂ : ED n fi L ev δ μ₁ e₂ μ₂ (.int i)) (h0 : 0 ≤ i) (hd : ds[i.toNat]? = some d) (hf : i < 2 ^ 63)
    (hs : ∀ l u, subscripted e₂ false (.ref l) (.int i u) = operate [.ref l, .int i u] (getItem (.ref l) (.int i u)) := by intro _ _; with_unfolding_all rfl) : ED n fi L ev δ μ (.Subscript e₁ e₂ pos) μ₂ d := by
  intro c τ ν Q E h tk R S K
  refine Subscript_ (h₁ c τ ν _ _ h tk R S fun a h' tk' S₁ => h₂ c _ ν _ _ h' tk' R S₁ fun b' h'' tk'' S₂ => ?_)
  obtain ⟨t, rfl⟩ := S₂.isInt (.inl ⟨rfl, rfl⟩)
  obtain ⟨l, vs, rfl, hl, hn, get⟩ := S₂.list (v := a) (ds := ds) (.inr (.inl ⟨rfl, rfl⟩))
  obtain ⟨u, hu, S₃⟩ := get _ _ hd
  refine tail_any hl.typeIs slot_list_getitem.lookup (wpAny_getItem_list hl h0 hf (by simpa using hu) (K _ _ _ (S₃.weaken (fun _ _ e => e) fun v d e => ?_))) (hs _ _)
  rcases e with e | e
  · exact .inl e
  · exact .inr (.inr (.inr e))
theorem eTItem {i : Int} {j : Nat} (h₁ : ED n fi L ev δ μ e₁ μ₁ (.tuple ds)) (h₂ : ED n fi L ev δ μ₁ e₂ μ₂ (.int i)) (hj : seqIndex? i ds.length = some j) (hd : ds[j]? = some d) (hlo : -(2 ^ 63) ≤ i) (hf : i < 2 ^ 63)
    (hs : ∀ l u, subscripted e₂ false (.ref l) (.int i u) = operate [.ref l, .int i u] (getItem (.ref l) (.int i u)) := by intro _ _; with_unfolding_all rfl) : ED n fi L ev δ μ (.Subscript e₁ e₂ pos) μ₂ d := by
  intro c τ ν Q E h tk R S K
  refine Subscript_ (h₁ c τ ν _ _ h tk R S fun a h' tk' S₁ => h₂ c _ ν _ _ h' tk' R S₁ fun b' h'' tk'' S₂ => ?_)
  obtain ⟨t, rfl⟩ := S₂.isInt (.inl ⟨rfl, rfl⟩)
  obtain ⟨l, vs, rfl, hl, hn, get⟩ := S₂.tuple (v := a) (ds := ds) (.inr (.inl ⟨rfl, rfl⟩))
  obtain ⟨u, hu, S₃⟩ := get _ _ hd
  refine item_tupleT (s := c.st h'' tk'') hl hlo hf (hn ▸ hj) hu (K _ _ _ (S₃.weaken (fun _ _ e => e) fun v d e => ?_)) (hs _ _)
  rcases e with e | e
  · exact .inl e
  · exact .inr (.inr (.inr e))
end
end Mine
end

noncomputable section
open PySem PySem.W PyProof.Rows PySem.Calls PySem.Spec
set_option Elab.async false
set_option linter.unusedVariables false
namespace Mine
set_option maxRecDepth 100000
set_option genSizeOf false
set_option genInjectivity false
set_option maxHeartbeats 8000000

inductive LvE (e : Addr) (oe : Obj) (T : Option Addr) (fl : Value) (h h' : Heap) : Prop
  | mk (oe' : Obj) (vs' : Array Value) (T' : Addr) (oT' : Obj) (ts' : Array Value) (a1 : h'.get? e = some oe') (a2 : oe'.cls = oe.cls) (a3 : oe'.dict = oe.dict) (a4 : oe'.data = .fields vs') (a5 : vs'[1]? = some (.ref T')) (a6 : T' ≠ e) (a7 : T = some T' ∨ h.get? T' = none) (a8 : h'.get? T' = some oT') (a9 : oT'.data = .fields ts') (a10 : ts'[3]? = some fl) : LvE e oe T fl h h'
/-- what happens to the ledger as a frame is noted: e gets one more traceback entry, T' (its old one, T, is touched); frames change in their slots alone -/
structure Lv (fs : List Addr) (e : Addr) (oe : Obj) (T : Option Addr) (fl : Value) (h h' : Heap) : Prop where
  same : ∀ b o, h.get? b = some o → b ≠ e → b ∉ fs → T ≠ some b → h'.get? b = some o
  slots : ∀ b o, h.get? b = some o → b ≠ e → T ≠ some b → ∃ sl, h'.get? b = some { o with slots := sl }
  exc : LvE e oe T fl h h'
theorem dict_mf (o : Obj) (f : Array Value → Array Value) : (o.mapFields f).dict = o.dict := by
  unfold Obj.mapFields; split <;> rfl
section
variable {M : Model} {A : Around} {E : Value → Shared → Prop} {s : Shared}
theorem entry_L {base : Heap} {env : Env} {outer : List Env} {L e : Addr} {oe : Obj} {vs : Array Value} {head : Value} {hadNext : Bool} {Q : Unit → Shared → Prop}
    (hfr : A.frames = some (env :: outer)) (hl : s.heap.FunFrames base (env :: outer)) (hf : env.frame = some L)
    (he : s.heap.get? e = some oe) (hd : oe.data = .fields vs) (hsz : 1 < vs.size)
    (h : ∀ h', Lv ((env :: outer).filterMap (·.frame)) e oe none (rawInt L) s.heap h' → Q () { s with heap := h' }) :
    wpAny M A (do let a ← frameOf env; let pl ← entryPlaceOf L hadNext; let b ← EntryCells.newEntry head a .none (rawInt L) .none pl; setField (.ref e) 1 b) Q E s := by
  have hene : e ∉ (env :: outer).filterMap (·.frame) := fun hm => by
    obtain ⟨_, o, ho, hnf⟩ := hl.mem hm
    rw [he] at ho; injection ho with ho; subst ho; exact hnf vs hd
  refine wpAny_bind (wpAny_frameOf_fun hfr hl hf fun h₁ hs₁ => ?_)
  refine wpAny_bind (wpAny_entryPlaceOf fun pl hpl => ?_)
  unfold EntryCells.newEntry newFields
  refine wpAny_bind (wpAny_newObj_type ?_ (hpl.sizeOk5 _ _ _ _ _))
  have he₁ : h₁.get? e = some oe := (hs₁.2.1 e hene).trans he
  generalize hT : ([head, .ref L, .none, rawInt L, .none] ++ (if pl.isEmpty then List.replicate 6 Value.none else pl)).toArray = te
  have he₂ := Heap.get?_push_of_some (h := h₁) { cls := .type "traceback", dict := none, data := .fields te } he₁
  refine wpAny_setField he₂ hd hsz (h _ ?_)
  have hTe : h₁.objs.size ≠ e := Nat.ne_of_gt (Heap.lt_size he₁)
  have hd₃ := Obj.data_mapFields hd (·.setIfInBounds 1 (Value.ref h₁.objs.size))
  have he₃ := Heap.get?_update_self (Obj.mapFields (·.setIfInBounds 1 (Value.ref h₁.objs.size))) he₂ (Obj.isFreed_of_fields hd₃)
  have hT₃ := (Heap.get?_update_other (h₁.push { cls := .type "traceback", dict := none, data := .fields te }) (Obj.mapFields (·.setIfInBounds 1 (Value.ref h₁.objs.size))) (Ne.symm hTe)).trans (Heap.get?_push_size h₁ rfl)
  have h3 : te[3]? = some (rawInt L) := by rw [← hT]; rfl
  have keep : ∀ b o, b ≠ e → h₁.get? b = some o →
      ((h₁.push { cls := .type "traceback", dict := none, data := .fields te }).update e (Obj.mapFields (·.setIfInBounds 1 (Value.ref h₁.objs.size)))).get? b = some o := fun b o hbe hb => by
    rw [Heap.get?_update_other _ _ (Ne.symm hbe)]
    exact Heap.get?_push_of_some _ hb
  refine ⟨fun b o hb hbe hbf _ => keep b o hbe ((hs₁.2.1 b hbf).trans hb), fun b o hb hbe _ => ?_, ?_⟩
  · obtain ⟨sl, hs⟩ := hs₁.2.2 b o hb
    exact ⟨sl, keep b _ hbe hs⟩
  · refine ⟨_, _, h₁.objs.size, _, _, he₃, Obj.cls_mapFields (oe) (·.setIfInBounds 1 (Value.ref h₁.objs.size)), dict_mf _ _, hd₃, by simp [hsz], hTe, .inr ?_, hT₃, rfl, h3⟩
    cases q : s.heap.get? h₁.objs.size with
    | none => rfl
    | some o =>
      obtain ⟨sl, hs⟩ := hs₁.2.2 _ o q
      exact absurd (Heap.lt_size hs) (Nat.lt_irrefl _)
theorem note_L {base : Heap} {env : Env} {outer : List Env} {L e : Addr} {oe : Obj} {vs : Array Value} {T : Option Addr} {Q : Unit → Shared → Prop}
    (hfr : A.frames = some (env :: outer)) (hl : s.heap.FunFrames base (env :: outer)) (hf : env.frame = some L)
    (he : s.heap.get? e = some oe) (hd : oe.data = .fields vs) (tb : vs[1]? = some ((T.map Value.ref).getD .none)) (hT : ∀ t, T = some t → t ≠ e ∧ ∃ oT ts, s.heap.get? t = some oT ∧ oT.data = .fields ts ∧ (ts[3]? = some .none ∨ ts[3]? = some (rawInt L)))
    (h : ∀ h', Lv ((env :: outer).filterMap (·.frame)) e oe T (rawInt L) s.heap h' → Q () { s with heap := h' }) : wpAny M A (noteFrame (.ref e) env) Q E s := by
  unfold noteFrame
  simp only [hf]
  refine wpAny_bind (wpAny_field he hd tb ?_)
  have hsz := (Array.getElem?_eq_some_iff.mp tb).1
  cases T with
  | none =>
    rw [if_neg (by decide)]
    exact entry_L hfr hl hf he hd hsz h
  | some T =>
    obtain ⟨hTe, oT, ts, hT, hdT, h3⟩ := hT T rfl
    simp only [Option.map_some, Option.getD_some]
    rw [if_pos (show (Value.ref T != Value.none) = true from by simp)]
    rcases h3 with h3 | h3
    · refine wpAny_bind (wpAny_field hT hdT h3 ?_)
      rw [if_neg (show ¬ ((Value.none == rawInt L) = true) from by simp [rawInt])]
      refine wpAny_bind (wpAny_setField hT hdT (Array.getElem?_eq_some_iff.mp h3).1 ?_)
      have other : ∀ b, b ≠ T → (s.heap.update T (Obj.mapFields (·.setIfInBounds 3 Value.none))).get? b = s.heap.get? b := fun b hb => Heap.get?_update_other _ _ (Ne.symm hb)
      have noRecord : ∀ b o, s.heap.get? b = some o → (∀ vs, o.data ≠ .fields vs) → b ≠ T := fun b o hb hnf q => by
        rw [q, hT] at hb; injection hb with hb; subst hb; exact hnf ts hdT
      refine entry_L hfr (hl.of_keeps fun b o hb hnf => ⟨o, (other b (noRecord b o hb hnf)).trans hb, rfl⟩) hf ((other e (Ne.symm hTe)).trans he) hd hsz fun h' x => h h' ⟨?_, ?_, ?_⟩
      · exact fun b o hb hbe hbf hbT => x.same b o ((other b fun q => hbT (q ▸ rfl)).trans hb) hbe hbf (fun q => by cases q)
      · exact fun b o hb hbe hbT => x.slots b o ((other b fun q => hbT (q ▸ rfl)).trans hb) hbe (fun q => by cases q)
      · obtain ⟨oe', vs', T', oT', ts', a1, a2, a3, a4, a5, a6, a7, a8, a9, a10⟩ := x.exc
        refine ⟨oe', vs', T', oT', ts', a1, a2, a3, a4, a5, a6, ?_, a8, a9, a10⟩
        by_cases q : T' = T
        · exact .inl (by rw [q])
        · exact .inr ((other T' q).symm.trans (a7.elim (fun z => by cases z) id))
    · refine wpAny_bind (wpAny_field hT hdT h3 ?_)
      rw [if_pos (show (rawInt L == rawInt L) = true from by simp)]
      refine wpAny_pure (h _ ⟨fun b o hb _ _ _ => hb, fun b o hb _ _ => ⟨o.slots, hb⟩, oe, vs, T, oT, ts, he, rfl, rfl, hd, tb, hTe, .inl rfl, hT, hdT, h3⟩)
theorem flight_L {fs : List Addr} {h₀ : Heap} {e : Addr} {oe : Obj} {T : Option Addr} {fl : Value} {f : Option Addr} {Q : Unit → Shared → Prop} (x : Lv fs e oe T fl h₀ s.heap)
    (h : ∀ h', Lv fs e oe T (f.elim .none fun a => rawInt a) h₀ h' → Q () { s with heap := h' }) : wpAny M A (setFlight (.ref e) f) Q E s := by
  obtain ⟨oe', vs', T', oT', ts', a1, a2, a3, a4, a5, a6, a7, a8, a9, a10⟩ := x.exc
  unfold setFlight
  refine wpAny_bind (wpAny_field a1 a4 a5 ?_)
  rw [if_pos (show (Value.ref T' != Value.none) = true from by simp)]
  have hsz := (Array.getElem?_eq_some_iff.mp a10).1
  have ne : ∀ b o, h₀.get? b = some o → T ≠ some b → T' ≠ b := fun b o hb hT q => by
    subst q
    rcases a7 with a7 | a7
    · exact hT a7
    · rw [a7] at hb; cases hb
  refine wpAny_setField a8 a9 hsz (h _ ⟨fun b o hb hbe hbf hT => ?_, fun b o hb hbe hT => ?_, oe', vs', T', _, _, ?_, a2, a3, a4, a5, a6, a7, Heap.get?_update_self _ a8 (Obj.isFreed_of_fields (Obj.data_mapFields a9 _)), Obj.data_mapFields a9 _, by simp [hsz]⟩)
  · rw [Heap.get?_update_other _ _ (ne b o hb hT)]; exact x.same b o hb hbe hbf hT
  · rw [Heap.get?_update_other _ _ (ne b o hb hT)]; exact x.slots b o hb hbe hT
  · rw [Heap.get?_update_other _ _ a6]; exact a1
end

section
variable {fi fi' : Fi} {L L' : Addr} {c : Fc fi L} {c' : Fc fi' L'} {δ δ' : Loc} {τ τ' : Tm} {ν : Mus} {h₀ : Heap} {e : Addr} {j : Int} {b : Bool} {h : Heap} {tk : Nat} {Q : Unit → Shared → Prop} {E : Value → Shared → Prop}
inductive FlyO {fi : Fi} {L : Addr} (b : Bool) (c : Fc fi L) (δ : Loc) (τ : Tm) (ν : Mus) (e : Addr) (j : Int) (h : Heap) : Prop
  | mk (base : Heap) (oe : Obj) (vs : Array Value) (T : Option Addr) (fr : h.FunFrames base (fi.env c.L :: c.outer)) (he : h.get? e = some oe) (hd : oe.data = .fields vs) (tb : vs[1]? = some ((T.map Value.ref).getD .none)) (hb : b = true → T ≠ none)
    (hT : ∀ t, T = some t → t ≠ e ∧ ∃ oT ts, h.get? t = some oT ∧ oT.data = .fields ts ∧ (ts[3]? = some .none ∨ ts[3]? = some (rawInt c.L)))
    (m : Str → Option Value) (imm mu : Led) (Ns : h.Ns c.L m) (keep : ∀ b o, c.g.get? b = some o → (b ∉ c.outer.filterMap (·.frame) → h.get? b = some o) ∧ ∃ sl, h.get? b = some { o with slots := sl }) (N : News c.g c.L h (mu ++ imm)) (l : LocIn c.P imm m δ) (t : TmIn c.P imm τ) (s : Sep mu imm) (u : MuIn c.P imm mu ν)
    (d ta : Addr) (x : Str) (t1 t2 t3 : Tok) (hc : oe.cls = .ref 53) (hdi : oe.dict = some d) (hm : (d, edict c.P x ta t1 t2 t3) ∈ imm) (ha : AtIn imm ta j) (off : c.g.get? e = none ∧ e ≠ c.L ∧ ∀ p ∈ mu ++ imm, p.1 ≠ e) (hTo : ∀ t, T = some t → c.g.get? t = none ∧ t ≠ c.L ∧ ∀ p ∈ mu ++ imm, p.1 ≠ t)
    (hfr : ∀ b, b ∈ c.outer.filterMap (·.frame) → ∃ o, c.g.get? b = some o) : FlyO b c δ τ ν e j h
/-- what a flying exception gives to `note_L` and takes back -/
theorem FlyB.open' (X : FlyB b c δ τ ν e j h) : FlyO b c δ τ ν e j h := by
  obtain ⟨m, imm, mu, Ns, keep, N, l, t, s, u, oe, vs, d, ta, xs, t1, t2, t3, he, hcls, hdict, hdat, hoff, hd, hat, htb⟩ := X
  obtain ⟨A₀, base, B⟩ := c.B
  obtain ⟨oN, es, ep, hN, hNd, r⟩ := id Ns
  obtain ⟨T, tb, hb, hT, hTo⟩ : ∃ T : Option Addr, vs[1]? = some ((T.map Value.ref).getD .none) ∧ (b = true → T ≠ none) ∧ (∀ t, T = some t → t ≠ e ∧ ∃ oT ts, h.get? t = some oT ∧ oT.data = .fields ts ∧ (ts[3]? = some .none ∨ ts[3]? = some (rawInt c.L))) ∧ (∀ t, T = some t → c.g.get? t = none ∧ t ≠ c.L ∧ ∀ p ∈ mu ++ imm, p.1 ≠ t) := by
    rcases htb with ⟨rfl, q⟩ | ⟨T, oT, ts, q, a, b, r⟩
    · exact ⟨none, q, (fun q => nomatch q), (fun t q => nomatch q), fun t q => nomatch q⟩
    · exact ⟨some T, q, (fun _ q => nomatch q), (fun t q => by cases q; exact ⟨a, oT, ts, r⟩), fun t q => by cases q; exact b⟩
  refine ⟨base, oe, vs, T, ⟨by show fi.sc.kind ≠ .module; rw [c.fn]; decide, ⟨c.L, oN, rfl, ?_, hN, fun vs q => by rw [hNd] at q; cases q⟩, B.frames.of_keeps fun b o q _ => let ⟨sl, r⟩ := (keep b o q).2; ⟨_, r, rfl⟩⟩, he, hdat, tb, hb, hT, m, imm, mu, ⟨oN, es, ep, hN, hNd, r⟩, keep, N, l, t, s, u, d, ta, xs, t1, t2, t3, hcls, hdict, hd, hat, hoff, hTo, fun b q => let ⟨_, o, r, _⟩ := B.frames.mem q; ⟨o, r⟩⟩
  cases q : base.get? c.L with
  | none => rfl
  | some o => have := B.stays _ _ q; rw [c.nl] at this; cases this
/-- it goes on within the same call -/
theorem FlyB.stay (X : FlyB b c δ τ ν e j h) {oe : Obj} {T : Option Addr} {fl : Value} {h' : Heap} (he : h.get? e = some oe) {vs : Array Value} (hdat : oe.data = .fields vs) (tb : vs[1]? = some ((T.map Value.ref).getD .none)) (hfl : fl = .none ∨ fl = rawInt c.L)
    (x : Lv ((fi.env c.L :: c.outer).filterMap (·.frame)) e oe T fl h h') : FlyB true c δ τ ν e j h' := by
  obtain ⟨base, oe1, vs1, T1, _, he1, hd1, tb1, _, hT, m, imm, mu, ⟨oL, es, ep, hL, hLd, r⟩, keep, N, l, t, s, u, d, ta, xs, t1, t2, t3, hcls, hdict, hd, hat, hoff, hTo, hfr⟩ := X.open'
  rw [he] at he1; cases he1
  rw [hdat] at hd1; cases hd1
  obtain rfl : T = T1 := by rw [tb] at tb1; cases T <;> cases T1 <;> simp_all
  have hin : ∀ b o, c.g.get? b = some o → b ≠ e ∧ b ≠ c.L := fun b o q => ⟨fun r => (by rw [r, hoff.1] at q; cases q), fun r => (by rw [r, c.nl] at q; cases q)⟩
  have hTg : ∀ b o, c.g.get? b = some o → T ≠ some b := fun b o q r => by have := (hTo b r).1; rw [q] at this; cases this
  have hTL : T ≠ some c.L := fun r => (hTo _ r).2.1 rfl
  have nf : ∀ b, b ∉ c.outer.filterMap (·.frame) → b ≠ c.L → b ∉ (fi.env c.L :: c.outer).filterMap (·.frame) := fun b nb nL z => by
    rcases List.mem_cons.mp (by rwa [List.filterMap_cons] at z : b ∈ c.L :: c.outer.filterMap (·.frame)) with z | z
    · exact nL z
    · exact nb z
  obtain ⟨oe', vs', T', oT', ts', a1, a2, a3, a4, a5, a6, a7, a8, a9, a10⟩ := x.exc
  refine ⟨m, imm, mu, ?_, fun b o q => ?_, fun p hp => ?_, l, t, s, u, oe', vs', d, ta, xs, t1, t2, t3, a1, a2.trans hcls, a3.trans hdict, a4, hoff, hd, hat, .inr ⟨T', oT', ts', a5, a6, ?_, a8, a9, hfl.elim (fun z => .inl (z ▸ a10)) (fun z => .inr (z ▸ a10))⟩⟩
  · obtain ⟨sl, q⟩ := x.slots _ _ hL (Ne.symm hoff.2.1) hTL
    exact ⟨_, es, ep, q, hLd, r⟩
  · obtain ⟨sl, r⟩ := (keep b o q).2
    refine ⟨fun nb => x.same b o ((keep b o q).1 nb) (hin b o q).1 (nf b nb (hin b o q).2) (hTg b o q), ?_⟩
    obtain ⟨sl', r'⟩ := x.slots b _ r (hin b o q).1 (hTg b o q)
    exact ⟨sl', r'⟩
  · obtain ⟨n1, n2, n3⟩ := N p hp
    exact ⟨x.same _ _ n1 (hoff.2.2 p hp) (nf _ (fun z => by obtain ⟨o, r⟩ := hfr _ z; rw [n3] at r; cases r) n2) (fun z => (hTo _ z).2.2 p hp rfl), n2, n3⟩
  · rcases a7 with a7 | a7
    · exact hTo _ a7
    · refine ⟨?_, fun z => (by rw [z, hL] at a7; cases a7), fun p hp z => (by have := (N p hp).1; rw [z, a7] at this; cases this)⟩
      cases r : c.g.get? T' with
      | none => rfl
      | some o =>
        obtain ⟨sl, r'⟩ := (keep _ o r).2
        rw [a7] at r'; cases r'
theorem FlyB.noted {Q : Unit → Shared → Prop} (X : FlyB b c δ τ ν e j h) (hQ : ∀ h', FlyB true c δ τ ν e j h' → Q () (c.st h' tk)) : wpAny (model prog0 c.w) c.A (noteFrame (.ref e) (fi.env c.L)) Q E (c.st h tk) := by
  obtain ⟨base, oe, vs, T, fr, he, hd, tb, _, hT⟩ := X.open'
  exact note_L (s := c.st h tk) c.fr fr rfl he hd tb hT fun h' x => hQ h' (X.stay he hd tb (.inr rfl) x)
theorem FlyB.back {E' : Value → Shared → Prop} (X : FlyB true c δ τ ν e j h) (hQ : ∀ h', FlyB true c δ τ ν e j h' → E' (.ref e) (c.st h' tk)) : cameBackBy (model prog0 c.w) c.A (fi.env c.L) E' (.ref e) (c.st h tk) := by
  obtain ⟨base, oe, vs, T, fr, he, hd, tb, hb, hT⟩ := X.open'
  unfold cameBackBy
  refine wpAny_bind (wpAny_field he hd tb ?_)
  cases T with
  | none => exact absurd rfl (hb rfl)
  | some T =>
    simp only [Option.map_some, Option.getD_some]
    rw [if_neg (show ¬ ((Value.ref T == Value.none) = true) from by simp)]
    obtain ⟨hTe, oT, ts, hT', hdT, h3⟩ := hT T rfl
    obtain ⟨fl, h3'⟩ : ∃ fl, ts[3]? = some fl := h3.elim (fun z => ⟨_, z⟩) fun z => ⟨_, z⟩
    have x : Lv ((fi.env c.L :: c.outer).filterMap (·.frame)) e oe (some T) fl h h := ⟨fun b o hb _ _ _ => hb, fun b o hb _ _ => ⟨o.slots, hb⟩, oe, vs, T, oT, ts, he, rfl, rfl, hd, tb, hTe, .inl rfl, hT', hdT, h3'⟩
    exact flight_L (s := c.st h tk) x fun h' x' => hQ h' (X.stay he hd tb (.inr rfl) x')

/-- it goes out of a callee, and into the caller -/
theorem FlyB.leave {m₀ : Str → Option Value} {news₀ : Led}
    (F₀ : Fr c.g c.L h₀ m₀) (N₀ : News c.g c.L h₀ news₀) (hδ₀ : ∀ x d, δ.lookup x = some d → ∃ v, m₀ x = some v ∧ τ' v d) (hτ₀ : ∀ v d, τ v d → τ' v d)
    (G : Gr h₀ news₀ c'.g c'.L) (hw : c'.w = c.w) (ho : c'.outer = fi.env c.L :: c.outer) (hs : c'.s0.gens = c.s0.gens ∧ c'.s0.drawn = c.s0.drawn ∧ c'.s0.os = c.s0.os)
    (X : FlyB b c' δ' τ' ν e j h) (hQ : ∀ h', FlyB true c δ τ ν e j h' → Q () (c.st h' tk)) : wpAny (model prog0 c.w) c'.A (leaving (fi'.env c'.L) (.ref e)) Q E (c'.st h tk) := by
  obtain ⟨base, oe, vs, T, fr, he, hdat, tb, _, hT, m', imm, mu, Ns, keep, N, l, t, s, u, d, ta, xs, t1, t2, t3, hcls, hdict, hd, hat, hoff, hTo, hfr⟩ := X.open'
  have hg : ∀ b o, c.g.get? b = some o → c'.g.get? b = some o := fun b o q => G.keep b o (F₀.keep b o q) fun p hp r => by
    have := (N₀ p hp).2.2; rw [r, q] at this; cases this
  obtain ⟨oL, es, ep, hL, hLd, hLk, hLf⟩ := F₀.ns
  have hgL : c'.g.get? c.L = some oL := G.keep _ _ hL fun p hp => (N₀ p hp).2.1
  have hL' : c'.g.get? c'.L = none := c'.nl
  have hin : ∀ b o, c'.g.get? b = some o → b ≠ e ∧ b ≠ c'.L := fun b o q => ⟨fun r => (by rw [r, hoff.1] at q; cases q), fun r => (by rw [r, hL'] at q; cases q)⟩
  have hP : c'.P = c.P := congrArg World.params hw
  rw [hP] at t hd u
  have hTg : ∀ b o, c'.g.get? b = some o → T ≠ some b := fun b o q r => by have := (hTo b r).1; rw [q] at this; cases this
  unfold leaving
  refine wpAny_bind (note_L (s := c'.st h tk) c'.fr fr rfl he hdat tb hT fun h₁ x₁ => ?_)
  refine flight_L (s := c'.st h₁ tk) x₁ fun h' x => ?_
  have hst : (c.st h' tk) = { c'.st h₁ tk with heap := h' } := by
    show (⟨h', c.s0.gens, c.s0.drawn, tk, c.s0.os⟩ : Shared) = ⟨h', c'.s0.gens, c'.s0.drawn, tk, c'.s0.os⟩
    rw [hs.1, hs.2.1, hs.2.2]
  rw [← hst]
  obtain ⟨oe', vs', T', oT', ts', a1, a2, a3, a4, a5, a6, a7, a8, a9, a10⟩ := x.exc
  have low : ∀ a, (c'.g.get? a = none) → c.g.get? a = none ∧ a ≠ c.L := fun a q => by
    refine ⟨?_, fun z => by rw [z, hgL] at q; cases q⟩
    cases r : c.g.get? a with
    | none => rfl
    | some o => rw [hg a o r] at q; cases q
  have hn : c.g.get? T' = none ∧ T' ≠ c.L ∧ ∀ p ∈ mu ++ imm, p.1 ≠ T' := by
    rcases a7 with a7 | a7
    · have := hTo _ a7
      exact ⟨(low _ this.1).1, (low _ this.1).2, this.2.2⟩
    · have : c'.g.get? T' = none := by
        cases r : c'.g.get? T' with
        | none => rfl
        | some o =>
          obtain ⟨sl, r'⟩ := (keep _ o r).2
          rw [a7] at r'; cases r'
      exact ⟨(low _ this).1, (low _ this).2, fun p hp z => by have := (N p hp).1; rw [z, a7] at this; cases this⟩
  refine hQ h' ⟨m₀, imm, mu, ?_, fun b o q => ?_, fun p hp => ?_, fun y d' q => ?_, fun v d' q => t v d' (hτ₀ v d' q), s, u, oe', vs', d, ta, xs, t1, t2, t3, a1, a2.trans hcls, a3.trans hdict, a4, ⟨(low _ hoff.1).1, (low _ hoff.1).2.symm ∘ Eq.symm, hoff.2.2⟩, hd, hat, .inr ⟨T', oT', ts', a5, a6, hn, a8, a9, .inl a10⟩⟩
  · obtain ⟨sl, r⟩ := (keep _ _ hgL).2
    obtain ⟨sl', r'⟩ := x.slots _ _ r (hin _ _ hgL).1 (hTg _ _ hgL)
    exact ⟨_, es, ep, r', hLd, hLk, hLf⟩
  · have q' := hg b o q
    have kb := keep b o q'
    obtain ⟨sl, r⟩ := kb.2
    refine ⟨fun nb => ?_, ?_⟩
    · have nb' : b ∉ c'.outer.filterMap (·.frame) := by
        rw [ho]
        intro z
        rcases List.mem_cons.mp (by rwa [List.filterMap_cons] at z : b ∈ c.L :: c.outer.filterMap (·.frame)) with rfl | z
        · rw [c.nl] at q; cases q
        · exact nb z
      refine x.same b o (kb.1 nb') (hin b o q').1 (fun z => ?_) (hTg b o q')
      rcases List.mem_cons.mp (by rwa [List.filterMap_cons] at z : b ∈ c'.L :: c'.outer.filterMap (·.frame)) with rfl | z
      · exact (hin _ _ q').2 rfl
      · exact nb' z
    · obtain ⟨sl', r'⟩ := x.slots b _ r (hin b o q').1 (hTg b o q')
      exact ⟨sl', r'⟩
  · obtain ⟨n1, n2, n3⟩ := N p hp
    refine ⟨x.same _ _ n1 (hoff.2.2 p hp) (fun z => ?_) (fun z => (hTo _ z).2.2 p hp rfl), (fun z => by rw [z, hgL] at n3; cases n3), ?_⟩
    · rcases List.mem_cons.mp (by rwa [List.filterMap_cons] at z : p.1 ∈ c'.L :: c'.outer.filterMap (·.frame)) with z | z
      · exact n2 z
      · obtain ⟨o, r⟩ := hfr _ z
        rw [n3] at r; cases r
    · cases q : c.g.get? p.1 with
      | none => rfl
      | some o => have := hg _ _ q; rw [n3] at this; cases this
  · obtain ⟨v, a, b⟩ := hδ₀ y d' q
    exact ⟨v, a, t v d' b⟩
end
end Mine
end

noncomputable section
open PySem PySem.W PyProof.Rows PySem.Calls PySem.Spec
set_option Elab.async false
set_option linter.unusedVariables false
namespace Mine
set_option maxRecDepth 100000
set_option genSizeOf false
set_option genInjectivity false
set_option maxHeartbeats 8000000

/-- how a call may end -/
inductive FO where
  | ret (μ : Mus) (d : Dt)
  | exc (j : Int)
def Fu (n : Nat) (f : Value) (μ : Mus) (ds : List Dt) (O : FO → Prop) : Prop :=
  ∀ (fi : Fi) (L : Addr) (c : Fc fi L) (δ : Loc) (τ : Tm) (ν : Mus) (vals : List Value) (Q E : Value → Shared → Prop) (h : Heap) (tk : Nat), Room n c.A → T2 τ vals ds → St c δ τ (μ ++ ν) h →
    (∀ v μ' d h' tk', O (.ret μ' d) → St c δ (τ.add v d) (μ' ++ ν) h' → Q v (c.st h' tk')) →
    (∀ x j h' tk', O (.exc j) → Fly c δ τ ν x j h' → E (.ref x) (c.st h' tk')) → wpAny (model prog0 c.w) c.A (call f vals) Q E (c.st h tk)
abbrev Con (n : Nat) (f : Value) (μ : Mus) (ds : List Dt) (μ' : Mus) (d : Dt) : Prop := Fu n f μ ds (· = .ret μ' d)
abbrev ConX (n : Nat) (f : Value) (μ : Mus) (ds : List Dt) (j : Int) : Prop := Fu n f μ ds (· = .exc j)
theorem Room.le {n k : Nat} {A : Around} (R : Room n A) (h : Nat.ble k n = true) : Room k A := by
  have h' := Nat.le_of_ble_eq_true h
  have := R.dp; have := R.un
  exact ⟨by omega, by omega⟩
theorem look_of {τ : Tm} {x : Str} {d : Dt} : ∀ ts : List (Str × Value × Dt), (∀ t ∈ ts, τ t.2.1 t.2.2) → (ts.map fun t => (t.1, t.2.2)).lookup x = some d → ∃ v, (ts.map fun t => (t.1, t.2.1)).lookup x = some v ∧ τ v d
  | [], _, e => by cases e
  | t :: ts, k, e => by
    rw [List.map_cons, List.lookup_cons] at e ⊢
    cases q : x == t.1 with
    | true => rw [q] at e; cases e; exact ⟨_, rfl, k _ (.head _)⟩
    | false => rw [q] at e; exact look_of ts (fun t h => k t (.tail _ h)) e
theorem zip_of {τ : Tm} : ∀ (ps : List Str) (vs : List Value) (ds : List Dt), T2 τ vs ds → ∃ ts : List (Str × Value × Dt), (∀ t ∈ ts, τ t.2.1 t.2.2) ∧ ps.zip vs = ts.map (fun t => (t.1, t.2.1)) ∧ ps.zip ds = ts.map fun t => (t.1, t.2.2)
  | [], _, _, _ => ⟨[], (fun t q => nomatch q), rfl, rfl⟩
  | _ :: _, [], [], _ => ⟨[], (fun t q => nomatch q), rfl, rfl⟩
  | p :: ps, v :: vs, d :: ds, ⟨a, b⟩ =>
    let ⟨ts, h1, h2, h3⟩ := zip_of ps vs ds b
    ⟨(p, v, d) :: ts, fun t q => by rcases List.mem_cons.mp q with rfl | q; exact a; exact h1 t q, by rw [List.zip_cons_cons, h2]; rfl, by rw [List.zip_cons_cons, h3]; rfl⟩
theorem fu_of {n k : Nat} {f : Addr} {μ : Mus} {ds : List Dt} {O : FO → Prop} {O' : Out → Prop} {name qual : Str} {params : Arguments} {body : List Stmt} {scope : Scope} {dV kV doc pm cdv ct oc : Value} {an od : Option Addr} {osl : Array (Option Value)} (ps : List Str) {δ' : Loc}
    (ho : ∀ P, (KM P).lookup f = some ⟨oc, od, .func (fnOf name qual params body scope dV kV doc pm an cdv ct), osl⟩) (hcd : ∀ P, codeIn (KM P) cdv qual = true)
    (hbind : ∀ vals : List Value, vals.length = ds.length → ∀ s, BindsTo s (fnOf name qual params body scope dV kV doc pm an cdv ct) ⟨vals, []⟩ (ps.zip vals)) (hloc : ∀ y ∈ ps, scope.names.lookup y = some .local)
    (hδ : (ps.zip ds).reverse = δ') (hk : Nat.ble (k + 1) n = true) (hb : ∀ L, Bd k ⟨qual, scope, f, cdv, fun _ => [], false⟩ L δ' μ body O')
    (kr : ∀ μ' d, O' (.ret μ' d) → O (.ret μ' d)) (kn : ∀ δ μ', O' (.next δ μ') → O (.ret μ' .none)) (ke : ∀ δ j, O' (.exc δ j) → O (.exc j))
    (hcell : ∀ x ∈ scope.names, x.2 ≠ .cell) (hco : scope.isCoroutine = false) (hgen : scope.isGenerator = false) (hkd : scope.kind = .function) : Fu n (.ref f) μ ds O := by
  intro fi L c δ τ ν vals Q E h tk R t S K KX
  obtain ⟨m, imm, mu, F, N, s, l, tm, u⟩ := S
  refine enter (s := c.st h tk) (ps.zip vals) ⟨c.B, F, c.X, c.T, c.fr, rfl, c.fn, c.hd⟩ R.lt N (ho _) (hcd _) (hbind vals t.length _) (fun y hy => hloc _ (List.of_mem_zip hy).1) (fun g L' h₁ base p loose mean mg mb F' N' B' X' T' G' => ?_) hcell hco hgen hkd
  let c' : Fc ⟨qual, scope, f, cdv, fun _ => [], false⟩ L' := ⟨c.w, c.A.deeper (envOf qual scope L' f cdv), g, fi.env c.L :: c.outer, c.s0, X', ⟨p, loose, mean, mg, mb, T'⟩, ⟨_, _, B'⟩, Around.frames_deeper B'.stack, c.hd, hkd, by
    cases q : g.get? L' with
    | none => rfl
    | some o => exact absurd (Nat.lt_of_lt_of_le (Heap.lt_size q) F'.above) (Nat.lt_irrefl _), fun q => nomatch q⟩
  let τ' : Tm := fun v d => τ v d ∨ ∃ x, m x = some v ∧ δ.lookup x = some d
  have lk : ∀ x d, δ.lookup x = some d → ∃ v, m x = some v ∧ τ' v d := fun x d e => let ⟨v, a, _⟩ := l x d e; ⟨v, a, .inr ⟨x, a, e⟩⟩
  have tm' : TmIn c.P imm τ' := fun v d e => by
    rcases e with e | ⟨x, a, b⟩
    · exact tm v d e
    · obtain ⟨v', a', hd⟩ := l x d b
      rw [a] at a'; cases a'; exact hd
  obtain ⟨ts, h1, h2, h3⟩ := zip_of ps vals ds t
  have l' : LocIn c.P imm (fun y => (ps.zip vals).reverse.lookup y) δ' := fun x d e => by
    rw [← hδ, h3, ← List.map_reverse] at e
    obtain ⟨v, a, b⟩ := look_of ts.reverse (fun t q => h1 t (List.mem_reverse.mp q)) e
    exact ⟨v, by rw [h2, ← List.map_reverse]; exact a, tm v d b⟩
  have S' : St c' δ' τ' (μ ++ ν) h₁ := ⟨_, imm, mu, F', N', s, l', tm', u⟩
  have back : ∀ v d μ' h' tk', O (.ret μ' d) → (∃ δ'', St c' δ'' (τ'.add v d) (μ' ++ ν) h') → LeaveQ c.g c.L m g Q v (c.st h' tk') ∨ Q v (c.st h' tk') := fun v d μ' h' tk' o ⟨δ'', S''⟩ => by
    obtain ⟨m'', imm'', mu'', F'', N'', s'', l'', t'', u''⟩ := S''
    exact .inl <| leaveQ_ F'' N'' fun kF kN => K v μ' d h' tk' o ⟨m, imm'', mu'', kF, kN, s'', fun x d e => let ⟨v, a, b⟩ := lk x d e; ⟨v, a, t'' v d (.inr b)⟩, fun v d e => t'' v d (e.elim .inl fun e => .inr (.inl e)), u''⟩
  refine hb L' c' τ' ν _ _ h₁ _ (R.use hk _) S' (fun v d δ'' μ' h' tk' o S'' => back v d μ' h' tk' (kr _ _ o) ⟨_, S''⟩) (fun δ'' μ' h' tk' o S'' => ?_) (fun x δ'' j h' tk' o X => ?_)
  · refine back .none .none μ' h' tk' (kn _ _ o) ⟨δ'', S''.hold fun _ _ _ _ _ _ _ _ => .none⟩
  · exact FlyB.leave (c := c) (c' := c') (δ := δ) (τ := τ) F N lk (fun v d e => .inl e) G' rfl rfl ⟨rfl, rfl, rfl⟩ X fun h'' X' => KX x j h'' tk' (ke _ _ o) X'.any
end Mine
end

noncomputable section
open PySem PySem.W PyProof.Rows PySem.Calls PySem.Spec
set_option Elab.async false
set_option linter.unusedVariables false
namespace Mine
set_option maxRecDepth 100000
set_option genSizeOf false
set_option genInjectivity false
set_option maxHeartbeats 8000000

theorem MuIn.mem {P : Params} {imm : Led} {a : Addr} {k : Mo} {mu : Led} {μ : Mus} (h : MuIn P imm mu μ) (m : (a, k) ∈ μ) : ∃ o, (a, o) ∈ mu ∧ MoIn P imm o k := by
  induction μ generalizing mu with
  | nil => cases m
  | cons q μ ih => cases mu with
    | nil => exact h.elim
    | cons p mu =>
      rcases List.mem_cons.mp m with rfl | m
      · have e := h.1; exact ⟨p.2, by rw [← show p.1 = a from e]; exact .head _, h.2.1⟩
      · obtain ⟨o, h1, h2⟩ := ih h.2.2 m
        exact ⟨o, .tail _ h1, h2⟩
noncomputable def tokDts : List Row → Nat → List Dt
  | [], _ => []
  | r :: rs, j => .tok r j :: tokDts rs (j + 1)
theorem toks_all {P : Params} {imm : Led} : ∀ {vs : List Value} {rs : List Row} {j : Nat}, ToksFrom P imm vs rs j → DtAll P imm vs (tokDts rs j)
  | [], [], _, _ => .nil
  | _ :: _, _ :: _, _, ⟨a, b⟩ => .cons (.tok a) (toks_all b)
theorem tokDts_length : ∀ (rs : List Row) (j : Nat), (tokDts rs j).length = rs.length
  | [], _ => rfl
  | _ :: rs, j => congrArg (· + 1) (tokDts_length rs (j + 1))
theorem tokDts_get : ∀ (rs : List Row) (j i : Nat), (tokDts rs j)[i]? = rs[i]?.map fun r => .tok r (j + i)
  | [], _, _ => by simp [tokDts]
  | _ :: rs, j, 0 => by simp [tokDts]
  | _ :: rs, j, i + 1 => by
    show (tokDts rs (j + 1))[i]? = (rs[i]?).map _
    rw [tokDts_get rs (j + 1) i, Nat.add_right_comm]; rfl

/-- facts on a function's name in a class -/
structure Meth (C : Addr) (name : Str) (f : Addr) : Prop where
  g : ∀ P, plainGet (KM P) C name = true
  r : ∀ P, findIn (KM P) (.ref C) name = some (some (.ref f))
  t : ∀ P, isFn (KM P) (.ref f) = true
  k : ∀ P, keepIn (KM P) (.ref f) = true
structure Own (C : Addr) (name : Str) : Prop where
  g : ∀ P, plainGet (KM P) C name = true
  h : ∀ P, hasDictIn (KM P) C = true
  a : ∀ P, findIn (KM P) (.ref C) name = some none

section
variable {fi : Fi} {L : Addr} {c : Fc fi L} {δ : Loc} {τ : Tm} {μ ν : Mus} {h : Heap} {v a b : Value} {d d₁ d₂ : Dt} {ds : List Dt} {rows : List Row} {wd tl : Addr} {i : Nat}
inductive WkO (c : Fc fi L) (δ : Loc) (τ : Tm) (μ : Mus) (h : Heap) (v : Value) (wd tl : Addr) (i : Nat) (rows : List Row) : Prop
  | mk (wa : Addr) (t1 t2 t3 : Tok) (e : v = .ref wa) (I : InstAt h wa (instObj 122 wd) 122 (some (wdict c.P tl t1 t2 i t3))) (m : Str → Option Value) (F : Fr c.g c.L h m) (S : St c δ (τ.add (.ref tl) (.list (tokDts rows 0))) μ h) : WkO c δ τ μ h v wd tl i rows
inductive TkO (c : Fc fi L) (δ : Loc) (τ : Tm) (μ : Mus) (h : Heap) (v : Value) (r : Row) (j : Nat) : Prop
  | mk (a d ta : Addr) (t1 t2 t3 t4 t5 t6 : Tok) (e : v = .ref a) (I : InstAt h a (instObj 187 d) 187 (some (tdict c.P r ta t1 t2 t3 t4 t5 t6))) (m : Str → Option Value) (F : Fr c.g c.L h m) (S : St c δ (τ.add (.ref ta) (.tuple [.int 3, .int j])) μ h) : TkO c δ τ μ h v r j
theorem St.walk (S : St c δ τ μ h) (ht : τ v (.walk wd tl rows)) (hm : (wd, Mo.wk tl i) ∈ μ) : WkO c δ τ μ h v wd tl i rows := by
  obtain ⟨m, imm, mu, F, N, s, lo, t, u⟩ := S
  have q := t v _ ht
  cases q with
  | @walk wa _ _ _ q =>
    obtain ⟨h1, vs, n, h2, h3, h4⟩ := q
    obtain ⟨o, ho, t1, t2, t3, e⟩ := u.mem hm
    subst e
    exact ⟨wa, t1, t2, t3, rfl, InstAt.of_news N (List.mem_append.mpr (.inr h1)) (List.mem_append.mpr (.inl ho)), m, F, m, imm, mu, F, N, s, lo, t.add (.list h2 (toks_all h3)), u⟩
theorem St.tok {r : Row} {j : Nat} (S : St c δ τ μ h) (ht : τ v (.tok r j)) : TkO c δ τ μ h v r j := by
  obtain ⟨m, imm, mu, F, N, s, lo, t, u⟩ := S
  have q := t v _ ht
  cases q with
  | tok q =>
    obtain ⟨a, d, ta, t1, t2, t3, t4, t5, t6, t7, t8, e, h1, h2, h3⟩ := q
    exact ⟨a, d, ta, t1, t2, t3, t4, t5, t6, e, InstAt.of_news N (List.mem_append.mpr (.inr h1)) (List.mem_append.mpr (.inr h2)), m, F, m, imm, mu, F, N, s, lo, t.add (.tuple h3 (.cons (.int _ _) (.cons (.int _ _) .nil))), u⟩
end
section
variable {n k : Nat} {fi : Fi} {L : Addr} {ev : Env} {c : Fc fi L} {δ : Loc} {τ : Tm} {μ μ₁ μ₂ μ' ν : Mus} {d d₁ d₂ : Dt} {ds : List Dt} {b : Bool} {pos p1 p2 : Pos} {x : Str} {e e₁ e₂ : Expr} {es : List Expr} {f : Addr} {fv : Value} {first : List Value} {j : Int} {h : Heap} {tk : Nat} {Q E : Value → Shared → Prop}
theorem eGlob (hn : ∀ P, nsIn (KM P) mainGlobals x = some (some (.ref f))) (hg : ev.globals = mainGlobals) (hk : ev.scope.kind = .function) (hx : ev.kindOf x = some .globalImplicit) (hb : (x == ("__debug__" : Str)) = false := by decide) : ED n fi L ev δ μ (.Name x pos) μ (.obj f) := by
  intro c τ ν Q E h tk R S K
  obtain ⟨m, imm, mu, F, N, s, l, t, u⟩ := S
  obtain ⟨p, loose, mean, mg, mb, T⟩ := c.T
  exact nameG_K F c.X (topRead_of T) (hn _) (K _ _ _ ⟨m, imm, mu, F, N, s, l, t.add (.obj _), u⟩) hg hk hx hb
/-- arguments, then the call -/
theorem args1 (R : Room n c.A) (S : St c δ τ (μ ++ ν) h) (hs : EDs n fi L ev δ μ (e :: es) μ' ds) (hk : ∀ P, keepIn (KM P) fv = true) (hp : ∀ env, (backTo pos (starEach (e :: es) env)).any (·.1) = false)
    (K : ∀ vs τ' h' tk', (∀ v d, τ v d → τ' v d) → T2 τ' vs ds → St c δ τ' (μ' ++ ν) h' → wpAny (model prog0 c.w) c.A (call fv (first ++ vs)) Q E (c.st h' tk')) (he : ∀ env, starEach (e :: es) env = (false, eval e env) :: starEach es env) :
    wpAny (model prog0 c.w) c.A (callWith pos fv first (backTo pos (starEach (e :: es) ev)) []) Q E (c.st h tk) := by
  refine callWith_K c.X (hk c.P) (hs c τ ν pos _ E h tk R S fun vs τ' h' tk' s t S' => ⟨S'.kin, K vs τ' h' tk' s t S'⟩) (he _) ?_
  have := hp ev
  rw [he] at this
  exact this
theorem T2.cons {τ : Tm} {v : Value} {vs : List Value} (a : τ v d) (b : T2 τ vs ds) : T2 τ (v :: vs) (d :: ds) := ⟨a, b⟩
/-- a call that comes back | that raises, by its contract -/
theorem fu_ret {out : FO} {vs : List Value} {μa μb ρ : Mus} {τ' : Tm} (hc : Fu k fv μa ds (· = out)) (ho : out = .ret μb d) (hn : Nat.ble k n = true) (R : Room n c.A) (t : T2 τ' vs ds) (s : ∀ v d, τ v d → τ' v d) (S : St c δ τ' ((μa ++ ρ) ++ ν) h)
    (K : ∀ v h' tk', St c δ (τ.add v d) ((μb ++ ρ) ++ ν) h' → Q v (c.st h' tk')) : wpAny (model prog0 c.w) c.A (call fv vs) Q E (c.st h tk) := by
  refine hc fi L c δ τ' (ρ ++ ν) vs Q E h tk (R.le hn) t (List.append_assoc _ _ _ ▸ S) (fun v μ' d' h₃ tk₃ o S₃ => ?_) fun x j h₃ tk₃ o => nomatch ho.symm.trans o.symm
  cases ho.symm.trans o.symm
  refine K v h₃ tk₃ ?_
  rw [List.append_assoc]
  exact S₃.weaken (fun _ _ e => e) fun v d e => e.elim .inl fun e => .inr (s _ _ e)
theorem fu_exc {out : FO} {vs : List Value} {μa ρ : Mus} {τ' : Tm} (hc : Fu k fv μa ds (· = out)) (ho : out = .exc j) (hn : Nat.ble k n = true) (R : Room n c.A) (t : T2 τ' vs ds) (s : ∀ v d, τ v d → τ' v d) (S : St c δ τ' ((μa ++ ρ) ++ ν) h)
    (K : ∀ x h' tk', Fly c δ τ ν x j h' → E (.ref x) (c.st h' tk')) : wpAny (model prog0 c.w) c.A (call fv vs) Q E (c.st h tk) := by
  refine hc fi L c δ τ' (ρ ++ ν) vs Q E h tk (R.le hn) t (List.append_assoc _ _ _ ▸ S) (fun v μ' d' h₃ tk₃ o S₃ => nomatch ho.symm.trans o.symm) fun x j h₃ tk₃ o X => ?_
  cases ho.symm.trans o.symm
  exact K x h₃ tk₃ (X.loses.weaken (fun _ _ e => e) fun v d e => s _ _ e)
theorem eCall {fe : Expr} {out : FO} {μa μb ρ : Mus} (hc : Fu k (.ref f) μa ds (· = out)) (ho : out = .ret μb d) (hf : ED n fi L ev δ μ fe μ (.obj f)) (hs : EDs n fi L ev δ μ (e :: es) (μa ++ ρ) ds) (hn : Nat.ble k n = true) (hk : ∀ P, keepIn (KM P) (.ref f) = true) (hp : ∀ p env, (backTo p (starEach (e :: es) env)).any (·.1) = false := by intro _ _; rfl)
    (he : ∀ env, starEach (e :: es) env = (false, eval e env) :: starEach es env := by intro _; rfl) (hc' : ∀ env, eval (.Call fe (e :: es) [] pos) env = (do callWith pos (← eval fe env) [] (backTo pos (starEach (e :: es) env)) (backToKw pos (keywordEach [] env))) := by intro _; rfl) : ED n fi L ev δ μ (.Call fe (e :: es) [] pos) (μb ++ ρ) d := by
  intro c τ ν Q E h tk R S K
  refine Call_ (hf c τ ν _ _ h tk R S fun v h' tk' S' => ?_) (hc' _)
  obtain rfl := S'.isObj (.inl ⟨rfl, rfl⟩)
  exact args1 R S' hs hk (hp _) (fun vs τ' h'' tk'' s t S'' => fu_ret hc ho hn R t (fun _ _ e => s _ _ (.inr e)) S'' K) he
theorem eCall0 {fe : Expr} {out : FO} {μa μb ρ : Mus} (hc : Fu k (.ref f) μa [] (· = out)) (ho : out = .ret μb d) (hf : ED n fi L ev δ (μa ++ ρ) fe (μa ++ ρ) (.obj f)) (hn : Nat.ble k n = true) (hk : ∀ P, keepIn (KM P) (.ref f) = true)
    (hc' : ∀ env, eval (.Call fe [] [] pos) env = (do callWith pos (← eval fe env) [] (backTo pos (starEach [] env)) (backToKw pos (keywordEach [] env))) := by intro _; rfl) : ED n fi L ev δ (μa ++ ρ) (.Call fe [] [] pos) (μb ++ ρ) d := by
  intro c τ ν Q E h tk R S K
  refine Call_ (hf c τ ν _ _ h tk R S fun v h' tk' S' => ?_) (hc' _)
  obtain rfl := S'.isObj (.inl ⟨rfl, rfl⟩)
  exact callWith_K0 (s := c.st h' tk') S'.kin (hk c.P) (fu_ret hc ho hn R (vs := []) (by trivial) (fun _ _ e => .inr e) S' K)
theorem eCallX {fe : Expr} {out : FO} {μa ρ : Mus} (hc : Fu k (.ref f) μa ds (· = out)) (ho : out = .exc j) (hf : ED n fi L ev δ μ fe μ (.obj f)) (hs : EDs n fi L ev δ μ (e :: es) (μa ++ ρ) ds) (hn : Nat.ble k n = true) (hk : ∀ P, keepIn (KM P) (.ref f) = true) (hp : ∀ p env, (backTo p (starEach (e :: es) env)).any (·.1) = false := by intro _ _; rfl)
    (he : ∀ env, starEach (e :: es) env = (false, eval e env) :: starEach es env := by intro _; rfl) (hc' : ∀ env, eval (.Call fe (e :: es) [] pos) env = (do callWith pos (← eval fe env) [] (backTo pos (starEach (e :: es) env)) (backToKw pos (keywordEach [] env))) := by intro _; rfl) : ER n fi L ev δ μ (.Call fe (e :: es) [] pos) j := by
  intro c τ ν Q E h tk R S K
  refine Call_ (hf c τ ν _ _ h tk R S fun v h' tk' S' => ?_) (hc' _)
  obtain rfl := S'.isObj (.inl ⟨rfl, rfl⟩)
  exact args1 R S' hs hk (hp _) (fun vs τ' h'' tk'' s t S'' => fu_exc hc ho hn R t (fun _ _ e => s _ _ (.inr e)) S'' K) he

/-- methods -/
theorem methW {name : Str} {v : Value} {pl : Sem Bool} {rows : List Row} {wd tl : Addr} {i : Nat} {Q : Value × List Value → Shared → Prop} (M : Meth 122 name f) (S : St c δ τ μ h) (ht : τ v (.walk wd tl rows)) (hm : (wd, Mo.wk tl i) ∈ μ)
    (hl : ∀ P t1 t2 t3, getL name [ent P (Str.ofString "tokens") t1 (.ref tl), ent P (Str.ofString "at") t2 (.int i t3)] = some none) (K : Q (.ref f, [v]) (c.st h tk)) : wpAny (model prog0 c.w) c.A (getMethod v name pl) Q E (c.st h tk) := by
  obtain ⟨wa, t1, t2, t3, rfl, I, m, F, -⟩ := S.walk ht hm
  exact method_inst (s := c.st h tk) F c.X I (M.g _) (M.r _) (M.t _) (hl _ _ _ _) K

theorem mc_name {fe : Expr} {name : Str} {args : List Expr} {env : Env} (h1 : methodCallForm (args.length + ([] : List Keyword).length) (backTo pos (starEach args env)) (backToKw pos (keywordEach [] env)) = true) (h2 : (p1.endLine == pos.line) = true)
    (h3 : attributeBase fe name env (eval fe env) = eval fe env) : ∃ pl, eval (.Call (.Attribute fe name p1) args [] pos) env = (do
      let ov ← eval fe env
      standAt p1.atName
      let (f, first) ← holding [ov] (getMethod ov name pl)
      callWith pos f first (backTo pos (starEach args env)) []) := by
  refine ⟨do return (← importBound fe env).getD true, ?_⟩
  rw [arm_eval_Call, h3]
  unfold methodCall
  rw [h1]
  simp only [calleeOf, methodCallPos, h2, if_true, Bool.not_true, Bool.false_or]
  rfl
theorem eMeth {px : Pos} {name : Str} {rows : List Row} {wd tl : Addr} {i : Nat} {out : FO} {μa μb ρ : Mus} (M : Meth 122 name f) (hc : Fu k (.ref f) μa (.walk wd tl rows :: ds) (· = out)) (ho : out = .ret μb d) (hf : ED n fi L ev δ μ (.Name x px) μ (.walk wd tl rows)) (hm : (wd, Mo.wk tl i) ∈ μ) (hs : EDs n fi L ev δ μ (e :: es) (μa ++ ρ) ds) (hn : Nat.ble k n = true)
    (hl : ∀ P t1 t2 t3, getL name [ent P (Str.ofString "tokens") t1 (.ref tl), ent P (Str.ofString "at") t2 (.int i t3)] = some none := by intro _ _ _ _; rfl) (hp : ∀ p env, (backTo p (starEach (e :: es) env)).any (·.1) = false := by intro _ _; rfl)
    (he : ∀ env, starEach (e :: es) env = (false, eval e env) :: starEach es env := by intro _; rfl) (h1 : ∀ env, methodCallForm ((e :: es : List Expr).length + ([] : List Keyword).length) (backTo pos (starEach (e :: es : List Expr) env)) (backToKw pos (keywordEach [] env)) = true := by intro _; rfl) (h2 : (p1.endLine == pos.line) = true := by rfl) : ED n fi L ev δ μ (.Call (.Attribute (.Name x px) name p1) (e :: es) [] pos) (μb ++ ρ) d := by
  intro c τ ν Q E h tk R S K
  obtain ⟨pl, hc'⟩ := mc_name (fe := .Name x px) (name := name) (p1 := p1) (h1 ev) h2 rfl
  refine MethodCall_ (hf c τ ν _ _ h tk R S fun v h' tk' S' => methW M S' (.inl ⟨rfl, rfl⟩) (List.mem_append.mpr (.inl hm)) hl ?_) hc'
  exact args1 R S' hs M.k (hp _) (fun vs τ' h'' tk'' s t S'' => fu_ret hc ho hn R (T2.cons (s _ _ (.inl ⟨rfl, rfl⟩)) t) (fun _ _ e => s _ _ (.inr e)) S'' K) he
theorem eMethX {px : Pos} {name : Str} {rows : List Row} {wd tl : Addr} {i : Nat} {out : FO} {μa ρ : Mus} (M : Meth 122 name f) (hc : Fu k (.ref f) μa (.walk wd tl rows :: ds) (· = out)) (ho : out = .exc j) (hf : ED n fi L ev δ μ (.Name x px) μ (.walk wd tl rows)) (hm : (wd, Mo.wk tl i) ∈ μ) (hs : EDs n fi L ev δ μ (e :: es) (μa ++ ρ) ds) (hn : Nat.ble k n = true)
    (hl : ∀ P t1 t2 t3, getL name [ent P (Str.ofString "tokens") t1 (.ref tl), ent P (Str.ofString "at") t2 (.int i t3)] = some none := by intro _ _ _ _; rfl) (hp : ∀ p env, (backTo p (starEach (e :: es) env)).any (·.1) = false := by intro _ _; rfl)
    (he : ∀ env, starEach (e :: es) env = (false, eval e env) :: starEach es env := by intro _; rfl) (h1 : ∀ env, methodCallForm ((e :: es : List Expr).length + ([] : List Keyword).length) (backTo pos (starEach (e :: es : List Expr) env)) (backToKw pos (keywordEach [] env)) = true := by intro _; rfl) (h2 : (p1.endLine == pos.line) = true := by rfl) : ER n fi L ev δ μ (.Call (.Attribute (.Name x px) name p1) (e :: es) [] pos) j := by
  intro c τ ν Q E h tk R S K
  obtain ⟨pl, hc'⟩ := mc_name (fe := .Name x px) (name := name) (p1 := p1) (h1 ev) h2 rfl
  refine MethodCall_ (hf c τ ν _ _ h tk R S fun v h' tk' S' => methW M S' (.inl ⟨rfl, rfl⟩) (List.mem_append.mpr (.inl hm)) hl ?_) hc'
  exact args1 R S' hs M.k (hp _) (fun vs τ' h'' tk'' s t S'' => fu_exc hc ho hn R (T2.cons (s _ _ (.inl ⟨rfl, rfl⟩)) t) (fun _ _ e => s _ _ (.inr e)) S'' K) he
theorem eMeth0 {px : Pos} {name : Str} {rows : List Row} {wd tl : Addr} {i : Nat} {out : FO} {μa μb ρ : Mus} (M : Meth 122 name f) (hc : Fu k (.ref f) μa [.walk wd tl rows] (· = out)) (ho : out = .ret μb d) (hf : ED n fi L ev δ (μa ++ ρ) (.Name x px) (μa ++ ρ) (.walk wd tl rows)) (hm : (wd, Mo.wk tl i) ∈ μa ++ ρ) (hn : Nat.ble k n = true)
    (hl : ∀ P t1 t2 t3, getL name [ent P (Str.ofString "tokens") t1 (.ref tl), ent P (Str.ofString "at") t2 (.int i t3)] = some none := by intro _ _ _ _; rfl) (h1 : ∀ env, methodCallForm (([] : List Expr).length + ([] : List Keyword).length) (backTo pos (starEach ([] : List Expr) env)) (backToKw pos (keywordEach [] env)) = true := by intro _; rfl) (h2 : (p1.endLine == pos.line) = true := by rfl) : ED n fi L ev δ (μa ++ ρ) (.Call (.Attribute (.Name x px) name p1) [] [] pos) (μb ++ ρ) d := by
  intro c τ ν Q E h tk R S K
  obtain ⟨pl, hc'⟩ := mc_name (fe := .Name x px) (name := name) (p1 := p1) (h1 ev) h2 rfl
  refine MethodCall_ (hf c τ ν _ _ h tk R S fun v h' tk' S' => methW M S' (.inl ⟨rfl, rfl⟩) (List.mem_append.mpr (.inl hm)) hl ?_) hc'
  exact callWith_K0 (s := c.st h' tk') S'.kin (M.k _) (fu_ret hc ho hn R (T2.cons (.inl ⟨rfl, rfl⟩) (by trivial)) (fun _ _ e => .inr e) S' K)
/-- token.told() -/
theorem eMethT {px : Pos} {name : Str} {r : Row} {i : Nat} {out : FO} {μa μb ρ : Mus} (M : Meth 187 name f) (hc : Fu k (.ref f) μa [.tok r i] (· = out)) (ho : out = .ret μb d) (hf : ED n fi L ev δ (μa ++ ρ) (.Name x px) (μa ++ ρ) (.tok r i)) (hn : Nat.ble k n = true)
    (hl : ∀ P ta t1 t2 t3 t4 t5 t6, getL name [ent P (Str.ofString "kind") t1 (.str r.1 t2), ent P (Str.ofString "worth") t3 (.str r.2 t4), ent P (Str.ofString "at") t5 (.ref ta), ent P (Str.ofString "is_in_a") t6 (.bool false)] = some none := by intro _ _ _ _ _ _ _ _; rfl) (h1 : ∀ env, methodCallForm (([] : List Expr).length + ([] : List Keyword).length) (backTo pos (starEach ([] : List Expr) env)) (backToKw pos (keywordEach [] env)) = true := by intro _; rfl) (h2 : (p1.endLine == pos.line) = true := by rfl) :
    ED n fi L ev δ (μa ++ ρ) (.Call (.Attribute (.Name x px) name p1) [] [] pos) (μb ++ ρ) d := by
  intro c τ ν Q E h tk R S K
  obtain ⟨pl, hc'⟩ := mc_name (fe := .Name x px) (name := name) (p1 := p1) (h1 ev) h2 rfl
  refine MethodCall_ (hf c τ ν _ _ h tk R S fun v h' tk' S' => ?_) hc'
  obtain ⟨a, dd, ta, t1, t2, t3, t4, t5, t6, rfl, I, m, F, -⟩ := S'.tok (.inl ⟨rfl, rfl⟩)
  refine method_inst (s := c.st h' tk') F c.X I (M.g _) (M.r _) (M.t _) (hl _ _ _ _ _ _ _ _) ?_
  exact callWith_K0 (s := c.st h' tk') S'.kin (M.k _) (fu_ret hc ho hn R (T2.cons (.inl ⟨rfl, rfl⟩) (by trivial)) (fun _ _ e => .inr e) S' K)
/-- attributes -/
theorem eAt {rows : List Row} {wd tl : Addr} {i : Nat} (O : Own 122 (Str.ofString "at")) (hf : ED n fi L ev δ μ e μ (.walk wd tl rows)) (hm : (wd, Mo.wk tl i) ∈ μ)
    (he : ∀ env, eval (.Attribute e (Str.ofString "at") pos) env = (do
      let o ← eval e env
      standAt pos.atName
      let r ← holding [o] (getAttr o (Str.ofString "at") true)
      letTemporaryGo e o r
      pure r) := by intro _; with_unfolding_all rfl) : ED n fi L ev δ μ (.Attribute e (Str.ofString "at") pos) μ (.int i) := by
  intro c τ ν Q E h tk R S K
  refine Attribute_any_ (hf c τ ν _ _ h tk R S fun v h' tk' S' => ?_) (he _)
  obtain ⟨wa, t1, t2, t3, rfl, I, m, F, -⟩ := S'.walk (.inl ⟨rfl, rfl⟩) (List.mem_append.mpr (.inl hm))
  exact get_own (s := c.st h' tk') F c.X I (O.g _) (O.h _) (O.a _) rfl (v := .int i t3) rfl rfl (K _ _ _ ((S'.drop).hold fun _ _ _ _ _ _ _ _ => .int _ _))
theorem eToks {rows : List Row} {wd tl : Addr} {i : Nat} (O : Own 122 (Str.ofString "tokens")) (hf : ED n fi L ev δ μ e μ (.walk wd tl rows)) (hm : (wd, Mo.wk tl i) ∈ μ)
    (he : ∀ env, eval (.Attribute e (Str.ofString "tokens") pos) env = (do
      let o ← eval e env
      standAt pos.atName
      let r ← holding [o] (getAttr o (Str.ofString "tokens") true)
      letTemporaryGo e o r
      pure r) := by intro _; with_unfolding_all rfl) : ED n fi L ev δ μ (.Attribute e (Str.ofString "tokens") pos) μ (.list (tokDts rows 0)) := by
  intro c τ ν Q E h tk R S K
  refine Attribute_any_ (hf c τ ν _ _ h tk R S fun v h' tk' S' => ?_) (he _)
  obtain ⟨wa, t1, t2, t3, rfl, I, m, F, S''⟩ := S'.walk (.inl ⟨rfl, rfl⟩) (List.mem_append.mpr (.inl hm))
  exact get_own (s := c.st h' tk') F c.X I (O.g _) (O.h _) (O.a _) rfl (v := .ref tl) rfl rfl (K _ _ _ (S''.weaken (fun _ _ e => e) fun v d e => e.elim .inl fun e => .inr (.inr e)))
theorem eTok {r : Row} {i : Nat} {name : Str} (O : Own 187 name) (hf : ED n fi L ev δ μ e μ (.tok r i))
    (hd : ∀ P ta t1 t2 t3 t4 t5 t6, ∃ v, getL name [ent P (Str.ofString "kind") t1 (.str r.1 t2), ent P (Str.ofString "worth") t3 (.str r.2 t4), ent P (Str.ofString "at") t5 (.ref ta), ent P (Str.ofString "is_in_a") t6 (.bool false)] = some (some v) ∧ handedIn v = true ∧ ((d = .tuple [.int 3, .int i] ∧ v = .ref ta) ∨ (∀ imm, DtIn P imm v d)))
    (he : ∀ env, eval (.Attribute e name pos) env = (do
      let o ← eval e env
      standAt pos.atName
      let r ← holding [o] (getAttr o name true)
      letTemporaryGo e o r
      pure r) := by intro _; with_unfolding_all rfl) : ED n fi L ev δ μ (.Attribute e name pos) μ d := by
  intro c τ ν Q E h tk R S K
  refine Attribute_any_ (hf c τ ν _ _ h tk R S fun v h' tk' S' => ?_) (he _)
  obtain ⟨a, dd, ta, t1, t2, t3, t4, t5, t6, rfl, I, m, F, S''⟩ := S'.tok (.inl ⟨rfl, rfl⟩)
  obtain ⟨v, h1, h2, h3⟩ := hd c.P ta t1 t2 t3 t4 t5 t6
  refine get_own (s := c.st h' tk') F c.X I (O.g _) (O.h _) (O.a _) rfl (v := v) h1 h2 (K _ _ _ ?_)
  rcases h3 with ⟨rfl, rfl⟩ | h3
  · exact S''.weaken (fun _ _ e => e) fun v d e => e.elim .inl fun e => .inr (.inr e)
  · exact S'.drop.hold fun _ imm _ _ _ _ _ _ => h3 imm
end
end Mine
end

noncomputable section
open PySem PySem.W PyProof.Rows PySem.Calls PySem.Spec
set_option Elab.async false
set_option linter.unusedVariables false
namespace Mine
set_option maxRecDepth 100000
set_option maxHeartbeats 8000000
section
variable {n k : Nat} {fi : Fi} {L : Addr} {ev : Env} {c : Fc fi L} {δ : Loc} {τ : Tm} {μ μ₁ μ₂ μ' ν : Mus} {d d₁ d₂ : Dt} {ds : List Dt} {b : Bool} {pos p1 p2 : Pos} {x : Str} {e e₁ e₂ : Expr} {es : List Expr} {f : Addr} {fv : Value} {first : List Value} {j : Int} {h h' : Heap} {tk : Nat} {Q E : Value → Shared → Prop}
theorem St.kept (S : St c δ τ μ h) (k : ∀ a o, h.get? a = some o → h'.get? a = some o) : St c δ τ μ h' := by
  obtain ⟨m, imm, mu, F, N, s, l, t, u⟩ := S
  exact ⟨m, imm, mu, F.grownK k, N.grown k, s, l, t, u⟩
/-- what stands for the machine's own: looks that a name of the builtins needs -/
structure Bn (ev : Env) (x : Str) (fv : Value) : Prop where
  n : ∀ P, nsIn (KM P) mainGlobals x = some none
  v : bootBuiltins x = some fv
  g : ev.globals = mainGlobals
  b : ev.builtins = builtinsNs
  k : ev.scope.kind = .function
  x : ev.kindOf x = some .globalImplicit
theorem name_b {px : Pos} (B : Bn ev x fv) (S : St c δ τ μ h) (K : Q fv (c.st h tk)) (hn : x ≠ "__name__") (hb : (x == ("__debug__" : Str)) = false) : wpAny (model prog0 c.w) c.A (eval (.Name x px) ev) Q E (c.st h tk) := by
  obtain ⟨m, imm, mu, F, N, s, l, t, u⟩ := S
  obtain ⟨p, loose, mean, mg, mb, T⟩ := c.T
  have T' := topRead_of T
  exact Name_function_global B.k B.x (loadGlobal_builtin (by rw [B.g]; exact T'.g.keeps F.keep) (mg_none_of c.X T'.g (B.n _)) (by rw [B.b]; exact T'.b.keeps F.keep) ((T'.builtins x hn).trans B.v) K) hb
theorem eCallB {id : String} {px : Pos} {out : FO} {μa μb ρ : Mus} (B : Bn ev x (.builtin id)) (hc : Fu k (.builtin id) μa ds (· = out)) (ho : out = .ret μb d) (hs : EDs n fi L ev δ μ (e :: es) (μa ++ ρ) ds) (hn : Nat.ble k n = true) (hp : ∀ p env, (backTo p (starEach es env)).any (·.1) = false := by intro _ _; rfl)
    (he : ∀ env, starEach (e :: es) env = (false, eval e env) :: starEach es env := by intro _; rfl) (hc' : ∀ env, eval (.Call (.Name x px) (e :: es) [] pos) env = (do callWith pos (← eval (.Name x px) env) [] (backTo pos (starEach (e :: es) env)) (backToKw pos (keywordEach [] env))) := by intro _; rfl)
    (h1 : x ≠ "__name__" := by decide) (h2 : (x == ("__debug__" : Str)) = false := by decide) : ED n fi L ev δ μ (.Call (.Name x px) (e :: es) [] pos) (μb ++ ρ) d := by
  intro c τ ν Q E h tk R S K
  refine Call_ (name_b B S ?_ h1 h2) (hc' _)
  exact callWith_builtin1 (hs c τ ν pos _ E h tk R S fun vs τ' h' tk' s t S' => fu_ret hc ho hn R t s S' K) (he _) (hp _ _)
theorem T2.one {τ : Tm} {vs : List Value} (t : T2 τ vs [d]) : ∃ v, vs = [v] ∧ τ v d := by
  match vs, t with
  | [v], ⟨a, _⟩ => exact ⟨v, rfl, a⟩
theorem T2.two {τ : Tm} {vs : List Value} (t : T2 τ vs [d₁, d₂]) : ∃ v u, vs = [v, u] ∧ τ v d₁ ∧ τ u d₂ := by
  match vs, t with
  | [v, u], ⟨a, b, _⟩ => exact ⟨v, u, rfl, a, b⟩
theorem con_len (hl : ds.length ≤ 1000000) : Con 0 (.builtin "len") [] [.list ds] [] (.int (ds.length : Nat)) := by
  intro fi L c δ τ ν vals Q E h tk R t S K KX
  obtain ⟨v, rfl, ht⟩ := t.one
  obtain ⟨l, vs, rfl, hL, hn, -⟩ := S.list ht
  refine PyProof.Rows.len_list (s := c.st h tk) hL (by rw [List.size_toArray, hn]; omega) ?_
  rw [List.size_toArray, hn]
  exact K _ _ _ _ _ rfl (S.hold fun _ _ _ _ _ _ _ _ => .int _ _)
theorem con_min {i j : Int} : Con 0 (.builtin "min") [] [.int i, .int j] [] (.int (min i j)) := by
  intro fi L c δ τ ν vals Q E h tk R t S K KX
  obtain ⟨v, u, rfl, hv, hu⟩ := t.two
  obtain ⟨t1, rfl⟩ := S.isInt hv
  obtain ⟨t2, rfl⟩ := S.isInt hu
  refine PySem.Flt.min_two_num (s := c.st h tk) c.hd (.int _ _) (.int _ _) fun h' tk' kp => ?_
  have S' := S.kept kp
  have e : ∃ t, (if PySem.Flt.ltV (.int j t2) (.int i t1) then Value.int j t2 else Value.int i t1) = .int (min i j) t := by
    unfold PySem.Flt.ltV
    by_cases q : j < i
    · exact ⟨t2, by simp only [q, decide_true, if_true]; rw [show min i j = j by omega]⟩
    · exact ⟨t1, by simp only [q, decide_false]; rw [show min i j = i by omega]; rfl⟩
  obtain ⟨t, e⟩ := e
  rw [e]
  exact K _ _ _ _ _ rfl (S'.hold fun _ _ _ _ _ _ _ _ => .int _ _)
end
def Out.fo : Out → FO
  | .ret μ d => .ret μ d
  | .next _ μ => .ret μ .none
  | .exc _ j => .exc j
abbrev Lf (out : FO) (o : Out) : Prop := o.fo = out
theorem fd_of {n k : Nat} {f : Addr} {μ : Mus} {ds : List Dt} {out : FO} {name qual : Str} {params : Arguments} {body : List Stmt} {scope : Scope} {dV kV doc pm cdv ct oc : Value} {an od : Option Addr} {osl : Array (Option Value)} (ps : List Str) {δ' : Loc}
    (ho : ∀ P, (KM P).lookup f = some ⟨oc, od, .func (fnOf name qual params body scope dV kV doc pm an cdv ct), osl⟩) (hcd : ∀ P, codeIn (KM P) cdv qual = true)
    (hbind : ∀ vals : List Value, vals.length = ds.length → ∀ s, BindsTo s (fnOf name qual params body scope dV kV doc pm an cdv ct) ⟨vals, []⟩ (ps.zip vals)) (hloc : ∀ y ∈ ps, scope.names.lookup y = some .local)
    (hδ : (ps.zip ds).reverse = δ') (hk : Nat.ble (k + 1) n = true) (hb : ∀ L, Bd k ⟨qual, scope, f, cdv, fun _ => [], false⟩ L δ' μ body (Lf out))
    (hcell : ∀ x ∈ scope.names, x.2 ≠ .cell) (hco : scope.isCoroutine = false) (hgen : scope.isGenerator = false) (hkd : scope.kind = .function) : Fu n (.ref f) μ ds (· = out) :=
  fu_of ps ho hcd hbind hloc hδ hk hb (fun _ _ h => h) (fun _ _ h => h) (fun _ _ h => h) hcell hco hgen hkd
theorem all1 {p : α → Prop} {a : α} (h : p a) : ∀ y ∈ [a], p y := fun y hy => by rw [List.mem_singleton.mp hy]; exact h
theorem all2 {p : α → Prop} {a b : α} (h : p a) (i : p b) : ∀ y ∈ [a, b], p y := fun y hy => (List.mem_cons.mp hy).elim (fun e => e ▸ h) (all1 i y)
theorem all3 {p : α → Prop} {a b c : α} (h : p a) (i : p b) (j : p c) : ∀ y ∈ [a, b, c], p y := fun y hy => (List.mem_cons.mp hy).elim (fun e => e ▸ h) (all2 i j y)
theorem all4 {p : α → Prop} {a b c d : α} (h : p a) (i : p b) (j : p c) (k : p d) : ∀ y ∈ [a, b, c, d], p y := fun y hy => (List.mem_cons.mp hy).elim (fun e => e ▸ h) (all3 i j k y)
theorem len1 {l : List α} (h : l.length = 1) : ∃ a, l = [a] := List.length_eq_one_iff.mp h
theorem len2 {l : List α} (h : l.length = 2) : ∃ a b, l = [a, b] := by
  match l, h with
  | [a, b], _ => exact ⟨a, b, rfl⟩
theorem len3 {l : List α} (h : l.length = 3) : ∃ a b c, l = [a, b, c] := by
  match l, h with
  | [a, b, c], _ => exact ⟨a, b, c, rfl⟩
theorem len4 {l : List α} (h : l.length = 4) : ∃ a b c d, l = [a, b, c, d] := by
  match l, h with
  | [a, b, c, d], _ => exact ⟨a, b, c, d, rfl⟩
end Mine
end

noncomputable section
open PySem PySem.W PyProof.Rows PySem.Calls PySem.Spec
set_option Elab.async false
set_option linter.unusedVariables false
namespace Mine
set_option maxRecDepth 100000
set_option maxHeartbeats 8000000
theorem MuIn.perm {P : Params} {imm : Led} {μ μ' : Mus} (p : μ.Perm μ') : ∀ {mu : Led}, MuIn P imm mu μ → ∃ mu', mu.Perm mu' ∧ MuIn P imm mu' μ' := by
  induction p with
  | nil => intro mu h; exact ⟨mu, .refl _, h⟩
  | cons q p ih =>
    intro mu h
    cases mu with
    | nil => exact h.elim
    | cons r mu => obtain ⟨mu', a, b⟩ := ih h.2.2; exact ⟨r :: mu', a.cons _, h.1, h.2.1, b⟩
  | swap q r l =>
    intro mu h
    match mu, h with
    | a :: b :: mu, h => exact ⟨b :: a :: mu, .swap _ _ _, h.2.2.1, h.2.2.2.1, h.1, h.2.1, h.2.2.2.2⟩
  | trans _ _ i j => intro mu h; obtain ⟨m1, a, b⟩ := i h; obtain ⟨m2, x, y⟩ := j b; exact ⟨m2, a.trans x, y⟩
section
variable {n k : Nat} {fi : Fi} {L : Addr} {ev : Env} {c : Fc fi L} {δ δ' : Loc} {τ τ' : Tm} {μ μ₀ μ₁ μ₂ μ' ν : Mus} {d d₁ d₂ : Dt} {ds : List Dt} {b : Bool} {pos p1 p2 : Pos} {x : Str} {e e₁ e₂ : Expr} {es : List Expr} {f : Addr} {fv : Value} {first : List Value} {j : Int} {h h' : Heap} {tk : Nat} {Q E : Value → Shared → Prop} {rest : List Stmt} {O : Out → Prop} {a : Addr} {k₁ k₂ : Mo}
theorem St.perm (p : μ.Perm μ') (S : St c δ τ μ h) : St c δ τ μ' h := by
  obtain ⟨m, imm, mu, F, N, s, l, t, u⟩ := S
  obtain ⟨mu', q, u'⟩ := u.perm p
  exact ⟨m, imm, mu', F, fun p hp => N p ((q.append_right imm).mem_iff.mpr hp), ⟨fun p hp => s.off p (q.mem_iff.mpr hp), (q.map _).nodup_iff.mp s.nd⟩, l, t, u'⟩
/-- one of the changing things changes -/
theorem St.upd {o' : Obj} (S : St c δ τ ((a, k₁) :: μ) h) (hs : Heap.SameBut a h h') (ho : h'.get? a = some o') (hk : ∀ imm o, TmIn c.P imm τ → MoIn c.P imm o k₁ → h.get? a = some o → MoIn c.P imm o' k₂) : St c δ τ ((a, k₂) :: μ) h' := by
  obtain ⟨m, imm, mu, F, N, s, l, t, u⟩ := S
  cases mu with
  | nil => exact u.elim
  | cons p mu =>
    obtain ⟨a', o⟩ := p
    have e : a' = a := u.1
    subst e
    have hn := N (a', o) (.head _)
    have ne : ∀ p ∈ mu ++ imm, p.1 ≠ a' := fun p hp z => by
      rcases List.mem_append.mp hp with q | q
      · exact (List.nodup_cons.mp s.nd).1 (List.mem_map.mpr ⟨p, q, z⟩)
      · exact s.off _ (.head _) p q z.symm
    refine ⟨m, imm, (a', o') :: mu, F.change hs hn.2.1 hn.2.2, N.setHead ne hs ho, ⟨fun p hp q hq => ?_, s.nd⟩, l, t, rfl, hk imm o t u.2.1 hn.1, u.2.2⟩
    rcases List.mem_cons.mp hp with rfl | hp
    · exact s.off (a', o) (.head _) q hq
    · exact s.off p (.tail _ hp) q hq
theorem St.muAt (S : St c δ τ ((a, k₁) :: μ) h) : ∃ o imm, h.get? a = some o ∧ MoIn c.P imm o k₁ ∧ c.g.get? a = none ∧ a ≠ L := by
  obtain ⟨m, imm, mu, F, N, s, l, t, u⟩ := S
  cases mu with
  | nil => exact u.elim
  | cons p mu =>
    obtain ⟨a', o⟩ := p
    have e : a' = a := u.1
    subst e
    have hn := N (a', o) (.head _)
    exact ⟨o, imm, hn.1, u.2.1, hn.2.2, hn.2.1⟩

/-- statements -/
theorem bExp (he : ED n fi L (fi.env L) δ μ e μ' d) (hb : Bd n fi L δ μ' rest O) (hi : ∀ L, interactive (fi.env L) = false := by intro _; rfl) (hs : ∀ env, swapsWith e none pos.line env = pure false := by intro _; rfl) : Bd n fi L δ μ (.Expr e pos :: rest) O := by
  intro c τ ν Q E hh tk R S kr kn ke
  exact wpAny_execs_cons (wpAny_Expr_any (he c τ ν _ _ hh tk R S fun v h' tk' S' => hb c τ ν Q E h' tk' R S'.drop kr kn ke) (hi _) (hs _))
theorem bExpX (he : ER n fi L (fi.env L) δ μ e j) (h : O (.exc δ j)) (hi : ∀ L, interactive (fi.env L) = false := by intro _; rfl) (hs : ∀ env, swapsWith e none pos.line env = pure false := by intro _; rfl) : Bd n fi L δ μ (.Expr e pos :: rest) O := by
  intro c τ ν Q E hh tk R S kr kn ke
  exact wpAny_execs_cons (wpAny_Expr_any (he c τ ν _ _ hh tk R S fun x h' tk' f => ke x δ j _ _ h f) (hi _) (hs _))
theorem bIfT {t : Expr} {b₁ b₂ : List Stmt} (ht : TD n fi L (fi.env L) δ μ t μ' b) (hb : b = true) (h₁ : Bd n fi L δ μ' (b₁ ++ rest) O) : Bd n fi L δ μ (.If t b₁ b₂ pos :: rest) O :=
  bIf ht (fun _ => h₁) fun q => nomatch hb.symm.trans q
theorem bIfF {t : Expr} {b₁ b₂ : List Stmt} (ht : TD n fi L (fi.env L) δ μ t μ' b) (hb : b = false) (h₂ : Bd n fi L δ μ' (b₂ ++ rest) O) : Bd n fi L δ μ (.If t b₁ b₂ pos :: rest) O :=
  bIf ht (fun q => nomatch hb.symm.trans q) fun _ => h₂
theorem eIfT {t e₁ e₂ : Expr} (ht : TD n fi L ev δ μ t μ₁ b) (hb : b = true) (h₁ : ED n fi L ev δ μ₁ e₁ μ₂ d) : ED n fi L ev δ μ (.IfExp t e₁ e₂ pos) μ₂ d := eIf ht (fun _ => h₁) fun q => nomatch hb.symm.trans q
theorem eIfF {t e₁ e₂ : Expr} (ht : TD n fi L ev δ μ t μ₁ b) (hb : b = false) (h₁ : ED n fi L ev δ μ₁ e₂ μ₂ d) : ED n fi L ev δ μ (.IfExp t e₁ e₂ pos) μ₂ d := eIf ht (fun q => nomatch hb.symm.trans q) fun _ => h₁
/-- e and .. : a value -/
theorem eAnd {e : Expr} {e₂ : Expr} {b₁ b₂ : Bool} (h₁ : ED n fi L ev δ μ e μ₁ (.bool b₁)) (h₂ : b₁ = true → ED n fi L ev δ μ₁ (.BoolOp .And (e₂ :: es) pos) μ₁ (.bool b₂)) : ED n fi L ev δ μ (.BoolOp .And (e :: e₂ :: es) pos) μ₁ (.bool (b₁ && b₂)) := by
  intro c τ ν Q E h tk R S K
  refine BoolOp_and (h₁ c τ ν _ _ h tk R S fun v h' tk' S' => ?_)
  obtain rfl : v = .bool b₁ := by
    obtain ⟨_, _, _, _, _, _, _, t, _⟩ := S'
    have := t v (.bool b₁) (.inl ⟨rfl, rfl⟩)
    cases this; rfl
  refine wpAny_truthy_bool ?_
  cases b₁ with
  | false => exact K _ _ _ S'
  | true => exact h₂ rfl c τ ν _ _ h' tk' R S'.drop K
theorem eAnd1 {e : Expr} (h₁ : ED n fi L ev δ μ e μ₁ d) : ED n fi L ev δ μ (.BoolOp .And [e] pos) μ₁ d := fun c τ ν Q E h tk R S K => BoolOp_one (h₁ c τ ν Q E h tk R S K)
/-- walk.at = e -/
theorem bSetAt {px pa : Pos} {rows : List Row} {wd tl : Addr} {i i' : Nat} (he : ED n fi L (fi.env L) δ μ₀ e ((wd, .wk tl i) :: μ) (.int (i' : Nat))) (hx : ED n fi L (fi.env L) δ ((wd, .wk tl i) :: μ) (.Name x px) ((wd, .wk tl i) :: μ) (.walk wd tl rows)) (hb : Bd n fi L δ ((wd, .wk tl i') :: μ) rest O)
    (hs : ∀ env, swapsWith e (some (.Attribute (.Name x px) (Str.ofString "at") pa)) pos.line env = pure false := by intro _; rfl) : Bd n fi L δ μ₀ (.Assign [.Attribute (.Name x px) (Str.ofString "at") pa] e pos :: rest) O := by
  intro c τ ν Q E hh tk R S kr kn ke
  refine wpAny_execs_cons (plainObj_wpAny_Assign_Attribute (he c τ ν _ _ hh tk R S fun v h' tk' S' => hx c _ ν _ _ h' tk' R S' fun u h'' tk'' S'' => ?_) (hs _))
  obtain ⟨t0, rfl⟩ := S''.isInt (v := v) (i := i') (.inr (.inl ⟨rfl, rfl⟩))
  obtain ⟨wa, t1, t2, t3, rfl, I, m', F', -⟩ := S''.walk (.inl ⟨rfl, rfl⟩) (.head _)
  obtain ⟨m, imm, mu, F, N, s, l, t, q⟩ := S''.drop.drop
  cases mu with
  | nil => exact q.elim
  | cons p mu =>
    obtain ⟨a', o⟩ := p
    have e1 : a' = wd := q.1
    subst e1
    obtain ⟨u1, u2, u3, e2⟩ := q.2.1
    subst e2
    have I2 : InstAt h'' wa (instObj 122 a') 122 (some (wdict c.P tl u1 u2 i u3)) := ⟨I.1, rfl, rfl, (N _ (.head _)).1⟩
    have ne : ∀ p ∈ mu ++ imm, p.1 ≠ a' := fun p hp z => by
      rcases List.mem_append.mp hp with q | q
      · exact (List.nodup_cons.mp s.nd).1 (List.mem_map.mpr ⟨p, q, z⟩)
      · exact s.off _ (.head _) p q z.symm
    refine set_dict (s := c.st h'' tk'') F c.X (news := (a', wdict c.P tl u1 u2 i u3) :: (mu ++ imm)) (news' := (a', wdict c.P tl u1 u2 i' t0) :: (mu ++ imm)) N I2 rfl rfl rfl rfl rfl rfl rfl (.head ne) (Nat.le_of_ble_eq_true rfl) fun h₃ F₃ N₃ => ?_
    exact hb c τ ν Q E h₃ _ R ⟨m, imm, (a', wdict c.P tl u1 u2 i' t0) :: mu, F₃, N₃, ⟨fun p hp r hr => by
      rcases List.mem_cons.mp hp with rfl | hp
      · exact s.off (a', wdict c.P tl u1 u2 i u3) (.head _) r hr
      · exact s.off p (.tail _ hp) r hr, s.nd⟩, l, t, rfl, ⟨u1, u2, t0, rfl⟩, q.2.2⟩ kr kn ke

/-- what comes behind a loop -/
def AftW {fi : Fi} {L : Addr} (c : Fc fi L) (env : Env) (rest : List Stmt) (Q : Flow → Shared → Prop) (E : Value → Shared → Prop) : Result → Shared → Prop
  | .ok .next, s' => wpAny (model prog0 c.w) c.A (execs rest env) Q E s'
  | .ok f, s' => Q f s'
  | .error e, s' => cameBackBy (model prog0 c.w) c.A env E e s'
/-- loops by a test -/
def Wl (n : Nat) (fi : Fi) (L : Addr) (t : Expr) (body rest : List Stmt) (O : Out → Prop) (δ : Loc) (μ : Mus) : Prop :=
  ∀ (c : Fc fi L) (τ : Tm) (ν : Mus) (Q : Flow → Shared → Prop) (E : Value → Shared → Prop) (h : Heap) (tk : Nat), Room n c.A → St c δ τ (μ ++ ν) h →
    (∀ v d δ' μ' h' tk', O (.ret μ' d) → St c δ' (τ.add v d) (μ' ++ ν) h' → Q (.ret v) (c.st h' tk')) →
    (∀ δ' μ' h' tk', O (.next δ' μ') → St c δ' τ (μ' ++ ν) h' → Q .next (c.st h' tk')) →
    (∀ x δ' j h' tk', O (.exc δ' j) → Fly c δ' τ ν x j h' → E (.ref x) (c.st h' tk')) →
    codeAny (model prog0 c.w) c.A (.whileLoop t body [] (fi.env L)) (AftW c (fi.env L) rest Q E) (c.st h tk)
theorem bWhile {t : Expr} {body : List Stmt} (h : Wl n fi L t body rest O δ μ) : Bd n fi L δ μ (.While t body [] pos :: rest) O := by
  intro c τ ν Q E hh tk R S kr kn ke
  rw [execs_cons]
  refine wpAny_bind (wpAny_While (codeAny_mono (h c τ ν Q E hh tk R S kr kn ke) fun r s' q => ?_))
  cases r with
  | ok f => cases f <;> first | exact q | exact wpAny_pure q
  | error e => exact q
def Again (W : Loc → Mus → Prop) (O : Out → Prop) : Out → Prop
  | .next δ μ => W δ μ
  | .ret μ d => O (.ret μ d)
  | .exc δ j => O (.exc δ j)
theorem wlStep {t : Expr} {body : List Stmt} (ht : TD n fi L (fi.env L) δ μ t μ' b) (hf : b = false → Bd n fi L δ μ' rest O) (htr : b = true → Bd n fi L δ μ' body (Again (Wl n fi L t body rest O) O)) : Wl n fi L t body rest O δ μ := by
  intro c τ ν Q E hh tk R S kr kn ke
  refine codeAny_of_tree ?_
  show wpAny _ c.A ((whileTurn t body [] (fi.env L)).onRaise (fun x => do noteFrame x (fi.env L); theTreesLotGoes x)) _ _ _
  refine wpAny_noted ?_
  simp only [whileTurn]
  refine wpAny_bind (ht c τ ν _ _ hh tk R S fun h' tk' S' => ?_)
  cases b with
  | false =>
    simp only [Bool.false_eq_true, if_false]
    exact wpAny_bind (wpAny_execs_nil (wpAny_pure (hf rfl c τ ν Q E h' tk' R S' kr kn ke)))
  | true =>
    simp only [if_true]
    refine wpAny_bind (wpAny_mono (htr rfl c τ ν (fun f s' => match f with | .ret v => Q (.ret v) s' | .next => codeAny (model prog0 c.w) c.A (.whileLoop t body [] (fi.env L)) (AftW c (fi.env L) rest Q E) s' | _ => False) _ h' tk' R S' (fun v d δ'' μ'' h'' tk'' o S'' => kr v d δ'' μ'' h'' tk'' o S'') (fun δ'' μ'' h'' tk'' o S'' => o c τ ν Q E h'' tk'' R S'' kr kn ke) (fun x δ'' j h'' tk'' o X => X.noted fun h₁ X₁ => X₁.back fun h₂ X₂ => ke x δ'' j h₂ tk'' o X₂.any)) (fun f s₃ h₄ => ?_) fun _ _ x => x)
    cases f with
    | next => exact wpAny_pure ⟨rfl, h₄⟩
    | cont => exact h₄.elim
    | brk => exact h₄.elim
    | ret v => exact wpAny_pure h₄
/-- x = [..], to be changed -/
theorem bNew {px : Pos} (he : EDs n fi L (fi.env L) δ μ es μ' ds) (hl : ds.length ≤ 1000000) (hx : fi.sc.names.lookup x = some .local) (hb : ∀ a, Bd n fi L ((x, .obj a) :: δ) (μ' ++ [(a, .lst ds)]) rest O)
    (hs : ∀ env, swapsWith (.List es p2) (some (.Name x px)) pos.line env = pure false := by intro _; rfl) : Bd n fi L δ μ (.Assign [.Name x px] (.List es p2) pos :: rest) O := by
  intro c τ ν Q E hh tk R S kr kn ke
  refine wpAny_execs_cons (wpAny_Assign_Name (wpAny_List (he c τ ν _ _ _ hh tk R S fun vs τ' h' tk' s t S' => ⟨fits (t.length ▸ hl), ?_⟩)) (hs _))
  have S₂ := (S'.pushMu (o := { cls := .type "list", data := .seq vs.toArray }) (k := .lst ds) rfl fun imm tm => ⟨vs, 0, rfl, t.all tm⟩).perm (μ' := (μ' ++ [(h'.objs.size, .lst ds)]) ++ ν) (by
    rw [List.append_assoc]
    exact (List.perm_middle (l₁ := μ')).symm)
  obtain ⟨m, hm, st⟩ := S₂.store x (.inl ⟨rfl, rfl⟩)
  exact wpAny_storeName_local hx hm (fun h'' hn hsb => hb _ c τ ν Q E h'' _ R ((st h'' hn hsb).weaken (fun _ _ e => e) fun v d e => .inr (s _ _ e)) kr kn ke) (by show (fi.sc.kind == .class || (fi.sc.kind == .module && L != mainGlobals)) = false; rw [c.fn]; rfl)
/-- a thing changes no more: for the rest it is a list like others -/
theorem bFreeze (hδ : ∀ x d, δ'.lookup x = some d → δ.lookup x = some d ∨ (δ.lookup x = some (.obj a) ∧ d = .list ds)) (hp : μ.Perm ((a, .lst ds) :: μ')) (hb : Bd n fi L δ' μ' rest O) : Bd n fi L δ μ rest O := by
  intro c τ ν Q E hh tk R S kr kn ke
  exact hb c τ ν Q E hh tk R ((S.perm (hp.append_right ν)).freeze hδ fun v d e => .inl e) kr kn ke
theorem bPerm (hp : μ.Perm μ') (hb : Bd n fi L δ μ' rest O) : Bd n fi L δ μ rest O := fun c τ ν Q E hh tk R S kr kn ke => hb c τ ν Q E hh tk R (S.perm (hp.append_right ν)) kr kn ke
/-- x.append(e) -/
theorem bApp {px pa pc : Pos} (he : ED n fi L (fi.env L) δ μ e ((a, .lst ds) :: μ') d) (hx : fi.sc.names.lookup x = some .local) (hd : δ.lookup x = some (.obj a)) (hl : ds.length ≤ 1000000) (hb : Bd n fi L δ ((a, .lst (ds ++ [d])) :: μ') rest O)
    (hi : ∀ L, interactive (fi.env L) = false := by intro _; rfl) (hs : ∀ env, swapsWith (.Call (.Attribute (.Name x px) (Str.ofString "append") pa) [e] [] pc) none pos.line env = pure false := by intro _; rfl) (hp : ∀ p env, (backTo p (starEach ([] : List Expr) env)).any (·.1) = false := by intro _ _; rfl)
    (he' : ∀ env, starEach [e] env = (false, eval e env) :: starEach [] env := by intro _; rfl) (h1 : ∀ env, methodCallForm (([e] : List Expr).length + ([] : List Keyword).length) (backTo pc (starEach [e] env)) (backToKw pc (keywordEach [] env)) = true := by intro _; rfl) (h2 : (pa.endLine == pc.line) = true := by rfl)
    (hb' : (x == ("__debug__" : Str)) = false := by decide) (hm : ∃ k, (a, Mo.lst k) ∈ μ) : Bd n fi L δ μ (.Expr (.Call (.Attribute (.Name x px) (Str.ofString "append") pa) [e] [] pc) pos :: rest) O := by
  intro c τ ν Q E hh tk R S kr kn ke
  obtain ⟨pl, hc'⟩ := mc_name (fe := .Name x px) (name := Str.ofString "append") (p1 := pa) (h1 (fi.env L)) h2 rfl
  refine wpAny_execs_cons (wpAny_Expr_any (MethodCall_ (eName hx hd hb' c τ ν _ _ hh tk R S fun v h' tk' S' => ?_) hc') (hi _) (hs _))
  obtain rfl := S'.isObj (.inl ⟨rfl, rfl⟩)
  obtain ⟨kk, hm⟩ := hm
  obtain ⟨o, ho, e1⟩ : ∃ o, h'.get? a = some o ∧ ∃ (vs : Array Value) (n : Nat), o = listOf vs n := by
    obtain ⟨m, imm, mu, F, N, s, l, t, u⟩ := S'
    obtain ⟨o, ho, vs, n, e, _⟩ := u.mem (List.mem_append.mpr (.inl hm))
    exact ⟨o, (N _ (List.mem_append.mpr (.inl ho))).1, _, n, e⟩
  obtain ⟨vs0, n0, rfl⟩ := e1
  refine Calls.getMethod_list_append ho rfl rfl ?_
  refine callWith_method1 (args_cons (he c τ ν _ _ h' tk' R S'.drop fun v h'' tk'' S'' => args_nil ?_) (he' _)) (he' _) (hp _ _)
  have q : ∃ (vs : List Value) (n : Nat), h''.get? a = some (listOf vs.toArray n) ∧ vs.length = ds.length := by
    obtain ⟨m, imm, mu, F, N, s, l, t, u⟩ := S''
    cases mu with
    | nil => exact u.elim
    | cons p mu =>
      obtain ⟨a', o⟩ := p
      have e1 : a' = a := u.1
      subst e1
      obtain ⟨vs, n, e, r⟩ := u.2.1
      have e' : o = listOf vs.toArray n := e
      subst e'
      exact ⟨vs, n, (N _ (.head _)).1, r.length⟩
  obtain ⟨vs, n, ha, hlen⟩ := q
  refine append_at (s := c.st h'' tk'') ha (fun h₃ hs₃ ho₃ => ?_) (by rw [List.size_toArray, hlen]; exact fits hl)
  refine hb c τ ν Q E h₃ _ R (((S''.upd hs₃ ho₃ (k₂ := .lst (ds ++ [d])) fun imm o t m hg => ?_)).drop) kr kn ke
  obtain ⟨vs', n', e, r⟩ := m
  rw [ha] at hg
  cases hg
  have e2 : vs = vs' := by
    have e3 : vs.toArray = vs'.toArray := by injection e with _ _ e4 _; injection e4
    simpa using e3
  subst e2
  exact ⟨vs ++ [v], n + 1, by simp, r.append (.cons (t _ _ (.inl ⟨rfl, rfl⟩)) .nil)⟩
end
end Mine
end

noncomputable section
open PySem PySem.W PyProof.Rows PySem.Calls PySem.Spec
set_option Elab.async false
set_option linter.unusedVariables false
namespace Mine
set_option maxRecDepth 100000
set_option maxHeartbeats 8000000
section
variable {n k : Nat} {fi : Fi} {L : Addr} {ev : Env} {c : Fc fi L} {δ δ' : Loc} {τ τ' : Tm} {μ μ₀ μ₁ μ₂ μ' ν : Mus} {d d₁ d₂ : Dt} {ds : List Dt} {b : Bool} {pos p1 p2 : Pos} {x y : Str} {e e₁ e₂ : Expr} {es : List Expr} {f : Addr} {fv : Value} {first : List Value} {i j : Int} {h h' : Heap} {tk : Nat} {Q E : Value → Shared → Prop} {rest : List Stmt} {O : Out → Prop} {a : Addr} {k₁ k₂ : Mo}
theorem oEqS : Op2 n .Eq (.str x) (.str y) (.bool (x == y)) := by
  intro fi L c δ τ μ a b Q E h tk R ha hb S K
  obtain ⟨t, rfl⟩ := S.isStr ha
  obtain ⟨u, rfl⟩ := S.isStr hb
  exact eq_str (K _ _ _ (S.hold fun _ _ _ _ _ _ _ _ => .bool _))
theorem oEqI : Op2 n .Eq (.int i) (.int j) (.bool (i == j)) := by
  intro fi L c δ τ μ a b Q E h tk R ha hb S K
  obtain ⟨t, rfl⟩ := S.isInt ha
  obtain ⟨u, rfl⟩ := S.isInt hb
  exact eq_int (K _ _ _ (S.hold fun _ _ _ _ _ _ _ _ => .bool _))
/-- raise e: e is a CopyFault just made -/
theorem raise_K {Q : Flow → Shared → Prop} {env : Env} {s : Shared} (he : wpAny (model prog0 c.w) c.A (eval e env) (fun v s₁ => ∃ a oe vs, v = .ref a ∧ s₁.heap.get? a = some oe ∧ oe.cls = .ref 53 ∧ oe.data = .fields vs ∧ vs[1]? = some .none ∧ (KM c.P).In s₁.heap ∧ E (.ref a) s₁) E s) : wpAny (model prog0 c.w) c.A (exec (.Raise (some e) none pos) env) Q E s := by
  show wpAny (model prog0 c.w) c.A (do standAt pos; raiseStmt env (some (do let v ← eval e env; standAt pos; pure v)) none) Q E s
  refine wpAny_bind (wpAny_standAt ?_)
  unfold raiseStmt
  dsimp only
  refine wpAny_bind (wpAny_bind (wpAny_mono he (fun v s₁ h₁ => wpAny_bind (wpAny_standAt (wpAny_pure ?_))) fun _ _ x => x))
  obtain ⟨a, ob, vs, rfl, ha, hcls, hd, h1, X, hE⟩ := h₁
  have hnt : ∀ {Q' : Bool → Shared → Prop}, Q' false s₁ → wpAny (model prog0 c.w) c.A (isType (.ref a)) Q' E s₁ := by
    intro Q' hq
    simp only [isType, loadHead]
    refine wpAny_bind (wpAny_loadPart ha ?_)
    rw [hd]; exact wpAny_pure hq
  have t1 : Looks (model prog0 c.w) s₁.heap (typeOf (.ref a)) (.ref 53) := hcls ▸ (Looks.ld ha).andThen .now
  have t2 : Looks (model prog0 c.w) s₁.heap (isInstance (.ref a) (.type "BaseException")) true := t1.andThen (looks_subIn X rfl)
  have t3 : Looks (model prog0 c.w) s₁.heap (typeOf (.ref 53)) (.type "type") := looks_typeIn X rfl
  refine wpAny_bind (wpAny_pure ?_)
  dsimp only
  refine wpAny_bind (wpAny_holding ?_)
  unfold excFromValue isExcClass
  refine wpAny_bind (wpAny_bind (hnt ?_))
  simp only [Bool.false_eq_true, if_false]
  refine wpAny_pure ?_
  simp only [Bool.false_eq_true, if_false]
  refine wpAny_bind (t2.here ?_)
  simp only [if_true]
  refine wpAny_pure ?_
  refine wpAny_bind (hnt ?_)
  simp only [Bool.false_eq_true, if_false]
  unfold raisedInstance
  refine wpAny_bind (wpAny_bind (t1.here (wpAny_bind (t3.here ?_))))
  rw [if_pos (by decide)]
  refine wpAny_pure ?_
  unfold setFlight raiseNew
  refine wpAny_bind (wpAny_bind (wpAny_field ha hd h1 ?_))
  rw [if_neg (by decide)]
  refine wpAny_pure (wpAny_bind (wpAny_handled ?_))
  rw [c.hd]
  exact wpAny_throw hE
/-- it is on its way -/
theorem St.fly (S : St c δ τ ((a, .exc j) :: μ) h) : Fly c δ τ μ a j h := by
  obtain ⟨m, imm, mu, F, N, s, l, t, u⟩ := S
  cases mu with
  | nil => exact u.elim
  | cons p mu =>
    obtain ⟨a', o⟩ := p
    have e : a' = a := u.1
    subst e
    obtain ⟨vs, d, ta, x, t1, t2, t3, e1, e2, e3, e4, e5, e6⟩ := u.2.1
    have hn := N (a', o) (.head _)
    exact ⟨m, imm, mu, F.ns, fun b o q => ⟨fun _ => F.keep b o q, o.slots, F.keep b o q⟩, fun p hp => N p (.tail _ hp), l, t, ⟨fun p hp => s.off p (.tail _ hp), (List.nodup_cons.mp s.nd).2⟩, u.2.2, o, vs, d, ta, x, t1, t2, t3, hn.1, e1, e2, e3, ⟨hn.2.2, hn.2.1, fun p hp z => (List.mem_append.mp hp).elim (fun q => (List.nodup_cons.mp s.nd).1 (List.mem_map.mpr ⟨p, q, z⟩)) fun q => s.off _ (.head _) p q z.symm⟩, e4, e5, .inl ⟨rfl, e6⟩⟩
theorem St.exc (S : St c δ τ ((a, .exc j) :: μ) h) : ∃ oe vs, h.get? a = some oe ∧ oe.cls = .ref 53 ∧ oe.data = .fields vs ∧ vs[1]? = some .none := by
  obtain ⟨o, imm, ho, ⟨vs, d, ta, x, t1, t2, t3, e1, e2, e3, e4, e5, e6⟩, _⟩ := S.muAt
  exact ⟨o, vs, ho, e1, e3, e6⟩
abbrev FuF (n : Nat) (f : Value) (μ : Mus) (ds : List Dt) (j : Int) : Prop := Fu n f μ ds (fun o => ∃ a, o = .ret ((a, .exc j) :: μ) (.obj a))
/-- an expression that gives a CopyFault just made -/
def EX (n : Nat) (fi : Fi) (L : Addr) (ev : Env) (δ : Loc) (μ : Mus) (e : Expr) (μ' : Mus) (j : Int) : Prop :=
  ∀ (c : Fc fi L) (τ : Tm) (ν : Mus) (Q E : Value → Shared → Prop) (h : Heap) (tk : Nat), Room n c.A → St c δ τ (μ ++ ν) h →
    (∀ a h' tk', St c δ (τ.add (.ref a) (.obj a)) ((a, .exc j) :: (μ' ++ ν)) h' → Q (.ref a) (c.st h' tk')) → wpAny (model prog0 c.w) c.A (eval e ev) Q E (c.st h tk)
theorem bRaise (he : EX n fi L (fi.env L) δ μ e μ' j) (h : O (.exc δ j)) : Bd n fi L δ μ (.Raise (some e) none pos :: rest) O := by
  intro c τ ν Q E hh tk R S kr kn ke
  refine wpAny_execs_cons (raise_K (he c τ ν _ _ hh tk R S fun a h' tk' S' => ?_))
  obtain ⟨oe, vs, h1, h2, h3, h4⟩ := S'.exc
  exact ⟨a, oe, vs, rfl, h1, h2, h3, h4, S'.kin, ke a δ j h' tk' h (S'.fly.loses.weaken (fun _ _ e => e) fun _ _ e => .inr e)⟩
theorem bRetF (he : EX n fi L (fi.env L) δ μ e μ' j) (h : ∀ a, O (.ret ((a, .exc j) :: μ') (.obj a))) : Bd n fi L δ μ (.Return (some e) pos :: rest) O := by
  intro c τ ν Q E hh tk R S kr kn ke
  exact wpAny_execs_cons (wpAny_Return_some (he c τ ν _ _ hh tk R S fun a h' tk' S' => kr _ _ δ _ _ _ (h a) S'))
theorem fu_new {vs : List Value} {μa ρ : Mus} {τ' : Tm} (hc : FuF k fv μa ds j) (hn : Nat.ble k n = true) (R : Room n c.A) (t : T2 τ' vs ds) (s : ∀ v d, τ v d → τ' v d) (S : St c δ τ' ((μa ++ ρ) ++ ν) h)
    (K : ∀ a h' tk', St c δ (τ.add (.ref a) (.obj a)) ((a, .exc j) :: ((μa ++ ρ) ++ ν)) h' → Q (.ref a) (c.st h' tk')) : wpAny (model prog0 c.w) c.A (call fv vs) Q E (c.st h tk) := by
  refine hc fi L c δ τ' (ρ ++ ν) vs Q E h tk (R.le hn) t (List.append_assoc _ _ _ ▸ S) (fun v μ' d' h₃ tk₃ o S₃ => ?_) fun x j h₃ tk₃ o => nomatch o
  obtain ⟨a, o⟩ := o
  cases o
  obtain rfl := S₃.isObj (.inl ⟨rfl, rfl⟩)
  refine K a h₃ tk₃ ?_
  rw [List.append_assoc]
  exact S₃.weaken (fun _ _ e => e) fun v d e => e.elim .inl fun e => .inr (s _ _ e)
theorem eMethF {px : Pos} {name : Str} {rows : List Row} {wd tl : Addr} {i : Nat} {μa ρ : Mus} (M : Meth 122 name f) (hc : FuF k (.ref f) μa (.walk wd tl rows :: ds) j) (hf : ED n fi L ev δ μ (.Name x px) μ (.walk wd tl rows)) (hm : (wd, Mo.wk tl i) ∈ μ) (hs : EDs n fi L ev δ μ (e :: es) (μa ++ ρ) ds) (hn : Nat.ble k n = true)
    (hl : ∀ P t1 t2 t3, getL name [ent P (Str.ofString "tokens") t1 (.ref tl), ent P (Str.ofString "at") t2 (.int i t3)] = some none := by intro _ _ _ _; rfl) (hp : ∀ p env, (backTo p (starEach (e :: es) env)).any (·.1) = false := by intro _ _; rfl)
    (he : ∀ env, starEach (e :: es) env = (false, eval e env) :: starEach es env := by intro _; rfl) (h1 : ∀ env, methodCallForm ((e :: es : List Expr).length + ([] : List Keyword).length) (backTo pos (starEach (e :: es : List Expr) env)) (backToKw pos (keywordEach [] env)) = true := by intro _; rfl) (h2 : (p1.endLine == pos.line) = true := by rfl) : EX n fi L ev δ μ (.Call (.Attribute (.Name x px) name p1) (e :: es) [] pos) (μa ++ ρ) j := by
  intro c τ ν Q E h tk R S K
  obtain ⟨pl, hc'⟩ := mc_name (fe := .Name x px) (name := name) (p1 := p1) (h1 ev) h2 rfl
  refine MethodCall_ (hf c τ ν _ _ h tk R S fun v h' tk' S' => methW M S' (.inl ⟨rfl, rfl⟩) (List.mem_append.mpr (.inl hm)) hl ?_) hc'
  exact args1 R S' hs M.k (hp _) (fun vs τ' h'' tk'' s t S'' => fu_new hc hn R (T2.cons (s _ _ (.inl ⟨rfl, rfl⟩)) t) (fun _ _ e => s _ _ (.inr e)) S'' K) he
theorem eCallF {fe : Expr} {μa ρ : Mus} (hc : FuF k (.ref f) μa ds j) (hf : ED n fi L ev δ μ fe μ (.obj f)) (hs : EDs n fi L ev δ μ (e :: es) (μa ++ ρ) ds) (hn : Nat.ble k n = true) (hk : ∀ P, keepIn (KM P) (.ref f) = true) (hp : ∀ p env, (backTo p (starEach (e :: es) env)).any (·.1) = false := by intro _ _; rfl)
    (he : ∀ env, starEach (e :: es) env = (false, eval e env) :: starEach es env := by intro _; rfl) (hc' : ∀ env, eval (.Call fe (e :: es) [] pos) env = (do callWith pos (← eval fe env) [] (backTo pos (starEach (e :: es) env)) (backToKw pos (keywordEach [] env))) := by intro _; rfl) : EX n fi L ev δ μ (.Call fe (e :: es) [] pos) (μa ++ ρ) j := by
  intro c τ ν Q E h tk R S K
  refine Call_ (hf c τ ν _ _ h tk R S fun v h' tk' S' => ?_) (hc' _)
  obtain rfl := S'.isObj (.inl ⟨rfl, rfl⟩)
  exact args1 R S' hs hk (hp _) (fun vs τ' h'' tk'' s t S'' => fu_new hc hn R t (fun _ _ e => s _ _ (.inr e)) S'' K) he
theorem ff_of {μ : Mus} {name qual : Str} {params : Arguments} {body : List Stmt} {scope : Scope} {dV kV doc pm cdv ct oc : Value} {an od : Option Addr} {osl : Array (Option Value)} (ps : List Str)
    (ho : ∀ P, (KM P).lookup f = some ⟨oc, od, .func (fnOf name qual params body scope dV kV doc pm an cdv ct), osl⟩) (hcd : ∀ P, codeIn (KM P) cdv qual = true)
    (hbind : ∀ vals : List Value, vals.length = ds.length → ∀ s, BindsTo s (fnOf name qual params body scope dV kV doc pm an cdv ct) ⟨vals, []⟩ (ps.zip vals)) (hloc : ∀ y ∈ ps, scope.names.lookup y = some .local)
    (hδ : (ps.zip ds).reverse = δ') (hk : Nat.ble (k + 1) n = true) (hb : ∀ L, Bd k ⟨qual, scope, f, cdv, fun _ => [], false⟩ L δ' μ body (fun o => ∃ a, o.fo = .ret ((a, .exc j) :: μ) (.obj a)))
    (hcell : ∀ x ∈ scope.names, x.2 ≠ .cell) (hco : scope.isCoroutine = false) (hgen : scope.isGenerator = false) (hkd : scope.kind = .function) : FuF n (.ref f) μ ds j :=
  fu_of ps ho hcd hbind hloc hδ hk hb (fun _ _ h => h) (fun _ _ h => h) (fun _ _ h => h) hcell hco hgen hkd
end
end Mine
end

noncomputable section
open PySem PySem.W PyProof.Rows PySem.Calls
set_option Elab.async false
set_option linter.unusedVariables false
namespace Mine
set_option maxRecDepth 100000
set_option maxHeartbeats 8000000
theorem fill_K1 : (law1, KM) = (law1, KM) := by
  k_fill
  rfl
section
variable {w : World} {A : Around} {env : Env} {outer : List Env} {h₀ : Heap} {L : Addr} {m : Str → Option Value} {news imm : List (Addr × Obj)} {s : Shared} {Q E : Value → Shared → Prop}
theorem store_self {g : Heap} {x dx C : Addr} {es es' : List DictEntry} {n n' : Nat} {name : Str} {v : Value} {Q : Unit → Shared → Prop} (F : Fr g L s.heap m) (X : (KM w.params).In g) (N : News g L s.heap ((x, instObj C dx) :: (dx, dictOf es n) :: news)) (l1 : ∀ p ∈ news, p.1 < dx) (l2 : dx < x)
    (hs : findIn (KM w.params) (.ref C) "__setattr__" = some (some (.builtin "object.__setattr__"))) (hp : plainOver (KM w.params) C = true) (ht : takerIn (KM w.params) C name = some none) (hh : hasDictIn (KM w.params) C = true) (hl : (getL name es).isSome = true)
    (e : (putL name (PyData.keyHash w.params name) (.str name (s.toks + 1)) v es, putN name es n) = (es', n')) (hz : Nat.ble es'.length 1000 = true)
    (K : ∀ h', Fr g L h' m → News g L h' ((x, instObj C dx) :: (dx, dictOf es' n') :: news) → Q () { s with heap := h', toks := s.toks + 2 }) : wpAny (model prog0 w) A (setAttr (.ref x) name v) Q E s :=
  set_dict F X N (InstAt.of_news N (.head _) (.tail _ (.head _))) rfl hs hp ht hh hl e (.tail (Nat.ne_of_gt l2) (.head fun p q => Nat.ne_of_lt (l1 p q))) (Nat.le_of_ble_eq_true hz) K
theorem new_walk {tl : Addr} (C : Cx w A env outer h₀ L m s.heap) (R : Room 2 A) (N : News h₀ L s.heap news)
   (ret : ∀ h' tk' x dx t1 t2 t3, Fr h₀ L h' m → News h₀ L h' ((x, instObj 122 dx) :: (dx, wdict w.params tl t1 t2 0 t3) :: news) → (∀ p ∈ news, p.1 < dx) → dx < x → Q (Value.ref x) { s with heap := h', toks := tk' })
  : wpAny (model prog0 w) A (call (.ref 122) [.ref tl]) Q E s := by
  obtain ⟨⟨A₀, base, B⟩, F, X, ⟨p, loose, mean, mg, mb, T⟩, fr, lo, fn, hd⟩ := C
  refine call_cls (fI := 70) F X N (by rfl) (by rfl) (by rfl) fun x dx h1 F1 N1 l1 l2 => ?_
  refine' code_def (binds := [(Str.ofString "self", .ref x), (Str.ofString "tokens", .ref tl), (Str.ofString "at", .int 0 259)]) B F1 X N1 T ?kA lo fn ?k6 ?k7 ?k8 ?k9 ?kB ?_ ?c2 ?c3 ?c4 ?c5; (case kA => exact fr); (case k6 => exact rfl); (case k7 => exact rfl); (case k8 => rw [depth_under_make]; have := R.dp; omega); (case k9 => exact binds_K (X.keeps F1.keep) rfl rfl rfl rfl rfl); (case c5 => decide); (case kB => exact locs rfl); (case c2 => exact rfl); (case c3 => exact rfl); (case c4 => exact rfl)
  intro g' L' h' FG' F' N' B' X' T'
  clear N F1 N1 R B T
  refine (?hh : ∀ (P : Flow → Shared → Prop) (E' : Value → Shared → Prop), (∀ h' tk' t1 t2 t3, Fr g' L' h' (fun y => List.lookup y [(Str.ofString "self", .ref x), (Str.ofString "tokens", .ref tl), (Str.ofString "at", .int 0 259)].reverse) → News g' L' h' ((x, instObj 122 dx) :: (dx, wdict w.params tl t1 t2 0 t3) :: news) → P .next { s with heap := h', toks := tk' }) → wpAny (model prog0 w) _ (execs _ _) P E' _) _ _ ?_
  case hh =>
    clear ret FG' B'
    intro P E' ret'
    repeat' (first | (refine' store_self ?k1 ?k2 ?k3 ?k4 ?k5 ?k6 ?k7 ?k8 ?k9 ?k10 ?k11 ?k12 ?_; (case k1 => k_asm); (case k2 => exact X'); (case k3 => k_asm); (case k4 => exact l1); (case k5 => exact l2); (case k6 => exact rfl); (case k7 => exact rfl); (case k8 => exact rfl); (case k9 => exact rfl); (case k10 => exact rfl); (case k11 => exact rfl); (case k12 => exact rfl); intro h' F' N'; (try dsimp only)) | walk1 | (dsimp only; walk1))
    exact ret' _ _ _ _ _ F' N'
  · intro h2 tk2 t1 t2 t3 F2 N2
    clear X' N' F'
    repeat' (first | walk1 | (dsimp only; walk1))
    exact ret _ _ _ _ _ _ _ (by assumption) (by assumption) l1 l2
theorem new_tok {r : Row} {ta : Addr} {u1 u2 : Tok} (C : Cx w A env outer h₀ L m s.heap) (R : Room 2 A) (N : News h₀ L s.heap news)
   (ret : ∀ h' tk' x dx t1 t2 t3 t4 t5 t6, Fr h₀ L h' m → News h₀ L h' ((x, instObj 187 dx) :: (dx, tdict w.params r ta t1 t2 t3 t4 t5 t6) :: news) → (∀ p ∈ news, p.1 < dx) → dx < x → Q (Value.ref x) { s with heap := h', toks := tk' })
  : wpAny (model prog0 w) A (call (.ref 187) [.str r.1 u1, .str r.2 u2, .ref ta]) Q E s := by
  obtain ⟨⟨A₀, base, B⟩, F, X, ⟨p, loose, mean, mg, mb, T⟩, fr, lo, fn, hd⟩ := C
  refine call_cls (fI := 177) F X N (by rfl) (by rfl) (by rfl) fun x dx h1 F1 N1 l1 l2 => ?_
  refine' code_def (binds := [(Str.ofString "self", .ref x), (Str.ofString "kind", .str r.1 u1), (Str.ofString "worth", .str r.2 u2), (Str.ofString "at", .ref ta), (Str.ofString "is_in_a", .bool false)]) B F1 X N1 T ?kA lo fn ?k6 ?k7 ?k8 ?k9 ?kB ?_ ?c2 ?c3 ?c4 ?c5; (case kA => exact fr); (case k6 => exact rfl); (case k7 => exact rfl); (case k8 => rw [depth_under_make]; have := R.dp; omega); (case k9 => exact binds_K (X.keeps F1.keep) rfl rfl rfl rfl rfl); (case c5 => decide); (case kB => exact locs rfl); (case c2 => exact rfl); (case c3 => exact rfl); (case c4 => exact rfl)
  intro g' L' h' FG' F' N' B' X' T'
  clear N F1 N1 R B T
  refine (?hh : ∀ (P : Flow → Shared → Prop) (E' : Value → Shared → Prop), (∀ h' tk' t1 t2 t3 t4 t5 t6, Fr g' L' h' (fun y => List.lookup y [(Str.ofString "self", .ref x), (Str.ofString "kind", .str r.1 u1), (Str.ofString "worth", .str r.2 u2), (Str.ofString "at", .ref ta), (Str.ofString "is_in_a", .bool false)].reverse) → News g' L' h' ((x, instObj 187 dx) :: (dx, tdict w.params r ta t1 t2 t3 t4 t5 t6) :: news) → P .next { s with heap := h', toks := tk' }) → wpAny (model prog0 w) _ (execs _ _) P E' _) _ _ ?_
  case hh =>
    clear ret FG' B'
    intro P E' ret'
    repeat' (first | (refine' store_self ?k1 ?k2 ?k3 ?k4 ?k5 ?k6 ?k7 ?k8 ?k9 ?k10 ?k11 ?k12 ?_; (case k1 => k_asm); (case k2 => exact X'); (case k3 => k_asm); (case k4 => exact l1); (case k5 => exact l2); (case k6 => exact rfl); (case k7 => exact rfl); (case k8 => exact rfl); (case k9 => exact rfl); (case k10 => exact rfl); (case k11 => exact rfl); (case k12 => exact rfl); intro h' F' N'; (try dsimp only)) | walk1 | (dsimp only; walk1))
    exact ret' _ _ _ _ _ _ _ _ F' N'
  · intro h2 tk2 t1 t2 t3 t4 t5 t6 F2 N2
    clear X' N' F'
    repeat' (first | walk1 | (dsimp only; walk1))
    exact ret _ _ _ _ _ _ _ _ _ _ (by assumption) (by assumption) l1 l2
end
end Mine
end

noncomputable section
open PySem PySem.W PyProof.Rows PySem.Calls PySem.Spec
set_option Elab.async false
set_option linter.unusedVariables false
namespace Mine
set_option maxRecDepth 100000
set_option maxHeartbeats 1000000
section
variable {P : Params} {prog : Program} {w : World} {A : Around} {E : Value → Shared → Prop} {h : Heap} {g : Array GenState} {d : Drawn} {t : Nat} {os : OsState}
variable {nm q : Str} {C N : Addr} {bs bm : List Value} {hdct : Bool} {sn : List Str} {sub : List Value} {ab : Bool} {col : Option Bool} {dd : Option Addr} {k0 k1 k2 k3 k5 : Option Value}
/-- where an exception's class has a base of its own: its __new__ may be called -/
theorem flt_check {rest : List Value} {Q : Unit → Shared → Prop} (hC : h.get? C = some (excClassObj nm q C N bs bm hdct sn sub ab col dd k0 k1 k2 k3 k5 "Exception.__new__")) (hB : (Value.ref C :: bm).contains (.type "Exception") = true)
    (hq : Q () ⟨h, g, d, t, os⟩) : wpAny (model prog w) A (checkBuiltinCall "Exception.__new__" ⟨.ref C :: rest, []⟩) Q E ⟨h, g, d, t, os⟩ := by
  have hs := F.excBase_Exception.noStar
  simp only [checkBuiltinCall, F.excBase_Exception.newKind, F.excBase_Exception.newSplit, F.excBase_Exception.newRow]
  repeat (first | refine wpAny_loadPart_at hC ?_ | (refine wpAny_isSubtype_exc hC ?_; rw [hB]) | refine wpAny_staticBase_exc hC ?_ | refine wpAny_madeBy_exc hC ?_ | simp only [bne_self_eq_false, Bool.false_eq_true, if_false] | wp_step)
  exact hq
/-- .. and it makes the object -/
theorem flt_new {rest : List Value} {R : Result → Shared → Prop} (hC : h.get? C = some (excClassObj nm q C N bs bm hdct sn sub ab col dd k0 k1 k2 k3 k5 "Exception.__new__")) (hB : (Value.ref C :: bm).contains (.type "Exception") = true)
    (hA : (Value.ref C :: bm).contains (.type "AttributeError") = false) (hN : (Value.ref C :: bm).contains (.type "NameError") = false) (hl : rest.length ≤ sizeLine)
    (hq : R (.ok (.ret (.ref (h.objs.size + 1)))) ⟨(h.push { cls := .type "tuple", data := .seq rest.toArray }).push { cls := .ref C, data := .fields #[.ref h.objs.size, .none, .none, .none, .bool false, .none] }, g, d, t, os⟩) :
    codeAny (model prog w) A (.builtin "Exception.__new__" ⟨.ref C :: rest, []⟩) R ⟨h, g, d, t, os⟩ := by
  have he := F.excBase_Exception.ends
  have hrest := hl
  refine codeAny_builtinAt F.excBase_Exception.entry ?_
  unfold Builtin.«BaseException.__new__»
  refine PySem.wpAt_bind ?_
  show PySem.wpAt _ _ _ (stack >>= _) _ _ _
  refine PySem.wpAt_bind (PySem.wpAt_stack fun p below => PySem.wpAt_of_wpAny ?_)
  wp_walk
  refine PySem.wpAt_of_wpAny ?_
  rw [F.excBase_Exception.owner]
  repeat (first | with_reducible refine wpAny_madeHere_exc F.excBase_Exception.canon hC ?_ | with_reducible refine wpAny_loadPart_at hC ?_ | (with_reducible refine wpAny_isSubtype_exc hC ?_; first | rw [hB] | rw [hA] | rw [hN]) | wp_step)
  show R _ _
  rw [Heap.size_push]
  exact hq
/-- a CopyFault is made: its class is called -/
theorem flt_type {rest : List Value} {Q : Fin → Shared → Prop} (X : (KM P).In h) (hl : rest.length ≤ sizeLine)
    (hq : ∀ h', h' = (h.push { cls := .type "tuple", data := .seq rest.toArray }).push { cls := .ref 53, data := .fields #[.ref h.objs.size, .none, .none, .none, .bool false, .none] } → wpAny (model prog w) A (call (.ref 30) (.ref (h.objs.size + 1) :: rest)) (fun r s' => r = .none ∧ Q (.done (.ret (.ref (h.objs.size + 1)))) s') E ⟨h', g, d, t, os⟩) :
    wpAny (model prog w) A (Builtin.«type.__call__» ⟨.ref 53 :: rest, []⟩) Q E ⟨h, g, d, t, os⟩ := by
  have hC := X 53 _ rfl
  have e : ∃ nm q N bs bm hdct sn sub ab col dd k0 k1 k2 k3 k5, h.get? 53 = some (excClassObj nm q 53 N bs bm hdct sn sub ab col dd k0 k1 k2 k3 k5 "Exception.__new__") ∧ (Value.ref 53 :: bm).contains (.type "Exception") = true ∧ (Value.ref 53 :: bm).contains (.type "AttributeError") = false ∧ (Value.ref 53 :: bm).contains (.type "NameError") = false :=
    ⟨_, _, _, _, _, _, _, _, _, _, _, _, _, _, _, _, hC, by decide +kernel, by decide +kernel, by decide +kernel⟩
  clear hC
  obtain ⟨nm, q, N, bs, bm, hdct, sn, sub, ab, col, dd, k0, k1, k2, k3, k5, hC, hB, hA, hN⟩ := e
  repeat (first | with_reducible refine wpAny_loadPart_at hC ?_ | with_reducible refine wpAny_madeBy_exc hC ?_ | wp_step)
  refine codeAny_call_builtin_code (Code.quiet_builtin _ F.excBase_Exception.quiet) (flt_check hC hB ?_)
  refine flt_new hC hB hA hN hl ?_
  show wpAny _ _ _ _ _ _
  generalize eh : (h.push { cls := .type "tuple", data := .seq rest.toArray }).push { cls := .ref 53, data := .fields #[.ref h.objs.size, .none, .none, .none, .bool false, .none] } = h'
  have kp : ∀ b o, h.get? b = some o → h'.get? b = some o := fun b o e => by rw [← eh]; exact Heap.get?_push_of_some _ (Heap.get?_push_of_some _ e)
  have X' : (KM P).In h' := X.keeps kp
  have hC₁ := kp _ _ hC
  have hget : h'.get? (h.objs.size + 1) = some { cls := .ref 53, data := .fields #[.ref h.objs.size, .none, .none, .none, .bool false, .none] } := by
    rw [← eh]; heap_get
  have hcC : (Value.ref 53 :: bm).contains (.ref 53) = true := by simp
  unfold isInstance
  repeat (first | with_reducible refine wpAny_loadPart_at hget ?_ | (with_reducible refine wpAny_isSubtype_exc hC₁ ?_; rw [hcC]) | wp_step)
  show wpAny _ _ (typeLookup (.ref 53) _) _ _ _
  refine (looks_findIn X' (r := some (.ref 30)) rfl).here ?_
  dsimp only
  refine wpAny_holding (wpAny_bind ?_)
  unfold bindSpecial
  refine wpAny_bind (wpAny_typeOf (T := "function") ⟨_, X' 30 _ rfl, rfl⟩ ?_)
  rw [if_pos (by decide)]
  refine wpAny_pure (wpAny_bind (wpAny_mono (hq h' eh.symm) (fun r s' hr => ?_) fun _ _ x => x))
  obtain ⟨rfl, hQ⟩ := hr
  wp_walk
  exact hQ
/-- .. through the class of classes -/
theorem flt_call {rest : List Value} {Q : Value → Shared → Prop} (X : (KM P).In h) (hl : rest.length ≤ sizeLine)
    (hq : ∀ h', h' = (h.push { cls := .type "tuple", data := .seq rest.toArray }).push { cls := .ref 53, data := .fields #[.ref h.objs.size, .none, .none, .none, .bool false, .none] } → wpAny (model prog w) (A.under (.builtin "type.__call__" ⟨.ref 53 :: rest, []⟩)) (call (.ref 30) (.ref (h.objs.size + 1) :: rest)) (fun r s' => r = .none ∧ Q (.ref (h.objs.size + 1)) s') E ⟨h', g, d, t, os⟩) :
    wpAny (model prog w) A (call (.ref 53) rest) Q E ⟨h, g, d, t, os⟩ := by
  have f1 := tc_lookup
  have f2 := tc_bind (.ref 53)
  have hC := X 53 _ rfl
  have e : ∃ nm q N bs bm hdct sn sub ab col dd k0 k1 k2 k3 k5, h.get? 53 = some (excClassObj nm q 53 N bs bm hdct sn sub ab col dd k0 k1 k2 k3 k5 "Exception.__new__") :=
    ⟨_, _, _, _, _, _, _, _, _, _, _, _, _, _, _, _, hC⟩
  clear hC
  obtain ⟨nm, q, N, bs, bm, hdct, sn, sub, ab, col, dd, k0, k1, k2, k3, k5, hC⟩ := e
  have hT : (⟨h, g, d, t, os⟩ : Shared).TypeIs (.ref 53) "type" := ⟨_, hC, rfl⟩
  refine wpAny_call (codeAny_of_tree ?_)
  show wpAny _ _ (callAny (.ref 53) _) _ _ _
  repeat (any_goals (first | assumption | with_reducible refine wpAny_loadPart_at hC ?_ | wp_step))
  refine ⟨rfl, ?_⟩
  exact codeAny_call_builtin_at (Code.quiet_builtin _ (by decide +kernel)) entry_typeCall (wpAny_check_type_call_sub hC (flt_type X hl hq))
end
end Mine
end

noncomputable section
open PySem PySem.W PyProof.Rows PySem.Calls PySem.Spec PySem.Builtin PySem.Builtin.ObjectAttr
set_option Elab.async false
set_option linter.unusedVariables false
namespace Mine
set_option maxRecDepth 100000
set_option maxHeartbeats 1000000
theorem pass_exc (self : Value) : refuseLoop self "__setattr__" [.type "Exception", .type "BaseException", .type "object"] = pure () := by
  kernel_rfl
section
variable {w : World} {A : Around} {E : Value → Shared → Prop} {s : Shared} {R : Result → Shared → Prop}
/-- an attribute of a CopyFault is stored -/
theorem flt_open {x : Addr} {ox : Obj} {od : Option Obj} {name : Str} {tk : Tok} {v : Value} (X : (KM w.params).In s.heap) (I : InstAt s.heap x ox 53 od) (ht : takerIn (KM w.params) 53 name = some none)
    (h : ∀ b, wpAny (model prog0 w) A.in1 (storeInOwnDict (.ref x) (.ref 53) (.str name tk) name v b)
      (fun fin s' => match fin with | .done f => R (.ok f) s' | .again c' => c'.quiet = true ∧ codeAny (model prog0 w) A c' R s') (fun e s' => R (.error e) s') s) :
    codeAny (model prog0 w) A (.call (.builtin "object.__setattr__") ⟨[.ref x, .str name tk, v], []⟩) R s := by
  have SF := PySem.F.store_object
  have sub : Looks (model prog0 w) s.heap (isInstance (.ref x) (.type "object")) true := I.type.andThen (looks_mroIn X rfl)
  refine codeAny_call_builtin SF.slot.plain SF.entry (@check_slot (model prog0 w) _ _ s "object.__setattr__" "object" "__setattr__" (.ref x) [.str name tk, v] [] _ SF.kind SF.split sub (SF.args (.ref x) (.str name tk) v) ?_)
  obtain ⟨attr, ha, hr⟩ := Option.bind_eq_some_iff.mp ht
  have lc : Looks (model prog0 w) s.heap (classData 53) _ := looks_clsIn X rfl
  have hm : Looks (model prog0 w) s.heap (mroOf (.ref 53)) [.ref 53, .ref 40, .type "Exception", .type "BaseException", .type "object"] := lc.andThen .now
  have L3 : Looks (model prog0 w) s.heap (storeTaker? attr) none := by
    cases attr with
    | none => cases hr; exact .now
    | some a =>
      obtain ⟨b, hb, e⟩ := Option.map_eq_some_iff.mp hr
      refine (looks_takesIn X hb).andThen ?_
      cases b with
      | true => cases e
      | false => exact .now
  rw [osa_eq, refuse_eq]
  refine wpAny_bind (wpAny_bind (I.type.here (wpAny_bind (hm.here ?_))))
  rw [refuseLoop_ref, refuseLoop_ref, pass_exc]
  refine wpAny_pure (wpAny_bind (I.type.here (wpAny_bind ((looks_findIn X ha).here (wpAny_bind (L3.here ?_))))))
  exact h _
/-- the first attribute of an exception's own: its dict is made -/
theorem set_new {x : Addr} {vs : Array Value} {sl : Array (Option Value)} {name : Str} {v : Value} {Q : Unit → Shared → Prop} (X : (KM w.params).In s.heap) (hx : s.heap.get? x = some ⟨.ref 53, none, .fields vs, sl⟩) (ht : takerIn (KM w.params) 53 name = some none)
    (K : ∀ h', h'.get? x = some ⟨.ref 53, some s.heap.objs.size, .fields vs, sl⟩ → h'.get? s.heap.objs.size = some (dictOf [ent w.params name (s.toks + 1) v] 1) → (∀ b o, b ≠ x → s.heap.get? b = some o → h'.get? b = some o) → Q () { s with heap := h', toks := s.toks + 2 }) : wpAny (model prog0 w) A (setAttr (.ref x) name v) Q E s := by
  have I : InstAt s.heap x ⟨.ref 53, none, .fields vs, sl⟩ 53 none := ⟨hx, rfl, rfl, trivial⟩
  refine set_plain X I rfl (flt_open (s := { s with toks := s.toks + 1 }) X I ht fun b => ?_)
  obtain ⟨hh, g, dr, t, os⟩ := s
  have lc : Looks (model prog0 w) hh (classData 53) _ := looks_clsIn X rfl
  dsimp only at hx K X
  refine wpAny_bind (wpAny_pure (wpAny_bind (wpAny_bind (wpAny_loadPart hx (wpAny_bind (lc.here ?_))))))
  refine wpAny_bind (wpAny_alloc (wpAny_bind (wpAny_update (o := ⟨.ref 53, none, .fields vs, sl⟩) (Heap.get?_push_of_some _ hx) (wpAny_pure ?_))))
  dsimp only
  generalize eh : ((hh.push { cls := .type "dict", data := .dict #[] }).update x fun o => { o with dict := some hh.objs.size }) = h₁
  have hne : x ≠ hh.objs.size := Nat.ne_of_lt (Heap.lt_size hx)
  have hx₁ : h₁.get? x = some ⟨.ref 53, some hh.objs.size, .fields vs, sl⟩ := by
    rw [← eh]; exact Heap.get?_update_self _ (Heap.get?_push_of_some _ hx) rfl
  have D : h₁.get? hh.objs.size = some { cls := .type "dict", data := .dict #[] } := by
    rw [← eh, Heap.get?_update_other _ _ hne]; exact Heap.get?_push_size _ rfl
  have kp : ∀ b o, b ≠ x → hh.get? b = some o → h₁.get? b = some o := fun b o hb e => by
    rw [← eh, Heap.get?_update_other _ _ (Ne.symm hb)]; exact Heap.get?_push_of_some _ e
  refine wpAny_bind (wpAny_pure (wpAny_bind ?_))
  unfold nsSet
  refine wpAny_bind (wpAny_bind (wpAny_askSetting (wpAny_pure (wpAny_bind (wpAny_mkText (wpAny_bind (wpAny_loadPart D ?_)))))))
  dsimp only
  rw [aRefKeyMayBeTheName_at, show ((!(#[] : Array DictEntry).any (·.key.isStr name) && (#[] : Array DictEntry).any (·.refKey)) = false) by simp]
  refine wpAny_updatePart D ?_
  have e1 : Obj.putName name (PyData.keyHash w.params name) (.str name (t + 1)) v (dictOf [] 0) = dictOf [ent w.params name (t + 1) v] 1 := by
    rw [putName_dict]; rfl
  have D' : (h₁.update hh.objs.size (Obj.putName name (PyData.keyHash w.params name) (.str name (t + 1)) v)).get? hh.objs.size = some (dictOf [ent w.params name (t + 1) v] 1) := by
    rw [← e1]; exact Heap.get?_update_self _ D rfl
  refine wpAny_bind (wpAny_lookBehind D' (pastItsLine_dict (by show 1 ≤ sizeLine + 1; omega)) ?_)
  refine wpAny_pure (K _ ?_ D' fun b o hb e => ?_)
  · rw [Heap.get?_update_other _ _ (Ne.symm hne)]; exact hx₁
  · rw [Heap.get?_update_other _ _ (Ne.symm (Nat.ne_of_lt (Heap.lt_size e)))]; exact kp b o hb e
/-- .. and the second -/
theorem set_two {x dx : Addr} {vs : Array Value} {sl : Array (Option Value)} {t1 : Tok} {v1 v : Value} {Q : Unit → Shared → Prop} (X : (KM w.params).In s.heap) (hx : s.heap.get? x = some ⟨.ref 53, some dx, .fields vs, sl⟩) (D : s.heap.get? dx = some (dictOf [ent w.params (Str.ofString "what") t1 v1] 1))
    (K : ∀ h', h'.get? dx = some (dictOf [ent w.params (Str.ofString "what") t1 v1, ent w.params (Str.ofString "at") (s.toks + 1) v] 2) → (∀ b o, b ≠ dx → s.heap.get? b = some o → h'.get? b = some o) → Q () { s with heap := h', toks := s.toks + 2 }) : wpAny (model prog0 w) A (setAttr (.ref x) (Str.ofString "at") v) Q E s := by
  have I : InstAt s.heap x ⟨.ref 53, some dx, .fields vs, sl⟩ 53 (some (dictOf [ent w.params (Str.ofString "what") t1 v1] 1)) := ⟨hx, rfl, rfl, D⟩
  refine set_plain X I rfl (flt_open (s := { s with toks := s.toks + 1 }) X I rfl fun b => ?_)
  obtain ⟨hh, g, dr, t, os⟩ := s
  have lc : Looks (model prog0 w) hh (classData 53) _ := looks_clsIn X rfl
  dsimp only at hx K X D
  refine wpAny_bind (wpAny_pure (wpAny_bind (wpAny_bind (wpAny_loadPart hx (wpAny_bind (lc.here ?_))))))
  refine wpAny_pure (a := some dx) (wpAny_bind (wpAny_pure (wpAny_bind ?_)))
  unfold nsSet
  refine wpAny_bind (wpAny_bind (wpAny_askSetting (wpAny_pure (wpAny_bind (wpAny_mkText (wpAny_bind (wpAny_loadPart D ?_)))))))
  dsimp only
  rw [aRefKeyMayBeTheName_at, show ((!(#[ent w.params (Str.ofString "what") t1 v1] : Array DictEntry).any (·.key.isStr (Str.ofString "at")) && (#[ent w.params (Str.ofString "what") t1 v1] : Array DictEntry).any (·.refKey)) = false) by rw [← Array.any_toList, ← Array.any_toList]; rfl]
  refine wpAny_updatePart D ?_
  have e1 : Obj.putName (Str.ofString "at") (PyData.keyHash w.params (Str.ofString "at")) (.str (Str.ofString "at") (t + 1)) v (dictOf [ent w.params (Str.ofString "what") t1 v1] 1) = dictOf [ent w.params (Str.ofString "what") t1 v1, ent w.params (Str.ofString "at") (t + 1) v] 2 := by
    rw [putName_dict]; rfl
  have D' : (hh.update dx (Obj.putName (Str.ofString "at") (PyData.keyHash w.params (Str.ofString "at")) (.str (Str.ofString "at") (t + 1)) v)).get? dx = some (dictOf [ent w.params (Str.ofString "what") t1 v1, ent w.params (Str.ofString "at") (t + 1) v] 2) := by
    rw [← e1]; exact Heap.get?_update_self _ D rfl
  refine wpAny_bind (wpAny_lookBehind D' (pastItsLine_dict (by show 2 ≤ sizeLine + 1; rw [sizeLine_eq]; omega)) ?_)
  exact wpAny_pure (K _ D' fun b o hb e => by rw [Heap.get?_update_other _ _ (Ne.symm hb)]; exact e)
end
end Mine
end

noncomputable section
open PySem PySem.W PyProof.Rows PySem.Calls PySem.Spec
set_option Elab.async false
set_option linter.unusedVariables false
namespace Mine
set_option maxRecDepth 100000
set_option maxHeartbeats 1000000
section
variable {P : Params} {prog : Program} {w : World} {A : Around} {E : Value → Shared → Prop} {h : Heap} {g : Array GenState} {d : Drawn} {t : Nat} {os : OsState}
/-- Exception.__init__ of a CopyFault -/
theorem flt_init {x f0 : Addr} {v : Value} {Q : Value → Shared → Prop} (X : (KM P).In h) (hx : h.get? x = some ⟨.ref 53, none, .fields #[.ref f0, .none, .none, .none, .bool false, .none], #[]⟩)
    (K : ∀ h', h'.get? x = some ⟨.ref 53, none, .fields #[.ref h.objs.size, .none, .none, .none, .bool false, .none], #[]⟩ → (∀ b o, b ≠ x → h.get? b = some o → h'.get? b = some o) → Q .none ⟨h', g, d, t, os⟩) : wpAny (model prog w) A (call (.builtin "Exception.__init__") [.ref x, v]) Q E ⟨h, g, d, t, os⟩ := by
  have hC := X 53 _ rfl
  have e : ∃ nm q N bs bm hdct sn sub ab col dd k0 k1 k2 k3 k5, h.get? 53 = some (excClassObj nm q 53 N bs bm hdct sn sub ab col dd k0 k1 k2 k3 k5 "Exception.__new__") ∧ (Value.ref 53 :: bm).contains (.type "Exception") = true :=
    ⟨_, _, _, _, _, _, _, _, _, _, _, _, _, _, _, _, hC, by decide +kernel⟩
  clear hC
  obtain ⟨nm, q, N, bs, bm, hdct, sn, sub, ab, col, dd, k0, k1, k2, k3, k5, hC, hB⟩ := e
  have F := F.excBase_Exception
  refine wpAny_call (codeAny_call_builtin F.init.plain F.initEntry ?_)
  have hshort := F.noStar
  simp only [checkBuiltinCall, F.initKind, F.initSplit, F.initRow]
  repeat (first | (with_reducible refine wpAny_loadPart_at hx ?_) | with_reducible refine wpAny_loadPart_at hC ?_ | (with_reducible refine wpAny_isSubtype_exc hC ?_; rw [hB]) | wp_step)
  wp_walk
  exact K _ (Heap.get?_update_self _ (Heap.get?_push_of_some _ hx) rfl) fun b o hb e => by rw [Heap.get?_update_other _ _ (Ne.symm hb)]; exact Heap.get?_push_of_some _ e
end
noncomputable abbrev flt0 (f0 : Addr) (d : Option Addr) : Obj := ⟨.ref 53, d, .fields #[.ref f0, .none, .none, .none, .bool false, .none], #[]⟩
section
variable {w : World} {A : Around} {E : Value → Shared → Prop} {s : Shared} {g h h' : Heap} {L x f0 dx : Addr} {m : Str → Option Value} {news : List (Addr × Obj)} {v : Value}
theorem frx {o : Obj} (F : Fr g L h m) (N : News g L h ((x, o) :: news)) (hs : ∀ b o, b ≠ x → h.get? b = some o → h'.get? b = some o) : Fr g L h' m :=
  have hn := N (x, o) (.head _)
  ⟨F.ns.at' fun o e => hs _ o (Ne.symm hn.2.1) e, fun b o e => hs b o (fun z => by rw [z, hn.2.2] at e; cases e) (F.keep b o e), F.above⟩
theorem nwx {o o' : Obj} (N : News g L h ((x, o) :: news)) (hx : h'.get? x = some o') (hne : ∀ p ∈ news, p.1 ≠ x) (hs : ∀ b o, b ≠ x → h.get? b = some o → h'.get? b = some o) : News g L h' ((x, o') :: news) := fun p hp => by
  rcases List.mem_cons.mp hp with rfl | hp
  · exact ⟨hx, (N (x, o) (.head _)).2⟩
  · have := N p (.tail _ hp)
    exact ⟨hs _ _ (hne p hp) this.1, this.2⟩
theorem init_N {Q : Value → Shared → Prop} (F : Fr g L s.heap m) (X : (KM w.params).In g) (N : News g L s.heap ((x, flt0 f0 none) :: news)) (hne : ∀ p ∈ news, p.1 ≠ x)
    (K : ∀ h' t0, Fr g L h' m → News g L h' ((x, flt0 t0 none) :: news) → Q .none { s with heap := h' }) : wpAny (model prog0 w) A (call (.builtin "Exception.__init__") [.ref x, v]) Q E s := by
  obtain ⟨hh, gg, dr, t, os⟩ := s
  exact flt_init (X.keeps F.keep) (N _ (.head _)).1 fun h' hx hs => K h' _ (frx F N hs) (nwx N hx hne hs)
theorem what_N {Q : Unit → Shared → Prop} (F : Fr g L s.heap m) (X : (KM w.params).In g) (N : News g L s.heap ((x, flt0 f0 none) :: news)) (hne : ∀ p ∈ news, p.1 ≠ x)
    (K : ∀ h' dx t1, Fr g L h' m → News g L h' ((x, flt0 f0 (some dx)) :: (dx, dictOf [ent w.params (Str.ofString "what") t1 v] 1) :: news) → (∀ p ∈ news, p.1 < dx) → x < dx → Q () { s with heap := h', toks := s.toks + 2 }) : wpAny (model prog0 w) A (setAttr (.ref x) (Str.ofString "what") v) Q E s := by
  refine set_new (X.keeps F.keep) (N _ (.head _)).1 rfl fun h' hx hd hs => ?_
  have lt : ∀ p ∈ ((x, flt0 f0 none) :: news), p.1 < s.heap.objs.size := fun p hp => Heap.lt_size (N p hp).1
  have N₁ := nwx N hx hne hs
  refine K h' s.heap.objs.size (s.toks + 1) (frx F N hs) (fun p hp => ?_) (fun p hp => lt p (.tail _ hp)) (lt _ (.head _))
  rcases List.mem_cons.mp hp with rfl | hp
  · exact N₁ _ (.head _)
  · rcases List.mem_cons.mp hp with rfl | hp
    · refine ⟨hd, fun z => absurd F.ns.lt (Nat.not_lt.mpr (Nat.le_of_eq z)), ?_⟩
      cases q : g.get? s.heap.objs.size with
      | none => rfl
      | some o => exact absurd (Heap.lt_size (F.keep _ _ q)) (Nat.lt_irrefl _)
    · exact N₁ _ (.tail _ hp)
theorem at_N {t1 : Tok} {v1 : Value} {Q : Unit → Shared → Prop} (F : Fr g L s.heap m) (X : (KM w.params).In g) (N : News g L s.heap ((x, flt0 f0 (some dx)) :: (dx, dictOf [ent w.params (Str.ofString "what") t1 v1] 1) :: news)) (hne : ∀ p ∈ news, p.1 < dx) (hxd : x < dx)
    (K : ∀ h' t3, Fr g L h' m → News g L h' ((x, flt0 f0 (some dx)) :: (dx, dictOf [ent w.params (Str.ofString "what") t1 v1, ent w.params (Str.ofString "at") t3 v] 2) :: news) → Q () { s with heap := h', toks := s.toks + 2 }) : wpAny (model prog0 w) A (setAttr (.ref x) (Str.ofString "at") v) Q E s := by
  refine set_two (X.keeps F.keep) (N _ (.head _)).1 (N _ (.tail _ (.head _))).1 fun h' hd hs => ?_
  have N' : News g L s.heap ((dx, dictOf [ent w.params (Str.ofString "what") t1 v1] 1) :: (x, flt0 f0 (some dx)) :: news) := fun p hp => N p (by
    rcases List.mem_cons.mp hp with rfl | hp
    · exact .tail _ (.head _)
    · rcases List.mem_cons.mp hp with rfl | hp
      · exact .head _
      · exact .tail _ (.tail _ hp))
  have N₁ := nwx N' hd (fun p hp => by
    rcases List.mem_cons.mp hp with rfl | hp
    · exact Nat.ne_of_lt hxd
    · exact Nat.ne_of_lt (hne p hp)) hs
  refine K h' (s.toks + 1) (frx F N' hs) fun p hp => N₁ p ?_
  rcases List.mem_cons.mp hp with rfl | hp
  · exact .tail _ (.head _)
  · rcases List.mem_cons.mp hp with rfl | hp
    · exact .head _
    · exact .tail _ (.tail _ hp)
end
end Mine
end

noncomputable section
open PySem PySem.W PyProof.Rows PySem.Calls
set_option Elab.async false
set_option linter.unusedVariables false
namespace Mine
set_option maxRecDepth 100000
set_option maxHeartbeats 1000000
theorem fill_K10 : (law1, KM) = (law1, KM) := by
  k_fill
  rfl
section
variable {w : World} {A : Around} {env : Env} {outer : List Env} {h₀ : Heap} {L : Addr} {m : Str → Option Value} {news imm : List (Addr × Obj)} {s : Shared} {Q E : Value → Shared → Prop}
theorem init_stmt {prog : Program} {fe : Expr} {name : Str} {pa pc pos : Pos} {args : List Expr} {rest : List Stmt} {Q : Flow → Shared → Prop} (h : wpAny (model prog w) A (eval fe env) (fun ov s₁ => ∀ pl, wpAny (model prog w) A (getMethod ov name pl) (fun fx s₂ => wpAny (model prog w) A (callWith pc fx.1 fx.2 (backTo pc (starEach args env)) []) (fun _ s₃ => wpAny (model prog w) A (execs rest env) Q E s₃) E s₂) E s₁) E s)
    (h1 : methodCallForm (args.length + ([] : List Keyword).length) (backTo pc (starEach args env)) (backToKw pc (keywordEach [] env)) = true) (h2 : (pa.endLine == pc.line) = true) (h3 : attributeBase fe name env (eval fe env) = eval fe env) (hi : interactive env = false) (hs : swapsWith (.Call (.Attribute fe name pa) args [] pc) none pos.line env = pure false) :
    wpAny (model prog w) A (execs (.Expr (.Call (.Attribute fe name pa) args [] pc) pos :: rest) env) Q E s := by
  obtain ⟨pl, hc'⟩ := mc_name (fe := fe) (name := name) (p1 := pa) h1 h2 h3
  exact wpAny_execs_cons (wpAny_Expr_any (MethodCall_ (wpAny_mono h (fun _ _ k => k pl) fun _ _ e => e) hc') hi hs)
theorem make_flt1 {x : Str} {u : Tok}  (C : Cx w A env outer h₀ L m s.heap) (R : Room 3 A) (N : News h₀ L s.heap news)
   (ret : ∀ h' tk' e f0 dx t1 t3, Fr h₀ L h' m → News h₀ L h' ((e, flt0 f0 (some dx)) :: (dx, edict w.params x 22 t1 u t3) :: news) → (∀ p ∈ news, p.1 < e) → e < dx → Q (Value.ref e) { s with heap := h', toks := tk' })
  : wpAny (model prog0 w) A (call (.ref 53) [.str x u]) Q E s := by
  obtain ⟨⟨A₀, base, B⟩, F, X, ⟨p, loose, mean, mg, mb, T⟩, fr, lo, fn, hd⟩ := C
  obtain ⟨hh, gg, dr, t, os⟩ := s
  have lt : ∀ p ∈ news, p.1 < hh.objs.size := fun p hp => Heap.lt_size (N p hp).1
  refine flt_call (X.keeps F.keep) (Nat.le_trans (Nat.le_of_ble_eq_true rfl : _ ≤ 10) (by decide)) fun h1 e1 => wpAny_call ?_
  have F1 : Fr h₀ L h1 m := by rw [e1]; exact (F.push _).push _
  have N1 : News h₀ L h1 ((hh.objs.size + 1, flt0 hh.objs.size none) :: news) := by
    rw [e1]
    have := News.push (F.push (tupObj [.str x u])) (News.push F N (tupObj [.str x u])) (flt0 hh.objs.size none)
    rw [Heap.size_push] at this
    exact fun p hp => this p ((List.mem_cons.mp hp).elim (fun e => e ▸ .head _) fun h => .tail _ (.tail _ h))
  have le : ∀ p ∈ news, p.1 < hh.objs.size + 1 := fun p hp => Nat.lt_succ_of_lt (lt p hp)
  clear e1
  generalize hh.objs.size + 1 = e at *
  have ne : ∀ p ∈ news, p.1 ≠ e := fun p hp => Nat.ne_of_lt (le p hp)
  refine' code_def (binds := [(Str.ofString "self", .ref e), (Str.ofString "what", .str x u), (Str.ofString "at", .ref 22)]) B F1 X N1 T ?kA lo fn ?k6 ?k7 ?k8 ?k9 ?kB ?_ ?c2 ?c3 ?c4 ?c5; (case kA => exact fr); (case k6 => exact rfl); (case k7 => exact rfl); (case k8 => rw [depth_under_make]; have := R.dp; omega); (case k9 => exact binds_K (X.keeps F1.keep) rfl rfl rfl rfl rfl); (case c5 => decide); (case kB => exact locs rfl); (case c2 => exact rfl); (case c3 => exact rfl); (case c4 => exact rfl)
  intro g' L' h' FG' F' N' B' X' T'
  generalize hh.objs.size = f0 at N'
  dsimp only at *
  refine (?hh : ∀ (P : Flow → Shared → Prop) (E' : Value → Shared → Prop), (∀ h' tk' f0 dx t1 t3, Fr g' L' h' (fun y => List.lookup y [(Str.ofString "self", .ref e), (Str.ofString "what", .str x u), (Str.ofString "at", .ref 22)].reverse) → News g' L' h' ((e, flt0 f0 (some dx)) :: (dx, edict w.params x 22 t1 u t3) :: news) → (∀ p ∈ news, p.1 < dx) → e < dx → P .next ⟨h', gg, dr, tk', os⟩) → wpAny (model prog0 w) _ (execs _ _) P E' _) _ _ ?_
  case hh =>
    clear ret FG' B' N1 F1 N R B F
    intro P E' ret'
    refine init_stmt ?_ rfl rfl rfl rfl rfl
    have T2 := topRead_of T'
    refine Name_function_global rfl rfl (loadGlobal_builtin (T2.g.keeps F'.keep) (mg_none_of X' T2.g rfl) (T2.b.keeps F'.keep) ((T2.builtins _ (by decide)).trans (rfl : bootBuiltins (Str.ofString "Exception") = some (.type "Exception"))) ?_) (by decide)
    intro pl
    show wpAny _ _ (getMethod (.type "Exception") _ _) _ _ _
    refine method_type (v := .builtin "Exception.__init__") F' X' ?m1 ?m2 ?m3 ?m4 ?_
    case m1 => kernel_rfl
    case m2 => kernel_rfl
    case m3 => rfl
    case m4 => rfl
    dsimp only
    repeat' (first | (refine' init_N ?k1 ?k2 ?k3 ?k4 ?_; (case k1 => k_asm); (case k2 => exact X'); (case k3 => k_asm); (case k4 => exact ne); intro h' t0 F' N'; (try dsimp only)) | (refine' what_N ?j1 ?j2 ?j3 ?j4 ?_; (case j1 => k_asm); (case j2 => exact X'); (case j3 => k_asm); (case j4 => exact ne); intro h' dx t1 F' N' l1 l2; (try dsimp only)) | (refine' at_N ?i1 ?i2 ?i3 ?i4 ?i5 ?_; (case i1 => k_asm); (case i2 => exact X'); (case i3 => k_asm); (case i4 => assumption); (case i5 => assumption); intro h' t3 F' N'; (try dsimp only)) | walk1 | (dsimp only; walk1))
    exact ret' _ _ _ _ _ _ F' N' l1 l2
  · intro h2 tk2 f0 dx t1 t3 F2 N2 l1 l2
    exact leaveK_ F2 N2 fun kF kN => ⟨rfl, ret _ _ _ _ _ _ _ kF kN le l2⟩
theorem make_flt2 {x : Str} {u : Tok} {ta : Addr} (C : Cx w A env outer h₀ L m s.heap) (R : Room 3 A) (N : News h₀ L s.heap news)
   (ret : ∀ h' tk' e f0 dx t1 t3, Fr h₀ L h' m → News h₀ L h' ((e, flt0 f0 (some dx)) :: (dx, edict w.params x ta t1 u t3) :: news) → (∀ p ∈ news, p.1 < e) → e < dx → Q (Value.ref e) { s with heap := h', toks := tk' })
  : wpAny (model prog0 w) A (call (.ref 53) [.str x u, .ref ta]) Q E s := by
  obtain ⟨⟨A₀, base, B⟩, F, X, ⟨p, loose, mean, mg, mb, T⟩, fr, lo, fn, hd⟩ := C
  obtain ⟨hh, gg, dr, t, os⟩ := s
  have lt : ∀ p ∈ news, p.1 < hh.objs.size := fun p hp => Heap.lt_size (N p hp).1
  refine flt_call (X.keeps F.keep) (Nat.le_trans (Nat.le_of_ble_eq_true rfl : _ ≤ 10) (by decide)) fun h1 e1 => wpAny_call ?_
  have F1 : Fr h₀ L h1 m := by rw [e1]; exact (F.push _).push _
  have N1 : News h₀ L h1 ((hh.objs.size + 1, flt0 hh.objs.size none) :: news) := by
    rw [e1]
    have := News.push (F.push (tupObj [.str x u, .ref ta])) (News.push F N (tupObj [.str x u, .ref ta])) (flt0 hh.objs.size none)
    rw [Heap.size_push] at this
    exact fun p hp => this p ((List.mem_cons.mp hp).elim (fun e => e ▸ .head _) fun h => .tail _ (.tail _ h))
  have le : ∀ p ∈ news, p.1 < hh.objs.size + 1 := fun p hp => Nat.lt_succ_of_lt (lt p hp)
  clear e1
  generalize hh.objs.size + 1 = e at *
  have ne : ∀ p ∈ news, p.1 ≠ e := fun p hp => Nat.ne_of_lt (le p hp)
  refine' code_def (binds := [(Str.ofString "self", .ref e), (Str.ofString "what", .str x u), (Str.ofString "at", .ref ta)]) B F1 X N1 T ?kA lo fn ?k6 ?k7 ?k8 ?k9 ?kB ?_ ?c2 ?c3 ?c4 ?c5; (case kA => exact fr); (case k6 => exact rfl); (case k7 => exact rfl); (case k8 => rw [depth_under_make]; have := R.dp; omega); (case k9 => exact binds_K (X.keeps F1.keep) rfl rfl rfl rfl rfl); (case c5 => decide); (case kB => exact locs rfl); (case c2 => exact rfl); (case c3 => exact rfl); (case c4 => exact rfl)
  intro g' L' h' FG' F' N' B' X' T'
  generalize hh.objs.size = f0 at N'
  dsimp only at *
  refine (?hh : ∀ (P : Flow → Shared → Prop) (E' : Value → Shared → Prop), (∀ h' tk' f0 dx t1 t3, Fr g' L' h' (fun y => List.lookup y [(Str.ofString "self", .ref e), (Str.ofString "what", .str x u), (Str.ofString "at", .ref ta)].reverse) → News g' L' h' ((e, flt0 f0 (some dx)) :: (dx, edict w.params x ta t1 u t3) :: news) → (∀ p ∈ news, p.1 < dx) → e < dx → P .next ⟨h', gg, dr, tk', os⟩) → wpAny (model prog0 w) _ (execs _ _) P E' _) _ _ ?_
  case hh =>
    clear ret FG' B' N1 F1 N R B F
    intro P E' ret'
    refine init_stmt ?_ rfl rfl rfl rfl rfl
    have T2 := topRead_of T'
    refine Name_function_global rfl rfl (loadGlobal_builtin (T2.g.keeps F'.keep) (mg_none_of X' T2.g rfl) (T2.b.keeps F'.keep) ((T2.builtins _ (by decide)).trans (rfl : bootBuiltins (Str.ofString "Exception") = some (.type "Exception"))) ?_) (by decide)
    intro pl
    show wpAny _ _ (getMethod (.type "Exception") _ _) _ _ _
    refine method_type (v := .builtin "Exception.__init__") F' X' ?m1 ?m2 ?m3 ?m4 ?_
    case m1 => kernel_rfl
    case m2 => kernel_rfl
    case m3 => rfl
    case m4 => rfl
    dsimp only
    repeat' (first | (refine' init_N ?k1 ?k2 ?k3 ?k4 ?_; (case k1 => k_asm); (case k2 => exact X'); (case k3 => k_asm); (case k4 => exact ne); intro h' t0 F' N'; (try dsimp only)) | (refine' what_N ?j1 ?j2 ?j3 ?j4 ?_; (case j1 => k_asm); (case j2 => exact X'); (case j3 => k_asm); (case j4 => exact ne); intro h' dx t1 F' N' l1 l2; (try dsimp only)) | (refine' at_N ?i1 ?i2 ?i3 ?i4 ?i5 ?_; (case i1 => k_asm); (case i2 => exact X'); (case i3 => k_asm); (case i4 => assumption); (case i5 => assumption); intro h' t3 F' N'; (try dsimp only)) | walk1 | (dsimp only; walk1))
    exact ret' _ _ _ _ _ _ F' N' l1 l2
  · intro h2 tk2 f0 dx t1 t3 F2 N2 l1 l2
    exact leaveK_ F2 N2 fun kF kN => ⟨rfl, ret _ _ _ _ _ _ _ kF kN le l2⟩
end
end Mine
end

noncomputable section
open PySem PySem.W PyProof.Rows PySem.Calls PySem.Spec
set_option Elab.async false
set_option linter.unusedVariables false
namespace Mine
set_option maxRecDepth 100000
set_option maxHeartbeats 1000000
section
variable {fi : Fi} {L : Addr} {c : Fc fi L} {δ : Loc} {τ : Tm} {μ : Mus} {h h' : Heap} {m : Str → Option Value} {imm mu : Led}
theorem St.fault {e f0 dx ta : Addr} {x : Str} {t1 u t3 : Tok} {j : Int} (s : Sep mu imm) (l : LocIn c.P imm m δ) (tm : TmIn c.P imm τ) (uu : MuIn c.P imm mu μ) (F' : Fr c.g c.L h' m) (N' : News c.g c.L h' ((e, flt0 f0 (some dx)) :: (dx, edict c.P x ta t1 u t3) :: (mu ++ imm))) (l1 : ∀ p ∈ mu ++ imm, p.1 < e) (l2 : e < dx) (ha : AtIn imm ta j) :
    St c δ (τ.add (.ref e) (.obj e)) ((e, .exc j) :: μ) h' := by
  have sub : ∀ p ∈ imm, p ∈ (dx, edict c.P x ta t1 u t3) :: imm := fun _ q => .tail _ q
  refine ⟨m, (dx, edict c.P x ta t1 u t3) :: imm, (e, flt0 f0 (some dx)) :: mu, F', fun p hp => N' p ?_, ⟨fun p hp q hq => ?_, List.nodup_cons.mpr ⟨fun q => ?_, s.nd⟩⟩, l.mono sub, (tm.mono sub).add (.obj e), rfl, ⟨_, dx, ta, x, t1, u, t3, rfl, rfl, rfl, .head _, ha.elim .inl fun ⟨z, t, w, k⟩ => .inr ⟨z, t, w, sub _ k⟩, rfl⟩, uu.mono sub⟩
  · rcases List.mem_cons.mp hp with rfl | hp
    · exact .head _
    · rcases List.mem_append.mp hp with hp | hp
      · exact .tail _ (.tail _ (List.mem_append.mpr (.inl hp)))
      · rcases List.mem_cons.mp hp with rfl | hp
        · exact .tail _ (.head _)
        · exact .tail _ (.tail _ (List.mem_append.mpr (.inr hp)))
  · rcases List.mem_cons.mp hq with rfl | hq
    · rcases List.mem_cons.mp hp with rfl | hp
      · exact Nat.ne_of_lt l2
      · exact Nat.ne_of_lt (Nat.lt_trans (l1 p (List.mem_append.mpr (.inl hp))) l2)
    · rcases List.mem_cons.mp hp with rfl | hp
      · exact fun z => absurd (l1 q (List.mem_append.mpr (.inr hq))) (by rw [← z]; exact Nat.lt_irrefl _)
      · exact s.off p hp q hq
  · obtain ⟨p, hp, z⟩ := List.mem_map.mp q
    exact absurd (l1 p (List.mem_append.mpr (.inl hp))) (by rw [z]; exact Nat.lt_irrefl _)
end
theorem new_fault1 {x : Str} : FuF 3 (.ref 53) [] [.str x] (-1) := by
  intro fi L c δ τ ν vals Q E h tk R t S K KX
  obtain ⟨v, rfl, hv⟩ := t.one
  obtain ⟨u, rfl⟩ := S.isStr hv
  obtain ⟨m, imm, mu, F, N, s, l, tm, uu⟩ := S
  refine make_flt1 (s := c.st h tk) ⟨c.B, F, c.X, c.T, c.fr, rfl, c.fn, c.hd⟩ R N fun h' tk' e f0 dx t1 t3 F' N' l1 l2 => ?_
  exact K _ _ _ h' tk' ⟨e, rfl⟩ (St.fault s l tm uu F' N' l1 l2 (.inl ⟨rfl, rfl⟩))
theorem new_fault2 {x : Str} {j : Int} (hj : 0 ≤ j) : FuF 3 (.ref 53) [] [.str x, .tuple [.int 3, .int j]] j := by
  intro fi L c δ τ ν vals Q E h tk R t S K KX
  obtain ⟨v, w, rfl, hv, hw⟩ := t.two
  obtain ⟨u, rfl⟩ := S.isStr hv
  obtain ⟨m, imm, mu, F, N, s, l, tm, uu⟩ := S
  have q := tm _ _ hw
  cases q with
  | @tuple ta _ _ hm r' =>
    cases r' with
    | cons a r' => cases r' with
      | cons b r' =>
        cases r'; cases a; cases b
        refine make_flt2 (s := c.st h tk) ⟨c.B, F, c.X, c.T, c.fr, rfl, c.fn, c.hd⟩ R N fun h' tk' e f0 dx t1 t3 F' N' l1 l2 => ?_
        exact K _ _ _ h' tk' ⟨e, rfl⟩ (St.fault s l tm uu F' N' l1 l2 (.inr ⟨hj, _, _, hm⟩))
end Mine
end

noncomputable section
open PySem PySem.W PyProof.Rows PySem.Calls PySem.Spec
set_option Elab.async false
set_option linter.unusedVariables false
namespace Mine
set_option maxRecDepth 100000
set_option maxHeartbeats 8000000
/-- expressions, one after the other, of which one raises -/
def ERs (n : Nat) (fi : Fi) (L : Addr) (ev : Env) (δ : Loc) (μ : Mus) (es : List Expr) (j : Int) : Prop :=
  ∀ (c : Fc fi L) (τ : Tm) (ν : Mus) (pos : Pos) (Q : List Value → Shared → Prop) (E : Value → Shared → Prop) (h : Heap) (tk : Nat), Room n c.A → St c δ τ (μ ++ ν) h →
    (∀ x h' tk', Fly c δ τ ν x j h' → E (.ref x) (c.st h' tk')) → wpAny (model prog0 c.w) c.A (spliced (backTo pos (starEach es ev))) Q E (c.st h tk)
section
variable {n k : Nat} {fi : Fi} {L : Addr} {ev : Env} {c : Fc fi L} {δ δ' : Loc} {τ τ' : Tm} {μ μ₀ μ₁ μ₂ μ' ν : Mus} {d d₁ d₂ : Dt} {ds : List Dt} {b : Bool} {pos p1 p2 : Pos} {x y : Str} {e e₁ e₂ : Expr} {es : List Expr} {f : Addr} {fv : Value} {first : List Value} {i j : Int} {h h' : Heap} {tk : Nat} {Q E : Value → Shared → Prop} {rest : List Stmt} {O : Out → Prop} {a : Addr} {k₁ k₂ : Mo}
theorem ersHere (h₁ : ER n fi L ev δ μ e j) (he : ∀ env, starEach (e :: es) env = (false, eval e env) :: starEach es env := by intro _; rfl) : ERs n fi L ev δ μ (e :: es) j :=
  fun c τ ν pos Q E h tk R S K => wpAny_items_cons (h₁ c τ ν _ _ h tk R S K) (he _)
theorem ersNext (h₁ : ED n fi L ev δ μ e μ₁ d) (h₂ : ERs n fi L ev δ μ₁ es j) (he : ∀ env, starEach (e :: es) env = (false, eval e env) :: starEach es env := by intro _; rfl) : ERs n fi L ev δ μ (e :: es) j :=
  fun c τ ν pos Q E h tk R S K => wpAny_items_cons (h₁ c τ ν _ _ h tk R S fun v h' tk' S' => h₂ c _ ν _ _ _ h' tk' R S' fun x h'' tk'' X => K x h'' tk'' (X.weaken (fun _ _ e => e) fun _ _ e => .inr e)) (he _)
theorem eTupX {k : Nat} (h₁ : ERs n fi L ev δ μ es j) : ER n fi L ev δ μ (.Tuple es k pos) j := fun c τ ν Q E h tk R S K => wpAny_Tuple (h₁ c τ ν _ _ _ h tk R S K)
theorem eLstX (h₁ : ERs n fi L ev δ μ es j) : ER n fi L ev δ μ (.List es pos) j := fun c τ ν Q E h tk R S K => wpAny_List (h₁ c τ ν _ _ _ h tk R S K)
theorem oInS {xs : List Str} (hd : kqdOk 8 (.str x) = true) (hx : xs.all (fun y => kqdOk 8 (.str y)) = true) : Op2 n .In (.str x) (.tuple (xs.map .str)) (.bool (xs.contains x)) :=
  oIn hd (fun d hm => by obtain ⟨y, hy, rfl⟩ := List.mem_map.mp hm; exact List.all_eq_true.mp hx y hy) (by
    rw [List.contains_iff_mem]
    exact ⟨fun q => ⟨_, List.mem_map_of_mem q, rfl⟩, fun ⟨y, hy, e⟩ => by obtain ⟨z, hz, rfl⟩ := List.mem_map.mp hy; injection e with e; exact e ▸ hz⟩)
theorem oNotInS {xs : List Str} (hd : kqdOk 8 (.str x) = true) (hx : xs.all (fun y => kqdOk 8 (.str y)) = true) : Op2 n .NotIn (.str x) (.tuple (xs.map .str)) (.bool (!xs.contains x)) :=
  oNotIn hd (fun d hm => by obtain ⟨y, hy, rfl⟩ := List.mem_map.mp hm; exact List.all_eq_true.mp hx y hy) (by
    rw [Bool.not_eq_true', ← Bool.not_eq_true, List.contains_iff_mem]
    exact not_congr ⟨fun q => ⟨_, List.mem_map_of_mem q, rfl⟩, fun ⟨y, hy, e⟩ => by obtain ⟨z, hz, rfl⟩ := List.mem_map.mp hy; injection e with e; exact e ▸ hz⟩)
theorem edPerm (hp : μ₁.Perm μ₂) (h : ED n fi L ev δ μ e μ₁ d) : ED n fi L ev δ μ e μ₂ d := fun c τ ν Q E hh tk R S K => h c τ ν Q E hh tk R S fun v h' tk' S' => K v h' tk' (S'.perm (hp.append_right ν))
/-- a list that == [] -/
theorem oEqNil (hb : ds.isEmpty = b) : Op2 n .Eq (.list ds) (.list []) (.bool b) := by
  intro fi L c δ τ μ a b' Q E h tk R ha hb' S K
  obtain ⟨l, vs, rfl, hl, hn, -⟩ := S.list ha
  obtain ⟨l', vs', rfl, hl', hn', -⟩ := S.list hb'
  have hu : c.A.units < cLine := by have := R.un; omega
  have K' := K (.bool b) h tk (S.hold fun _ _ _ _ _ _ _ _ => .bool _)
  show wpAny _ _ (richCompare .Eq (.ref l) (.ref l')) Q E (c.st h tk)
  obtain rfl : vs' = [] := List.eq_nil_of_length_eq_zero hn'
  cases ds with
  | nil =>
    obtain rfl : vs = [] := List.eq_nil_of_length_eq_zero hn
    subst hb
    exact SeqAt.RcAt.lists (s := c.st h tk) (e := fun _ => true) hl hl' rfl hu (fun j h1 => absurd h1 (Nat.not_lt_zero _)) _ _ _ _ K'
  | cons d ds =>
    subst hb
    exact SeqAt.RcAt.lists_lengths (s := c.st h tk) hl hl' (by simp [hn]) hu _ _ _ _ K'
theorem eUpper {pa : Pos} (he : ED n fi L ev δ μ e μ₁ (.str x)) (hf : x.length ≤ 5592405) (hb : ∀ env, attributeBase e (Str.ofString "upper") env (eval e env) = eval e env := by intro _; rfl)
    (h1 : ∀ env, methodCallForm (([] : List Expr).length + ([] : List Keyword).length) (backTo pos (starEach ([] : List Expr) env)) (backToKw pos (keywordEach [] env)) = true := by intro _; rfl) (h2 : (pa.endLine == pos.line) = true := by rfl) : ED n fi L ev δ μ (.Call (.Attribute e (Str.ofString "upper") pa) [] [] pos) μ₁ (.str (Txt.upper x)) := by
  intro c τ ν Q E h tk R S K
  obtain ⟨pl, hc'⟩ := mc_name (fe := e) (name := Str.ofString "upper") (p1 := pa) (h1 ev) h2 (hb ev)
  refine MethodCall_ (he c τ ν _ _ h tk R S fun v h' tk' S' => ?_) hc'
  obtain ⟨t, rfl⟩ := S'.isStr (.inl ⟨rfl, rfl⟩)
  refine GM.upper (s := c.st h' tk') ?_
  exact callWith_method0 (SCL.upper (s := c.st h' tk') hf fun _ => K _ _ _ (S'.drop.hold fun _ _ _ _ _ _ _ _ => .str _ _))
theorem eNeg (he : ED n fi L ev δ μ e μ₁ (.int i)) : ED n fi L ev δ μ (.UnaryOp .USub e pos) μ₁ (.int (-i)) := by
  intro c τ ν Q E h tk R S K
  refine UnaryOp_ (he c τ ν _ _ h tk R S fun v h' tk' S' => ?_)
  obtain ⟨t, rfl⟩ := S'.isInt (.inl ⟨rfl, rfl⟩)
  exact neg_int (s := c.st h' tk') (K _ _ _ (S'.drop.hold fun _ _ _ _ _ _ _ _ => .int _ _))
/-- x.append(e): e raises -/
theorem bAppX {px pa pc : Pos} (he : ER n fi L (fi.env L) δ μ e j) (hx : fi.sc.names.lookup x = some .local) (hd : δ.lookup x = some (.obj a)) (h : O (.exc δ j)) (hm : ∃ k, (a, Mo.lst k) ∈ μ)
    (hi : ∀ L, interactive (fi.env L) = false := by intro _; rfl) (hs : ∀ env, swapsWith (.Call (.Attribute (.Name x px) (Str.ofString "append") pa) [e] [] pc) none pos.line env = pure false := by intro _; rfl) (hp : ∀ p env, (backTo p (starEach ([] : List Expr) env)).any (·.1) = false := by intro _ _; rfl)
    (he' : ∀ env, starEach [e] env = (false, eval e env) :: starEach [] env := by intro _; rfl) (h1 : ∀ env, methodCallForm (([e] : List Expr).length + ([] : List Keyword).length) (backTo pc (starEach [e] env)) (backToKw pc (keywordEach [] env)) = true := by intro _; rfl) (h2 : (pa.endLine == pc.line) = true := by rfl)
    (hb' : (x == ("__debug__" : Str)) = false := by decide) : Bd n fi L δ μ (.Expr (.Call (.Attribute (.Name x px) (Str.ofString "append") pa) [e] [] pc) pos :: rest) O := by
  intro c τ ν Q E hh tk R S kr kn ke
  obtain ⟨pl, hc'⟩ := mc_name (fe := .Name x px) (name := Str.ofString "append") (p1 := pa) (h1 (fi.env L)) h2 rfl
  refine wpAny_execs_cons (wpAny_Expr_any (MethodCall_ (eName hx hd hb' c τ ν _ _ hh tk R S fun v h' tk' S' => ?_) hc') (hi _) (hs _))
  obtain rfl := S'.isObj (.inl ⟨rfl, rfl⟩)
  obtain ⟨kk, hm⟩ := hm
  obtain ⟨o, ho, vs0, n0, rfl⟩ : ∃ o, h'.get? a = some o ∧ ∃ (vs : Array Value) (n : Nat), o = listOf vs n := by
    obtain ⟨m, imm, mu, F, N, s, l, t, u⟩ := S'
    obtain ⟨o, ho, vs, n, e, _⟩ := u.mem (List.mem_append.mpr (.inl hm))
    exact ⟨o, (N _ (List.mem_append.mpr (.inl ho))).1, _, n, e⟩
  refine Calls.getMethod_list_append ho rfl rfl ?_
  exact callWith_method1 (args_cons (he c τ ν _ _ h' tk' R S'.drop fun x h'' tk'' X => ke x δ j h'' tk'' h X) (he' _)) (he' _) (hp _ _)
end
end Mine
end

noncomputable section
open PySem PySem.W PyProof.Rows PySem.Calls PySem.Spec
set_option Elab.async false
set_option linter.unusedVariables false
namespace Mine
set_option maxRecDepth 100000
/-- what the parser answers, in plain words -/
abbrev rPs : Row := (Str.ofString "pseudo", Str.ofString "==")
abbrev rCopy : Row := (Str.ofString "word", Str.ofString "COPY")
abbrev rBy : Row := (Str.ofString "word", Str.ofString "BY")
abbrev rDot : Row := (Str.ofString "sign", Str.ofString ".")
abbrev rOf : Row := (Str.ofString "word", Str.ofString "OF")
abbrev rIn : Row := (Str.ofString "word", Str.ofString "IN")
abbrev rRep : Row := (Str.ofString "word", Str.ofString "REPLACING")
abbrev three : List Str := [Str.ofString "word", Str.ofString "number", Str.ofString "literal"]
abbrev two : List Str := [Str.ofString "word", Str.ofString "literal"]
structure Gd (rows : List Row) : Prop where
  len : rows.length < 1000000
  ok : ∀ r ∈ rows, (kqdOk 8 (.str r.1) = true ∧ kqdOk 8 (.str r.2) = true) ∧ r.2.length ≤ 5592405
  up : ∀ r ∈ rows, kqdOk 8 (.str (Txt.upper r.2)) = true
theorem bSub1 {n k : Nat} : Bi2 n .Sub (.int ((k + 1 : Nat) : Int)) (.int 1) (.int (k : Nat)) := by
  have h : Bi2 n .Sub (.int ((k + 1 : Nat) : Int)) (.int 1) (.int (((k + 1 : Nat) : Int) - 1)) := bSub
  rwa [show ((k + 1 : Nat) : Int) - 1 = k by omega] at h
theorem Gd.at {rows : List Row} (g : Gd rows) {i : Nat} {r : Row} (h : rows[i]? = some r) : (kqdOk 8 (.str r.1) = true ∧ kqdOk 8 (.str r.2) = true) ∧ r.2.length ≤ 5592405 := g.ok r (List.mem_of_getElem? h)
/-- where a fault is told -/
noncomputable def tellAt (rows : List Row) (i : Nat) : Int := if rows = [] then -1 else ((min i (rows.length - 1) : Nat) : Int)
theorem tell_in {rows : List Row} {i : Nat} (h : i < rows.length) : tellAt rows i = i := by
  unfold tellAt
  rw [if_neg (by intro e; rw [e] at h; exact absurd h (Nat.not_lt_zero _))]
  congr 1; omega
abbrev Side := List Row × Nat
noncomputable def psR : List Row → Nat → Nat → Except Int Side
  | [], _, N => .error ((N : Int) - 1)
  | r :: rs, k, N => if r = rPs then .ok ([], k + 1) else if r = rCopy then .error k else match psR rs (k + 1) N with
    | .ok p => .ok (r :: p.1, p.2)
    | .error j => .error j
/-- a side: where it begins, its rows, where it ends -/
noncomputable def sideR (rows : List Row) (i : Nat) : Except Int (Nat × Side) := match rows[i]? with
  | none => .error (tellAt rows i)
  | some r => if r = rPs then (match psR (rows.drop (i + 1)) (i + 1) rows.length with | .ok p => .ok (i + 1, p) | .error j => .error j)
    else if three.contains r.1 then .ok (i, [r], i + 1) else .error i
abbrev Pair := (Nat × List Row) × (Nat × List Row)
noncomputable def pairR (rows : List Row) (i : Nat) : Except Int (Pair × Nat) := match sideR rows i with
  | .error j => .error j
  | .ok (a, s, e) => if s = [] then .error (tellAt rows i) else if rows[e]? = some rBy then (match sideR rows (e + 1) with
      | .error j => .error j
      | .ok (a', s', e') => .ok (((a, s), (a', s')), e')) else .error (tellAt rows e)
noncomputable def pairsR (rows : List Row) : Nat → Nat → Except Int (List Pair × Nat)
  | 0, i => .error (tellAt rows i)
  | n + 1, i => match pairR rows i with
    | .error j => .error j
    | .ok (p, e) => if rows[e]? = some rDot then .ok ([p], e + 1) else match pairsR rows n e with
      | .error j => .error j
      | .ok (ps, e') => .ok (p :: ps, e')
noncomputable def copyR (rows : List Row) : Except Int (Str × List Pair × Nat) := match rows[0]? with
  | none => .error (-1)
  | some r => if two.contains r.1 then
      (if (rows[1]? = some rOf ∨ rows[1]? = some rIn) ∧ rows.length = 2 then .error 1 else
        let i := if rows[1]? = some rOf ∨ rows[1]? = some rIn then 3 else 1
        if rows[i]? = some rRep then (match pairsR rows rows.length (i + 1) with
          | .error j => .error j
          | .ok (ps, e) => .ok (Txt.upper r.2, ps, e))
        else if rows[i]? = some rDot then .ok (Txt.upper r.2, [], i + 1) else .error (tellAt rows i))
    else .error 0
noncomputable def sideD (p : Nat × List Row) : Dt := .list (tokDts p.2 p.1)
noncomputable def pairD (p : Pair) : Dt := .tuple [sideD p.1, sideD p.2]
theorem ps_le : ∀ {rs : List Row} {k N : Nat} {p : Side}, psR rs k N = .ok p → k < p.2 ∧ p.2 ≤ k + rs.length ∧ p.1.length + k + 1 = p.2
  | [], _, _, _, h => nomatch h
  | r :: rs, k, N, p, h => by
    unfold psR at h
    split at h
    · cases h; simp
    · split at h
      · cases h
      · split at h
        · rename_i q hq
          cases h
          have := ps_le hq
          simp only [List.length_cons]
          omega
        · cases h
theorem side_le {rows : List Row} {i : Nat} {a : Nat} {s : List Row} {e : Nat} (h : sideR rows i = .ok (a, s, e)) : i < e ∧ e ≤ rows.length ∧ s.length ≤ rows.length := by
  unfold sideR at h
  split at h
  · cases h
  · rename_i r hr
    have hlt := (List.getElem?_eq_some_iff.mp hr).1
    split at h
    · split at h
      · rename_i p hp
        cases h
        have := ps_le hp
        simp only [List.length_drop] at this
        omega
      · cases h
    · split at h
      · cases h; simp; omega
      · cases h
theorem pair_le {rows : List Row} {i : Nat} {p : Pair} {e : Nat} (h : pairR rows i = .ok (p, e)) : i < e ∧ e ≤ rows.length := by
  unfold pairR at h
  split at h
  · cases h
  · rename_i a s e1 h1
    have := side_le h1
    split at h
    · cases h
    · split at h
      · split at h
        · cases h
        · rename_i a' s' e' h2
          cases h
          have := side_le h2
          omega
      · cases h
end Mine
end

noncomputable section
open PySem PySem.W PyProof.Rows PySem.Calls PySem.Spec
set_option Elab.async false
set_option linter.unusedVariables false
namespace Mine
set_option maxRecDepth 100000
set_option maxHeartbeats 8000000

theorem own_at : Own 122 (Str.ofString "at") := ⟨fun P => rfl, fun P => rfl, fun P => rfl⟩
theorem own_tokens : Own 122 (Str.ofString "tokens") := ⟨fun P => rfl, fun P => rfl, fun P => rfl⟩
theorem tkown_kind : Own 187 (Str.ofString "kind") := ⟨fun P => rfl, fun P => rfl, fun P => rfl⟩
theorem tkown_worth : Own 187 (Str.ofString "worth") := ⟨fun P => rfl, fun P => rfl, fun P => rfl⟩
theorem tkown_at : Own 187 (Str.ofString "at") := ⟨fun P => rfl, fun P => rfl, fun P => rfl⟩
theorem meth_is_done : Meth 122 (Str.ofString "is_done") 77 := ⟨fun P => rfl, fun P => rfl, fun P => rfl, fun P => rfl⟩
theorem meth_peek : Meth 122 (Str.ofString "peek") 84 := ⟨fun P => rfl, fun P => rfl, fun P => rfl, fun P => rfl⟩
theorem meth_stands : Meth 122 (Str.ofString "stands") 91 := ⟨fun P => rfl, fun P => rfl, fun P => rfl, fun P => rfl⟩
theorem meth_skip : Meth 122 (Str.ofString "skip") 98 := ⟨fun P => rfl, fun P => rfl, fun P => rfl, fun P => rfl⟩
theorem meth_fault : Meth 122 (Str.ofString "fault") 105 := ⟨fun P => rfl, fun P => rfl, fun P => rfl, fun P => rfl⟩
theorem meth_take : Meth 122 (Str.ofString "take") 112 := ⟨fun P => rfl, fun P => rfl, fun P => rfl, fun P => rfl⟩
theorem meth_need : Meth 122 (Str.ofString "need") 119 := ⟨fun P => rfl, fun P => rfl, fun P => rfl, fun P => rfl⟩
theorem meth_told : Meth 187 (Str.ofString "told") 184 := ⟨fun P => rfl, fun P => rfl, fun P => rfl, fun P => rfl⟩
section
variable {r : Row} {i : Nat}
theorem tk_kind (P : Params) (ta : Addr) (t1 t2 t3 t4 t5 t6 : Tok) : ∃ v, getL (Str.ofString "kind") [ent P (Str.ofString "kind") t1 (.str r.1 t2), ent P (Str.ofString "worth") t3 (.str r.2 t4), ent P (Str.ofString "at") t5 (.ref ta), ent P (Str.ofString "is_in_a") t6 (.bool false)] = some (some v) ∧ handedIn v = true ∧ ((Dt.str r.1 = .tuple [.int 3, .int i] ∧ v = .ref ta) ∨ (∀ imm, DtIn P imm v (.str r.1))) := ⟨_, rfl, rfl, .inr fun imm => .str _ _⟩
theorem tk_worth (P : Params) (ta : Addr) (t1 t2 t3 t4 t5 t6 : Tok) : ∃ v, getL (Str.ofString "worth") [ent P (Str.ofString "kind") t1 (.str r.1 t2), ent P (Str.ofString "worth") t3 (.str r.2 t4), ent P (Str.ofString "at") t5 (.ref ta), ent P (Str.ofString "is_in_a") t6 (.bool false)] = some (some v) ∧ handedIn v = true ∧ ((Dt.str r.2 = .tuple [.int 3, .int i] ∧ v = .ref ta) ∨ (∀ imm, DtIn P imm v (.str r.2))) := ⟨_, rfl, rfl, .inr fun imm => .str _ _⟩
theorem tk_at (P : Params) (ta : Addr) (t1 t2 t3 t4 t5 t6 : Tok) : ∃ v, getL (Str.ofString "at") [ent P (Str.ofString "kind") t1 (.str r.1 t2), ent P (Str.ofString "worth") t3 (.str r.2 t4), ent P (Str.ofString "at") t5 (.ref ta), ent P (Str.ofString "is_in_a") t6 (.bool false)] = some (some v) ∧ handedIn v = true ∧ ((Dt.tuple [.int 3, .int i] = .tuple [.int 3, .int i] ∧ v = .ref ta) ∨ (∀ imm, DtIn P imm v (.tuple [.int 3, .int i]))) := ⟨_, rfl, rfl, .inl ⟨rfl, rfl⟩⟩
end
section
variable {rows : List Row} {wd tl : Addr} {i : Nat} {k x : Str} {r : Row}
theorem told_c : Fu 1 (.ref 184) [] [.tok r i] (· = .ret [] (.tuple [.str r.1, .str r.2])) := by
  refine fd_of (k := 0) [Str.ofString "self"] (ho := fun P => rfl) (hcd := fun P => rfl) (hbind := fun vals hv s => by obtain ⟨a, rfl⟩ := len1 hv; exact BindsTo.of_eq rfl) (hloc := all1 rfl) (hδ := rfl) (hk := rfl) (hb := fun L => ?_) (hcell := by decide) rfl rfl rfl
  exact bRet (eTup (esCons (eTok tkown_kind (eName rfl rfl) tk_kind) (esCons (eTok tkown_worth (eName rfl rfl) tk_worth) esNil))) rfl
theorem is_done_c (hr : rows.length < 1000000) : Fu 1 (.ref 77) [(wd, .wk tl i)] [.walk wd tl rows] (· = .ret [(wd, .wk tl i)] (.bool (decide ((rows.length : Int) ≤ i)))) := by
  refine fd_of (k := 0) [Str.ofString "self"] (ho := fun P => rfl) (hcd := fun P => rfl) (hbind := fun vals hv s => by obtain ⟨a, rfl⟩ := len1 hv; exact BindsTo.of_eq rfl) (hloc := all1 rfl) (hδ := rfl) (hk := rfl) (hb := fun L => ?_) (hcell := by decide) rfl rfl rfl
  have hl := tokDts_length rows 0
  refine' bRet (eCmp (eAt own_at (eName rfl rfl) (.head _)) (eCallB (x := Str.ofString "len") ⟨fun P => rfl, rfl, rfl, rfl, rfl, rfl⟩ (con_len ?_) rfl (esCons (eToks own_tokens (eName rfl rfl) (.head _)) esNil) rfl) oGe) ?_
  · omega
  · rw [hl]; rfl
theorem peek_n (hr : rows.length < 1000000) (hi : rows.length ≤ i) : Fu 2 (.ref 84) [(wd, .wk tl i)] [.walk wd tl rows] (· = .ret [(wd, .wk tl i)] .none) := by
  refine fd_of (k := 1) [Str.ofString "self"] (ho := fun P => rfl) (hcd := fun P => rfl) (hbind := fun vals hv s => by obtain ⟨a, rfl⟩ := len1 hv; exact BindsTo.of_eq rfl) (hloc := all1 rfl) (hδ := rfl) (hk := rfl) (hb := fun L => ?_) (hcell := by decide) rfl rfl rfl
  refine' bRet (eIfT (tVal (eMeth0 meth_is_done (is_done_c hr) rfl (eName rfl rfl) (.head _) rfl)) ?_ eNone) rfl
  exact decide_eq_true (by omega)
theorem peek_s (hr : rows.length < 1000000) (hi : rows[i]? = some r) : Fu 2 (.ref 84) [(wd, .wk tl i)] [.walk wd tl rows] (· = .ret [(wd, .wk tl i)] (.tok r i)) := by
  have hlt := (List.getElem?_eq_some_iff.mp hi).1
  refine fd_of (k := 1) [Str.ofString "self"] (ho := fun P => rfl) (hcd := fun P => rfl) (hbind := fun vals hv s => by obtain ⟨a, rfl⟩ := len1 hv; exact BindsTo.of_eq rfl) (hloc := all1 rfl) (hδ := rfl) (hk := rfl) (hb := fun L => ?_) (hcell := by decide) rfl rfl rfl
  refine' bRet (d := .tok r i) (eIfF (tVal (eMeth0 meth_is_done (is_done_c hr) rfl (eName rfl rfl) (.head _) rfl)) ?_ (eItem (eToks own_tokens (eName rfl rfl) (.head _)) (eAt own_at (eName rfl rfl) (.head _)) ?_ ?_ ?_)) rfl
  · exact decide_eq_false (by omega)
  · omega
  · rw [tokDts_get, show ((i : Int)).toNat = i by omega, hi, Nat.zero_add]; rfl
  · omega
end
end Mine
end

noncomputable section
open PySem PySem.W PyProof.Rows PySem.Calls PySem.Spec
set_option Elab.async false
set_option linter.unusedVariables false
namespace Mine
set_option maxRecDepth 100000
set_option maxHeartbeats 8000000

section
variable {rows : List Row} {wd tl : Addr} {i : Nat} {k x : Str} {r : Row}
theorem stands_c (hr : rows.length < 1000000) : Fu 3 (.ref 91) [(wd, .wk tl i)] [.walk wd tl rows, .str k, .str x] (· = .ret [(wd, .wk tl i)] (.bool (decide (rows[i]? = some (k, x))))) := by
  by_cases hi : rows.length ≤ i
  · rw [show decide (rows[i]? = some (k, x)) = (false && false) by simp [List.getElem?_eq_none hi]]
    refine fd_of (k := 2) [Str.ofString "self", Str.ofString "kind", Str.ofString "worth"] (ho := fun P => rfl) (hcd := fun P => rfl) (hbind := fun vals hv s => by obtain ⟨a, b, c, rfl⟩ := len3 hv; exact BindsTo.of_eq rfl) (hloc := all3 rfl rfl rfl) (hδ := rfl) (hk := rfl) (hb := fun L => ?_) (hcell := by decide) rfl rfl rfl
    refine' bSet (eMeth0 meth_peek (peek_n hr hi) rfl (eName rfl rfl) (.head _) rfl) (bRet (eAnd (b₁ := false) (eCmp (eName rfl rfl) eNone (oIsNot ?_)) (fun q => nomatch q)) rfl) rfl
    simp
  · have hlt : i < rows.length := by omega
    obtain ⟨r, he⟩ : ∃ r, rows[i]? = some r := ⟨_, List.getElem?_eq_getElem hlt⟩
    rw [show decide (rows[i]? = some (k, x)) = (true && ((r.1 == k) && (r.2 == x))) by rw [he]; obtain ⟨a, b⟩ := r; simp [Bool.decide_and]; rfl]
    refine fd_of (k := 2) [Str.ofString "self", Str.ofString "kind", Str.ofString "worth"] (ho := fun P => rfl) (hcd := fun P => rfl) (hbind := fun vals hv s => by obtain ⟨a, b, c, rfl⟩ := len3 hv; exact BindsTo.of_eq rfl) (hloc := all3 rfl rfl rfl) (hδ := rfl) (hk := rfl) (hb := fun L => ?_) (hcell := by decide) rfl rfl rfl
    refine' bSet (eMeth0 meth_peek (peek_s hr he) rfl (eName rfl rfl) (.head _) rfl) (bRet (eAnd (b₁ := true) (eCmp (eName rfl rfl) eNone (oIsNot ?_)) (fun _ => eAnd (eCmp (eTok tkown_kind (eName rfl rfl) tk_kind) (eName rfl rfl) oEqS) fun _ => eAnd1 (eCmp (eTok tkown_worth (eName rfl rfl) tk_worth) (eName rfl rfl) oEqS))) rfl) rfl
    simp
theorem skip_y (hr : rows.length < 1000000) (he : rows[i]? = some (k, x)) : Fu 4 (.ref 98) [(wd, .wk tl i)] [.walk wd tl rows, .str k, .str x] (· = .ret [(wd, .wk tl (i + 1))] (.bool true)) := by
  refine fd_of (k := 3) [Str.ofString "self", Str.ofString "kind", Str.ofString "worth"] (ho := fun P => rfl) (hcd := fun P => rfl) (hbind := fun vals hv s => by obtain ⟨a, b, c, rfl⟩ := len3 hv; exact BindsTo.of_eq rfl) (hloc := all3 rfl rfl rfl) (hδ := rfl) (hk := rfl) (hb := fun L => ?_) (hcell := by decide) rfl rfl rfl
  refine' bIfF (tNot (tVal (eMeth meth_stands (stands_c hr) rfl (eName rfl rfl) (.head _) (esCons (eName rfl rfl) (esCons (eName rfl rfl) esNil)) rfl))) ?_ (bSetAt (i' := i + 1) (eBin (eAt own_at (eName rfl rfl) (.head _)) eInt bAdd) (eName rfl rfl) (bRet eBool rfl))
  simp [he]
theorem skip_n (hr : rows.length < 1000000) (he : rows[i]? ≠ some (k, x)) : Fu 4 (.ref 98) [(wd, .wk tl i)] [.walk wd tl rows, .str k, .str x] (· = .ret [(wd, .wk tl i)] (.bool false)) := by
  refine fd_of (k := 3) [Str.ofString "self", Str.ofString "kind", Str.ofString "worth"] (ho := fun P => rfl) (hcd := fun P => rfl) (hbind := fun vals hv s => by obtain ⟨a, b, c, rfl⟩ := len3 hv; exact BindsTo.of_eq rfl) (hloc := all3 rfl rfl rfl) (hδ := rfl) (hk := rfl) (hb := fun L => ?_) (hcell := by decide) rfl rfl rfl
  refine' bIfT (tNot (tVal (eMeth meth_stands (stands_c hr) rfl (eName rfl rfl) (.head _) (esCons (eName rfl rfl) (esCons (eName rfl rfl) esNil)) rfl))) ?_ (bRet eBool rfl)
  simp [he]
theorem fault_c (hr : rows.length < 1000000) : FuF 5 (.ref 105) [(wd, .wk tl i)] [.walk wd tl rows, .str x] (tellAt rows i) := by
  have hl := tokDts_length rows 0
  by_cases h0 : rows = []
  · rw [show tellAt rows i = -1 from if_pos h0]
    refine ff_of (k := 4) [Str.ofString "self", Str.ofString "what"] (ho := fun P => rfl) (hcd := fun P => rfl) (hbind := fun vals hv s => by obtain ⟨a, b, rfl⟩ := len2 hv; exact BindsTo.of_eq rfl) (hloc := all2 rfl rfl) (hδ := rfl) (hk := rfl) (hb := fun L => ?_) (hcell := by decide) rfl rfl rfl
    refine' bIfT (tCmp (eCallB (x := Str.ofString "len") ⟨fun P => rfl, rfl, rfl, rfl, rfl, rfl⟩ (con_len ?_) rfl (esCons (eToks own_tokens (eName rfl rfl) (.head _)) esNil) rfl) eInt oEqI) ?_ (bRetF (eCallF new_fault1 (eGlob (f := 53) (fun P => rfl) rfl rfl rfl) (esCons (eName rfl rfl) esNil) rfl (fun P => rfl)) fun a => ⟨a, rfl⟩)
    · omega
    · rw [hl, h0]; rfl
  · have hp : 0 < rows.length := List.length_pos_iff.mpr h0
    rw [show tellAt rows i = ((min i (rows.length - 1) : Nat) : Int) from if_neg h0]
    obtain ⟨r, he⟩ : ∃ r, rows[min i (rows.length - 1)]? = some r := ⟨_, List.getElem?_eq_getElem (by omega)⟩
    refine ff_of (k := 4) [Str.ofString "self", Str.ofString "what"] (ho := fun P => rfl) (hcd := fun P => rfl) (hbind := fun vals hv s => by obtain ⟨a, b, rfl⟩ := len2 hv; exact BindsTo.of_eq rfl) (hloc := all2 rfl rfl) (hδ := rfl) (hk := rfl) (hb := fun L => ?_) (hcell := by decide) rfl rfl rfl
    refine' bIfF (tCmp (eCallB (x := Str.ofString "len") ⟨fun P => rfl, rfl, rfl, rfl, rfl, rfl⟩ (con_len ?_) rfl (esCons (eToks own_tokens (eName rfl rfl) (.head _)) esNil) rfl) eInt oEqI) ?_ (bRetF (eCallF (new_fault2 ?_) (eGlob (f := 53) (fun P => rfl) rfl rfl rfl) (esCons (eName rfl rfl) (esCons (eTok (r := r) (i := min i (rows.length - 1)) tkown_at (eItem (eToks own_tokens (eName rfl rfl) (.head _)) (eCallB (x := Str.ofString "min") ⟨fun P => rfl, rfl, rfl, rfl, rfl, rfl⟩ con_min rfl (esCons (eAt own_at (eName rfl rfl) (.head _)) (esCons (eBin (eCallB (x := Str.ofString "len") ⟨fun P => rfl, rfl, rfl, rfl, rfl, rfl⟩ (con_len ?_) rfl (esCons (eToks own_tokens (eName rfl rfl) (.head _)) esNil) rfl) eInt bSub) esNil)) rfl) ?_ ?_ ?_) tk_at) esNil)) rfl (fun P => rfl)) fun a => ⟨a, rfl⟩)
    · omega
    · rw [hl]; simp; omega
    · omega
    · omega
    · omega
    · rw [hl, tokDts_get, show (min (i : Int) ((rows.length : Nat) - 1)).toNat = min i (rows.length - 1) by omega, he, Nat.zero_add]; rfl
    · omega
end
end Mine
end

noncomputable section
open PySem PySem.W PyProof.Rows PySem.Calls PySem.Spec
set_option Elab.async false
set_option linter.unusedVariables false
namespace Mine
set_option maxRecDepth 100000
set_option maxHeartbeats 8000000

theorem lkSkip {δ : Loc} {y : Str} {d' : Dt} (h : δ.lookup y = none) : ∀ x d, δ.lookup x = some d → ((y, d') :: δ).lookup x = some d := fun x d e => by
  rw [List.lookup_cons]
  cases q : x == y with
  | false => exact e
  | true => rw [eq_of_beq q, h] at e; cases e
theorem wlWeak {n : Nat} {fi : Fi} {L : Addr} {t : Expr} {body rest : List Stmt} {O : Out → Prop} {δ δ' : Loc} {μ : Mus} (h : Wl n fi L t body rest O δ' μ) (hδ : ∀ x d, δ'.lookup x = some d → δ.lookup x = some d) : Wl n fi L t body rest O δ μ :=
  fun c τ ν Q E hh tk R S kr kn ke => h c τ ν Q E hh tk R (S.weaken hδ fun _ _ e => e) kr kn ke
section
variable {rows : List Row} {wd tl : Addr} {i : Nat} {k x : Str} {r : Row}
theorem take_s (g : Gd rows) (hi : rows[i]? = some r) : Fu 6 (.ref 112) [(wd, .wk tl i)] [.walk wd tl rows, .str x] (· = .ret [(wd, .wk tl (i + 1))] (.tok r i)) := by
  have hlt := (List.getElem?_eq_some_iff.mp hi).1
  have := g.len
  refine fd_of (k := 5) [Str.ofString "self", Str.ofString "what"] (ho := fun P => rfl) (hcd := fun P => rfl) (hbind := fun vals hv s => by obtain ⟨a, b, rfl⟩ := len2 hv; exact BindsTo.of_eq rfl) (hloc := all2 rfl rfl) (hδ := rfl) (hk := rfl) (hb := fun L => ?_) (hcell := by decide) rfl rfl rfl
  refine' bIfF (tVal (eMeth0 meth_is_done (is_done_c g.len) rfl (eName rfl rfl) (.head _) rfl)) ?_ (bSetAt (i' := i + 1) (eBin (eAt own_at (eName rfl rfl) (.head _)) eInt bAdd) (eName rfl rfl) (bRet (d := .tok r i) (eItem (eToks own_tokens (eName rfl rfl) (.head _)) (eBin (eAt own_at (eName rfl rfl) (.head _)) eInt bSub) ?_ ?_ ?_) rfl))
  · exact decide_eq_false (by omega)
  · omega
  · rw [tokDts_get, show (((i + 1 : Nat) : Int) - 1).toNat = i by omega, hi, Nat.zero_add]; rfl
  · omega
theorem take_n (g : Gd rows) (hi : rows.length ≤ i) : Fu 6 (.ref 112) [(wd, .wk tl i)] [.walk wd tl rows, .str x] (· = .exc (tellAt rows i)) := by
  refine fd_of (k := 5) [Str.ofString "self", Str.ofString "what"] (ho := fun P => rfl) (hcd := fun P => rfl) (hbind := fun vals hv s => by obtain ⟨a, b, rfl⟩ := len2 hv; exact BindsTo.of_eq rfl) (hloc := all2 rfl rfl) (hδ := rfl) (hk := rfl) (hb := fun L => ?_) (hcell := by decide) rfl rfl rfl
  refine' bIfT (tVal (eMeth0 meth_is_done (is_done_c g.len) rfl (eName rfl rfl) (.head _) rfl)) ?_ (bRaise (eMethF meth_fault (fault_c g.len) (eName rfl rfl) (.head _) (esCons (eName rfl rfl) esNil) rfl) rfl)
  exact decide_eq_true (by omega)
theorem need_y (g : Gd rows) (he : rows[i]? = some (k, x)) {m : Str} : Fu 6 (.ref 119) [(wd, .wk tl i)] [.walk wd tl rows, .str k, .str x, .str m] (· = .ret [(wd, .wk tl (i + 1))] .none) := by
  refine fd_of (k := 5) [Str.ofString "self", Str.ofString "kind", Str.ofString "worth", Str.ofString "what"] (ho := fun P => rfl) (hcd := fun P => rfl) (hbind := fun vals hv s => by obtain ⟨a, b, c, d, rfl⟩ := len4 hv; exact BindsTo.of_eq rfl) (hloc := all4 rfl rfl rfl rfl) (hδ := rfl) (hk := rfl) (hb := fun L => ?_) (hcell := by decide) rfl rfl rfl
  exact bIfF (tNot (tVal (eMeth meth_skip (skip_y g.len he) rfl (eName rfl rfl) (.head _) (esCons (eName rfl rfl) (esCons (eName rfl rfl) esNil)) rfl))) rfl (bNil rfl)
theorem need_n (g : Gd rows) (he : rows[i]? ≠ some (k, x)) {m : Str} : Fu 6 (.ref 119) [(wd, .wk tl i)] [.walk wd tl rows, .str k, .str x, .str m] (· = .exc (tellAt rows i)) := by
  refine fd_of (k := 5) [Str.ofString "self", Str.ofString "kind", Str.ofString "worth", Str.ofString "what"] (ho := fun P => rfl) (hcd := fun P => rfl) (hbind := fun vals hv s => by obtain ⟨a, b, c, d, rfl⟩ := len4 hv; exact BindsTo.of_eq rfl) (hloc := all4 rfl rfl rfl rfl) (hδ := rfl) (hk := rfl) (hb := fun L => ?_) (hcell := by decide) rfl rfl rfl
  exact bIfT (tNot (tVal (eMeth meth_skip (skip_n g.len he) rfl (eName rfl rfl) (.head _) (esCons (eName rfl rfl) (esCons (eName rfl rfl) esNil)) rfl))) rfl (bRaise (eMethF meth_fault (fault_c g.len) (eName rfl rfl) (.head _) (esCons (eName rfl rfl) esNil) rfl) rfl)
noncomputable def psOut (wd tl : Addr) (N : Nat) (acc : List Dt) (rs : List Row) (k : Nat) : FO := match psR rs k N with
  | .ok p => .ret [(wd, .wk tl p.2)] (.list (acc ++ tokDts p.1 k))
  | .error j => .exc j
theorem read_pseudo_c (g : Gd rows) (he : rows[i]? = some rPs) : Fu 7 (.ref 133) [(wd, .wk tl i)] [.walk wd tl rows] (· = psOut wd tl rows.length [] (rows.drop (i + 1)) (i + 1)) := by
  have hlt := (List.getElem?_eq_some_iff.mp he).1
  have hN := g.len
  refine fd_of (k := 6) [Str.ofString "walk"] (ho := fun P => rfl) (hcd := fun P => rfl) (hbind := fun vals hv s => by obtain ⟨a, rfl⟩ := len1 hv; exact BindsTo.of_eq rfl) (hloc := all1 rfl) (hδ := rfl) (hk := rfl) (hb := fun L => ?_) (hcell := by decide) rfl rfl rfl
  refine' bExp (eMeth meth_need (need_y g he) rfl (eName rfl rfl) (.head _) (esCons eStr (esCons eStr (esCons eStr esNil))) rfl) (bNew esNil (Nat.zero_le _) rfl fun a => bWhile ?_)
  refine (?loop : ∀ (rs : List Row) (k : Nat) (acc : List Dt), rows.drop k = rs → k ≤ rows.length → acc.length ≤ k → Wl _ _ L _ _ _ (Lf (psOut wd tl rows.length acc rs k)) _ [(wd, .wk tl k), (a, .lst acc)]) (rows.drop (i + 1)) (i + 1) [] rfl (by omega) (Nat.zero_le _)
  intro rs
  induction rs with
  | nil =>
    intro k acc hd hk hacc
    have hkn : rows.length ≤ k := by
      have := congrArg List.length hd
      rw [List.length_drop] at this
      simp at this; omega
    have hn : rows[k]? = none := List.getElem?_eq_none hkn
    refine' wlStep (tNot (tVal (eMeth meth_stands (stands_c g.len) rfl (eName rfl rfl) (.head _) (esCons eStr (esCons eStr esNil)) rfl))) (fun q => ?_) fun q => bSetX (eMethX meth_take (take_n g hkn) rfl (eName rfl rfl) (.head _) (esCons eStr esNil) rfl) ?_
    · simp [hn] at q
    · show FO.exc _ = _
      unfold tellAt psOut psR
      rw [if_neg (by intro e; rw [e] at hlt; exact absurd hlt (Nat.not_lt_zero _))]
      simp only []
      congr 1; omega
  | cons r rs ih =>
    intro k acc hd hk hacc
    have hkl : k < rows.length := by
      have := congrArg List.length hd
      rw [List.length_drop, List.length_cons] at this
      omega
    have hr : rows[k]? = some r := by
      have := congrArg (·[0]?) hd
      simpa [List.getElem?_drop] using this
    have hd' : rows.drop (k + 1) = rs := by
      have := congrArg (List.drop 1) hd
      rwa [List.drop_drop, List.drop_one, List.tail_cons] at this
    refine' wlStep (tNot (tVal (eMeth meth_stands (stands_c g.len) rfl (eName rfl rfl) (.head _) (esCons eStr (esCons eStr esNil)) rfl))) (fun q => ?_) fun q => ?_
    · have hp : r = rPs := by simpa [hr] using q
      refine' bSetAt (i' := k + 1) (eBin (eAt own_at (eName rfl rfl) (.head _)) eInt bAdd) (eName rfl rfl) (bFreeze (a := a) (ds := acc) (δ' := [(Str.ofString "found", .list acc), (Str.ofString "walk", .walk wd tl rows)]) (fun x d e => ?_) (.swap _ _ _) (bRet (eName rfl rfl) ?_))
      · rw [List.lookup_cons] at e ⊢
        split at e
        · cases e; exact .inr ⟨rfl, rfl⟩
        · exact .inl e
      · unfold psOut psR
        rw [if_pos hp]
        simp [tokDts]
        rfl
    · have hp : r ≠ rPs := by simpa [hr] using q
      refine' bSet (eMeth meth_take (take_s g hr) rfl (eName rfl rfl) (.head _) (esCons eStr esNil) rfl) ?_ rfl
      by_cases hc : r = rCopy
      · refine' bIfT (tAnd (tCmp (eTok tkown_kind (eName rfl rfl) tk_kind) eStr oEqS) (fun _ => (tCmp (eTok tkown_worth (eName rfl rfl) tk_worth) eStr oEqS)) (fun _ => rfl)) (by rw [hc]; rfl) (bSetAt (i' := k) (eBin (eAt own_at (eName rfl rfl) (.head _)) eInt bSub1) (eName rfl rfl) (bRaise (eMethF meth_fault (fault_c g.len) (eName rfl rfl) (.head _) (esCons eStr esNil) rfl) ?_))
        show FO.exc _ = _
        unfold psOut psR
        rw [if_neg hp, if_pos hc, tell_in hkl]
      · have e : psOut wd tl rows.length acc (r :: rs) k = psOut wd tl rows.length (acc ++ [.tok r k]) rs (k + 1) := by
          unfold psOut
          rw [psR, if_neg hp, if_neg hc]
          cases psR rs (k + 1) rows.length with
          | ok p => simp [tokDts]
          | error j => rfl
        rw [e]
        refine' bIfF (tAnd (tCmp (eTok tkown_kind (eName rfl rfl) tk_kind) eStr oEqS) (fun _ => (tCmp (eTok tkown_worth (eName rfl rfl) tk_worth) eStr oEqS)) (fun _ => rfl)) ?_ (bPerm (.swap _ _ _) (bApp (eName rfl rfl) rfl rfl (by omega) (bPerm (.swap _ _ _) (bNil (wlWeak (ih (k + 1) (acc ++ [.tok r k]) hd' hkl (by simp; omega)) (lkSkip rfl)))) (hm := ⟨_, .head _⟩)))
        cases q2 : (r.1 == Str.ofString "word" && r.2 == Str.ofString "COPY") with
        | false => rfl
        | true => exact absurd (Prod.ext (eq_of_beq (Bool.and_eq_true_iff.mp q2).1) (eq_of_beq (Bool.and_eq_true_iff.mp q2).2)) hc
end
end Mine
end

noncomputable section
open PySem PySem.W PyProof.Rows PySem.Calls PySem.Spec
set_option Elab.async false
set_option linter.unusedVariables false
namespace Mine
set_option maxRecDepth 100000
set_option maxHeartbeats 8000000

section
variable {rows : List Row} {wd tl : Addr} {i : Nat} {k x : Str} {r : Row}
theorem three_ok : (three.all fun y => kqdOk 8 (Dat.str y)) = true := by decide +kernel
theorem two_ok : (two.all fun y => kqdOk 8 (Dat.str y)) = true := by decide +kernel
noncomputable def sdOut (wd tl : Addr) (rows : List Row) (i : Nat) : FO := match sideR rows i with
  | .ok p => .ret [(wd, .wk tl p.2.2)] (sideD (p.1, p.2.1))
  | .error j => .exc j
theorem read_side_c (g : Gd rows) : Fu 8 (.ref 140) [(wd, .wk tl i)] [.walk wd tl rows] (· = sdOut wd tl rows i) := by
  refine fd_of (k := 7) [Str.ofString "walk"] (ho := fun P => rfl) (hcd := fun P => rfl) (hbind := fun vals hv s => by obtain ⟨a, rfl⟩ := len1 hv; exact BindsTo.of_eq rfl) (hloc := all1 rfl) (hδ := rfl) (hk := rfl) (hb := fun L => ?_) (hcell := by decide) rfl rfl rfl
  cases hr : rows[i]? with
  | none =>
    have hn : rows.length ≤ i := List.getElem?_eq_none_iff.mp hr
    refine' bIfF (tVal (eMeth meth_stands (stands_c g.len) rfl (eName rfl rfl) (.head _) (esCons eStr (esCons eStr esNil)) rfl)) (by rw [hr]; rfl) (bSetX (eMethX meth_take (take_n g hn) rfl (eName rfl rfl) (.head _) (esCons eStr esNil) rfl) ?_)
    unfold sdOut sideR
    rw [hr]
    rfl
  | some r =>
    by_cases hp : r = rPs
    · refine' bIfT (tVal (eMeth meth_stands (stands_c g.len) rfl (eName rfl rfl) (.head _) (esCons eStr (esCons eStr esNil)) rfl)) (by rw [hr, hp]; rfl) ?_
      have hc := read_pseudo_c (wd := wd) (tl := tl) g (hp ▸ hr)
      cases hs : psR (rows.drop (i + 1)) (i + 1) rows.length with
      | ok p =>
        have ho : psOut wd tl rows.length [] (rows.drop (i + 1)) (i + 1) = .ret [(wd, .wk tl p.2)] (.list (tokDts p.1 (i + 1))) := by unfold psOut; rw [hs]; rfl
        refine' bRet (eCall hc ho (eGlob (f := 133) (fun P => rfl) rfl rfl rfl) (esCons (eName rfl rfl) esNil) rfl (fun P => rfl)) ?_
        unfold sdOut sideR
        rw [hr]; simp only []; rw [if_pos hp, hs]; rfl
      | error j =>
        have ho : psOut wd tl rows.length [] (rows.drop (i + 1)) (i + 1) = .exc j := by unfold psOut; rw [hs]
        refine' bRetX (eCallX hc ho (eGlob (f := 133) (fun P => rfl) rfl rfl rfl) (esCons (eName rfl rfl) esNil) rfl (fun P => rfl)) ?_
        unfold sdOut sideR
        rw [hr]; simp only []; rw [if_pos hp, hs]; rfl
    · have hk := (g.at hr).1.1
      have hlt := (List.getElem?_eq_some_iff.mp hr).1
      refine' bIfF (tVal (eMeth meth_stands (stands_c g.len) rfl (eName rfl rfl) (.head _) (esCons eStr (esCons eStr esNil)) rfl)) (by rw [hr]; exact decide_eq_false fun e => hp (Option.some.inj e)) (bSet (eMeth meth_take (take_s g hr) rfl (eName rfl rfl) (.head _) (esCons eStr esNil) rfl) ?_ rfl)
      cases h3 : three.contains r.1 with
      | true =>
        refine' bIfF (tCmp (eTok tkown_kind (eName rfl rfl) tk_kind) (eTup (esCons eStr (esCons eStr (esCons eStr esNil)))) (oNotInS (xs := three) hk three_ok)) (by rw [h3]; rfl) (bRet (eLst (esCons (eName rfl rfl) esNil)) ?_)
        unfold sdOut sideR
        rw [hr]; simp only []; rw [if_neg hp, h3]; rfl
      | false =>
        refine' bIfT (tCmp (eTok tkown_kind (eName rfl rfl) tk_kind) (eTup (esCons eStr (esCons eStr (esCons eStr esNil)))) (oNotInS (xs := three) hk three_ok)) (by rw [h3]; rfl) (bSetAt (i' := i) (eBin (eAt own_at (eName rfl rfl) (.head _)) eInt bSub1) (eName rfl rfl) (bRaise (eMethF meth_fault (fault_c g.len) (eName rfl rfl) (.head _) (esCons eStr esNil) rfl) ?_))
        show FO.exc _ = _
        unfold sdOut sideR
        rw [hr]; simp only []; rw [if_neg hp, h3, tell_in hlt]; rfl
theorem side_y (g : Gd rows) {a : Nat} {s : List Row} {e : Nat} (h : sideR rows i = .ok (a, s, e)) : Fu 8 (.ref 140) [(wd, .wk tl i)] [.walk wd tl rows] (· = .ret [(wd, .wk tl e)] (sideD (a, s))) := by
  have := read_side_c (wd := wd) (tl := tl) (i := i) g
  unfold sdOut at this; rw [h] at this; exact this
theorem side_n (g : Gd rows) {j : Int} (h : sideR rows i = .error j) : Fu 8 (.ref 140) [(wd, .wk tl i)] [.walk wd tl rows] (· = .exc j) := by
  have := read_side_c (wd := wd) (tl := tl) (i := i) g
  unfold sdOut at this; rw [h] at this; exact this
noncomputable def prOut (wd tl : Addr) (rows : List Row) (i : Nat) : FO := match pairR rows i with
  | .ok p => .ret [(wd, .wk tl p.2)] (pairD p.1)
  | .error j => .exc j
theorem read_pair_c (g : Gd rows) : Fu 9 (.ref 147) [(wd, .wk tl i)] [.walk wd tl rows, .obj 140] (· = prOut wd tl rows i) := by
  refine fd_of (k := 8) [Str.ofString "walk", Str.ofString "read"] (ho := fun P => rfl) (hcd := fun P => rfl) (hbind := fun vals hv s => by obtain ⟨a, b, rfl⟩ := len2 hv; exact BindsTo.of_eq rfl) (hloc := all2 rfl rfl) (hδ := rfl) (hk := rfl) (hb := fun L => ?_) (hcell := by decide) rfl rfl rfl
  cases h1 : sideR rows i with
  | error j =>
    refine' bSet (eAt own_at (eName rfl rfl) (.head _)) (bSetX (eCallX (side_n g h1) rfl (eName rfl rfl) (esCons (eName rfl rfl) esNil) rfl (fun P => rfl)) ?_) rfl
    unfold prOut pairR
    rw [h1]; rfl
  | ok q =>
    obtain ⟨a, s, e⟩ := q
    have hle := side_le h1
    refine' bSet (eAt own_at (eName rfl rfl) (.head _)) (bSet (eCall (side_y g h1) rfl (eName rfl rfl) (esCons (eName rfl rfl) esNil) rfl (fun P => rfl)) ?_ rfl) rfl
    by_cases hs : s = []
    · refine' bIfT (tCmp (eName rfl rfl) (eLst esNil) (oEqNil (b := true) ?_)) rfl (bSetAt (i' := i) (eName rfl rfl) (eName rfl rfl) (bRaise (eMethF meth_fault (fault_c g.len) (eName rfl rfl) (.head _) (esCons eStr esNil) rfl) ?_))
      · rw [hs]; rfl
      · show FO.exc _ = _
        unfold prOut pairR
        rw [h1]; simp only []; rw [if_pos hs]
    · refine' bIfF (tCmp (eName rfl rfl) (eLst esNil) (oEqNil (b := false) ?_)) rfl ?_
      · cases s with
        | nil => exact absurd rfl hs
        | cons r s => rfl
      · by_cases hb : rows[e]? = some rBy
        · refine' bExp (eMeth meth_need (need_y g hb) rfl (eName rfl rfl) (.head _) (esCons eStr (esCons eStr (esCons eStr esNil))) rfl) ?_
          cases h2 : sideR rows (e + 1) with
          | error j =>
            refine' bRetX (eTupX (ersNext (eName rfl rfl) (ersHere (eCallX (side_n g h2) rfl (eName rfl rfl) (esCons (eName rfl rfl) esNil) rfl (fun P => rfl))))) ?_
            unfold prOut pairR
            rw [h1]; simp only []; rw [if_neg hs, if_pos hb, h2]; rfl
          | ok q =>
            obtain ⟨a', s', e'⟩ := q
            refine' bRet (eTup (esCons (eName rfl rfl) (esCons (eCall (side_y g h2) rfl (eName rfl rfl) (esCons (eName rfl rfl) esNil) rfl (fun P => rfl)) esNil))) ?_
            unfold prOut pairR
            rw [h1]; simp only []; rw [if_neg hs, if_pos hb, h2]; rfl
        · refine' bExpX (eMethX meth_need (need_n g hb) rfl (eName rfl rfl) (.head _) (esCons eStr (esCons eStr (esCons eStr esNil))) rfl) ?_
          show FO.exc _ = _
          unfold prOut pairR
          rw [h1]; simp only []; rw [if_neg hs, if_neg hb]
end
end Mine
end

noncomputable section
open PySem PySem.W PyProof.Rows PySem.Calls PySem.Spec
set_option Elab.async false
set_option linter.unusedVariables false
namespace Mine
set_option maxRecDepth 100000
set_option maxHeartbeats 8000000

section
variable {rows : List Row} {wd tl : Addr} {i : Nat} {k x : Str} {r : Row}
theorem pair_y (g : Gd rows) {p : Pair} {e : Nat} (h : pairR rows i = .ok (p, e)) : Fu 9 (.ref 147) [(wd, .wk tl i)] [.walk wd tl rows, .obj 140] (· = .ret [(wd, .wk tl e)] (pairD p)) := by
  have := read_pair_c (wd := wd) (tl := tl) (i := i) g
  unfold prOut at this; rw [h] at this; exact this
theorem pair_n (g : Gd rows) {j : Int} (h : pairR rows i = .error j) : Fu 9 (.ref 147) [(wd, .wk tl i)] [.walk wd tl rows, .obj 140] (· = .exc j) := by
  have := read_pair_c (wd := wd) (tl := tl) (i := i) g
  unfold prOut at this; rw [h] at this; exact this
noncomputable def lpOut (wd tl : Addr) (rows : List Row) (n k : Nat) (acc : List Dt) : FO := if rows[k]? = some rDot then .ret [(wd, .wk tl (k + 1))] (.list acc) else match pairsR rows n k with
  | .ok p => .ret [(wd, .wk tl p.2)] (.list (acc ++ p.1.map pairD))
  | .error j => .exc j
noncomputable def psnOut (wd tl : Addr) (rows : List Row) (i : Nat) : FO := match pairsR rows rows.length i with
  | .ok p => .ret [(wd, .wk tl p.2)] (.list (p.1.map pairD))
  | .error j => .exc j
theorem pair_end (h : rows.length ≤ i) : pairR rows i = .error (tellAt rows i) := by
  unfold pairR sideR
  rw [List.getElem?_eq_none h]
theorem lp_next {n k : Nat} {acc : List Dt} {p : Pair} {e : Nat} (hd : rows[k]? ≠ some rDot) (h : pairR rows k = .ok (p, e)) : lpOut wd tl rows (n + 1) k acc = lpOut wd tl rows n e (acc ++ [pairD p]) := by
  unfold lpOut
  rw [if_neg hd, pairsR, h]
  simp only []
  by_cases hq : rows[e]? = some rDot
  · rw [if_pos hq, if_pos hq]; rfl
  · rw [if_neg hq, if_neg hq]
    cases pairsR rows n e with
    | ok q => simp
    | error j => rfl
theorem read_pairs_c (g : Gd rows) : Fu 10 (.ref 154) [(wd, .wk tl i)] [.walk wd tl rows, .obj 140] (· = psnOut wd tl rows i) := by
  refine fd_of (k := 9) [Str.ofString "walk", Str.ofString "read"] (ho := fun P => rfl) (hcd := fun P => rfl) (hbind := fun vals hv s => by obtain ⟨a, b, rfl⟩ := len2 hv; exact BindsTo.of_eq rfl) (hloc := all2 rfl rfl) (hδ := rfl) (hk := rfl) (hb := fun L => ?_) (hcell := by decide) rfl rfl rfl
  cases h1 : pairR rows i with
  | error j =>
    refine' bSetX (eLstX (ersHere (eCallX (pair_n g h1) rfl (eGlob (f := 147) (fun P => rfl) rfl rfl rfl) (esCons (eName rfl rfl) (esCons (eName rfl rfl) esNil)) rfl (fun P => rfl)))) ?_
    unfold psnOut
    cases hn : rows.length with
    | zero =>
      rw [pair_end (by omega)] at h1
      cases h1; rfl
    | succ n => rw [pairsR, h1]; rfl
  | ok q =>
    obtain ⟨p, e⟩ := q
    have hle := pair_le h1
    refine' bNew (esCons (eCall (pair_y g h1) rfl (eGlob (f := 147) (fun P => rfl) rfl rfl rfl) (esCons (eName rfl rfl) (esCons (eName rfl rfl) esNil)) rfl (fun P => rfl)) esNil) (Nat.le_of_ble_eq_true rfl) rfl fun a => bWhile ?_
    have ho : psnOut wd tl rows i = lpOut wd tl rows (rows.length - 1) e [pairD p] := by
      unfold psnOut lpOut
      rw [show rows.length = (rows.length - 1) + 1 by omega, pairsR, h1]
      simp only [Nat.add_sub_cancel]
      by_cases hq : rows[e]? = some rDot
      · rw [if_pos hq, if_pos hq]; rfl
      · rw [if_neg hq, if_neg hq]
        cases pairsR rows (rows.length - 1) e <;> rfl
    rw [ho]
    refine (?loop : ∀ (n k : Nat) (acc : List Dt), rows.length - k ≤ n → acc.length ≤ k → Wl _ _ L _ _ _ (Lf (lpOut wd tl rows n k acc)) _ [(wd, .wk tl k), (a, .lst acc)]) (rows.length - 1) e [pairD p] (by omega) (by simp; omega)
    intro n
    induction n with
    | zero =>
      intro k acc hk hacc
      have hn : rows[k]? ≠ some rDot := by rw [List.getElem?_eq_none (by omega)]; exact fun h => nomatch h
      refine' wlStep (tNot (tVal (eMeth meth_skip (skip_n g.len hn) rfl (eName rfl rfl) (.head _) (esCons eStr (esCons eStr esNil)) rfl))) (fun q => nomatch q) fun _ => bAppX (eCallX (pair_n g (pair_end (by omega))) rfl (eGlob (f := 147) (fun P => rfl) rfl rfl rfl) (esCons (eName rfl rfl) (esCons (eName rfl rfl) esNil)) rfl (fun P => rfl)) rfl rfl ?_ ⟨_, .tail _ (.head _)⟩
      show FO.exc _ = _
      unfold lpOut
      rw [if_neg hn]; rfl
    | succ n ih =>
      intro k acc hk hacc
      by_cases hd : rows[k]? = some rDot
      · refine' wlStep (tNot (tVal (eMeth meth_skip (skip_y g.len hd) rfl (eName rfl rfl) (.head _) (esCons eStr (esCons eStr esNil)) rfl))) (fun _ => bFreeze (a := a) (ds := acc) (δ' := [(Str.ofString "pairs", .list acc)]) (fun x d e => ?_) (.swap _ _ _) (bRet (eName rfl rfl) ?_)) fun q => nomatch q
        · rw [List.lookup_cons] at e ⊢
          split at e
          · cases e; exact .inr ⟨rfl, rfl⟩
          · cases e
        · show FO.ret _ _ = _
          unfold lpOut
          rw [if_pos hd]
      · cases h2 : pairR rows k with
        | error j =>
          refine' wlStep (tNot (tVal (eMeth meth_skip (skip_n g.len hd) rfl (eName rfl rfl) (.head _) (esCons eStr (esCons eStr esNil)) rfl))) (fun q => nomatch q) fun _ => bAppX (eCallX (pair_n g h2) rfl (eGlob (f := 147) (fun P => rfl) rfl rfl rfl) (esCons (eName rfl rfl) (esCons (eName rfl rfl) esNil)) rfl (fun P => rfl)) rfl rfl ?_ ⟨_, .tail _ (.head _)⟩
          show FO.exc _ = _
          unfold lpOut
          rw [if_neg hd, pairsR, h2]
        | ok q =>
          obtain ⟨p', e'⟩ := q
          have hle' := pair_le h2
          have hN := g.len
          rw [lp_next hd h2]
          refine' wlStep (tNot (tVal (eMeth meth_skip (skip_n g.len hd) rfl (eName rfl rfl) (.head _) (esCons eStr (esCons eStr esNil)) rfl))) (fun q => nomatch q) fun _ => bApp (edPerm (.swap _ _ _) (eCall (pair_y g h2) rfl (eGlob (f := 147) (fun P => rfl) rfl rfl rfl) (esCons (eName rfl rfl) (esCons (eName rfl rfl) esNil)) rfl (fun P => rfl))) rfl rfl (by omega) (bPerm (.swap _ _ _) (bNil ?_)) (hm := ⟨_, .tail _ (.head _)⟩)
          exact ih e' (acc ++ [pairD p']) (by omega) (by simp; omega)
theorem pairs_y (g : Gd rows) {p : List Pair × Nat} (h : pairsR rows rows.length i = .ok p) : Fu 10 (.ref 154) [(wd, .wk tl i)] [.walk wd tl rows, .obj 140] (· = .ret [(wd, .wk tl p.2)] (.list (p.1.map pairD))) := by
  have := read_pairs_c (wd := wd) (tl := tl) (i := i) g
  unfold psnOut at this; rw [h] at this; exact this
theorem pairs_n (g : Gd rows) {j : Int} (h : pairsR rows rows.length i = .error j) : Fu 10 (.ref 154) [(wd, .wk tl i)] [.walk wd tl rows, .obj 140] (· = .exc j) := by
  have := read_pairs_c (wd := wd) (tl := tl) (i := i) g
  unfold psnOut at this; rw [h] at this; exact this
end
end Mine
end

noncomputable section
open PySem PySem.W PyProof.Rows PySem.Calls PySem.Spec
set_option Elab.async false
set_option linter.unusedVariables false
namespace Mine
set_option maxRecDepth 100000
set_option maxHeartbeats 8000000

section
variable {rows : List Row} {wd tl : Addr} {i : Nat} {k x : Str} {r : Row}
noncomputable def cpOut (wd tl : Addr) (rows : List Row) : FO := match copyR rows with
  | .ok p => .ret [(wd, .wk tl p.2.2)] (.tuple [.str p.1, .list (p.2.1.map pairD)])
  | .error j => .exc j
/-- behind the name and the library -/
noncomputable def tailR (rows : List Row) (r : Row) (i : Nat) : Except Int (Str × List Pair × Nat) := if rows[i]? = some rRep then (match pairsR rows rows.length (i + 1) with
    | .error j => .error j
    | .ok (ps, e) => .ok (Txt.upper r.2, ps, e))
  else if rows[i]? = some rDot then .ok (Txt.upper r.2, [], i + 1) else .error (tellAt rows i)
noncomputable def tlOut (wd tl : Addr) (rows : List Row) (r : Row) (i : Nat) : FO := match tailR rows r i with
  | .ok p => .ret [(wd, .wk tl p.2.2)] (.tuple [.str p.1, .list (p.2.1.map pairD)])
  | .error j => .exc j
abbrev Hend (n : Nat) (fi : Fi) (L : Addr) (δ : Loc) (b : List Stmt) (wd tl : Addr) (rows : List Row) (r : Row) : Prop := ∀ i, Bd n fi L δ [(wd, .wk tl i)] b (Lf (tlOut wd tl rows r i))
theorem bCut {n : Nat} {fi : Fi} {L : Addr} {δ : Loc} {μ : Mus} {st : Stmt} {b : List Stmt} {O : Out → Prop} (P : Fi → Loc → List Stmt → Prop) (h : P fi δ b) (k : P fi δ b → Bd n fi L δ μ (st :: b) O) : Bd n fi L δ μ (st :: b) O := k h
theorem cp_lib (hr : rows[0]? = some r) (h3 : two.contains r.1 = true) (ho : rows[1]? = some rOf ∨ rows[1]? = some rIn) (hl : rows.length = 2) : copyR rows = .error 1 := by
  unfold copyR
  rw [hr]
  simp only []
  rw [if_pos h3, if_pos (And.intro ho hl)]
theorem cp_lib2 (hr : rows[0]? = some r) (h3 : two.contains r.1 = true) (ho : rows[1]? = some rOf ∨ rows[1]? = some rIn) (hl : ¬ rows.length = 2) : copyR rows = tailR rows r 3 := by
  unfold copyR tailR
  rw [hr]
  simp only []
  rw [if_pos h3, if_neg (fun q : _ ∧ _ => hl q.2), if_pos ho]
  all_goals rfl
theorem cp_no (hr : rows[0]? = some r) (h3 : two.contains r.1 = true) (ho : ¬ (rows[1]? = some rOf ∨ rows[1]? = some rIn)) : copyR rows = tailR rows r 1 := by
  unfold copyR tailR
  rw [hr]
  simp only []
  rw [if_pos h3, if_neg (fun q : _ ∧ _ => ho q.1), if_neg ho]
  all_goals rfl
theorem read_copy_c (g : Gd rows) : Fu 11 (.ref 161) [(wd, .wk tl 0)] [.walk wd tl rows] (· = cpOut wd tl rows) := by
  refine fd_of (k := 10) [Str.ofString "walk"] (ho := fun P => rfl) (hcd := fun P => rfl) (hbind := fun vals hv s => by obtain ⟨a, rfl⟩ := len1 hv; exact BindsTo.of_eq rfl) (hloc := all1 rfl) (hδ := rfl) (hk := rfl) (hb := fun L => ?_) (hcell := by decide) rfl rfl rfl
  cases hr : rows[0]? with
  | none =>
    have hn : rows.length ≤ 0 := List.getElem?_eq_none_iff.mp hr
    refine' bSetX (eMethX meth_take (take_n g hn) rfl (eName rfl rfl) (.head _) (esCons eStr esNil) rfl) ?_
    unfold cpOut copyR
    rw [hr, List.eq_nil_of_length_eq_zero (Nat.le_zero.mp hn)]
    rfl
  | some r =>
    have hk := (g.at hr).1.1
    have hf := (g.at hr).2
    have hlt := (List.getElem?_eq_some_iff.mp hr).1
    refine' bSet (eMeth meth_take (take_s g hr) rfl (eName rfl rfl) (.head _) (esCons eStr esNil) rfl) ?_ rfl
    cases h3 : two.contains r.1 with
    | false =>
      refine' bIfT (tCmp (eTok tkown_kind (eName rfl rfl) tk_kind) (eTup (esCons eStr (esCons eStr esNil))) (oNotInS (xs := two) hk two_ok)) (by rw [h3]; rfl) (bSetAt (i' := 0) (eBin (eAt own_at (eName rfl rfl) (.head _)) eInt bSub1) (eName rfl rfl) (bRaise (eMethF meth_fault (fault_c g.len) (eName rfl rfl) (.head _) (esCons eStr esNil) rfl) ?_))
      show FO.exc _ = _
      unfold cpOut copyR
      rw [hr]; simp only []; rw [h3, tell_in hlt]; rfl
    | true =>
      refine' bIfF (tCmp (eTok tkown_kind (eName rfl rfl) tk_kind) (eTup (esCons eStr (esCons eStr esNil))) (oNotInS (xs := two) hk two_ok)) (by rw [h3]; rfl) ?_
      refine bCut (fun fi δ b => Hend 10 fi L δ b wd tl rows r) ?tail fun hend => ?main
      case main =>
        by_cases ho : rows[1]? = some rOf ∨ rows[1]? = some rIn
        · refine' bIfT (b := true) (μ' := [(wd, .wk tl 2)]) ?ht rfl ?hbody
          case ht =>
            by_cases h1 : rows[1]? = some rOf
            · exact tOr (tVal (eMeth meth_skip (skip_y g.len h1) rfl (eName rfl rfl) (.head _) (esCons eStr (esCons eStr esNil)) rfl)) (b₂ := false) (fun q => nomatch q) (fun _ => rfl)
            · have h2 := ho.resolve_left h1
              exact tOr (tVal (eMeth meth_skip (skip_n g.len h1) rfl (eName rfl rfl) (.head _) (esCons eStr (esCons eStr esNil)) rfl)) (fun _ => (tVal (eMeth meth_skip (skip_y g.len h2) rfl (eName rfl rfl) (.head _) (esCons eStr (esCons eStr esNil)) rfl))) (fun q => nomatch q)
          case hbody =>
            have hl1 : 1 < rows.length := by
              rcases ho with h | h <;> exact (List.getElem?_eq_some_iff.mp h).1
            by_cases hl : rows.length = 2
            · refine' bExpX (eMethX meth_take (take_n g (Nat.le_of_eq hl)) rfl (eName rfl rfl) (.head _) (esCons eStr esNil) rfl) ?_
              show FO.exc _ = _
              unfold cpOut
              rw [cp_lib hr h3 ho hl]
              show FO.exc _ = FO.exc 1
              unfold tellAt
              rw [if_neg (fun z : rows = [] => by rw [z] at hl; cases hl), hl]
              rfl
            · obtain ⟨r2, h2⟩ : ∃ r2, rows[2]? = some r2 := ⟨_, List.getElem?_eq_getElem (by omega)⟩
              have e : cpOut wd tl rows = tlOut wd tl rows r 3 := by
                unfold cpOut tlOut
                rw [cp_lib2 hr h3 ho hl]
              rw [e]
              exact bExp (eMeth meth_take (take_s g h2) rfl (eName rfl rfl) (.head _) (esCons eStr esNil) rfl) (hend 3)
        · have e : cpOut wd tl rows = tlOut wd tl rows r 1 := by
            unfold cpOut tlOut
            rw [cp_no hr h3 ho]
          rw [e]
          exact bIfF (tOr (tVal (eMeth meth_skip (skip_n g.len (fun q => ho (.inl q))) rfl (eName rfl rfl) (.head _) (esCons eStr (esCons eStr esNil)) rfl)) (fun _ => (tVal (eMeth meth_skip (skip_n g.len (fun q => ho (.inr q))) rfl (eName rfl rfl) (.head _) (esCons eStr (esCons eStr esNil)) rfl))) (fun q => nomatch q)) rfl (hend 1)
      case tail =>
        intro i
        by_cases h4 : rows[i]? = some rRep
        · refine' bIfT (tVal (eMeth meth_skip (skip_y g.len h4) rfl (eName rfl rfl) (.head _) (esCons eStr (esCons eStr esNil)) rfl)) rfl ?_
          cases h5 : pairsR rows rows.length (i + 1) with
          | error j =>
            refine' bRetX (eTupX (ersNext (eUpper (eTok (r := r) (i := 0) tkown_worth (eName rfl rfl) tk_worth) hf) (ersHere (eCallX (pairs_n g h5) rfl (eGlob (f := 154) (fun P => rfl) rfl rfl rfl) (esCons (eName rfl rfl) (esCons (eGlob (f := 140) (fun P => rfl) rfl rfl rfl) esNil)) rfl (fun P => rfl))))) ?_
            show FO.exc _ = _
            unfold tlOut tailR
            rw [if_pos h4, h5]
          | ok p =>
            refine' bRet (eTup (esCons (eUpper (eTok (r := r) (i := 0) tkown_worth (eName rfl rfl) tk_worth) hf) (esCons (eCall (pairs_y g h5) rfl (eGlob (f := 154) (fun P => rfl) rfl rfl rfl) (esCons (eName rfl rfl) (esCons (eGlob (f := 140) (fun P => rfl) rfl rfl rfl) esNil)) rfl (fun P => rfl)) esNil))) ?_
            show FO.ret _ _ = _
            unfold tlOut tailR
            rw [if_pos h4, h5]
            rfl
        · by_cases h5 : rows[i]? = some rDot
          · refine' bIfF (tVal (eMeth meth_skip (skip_n g.len h4) rfl (eName rfl rfl) (.head _) (esCons eStr (esCons eStr esNil)) rfl)) rfl (bExp (eMeth meth_need (need_y g h5) rfl (eName rfl rfl) (.head _) (esCons eStr (esCons eStr (esCons eStr esNil))) rfl) (bRet (eTup (esCons (eUpper (eTok (r := r) (i := 0) tkown_worth (eName rfl rfl) tk_worth) hf) (esCons (eLst esNil) esNil))) ?_))
            show FO.ret _ _ = _
            unfold tlOut tailR
            rw [if_neg h4, if_pos h5]
            rfl
          · refine' bIfF (tVal (eMeth meth_skip (skip_n g.len h4) rfl (eName rfl rfl) (.head _) (esCons eStr (esCons eStr esNil)) rfl)) rfl (bExpX (eMethX meth_need (need_n g h5) rfl (eName rfl rfl) (.head _) (esCons eStr (esCons eStr (esCons eStr esNil))) rfl) ?_)
            show FO.exc _ = _
            unfold tlOut tailR
            rw [if_neg h4, if_neg h5]
end
end Mine
end

noncomputable section
open PySem PySem.W PyProof.Rows PySem.Calls PySem.Spec
set_option Elab.async false
set_option linter.unusedVariables false
namespace Mine
set_option maxRecDepth 100000
set_option maxHeartbeats 8000000
section
variable {n k : Nat} {fi : Fi} {L : Addr} {ev : Env} {c : Fc fi L} {δ δ' δc : Loc} {τ τ' : Tm} {μ μ₀ μ₁ μ₂ μ' ν : Mus} {d d₁ d₂ : Dt} {ds es : List Dt} {b : Bool} {pos p1 p2 : Pos} {x y : Str} {e e₁ e₂ target iter elt : Expr} {v : Value} {i : Nat} {h h' : Heap} {tk : Nat} {Q E : Value → Shared → Prop} {rest body : List Stmt} {O : Out → Prop} {a l I C : Addr} {k₁ k₂ : Mo}
theorem St.lose (S : St c δ τ ((a, k₁) :: μ) h) (hs : ∀ b o, b ≠ a → h.get? b = some o → h'.get? b = some o) : St c δ τ μ h' := by
  obtain ⟨m, imm, mu, F, N, s, l, t, u⟩ := S
  cases mu with
  | nil => exact u.elim
  | cons p mu =>
    obtain ⟨a', o⟩ := p
    have e : a' = a := u.1
    subst e
    have hn := N (a', o) (.head _)
    refine ⟨m, imm, mu, ⟨F.ns.at' fun o e => hs _ o (Ne.symm hn.2.1) e, fun b o e => hs b o (fun z => by rw [z, hn.2.2] at e; cases e) (F.keep b o e), F.above⟩, fun p hp => ⟨hs _ _ (fun z => ?_) (N p (.tail _ hp)).1, (N p (.tail _ hp)).2⟩, ⟨fun p hp => s.off p (.tail _ hp), (List.nodup_cons.mp s.nd).2⟩, l, t, u.2.2⟩
    rcases List.mem_append.mp hp with q | q
    · exact (List.nodup_cons.mp s.nd).1 (List.mem_map.mpr ⟨p, q, z⟩)
    · exact s.off (a', o) (.head _) p q z.symm
theorem St.loses {own : Mus} (S : St c δ τ (own ++ μ) h) : St c δ τ μ h := by
  induction own with
  | nil => exact S
  | cons p own ih => exact ih (S.lose fun _ _ _ e => e)
theorem St.isIt (S : St c δ τ ((I, .lit l i) :: μ) h) : h.IsListIter I l i := by
  obtain ⟨o, imm, ho, ⟨e1, e2⟩, _⟩ := S.muAt
  exact ⟨o, ho, e1, e2⟩
theorem nextL {K : Option Value → Shared → Prop} (S : St c δ τ ((I, .lit l i) :: μ) h) (ht : τ (.ref l) (.list ds)) (hn : ds[i]? = none → ∀ h', St c δ τ μ h' → K none (c.st h' tk))
    (hs : ∀ d, ds[i]? = some d → ∀ v h', St c δ (τ.add v d) ((I, .lit l (i + 1)) :: μ) h' → K (some v) (c.st h' tk)) : wpAny (model prog0 c.w) c.A (pyNext (.ref I)) K E (c.st h tk) := by
  obtain ⟨l', vs, el, hl, hlen, get⟩ := S.list ht
  cases el
  cases hd : ds[i]? with
  | none =>
    refine wpAny_pyNext_list_end (s := c.st h tk) c.hd S.isIt hl (by simp; exact hlen ▸ List.getElem?_eq_none_iff.mp hd) fun h' hx => hn hd h' (S.lose fun b o hb e => hx b o hb e)
  | some d =>
    obtain ⟨u, hu, S'⟩ := get i d hd
    refine wpAny_pyNext_list_item (s := c.st h tk) S.isIt hl (by simpa using hu) fun h' hit hsb => hs d hd u h' ?_
    obtain ⟨o, ho, e1, e2⟩ := hit
    exact S'.upd hsb ho fun imm o t m g => ⟨e1, e2⟩
/-- a value is given to a target -/
def Asg {fi : Fi} {L : Addr} (c : Fc fi L) (env : Env) (target : Expr) (d : Dt) (δ : Loc) (μ : Mus) (δ' : Loc) (μ' : Mus) : Prop :=
  ∀ (τ : Tm) (ν : Mus) (v : Value) (h : Heap) (tk : Nat) (Q : Unit → Shared → Prop) (E : Value → Shared → Prop), τ v d → St c δ τ (μ ++ ν) h → (∀ h' tk', St c δ' τ (μ' ++ ν) h' → Q () (c.st h' tk')) → wpAny (model prog0 c.w) c.A (assign target env v) Q E (c.st h tk)
theorem agName (hx : fi.sc.names.lookup x = some .local) : Asg c (fi.env L) (.Name x pos) d δ μ ((x, d) :: δ) μ := by
  intro τ ν v h tk Q E hv S K
  obtain ⟨m, hm, st⟩ := S.store x hv
  exact wpAny_assign_Name (wpAny_storeName_local hx hm (fun h'' hn hsb => K _ _ (st h'' hn hsb)) (by show (fi.sc.kind == .class || (fi.sc.kind == .module && L != mainGlobals)) = false; rw [c.fn]; rfl))
theorem St.isTuple (S : St c δ τ μ h) (ht : τ v (.tuple [d₁, d₂])) : ∃ t u w, v = .ref t ∧ h.IsTuple t #[u, w] ∧ St c δ ((τ.add u d₁).add w d₂) μ h := by
  obtain ⟨m, imm, mu, F, N, s, lo, t, u⟩ := S
  have q := t v _ ht
  cases q with
  | tuple hm r =>
    cases r with
    | cons h1 r => cases r with
      | cons h2 r => cases r; exact ⟨_, _, _, rfl, ⟨_, (N _ (List.mem_append.mpr (.inr hm))).1, rfl, _, rfl⟩, m, imm, mu, F, N, s, lo, (t.add h1).add h2, u⟩
theorem St.ext (S : St c δ τ μ h) (hs : ∀ b o, b ≠ h.objs.size → h.get? b = some o → h'.get? b = some o) : St c δ τ μ h' := S.kept fun b o e => hs b o (Nat.ne_of_lt (Heap.lt_size e)) e
theorem agPair {pt : Pos} {k : Nat} (hx : fi.sc.names.lookup x = some .local) (hy : fi.sc.names.lookup y = some .local) : Asg c (fi.env L) (.Tuple [.Name x p1, .Name y p2] k pt) (.tuple [d₁, d₂]) δ μ ((y, d₂) :: (x, d₁) :: δ) μ := by
  intro τ ν v h tk Q E hv S K
  obtain ⟨t, u, w, rfl, hT, S'⟩ := S.isTuple hv
  refine wpAny_assign_Tuple (s := c.st h tk) c.hd hT rfl rfl fun h₁ he => ?_
  have S₁ := S'.ext he
  show wpAny _ _ (assignInOrder [assign (.Name x p1) (fi.env L), assign (.Name y p2) (fi.env L)] [u, w]) _ _ _
  refine assignInOrder_cons (agName hx _ ν u h₁ tk _ _ (.inr (.inl ⟨rfl, rfl⟩)) S₁ fun h₂ tk₂ S₂ => ?_)
  refine assignInOrder_cons (agName hy _ ν w h₂ tk₂ _ _ (.inl ⟨rfl, rfl⟩) S₂ fun h₃ tk₃ S₃ => ?_)
  exact assignInOrder_nil (K _ _ S₃.drop.drop)

/-- one turn of an iterator: the next item is given to the target -/
def Turn {fi : Fi} {L : Addr} (c : Fc fi L) (env : Env) (target : Expr) (I : Addr) (ow : Nat → Mus → Prop) (τs : Tm) (ds : List Dt) (ok : Mus → Prop) (up : Dt → Loc × Mus → Loc × Mus) : Prop :=
  ∀ (i : Nat) (own : Mus) (τ : Tm) (δ : Loc) (μ ν : Mus) (h : Heap) (tk : Nat) (N K : Shared → Prop) (E : Value → Shared → Prop), ow i own → ok μ → (∀ v d, τs v d → τ v d) → St c δ τ (own ++ (μ ++ ν)) h →
    (ds[i]? = none → ∀ h' tk', St c δ τ (μ ++ ν) h' → N (c.st h' tk')) →
    (∀ d, ds[i]? = some d → ∀ own' h' tk', ow (i + 1) own' → St c (up d (δ, μ)).1 τ (own' ++ ((up d (δ, μ)).2 ++ ν)) h' → K (c.st h' tk')) →
    wpAny (model prog0 c.w) c.A (pyNext (.ref I)) (fun r s₁ => match r with
      | none => N s₁
      | some v => wpAny (model prog0 c.w) c.A (letOwnedTupleGo target (.ref I) v) (fun _ s₀ => wpAny (model prog0 c.w) c.A (assign target env v) (fun _ s₂ => K s₂) E s₀) E s₁) E (c.st h tk)
def Self {fi : Fi} {L : Addr} (c : Fc fi L) (I : Addr) (ow : Nat → Mus → Prop) : Prop :=
  ∀ (own : Mus) (δ : Loc) (τ : Tm) (μ : Mus) (h : Heap) (tk : Nat) (Q E : Value → Shared → Prop), ow 0 own → St c δ τ (own ++ μ) h → Q (.ref I) (c.st h tk) → wpAny (model prog0 c.w) c.A (pyIter (.ref I)) Q E (c.st h tk)
/-- what is gone through: these items; up says what a turn binds -/
def Iter (n : Nat) (fi : Fi) (L : Addr) (ev : Env) (envs : Addr → Env) (target : Expr) (δ : Loc) (μ : Mus) (iter : Expr) (μ' : Mus) (ds : List Dt) (oks : Addr → Mus → Prop) (ups : Addr → Dt → Loc × Mus → Loc × Mus) : Prop :=
  ∀ (c : Fc fi L) (τ : Tm) (ν : Mus) (Q E : Value → Shared → Prop) (h : Heap) (tk : Nat), Room n c.A → St c δ τ (μ ++ ν) h →
    (∀ I ow own τ' h' tk', ow 0 own → (∀ v d, τ v d → τ' v d) → St c δ τ' (own ++ (μ' ++ ν)) h' → (∀ C, Turn c (envs C) target I ow τ' ds (oks C) (ups C)) → Self c I ow → Q (.ref I) (c.st h' tk')) →
    wpAny (model prog0 c.w) c.A (eval iter ev) (fun xv s₁ => wpAny (model prog0 c.w) c.A (pyIter xv) Q E s₁) E (c.st h tk)
/-- loops over a list -/
noncomputable def Lp (bind : Dt → Loc → Loc) (n : Nat) (fi : Fi) (L : Addr) (body rest : List Stmt) (O : Out → Prop) : List Dt → Loc → Mus → Prop
  | [], δ, μ => Bd n fi L δ μ rest O
  | d :: ds, δ, μ => Bd n fi L (bind d δ) μ body (Again (Lp bind n fi L body rest O ds) O)
abbrev upP (bind : Dt → Loc → Loc) (_ : Addr) (d : Dt) (p : Loc × Mus) : Loc × Mus := (bind d p.1, p.2)
theorem iterL {envs : Addr → Env} {oks : Addr → Mus → Prop} {ups : Addr → Dt → Loc × Mus → Loc × Mus} (hi : ED n fi L ev δ μ iter μ₁ (.list ds)) (ha : ∀ d ∈ ds, ∀ (c : Fc fi L) C δ μ, oks C μ → Asg c (envs C) target d δ μ (ups C d (δ, μ)).1 (ups C d (δ, μ)).2) : Iter n fi L ev envs target δ μ iter μ₁ ds oks ups := by
  intro c τ ν Q E h tk R S K
  refine hi c τ ν _ _ h tk R S fun v h' tk' S' => ?_
  obtain ⟨l, vs, rfl, hL, -, -⟩ := S'.list (.inl ⟨rfl, rfl⟩)
  refine wpAny_pyIter_list (s := c.st h' tk') hL ?_
  have S₁ := (S'.pushMu (o := { cls := .type "list_iterator", data := .fields #[.ref l, .int 0 0] }) (k := .lit l 0) rfl fun _ _ => ⟨rfl, rfl⟩).drop
  refine K _ (fun i own => own = [(h'.objs.size, .lit l i)]) [(h'.objs.size, .lit l 0)] _ _ tk' rfl (fun _ _ e => .inr e) S₁ (fun C => ?_) ?_
  · rintro i _ τ₂ δ₂ μ₂ ν₂ h₂ tk₂ N K E rfl hk ht S₂ hn hs
    refine nextL S₂ (ht _ _ (.inl ⟨rfl, rfl⟩)) (fun q h₃ S₃ => hn q h₃ tk₂ S₃) fun d hd v h₃ S₃ => ?_
    refine letGo_listiter S₃.isIt (ha d (List.mem_of_getElem? hd) c C δ₂ μ₂ hk _ ((_, .lit l (i + 1)) :: ν₂) v h₃ tk₂ _ _ (.inl ⟨rfl, rfl⟩) (S₃.perm List.perm_middle.symm) fun h₄ tk₄ S₄ => ?_)
    exact hs d hd _ h₄ tk₄ rfl (S₄.perm List.perm_middle).drop
  · rintro _ δ₂ τ₂ μ₂ h₂ tk₂ Q E rfl S₂ q
    exact wpAny_pyIter_listiter (s := c.st h₂ tk₂) S₂.isIt q
theorem bFor {bind : Dt → Loc → Loc} (hi : Iter n fi L (fi.env L) (fun _ => fi.env L) target δ μ iter μ₁ ds (fun _ _ => True) (upP bind)) (hl : Lp bind n fi L body rest O ds δ μ₁) (hs : ∀ env x, foldedSetIterable iter env x = pure x := by intro _ _; rfl) :
    Bd n fi L δ μ (.For target iter body [] pos :: rest) O := by
  intro c τ ν Q E hh tk R S kr kn ke
  rw [execs_cons]
  refine wpAny_bind (wpAny_For (hi c τ ν _ _ hh tk R S fun I ow own τ' h' tk' h0 hτ S₁ T _ => ?_) (hs _))
  refine codeAny_mono (codeAny_forLoop_any (R := AftW c (fi.env L) rest Q E) (fun k s => ∃ i own δ μ h tk, s = c.st h tk ∧ k = ds.length - i ∧ ow i own ∧ St c δ τ' (own ++ (μ ++ ν)) h ∧ Lp bind n fi L body rest O (ds.drop i) δ μ) (fun k s hI => ?_) ds.length ⟨0, own, δ, μ₁, _, _, rfl, rfl, h0, S₁, hl⟩) fun r s' q => ?_
  · obtain ⟨i, own, δ, μ, h, tk, rfl, hk, ho, S, hl⟩ := hI
    refine T 0 i own τ' δ μ ν h tk _ _ _ ho trivial (fun _ _ e => e) S (fun hn h' tk' S' => ?_) fun d hd own' h' tk' ho' S' => ?_
    · rw [List.drop_eq_nil_of_le (List.getElem?_eq_none_iff.mp hn)] at hl
      exact wpAny_execs_nil (hl c τ ν Q E h' tk' R (S'.weaken (fun _ _ e => e) hτ) kr kn ke)
    · have hlt := (List.getElem?_eq_some_iff.mp hd).1
      have hdr : ds.drop i = d :: ds.drop (i + 1) := by rw [List.drop_eq_getElem_cons hlt]; congr 1; exact Option.some.inj ((List.getElem?_eq_getElem hlt).symm.trans hd)
      rw [hdr] at hl
      have pm : ∀ {a b : Mus}, (a ++ (b ++ ν)).Perm (b ++ (a ++ ν)) := fun {a b} => by rw [← List.append_assoc, ← List.append_assoc]; exact List.perm_append_comm.append_right ν
      refine hl c τ' (own' ++ ν) _ _ h' tk' R (S'.perm pm) (fun v d' δ'' μ'' h₃ tk₃ o S₃ => ?_) (fun δ'' μ'' h₃ tk₃ o S₃ => ?_) fun x δ'' j h₃ tk₃ o X => ?_
      · exact kr v d' δ'' μ'' h₃ tk₃ o (((S₃.perm pm).loses).weaken (fun _ _ e => e) fun _ _ e => e.elim .inl fun e => .inr (hτ _ _ e))
      · exact ⟨ds.length - (i + 1), by omega, i + 1, own', δ'', μ'', h₃, tk₃, rfl, rfl, ho', S₃.perm pm, o⟩
      · exact X.noted fun h₁ X₁ => X₁.back fun h₂ X₂ => ke x δ'' j h₂ tk₃ o (X₂.any.loses.weaken (fun _ _ e => e) fun _ _ e => hτ _ _ e)
  · cases r with
    | ok f => cases f <;> first | exact q | exact wpAny_pure q
    | error e => exact q
end
end Mine
end

noncomputable section
open PySem PySem.W PyProof.Rows PySem.Calls PySem.Spec
set_option Elab.async false
set_option linter.unusedVariables false
namespace Mine
set_option maxRecDepth 100000
set_option maxHeartbeats 8000000
section
variable {n k : Nat} {fi : Fi} {L : Addr} {ev : Env} {c : Fc fi L} {δ δ' δc : Loc} {τ τ' : Tm} {μ μ₀ μ₁ μ₂ μ' ν : Mus} {d d₁ d₂ : Dt} {ds es : List Dt} {b : Bool} {pos p1 p2 : Pos} {x y : Str} {e e₁ e₂ target iter elt : Expr} {v : Value} {i : Nat} {h h' : Heap} {tk : Nat} {Q E : Value → Shared → Prop} {rest body : List Stmt} {O : Out → Prop} {a l I C : Addr} {k₁ k₂ : Mo} {sc : Scope} {cl : List (Str × Addr)}
def okC (C : Addr) (μ : Mus) : Prop := ∃ δc μr, μ = (C, .ns δc) :: μr
noncomputable def upC (bind : Dt → Loc → Loc) (C : Addr) (d : Dt) : Loc × Mus → Loc × Mus
  | (δ, (C', .ns δc) :: μ) => (δ, (C', .ns (bind d δc)) :: μ)
  | p => p
theorem St.nsAt (S : St c δ τ ((C, .ns δc) :: μ) h) : ∃ m, h.Ns C m := by
  obtain ⟨o, imm, ho, ⟨m, ⟨es, ep, h1, h2, h3⟩, _⟩, _⟩ := S.muAt
  exact ⟨m, o, es, ep, ho, h1, h2, h3⟩
/-- the elements, turn by turn -/
noncomputable def Cq (bind : Dt → Loc → Loc) (n : Nat) (fi : Fi) (L : Addr) (env : Env) (elt : Expr) (δ : Loc) (C : Addr) (μ' : Mus) : List Dt → Loc → Mus → List Dt → Prop
  | [], _, μ, es => es = [] ∧ μ = μ'
  | d :: ds, δc, μ, es => ∃ μ₁ e es', es = e :: es' ∧ ED n fi L env δ ((C, .ns (bind d δc)) :: μ) elt ((C, .ns (bind d δc)) :: μ₁) e ∧ Cq bind n fi L env elt δ C μ' ds (bind d δc) μ₁ es'
theorem compCore {use : Option (Value → Sem Unit)} {bind : Dt → Loc → Loc} (hi : Iter n fi L ev (fun C => compEnvC sc cl C ev) target δ μ iter μ₁ ds okC (upC bind)) (hclos : closureFor sc ev = pure cl) (hcell : ∀ y ∈ sc.names, y.2 ≠ .cell) (hkind : sc.kind = .function)
    (hnames : ∀ y ∈ sc.names, y.2 = .local → sc.names.lookup y.1 = some .local) (hq : ∀ C, Cq bind n fi L (compEnvC sc cl C ev) elt δ C μ₂ ds [] μ₁ es) (hl : ds.length ≤ 1000000) (hs : ∀ env x, foldedSetIterable iter env x = pure x := by intro _ _; rfl) (R : Room n c.A) (S : St c δ τ (μ ++ ν) h)
    (K : ∀ (D C : Addr) (h' : Heap) (tk' : Nat) (δc : Loc) (τ' : Tm), (∀ v d, τ v d → τ' v d) → St c δ (τ'.add (.ref D) (.obj D)) ((C, .ns δc) :: (μ₂ ++ ((D, .lst es) :: ν))) h' → compPost (model prog0 c.w) c.A E use Q (.ref D) C (.ok .next) (c.st h' tk')) :
    wpAny (model prog0 c.w) c.A (comprehension (.ListComp elt [⟨target, iter, [], 0⟩] sc pos) sc ev p1 (newList []) false (eval iter ev) use) Q E (c.st h tk) := by
  refine wpAny_comprehension_free (use := use) rfl (hs ev) hclos hkind hnames (hi c τ ν _ _ h tk R S fun I ow own τ' h' tk' h0 hτ S₁ T sf => ?_)
  refine wpAny_newObj_type (wpAny_newFunctionEnv hcell (by intro y hy; simp at hy) (fun h₁ hns₁ hsb₁ => ?_) hkind)
  dsimp only at hns₁ hsb₁ ⊢
  have S₂ := (S₁.pushMu (o := { cls := .type "list", data := .seq ([] : List Value).toArray }) (k := .lst []) rfl fun imm t => ⟨[], 0, rfl, .nil⟩)
  have S₃ := (S₂.pushMu (o := { cls := .type "dict", data := .dict #[] }) (k := .fix _) rfl fun imm t => rfl).drop
  generalize hD : h'.objs.size = D at S₂ S₃ hns₁ hsb₁ ⊢
  generalize hC : (h'.push { cls := .type "list", data := .seq ([] : List Value).toArray }).objs.size = C at S₂ S₃ hns₁ hsb₁ ⊢
  obtain ⟨o, eso, ep, ho, hd, hk, hm⟩ := id hns₁
  have S₄ := S₃.upd (k₂ := .ns []) hsb₁ ho fun imm o' t m g => ⟨_, ⟨eso, ep, hd, hk, hm⟩, fun x d e => nomatch e⟩
  have S₅ : St c δ (τ'.add (.ref D) (.obj D)) (own ++ (((C, .ns []) :: μ₁) ++ ((D, .lst []) :: ν))) h₁ := S₄.perm (by
    refine List.Perm.trans (.trans (.swap _ _ _) ?_) (List.perm_append_comm (l₁ := ((C, Mo.ns []) :: μ₁) ++ ((D, .lst []) :: ν)))
    rw [List.cons_append, List.cons_append]
    refine (List.Perm.swap _ _ _).trans (.cons _ ?_)
    refine List.Perm.trans (.cons _ (List.perm_append_comm (l₁ := own))) ?_
    rw [List.append_assoc, List.append_assoc]
    exact (List.perm_middle (l₁ := μ₁)).symm)
  have loop : codeAny (model prog0 c.w) c.A (.compLoop (.ListComp elt [⟨target, iter, [], 0⟩] sc pos) 0 (.ref I) (.ref D) (compEnvC sc cl C ev)) (compPost (model prog0 c.w) c.A E use Q (.ref D) C) (c.st h₁ (tk' + ([] : List (Str × Value)).length)) := by
    refine kcp_loop (fun k s => ∃ i own δc μ don es' h tk, s = c.st h tk ∧ k = ds.length - i ∧ ow i own ∧ don.length = i ∧ es = don ++ es' ∧ St c δ (τ'.add (.ref D) (.obj D)) (own ++ (((C, .ns δc) :: μ) ++ ((D, .lst don) :: ν))) h ∧ Cq bind n fi L (compEnvC sc cl C ev) elt δ C μ₂ (ds.drop i) δc μ es') (fun k s hI => ?_) ds.length ⟨0, own, [], μ₁, [], es, _, _, rfl, rfl, h0, rfl, rfl, S₅, hq C⟩
    obtain ⟨i, own, δc, μ, don, es', h, tk, rfl, hk, ho, hdon, hes, S, hc⟩ := hI
    refine T C i own (τ'.add (.ref D) (.obj D)) δ ((C, .ns δc) :: μ) ((D, .lst don) :: ν) h tk (compPost (model prog0 c.w) c.A E use Q (.ref D) C (.ok .next)) _ _ ho ⟨_, _, rfl⟩ (fun _ _ e => .inr e) S (fun hn h' tk' S' => ?_) fun d hd own' h' tk' ho' S' => ?_
    · rw [List.drop_eq_nil_of_le (List.getElem?_eq_none_iff.mp hn)] at hc
      obtain ⟨rfl, rfl⟩ := hc
      rw [List.append_nil] at hes
      subst hes
      exact K D C h' tk' δc τ' hτ S'
    · have hlt := (List.getElem?_eq_some_iff.mp hd).1
      have hdr : ds.drop i = d :: ds.drop (i + 1) := by rw [List.drop_eq_getElem_cons hlt]; congr 1; exact Option.some.inj ((List.getElem?_eq_getElem hlt).symm.trans hd)
      rw [hdr] at hc
      obtain ⟨μ₃, e, es₂, rfl, he, hc⟩ := hc
      have S₆ : St c δ (τ'.add (.ref D) (.obj D)) (((C, .ns (bind d δc)) :: μ) ++ (own' ++ ((D, .lst don) :: ν))) h' := S'.perm (by
        show (own' ++ (((C, .ns (bind d δc)) :: μ) ++ ((D, .lst don) :: ν))).Perm _
        rw [← List.append_assoc, ← List.append_assoc]; exact List.perm_append_comm.append_right _)
      refine he c _ _ _ _ h' tk' R S₆ fun v h₂ tk₂ S₇ => ?_
      have S₈ : St c δ ((τ'.add (.ref D) (.obj D)).add v e) ((D, .lst don) :: (own' ++ (((C, .ns (bind d δc)) :: μ₃) ++ ν))) h₂ := S₇.perm (by
        rw [← List.append_assoc]
        refine List.perm_middle.trans (.cons _ ?_)
        rw [← List.append_assoc]; exact List.perm_append_comm.append_right _)
      obtain ⟨o₂, imm₂, ho₂, ⟨vs₂, n₂, eo, r₂⟩, _⟩ := S₈.muAt
      subst eo
      refine append_at (s := c.st h₂ tk₂) ho₂ (fun h₃ hs₃ ho₃ => ?_) (by rw [List.size_toArray, r₂.length]; exact fits (by omega))
      have S₉ := S₈.upd hs₃ ho₃ (k₂ := .lst (don ++ [e])) fun imm o t m hg => by
        obtain ⟨vs', n', e', r⟩ := m
        rw [ho₂] at hg
        cases hg
        have e2 : vs₂ = vs' := by
          have e3 : vs₂.toArray = vs'.toArray := by injection e' with _ _ e4 _; injection e4
          simpa using e3
        subst e2
        exact ⟨vs₂ ++ [v], n₂ + 1, by simp, r.append (.cons (t _ _ (.inl ⟨rfl, rfl⟩)) .nil)⟩
      refine ⟨ds.length - (i + 1), by omega, i + 1, own', bind d δc, μ₃, don ++ [e], es₂, h₃, tk₂, rfl, rfl, ho', by simp [hdon], by simpa using hes, S₉.drop.perm ?_, hc⟩
      rw [← List.append_assoc, ← List.append_assoc]
      exact List.perm_middle.symm
  exact codeAny_compStart_list loop (sf own _ _ _ _ _ _ _ h0 S₅ loop)
theorem eComp {bind : Dt → Loc → Loc} (hi : Iter n fi L ev (fun C => compEnvC sc cl C ev) target δ μ iter μ₁ ds okC (upC bind)) (hclos : closureFor sc ev = pure cl) (hcell : ∀ y ∈ sc.names, y.2 ≠ .cell) (hkind : sc.kind = .function)
    (hnames : ∀ y ∈ sc.names, y.2 = .local → sc.names.lookup y.1 = some .local) (hq : ∀ C, Cq bind n fi L (compEnvC sc cl C ev) elt δ C μ₂ ds [] μ₁ es) (hl : ds.length ≤ 1000000) (hs : ∀ env x, foldedSetIterable iter env x = pure x := by intro _ _; rfl) :
    ED n fi L ev δ μ (.ListComp elt [⟨target, iter, [], 0⟩] sc pos) μ₂ (.list es) := by
  intro c τ ν Q E h tk R S K
  rw [eval_ListComp]
  refine compCore hi hclos hcell hkind hnames hq hl hs R S fun D C h' tk' δc τ' hτ S' => ?_
  obtain ⟨m, hm⟩ := S'.nsAt
  refine ⟨m, hm, fun h'' hsb => K _ _ _ ?_⟩
  have S'' := ((S'.lose hsb.extBut).perm List.perm_middle)
  exact S''.freeze (fun _ _ e => .inl e) fun v d e => by
    rcases e with ⟨rfl, rfl⟩ | e
    · exact .inr ⟨.inl ⟨rfl, rfl⟩, rfl⟩
    · exact .inl (.inr (hτ _ _ e))
/-- x = [.. for .. in ..] -/
theorem bComp {bind : Dt → Loc → Loc} {px : Pos} (hi : Iter n fi L (fi.env L) (fun C => compEnvC sc cl C (fi.env L)) target δ μ iter μ₁ ds okC (upC bind)) (hclos : closureFor sc (fi.env L) = pure cl) (hcell : ∀ y ∈ sc.names, y.2 ≠ .cell) (hkind : sc.kind = .function)
    (hnames : ∀ y ∈ sc.names, y.2 = .local → sc.names.lookup y.1 = some .local) (hq : ∀ C, Cq bind n fi L (compEnvC sc cl C (fi.env L)) elt δ C μ₂ ds [] μ₁ es) (hl : ds.length ≤ 1000000) (hx : fi.sc.names.lookup x = some .local)
    (hsw : swapsWith (.ListComp elt [⟨target, iter, [], 0⟩] sc p1) (some (.Name x px)) pos.line (fi.env L) = pure true) (hb : Bd n fi L ((x, .list es) :: δ) μ₂ rest O) (hs : ∀ env x, foldedSetIterable iter env x = pure x := by intro _ _; rfl) :
    Bd n fi L δ μ (.Assign [.Name x px] (.ListComp elt [⟨target, iter, [], 0⟩] sc p1) pos :: rest) O := by
  intro c τ ν Q E h tk R S kr kn ke
  refine wpAny_execs_cons ?_
  rw [exec_Assign_Name_used _ _ _ _ hsw]
  refine wpAny_bind (wpAny_standAt (wpAny_bind ?_))
  refine wpAny_bind (wpAny_mono (compCore (use := some (assign (.Name x px) (fi.env L))) (Q := fun _ s' => wpAny (model prog0 c.w) c.A (execs rest (fi.env L)) Q E s') hi hclos hcell hkind hnames hq hl hs R S fun D C h' tk' δc τ' hτ S' => ?_) (fun _ s' hq => wpAny_pure (wpAny_pure hq)) fun _ _ e => e)
  show wpAny _ c.A (assign (.Name x px) (fi.env L) (.ref D)) _ _ _
  obtain ⟨m, hm, st⟩ := S'.store x (.inl ⟨rfl, rfl⟩)
  refine wpAny_assign_Name (wpAny_storeName_local hx hm (fun h₂ hn₂ hs₂ => ?_) (by show (fi.sc.kind == .class || (fi.sc.kind == .module && L != mainGlobals)) = false; rw [c.fn]; rfl))
  have S₂ := st h₂ hn₂ hs₂
  obtain ⟨m₂, hm₂⟩ := S₂.nsAt
  refine ⟨m₂, hm₂, fun h₃ hs₃ => hb c τ ν Q E h₃ _ R ?_ kr kn ke⟩
  refine ((S₂.lose hs₃.extBut).perm List.perm_middle).freeze (fun y d e => ?_) fun v d e => .inl (.inr (hτ _ _ e))
  rw [List.lookup_cons] at e ⊢
  split
  · rename_i q
    rw [q] at e
    cases e
    exact .inr ⟨rfl, rfl⟩
  · rename_i q
    rw [q] at e
    exact .inl e
end
end Mine
end

noncomputable section
open PySem PySem.W PyProof.Rows PySem.Calls PySem.Spec
set_option Elab.async false
set_option linter.unusedVariables false
namespace Mine
set_option maxRecDepth 100000
set_option maxHeartbeats 8000000
section
variable {n k : Nat} {fi : Fi} {L : Addr} {ev env : Env} {c : Fc fi L} {δ δ' δc : Loc} {τ τ' : Tm} {μ μ₀ μ₁ μ₂ μ' ν : Mus} {d d₁ d₂ d₃ : Dt} {ds es : List Dt} {b : Bool} {pos p1 p2 p3 pt pt2 : Pos} {x y z : Str} {e e₁ e₂ target iter elt : Expr} {v : Value} {i : Nat} {h h' : Heap} {tk : Nat} {Q E : Value → Shared → Prop} {rest body : List Stmt} {O : Out → Prop} {a l I C : Addr} {k₁ k₂ : Mo} {sc : Scope} {cl : List (Str × Addr)}
/-- names of a comprehension -/
theorem cName (hk : env.scope.kind = .function) (hx : env.kindOf x = some .local) (hl : env.locals = C) (hd : δc.lookup x = some d) (hb : (x == ("__debug__" : Str)) = false := by decide) : ED n fi L env δ ((C, .ns δc) :: μ) (.Name x pos) ((C, .ns δc) :: μ) d := by
  intro c τ ν Q E h tk R S K
  obtain ⟨m, imm, mu, F, N, s, lo, t, u⟩ := S
  have u0 := u
  cases mu with
  | nil => exact u.elim
  | cons p mu =>
    obtain ⟨a', o⟩ := p
    have e : a' = C := u.1
    subst e
    obtain ⟨mc, ⟨es, ep, h1, h2, h3⟩, hloc⟩ := u.2.1
    obtain ⟨v, hv, hvd⟩ := hloc x d hd
    have hn : h.Ns env.locals mc := ⟨o, es, ep, by rw [hl]; exact (N _ (.head _)).1, h1, h2, h3⟩
    exact wpAny_Name (wpAny_loadName_local hk hx hn hv (K v h tk ⟨m, imm, (a', o) :: mu, F, N, s, lo, t.add hvd, u0⟩)) hb
theorem agNameC (hx : env.kindOf x = some .local) (hl : env.locals = C) (hp : (env.scope.kind == .class || (env.scope.kind == .module && env.locals != env.globals)) = false) : Asg c env (.Name x pos) d δ ((C, .ns δc) :: μ) δ ((C, .ns ((x, d) :: δc)) :: μ) := by
  intro τ ν v h tk Q E hv S K
  obtain ⟨m, hm⟩ := S.nsAt
  refine wpAny_assign_Name (wpAny_storeName_local (m := m) hx (by rw [hl]; exact hm) (fun h'' hn hsb => K _ _ ?_) hp)
  rw [hl] at hn hsb
  obtain ⟨o', es', ep', ho, h1, h2, h3⟩ := id hn
  obtain ⟨o, es, ep, go, g1, g2, g3⟩ := id hm
  refine S.upd hsb ho fun imm o2 t mo hg => ?_
  rw [go] at hg
  cases hg
  obtain ⟨m2, ⟨es2, ep2, f1, f2, f3⟩, hloc⟩ := mo
  rw [g1] at f1
  cases f1
  have e : m2 = m := funext fun y => (f3 y).symm.trans (g3 y)
  subst e
  refine ⟨_, ⟨es', ep', h1, h2, h3⟩, fun y e q => ?_⟩
  rw [List.lookup_cons] at q
  by_cases hy : y = x
  · subst hy
    rw [beq_self_eq_true] at q
    cases q
    exact ⟨v, if_pos rfl, t _ _ hv⟩
  · rw [beq_eq_false_iff_ne.mpr hy] at q
    obtain ⟨z, a, b⟩ := hloc y e q
    exact ⟨z, (if_neg hy).trans a, b⟩
theorem agTup2 {t₁ t₂ : Expr} {k : Nat} {δ₁ : Loc} (h₁ : Asg c env t₁ d₁ δ μ δ₁ μ₁) (h₂ : Asg c env t₂ d₂ δ₁ μ₁ δ' μ') (he : assignEach [t₁, t₂] env = [(false, assign t₁ env), (false, assign t₂ env)] := by rfl) : Asg c env (.Tuple [t₁, t₂] k pt) (.tuple [d₁, d₂]) δ μ δ' μ' := by
  intro τ ν v h tk Q E hv S K
  obtain ⟨t, u, w, rfl, hT, S'⟩ := S.isTuple hv
  refine wpAny_assign_Tuple (s := c.st h tk) c.hd hT (by rw [he]; rfl) (by rw [he]; rfl) fun h₃ hx => ?_
  have S₁ := S'.ext hx
  rw [he]
  show wpAny _ _ (assignInOrder [assign t₁ env, assign t₂ env] [u, w]) _ _ _
  refine assignInOrder_cons (h₁ _ ν u h₃ tk _ _ (.inr (.inl ⟨rfl, rfl⟩)) S₁ fun h₄ tk₄ S₄ => ?_)
  refine assignInOrder_cons (h₂ _ ν w h₄ tk₄ _ _ (.inl ⟨rfl, rfl⟩) S₄ fun h₅ tk₅ S₅ => ?_)
  exact assignInOrder_nil (K _ _ S₅.drop.drop)
/-- enumerate(e) -/
noncomputable def numD : Nat → List Dt → List Dt
  | _, [] => []
  | j, d :: ds => .tuple [.int (j : Nat), d] :: numD (j + 1) ds
theorem numD_get : ∀ (ds : List Dt) (j i : Nat), (numD j ds)[i]? = ds[i]?.map fun d => .tuple [.int ((j + i : Nat) : Int), d]
  | [], _, _ => by simp [numD]
  | _ :: ds, j, 0 => by simp [numD]
  | _ :: ds, j, i + 1 => by
    show (numD (j + 1) ds)[i]? = (ds[i]?).map _
    rw [numD_get ds (j + 1) i, Nat.add_right_comm]; rfl
noncomputable abbrev enObj (it : Addr) (f : Value) (i : Int) (old : Value) : Obj := { cls := .type "enumerate", dict := none, data := .fields #[f, .bool false, .ref it, rawInt i, .none, old], slots := #[] }
theorem St.two {b : Addr} (S : St c δ τ ((a, k₁) :: (b, k₂) :: μ) h) : a ≠ b ∧ a < h.objs.size ∧ b < h.objs.size := by
  obtain ⟨m, imm, mu, F, N, s, l, t, u⟩ := S
  match mu, u with
  | (a', o) :: (b', o') :: mu, u =>
    have e1 : a' = a := u.1
    have e2 : b' = b := u.2.2.1
    subst e1; subst e2
    exact ⟨fun e => (List.nodup_cons.mp s.nd).1 (by rw [e]; exact .head _), Heap.lt_size (N (a', o) (.head _)).1, Heap.lt_size (N (b', o') (.tail _ (.head _))).1⟩
/-- two of the changing things change, and a new object is there -/
theorem St.upd2 {b T : Addr} {k₁' k₂' : Mo} {o₁ o₂ oT : Obj} {dT : Dt} (S : St c δ τ ((a, k₁) :: (b, k₂) :: μ) h) (hs : ∀ x o, x ≠ a → x ≠ b → h.get? x = some o → h'.get? x = some o) (h1 : h'.get? a = some o₁) (h2 : h'.get? b = some o₂) (h3 : h'.get? T = some oT) (hT : T = h.objs.size)
    (m1 : ∀ imm, MoIn c.P imm o₁ k₁') (m2 : ∀ imm, MoIn c.P imm o₂ k₂') (mT : ∀ imm, TmIn c.P imm τ → DtIn c.P ((T, oT) :: imm) (.ref T) dT) : St c δ (τ.add (.ref T) dT) ((a, k₁') :: (b, k₂') :: μ) h' := by
  obtain ⟨m, imm, mu, F, N, s, l, t, u⟩ := S
  match mu, u with
  | (a', o) :: (b', o') :: mu, u =>
    have e1 : a' = a := u.1
    have e2 : b' = b := u.2.2.1
    subst e1; subst e2
    have na := N (a', o) (.head _)
    have nb := N (b', o') (.tail _ (.head _))
    have lt : ∀ p ∈ ((a', o) :: (b', o') :: mu) ++ imm, p.1 < T := fun p hp => hT ▸ Heap.lt_size (N p hp).1
    have off : ∀ p ∈ mu ++ imm, p.1 ≠ a' ∧ p.1 ≠ b' := fun p hp => by
      rcases List.mem_append.mp hp with q | q
      · exact ⟨fun z => (List.nodup_cons.mp s.nd).1 (List.mem_map.mpr ⟨p, .tail _ q, z⟩), fun z => (List.nodup_cons.mp (List.nodup_cons.mp s.nd).2).1 (List.mem_map.mpr ⟨p, q, z⟩)⟩
      · exact ⟨fun z => s.off (a', o) (.head _) p q z.symm, fun z => s.off (b', o') (.tail _ (.head _)) p q z.symm⟩
    have hsub : ∀ p ∈ imm, p ∈ (T, oT) :: imm := fun _ q => .tail _ q
    have gT : c.g.get? T = none := by
      cases q : c.g.get? T with
      | none => rfl
      | some o => exact absurd (Heap.lt_size (F.keep _ _ q)) (hT ▸ Nat.lt_irrefl _)
    have lT : T ≠ c.L := fun z => by have := F.ns.lt; rw [← z, hT] at this; exact absurd this (Nat.lt_irrefl _)
    refine ⟨m, (T, oT) :: imm, (a', o₁) :: (b', o₂) :: mu, ⟨F.ns.at' fun o e => hs _ o (Ne.symm na.2.1) (Ne.symm nb.2.1) e, fun x o e => hs x o (fun z => by rw [z, na.2.2] at e; cases e) (fun z => by rw [z, nb.2.2] at e; cases e) (F.keep x o e), F.above⟩, fun p hp => ?_, ⟨fun p hp q hq => ?_, s.nd⟩, l.mono hsub, (t.mono hsub).add (mT imm t), rfl, m1 _, rfl, m2 _, u.2.2.2.2.mono hsub⟩
    · rcases List.mem_cons.mp hp with rfl | hp
      · exact ⟨h1, na.2⟩
      · rcases List.mem_cons.mp hp with rfl | hp
        · exact ⟨h2, nb.2⟩
        · rcases List.mem_append.mp hp with q | q
          · have z := List.mem_append.mpr (.inl q : p ∈ mu ∨ p ∈ imm)
            exact ⟨hs _ _ (off p z).1 (off p z).2 (N p (.tail _ (.tail _ z))).1, (N p (.tail _ (.tail _ z))).2⟩
          · rcases List.mem_cons.mp q with rfl | q
            · exact ⟨h3, lT, gT⟩
            · have z := List.mem_append.mpr (.inr q : p ∈ mu ∨ p ∈ imm)
              exact ⟨hs _ _ (off p z).1 (off p z).2 (N p (.tail _ (.tail _ z))).1, (N p (.tail _ (.tail _ z))).2⟩
    · have hp' : ∃ o'', (p.1, o'') ∈ (a', o) :: (b', o') :: mu := by
        rcases List.mem_cons.mp hp with rfl | hp
        · exact ⟨o, .head _⟩
        · rcases List.mem_cons.mp hp with rfl | hp
          · exact ⟨o', .tail _ (.head _)⟩
          · exact ⟨p.2, .tail _ (.tail _ hp)⟩
      obtain ⟨o'', hp'⟩ := hp'
      rcases List.mem_cons.mp hq with rfl | hq
      · exact Nat.ne_of_lt (lt (p.1, o'') (List.mem_append.mpr (.inl hp')))
      · exact s.off (p.1, o'') hp' q hq
theorem iterE {px : Pos} {envs : Addr → Env} {oks : Addr → Mus → Prop} {ups : Addr → Dt → Loc × Mus → Loc × Mus} {elts : List Expr} {kk : Nat} (B : Bn ev x (.type "enumerate")) (hi : ED n fi L ev δ μ e μ₁ (.list ds)) (ha : ∀ d ∈ numD 0 ds, ∀ (c : Fc fi L) C δ μ, oks C μ → Asg c (envs C) (.Tuple elts kk pt) d δ μ (ups C d (δ, μ)).1 (ups C d (δ, μ)).2)
    (hs : ∀ env, starEach [e] env = (false, eval e env) :: starEach [] env := by intro _; rfl) (hp : ∀ p env, (backTo p (starEach ([] : List Expr) env)).any (·.1) = false := by intro _ _; rfl) (hc' : ∀ env, eval (.Call (.Name x px) [e] [] pos) env = (do callWith pos (← eval (.Name x px) env) [] (backTo pos (starEach [e] env)) (backToKw pos (keywordEach [] env))) := by intro _; rfl)
    (h1 : x ≠ "__name__" := by decide) (h2 : (x == ("__debug__" : Str)) = false := by decide) : Iter n fi L ev envs (.Tuple elts kk pt) δ μ (.Call (.Name x px) [e] [] pos) μ₁ (numD 0 ds) oks ups := by
  intro c τ ν Q E h tk R S K
  refine Call_ (name_b B S ?_ h1 h2) (hc' _)
  refine PyProof.Rows.callWith_type1 (args_cons (hi c τ ν _ _ h tk R S fun v h' tk' S' => args_nil ?_) (hs _)) (hs _) (hp _ _)
  obtain ⟨l, vs, rfl, hL, -, -⟩ := S'.list (.inl ⟨rfl, rfl⟩)
  refine call_enumerate_list (s := c.st h' tk') hL fun h₁ hE hI hsz hk => ?_
  refine wpAny_pyIter_enum hE ?_
  obtain ⟨oI, hoI, cI, dI⟩ := id hI
  have S₁ : St c δ (τ.add (.ref l) (.list ds)) ((h'.objs.size + 1, .fix (enObj h'.objs.size .none 0 .none)) :: (h'.objs.size, .lit l 0) :: (μ₁ ++ ν)) h₁ := by
    obtain ⟨m, imm, mu, F, N, s, lo, t, u⟩ := S'
    have lt : ∀ p ∈ mu ++ imm, p.1 < h'.objs.size := fun p hp => Heap.lt_size (N p hp).1
    have gn : ∀ a, h'.objs.size ≤ a → c.g.get? a = none ∧ a ≠ c.L := fun a hle => ⟨by
      cases q : c.g.get? a with
      | none => rfl
      | some o => exact absurd (Heap.lt_size (F.keep _ _ q)) (Nat.not_lt.mpr hle), fun z => absurd F.ns.lt (Nat.not_lt.mpr (z ▸ hle))⟩
    refine ⟨m, imm, (h'.objs.size + 1, enObj h'.objs.size .none 0 .none) :: (h'.objs.size, oI) :: mu, F.grownK hk, fun p hp => ?_, ⟨fun p hp q hq => ?_, ?_⟩, lo, t, rfl, rfl, rfl, ⟨cI, dI⟩, u⟩
    · rcases List.mem_cons.mp hp with rfl | hp
      · exact ⟨hE, (gn _ (Nat.le_succ _)).2, (gn _ (Nat.le_succ _)).1⟩
      · rcases List.mem_cons.mp hp with rfl | hp
        · exact ⟨hoI, (gn _ (Nat.le_refl _)).2, (gn _ (Nat.le_refl _)).1⟩
        · exact ⟨hk _ _ (N p hp).1, (N p hp).2⟩
    · have hq' := lt q (List.mem_append.mpr (.inr hq))
      rcases List.mem_cons.mp hp with rfl | hp
      · exact fun z => absurd hq' (by rw [← z]; exact Nat.not_lt.mpr (Nat.le_succ _))
      · rcases List.mem_cons.mp hp with rfl | hp
        · exact fun z => absurd hq' (by rw [← z]; exact Nat.lt_irrefl _)
        · exact s.off p hp q hq
    · refine List.nodup_cons.mpr ⟨fun hm => ?_, List.nodup_cons.mpr ⟨fun hm => ?_, s.nd⟩⟩
      · rcases List.mem_cons.mp hm with e | hm
        · exact absurd e (Nat.succ_ne_self _)
        · obtain ⟨p, hp, e⟩ := List.mem_map.mp hm
          exact absurd (lt p (List.mem_append.mpr (.inl hp))) (by rw [e]; exact Nat.not_lt.mpr (Nat.le_succ _))
      · obtain ⟨p, hp, e⟩ := List.mem_map.mp hm
        exact absurd (lt p (List.mem_append.mpr (.inl hp))) (by rw [e]; exact Nat.lt_irrefl _)
  refine K _ (fun i own => ∃ old, own = [(h'.objs.size + 1, .fix (enObj h'.objs.size .none i old)), (h'.objs.size, .lit l i)]) [(h'.objs.size + 1, .fix (enObj h'.objs.size .none 0 .none)), (h'.objs.size, .lit l 0)] _ _ tk' ⟨_, rfl⟩ (fun _ _ e => .inr e) S₁ (fun C => ?_) ?_
  · rintro i _ τ₂ δ₂ μ₂ ν₂ h₂ tk₂ N K E ⟨old, rfl⟩ hk ht S₂ hn hs
    have S₂' : St c δ₂ τ₂ ((h'.objs.size + 1, .fix (enObj h'.objs.size .none i old)) :: (h'.objs.size, .lit l i) :: (μ₂ ++ ν₂)) h₂ := S₂
    obtain ⟨l', vs', el, hl, hlen, get⟩ := S₂.list (ht _ _ (.inl ⟨rfl, rfl⟩))
    cases el
    obtain ⟨oE, immE, hoE, eE, _⟩ := S₂'.muAt
    have eE' : oE = enObj h'.objs.size .none i old := eE
    subst eE'
    have hit := (S₂'.perm (.swap _ _ _)).isIt
    obtain ⟨hne, ltE, ltI⟩ := S₂'.two
    have hg := numD_get ds 0 i
    rw [Nat.zero_add] at hg
    cases hd : ds[i]? with
    | none =>
      rw [hd] at hg
      refine wpAny_pyNext_enum_end (s := c.st h₂ tk₂) c.hd hoE hit hl (by simp; exact hlen ▸ List.getElem?_eq_none_iff.mp hd) fun h₃ hx => hn hg h₃ tk₂ ?_
      exact ((S₂'.perm (.swap _ _ _)).lose (h' := h₃) fun b o hb e => hx b o hb e).lose fun _ _ _ e => e
    | some d =>
      rw [hd] at hg
      obtain ⟨u, hu, S₃⟩ := get i d hd
      refine wpAny_pyNext_enum_item (s := c.st h₂ tk₂) hoE hit hl (by simpa using hu) hne fun h₃ ho hit' hT hsz' hk' => ?_
      obtain ⟨oI', hoI', cI', dI'⟩ := hit'
      have S₄ : St c δ₂ ((τ₂.add u d).add (.ref h₂.objs.size) (.tuple [.int (i : Nat), d])) ((h'.objs.size + 1, .fix (enObj h'.objs.size (rawInt h₂.objs.size) ((i : Int) + 1) u)) :: (h'.objs.size, .lit l (i + 1)) :: (μ₂ ++ ν₂)) h₃ :=
        St.upd2 (T := h₂.objs.size) S₃ (fun x o h1 h2 e => hk' x o h1 h2 e) ho hoI' hT rfl (fun _ => rfl) (fun _ => ⟨cI', dI'⟩) fun imm t => .tuple (.head _) (.cons (.int _ _) (.cons ((t _ _ (.inl ⟨rfl, rfl⟩)).mono fun _ q => .tail _ q) .nil))
      refine wpAny_letOwnedTupleGo_enum (s := c.st h₃ (tk₂ + 1)) ho fun h₄ hE₄ hs₄ => ?_
      have S₅ := S₄.upd (k₂ := .fix (enObj h'.objs.size .none ((i + 1 : Nat) : Int) u)) hs₄ hE₄ fun imm o t m g => rfl
      have S₆ : St c δ₂ ((τ₂.add u d).add (.ref h₂.objs.size) (.tuple [.int (i : Nat), d])) (μ₂ ++ ([(h'.objs.size + 1, .fix (enObj h'.objs.size .none ((i + 1 : Nat) : Int) u)), (h'.objs.size, .lit l (i + 1))] ++ ν₂)) h₄ := S₅.perm (by
        show ([_, _] ++ (μ₂ ++ ν₂)).Perm _
        rw [← List.append_assoc, ← List.append_assoc]; exact List.perm_append_comm.append_right ν₂)
      refine ha _ (List.mem_of_getElem? hg) c C δ₂ μ₂ hk _ _ (.ref h₂.objs.size) h₄ _ _ _ (.inl ⟨rfl, rfl⟩) S₆ fun h₅ tk₅ S₇ => ?_
      refine hs _ hg _ h₅ tk₅ ⟨u, rfl⟩ (St.weaken (S₇.perm (μ' := [(h'.objs.size + 1, .fix (enObj h'.objs.size .none ((i + 1 : Nat) : Int) u)), (h'.objs.size, .lit l (i + 1))] ++ ((ups C _ (δ₂, μ₂)).2 ++ ν₂)) ?_) (fun _ _ e => e) fun _ _ e => .inr (.inr e))
      rw [← List.append_assoc, ← List.append_assoc]; exact List.perm_append_comm.append_right ν₂
  · rintro _ δ₂ τ₂ μ₂ h₂ tk₂ Q E ⟨old, rfl⟩ S₂ q
    obtain ⟨oE, immE, hoE, eE, _⟩ := S₂.muAt
    have eE' : oE = enObj h'.objs.size .none ((0 : Nat) : Int) old := eE
    subst eE'
    exact wpAny_pyIter_enum (s := c.st h₂ tk₂) hoE q
end
end Mine
end

noncomputable section
open PySem PySem.W PyProof.Rows PySem.Calls PySem.Spec
set_option Elab.async false
set_option linter.unusedVariables false
namespace Mine
set_option maxRecDepth 100000
set_option maxHeartbeats 8000000
theorem T2.three {τ : Tm} {vs : List Value} {d₁ d₂ d₃ : Dt} (t : T2 τ vs [d₁, d₂, d₃]) : ∃ v u w, vs = [v, u, w] ∧ τ v d₁ ∧ τ u d₂ ∧ τ w d₃ := by
  match vs, t with
  | [v, u, w], ⟨a, b, c, _⟩ => exact ⟨v, u, w, rfl, a, b, c⟩
theorem Fc.cx {fi : Fi} {L : Addr} (c : Fc fi L) {h : Heap} {m : Str → Option Value} (F : Fr c.g L h m) : Cx c.w c.A (fi.env L) c.outer c.g L m h := ⟨c.B, F, c.X, c.T, c.fr, rfl, c.fn, c.hd⟩
/-- a Token is made -/
theorem tokn_c {r : Row} {j : Nat} : Fu 2 (.ref 187) [] [.str r.1, .str r.2, .tuple [.int 3, .int (j : Nat)]] (· = .ret [] (.tok r j)) := by
  intro fi L c δ τ ν vals Q E h tk R t S K KX
  obtain ⟨v, u, w, rfl, hv, hu, hw⟩ := T2.three t
  obtain ⟨t1, rfl⟩ := S.isStr hv
  obtain ⟨t2, rfl⟩ := S.isStr hu
  obtain ⟨m, imm, mu, F, N, s, l, tm, uu⟩ := S
  have q := tm _ _ hw
  cases q with
  | @tuple ta _ _ hm r' =>
    cases r' with
    | cons a r' => cases r' with
      | cons b r' =>
        cases r'; cases a; cases b
        refine new_tok (s := c.st h tk) (c.cx F) R N fun h' tk' x dx t1 t2 t3 t4 t5 t6 F' N' l1 l2 => ?_
        have sub : ∀ p ∈ imm, p ∈ (x, instObj 187 dx) :: (dx, tdict c.w.params r ta t1 t2 t3 t4 t5 t6) :: imm := fun _ q => .tail _ (.tail _ q)
        refine K _ [] _ h' tk' rfl ⟨m, (x, instObj 187 dx) :: (dx, tdict c.w.params r ta t1 t2 t3 t4 t5 t6) :: imm, mu, F', fun p hp => N' p ?_, ⟨fun p hp q hq => ?_, s.nd⟩, l.mono sub, (tm.mono sub).add (.tok ⟨_, _, _, _, _, _, _, _, _, _, _, rfl, .head _, .tail _ (.head _), sub _ hm⟩), uu.mono sub⟩
        · rcases List.mem_append.mp hp with hp | hp
          · exact .tail _ (.tail _ (List.mem_append.mpr (.inl hp)))
          · rcases List.mem_cons.mp hp with rfl | hp
            · exact .head _
            · rcases List.mem_cons.mp hp with rfl | hp
              · exact .tail _ (.head _)
              · exact .tail _ (.tail _ (List.mem_append.mpr (.inr hp)))
        · have l := l1 p (List.mem_append.mpr (.inl hp))
          rcases List.mem_cons.mp hq with rfl | hq
          · exact Nat.ne_of_lt (Nat.lt_trans l l2)
          · rcases List.mem_cons.mp hq with rfl | hq
            · exact Nat.ne_of_lt l
            · exact s.off p hp q hq
theorem toks_from {P : Params} {imm : Led} {vs : List Value} {rs : List Row} {j : Nat} (h : DtAll P imm vs (tokDts rs j)) : ToksFrom P imm vs rs j := by
  induction rs generalizing vs j with
  | nil => cases h; trivial
  | cons r rs ih =>
    cases h with
    | cons a b => cases a with
      | tok a => exact ⟨a, ih b⟩
/-- a Walk is made -/
theorem walk_c {rows : List Row} (hl : rows.length < 1000000) : Fu 2 (.ref 122) [] [.list (tokDts rows 0)] (fun o => ∃ wd tl, o = .ret [(wd, .wk tl 0)] (.walk wd tl rows)) := by
  intro fi L c δ τ ν vals Q E h tk R t S K KX
  obtain ⟨v, rfl, hv⟩ := T2.one t
  obtain ⟨m, imm, mu, F, N, s, l, tm, uu⟩ := S
  have q := tm _ _ hv
  cases q with
  | @list tl vs n _ hm r' =>
    refine new_walk (s := c.st h tk) (c.cx F) R N fun h' tk' x dx t1 t2 t3 F' N' l1 l2 => ?_
    have sub : ∀ p ∈ imm, p ∈ (x, instObj 122 dx) :: imm := fun _ q => .tail _ q
    refine K _ _ _ h' tk' ⟨dx, tl, rfl⟩ ⟨m, (x, instObj 122 dx) :: imm, (dx, wdict c.w.params tl t1 t2 0 t3) :: mu, F', fun p hp => N' p ?_, ⟨fun p hp q hq => ?_, List.nodup_cons.mpr ⟨fun q => ?_, s.nd⟩⟩, l.mono sub, (tm.mono sub).add (.walk ⟨.head _, vs, n, sub _ hm, (toks_from r').mono sub, hl⟩), rfl, ⟨t1, t2, t3, rfl⟩, uu.mono sub⟩
    · rcases List.mem_cons.mp hp with rfl | hp
      · exact .tail _ (.head _)
      · rcases List.mem_append.mp hp with hp | hp
        · exact .tail _ (.tail _ (List.mem_append.mpr (.inl hp)))
        · rcases List.mem_cons.mp hp with rfl | hp
          · exact .head _
          · exact .tail _ (.tail _ (List.mem_append.mpr (.inr hp)))
    · rcases List.mem_cons.mp hq with rfl | hq
      · rcases List.mem_cons.mp hp with rfl | hp
        · exact Nat.ne_of_lt l2
        · exact Nat.ne_of_lt (Nat.lt_trans (l1 p (List.mem_append.mpr (.inl hp))) l2)
      · rcases List.mem_cons.mp hp with rfl | hp
        · exact fun z => absurd (l1 q (List.mem_append.mpr (.inr hq))) (by rw [← z]; exact Nat.lt_irrefl _)
        · exact s.off p hp q hq
    · obtain ⟨p, hp, e⟩ := List.mem_map.mp q
      exact Nat.ne_of_lt (l1 p (List.mem_append.mpr (.inl hp))) e
section
variable {n k : Nat} {fi : Fi} {L : Addr} {δ : Loc} {μ : Mus} {d : Dt} {ds : List Dt} {pos p1 pc : Pos} {x : Str} {e fe : Expr} {es : List Expr} {f : Addr} {rest : List Stmt} {O : Out → Prop} {P : FO → Prop}
/-- x = f(..): however it ends -/
theorem bSetC {μa ρ : Mus} (hc : Fu k (.ref f) μa ds P) (hf : ED n fi L (fi.env L) δ μ fe μ (.obj f)) (hs' : EDs n fi L (fi.env L) δ μ (e :: es) (μa ++ ρ) ds) (hn : Nat.ble k n = true) (hk : ∀ P, keepIn (KM P) (.ref f) = true)
    (hb : ∀ μ' d, P (.ret μ' d) → Bd n fi L ((x, d) :: δ) (μ' ++ ρ) rest O) (hx' : ∀ j, P (.exc j) → O (.exc δ j)) (hx : fi.sc.names.lookup x = some .local) (hp : ∀ p env, (backTo p (starEach (e :: es) env)).any (·.1) = false := by intro _ _; rfl)
    (he : ∀ env, starEach (e :: es) env = (false, eval e env) :: starEach es env := by intro _; rfl) (hc' : ∀ env, eval (.Call fe (e :: es) [] pc) env = (do callWith pc (← eval fe env) [] (backTo pc (starEach (e :: es) env)) (backToKw pc (keywordEach [] env))) := by intro _; rfl)
    (hs : ∀ env, swapsWith (.Call fe (e :: es) [] pc) (some (.Name x p1)) pos.line env = pure false := by intro _; rfl) : Bd n fi L δ μ (.Assign [.Name x p1] (.Call fe (e :: es) [] pc) pos :: rest) O := by
  intro c τ ν Q E h tk R S kr kn ke
  refine wpAny_execs_cons (wpAny_Assign_Name (Call_ (hf c τ ν _ _ h tk R S fun v h' tk' S' => ?_) (hc' _)) (hs _))
  obtain rfl := S'.isObj (.inl ⟨rfl, rfl⟩)
  refine args1 R S' hs' hk (hp _) (fun vs τ' h'' tk'' s t S'' => ?_) he
  refine hc fi L c δ τ' (ρ ++ ν) vs _ _ h'' tk'' (R.le hn) t (List.append_assoc _ _ _ ▸ S'') (fun v μ' d' h₃ tk₃ o S₃ => ?_) fun x' j h₃ tk₃ o X => ke x' δ j h₃ tk₃ (hx' j o) (X.loses.weaken (fun _ _ e => e) fun v d e => s _ _ (.inr e))
  obtain ⟨m, hm, st⟩ := S₃.store x (.inl ⟨rfl, rfl⟩)
  exact wpAny_storeName_local hx hm (fun h₄ hn hsb => hb μ' d' o c τ ν Q E h₄ _ R (List.append_assoc _ _ _ ▸ ((st h₄ hn hsb).weaken (fun _ _ e => e) fun v d e => .inr (s _ _ (.inr e)))) kr kn ke) (by show (fi.sc.kind == .class || (fi.sc.kind == .module && L != mainGlobals)) = false; rw [c.fn]; rfl)
end
end Mine
end

noncomputable section
open PySem PySem.W PyProof.Rows PySem.Calls PySem.Spec
set_option Elab.async false
set_option linter.unusedVariables false
namespace Mine
set_option maxRecDepth 100000
set_option maxHeartbeats 8000000
section
variable {prog : Program} {w : World} {A : Around} {E : Value → Shared → Prop} {s : Shared} {K : Frag} {x C : Addr} {ox : Obj} {od : Option Obj} {name : Str} {expr : Bool} {v : Value} {Q : Value → Shared → Prop}
/-- an attribute of an exception's own -/
theorem exc_get (X : K.In s.heap) (I : InstAt s.heap x ox C od) (hga : findIn K (.ref C) "__getattribute__" = some (some (.builtin "BaseException.__getattribute__"))) (hg2 : findIn K (.ref C) "__getattr__" = some none) (hsub : subIn K (.ref C) (.type "BaseException") = some true)
    (hf : findObj K C od name = some (.value v)) (hv : handedIn v = true) (h : Q v { s with toks := s.toks + 1 }) : wpAny (model prog w) A (getAttr (.ref x) name expr) Q E s := by
  obtain ⟨hh, g, d, t, os⟩ := s
  have L0 := I.type (M := model prog w)
  have L1 := looks_findIn (M := model prog w) X hga
  have L2 := looks_findIn (M := model prog w) X hg2
  have L3 := looks_find (M := model prog w) X I hf
  have L4 : Looks (model prog w) hh (isInstance (.ref x) (.type "BaseException")) true := L0.andThen (looks_subIn X hsub)
  have f3 := PySem.F.attr_Exception.ga.bind (.ref x)
  have hx2 : (onTheHeap (Value.ref C) && Value.builtin "BaseException.__getattribute__" == Value.builtin "object.__getattribute__") = false := by
    rw [show (Value.builtin "BaseException.__getattribute__" == Value.builtin "object.__getattribute__") = false by decide +kernel]; rfl
  have hx0 : (expr && onTheHeap (Value.builtin "BaseException.__getattribute__")) = false := by cases expr <;> rfl
  have hk : builtinKind "BaseException.__getattribute__" = some .slot := by decide +kernel
  have hsplit : splitId "BaseException.__getattribute__" = some ("BaseException", "__getattribute__") := by decide +kernel
  have ha := PySem.F.args_bexc_ga (.ref x) (.str name t)
  unfold getAttr getAttrBy
  refine wpAny_bind (wpAny_mkText (wpAny_holding (wpAny_bind (L0.at (wpAny_bind (L1.at ?_))))))
  dsimp only
  rw [hx2]
  simp only [Bool.false_eq_true, if_false]
  unfold getAttrByItsOwn hookBefore
  rw [if_pos (show onTheHeap (.ref C) = true from rfl)]
  refine wpAny_bind (L2.at ?_)
  refine wpAny_bind (wpAny_attempt (wpAny_holding ?_))
  unfold callGetattribute boundAndCalled
  rw [hx0]
  simp only [Bool.false_eq_true, if_false]
  rw [f3, pure_bind]
  refine wpAny_call (codeAny_call_builtin PySem.F.attr_Exception.ga.plain PySem.F.entry_bexc_ga ?_)
  simp only [checkBuiltinCall, hk, hsplit, List.cons_append, List.nil_append]
  refine wpAny_bind ?_
  refine L4.at ?_
  simp only [Bool.not_true, Bool.false_eq_true, if_false]
  refine wpAny_of_eq (a := ()) ha ?_
  unfold Builtin.«object.__getattribute__»
  refine wpAny_bind (wpAny_of_eq (a := (.ref x, [.str name t])) (by first | rfl | with_unfolding_all rfl) ?_)
  refine wpAny_bind (wpAny_of_eq (a := name) (by first | rfl | with_unfolding_all rfl) (wpAny_bind (L0.at (wpAny_bind (L3.at ?_)))))
  refine wpAny_pure ?_
  show wpAny _ _ (handedOut v) _ _ _
  rw [handedOut_of hv]; exact wpAny_pure h
end
end Mine
end

noncomputable section
open PySem PySem.W PyProof.Rows PySem.Calls PySem.Spec
set_option Elab.async false
set_option linter.unusedVariables false
namespace Mine
set_option maxRecDepth 100000
set_option genSizeOf false
set_option genInjectivity false
set_option maxHeartbeats 8000000
section
variable {w : World} {A : Around} {E : Value → Shared → Prop} {s : Shared} {e d ta L : Addr} {oe : Obj} {vs : Array Value} {x : Str} {t1 t2 t3 : Tok} {j : Int} {m : Str → Option Value} {env : Env} {Q : Value → Shared → Prop} {p1 p2 p3 p4 p5 p6 p7 p8 p9 p10 p11 p12 p13 : Pos}
theorem zero_at (P : Params) : ∃ o t u n, (KM P).lookup 22 = some o ∧ o.cls = .type "tuple" ∧ o.data = .seq #[.int 0 t, .int 0 u] n := ⟨_, _, _, _, rfl, rfl, rfl⟩
/-- where a fault tells itself to be: (3, j), or (0, 0) for -1 -/
def AtH (h : Heap) (ta : Addr) (j : Int) : Prop := ∃ o a b t u n, h.get? ta = some o ∧ o.cls = .type "tuple" ∧ o.data = .seq #[.int a t, .int b u] n ∧ ((a = 0 ∧ b = 0 ∧ j = -1) ∨ (a = 3 ∧ b = j))
theorem AtH.keeps {h h' : Heap} (k : ∀ b o, h.get? b = some o → h'.get? b = some o) (H : AtH h ta j) : AtH h' ta j := let ⟨o, a, b, t, u, n, h1, h2⟩ := H; ⟨o, a, b, t, u, n, k _ _ h1, h2⟩
theorem at_get (X : (KM w.params).In s.heap) (he : s.heap.get? e = some oe) (hc : oe.cls = .ref 53) (hd : oe.dict = some d) (hf : oe.data = .fields vs) (hdd : s.heap.get? d = some (edict w.params x ta t1 t2 t3)) (K : Q (.ref ta) { s with toks := s.toks + 1 }) {expr : Bool} :
    wpAny (model prog0 w) A (getAttr (.ref e) (Str.ofString "at") expr) Q E s := by
  refine exc_get (C := 53) (od := some (edict w.params x ta t1 t2 t3)) X ⟨he, hc, ?_, ?_⟩ rfl rfl rfl (v := .ref ta) ?_ rfl K
  · obtain ⟨oc, od, oda, osl⟩ := oe
    subst hf
    rfl
  · rw [hd]; exact hdd
  · exact findObj_own rfl rfl rfl rfl
theorem err_eval (X : (KM w.params).In s.heap) (he : s.heap.get? e = some oe) (hc : oe.cls = .ref 53) (hd : oe.dict = some d) (hf : oe.data = .fields vs) (hdd : s.heap.get? d = some (edict w.params x ta t1 t2 t3)) (ha : AtH s.heap ta j)
    (hn : s.heap.Ns env.locals m) (hm : m (Str.ofString "error") = some (.ref e)) (hk : env.scope.kind = .function) (hx : env.kindOf (Str.ofString "error") = some .local) (hu : A.units + 64 < cLine) (hj : j < 2 ^ 62)
    (K : ∀ t h' tk', (∀ b o, s.heap.get? b = some o → h'.get? b = some o) → Q (.int j t) { s with heap := h', toks := tk' }) :
    wpAny (model prog0 w) A (eval (Expr.IfExp (.Compare (.Attribute (.Name (Str.ofString "error") p1) (Str.ofString "at") p2) [.NotEq] [.Tuple [.Constant (.int 0) 0 p3, .Constant (.int 0) 0 p4] 0 p5] p6) (.Subscript (.Attribute (.Name (Str.ofString "error") p7) (Str.ofString "at") p8) (.Constant (.int 1) 0 p9) p10) (.UnaryOp .USub (.Constant (.int 1) 0 p11) p12) p13) env) Q E s := by
  obtain ⟨hp, g, dr, tk, os⟩ := s
  dsimp only at X he hdd ha hn K
  refine wpAny_IfExp (wpAny_isTrue_Compare1 (Attribute_any_ (wpAny_Name (wpAny_loadName_local hk hx hn hm ?_) (by decide)) (by with_unfolding_all rfl)) rfl)
  refine at_get X he hc hd hf hdd ?_
  refine wpAny_Tuple ?_
  refine wpAny_items_cons (wpAny_Constant_int ?_) (by rfl)
  refine wpAny_items_cons (wpAny_Constant_int ?_) (by rfl)
  refine wpAny_items_nil ⟨fits (Nat.le_of_ble_eq_true (by rfl)), ?_⟩
  dsimp only
  obtain ⟨o, a, b, t, u, n, h1, h2, h3, h4⟩ := id ha
  refine ne_dataH (da := .tuple [.int a, .int b]) (db := .tuple [.int 0, .int 0]) (Reads.tuple (Heap.get?_push_of_some _ h1) h2 h3 (.cons (.int _ _) (.cons (.int _ _) .nil))) (Reads.tuple (Heap.get?_push_size _ rfl) rfl rfl (.cons (.int _ _) (.cons (.int _ _) .nil))) rfl rfl hu ?_
  refine wpAny_truthy_bool ?_
  rcases h4 with ⟨rfl, rfl, rfl⟩ | ⟨rfl, rfl⟩
  · rw [if_neg (by decide)]
    refine UnaryOp_ (wpAny_Constant_int ?_)
    exact neg_int (K _ _ _ fun b o h => Heap.get?_push_of_some _ h)
  · have : (!PyData.eqv (.tuple [.int 3, .int b]) (.tuple [.int 0, .int 0])) = true := by rfl
    rw [this, if_pos rfl]
    have kp : ∀ b o, hp.get? b = some o → (hp.push { cls := Value.type "tuple", data := Data.seq #[Value.int 0 (tk + 1), Value.int 0 (tk + 1 + 1)] }).get? b = some o := fun b o h => Heap.get?_push_of_some _ h
    show wpAny _ _ _ _ _ ⟨hp.push { cls := Value.type "tuple", data := Data.seq #[Value.int 0 (tk + 1), Value.int 0 (tk + 1 + 1)] }, _, _, _, _⟩
    generalize hp.push { cls := Value.type "tuple", data := Data.seq #[Value.int 0 (tk + 1), Value.int 0 (tk + 1 + 1)] } = H at kp ⊢
    refine Subscript_ (Attribute_any_ (wpAny_Name (wpAny_loadName_local hk hx (hn.keeps kp) hm ?_) (by decide)) (by with_unfolding_all rfl))
    refine at_get (X.keeps kp) (kp _ _ he) hc hd hf (kp _ _ hdd) (wpAny_Constant_int ?_)
    refine item_tupleT (l := [.int 3 t, .int b u]) (j := 1) ⟨_, kp _ _ h1, h2, _, h3⟩ (by decide) (by decide) (by rfl) (by rfl) (K _ _ _ kp) (by with_unfolding_all rfl)
end
end Mine
end

noncomputable section
open PySem PySem.W PyProof.Rows PySem.Calls PySem.Spec
set_option Elab.async false
set_option linter.unusedVariables false
namespace Mine
set_option maxRecDepth 100000
set_option genSizeOf false
set_option genInjectivity false
set_option maxHeartbeats 8000000
/-- a ground below the caller's frame: no frame of the outer ones is in it -/
structure Gnd {fi : Fi} {L : Addr} (c : Fc fi L) (g₀ : Heap) : Prop where
  X : (KM c.P).In g₀
  T : ∃ p loose mean mg mb, Top p loose mean mg mb g₀
  st : ∀ b o, g₀.get? b = some o → c.g.get? b = some o ∧ b ∉ c.outer.filterMap (·.frame)
  ab : g₀.objs.size ≤ L
/-- a fault was caught: what stands -/
inductive Caught {fi : Fi} {L : Addr} (c : Fc fi L) (τ : Tm) (ν : Mus) (h : Heap) : Prop
  | mk (imm mu : Led) (keep : ∀ b o, c.g.get? b = some o → (b ∉ c.outer.filterMap (·.frame) → h.get? b = some o) ∧ ∃ sl, h.get? b = some { o with slots := sl }) (N : News c.g c.L h (mu ++ imm)) (s : Sep mu imm) (t : TmIn c.P imm τ) (u : MuIn c.P imm mu ν) : Caught c τ ν h
def BdT (n : Nat) (fi : Fi) (L : Addr) (δ : Loc) (μ : Mus) (b : List Stmt) (O : Out → Prop) (OC : Int → Prop) : Prop :=
  ∀ (c : Fc fi L) (g₀ : Heap) (G : Gnd c g₀) (τ : Tm) (ν : Mus) (Q : Flow → Shared → Prop) (E : Value → Shared → Prop) (h : Heap) (tk : Nat), Room n c.A → St c δ τ (μ ++ ν) h →
    (∀ v d δ' μ' h' tk', O (.ret μ' d) → St c δ' (τ.add v d) (μ' ++ ν) h' → Q (.ret v) (c.st h' tk')) →
    (∀ δ' μ' h' tk', O (.next δ' μ') → St c δ' τ (μ' ++ ν) h' → Q .next (c.st h' tk')) →
    (∀ x δ' j h' tk', O (.exc δ' j) → Fly c δ' τ ν x j h' → E (.ref x) (c.st h' tk')) →
    (∀ i t h' tk', OC i → Caught c τ ν h' → Q (.ret (.int i t)) (c.st h' tk')) → wpAny (model prog0 c.w) c.A (execs b (fi.env L)) Q E (c.st h tk)
section
variable {n : Nat} {fi : Fi} {L : Addr} {c : Fc fi L} {δ : Loc} {τ : Tm} {μ ν : Mus} {b : Bool} {pos p1 p2 p3 p4 p5 p6 p7 p8 p9 p10 p11 p12 p13 p14 p15 p16 : Pos} {e : Addr} {j : Int} {h h' g₀ : Heap} {tk : Nat} {Q : Flow → Shared → Prop} {E : Value → Shared → Prop} {pre rest body : List Stmt} {O : Out → Prop} {OC : Int → Prop}
theorem bT_seq (hb : Bd n fi L δ μ pre (fun o => match o with | .next δ' μ' => BdT n fi L δ' μ' rest O OC | _ => False)) : BdT n fi L δ μ (pre ++ rest) O OC := by
  intro c g₀ G τ ν Q E h tk R S kr kn ke kc
  rw [execs_app]
  exact wpAny_bind (hb c τ ν _ _ h tk R S (fun _ _ _ _ _ _ o => o.elim) (fun δ' μ' h' tk' o S' => o c g₀ G τ ν Q E h' tk' R S' kr kn ke kc) fun _ _ _ _ _ o => o.elim)
theorem Caught.same (C : Caught c τ ν h) (hs : Heap.SameBut c.L h h') : Caught c τ ν h' := by
  obtain ⟨imm, mu, keep, N, s, t, u⟩ := C
  have ne : ∀ b o, c.g.get? b = some o → b ≠ c.L := fun b o q z => by rw [z, c.nl] at q; cases q
  exact ⟨imm, mu, fun b o q => ⟨fun nb => (hs.2 b (ne b o q)).trans ((keep b o q).1 nb), let ⟨sl, r⟩ := (keep b o q).2; ⟨sl, (hs.2 b (ne b o q)).trans r⟩⟩, fun p hp => ⟨(hs.2 p.1 (N p hp).2.1).trans (N p hp).1, (N p hp).2⟩, s, t, u⟩
theorem Caught.keeps (C : Caught c τ ν h) (k : ∀ b o, h.get? b = some o → h'.get? b = some o) : Caught c τ ν h' := by
  obtain ⟨imm, mu, keep, N, s, t, u⟩ := C
  exact ⟨imm, mu, fun b o q => ⟨fun nb => k _ _ ((keep b o q).1 nb), let ⟨sl, r⟩ := (keep b o q).2; ⟨sl, k _ _ r⟩⟩, fun p hp => ⟨k _ _ (N p hp).1, (N p hp).2⟩, s, t, u⟩
theorem FlyB.land {A : Around} {Q : Unit → Shared → Prop} (X : FlyB true c δ τ ν e j h) (hQ : ∀ h', FlyB true c δ τ ν e j h' → Q () (c.st h' tk)) : wpAny (model prog0 c.w) A (setFlight (.ref e) none) Q E (c.st h tk) := by
  obtain ⟨base, oe, vs, T, fr, he, hd, tb, hb, hT⟩ := X.open'
  cases T with
  | none => exact absurd rfl (hb rfl)
  | some T =>
    obtain ⟨hTe, oT, ts, hT', hdT, h3⟩ := hT T rfl
    obtain ⟨fl, h3'⟩ : ∃ fl, ts[3]? = some fl := h3.elim (fun z => ⟨_, z⟩) fun z => ⟨_, z⟩
    have x : Lv ((fi.env c.L :: c.outer).filterMap (·.frame)) e oe (some T) fl h h := ⟨fun b o hb _ _ _ => hb, fun b o hb _ _ => ⟨o.slots, hb⟩, oe, vs, T, oT, ts, he, rfl, rfl, hd, tb, hTe, .inl rfl, hT', hdT, h3'⟩
    exact flight_L (s := c.st h tk) x fun h' x' => hQ h' (X.stay he hd tb (.inl rfl) x')
/-- what a fault at hand shows -/
theorem FlyB.show (X : FlyB b c δ τ ν e j h) (G : Gnd c g₀) : (∃ m, Fr g₀ L h m) ∧ (KM c.P).In h ∧ Caught c τ ν h ∧ ∃ oe vs d ta x t1 t2 t3, h.get? e = some oe ∧ oe.cls = .ref 53 ∧ oe.dict = some d ∧ oe.data = .fields vs ∧ h.get? d = some (edict c.P x ta t1 t2 t3) ∧ AtH h ta j ∧ e ≠ L ∧ d ≠ L := by
  obtain ⟨m, imm, mu, Ns, keep, N, l, t, s, u, oe, vs, d, ta, xs, t1, t2, t3, he, hcls, hdict, hdat, hoff, hd, hat, htb⟩ := X
  have k0 : ∀ b o, g₀.get? b = some o → h.get? b = some o := fun b o q => (keep b o (G.st b o q).1).1 (G.st b o q).2
  have X' := G.X.keeps k0
  refine ⟨⟨m, Ns, k0, G.ab⟩, X', ⟨imm, mu, keep, N, s, t, u⟩, oe, vs, d, ta, xs, t1, t2, t3, he, hcls, hdict, hdat, (N _ (List.mem_append.mpr (.inr hd))).1, ?_, hoff.2.1, (N _ (List.mem_append.mpr (.inr hd))).2.1⟩
  rcases hat with ⟨rfl, rfl⟩ | ⟨_, a, b, hm⟩
  · obtain ⟨o, t, u, n, h1, h2, h3⟩ := zero_at c.P
    exact ⟨o, 0, 0, t, u, n, X' _ _ h1, h2, h3, .inl ⟨rfl, rfl, rfl⟩⟩
  · exact ⟨_, 3, j, a, b, _, (N _ (List.mem_append.mpr (.inr hm))).1, rfl, rfl, .inr ⟨rfl, rfl⟩⟩
theorem AtH.same {ta a : Addr} {m : Str → Option Value} (H : AtH h ta j) (hn : h.Ns a m) (hs : Heap.SameBut a h h') : AtH h' ta j := by
  obtain ⟨o, a', b, t, u, n, h1, h2, h3, h4⟩ := H
  refine ⟨o, a', b, t, u, n, (hs.2 ta fun z => ?_).trans h1, h2, h3, h4⟩
  obtain ⟨o', es, ep, ho, hd, _⟩ := hn
  rw [← z, h1] at ho
  cases ho
  rw [hd] at h3; cases h3
theorem exc_match {A : Around} {Q : Bool → Shared → Prop} {s : Shared} {w : World} {oe : Obj} (X : (KM w.params).In s.heap) (he : s.heap.get? e = some oe) (hc : oe.cls = .ref 53) (K : Q true s) : wpAny (model prog0 w) A (excMatches (.ref e) (.ref 53)) Q E s := by
  have t1 : Looks (model prog0 w) s.heap (typeOf (.ref e)) (.ref 53) := hc ▸ (Looks.ld he).andThen .now
  have t3 : Looks (model prog0 w) s.heap (isInstance (.ref 53) (.type "tuple")) false := (looks_typeIn X rfl).andThen (looks_subIn X rfl)
  have t4 : Looks (model prog0 w) s.heap (isSubtype (.ref 53) (.type "BaseException")) true := looks_subIn X rfl
  have t5 : Looks (model prog0 w) s.heap (isSubtype (.ref 53) (.ref 53)) true := looks_subIn X rfl
  unfold excMatches
  refine wpAny_bind (t3.here ?_)
  simp only [Bool.false_eq_true, if_false, pure_bind, List.forIn_cons, List.forIn_nil]
  have h53 : ∃ o cd, s.heap.get? 53 = some o ∧ o.data = .cls cd := ⟨_, _, X 53 _ rfl, rfl⟩
  obtain ⟨o, cd, ho, hd⟩ := h53
  refine wpAny_bind (wpAny_bind ?_)
  refine wpAny_bind ?_
  unfold isExcClass
  refine wpAny_bind ?_
  simp only [isType, loadHead]
  refine wpAny_bind (wpAny_loadPart ho ?_)
  rw [hd]
  refine wpAny_pure ?_
  simp only [if_true]
  refine t4.here ?_
  simp only [Bool.not_true, Bool.false_eq_true, if_false]
  refine wpAny_pure (wpAny_pure (wpAny_bind (t1.here (wpAny_bind (wpAny_bind (wpAny_bind (t5.here ?_)))))))
  simp only [if_true]
  exact wpAny_pure (wpAny_pure (wpAny_pure K))
theorem bTry (hb : Bd n fi L δ μ body (fun o => match o with | .next δ' μ' => Bd n fi L δ' μ' rest O | .exc _ j => OC j ∧ j < 2 ^ 62 | _ => False))
    (hn : ∀ P, nsIn (KM P) mainGlobals (Str.ofString "CopyFault") = some (some (.ref 53))) (hxe : fi.sc.names.lookup (Str.ofString "error") = some .local) (hxc : fi.sc.names.lookup (Str.ofString "CopyFault") = some .globalImplicit) : BdT n fi L δ μ (.Try body [.ExceptHandler (some (.Name (Str.ofString "CopyFault") p14)) (some (Str.ofString "error")) [.Return (some (Expr.IfExp (.Compare (.Attribute (.Name (Str.ofString "error") p1) (Str.ofString "at") p2) [.NotEq] [.Tuple [.Constant (.int 0) 0 p3, .Constant (.int 0) 0 p4] 0 p5] p6) (.Subscript (.Attribute (.Name (Str.ofString "error") p7) (Str.ofString "at") p8) (.Constant (.int 1) 0 p9) p10) (.UnaryOp .USub (.Constant (.int 1) 0 p11) p12) p13)) p15] p16] [] [] pos :: rest) O OC := by
  intro c g₀ G τ ν Q E h tk R S kr kn ke kc
  have hp : (fi.sc.kind == .class || (fi.sc.kind == .module && L != mainGlobals)) = false := by rw [c.fn]; rfl
  rw [execs_cons]
  refine wpAny_bind (wpAny_Try_except (hb c τ ν _ _ h tk R S (fun _ _ _ _ _ _ o => o.elim) (fun δ' μ' h' tk' o S' => ?_) fun x δ' j h' tk' o X => ?_))
  · exact wpAny_execs_nil (o c τ ν Q E h' tk' R S' kr kn ke)
  refine X.noted fun h₁ X₁ => X₁.land fun h₂ X₂ => ?_
  obtain ⟨⟨m, F⟩, XK, -, oe, vs, d, ta, xs, t1, t2, t3, he, hcls, -⟩ := X₂.show G
  obtain ⟨p, loose, mean, mg, mb, T⟩ := G.T
  refine wpAny_handleBy_cons (codeAny_handlers_test (nameG_K (s := c.st h₂ tk') F G.X (topRead_of T) (v := .ref 53) ?hn (exc_match (s := c.st h₂ tk') XK he hcls (codeAny_handlers_suite_as (X₂.land fun h₃ X₃ => ?_))) rfl c.fn hxc (by decide))) (by intro q; cases q)
  case hn => exact hn c.P
  obtain ⟨⟨m₃, F₃⟩, XK₃, C₃, oe, vs, d, ta, xs, t1, t2, t3, he, hcls, hdi, hdat, hdd, hat, neL, ndL⟩ := X₃.show G
  refine wpAny_storeName_local hxe F₃.ns (fun h₄ hn₄ hs₄ => ?_) hp
  have F₄ := F₃.set hn₄ hs₄
  refine wpAny_execs_cons (wpAny_Return_some (err_eval (s := c.st h₄ (tk' + 1)) (G.X.keeps F₄.keep) ((hs₄.2 _ neL).trans he) hcls hdi hdat ((hs₄.2 _ ndL).trans hdd) (hat.same F₃.ns hs₄) hn₄ (if_pos rfl) c.fn hxe (by have := R.un; show c.A.units + 64 < cLine; omega) o.2 fun t h₅ tk₅ kp => ?_))
  have C₅ := (C₃.same hs₄).keeps kp
  refine wpAny_nameGoes (m := fun y => if y = Str.ofString "error" then some (Value.ref x) else m₃ y) hxe (hn₄.keeps kp) hp fun h₆ m₆ hn₆ hs₆ => ?_
  exact wpAny_pure (kc _ _ _ _ o.1 (C₅.same hs₆))
end
def FuT (n : Nat) (f : Value) (μ : Mus) (ds : List Dt) (O : FO → Prop) : Prop :=
  ∀ (fi : Fi) (ht : fi.top = true) (L : Addr) (c : Fc fi L) (δ : Loc) (τ : Tm) (ν : Mus) (vals : List Value) (Q E : Value → Shared → Prop) (h : Heap) (tk : Nat), Room n c.A → T2 τ vals ds → St c δ τ (μ ++ ν) h →
    (∀ v μ' d h' tk', O (.ret μ' d) → St c δ (τ.add v d) (μ' ++ ν) h' → Q v (c.st h' tk')) →
    (∀ x j h' tk', O (.exc j) → Fly c δ τ ν x j h' → E (.ref x) (c.st h' tk')) → wpAny (model prog0 c.w) c.A (call f vals) Q E (c.st h tk)
theorem fuT_of {n k : Nat} {f : Addr} {μ : Mus} {ds : List Dt} {O : FO → Prop} {O' : Out → Prop} {OC : Int → Prop} {name qual : Str} {params : Arguments} {body : List Stmt} {scope : Scope} {dV kV doc pm cdv ct oc : Value} {an od : Option Addr} {osl : Array (Option Value)} (ps : List Str) {δ' : Loc}
    (ho : ∀ P, (KM P).lookup f = some ⟨oc, od, .func (fnOf name qual params body scope dV kV doc pm an cdv ct), osl⟩) (hcd : ∀ P, codeIn (KM P) cdv qual = true)
    (hbind : ∀ vals : List Value, vals.length = ds.length → ∀ s, BindsTo s (fnOf name qual params body scope dV kV doc pm an cdv ct) ⟨vals, []⟩ (ps.zip vals)) (hloc : ∀ y ∈ ps, scope.names.lookup y = some .local)
    (hδ : (ps.zip ds).reverse = δ') (hk : Nat.ble (k + 1) n = true) (hb : ∀ L, BdT k ⟨qual, scope, f, cdv, fun _ => [], false⟩ L δ' μ body O' OC)
    (kr : ∀ μ' d, O' (.ret μ' d) → O (.ret μ' d)) (kn : ∀ δ μ', O' (.next δ μ') → O (.ret μ' .none)) (ke : ∀ δ j, O' (.exc δ j) → O (.exc j)) (kc : ∀ i, OC i → O (.ret [] (.int i)))
    (hcell : ∀ x ∈ scope.names, x.2 ≠ .cell) (hco : scope.isCoroutine = false) (hgen : scope.isGenerator = false) (hkd : scope.kind = .function) : FuT n (.ref f) μ ds O := by
  intro fi htop L c δ τ ν vals Q E h tk R t S K KX
  obtain ⟨m, imm, mu, F, N, s, l, tm, u⟩ := S
  refine enter (s := c.st h tk) (ps.zip vals) (c.cx F) R.lt N (ho _) (hcd _) (hbind vals t.length _) (fun y hy => hloc _ (List.of_mem_zip hy).1) (fun g L' h₁ base p loose mean mg mb F' N' B' X' T' G' => ?_) hcell hco hgen hkd
  let c' : Fc ⟨qual, scope, f, cdv, fun _ => [], false⟩ L' := ⟨c.w, c.A.deeper (envOf qual scope L' f cdv), g, fi.env c.L :: c.outer, c.s0, X', ⟨p, loose, mean, mg, mb, T'⟩, ⟨_, _, B'⟩, Around.frames_deeper B'.stack, c.hd, hkd, by
    cases q : g.get? L' with
    | none => rfl
    | some o => exact absurd (Nat.lt_of_lt_of_le (Heap.lt_size q) F'.above) (Nat.lt_irrefl _), fun q => nomatch q⟩
  have hg : ∀ b o, c.g.get? b = some o → g.get? b = some o := fun b o q => G'.keep b o (F.keep b o q) fun p hp r => by
    have := (N p hp).2.2; rw [r, q] at this; cases this
  have hfr : c'.outer.filterMap (·.frame) = [c.L] := by
    show (fi.env c.L :: c.outer).filterMap (·.frame) = _
    rw [c.ot htop]; rfl
  obtain ⟨oL, es, ep, hL, hLd, hLk, hLf⟩ := id F.ns
  have hgL : g.get? c.L = some oL := G'.keep _ _ hL fun p hp => (N p hp).2.1
  have nin : ∀ b o, c.g.get? b = some o → b ∉ c'.outer.filterMap (·.frame) := fun b o q z => by
    rw [hfr] at z
    rw [List.mem_singleton.mp z, c.nl] at q; cases q
  have G0 : Gnd c' c.g := ⟨c.X, c.T, fun b o q => ⟨hg b o q, nin b o q⟩, Nat.le_trans F.above (Nat.le_of_lt (G'.size ▸ Heap.lt_size hL))⟩
  let τ' : Tm := fun v d => τ v d ∨ ∃ x, m x = some v ∧ δ.lookup x = some d
  have lk : ∀ x d, δ.lookup x = some d → ∃ v, m x = some v ∧ τ' v d := fun x d e => let ⟨v, a, _⟩ := l x d e; ⟨v, a, .inr ⟨x, a, e⟩⟩
  have tm' : TmIn c.P imm τ' := fun v d e => by
    rcases e with e | ⟨x, a, b⟩
    · exact tm v d e
    · obtain ⟨v', a', hd⟩ := l x d b
      rw [a] at a'; cases a'; exact hd
  obtain ⟨ts, h1, h2, h3⟩ := zip_of ps vals ds t
  have l' : LocIn c.P imm (fun y => (ps.zip vals).reverse.lookup y) δ' := fun x d e => by
    rw [← hδ, h3, ← List.map_reverse] at e
    obtain ⟨v, a, b⟩ := look_of ts.reverse (fun t q => h1 t (List.mem_reverse.mp q)) e
    exact ⟨v, by rw [h2, ← List.map_reverse]; exact a, tm v d b⟩
  have S' : St c' δ' τ' (μ ++ ν) h₁ := ⟨_, imm, mu, F', N', s, l', tm', u⟩
  have back : ∀ v d μ' h' tk', O (.ret μ' d) → (∃ δ'', St c' δ'' (τ'.add v d) (μ' ++ ν) h') → LeaveQ c.g c.L m g Q v (c.st h' tk') ∨ Q v (c.st h' tk') := fun v d μ' h' tk' o ⟨δ'', S''⟩ => by
    obtain ⟨m'', imm'', mu'', F'', N'', s'', l'', t'', u''⟩ := S''
    exact .inl <| leaveQ_ F'' N'' fun kF kN => K v μ' d h' tk' o ⟨m, imm'', mu'', kF, kN, s'', fun x d e => let ⟨v, a, b⟩ := lk x d e; ⟨v, a, t'' v d (.inr b)⟩, fun v d e => t'' v d (e.elim .inl fun e => .inr (.inl e)), u''⟩
  refine hb L' c' c.g G0 τ' ν _ _ h₁ _ (R.use hk _) S' (fun v d δ'' μ' h' tk' o S'' => back v d μ' h' tk' (kr _ _ o) ⟨_, S''⟩) (fun δ'' μ' h' tk' o S'' => ?_) (fun x δ'' j h' tk' o X => ?_) fun i t h' tk' o C => ?_
  · refine back .none .none μ' h' tk' (kn _ _ o) ⟨δ'', S''.hold fun _ _ _ _ _ _ _ _ => .none⟩
  · exact FlyB.leave (c := c) (c' := c') (δ := δ) (τ := τ) F N lk (fun v d e => .inl e) G' rfl rfl ⟨rfl, rfl, rfl⟩ X fun h'' X' => KX x j h'' tk' (ke _ _ o) X'.any
  · obtain ⟨imm'', mu'', keep, N'', s'', t'', u''⟩ := C
    refine .inr (K _ [] (.int i) h' tk' (kc i o) ⟨m, imm'', mu'', ⟨?_, fun b o q => (keep b o (hg b o q)).1 (nin b o q), F.above⟩, fun p hp => ⟨(N'' p hp).1, fun z => ?_, ?_⟩, s'', fun x d e => let ⟨v, a, b⟩ := lk x d e; ⟨v, a, t'' v d b⟩, TmIn.add (fun v d e => t'' v d (.inl e)) (.int _ _), u''⟩)
    · obtain ⟨sl, r⟩ := (keep _ _ hgL).2
      exact ⟨_, es, ep, r, hLd, hLk, hLf⟩
    · have := (N'' p hp).2.2
      rw [z] at this
      exact nomatch hgL.symm.trans this
    · cases q : c.g.get? p.1 with
      | none => rfl
      | some o => exact nomatch (hg _ _ q).symm.trans (N'' p hp).2.2
end Mine
end

noncomputable section
open PySem PySem.W PyProof.Rows PySem.Calls PySem.Spec
set_option Elab.async false
set_option linter.unusedVariables false
namespace Mine
set_option maxRecDepth 100000
set_option maxHeartbeats 8000000
section
variable {n k : Nat} {fi : Fi} {L : Addr} {ev : Env} {δ δ' : Loc} {μ μ₁ μ₂ : Mus} {d : Dt} {ds : List Dt} {pos p1 pc : Pos} {x : Str} {e fe t : Expr} {es : List Expr} {f : Addr} {rest : List Stmt} {O : Out → Prop} {j : Int}
/-- t = e -/
theorem bAsg (he : ED n fi L (fi.env L) δ μ e μ₁ d) (ha : ∀ c : Fc fi L, Asg c (fi.env L) t d δ μ₁ δ' μ₂) (hb : Bd n fi L δ' μ₂ rest O) (hs : ∀ env, swapsWithSole [t] e pos.line env = pure false := by intro _; rfl) (hw : ∀ env, swappedStores [t] e env = pure none := by intro _; rfl) (hm : ∀ env, (assignEach [t] env).map (·.2) = [assign t env] := by intro _; rfl) : Bd n fi L δ μ (.Assign [t] e pos :: rest) O := by
  intro c τ ν Q E h tk R S kr kn ke
  refine wpAny_execs_cons (wpAny_Assign_stores (he c τ ν _ _ h tk R S fun v h' tk' S' => ?_) (hs _) (hw _))
  rw [hm]
  exact ha c _ ν v h' tk' _ _ (.inl ⟨rfl, rfl⟩) S' fun h'' tk'' S'' => hb c τ ν Q E h'' tk'' R S''.drop kr kn ke
theorem bAsgX (he : ER n fi L (fi.env L) δ μ e j) (h : O (.exc δ j)) (hs : ∀ env, swapsWithSole [t] e pos.line env = pure false := by intro _; rfl) (hw : ∀ env, swappedStores [t] e env = pure none := by intro _; rfl) : Bd n fi L δ μ (.Assign [t] e pos :: rest) O := by
  intro c τ ν Q E hh tk R S kr kn ke
  exact wpAny_execs_cons (wpAny_Assign_stores (he c τ ν _ _ hh tk R S fun x h' tk' f => ke x δ j _ _ h f) (hs _) (hw _))
/-- things of one's own are let go -/
theorem bLose {μ₃ : Mus} (hp : μ.Perm (μ₁ ++ μ₃)) (hb : Bd n fi L δ μ₃ rest O) : Bd n fi L δ μ rest O := fun c τ ν Q E hh tk R S kr kn ke => hb c τ ν Q E hh tk R (St.loses (own := μ₁) (List.append_assoc _ _ _ ▸ S.perm (hp.append_right ν))) kr kn ke
/-- a call that is made in a frame with none below -/
theorem eCallT {fe : Expr} {out : FO} {μa μb ρ : Mus} (hc : FuT k (.ref f) μa ds (· = out)) (ho : out = .ret μb d) (ht : fi.top = true) (hf : ED n fi L ev δ μ fe μ (.obj f)) (hs : EDs n fi L ev δ μ (e :: es) (μa ++ ρ) ds) (hn : Nat.ble k n = true) (hk : ∀ P, keepIn (KM P) (.ref f) = true) (hp : ∀ p env, (backTo p (starEach (e :: es) env)).any (·.1) = false := by intro _ _; rfl)
    (he : ∀ env, starEach (e :: es) env = (false, eval e env) :: starEach es env := by intro _; rfl) (hc' : ∀ env, eval (.Call fe (e :: es) [] pos) env = (do callWith pos (← eval fe env) [] (backTo pos (starEach (e :: es) env)) (backToKw pos (keywordEach [] env))) := by intro _; rfl) : ED n fi L ev δ μ (.Call fe (e :: es) [] pos) (μb ++ ρ) d := by
  intro c τ ν Q E h tk R S K
  refine Call_ (hf c τ ν _ _ h tk R S fun v h' tk' S' => ?_) (hc' _)
  obtain rfl := S'.isObj (.inl ⟨rfl, rfl⟩)
  refine args1 R S' hs hk (hp _) (fun vs τ' h'' tk'' s t S'' => ?_) he
  refine hc fi ht L c δ τ' (ρ ++ ν) vs _ _ h'' tk'' (R.le hn) t (List.append_assoc _ _ _ ▸ S'') (fun v μ' d' h₃ tk₃ o S₃ => ?_) fun x' j h₃ tk₃ o X => nomatch ho.symm.trans o.symm
  cases ho.symm.trans o.symm
  refine K v h₃ tk₃ ?_
  rw [List.append_assoc]
  exact S₃.weaken (fun _ _ e => e) fun v d e => e.elim .inl fun e => .inr (s _ _ (.inr e))
end
theorem ft_of {n k : Nat} {f : Addr} {μ : Mus} {ds : List Dt} {out : FO} {name qual : Str} {params : Arguments} {body : List Stmt} {scope : Scope} {dV kV doc pm cdv ct oc : Value} {an od : Option Addr} {osl : Array (Option Value)} (ps : List Str) {δ' : Loc}
    (ho : ∀ P, (KM P).lookup f = some ⟨oc, od, .func (fnOf name qual params body scope dV kV doc pm an cdv ct), osl⟩) (hcd : ∀ P, codeIn (KM P) cdv qual = true)
    (hbind : ∀ vals : List Value, vals.length = ds.length → ∀ s, BindsTo s (fnOf name qual params body scope dV kV doc pm an cdv ct) ⟨vals, []⟩ (ps.zip vals)) (hloc : ∀ y ∈ ps, scope.names.lookup y = some .local)
    (hδ : (ps.zip ds).reverse = δ') (hk : Nat.ble (k + 1) n = true) (hb : ∀ L, BdT k ⟨qual, scope, f, cdv, fun _ => [], false⟩ L δ' μ body (Lf out) (fun i => out = .ret [] (.int i)))
    (hcell : ∀ x ∈ scope.names, x.2 ≠ .cell) (hco : scope.isCoroutine = false) (hgen : scope.isGenerator = false) (hkd : scope.kind = .function) : FuT n (.ref f) μ ds (· = out) :=
  fuT_of ps ho hcd hbind hloc hδ hk hb (fun _ _ h => h) (fun _ _ h => h) (fun _ _ h => h) (fun _ h => h.symm) hcell hco hgen hkd
end Mine
end

noncomputable section
open PySem PySem.W PyProof.Rows PySem.Calls PySem.Spec
set_option Elab.async false
set_option linter.unusedVariables false
namespace Mine
set_option maxRecDepth 100000
set_option maxHeartbeats 8000000

def rowD (r : Row) : Dt := .tuple [.str r.1, .str r.2]
section
variable {rows : List Row} {n : Nat} {fi : Fi} {L : Addr} {env : Env} {δ δc : Loc} {j : Nat} {x : Str} {p p1 : Pos} {μ : Mus} {C : Addr}
abbrev bind1 (x : Str) (d : Dt) (δ : Loc) : Loc := (x, d) :: δ
theorem plain_q (hk : env.scope.kind = .function) (hx : env.kindOf x = some .local) (hl : env.locals = C) (hn : 1 ≤ n) (hb : (x == ("__debug__" : Str)) = false)
    (he : ∀ (r : Row) i δc, ED n fi L env δ ((C, .ns ((x, .tok r i) :: δc)) :: μ) elt ((C, .ns ((x, .tok r i) :: δc)) :: μ) (rowD r)) : ∀ (rs : List Row) (j : Nat) (δc : Loc), Cq (bind1 x) n fi L env elt δ C μ (tokDts rs j) δc μ (rs.map rowD)
  | [], _, _ => ⟨rfl, rfl⟩
  | r :: rs, j, δc => ⟨_, _, _, rfl, he r j δc, plain_q hk hx hl hn hb he rs (j + 1) _⟩
theorem plain_c (hl : rows.length ≤ 1000000) : Fu 2 (.ref 243) [] [.list (tokDts rows j)] (· = .ret [] (.list (rows.map rowD))) := by
  refine fd_of (k := 1) [Str.ofString "tokens"] (ho := fun P => rfl) (hcd := fun P => rfl) (hbind := fun vals hv s => by obtain ⟨a, rfl⟩ := len1 hv; exact BindsTo.of_eq rfl) (hloc := all1 rfl) (hδ := rfl) (hk := rfl) (hb := fun L => ?_) (hcell := by decide) rfl rfl rfl
  refine' bRet (eComp (cl := []) (bind := bind1 (Str.ofString "token")) (iterL (eName rfl rfl) ?_) rfl ?_ rfl ?_ (fun C => plain_q rfl rfl rfl (Nat.le_refl _) (by decide) (fun r i δc => eMethT meth_told told_c rfl (cName rfl rfl rfl rfl) rfl) rows j []) ?_) rfl
  · rintro d - c C δ μ ⟨δc, μr, rfl⟩
    exact agNameC rfl rfl rfl
  · decide
  · decide
  · rw [tokDts_length]; exact hl
end
end Mine
end

noncomputable section
open PySem PySem.W PyProof.Rows PySem.Calls PySem.Spec
set_option Elab.async false
set_option linter.unusedVariables false
namespace Mine
set_option maxRecDepth 100000
set_option maxHeartbeats 8000000

section
variable {rows : List Row} {i N : Nat} {j : Int}
theorem ps_err : ∀ {rs : List Row} {k N : Nat} {j : Int}, k + rs.length ≤ N → psR rs k N = .error j → j < N
  | [], k, N, j, hk, h => by
    unfold psR at h; cases h; omega
  | r :: rs, k, N, j, hk, h => by
    unfold psR at h
    simp only [List.length_cons] at hk
    split at h
    · cases h
    · split at h
      · cases h; omega
      · split at h
        · cases h
        · rename_i q hq
          cases h
          exact ps_err (by omega) hq
theorem tell_lt : tellAt rows i ≤ rows.length := by
  unfold tellAt
  split
  · omega
  · omega
theorem side_err (hi : i ≤ rows.length) (h : sideR rows i = .error j) : j ≤ rows.length := by
  unfold sideR at h
  split at h
  · cases h; exact tell_lt
  · rename_i r hr
    have hlt := (List.getElem?_eq_some_iff.mp hr).1
    split at h
    · split at h
      · cases h
      · rename_i q hq
        cases h
        exact Int.le_of_lt (ps_err (by simp; omega) hq)
    · split at h
      · cases h
      · cases h; omega
theorem pair_err (hi : i ≤ rows.length) (h : pairR rows i = .error j) : j ≤ rows.length := by
  unfold pairR at h
  split at h
  · rename_i q hq
    cases h; exact side_err hi hq
  · rename_i a s e1 h1
    have := side_le h1
    split at h
    · cases h; exact tell_lt
    · split at h
      · rename_i hb
        have := (List.getElem?_eq_some_iff.mp hb).1
        split at h
        · rename_i q hq
          cases h; exact side_err (by omega) hq
        · cases h
      · cases h; exact tell_lt
theorem pairs_err : ∀ {n i : Nat}, i ≤ rows.length → pairsR rows n i = .error j → j ≤ rows.length
  | 0, i, hi, h => by
    unfold pairsR at h; cases h; exact tell_lt
  | n + 1, i, hi, h => by
    unfold pairsR at h
    split at h
    · rename_i q hq
      cases h; exact pair_err hi hq
    · rename_i p e hp
      have := pair_le hp
      split at h
      · cases h
      · split at h
        · rename_i q hq
          cases h; exact pairs_err this.2 hq
        · cases h
theorem copy_err (h : copyR rows = .error j) : j ≤ rows.length := by
  unfold copyR at h
  split at h
  · cases h; omega
  · rename_i r hr
    have hlt := (List.getElem?_eq_some_iff.mp hr).1
    split at h
    · split at h
      · rename_i hc
        cases h; omega
      · dsimp only at h
        generalize (if rows[1]? = some rOf ∨ rows[1]? = some rIn then 3 else 1) = i at h
        split at h
        · rename_i hx
          have := (List.getElem?_eq_some_iff.mp hx).1
          split at h
          · rename_i q hq
            cases h; exact pairs_err (by omega) hq
          · cases h
        · split at h
          · cases h
          · cases h; exact tell_lt
    · cases h; omega
theorem pair_len {p : Pair} {e : Nat} (h : pairR rows i = .ok (p, e)) : p.1.2.length ≤ rows.length ∧ p.2.2.length ≤ rows.length := by
  unfold pairR at h
  split at h
  · cases h
  · rename_i a s e1 h1
    have := side_le h1
    split at h
    · cases h
    · split at h
      · split at h
        · cases h
        · rename_i a' s' e' h2
          cases h
          exact ⟨(side_le h1).2.2, (side_le h2).2.2⟩
      · cases h
theorem pairs_len : ∀ {n i : Nat} {ps : List Pair} {e : Nat}, pairsR rows n i = .ok (ps, e) → ps.length ≤ n ∧ ∀ p ∈ ps, p.1.2.length ≤ rows.length ∧ p.2.2.length ≤ rows.length
  | 0, i, ps, e, h => by
    unfold pairsR at h; cases h
  | n + 1, i, ps, e, h => by
    unfold pairsR at h
    split at h
    · cases h
    · rename_i p e1 hp
      have := pair_len hp
      split at h
      · cases h
        exact ⟨by simp, fun p hp => by rw [List.mem_singleton.mp hp]; exact this⟩
      · split at h
        · cases h
        · rename_i ps' e' hq
          cases h
          have q := pairs_len hq
          exact ⟨by simp only [List.length_cons]; omega, fun p hp => by
            rcases List.mem_cons.mp hp with rfl | hp
            · exact this
            · exact q.2 p hp⟩
theorem copy_len {x : Str} {ps : List Pair} {e : Nat} (h : copyR rows = .ok (x, ps, e)) : ps.length ≤ rows.length ∧ ∀ p ∈ ps, p.1.2.length ≤ rows.length ∧ p.2.2.length ≤ rows.length := by
  unfold copyR at h
  split at h
  · cases h
  · split at h
    · split at h
      · cases h
      · dsimp only at h
        generalize (if rows[1]? = some rOf ∨ rows[1]? = some rIn then 3 else 1) = i at h
        split at h
        · split at h
          · cases h
          · rename_i q hq
            cases h
            exact pairs_len hq
        · split at h
          · cases h
            exact ⟨Nat.zero_le _, fun p hp => nomatch hp⟩
          · cases h
    · cases h
end
end Mine
end

noncomputable section
open PySem PySem.W PyProof.Rows PySem.Calls PySem.Spec
set_option Elab.async false
set_option linter.unusedVariables false
namespace Mine
set_option maxRecDepth 100000
set_option maxHeartbeats 8000000

def bindE (d : Dt) (δ : Loc) : Loc := match d with
  | .tuple [i, .tuple [k, w]] => (Str.ofString "worth", w) :: (Str.ofString "kind", k) :: (Str.ofString "at", i) :: δ
  | _ => δ
def bind2 (x y : Str) (d : Dt) (δ : Loc) : Loc := match d with
  | .tuple [a, b] => (y, b) :: (x, a) :: δ
  | _ => δ
def plainD (rs : List Row) : Dt := .list (rs.map rowD)
def told2 (p : Pair) : Dt := .tuple [plainD p.1.2, plainD p.2.2]
noncomputable def heardD (rows : List Row) : Dt := match copyR rows with
  | .ok p => .tuple [.str p.1, .list (p.2.1.map told2), .int (p.2.2 : Nat)]
  | .error j => .int j
section
variable {n : Nat} {fi : Fi} {L : Addr} {env : Env} {δ δc : Loc} {μ : Mus} {C : Addr} {elt : Expr}
theorem num_q {es : Row → Nat → Dt} (he : ∀ (r : Row) i δc, ED n fi L env δ ((C, .ns (bindE (.tuple [.int (i : Nat), rowD r]) δc)) :: μ) elt ((C, .ns (bindE (.tuple [.int (i : Nat), rowD r]) δc)) :: μ) (.tok r i)) : ∀ (rs : List Row) (j : Nat) (δc : Loc), Cq bindE n fi L env elt δ C μ (numD j (rs.map rowD)) δc μ (tokDts rs j)
  | [], _, _ => ⟨rfl, rfl⟩
  | r :: rs, j, δc => ⟨_, _, _, rfl, he r j δc, num_q (es := es) he rs (j + 1) _⟩
theorem map_q {α : Type} {bind : Dt → Loc → Loc} {f g : α → Dt} (he : ∀ r δc, ED n fi L env δ ((C, .ns (bind (f r) δc)) :: μ) elt ((C, .ns (bind (f r) δc)) :: μ) (g r)) : ∀ (rs : List α) (δc : Loc), Cq bind n fi L env elt δ C μ (rs.map f) δc μ (rs.map g)
  | [], _ => ⟨rfl, rfl⟩
  | r :: rs, δc => ⟨_, _, _, rfl, he r δc, map_q he rs _⟩
theorem map_qm {α : Type} {bind : Dt → Loc → Loc} {f g : α → Dt} : ∀ (rs : List α) (δc : Loc), (∀ r ∈ rs, ∀ δc, ED n fi L env δ ((C, .ns (bind (f r) δc)) :: μ) elt ((C, .ns (bind (f r) δc)) :: μ) (g r)) → Cq bind n fi L env elt δ C μ (rs.map f) δc μ (rs.map g)
  | [], _, _ => ⟨rfl, rfl⟩
  | r :: rs, δc, he => ⟨_, _, _, rfl, he r (.head _) δc, map_qm rs _ fun r hr => he r (.tail _ hr)⟩
end
theorem num_mem : ∀ {rs : List Row} {j : Nat} {d : Dt}, d ∈ numD j (rs.map rowD) → ∃ (i : Nat) (r : Row), d = .tuple [.int (i : Nat), rowD r]
  | r :: rs, j, d, h => by
    rcases List.mem_cons.mp h with rfl | h
    · exact ⟨j, r, rfl⟩
    · exact num_mem h
theorem num_len : ∀ (ds : List Dt) (j : Nat), (numD j ds).length = ds.length
  | [], _ => rfl
  | _ :: ds, j => by simp [numD, num_len ds (j + 1)]
section
variable {rows : List Row}
theorem rows_ok (g : Gd rows) : Ok (plainD rows) := by
  show kqdOk 8 (toDat (.list (rows.map rowD))) = true
  rw [toDat, toDats_eq, kqdOk, List.all_eq_true]
  intro d hd
  obtain ⟨d', hd', rfl⟩ := List.mem_map.mp hd
  obtain ⟨r, hr, rfl⟩ := List.mem_map.mp hd'
  have := g.ok r hr
  simpa [rowD, toDat, toDats, kqdOk] using this.1
/-- _law_heard: what read_copy says -/
theorem heard_c (g : Gd rows) : FuT 13 (.ref 248) [] [plainD rows] (· = .ret [] (heardD rows)) := by
  have hl := g.len
  refine ft_of (k := 12) [Str.ofString "rows"] (ho := fun P => rfl) (hcd := fun P => rfl) (hbind := fun vals hv s => by obtain ⟨a, rfl⟩ := len1 hv; exact BindsTo.of_eq rfl) (hloc := all1 rfl) (hδ := rfl) (hk := rfl) (hb := fun L => ?_) (hcell := by decide) rfl rfl rfl
  refine bT_seq (pre := [_, _]) ?_
  refine' bComp (cl := []) (bind := bindE) (μ₁ := []) (iterE (ds := rows.map rowD) ⟨fun P => rfl, rfl, rfl, rfl, rfl, rfl⟩ (eName rfl rfl) ?ha) rfl ?_ rfl ?_ (fun C => num_q (es := fun r i => .tok r i) (fun r i δc => eCall tokn_c rfl (eGlob (f := 187) (fun P => rfl) rfl rfl rfl) (esCons (cName rfl rfl rfl rfl) (esCons (cName rfl rfl rfl rfl) (esCons (eTup (esCons eInt (esCons (cName rfl rfl rfl rfl) esNil))) esNil))) rfl (fun P => rfl)) rows 0 []) ?_ rfl rfl ?rest
  case ha =>
    rintro d hd c C δ μ ⟨δc, μr, rfl⟩
    obtain ⟨i, r, rfl⟩ := num_mem hd
    exact agTup2 (agNameC rfl rfl rfl) (agTup2 (agNameC rfl rfl rfl) (agNameC rfl rfl rfl))
  case rest =>
    refine bSetC (walk_c hl) (eGlob (f := 122) (fun P => rfl) rfl rfl rfl) (esCons (eName rfl rfl) esNil) rfl (fun P => rfl) ?_ (fun j hj => nomatch hj) rfl
    rintro _ _ ⟨wd, tl, e⟩
    cases e
    refine bNil ?_
    refine bTry ?body (fun P => rfl) rfl rfl
    cases hcp : copyR rows with
    | error j =>
      have hj := copy_err hcp
      refine bAsgX (eCallX (read_copy_c g) (by unfold cpOut; rw [hcp]) (eGlob (f := 161) (fun P => rfl) rfl rfl rfl) (esCons (eName rfl rfl) esNil) rfl (fun P => rfl)) ⟨by unfold heardD; rw [hcp], by omega⟩
    | ok p =>
      obtain ⟨x, ps, e⟩ := p
      have hps := copy_len hcp
      refine bAsg (eCall (read_copy_c g) (by unfold cpOut; rw [hcp]) (eGlob (f := 161) (fun P => rfl) rfl rfl rfl) (esCons (eName rfl rfl) esNil) rfl (fun P => rfl)) (fun c => agPair rfl rfl) (bNil ?_)
      show Bd _ _ _ _ _ _ _
      refine' bSet (eTup (esCons (eName rfl rfl) (esCons (eComp (cl := []) (bind := bind2 (Str.ofString "old") (Str.ofString "new")) (iterL (eName rfl rfl) ?hb) rfl ?_ rfl ?_ (fun C => map_qm (f := pairD) (g := told2) ps [] fun q hq δc => eTup (esCons (eCall (plain_c ?h1) rfl (eGlob (f := 243) (fun P => rfl) rfl rfl rfl) (esCons (cName rfl rfl rfl rfl) esNil) rfl (fun P => rfl)) (esCons (eCall (plain_c ?h2) rfl (eGlob (f := 243) (fun P => rfl) rfl rfl rfl) (esCons (cName rfl rfl rfl rfl) esNil) rfl (fun P => rfl)) esNil))) ?hl) (esCons (eAt own_at (eName rfl rfl) (.head _)) esNil)))) ?ret rfl
      case hb =>
        rintro d hd c C δ μ ⟨δc, μr, rfl⟩
        obtain ⟨q, hq, rfl⟩ := List.mem_map.mp hd
        exact agTup2 (agNameC rfl rfl rfl) (agNameC rfl rfl rfl)
      case h1 => have := (hps.2 q hq).1; omega
      case h2 => have := (hps.2 q hq).2; omega
      case hl => rw [List.length_map]; have := hps.1; show ps.length ≤ _; omega
      case ret =>
        refine bLose (μ₁ := [(wd, .wk tl e)]) (μ₃ := []) (.refl _) ?_
        refine bRet (eIfT (tCmp (eCall (plain_c (by omega)) rfl (eGlob (f := 243) (fun P => rfl) rfl rfl rfl) (esCons (eName rfl rfl) esNil) rfl (fun P => rfl)) (eName rfl rfl) (oEq (r := true) (rows_ok g) (rows_ok g) ⟨fun _ => rfl, fun _ => rfl⟩)) rfl (eName rfl rfl)) ?_
        show FO.ret _ _ = _
        unfold heardD
        rw [hcp]
        rfl
      all_goals decide
  · decide
  · decide
  · rw [num_len, List.length_map]; omega
end
end Mine
end

noncomputable section
open PySem PySem.W PyProof.Rows PySem.Calls PySem.Spec
set_option Elab.async false
set_option linter.unusedVariables false
namespace Mine
set_option maxRecDepth 100000
set_option maxHeartbeats 8000000
section
variable {n k : Nat} {fi : Fi} {L : Addr} {c : Fc fi L} {ev : Env} {δ δ' : Loc} {τ : Tm} {μ μ₁ μ₂ μ₃ μ' ν : Mus} {d d₁ d₂ : Dt} {ds ds₁ ds₂ : List Dt} {b : Bool} {pos p1 p2 pc : Pos} {x y : Str} {e e₁ e₂ fe t : Expr} {lo hi : Option Expr} {lv hv : Option Int} {es : List Expr} {f a : Addr} {i j : Int} {h h' : Heap} {rest : List Stmt} {O : Out → Prop} {v : Value}
/-- a list that an operation made -/
theorem St.made {m : Str → Option Value} {imm mu : Led} {vs : List Value} (s : Sep mu imm) (l : LocIn c.P imm m δ) (tm : TmIn c.P imm τ) (u : MuIn c.P imm mu μ) (F' : Fr c.g c.L h' m) (N' : News c.g c.L h' ((a, listOf vs.toArray k) :: (mu ++ imm))) (lt : ∀ p ∈ mu ++ imm, p.1 < a) (r : DtAll c.P imm vs ds) :
    St c δ (τ.add (.ref a) (.obj a)) ((a, .lst ds) :: μ) h' := by
  refine ⟨m, imm, (a, listOf vs.toArray k) :: mu, F', N', ⟨fun p hp q hq => ?_, List.nodup_cons.mpr ⟨fun q => ?_, s.nd⟩⟩, l, tm.add (.obj _), rfl, ⟨vs, k, rfl, r⟩, u⟩
  · rcases List.mem_cons.mp hp with rfl | hp
    · exact Ne.symm (Nat.ne_of_lt (lt q (List.mem_append.mpr (.inr hq))))
    · exact s.off p hp q hq
  · obtain ⟨p, hp, e⟩ := List.mem_map.mp q
    exact Nat.ne_of_lt (lt p (List.mem_append.mpr (.inl hp))) e
theorem DtIn.lst {P : Params} {imm : Led} (q : DtIn P imm v (.list ds)) : ∃ l vs n, v = .ref l ∧ (l, listOf vs.toArray n) ∈ imm ∧ DtAll P imm vs ds := by
  cases q with
  | list hm r => exact ⟨_, _, _, rfl, hm, r⟩
/-- an expression that makes a new list -/
def EN (n : Nat) (fi : Fi) (L : Addr) (ev : Env) (δ : Loc) (μ : Mus) (e : Expr) (μ' : Mus) (ds : List Dt) : Prop :=
  ∀ (c : Fc fi L) (τ : Tm) (ν : Mus) (Q E : Value → Shared → Prop) (h : Heap) (tk : Nat), Room n c.A → St c δ τ (μ ++ ν) h →
    (∀ a h' tk', St c δ (τ.add (.ref a) (.obj a)) ((a, .lst ds) :: (μ' ++ ν)) h' → Q (.ref a) (c.st h' tk')) → wpAny (model prog0 c.w) c.A (eval e ev) Q E (c.st h tk)
theorem edN (h₁ : EN n fi L ev δ μ e μ' ds) : ED n fi L ev δ μ e μ' (.list ds) := fun c τ ν Q E h tk R S K => h₁ c τ ν Q E h tk R S fun a h' tk' S' => K _ _ _ (S'.freeze (fun _ _ e => .inl e) fun v d e => by
  rcases e with ⟨rfl, rfl⟩ | e
  · exact .inr ⟨.inl ⟨rfl, rfl⟩, rfl⟩
  · exact .inl (.inr e))
theorem bSetN {px : Pos} (he : EN n fi L (fi.env L) δ μ e μ' ds) (hx : fi.sc.names.lookup x = some .local) (hb : ∀ a, Bd n fi L ((x, .obj a) :: δ) ((a, .lst ds) :: μ') rest O) (hs : ∀ env, swapsWith e (some (.Name x px)) pos.line env = pure false := by intro _; rfl) : Bd n fi L δ μ (.Assign [.Name x px] e pos :: rest) O := by
  intro c τ ν Q E hh tk R S kr kn ke
  refine wpAny_execs_cons (wpAny_Assign_Name (he c τ ν _ _ hh tk R S fun a h' tk' S' => ?_) (hs _))
  obtain ⟨m, hm, st⟩ := S'.store x (.inl ⟨rfl, rfl⟩)
  exact wpAny_storeName_local hx hm (fun h'' hn hsb => hb a c τ ν Q E h'' _ R ((st h'' hn hsb).weaken (fun _ _ e => e) fun v d e => .inr e) kr kn ke) (by show (fi.sc.kind == .class || (fi.sc.kind == .module && L != mainGlobals)) = false; rw [c.fn]; rfl)
theorem nLst (h₁ : EDs n fi L ev δ μ es μ' ds) (hl : ds.length ≤ 1000000) : EN n fi L ev δ μ (.List es pos) μ' ds := by
  intro c τ ν Q E h tk R S K
  refine wpAny_List (h₁ c τ ν _ _ _ h tk R S fun vs τ' h' tk' s t S' => ⟨fits (t.length ▸ hl), K _ _ _ ?_⟩)
  exact (S'.pushMu (o := { cls := .type "list", data := .seq vs.toArray }) (k := .lst ds) rfl fun imm tm => ⟨vs, 0, rfl, t.all tm⟩).weaken (fun _ _ e => e) fun v d e => e.elim .inl fun e => .inr (s _ _ e)
theorem nAdd (h₁ : ED n fi L ev δ μ e₁ μ₁ (.list ds₁)) (h₂ : ED n fi L ev δ μ₁ e₂ μ₂ (.list ds₂)) (hl : ds₁.length + ds₂.length ≤ 1000000) : EN n fi L ev δ μ (.BinOp e₁ .Add e₂ pos) μ₂ (ds₁ ++ ds₂) := by
  intro c τ ν Q E h tk R S K
  refine wpAny_BinOp (h₁ c τ ν _ _ h tk R S fun a h' tk' S₁ => h₂ c _ ν _ _ h' tk' R S₁ fun b h'' tk'' S₂ => ?_)
  obtain ⟨m, imm, mu, F, N, s, l, tm, u⟩ := S₂
  obtain ⟨l₁, vs₁, n₁, rfl, m₁, r₁⟩ := (tm a _ (.inr (.inl ⟨rfl, rfl⟩))).lst
  obtain ⟨l₂, vs₂, n₂, rfl, m₂, r₂⟩ := (tm b _ (.inl ⟨rfl, rfl⟩)).lst
  refine add_lists (s := c.st h'' tk'') F N ⟨_, (N _ (List.mem_append.mpr (.inr m₁))).1, rfl, _, rfl⟩ ⟨_, (N _ (List.mem_append.mpr (.inr m₂))).1, rfl, _, rfl⟩ (fun h₃ F₃ N₃ => K _ _ _ ?_) (fits (by rw [r₁.length, r₂.length]; exact hl))
  exact (St.made (τ := _) (k := 0) s l tm u F₃ N₃ (fun p hp => Heap.lt_size (N p hp).1) (r₁.append r₂)).weaken (fun _ _ e => e) fun v d e => e.elim .inl fun e => .inr (.inr (.inr e))
/-- a bound of a slice -/
def PD (n : Nat) (fi : Fi) (L : Addr) (ev : Env) (δ : Loc) (μ : Mus) : Option Expr → Mus → Option Int → Prop
  | none, μ', o => μ' = μ ∧ o = none
  | some e, μ', o => ∃ i, o = some i ∧ ED n fi L ev δ μ e μ' (.int i)
theorem pd_run {Q : Value → Shared → Prop} {E : Value → Shared → Prop} {tk : Nat} {eo : Option Expr} {o : Option Int} (hp : PD n fi L ev δ μ eo μ' o) (R : Room n c.A) (S : St c δ τ (μ ++ ν) h) (K : ∀ v τ' h' tk', (∀ v d, τ v d → τ' v d) → IsPart v o → St c δ τ' (μ' ++ ν) h' → Q v (c.st h' tk')) :
    wpAny (model prog0 c.w) c.A (evalPart eo ev) Q E (c.st h tk) := by
  cases eo with
  | none =>
    obtain ⟨rfl, rfl⟩ := hp
    rw [evalPart_none]
    exact wpAny_pure (K _ τ h tk (fun _ _ e => e) .none S)
  | some e =>
    obtain ⟨i, rfl, hp⟩ := hp
    rw [evalPart_some]
    refine hp c τ ν _ _ h tk R S fun v h' tk' S' => ?_
    obtain ⟨t, rfl⟩ := S'.isInt (.inl ⟨rfl, rfl⟩)
    exact K _ _ h' tk' (fun _ _ e => e) (.int _ _) S'.drop
def cutD (lo hi : Option Int) (ds : List Dt) : List Dt := match lo, hi with
  | none, none => ds
  | none, some y => ds.take y.toNat
  | some x, none => ds.drop x.toNat
  | some x, some y => (ds.drop x.toNat).take (y.toNat - x.toNat)
theorem cut_pick {P : Params} {imm : Led} {vs : List Value} (r : DtAll P imm vs ds) (h0 : ∀ x, lv = some x → 0 ≤ x) (h1 : ∀ x, hv = some x → 0 ≤ x) : DtAll P imm (slicePick vs.toArray lv hv none).toList (cutD lv hv ds) := by
  have cut : (slicePick vs.toArray lv hv none).toList = (match lv, hv with
    | none, none => vs
    | none, some y => vs.take y.toNat
    | some x, none => vs.drop x.toNat
    | some x, some y => (vs.drop x.toNat).take (y.toNat - x.toNat)) := by
    cases lv with
    | none => cases hv with
      | none => rw [slicePick_all]
      | some y =>
        have := h1 y rfl
        have e : sliceBounds none (some y) none vs.toArray.size = (((0 : Nat) : Int), ((min y.toNat vs.toArray.size : Nat) : Int), 1) := by
          simp only [sliceBounds, Option.getD_none, show (1 : Int) > 0 by decide, if_true, if_neg (show ¬ (y < 0) by omega)]
          congr 1
          congr 1
          omega
        rw [kmk_pick_nat _ e]
        show (vs.drop 0).take (min y.toNat vs.toArray.size - 0) = _
        rw [List.drop_zero, Nat.sub_zero, List.size_toArray, kmk_take_min]
    | some x =>
      have := h0 x rfl
      cases hv with
      | none =>
        have e : sliceBounds (some x) none none vs.toArray.size = (((min x.toNat vs.toArray.size : Nat) : Int), ((vs.toArray.size : Nat) : Int), 1) := by
          simp only [sliceBounds, Option.getD_none, show (1 : Int) > 0 by decide, if_true, if_neg (show ¬ (x < 0) by omega)]
          congr 1
          omega
        rw [kmk_pick_nat _ e]
        show (vs.drop (min x.toNat vs.toArray.size)).take (vs.toArray.size - min x.toNat vs.toArray.size) = _
        rw [List.size_toArray, kmk_drop_min, List.take_of_length_le (by rw [List.length_drop]; omega)]
      | some y =>
        have := h1 y rfl
        have e : sliceBounds (some x) (some y) none vs.toArray.size = (((min x.toNat vs.toArray.size : Nat) : Int), ((min y.toNat vs.toArray.size : Nat) : Int), 1) := by
          simp only [sliceBounds, Option.getD_none, show (1 : Int) > 0 by decide, if_true, if_neg (show ¬ (x < 0) by omega), if_neg (show ¬ (y < 0) by omega)]
          congr 1
          · omega
          · congr 1
            omega
        rw [kmk_pick_nat _ e]
        show (vs.drop (min x.toNat vs.toArray.size)).take (min y.toNat vs.toArray.size - min x.toNat vs.toArray.size) = _
        rw [List.size_toArray, kmk_drop_min, show min y.toNat vs.length - min x.toNat vs.length = min y.toNat vs.length - x.toNat by omega]
        show _ = (vs.drop x.toNat).take (y.toNat - x.toNat)
        rw [← List.drop_take, ← List.drop_take, kmk_take_min]
  rw [cut]
  cases lv with
  | none => cases hv with
    | none => exact r
    | some y => exact r.take _
  | some x => cases hv with
    | none => exact r.drop _
    | some y => exact (r.drop _).take _
theorem nCut (h₁ : ED n fi L ev δ μ e μ₁ (.list ds)) (h₂ : PD n fi L ev δ μ₁ lo μ₂ lv) (h₃ : PD n fi L ev δ μ₂ hi μ₃ hv) (hl : ds.length ≤ 1000000) (h0 : ∀ x, lv = some x → 0 ≤ x) (h1 : ∀ x, hv = some x → 0 ≤ x) (ht : ∀ o r, letTemporaryGo e o r = pure () := by intro _ _; rfl) : EN n fi L ev δ μ (.Subscript e (.Slice lo hi none p1) pos) μ₃ (cutD lv hv ds) := by
  intro c τ ν Q E h tk R S K
  refine wpAny_Subscript_list_slice (h₁ c τ ν _ _ h tk R S fun v h' tk' S₁ => pd_run h₂ R S₁ fun u τ' h'' tk'' s' pl S₂ => pd_run h₃ R S₂ fun w τ'' h₃ tk₃ s'' pu S₃ => ?_) ht
  have hv' := s'' _ _ (s' _ _ (.inl ⟨rfl, rfl⟩))
  obtain ⟨m, imm, mu, F, N, s, l, tm, uu⟩ := S₃
  obtain ⟨l₁, vs₁, n₁, rfl, m₁, r₁⟩ := (tm v _ hv').lst
  refine ⟨l₁, vs₁.toArray, lv, hv, rfl, ⟨_, (N _ (List.mem_append.mpr (.inr m₁))).1, rfl, _, rfl⟩, fits (by rw [List.size_toArray, r₁.length]; exact hl), pl, pu, ?_⟩
  have S₃ : St c δ τ'' (μ₃ ++ ν) h₃ := ⟨m, imm, mu, F, N, s, l, tm, uu⟩
  have F₄ := F.push { cls := .type "slice", data := .fields #[u, w, .none] }
  have N₄ := N.grown (h' := h₃.push { cls := .type "slice", data := .fields #[u, w, .none] }) fun _ _ e => Heap.get?_push_of_some _ e
  have q := St.made (τ := τ'') (k := 0) (vs := (slicePick vs₁.toArray lv hv none).toList) s l tm uu (F₄.push { cls := .type "list", data := .seq (slicePick vs₁.toArray lv hv none) }) (News.push F₄ N₄ _) (fun p hp => Heap.lt_size (N₄ p hp).1) (cut_pick r₁ h0 h1)
  rw [Heap.size_push] at q
  refine K _ _ _ (q.weaken (fun _ _ e => e) fun v d e => e.elim .inl fun e => .inr (s'' _ _ (s' _ _ (.inr e))))
end
end Mine
end

noncomputable section
open PySem PySem.W PyProof.Rows PySem.Calls PySem.Spec
set_option Elab.async false
set_option linter.unusedVariables false
namespace Mine
set_option maxRecDepth 100000
set_option maxHeartbeats 8000000
section
variable {n k : Nat} {fi : Fi} {L : Addr} {c : Fc fi L} {δ : Loc} {τ : Tm} {μ μ₁ μ₂ ν : Mus} {d₁ d₂ : Dt} {ds : List Dt} {pos p1 p2 p3 p4 pt : Pos} {x y z : Str} {e₁ e₂ : Expr} {a : Addr} {h : Heap} {rest : List Stmt} {O : Out → Prop}
theorem St.isLst (S : St c δ τ μ h) (hm : (a, Mo.lst ds) ∈ μ) : ∃ vs, h.IsList a vs ∧ vs.size = ds.length := by
  obtain ⟨m, imm, mu, F, N, s, l, tm, u⟩ := S
  obtain ⟨o, ho, vs, n, rfl, r⟩ := u.mem hm
  exact ⟨vs.toArray, ⟨_, (N _ (List.mem_append.mpr (.inl ho))).1, rfl, _, rfl⟩, by rw [List.size_toArray, r.length]⟩
/-- x == [] where x is a list to be changed -/
theorem tMuNil (hx : fi.sc.names.lookup x = some .local) (hd : δ.lookup x = some (.obj a)) (hm : (a, Mo.lst ds) ∈ μ) (hb : (x == ("__debug__" : Str)) = false := by decide) : TD n fi L (fi.env L) δ μ (.Compare (.Name x p1) [.Eq] [.List [] p2] pos) μ ds.isEmpty := by
  intro c τ ν Q E h tk R S K
  refine wpAny_isTrue_Compare1 (eName hx hd hb c τ ν _ _ h tk R S fun v h' tk' S₁ => nLst esNil (Nat.zero_le _) c _ ν _ _ h' tk' R S₁ fun b h'' tk'' S₂ => ?_) rfl
  obtain rfl := S₂.isObj (v := v) (x := a) (.inr (.inl ⟨rfl, rfl⟩))
  obtain ⟨vs, hl, hn⟩ := S₂.isLst (a := a) (ds := ds) (.tail _ (List.mem_append.mpr (.inl hm)))
  obtain ⟨vs', hl', hn'⟩ := S₂.isLst (a := b) (ds := []) (.head _)
  have hu : c.A.units < cLine := by have := R.un; omega
  have K' : wpAny (model prog0 c.w) c.A (truthy (.bool ds.isEmpty)) Q E (c.st h'' tk'') := wpAny_truthy_bool (K _ _ ((St.loses (own := [(b, .lst [])]) S₂).weaken (fun _ _ e => e) fun _ _ e => .inr (.inr e)))
  show wpAny _ _ (richCompare .Eq (.ref a) (.ref b)) _ E (c.st h'' tk'')
  obtain rfl : vs' = #[] := Array.eq_empty_of_size_eq_zero hn'
  cases ds with
  | nil =>
    obtain rfl : vs = #[] := Array.eq_empty_of_size_eq_zero hn
    exact SeqAt.RcAt.lists (s := c.st h'' tk'') (e := fun _ => true) hl hl' rfl hu (fun j h1 => absurd h1 (Nat.not_lt_zero _)) _ _ _ _ K'
  | cons d ds =>
    exact SeqAt.RcAt.lists_lengths (s := c.st h'' tk'') hl hl' (by simp [hn]) hu _ _ _ _ K'
/-- x, y, z = e₁, e₂, [] : the last to be changed -/
theorem bSwap3 (h₁ : ED n fi L (fi.env L) δ μ e₁ μ₁ d₁) (h₂ : ED n fi L (fi.env L) δ μ₁ e₂ μ₂ d₂) (hx : fi.sc.names.lookup x = some .local) (hy : fi.sc.names.lookup y = some .local) (hz : fi.sc.names.lookup z = some .local)
    (hb : ∀ a, Bd n fi L ((x, d₁) :: (y, d₂) :: (z, .obj a) :: δ) ((a, .lst []) :: μ₂) rest O) (hw : swappedStores [.Tuple [.Name x p1, .Name y p2, .Name z p3] k pt] (.Tuple [e₁, e₂, .List [] p4] 0 pos) (fi.env L) = pure (some [x, y, z]) := by rfl)
    (g1 : ∀ env es, starEach (e₁ :: es) env = (false, eval e₁ env) :: starEach es env := by intro _ _; rfl) (g2 : ∀ env es, starEach (e₂ :: es) env = (false, eval e₂ env) :: starEach es env := by intro _ _; rfl) : Bd n fi L δ μ (.Assign [.Tuple [.Name x p1, .Name y p2, .Name z p3] k pt] (.Tuple [e₁, e₂, .List [] p4] 0 pos) pos :: rest) O := by
  intro c τ ν Q E hh tk R S kr kn ke
  have hp : (fi.sc.kind == .class || (fi.sc.kind == .module && L != mainGlobals)) = false := by rw [c.fn]; rfl
  refine wpAny_execs_cons (Assign_Tuple_swapped (wpAny_Tuple ?_) rfl hw)
  refine wpAny_items_cons (h₁ c τ ν _ _ hh tk R S fun v h₁ tk₁ S₁ => ?_) (g1 _ _)
  refine wpAny_items_cons (h₂ c _ ν _ _ h₁ tk₁ R S₁ fun u h₂ tk₂ S₂ => ?_) (g2 _ _)
  refine wpAny_items_cons (nLst esNil (Nat.zero_le _) c _ ν _ _ h₂ tk₂ R S₂ fun a h₃ tk₃ S₃ => ?_) (by rfl)
  refine wpAny_items_nil ⟨fits (Nat.le_of_ble_eq_true rfl), ?_⟩
  have S₄ := S₃.push (o := { cls := .type "tuple", data := .seq [v, u, .ref a].toArray }) (v := .ref h₃.objs.size) (d := .tuple [d₁, d₂, .obj a]) rfl fun imm t => .tuple (.head _) ((DtAll.cons (t _ _ (.inr (.inr (.inl ⟨rfl, rfl⟩)))) (.cons (t _ _ (.inr (.inl ⟨rfl, rfl⟩))) (.cons (.obj _) .nil))).mono fun _ q => .tail _ q)
  refine unpackItems_tuple (s := c.st (h₃.push _) tk₃) (items := [v, u, .ref a].toArray) c.hd ⟨_, Heap.get?_push_size _ rfl, rfl, _, rfl⟩ fun h₅ he => ?_
  have S₅ := S₄.ext he
  show wpAny _ _ (assignInOrder [bindName (fi.env L) z, bindName (fi.env L) y, bindName (fi.env L) x] [.ref a, u, v]) _ _ _
  obtain ⟨m, hm, st⟩ := S₅.store z (v := .ref a) (d := .obj a) (.inr (.inl ⟨rfl, rfl⟩))
  refine assignInOrder_cons (bindName_ (wpAny_storeName_local hz hm (fun h₆ hn₆ hs₆ => ?_) hp))
  have S₆ := st h₆ hn₆ hs₆
  obtain ⟨m, hm, st⟩ := S₆.store y (v := u) (d := d₂) (.inr (.inr (.inl ⟨rfl, rfl⟩)))
  refine assignInOrder_cons (bindName_ (wpAny_storeName_local hy hm (fun h₇ hn₇ hs₇ => ?_) hp))
  have S₇ := st h₇ hn₇ hs₇
  obtain ⟨m, hm, st⟩ := S₇.store x (v := v) (d := d₁) (.inr (.inr (.inr (.inl ⟨rfl, rfl⟩))))
  refine assignInOrder_cons (bindName_ (wpAny_storeName_local hx hm (fun h₈ hn₈ hs₈ => ?_) hp))
  have S₈ := st h₈ hn₈ hs₈
  exact assignInOrder_nil (hb a c τ ν Q E h₈ _ R (S₈.weaken (fun _ _ e => e) fun v d e => .inr (.inr (.inr (.inr e)))) kr kn ke)
end
end Mine
end

noncomputable section
open PySem PySem.W PyProof.Rows PySem.Calls PySem.Spec
set_option Elab.async false
set_option linter.unusedVariables false
namespace Mine
set_option maxRecDepth 100000
set_option maxHeartbeats 8000000

theorem Gd.l63 {rows : List Row} (g : Gd rows) : rows.length < 2 ^ 63 := Nat.lt_trans g.len (by decide)
theorem lkSame {δ : Loc} {y : Str} {d d' : Dt} : ∀ x e, ((y, d) :: δ).lookup x = some e → ((y, d) :: (y, d') :: δ).lookup x = some e := fun x e h => by
  rw [List.lookup_cons] at h ⊢
  split
  · rename_i q; rw [q] at h; exact h
  · rename_i q; rw [q] at h; rw [List.lookup_cons, q]; exact h
section
variable {n : Nat} {fi : Fi} {L : Addr} {ev : Env} {δ : Loc} {μ μ₁ μ₂ : Mus} {e₁ e₂ : Expr} {pos : Pos} {rows : List Row} {r a b : Row} {i : Nat}
theorem eRow (h₁ : ED n fi L ev δ μ e₁ μ₁ (plainD rows)) (h₂ : ED n fi L ev δ μ₁ e₂ μ₂ (.int (i : Nat))) (hr : rows[i]? = some r) (hl : rows.length < 2 ^ 63)
    (hs : ∀ l u, subscripted e₂ false (.ref l) (.int (i : Nat) u) = operate [.ref l, .int (i : Nat) u] (getItem (.ref l) (.int (i : Nat) u)) := by intro _ _; with_unfolding_all rfl) : ED n fi L ev δ μ (.Subscript e₁ e₂ pos) μ₂ (rowD r) :=
  eItem h₁ h₂ (Int.natCast_nonneg i) (by rw [Int.toNat_natCast, List.getElem?_map, hr]; rfl) (by have := (List.getElem?_eq_some_iff.mp hr).1; omega) hs
abbrev Rok (r : Row) : Prop := PyData.strOk r.1 = true ∧ PyData.strOk r.2 = true
theorem Gd.rok {rows : List Row} (g : Gd rows) (h : rows[i]? = some r) : Rok r := (g.at h).1
theorem row_ok (o : Rok r) : Ok (rowD r) := by simp [Ok, rowD, toDat, toDats, kqdOk, o.1, o.2]
theorem row_inj : toDat (rowD a) = toDat (rowD b) ↔ a = b := by
  constructor
  · intro h
    simp only [rowD, toDat, toDats] at h
    injection h with h
    injection h with h1 h2
    injection h2 with h2 _
    injection h1 with h1
    injection h2 with h2
    exact Prod.ext h1 h2
  · rintro rfl; rfl
theorem rNe (o : Rok r) (o₂ : Rok a := by decide +kernel) : Op2 n .NotEq (rowD r) (.tuple [.str a.1, .str a.2]) (.bool (decide (r ≠ a))) := oNe (row_ok o) (row_ok o₂) (by rw [decide_eq_true_iff]; exact not_congr row_inj.symm)
theorem rEq (o : Rok r) (o₂ : Rok a := by decide +kernel) : Op2 n .Eq (rowD r) (.tuple [.str a.1, .str a.2]) (.bool (decide (r = a))) := oEq (row_ok o) (row_ok o₂) (by rw [decide_eq_true_iff]; exact row_inj.symm)
theorem rNotIn (o : Rok r) (oa : Rok a := by decide +kernel) (ob : Rok b := by decide +kernel) : Op2 n .NotIn (rowD r) (.tuple [.tuple [.str a.1, .str a.2], .tuple [.str b.1, .str b.2]]) (.bool (decide (r ≠ a ∧ r ≠ b))) :=
  oNotIn (xs := [rowD a, rowD b]) (row_ok o) (fun d hd => by
    rcases List.mem_cons.mp hd with rfl | hd
    · exact row_ok oa
    · rw [List.mem_singleton.mp hd]; exact row_ok ob) (by
    rw [decide_eq_true_iff]
    constructor
    · rintro ⟨h1, h2⟩ ⟨x, hx, e⟩
      rcases List.mem_cons.mp hx with rfl | hx
      · exact h1 (row_inj.mp e).symm
      · rw [List.mem_singleton.mp hx] at e; exact h2 (row_inj.mp e).symm
    · intro h
      exact ⟨fun e => h ⟨_, .head _, row_inj.mpr e.symm⟩, fun e => h ⟨_, .tail _ (.head _), row_inj.mpr e.symm⟩⟩)
end
def oneD : Except Int (Nat × Side) → Dt
  | .ok p => .tuple [plainD p.2.1, .int (p.2.2 : Nat)]
  | .error j => .tuple [.none, .int j]
def sideP (i : Nat) : Except Int Side → Except Int (Nat × Side)
  | .ok p => .ok (i, p)
  | .error j => .error j
def addP (l : List Row) : Except Int Side → Except Int Side
  | .ok p => .ok (l ++ p.1, p.2)
  | .error j => .error j
section
variable {rows : List Row} {i : Nat} {r : Row}
theorem ps_at (hr : rows[i]? = some r) (h1 : r ≠ rPs) (h2 : r ≠ rCopy) (N : Nat) : psR (rows.drop i) i N = addP [r] (psR (rows.drop (i + 1)) (i + 1) N) := by
  have hlt := (List.getElem?_eq_some_iff.mp hr).1
  rw [List.drop_eq_getElem_cons hlt, (List.getElem?_eq_some_iff.mp hr).2, psR, if_neg h1, if_neg h2]
  cases psR (rows.drop (i + 1)) (i + 1) N <;> rfl
theorem one_c (g : Gd rows) (hi : i ≤ rows.length) (hne : 0 < rows.length) : Fu 1 (.ref 231) [] [plainD rows, .int (i : Nat)] (· = .ret [] (oneD (sideR rows i))) := by
  have hN := g.len
  have hlm : (rows.map rowD).length = rows.length := List.length_map _
  have hln : (rows.map rowD).length ≤ 1000000 := by omega
  refine fd_of (k := 0) [Str.ofString "rows", Str.ofString "at"] (ho := fun P => rfl) (hcd := fun P => rfl) (hbind := fun vals hv s => by obtain ⟨a, b, rfl⟩ := len2 hv; exact BindsTo.of_eq rfl) (hloc := all2 rfl rfl) (hδ := rfl) (hk := rfl) (hb := fun L => ?_) (hcell := by decide) rfl rfl rfl
  by_cases h1 : i = rows.length
  · subst h1
    refine' bIfT (tCmp (eName rfl rfl) (eCallB (x := Str.ofString "len") ⟨fun P => rfl, rfl, rfl, rfl, rfl, rfl⟩ (con_len hln) rfl (esCons (eName rfl rfl) esNil) rfl) oEqI) (by rw [hlm]; exact beq_self_eq_true _) (bRet (eTup (esCons eNone (esCons (eBin (eCallB (x := Str.ofString "len") ⟨fun P => rfl, rfl, rfl, rfl, rfl, rfl⟩ (con_len hln) rfl (esCons (eName rfl rfl) esNil) rfl) eInt bSub) esNil))) ?_)
    unfold sideR
    rw [List.getElem?_eq_none (Nat.le_refl _), hlm]
    show FO.ret _ _ = FO.ret _ (.tuple [.none, .int (tellAt rows rows.length)])
    unfold tellAt
    rw [if_neg (by intro e; rw [e] at hne; exact absurd hne (Nat.lt_irrefl _)), show (((min rows.length (rows.length - 1) : Nat) : Int)) = (rows.length : Int) - 1 by omega, ← hlm]
    rfl
  · have hlt : i < rows.length := by omega
    obtain ⟨r, hr⟩ : ∃ r, rows[i]? = some r := ⟨_, List.getElem?_eq_getElem hlt⟩
    refine' bIfF (tCmp (eName rfl rfl) (eCallB (x := Str.ofString "len") ⟨fun P => rfl, rfl, rfl, rfl, rfl, rfl⟩ (con_len hln) rfl (esCons (eName rfl rfl) esNil) rfl) oEqI) (by rw [hlm]; simp; omega) ?_
    by_cases hp : r = rPs
    · subst hp
      have hs : sideR rows i = sideP (i + 1) (psR (rows.drop (i + 1)) (i + 1) rows.length) := by
        unfold sideR; rw [hr]; rfl
      rw [hs]
      refine' bIfF (tCmp (eRow (eName rfl rfl) (eName rfl rfl) hr g.l63) (eTup (esCons eStr (esCons eStr esNil))) (rNe (a := rPs) (g.rok hr))) (decide_eq_false (fun q => q rfl)) (bSet (eBin (eName rfl rfl) eInt bAdd) (bWhile ?_) rfl)
      generalize hP : psR (rows.drop (i + 1)) (i + 1) rows.length = P
      refine (?loop : ∀ (m e : Nat), rows.length - e = m → i + 1 ≤ e → e ≤ rows.length → P = addP ((rows.drop (i + 1)).take (e - (i + 1))) (psR (rows.drop e) e rows.length) → Wl _ _ L _ _ _ (Lf (.ret [] (oneD (sideP (i + 1) P)))) [(Str.ofString "end", .int (e : Nat)), (Str.ofString "at", .int (i : Nat)), (Str.ofString "rows", plainD rows)] []) _ (i + 1) rfl (Nat.le_refl _) hlt ?start
      case start =>
        rw [Nat.sub_self, List.take_zero, ← hP]
        cases psR (rows.drop (i + 1)) (i + 1) rows.length <;> rfl
      intro m
      induction m with
      | zero =>
        intro e hm h0 h2 hE
        have he : e = rows.length := by omega
        subst he
        refine' wlStep (tAnd (b₂ := false) (tCmp (eName rfl rfl) (eCallB (x := Str.ofString "len") ⟨fun P => rfl, rfl, rfl, rfl, rfl, rfl⟩ (con_len hln) rfl (esCons (eName rfl rfl) esNil) rfl) oLt) (fun q => absurd q (by rw [hlm]; simp)) (fun _ => rfl)) (fun _ => ?_) (fun q => absurd q (by simp))
        refine' bIfT (tCmp (eName rfl rfl) (eCallB (x := Str.ofString "len") ⟨fun P => rfl, rfl, rfl, rfl, rfl, rfl⟩ (con_len hln) rfl (esCons (eName rfl rfl) esNil) rfl) oEqI) (by rw [hlm]; exact beq_self_eq_true _) (bRet (eTup (esCons eNone (esCons (eBin (eCallB (x := Str.ofString "len") ⟨fun P => rfl, rfl, rfl, rfl, rfl, rfl⟩ (con_len hln) rfl (esCons (eName rfl rfl) esNil) rfl) eInt bSub) esNil))) ?_)
        rw [hE, List.drop_length, psR, hlm]
        rfl
      | succ m ih =>
        intro e hm h0 h2 hE
        have hle : e < rows.length := by omega
        obtain ⟨r, hre⟩ : ∃ r, rows[e]? = some r := ⟨_, List.getElem?_eq_getElem hle⟩
        have hdr : rows.drop e = r :: rows.drop (e + 1) := by rw [List.drop_eq_getElem_cons hle, (List.getElem?_eq_some_iff.mp hre).2]
        refine' wlStep (tAnd (tCmp (eName rfl rfl) (eCallB (x := Str.ofString "len") ⟨fun P => rfl, rfl, rfl, rfl, rfl, rfl⟩ (con_len hln) rfl (esCons (eName rfl rfl) esNil) rfl) oLt) (fun _ => (tCmp (eRow (eName rfl rfl) (eName rfl rfl) hre g.l63) (eTup (esCons (eTup (esCons eStr (esCons eStr esNil))) (esCons (eTup (esCons eStr (esCons eStr esNil))) esNil))) (rNotIn (a := rPs) (b := rCopy) (g.rok hre)))) (fun _ => rfl)) (fun q => ?_) (fun q => ?_)
        · have hsp : ¬ (r ≠ rPs ∧ r ≠ rCopy) := by
            intro hh
            rw [Bool.and_eq_false_iff] at q
            rcases q with q | q
            · rw [hlm] at q; simp at q; omega
            · simp only [decide_eq_false_iff_not] at q; exact q hh
          refine' bIfF (tCmp (eName rfl rfl) (eCallB (x := Str.ofString "len") ⟨fun P => rfl, rfl, rfl, rfl, rfl, rfl⟩ (con_len hln) rfl (esCons (eName rfl rfl) esNil) rfl) oEqI) (by rw [hlm]; simp; omega) ?_
          by_cases hp : r = rPs
          · refine' bRet (eIfT (tCmp (eRow (eName rfl rfl) (eName rfl rfl) hre g.l63) (eTup (esCons eStr (esCons eStr esNil))) (rEq (a := rPs) (g.rok hre))) (decide_eq_true hp) (eTup (esCons (edN (nCut (eName rfl rfl) ⟨_, rfl, (eBin (eName rfl rfl) eInt bAdd)⟩ ⟨_, rfl, (eName rfl rfl)⟩ hln (fun x q => by cases q; omega) (fun x q => by cases q; omega))) (esCons (eBin (eName rfl rfl) eInt bAdd) esNil)))) ?_
            rw [hE, hdr, psR, if_pos hp]
            have hc : cutD (some ((i : Int) + 1)) (some (e : Int)) (rows.map rowD) = (((rows.drop (i + 1)).take (e - (i + 1))) ++ []).map rowD := by
              rw [List.append_nil, List.map_take, List.map_drop]; rfl
            show FO.ret _ (.tuple [.list (cutD (some ((i : Int) + 1)) (some (e : Int)) (rows.map rowD)), _]) = _
            rw [hc]
            rfl
          · have hc : r = rCopy := Decidable.byContradiction fun hc => hsp ⟨hp, hc⟩
            refine' bRet (eIfF (tCmp (eRow (eName rfl rfl) (eName rfl rfl) hre g.l63) (eTup (esCons eStr (esCons eStr esNil))) (rEq (a := rPs) (g.rok hre))) (decide_eq_false hp) (eTup (esCons eNone (esCons (eName rfl rfl) esNil)))) ?_
            rw [hE, hdr, psR, if_neg hp, if_pos hc]
            rfl
        · have hsp : r ≠ rPs ∧ r ≠ rCopy := by
            rw [Bool.and_eq_true_iff] at q
            exact of_decide_eq_true q.2
          refine' bSet (eBin (eName rfl rfl) eInt bAdd) (bNil (wlWeak (ih (e + 1) (by omega) (by omega) hle ?_) lkSame)) rfl
          rw [hE, ps_at hre hsp.1 hsp.2, show e + 1 - (i + 1) = (e - (i + 1)) + 1 by omega]
          have ht : (rows.drop (i + 1)).take (e - (i + 1) + 1) = (rows.drop (i + 1)).take (e - (i + 1)) ++ [r] := by
            rw [List.take_add_one, List.getElem?_drop, show i + 1 + (e - (i + 1)) = e by omega, hre]; rfl
          rw [ht]
          cases psR (rows.drop (e + 1)) (e + 1) rows.length with
          | ok p => simp [addP]
          | error j => rfl
    · refine' bIfT (tCmp (eRow (eName rfl rfl) (eName rfl rfl) hr g.l63) (eTup (esCons eStr (esCons eStr esNil))) (rNe (a := rPs) (g.rok hr))) (decide_eq_true hp) ?_
      have e : sideR rows i = if three.contains r.1 then .ok (i, [r], i + 1) else .error i := by
        unfold sideR; rw [hr]; simp only []; rw [if_neg hp]
      cases h3 : three.contains r.1 with
      | true =>
        refine' bRet (eIfT (tCmp (eTItem (eRow (eName rfl rfl) (eName rfl rfl) hr g.l63) eInt rfl rfl (by decide) (by decide)) (eTup (esCons eStr (esCons eStr (esCons eStr esNil)))) (oInS (xs := three) (g.rok hr).1 three_ok)) (by rw [h3]) (eTup (esCons (eLst (esCons (eRow (eName rfl rfl) (eName rfl rfl) hr g.l63) esNil)) (esCons (eBin (eName rfl rfl) eInt bAdd) esNil)))) ?_
        rw [e, h3]; rfl
      | false =>
        refine' bRet (eIfF (tCmp (eTItem (eRow (eName rfl rfl) (eName rfl rfl) hr g.l63) eInt rfl rfl (by decide) (by decide)) (eTup (esCons eStr (esCons eStr (esCons eStr esNil)))) (oInS (xs := three) (g.rok hr).1 three_ok)) (by rw [h3]) (eTup (esCons eNone (esCons (eName rfl rfl) esNil)))) ?_
        rw [e, h3]; rfl
end
end Mine
end

noncomputable section
open PySem PySem.W PyProof.Rows PySem.Calls PySem.Spec
set_option Elab.async false
set_option linter.unusedVariables false
namespace Mine
set_option maxRecDepth 100000
set_option maxHeartbeats 8000000

abbrev oneL (o : Option Row) : Dt := .list (o.toList.map rowD)
theorem cut_one (rows : List Row) (i : Nat) : cutD (some (i : Int)) (some ((i : Int) + 1)) (rows.map rowD) = (rows[i]?).toList.map rowD := by
  show ((rows.map rowD).drop i).take (((i : Int) + 1).toNat - i) = _
  rw [show ((i : Int) + 1).toNat - i = 1 by omega, ← List.map_drop, ← List.map_take]
  congr 1
  cases h : rows[i]? with
  | none => rw [List.drop_of_length_le (List.getElem?_eq_none_iff.mp h)]; rfl
  | some r =>
    rw [List.drop_eq_getElem_cons (List.getElem?_eq_some_iff.mp h).1, (List.getElem?_eq_some_iff.mp h).2]; rfl
section
variable {n : Nat} {fi : Fi} {L : Addr} {ev : Env} {δ : Loc} {μ μ₁ μ₂ μ₃ : Mus} {e e₁ e₂ : Expr} {pos p1 : Pos} {rows : List Row} {a b : Row} {o : Option Row} {i : Nat}
/-- rows[i:i + 1] -/
theorem eOne (g : Gd rows) (h₁ : ED n fi L ev δ μ e μ₁ (plainD rows)) (h₂ : ED n fi L ev δ μ₁ e₁ μ₂ (.int (i : Nat))) (h₃ : ED n fi L ev δ μ₂ e₂ μ₃ (.int ((i : Int) + 1))) (ht : ∀ o r, letTemporaryGo e o r = pure () := by intro _ _; rfl) : ED n fi L ev δ μ (.Subscript e (.Slice (some e₁) (some e₂) none p1) pos) μ₃ (oneL rows[i]?) := by
  have := edN (nCut (pos := pos) (p1 := p1) (lo := some e₁) (hi := some e₂) h₁ ⟨_, rfl, h₂⟩ ⟨_, rfl, h₃⟩ (by rw [List.length_map]; exact Nat.le_of_lt g.len) (fun x q => by cases q; omega) (fun x q => by cases q; omega) ht)
  rwa [cut_one] at this
theorem one_ok (h : ∀ r, o = some r → Rok r) : Ok (oneL o) := by
  cases o with
  | none => rfl
  | some r =>
    have := row_ok (h r rfl)
    simp only [Ok, rowD, toDat, toDats, kqdOk, List.all_cons, List.all_nil, Bool.and_true, Option.toList, List.map_cons, List.map_nil] at this ⊢
    exact this
theorem one_inj : toDat (oneL o) = toDat (.list [.tuple [.str a.1, .str a.2]]) ↔ o = some a := by
  cases o with
  | none => exact ⟨fun h => by simp [toDat, toDats] at h, fun h => nomatch h⟩
  | some r =>
    constructor
    · intro h
      simp only [Option.toList, List.map_cons, List.map_nil, toDat, toDats] at h
      injection h with h
      injection h with h _
      rw [(row_inj (a := r) (b := a)).mp (by simpa [toDat, toDats, rowD] using h)]
    · rintro h
      cases h
      simp [toDat, toDats, rowD]
theorem oneNe (h : ∀ r, o = some r → Rok r) (ha : Rok a := by decide +kernel) : Op2 n .NotEq (oneL o) (.list [.tuple [.str a.1, .str a.2]]) (.bool (decide (o ≠ some a))) := oNe (one_ok h) (one_ok (o := some a) fun r e => by cases e; exact ha) (by rw [decide_eq_true_iff]; exact not_congr one_inj.symm)
theorem oneEq (h : ∀ r, o = some r → Rok r) (ha : Rok a := by decide +kernel) : Op2 n .Eq (oneL o) (.list [.tuple [.str a.1, .str a.2]]) (.bool (decide (o = some a))) := oEq (one_ok h) (one_ok (o := some a) fun r e => by cases e; exact ha) (by rw [decide_eq_true_iff]; exact one_inj.symm)
theorem oneIn (h : ∀ r, o = some r → Rok r) (ha : Rok a := by decide +kernel) (hb : Rok b := by decide +kernel) : Op2 n .In (oneL o) (.tuple [.list [.tuple [.str a.1, .str a.2]], .list [.tuple [.str b.1, .str b.2]]]) (.bool (decide (o = some a ∨ o = some b))) :=
  oIn (xs := [oneL (some a), oneL (some b)]) (one_ok h) (fun d hd => by
    rcases List.mem_cons.mp hd with rfl | hd
    · exact one_ok fun r e => by cases e; exact ha
    · rw [List.mem_singleton.mp hd]; exact one_ok fun r e => by cases e; exact hb) (by
    rw [decide_eq_true_iff]
    constructor
    · rintro (h | h)
      · exact ⟨_, .head _, (one_inj.mpr h).symm⟩
      · exact ⟨_, .tail _ (.head _), (one_inj.mpr h).symm⟩
    · rintro ⟨x, hx, e⟩
      rcases List.mem_cons.mp hx with rfl | hx
      · exact .inl (one_inj.mp e.symm)
      · rw [List.mem_singleton.mp hx] at e; exact .inr (one_inj.mp e.symm))
end
section
variable {rows : List Row} {i : Nat} {r : Row}
abbrev Sub (A B : Loc) : Prop := ∀ x d, A.lookup x = some d → B.lookup x = some d
theorem lkCons {A B : Loc} {y : Str} {e : Dt} (h : Sub A B) : Sub ((y, e) :: A) ((y, e) :: B) := fun x d q => by
  rw [List.lookup_cons] at q ⊢
  split
  · rename_i z; rw [z] at q; exact q
  · rename_i z; rw [z] at q; exact h x d q
theorem lkSk {A B : Loc} {y : Str} {e : Dt} (h : Sub A B) (n : A.lookup y = none) : Sub A ((y, e) :: B) := fun x d q => by
  rw [List.lookup_cons]
  split
  · rename_i z; rw [eq_of_beq z, n] at q; cases q
  · exact h x d q
theorem lkRefl {A : Loc} : Sub A A := fun _ _ e => e
abbrev Fz (a : Addr) (ds : List Dt) (A B : Loc) : Prop := ∀ x d, A.lookup x = some d → B.lookup x = some d ∨ (B.lookup x = some (.obj a) ∧ d = .list ds)
theorem fzSub {a : Addr} {ds : List Dt} {A B : Loc} (h : Sub A B) : Fz a ds A B := fun x d q => .inl (h x d q)
theorem fzCons {a : Addr} {ds : List Dt} {A B : Loc} {y : Str} {e : Dt} (h : Fz a ds A B) : Fz a ds ((y, e) :: A) ((y, e) :: B) := fun x d q => by
  rw [List.lookup_cons] at q ⊢
  split
  · rename_i z; rw [z] at q; exact .inl q
  · rename_i z; rw [z] at q; exact h x d q
theorem fzHere {a : Addr} {ds : List Dt} {A B : Loc} {y : Str} (h : Fz a ds A B) : Fz a ds ((y, .list ds) :: A) ((y, .obj a) :: B) := fun x d q => by
  rw [List.lookup_cons] at q ⊢
  split
  · rename_i z; rw [z] at q; cases q; exact .inr ⟨rfl, rfl⟩
  · rename_i z; rw [z] at q; exact h x d q
theorem fzSk {a : Addr} {ds : List Dt} {A B : Loc} {y : Str} {e : Dt} (h : Fz a ds A B) (n : A.lookup y = none) : Fz a ds A ((y, e) :: B) := fun x d q => by
  rw [List.lookup_cons]
  split
  · rename_i z; rw [eq_of_beq z, n] at q; cases q
  · exact h x d q
theorem nat_step {P : Nat → Prop} (h : ∀ n, (∀ m, n = m + 1 → P m) → P n) : ∀ n, P n
  | 0 => h 0 fun _ e => nomatch e
  | n + 1 => h (n + 1) fun m e => by cases e; exact nat_step h n
theorem lkHave {δ : Loc} {y : Str} {d : Dt} (h : δ.lookup y = some d) : ∀ x e, ((y, d) :: δ).lookup x = some e → δ.lookup x = some e := fun x e q => by
  rw [List.lookup_cons] at q
  split at q
  · rename_i z
    cases q
    rw [eq_of_beq z]; exact h
  · exact q
theorem Gd.one (g : Gd rows) (i : Nat) : ∀ r, rows[i]? = some r → Rok r := fun r h => g.rok h
noncomputable def dueL (rows : List Row) (x : Str) (n k : Nat) (acc : List Dt) : Dt := if acc.isEmpty = false ∧ rows[k]? = some rDot then .tuple [.str x, .list acc, .int ((k + 1 : Nat) : Int)] else match pairsR rows n k with
  | .ok p => .tuple [.str x, .list (acc ++ p.1.map told2), .int (p.2 : Nat)]
  | .error j => .int j
theorem due_next {x : Str} {n k : Nat} {acc : List Dt} {p : Pair} {e : Nat} (hd : ¬ (acc.isEmpty = false ∧ rows[k]? = some rDot)) (h : pairR rows k = .ok (p, e)) : dueL rows x (n + 1) k acc = dueL rows x n e (acc ++ [told2 p]) := by
  unfold dueL
  rw [if_neg hd, pairsR, h]
  simp only []
  by_cases hq : rows[e]? = some rDot
  · rw [if_pos hq, if_pos ⟨by simp, hq⟩]; rfl
  · rw [if_neg hq, if_neg (fun z => hq z.2)]
    cases pairsR rows n e with
    | ok q => simp
    | error j => rfl
theorem due_err {x : Str} {n k : Nat} {acc : List Dt} {j : Int} (hd : ¬ (acc.isEmpty = false ∧ rows[k]? = some rDot)) (h : pairR rows k = .error j) (hn : n = 0 → j = tellAt rows k) : dueL rows x n k acc = .int j := by
  unfold dueL
  rw [if_neg hd]
  cases n with
  | zero => rw [pairsR, hn rfl]
  | succ n => rw [pairsR, h]
theorem tell_min (h : 0 < rows.length) : tellAt rows i = min (i : Int) ((rows.length : Int) - 1) := by
  unfold tellAt
  rw [if_neg (by intro e; rw [e] at h; exact absurd h (Nat.lt_irrefl _))]
  omega
section
variable {k a0 e a1 e1 : Nat} {s s1 : List Row} {j : Int}
theorem pe1 (h : sideR rows k = .error j) : pairR rows k = .error j := by unfold pairR; rw [h]
theorem pe2 (h : sideR rows k = .ok (a0, [], e)) : pairR rows k = .error (tellAt rows k) := by unfold pairR; rw [h]; rfl
theorem pe3 (h : sideR rows k = .ok (a0, s, e)) (hs : s ≠ []) (hb : rows[e]? ≠ some rBy) : pairR rows k = .error (tellAt rows e) := by
  unfold pairR; rw [h]; simp only []; rw [if_neg hs, if_neg hb]
theorem pe4 (h : sideR rows k = .ok (a0, s, e)) (hs : s ≠ []) (hb : rows[e]? = some rBy) (h2 : sideR rows (e + 1) = .error j) : pairR rows k = .error j := by
  unfold pairR; rw [h]; simp only []; rw [if_neg hs, if_pos hb, h2]
theorem pe5 (h : sideR rows k = .ok (a0, s, e)) (hs : s ≠ []) (hb : rows[e]? = some rBy) (h2 : sideR rows (e + 1) = .ok (a1, s1, e1)) : pairR rows k = .ok (((a0, s), (a1, s1)), e1) := by
  unfold pairR; rw [h]; simp only []; rw [if_neg hs, if_pos hb, h2]
end
theorem one_y {a e : Nat} {s : List Row} (g : Gd rows) (hi : i ≤ rows.length) (hne : 0 < rows.length) (h : sideR rows i = .ok (a, s, e)) : Fu 1 (.ref 231) [] [plainD rows, .int (i : Nat)] (· = .ret [] (.tuple [plainD s, .int (e : Nat)])) := by
  have := one_c g hi hne
  rw [h] at this; exact this
theorem one_n {j : Int} (g : Gd rows) (hi : i ≤ rows.length) (hne : 0 < rows.length) (h : sideR rows i = .error j) : Fu 1 (.ref 231) [] [plainD rows, .int (i : Nat)] (· = .ret [] (.tuple [.none, .int j])) := by
  have := one_c g hi hne
  rw [h] at this; exact this
theorem due_c (g : Gd rows) : Fu 2 (.ref 238) [] [plainD rows] (· = .ret [] (heardD rows)) := by
  have hN := g.len
  have hlm : (rows.map rowD).length = rows.length := List.length_map _
  have hln : (rows.map rowD).length ≤ 1000000 := by omega
  refine fd_of (k := 1) [Str.ofString "rows"] (ho := fun P => rfl) (hcd := fun P => rfl) (hbind := fun vals hv s => by obtain ⟨a, rfl⟩ := len1 hv; exact BindsTo.of_eq rfl) (hloc := all1 rfl) (hδ := rfl) (hk := rfl) (hb := fun L => ?_) (hcell := by decide) rfl rfl rfl
  cases hr : rows[0]? with
  | none =>
    have he : rows = [] := List.eq_nil_of_length_eq_zero (Nat.le_zero.mp (List.getElem?_eq_none_iff.mp hr))
    subst he
    refine' bIfT (tOr (tCmp (eName rfl rfl) (eLst esNil) (oEqNil rfl)) (b₂ := false) (fun q => nomatch q) (fun _ => rfl)) rfl (bRet (eIfF (tCmp (eName rfl rfl) (eLst esNil) (oNe (r := false) rfl rfl ⟨(fun q => nomatch q), fun q => absurd rfl q⟩)) rfl (eNeg eInt)) rfl)
  | some r =>
    have hlt := (List.getElem?_eq_some_iff.mp hr).1
    have hne : (rows.map rowD).isEmpty = false := by
      cases rows with
      | nil => cases hr
      | cons r rs => rfl
    cases h2 : two.contains r.1 with
    | false =>
      refine' bIfT (tOr (tCmp (eName rfl rfl) (eLst esNil) (oEqNil hne)) (fun _ => (tCmp (eTItem (eRow (eName rfl rfl) eInt hr g.l63) eInt rfl rfl (by decide) (by decide)) (eTup (esCons eStr (esCons eStr esNil))) (oNotInS (xs := two) (g.rok hr).1 two_ok))) (fun q => nomatch q)) (by rw [h2]; rfl) (bRet (eIfT (tCmp (eName rfl rfl) (eLst esNil) (oNe (r := true) (rows_ok g) rfl ⟨fun _ => ?_, fun _ => rfl⟩)) rfl eInt) ?_)
      · intro e
        cases rows with
        | nil => cases hr
        | cons r rs => simp [plainD, toDat, toDats] at e
      · show FO.ret _ _ = _
        unfold heardD copyR
        rw [hr]; simp only []; rw [h2]; rfl
    | true =>
      refine' bIfF (tOr (tCmp (eName rfl rfl) (eLst esNil) (oEqNil hne)) (fun _ => (tCmp (eTItem (eRow (eName rfl rfl) eInt hr g.l63) eInt rfl rfl (by decide) (by decide)) (eTup (esCons eStr (esCons eStr esNil))) (oNotInS (xs := two) (g.rok hr).1 two_ok))) (fun q => nomatch q)) (by rw [h2]; rfl) ?_
      refine' bSwap3 (eUpper (eTItem (eRow (eName rfl rfl) eInt hr g.l63) eInt rfl rfl (by decide) (by decide)) ?_) eInt rfl rfl rfl fun a => ?_
      · exact (g.ok r (List.mem_of_getElem? hr)).2
      refine bCut (fun fi δ b => ∀ i : Nat, copyR rows = tailR rows r i → Bd 1 fi L ((Str.ofString "at", .int (i : Nat)) :: δ) [(a, .lst [])] b (Lf (.ret [] (heardD rows)))) ?tail fun tail => ?main
      case main =>
        by_cases ho : rows[1]? = some rOf ∨ rows[1]? = some rIn
        · refine' bIfT (tCmp (eOne (i := 1) g (eName rfl rfl) eInt eInt) (eTup (esCons (eLst (esCons (eTup (esCons eStr (esCons eStr esNil))) esNil)) (esCons (eLst (esCons (eTup (esCons eStr (esCons eStr esNil))) esNil)) esNil))) (oneIn (a := rOf) (b := rIn) (g.one 1))) (decide_eq_true ho) ?_
          by_cases hl : rows.length = 2
          · refine' bIfT (tCmp (eCallB (x := Str.ofString "len") ⟨fun P => rfl, rfl, rfl, rfl, rfl, rfl⟩ (con_len hln) rfl (esCons (eName rfl rfl) esNil) rfl) eInt oEqI) (by rw [hlm, hl]; rfl) (bLose (μ₁ := [(a, .lst [])]) (μ₃ := []) (.refl _) (bRet eInt ?_))
            show FO.ret _ _ = _
            unfold heardD
            rw [cp_lib hr h2 ho hl]
          · refine' bIfF (tCmp (eCallB (x := Str.ofString "len") ⟨fun P => rfl, rfl, rfl, rfl, rfl, rfl⟩ (con_len hln) rfl (esCons (eName rfl rfl) esNil) rfl) eInt oEqI) (by rw [hlm]; simp; omega) (bSet eInt (tail 3 (cp_lib2 hr h2 ho hl)) rfl)
        · refine' bIfF (tCmp (eOne (i := 1) g (eName rfl rfl) eInt eInt) (eTup (esCons (eLst (esCons (eTup (esCons eStr (esCons eStr esNil))) esNil)) (esCons (eLst (esCons (eTup (esCons eStr (esCons eStr esNil))) esNil)) esNil))) (oneIn (a := rOf) (b := rIn) (g.one 1))) (decide_eq_false ho) (bWeak (tail 1 (cp_no hr h2 ho)) (lkHave rfl))
      case tail =>
        intro i hi
        have hmin : ∀ k : Nat, min (k : Int) (((rows.map rowD).length : Nat) - 1 : Int) = tellAt rows k := fun k => by rw [hlm, tell_min hlt]
        by_cases h4 : rows[i]? = some rRep
        · refine' bIfF (tCmp (eOne g (eName rfl rfl) (eName rfl rfl) (eBin (eName rfl rfl) eInt bAdd)) (eLst (esCons (eTup (esCons eStr (esCons eStr esNil))) esNil)) (oneNe (a := rRep) (g.one i))) (decide_eq_false (fun q => q h4)) (bSet (eBin (eName rfl rfl) eInt bAdd) (bWhile ?_) rfl)
          have hd : heardD rows = dueL rows (Txt.upper r.2) rows.length (i + 1) [] := by
            unfold heardD dueL
            rw [hi, tailR, if_pos h4, if_neg (fun z => nomatch z.1)]
            cases pairsR rows rows.length (i + 1) <;> rfl
          rw [hd]
          have hi1 := (List.getElem?_eq_some_iff.mp h4).1
          refine wlWeak (δ' := (Str.ofString "at", .int (i + 1 : Nat)) :: [(Str.ofString "name", .str (Txt.upper r.2)), (Str.ofString "pairs", .obj a), (Str.ofString "rows", plainD rows)]) ?_ (lkCons (lkSk (lkCons (lkSk lkRefl rfl)) rfl))
          refine (?loop : ∀ (n k : Nat) (acc : List Dt), rows.length - k ≤ n → k ≤ rows.length → acc.length ≤ k → Wl _ _ L _ _ _ (Lf (.ret [] (dueL rows (Txt.upper r.2) n k acc))) ((Str.ofString "at", .int (k : Nat)) :: [(Str.ofString "name", .str (Txt.upper r.2)), (Str.ofString "pairs", .obj a), (Str.ofString "rows", plainD rows)]) [(a, .lst acc)]) rows.length (i + 1) [] (by omega) (by omega) (Nat.zero_le _)
          refine nat_step ?_
          intro n ih k acc hk hkl hacc
          by_cases hd : acc.isEmpty = false ∧ rows[k]? = some rDot
          · refine' wlStep (tOr (tMuNil (a := a) (ds := acc) rfl rfl (.head _)) (fun _ => tCmp (eOne g (eName rfl rfl) (eName rfl rfl) (eBin (eName rfl rfl) eInt bAdd)) (eLst (esCons (eTup (esCons eStr (esCons eStr esNil))) esNil)) (oneNe (a := rDot) (g.one k))) (fun _ => rfl)) (fun _ => bFreeze (a := a) (ds := acc) (δ' := [(Str.ofString "at", .int (k : Nat)), (Str.ofString "name", .str (Txt.upper r.2)), (Str.ofString "pairs", .list acc), (Str.ofString "rows", plainD rows)]) (fzCons (fzCons (fzHere (fzSub lkRefl)))) (.refl _) (bRet (eTup (esCons (eName rfl rfl) (esCons (eName rfl rfl) (esCons (eBin (eName rfl rfl) eInt bAdd) esNil)))) ?_)) (fun q => ?_)
            · show FO.ret _ _ = _
              unfold dueL
              rw [if_pos hd]
              rfl
            · rw [hd.1, decide_eq_false (fun z => z hd.2)] at q; cases q
          · refine' wlStep (tOr (tMuNil (a := a) (ds := acc) rfl rfl (.head _)) (fun _ => tCmp (eOne g (eName rfl rfl) (eName rfl rfl) (eBin (eName rfl rfl) eInt bAdd)) (eLst (esCons (eTup (esCons eStr (esCons eStr esNil))) esNil)) (oneNe (a := rDot) (g.one k))) (fun _ => rfl)) (fun q => ?_) (fun _ => bSet (eName rfl rfl) ?_ rfl)
            · rw [Bool.or_eq_false_iff] at q
              exact absurd ⟨q.1, by simpa using q.2⟩ hd
            · cases hs : sideR rows k with
              | error j =>
                refine' bAsg (eCall (one_n g hkl hlt hs) rfl (eGlob (f := 231) (fun P => rfl) rfl rfl rfl) (esCons (eName rfl rfl) (esCons (eName rfl rfl) esNil)) rfl (fun P => rfl)) (fun c => agPair rfl rfl) (bIfT (tCmp (eName rfl rfl) eNone (oIs (r := true) ⟨fun _ => rfl, fun _ => rfl⟩)) rfl (bLose (μ₁ := [(a, .lst acc)]) (μ₃ := []) (.refl _) (bRet (eName rfl rfl) ?_)))
                show FO.ret _ _ = _
                rw [due_err hd (pe1 hs) (fun hn => ?_)]
                unfold sideR at hs
                rw [List.getElem?_eq_none (by omega)] at hs
                cases hs; rfl
              | ok q =>
                obtain ⟨a0, s, e⟩ := q
                have hle := side_le hs
                have hn0 : ∀ {j : Int}, n = 0 → j = tellAt rows k := fun hn => by omega
                refine' bAsg (eCall (one_y g hkl hlt hs) rfl (eGlob (f := 231) (fun P => rfl) rfl rfl rfl) (esCons (eName rfl rfl) (esCons (eName rfl rfl) esNil)) rfl (fun P => rfl)) (fun c => agPair rfl rfl) (bIfF (tCmp (eName rfl rfl) eNone (oIs (r := false) ⟨(fun q => nomatch q), fun q => nomatch q⟩)) rfl ?_)
                cases s with
                | nil =>
                  refine' bIfT (tCmp (eName rfl rfl) (eLst esNil) (oEqNil rfl)) rfl (bLose (μ₁ := [(a, .lst acc)]) (μ₃ := []) (.refl _) (bRet (eName rfl rfl) ?_))
                  show FO.ret _ _ = _
                  rw [due_err hd (pe2 hs) hn0, tell_in (by omega)]
                | cons r0 s =>
                  refine' bIfF (tCmp (eName rfl rfl) (eLst esNil) (oEqNil rfl)) rfl ?_
                  by_cases hb : rows[e]? = some rBy
                  · have hbl := (List.getElem?_eq_some_iff.mp hb).1
                    refine' bIfF (tCmp (eOne g (eName rfl rfl) (eName rfl rfl) (eBin (eName rfl rfl) eInt bAdd)) (eLst (esCons (eTup (esCons eStr (esCons eStr esNil))) esNil)) (oneNe (a := rBy) (g.one e))) (decide_eq_false (fun q => q hb)) ?_
                    cases hs2 : sideR rows (e + 1) with
                    | error j =>
                      refine' bAsg (eCall (one_n (i := e + 1) g hbl hlt hs2) rfl (eGlob (f := 231) (fun P => rfl) rfl rfl rfl) (esCons (eName rfl rfl) (esCons (eBin (eName rfl rfl) eInt bAdd) esNil)) rfl (fun P => rfl)) (fun c => agPair rfl rfl) (bIfT (tCmp (eName rfl rfl) eNone (oIs (r := true) ⟨fun _ => rfl, fun _ => rfl⟩)) rfl (bLose (μ₁ := [(a, .lst acc)]) (μ₃ := []) (.refl _) (bRet (eName rfl rfl) ?_)))
                      show FO.ret _ _ = _
                      rw [due_err hd (pe4 hs (fun z => nomatch z) hb hs2) hn0]
                    | ok q =>
                      obtain ⟨a1, s1, e1⟩ := q
                      have hle1 := side_le hs2
                      obtain ⟨m, rfl⟩ : ∃ m, n = m + 1 := ⟨n - 1, by omega⟩
                      rw [due_next hd (pe5 hs (fun z => nomatch z) hb hs2)]
                      refine' bAsg (eCall (one_y (i := e + 1) g hbl hlt hs2) rfl (eGlob (f := 231) (fun P => rfl) rfl rfl rfl) (esCons (eName rfl rfl) (esCons (eBin (eName rfl rfl) eInt bAdd) esNil)) rfl (fun P => rfl)) (fun c => agPair rfl rfl) (bIfF (tCmp (eName rfl rfl) eNone (oIs (r := false) ⟨(fun q => nomatch q), fun q => nomatch q⟩)) rfl (bApp (eTup (esCons (eName rfl rfl) (esCons (eName rfl rfl) esNil))) rfl rfl (by omega) (bNil (wlWeak (ih m rfl e1 (acc ++ [told2 ((a0, r0 :: s), (a1, s1))]) (by omega) hle1.2.1 (by simp; omega)) ?_)) (hm := ⟨_, .head _⟩)))
                      exact lkCons (lkSk (lkSk (lkSk (lkSk (lkSk lkRefl rfl) rfl) rfl) rfl) rfl)
                  · refine' bIfT (tCmp (eOne g (eName rfl rfl) (eName rfl rfl) (eBin (eName rfl rfl) eInt bAdd)) (eLst (esCons (eTup (esCons eStr (esCons eStr esNil))) esNil)) (oneNe (a := rBy) (g.one e))) (decide_eq_true hb) (bLose (μ₁ := [(a, .lst acc)]) (μ₃ := []) (.refl _) (bRet (eCallB (x := Str.ofString "min") ⟨fun P => rfl, rfl, rfl, rfl, rfl, rfl⟩ con_min rfl (esCons (eName rfl rfl) (esCons (eBin (eCallB (x := Str.ofString "len") ⟨fun P => rfl, rfl, rfl, rfl, rfl, rfl⟩ (con_len hln) rfl (esCons (eName rfl rfl) esNil) rfl) eInt bSub) esNil)) rfl) ?_))
                    rw [hmin]
                    show FO.ret _ _ = _
                    rw [due_err hd (pe3 hs (fun z => nomatch z) hb) hn0]
                    rfl
        · refine' bIfT (tCmp (eOne g (eName rfl rfl) (eName rfl rfl) (eBin (eName rfl rfl) eInt bAdd)) (eLst (esCons (eTup (esCons eStr (esCons eStr esNil))) esNil)) (oneNe (a := rRep) (g.one i))) (decide_eq_true h4) ?_
          by_cases h5 : rows[i]? = some rDot
          · refine bFreeze (a := a) (ds := []) (δ' := [(Str.ofString "at", .int (i : Nat)), (Str.ofString "name", .str (Txt.upper r.2)), (Str.ofString "pairs", .list []), (Str.ofString "rows", plainD rows)]) (fzCons (fzCons (fzSk (fzHere (fzSub lkRefl)) rfl))) (.refl _) ?_
            refine' bRet (eIfT (tCmp (eOne g (eName rfl rfl) (eName rfl rfl) (eBin (eName rfl rfl) eInt bAdd)) (eLst (esCons (eTup (esCons eStr (esCons eStr esNil))) esNil)) (oneEq (a := rDot) (g.one i))) (decide_eq_true h5) (eTup (esCons (eName rfl rfl) (esCons (eName rfl rfl) (esCons (eBin (eName rfl rfl) eInt bAdd) esNil))))) ?_
            show FO.ret _ _ = _
            unfold heardD
            rw [hi, tailR, if_neg h4, if_pos h5]
            rfl
          · refine' bLose (μ₁ := [(a, .lst [])]) (μ₃ := []) (.refl _) (bRet (eIfF (tCmp (eOne g (eName rfl rfl) (eName rfl rfl) (eBin (eName rfl rfl) eInt bAdd)) (eLst (esCons (eTup (esCons eStr (esCons eStr esNil))) esNil)) (oneEq (a := rDot) (g.one i))) (decide_eq_false h5) (eCallB (x := Str.ofString "min") ⟨fun P => rfl, rfl, rfl, rfl, rfl, rfl⟩ con_min rfl (esCons (eName rfl rfl) (esCons (eBin (eCallB (x := Str.ofString "len") ⟨fun P => rfl, rfl, rfl, rfl, rfl, rfl⟩ (con_len hln) rfl (esCons (eName rfl rfl) esNil) rfl) eInt bSub) esNil)) rfl)) ?_)
            rw [hmin]
            show FO.ret _ _ = _
            unfold heardD
            rw [hi, tailR, if_neg h4, if_neg h5]
            rfl
end
end Mine
end

noncomputable section
open PySem PySem.W PyProof.Rows PySem.Calls PySem.Spec
set_option Elab.async false
set_option linter.unusedVariables false
namespace Mine
set_option maxRecDepth 100000
set_option maxHeartbeats 8000000
section
variable {n k : Nat} {fi : Fi} {L : Addr} {c : Fc fi L} {ev : Env} {δ : Loc} {τ : Tm} {μ μ₁ μ₂ ν : Mus} {d d₁ d₂ : Dt} {ds : List Dt} {pos p1 p2 p3 p4 pt : Pos} {x y z : Str} {e e₁ e₂ : Expr} {a : Addr} {h : Heap} {rest : List Stmt} {O : Out → Prop} {i : Nat} {kk : Nat}
theorem DtAll.set {P : Params} {imm : Led} {vs : List Value} {v : Value} (r : DtAll P imm vs ds) (hv : DtIn P imm v d) (i : Nat) : DtAll P imm (vs.set i v) (ds.set i d) := by
  induction vs generalizing ds i with
  | nil => cases r; exact .nil
  | cons u vs ih =>
    cases r with
    | cons h r => cases i with
      | zero => exact .cons hv r
      | succ i => exact .cons h (ih r i)
/-- x[i] where x is a list to be changed -/
theorem eMItem (hf : ED n fi L ev δ μ e μ (.obj a)) (hm : (a, Mo.lst ds) ∈ μ) (hd : ds[i]? = some d) (hi : (i : Int) < 2 ^ 63 := by decide) (hs : ∀ l u, subscripted (.Constant (.int (i : Nat)) kk p2) false (.ref l) (.int (i : Nat) u) = operate [.ref l, .int (i : Nat) u] (getItem (.ref l) (.int (i : Nat) u)) := by intro _ _; with_unfolding_all rfl) : ED n fi L ev δ μ (.Subscript e (.Constant (.int (i : Nat)) kk p2) pos) μ d := by
  intro c τ ν Q E h tk R S K
  refine Subscript_ (hf c τ ν _ _ h tk R S fun v h' tk' S₁ => eInt c _ ν _ _ h' tk' R S₁ fun b' h'' tk'' S₂ => ?_)
  obtain ⟨t, rfl⟩ := S₂.isInt (i := (i : Int)) (.inl ⟨rfl, rfl⟩)
  obtain rfl := S₂.isObj (v := v) (x := a) (.inr (.inl ⟨rfl, rfl⟩))
  obtain ⟨m, imm, mu, F, N, s, l, tm, u⟩ := S₂
  obtain ⟨o, ho, vs, nn, rfl, r⟩ := u.mem (List.mem_append.mpr (.inl hm))
  obtain ⟨w, hw, hwd⟩ := r.get hd
  have hl : h''.IsList a vs.toArray := ⟨_, (N _ (List.mem_append.mpr (.inl ho))).1, rfl, _, rfl⟩
  exact tail_any hl.typeIs slot_list_getitem.lookup (wpAny_getItem_list hl (Int.natCast_nonneg i) hi (by simpa using hw) (K _ _ _ ⟨m, imm, mu, F, N, s, l, fun v d e => e.elim (fun ⟨e1, e2⟩ => e1 ▸ e2 ▸ hwd) (fun e => tm v d (.inr (.inr e))), u⟩)) (hs _ _)
/-- x[i] = e -/
theorem bSetI {pa : Pos} (he : ED n fi L (fi.env L) δ μ e ((a, .lst ds) :: μ₁) d) (hx : fi.sc.names.lookup x = some .local) (hd : δ.lookup x = some (.obj a)) (hl : i < ds.length) (hi : (i : Int) < 2 ^ 63) (hb : Bd n fi L δ ((a, .lst (ds.set i d)) :: μ₁) rest O)
    (hs : ∀ env, swapsWith e (some (.Subscript (.Name x p1) (.Constant (.int (i : Nat)) kk p2) pa)) pos.line env = pure false := by intro _; rfl) (hb' : (x == ("__debug__" : Str)) = false := by decide) : Bd n fi L δ μ (.Assign [.Subscript (.Name x p1) (.Constant (.int (i : Nat)) kk p2) pa] e pos :: rest) O := by
  intro c τ ν Q E h tk R S kr kn ke
  refine wpAny_execs_cons (wpAny_Assign_Subscript (he c τ ν _ _ h tk R S fun v h₁ tk₁ S₁ => eName (μ := ((a, .lst ds) :: μ₁)) hx hd hb' c _ ν _ _ h₁ tk₁ R S₁ fun u h₂ tk₂ S₂ => eInt c _ ν _ _ h₂ tk₂ R S₂ fun w h₃ tk₃ S₃ => ?_) (hs _))
  obtain ⟨t, rfl⟩ := S₃.isInt (i := (i : Int)) (.inl ⟨rfl, rfl⟩)
  obtain rfl := S₃.isObj (v := u) (x := a) (.inr (.inl ⟨rfl, rfl⟩))
  obtain ⟨o, imm, ho, ⟨vs, nn, rfl, r⟩, _⟩ := S₃.muAt
  have hlt : i < vs.length := r.length ▸ hl
  refine ki_setAt (s := c.st h₃ tk₃) ho (Int.natCast_nonneg i) hi (by rw [List.size_toArray]; omega) ?_
  have S₄ := S₃.upd (k₂ := .lst (ds.set i d)) (Heap.SameBut.update ..) (Heap.get?_update_self (Obj.mapSeq (·.setIfInBounds (i : Int).toNat v)) ho rfl) fun imm o tm mo hg => by
    obtain ⟨vs', n', e', r⟩ := mo
    rw [ho] at hg
    cases hg
    have e2 : vs = vs' := by
      have e3 : vs.toArray = vs'.toArray := by injection e' with _ _ e4 _; injection e4
      simpa using e3
    subst e2
    have e5 : vs.toArray.setIfInBounds i v = (vs.set i v).toArray := by
      apply Array.toList_inj.mp
      simp
    refine ⟨vs.set i v, if (vs.toArray.setIfInBounds i v).size == vs.toArray.size then nn else nn + 1, ?_, r.set (tm _ _ (.inr (.inr (.inl ⟨rfl, rfl⟩)))) i⟩
    rw [← e5]
    rfl
  exact hb c τ ν Q E _ _ R (S₄.weaken (fun _ _ e => e) fun v d e => .inr (.inr (.inr e))) kr kn ke
end
section
variable {n k : Nat} {fi : Fi} {L : Addr} {δ : Loc} {μ μ' : Mus} {ds : List Dt} {e : Expr} {pos : Pos} {rest : List Stmt} {O : Out → Prop} {i j : Int}
/-- return of a new list, to be changed by the caller -/
theorem bRetN (he : EN n fi L (fi.env L) δ μ e μ' ds) (h : ∀ a, O (.ret ((a, .lst ds) :: μ') (.obj a))) : Bd n fi L δ μ (.Return (some e) pos :: rest) O := by
  intro c τ ν Q E hh tk R S kr kn ke
  exact wpAny_execs_cons (wpAny_Return_some (he c τ ν _ _ hh tk R S fun a h' tk' S' => kr _ _ δ _ _ _ (h a) S'))
theorem mulOk_r (h : Builtin.Int.intBits j ≤ 64) : IntMulOk i j := by
  have h' : ¬ (Builtin.Int.intBits _ > shortFactorBits) := Nat.not_lt.mpr h
  unfold IntMulOk; rw [decide_eq_false h']; simp
end
theorem fp_of {n k : Nat} {f : Addr} {μ : Mus} {ds : List Dt} {P : FO → Prop} {name qual : Str} {params : Arguments} {body : List Stmt} {scope : Scope} {dV kV doc pm cdv ct oc : Value} {an od : Option Addr} {osl : Array (Option Value)} (ps : List Str) {δ' : Loc}
    (ho : ∀ P, (KM P).lookup f = some ⟨oc, od, .func (fnOf name qual params body scope dV kV doc pm an cdv ct), osl⟩) (hcd : ∀ P, codeIn (KM P) cdv qual = true)
    (hbind : ∀ vals : List Value, vals.length = ds.length → ∀ s, BindsTo s (fnOf name qual params body scope dV kV doc pm an cdv ct) ⟨vals, []⟩ (ps.zip vals)) (hloc : ∀ y ∈ ps, scope.names.lookup y = some .local)
    (hδ : (ps.zip ds).reverse = δ') (hk : Nat.ble (k + 1) n = true) (hb : ∀ L, Bd k ⟨qual, scope, f, cdv, fun _ => [], false⟩ L δ' μ body (fun o => P o.fo))
    (hcell : ∀ x ∈ scope.names, x.2 ≠ .cell) (hco : scope.isCoroutine = false) (hgen : scope.isGenerator = false) (hkd : scope.kind = .function) : Fu n (.ref f) μ ds P :=
  fu_of ps ho hcd hbind hloc hδ hk hb (fun _ _ h => h) (fun _ _ h => h) (fun _ _ h => h) hcell hco hgen hkd
end Mine
end

noncomputable section
open PySem PySem.W PyProof.Rows PySem.Calls PySem.Spec
set_option Elab.async false
set_option linter.unusedVariables false
namespace Mine
set_option maxRecDepth 100000
set_option maxHeartbeats 8000000

section
variable {a : Addr} {N k : Nat}
theorem take_law (hk : 0 < k) (hk2 : k < 1073741824) : Fu 1 (.ref 198) [(a, .lst [.int (N : Nat)])] [.obj a, .int (k : Nat)] (· = .ret [(a, .lst [.int ((N / k : Nat) : Int)])] (.int ((N % k : Nat) : Int))) := by
  have h0 : ((k : Nat) : Int) ≠ 0 := by omega
  have hm : ((N : Nat) : Int).fmod (k : Nat) = ((N % k : Nat) : Int) := by rw [Int.fmod_eq_emod_of_nonneg _ (Int.natCast_nonneg k)]; rfl
  have hd : ((N : Nat) : Int).fdiv (k : Nat) = ((N / k : Nat) : Int) := by rw [Int.fdiv_eq_ediv_of_nonneg _ (Int.natCast_nonneg k)]; rfl
  refine fd_of (k := 0) [Str.ofString "bag", Str.ofString "many"] (ho := fun P => rfl) (hcd := fun P => rfl) (hbind := fun vals hv s => by obtain ⟨a, b, rfl⟩ := len2 hv; exact BindsTo.of_eq rfl) (hloc := all2 rfl rfl) (hδ := rfl) (hk := rfl) (hb := fun L => ?_) (hcell := by decide) rfl rfl rfl
  refine' bSet (eBin (eMItem (i := 0) (ds := [.int (N : Nat)]) (eName rfl rfl) (.head _) rfl) (eName rfl rfl) (bMod h0)) (bSetI (i := 0) (ds := [.int (N : Nat)]) (eBin (eMItem (i := 0) (ds := [.int (N : Nat)]) (eName rfl rfl) (.head _) rfl) (eName rfl rfl) (bDiv h0 (by simpa using hk2))) rfl rfl (Nat.lt_succ_self 0) (by decide) (bRet (eName rfl rfl) ?_)) rfl
  rw [hm, hd]
  rfl
end
end Mine
end

noncomputable section
open PySem PySem.W PyProof.Rows PySem.Calls PySem.Spec
set_option Elab.async false
set_option linter.unusedVariables false
namespace Mine
set_option maxRecDepth 100000
set_option maxHeartbeats 8000000

section
variable {is : List Int}
theorem bits10 : Builtin.Int.intBits 10 = 4 := by decide +kernel
theorem bag_c (hl : is.length ≤ 63) : Fu 1 (.ref 205) [] [.list (is.map .int)] (fun o => ∃ (a : Addr) (N : Nat), o = .ret [(a, .lst [.int (N : Nat)])] (.obj a)) := by
  refine fp_of (k := 0) [Str.ofString "script"] (ho := fun P => rfl) (hcd := fun P => rfl) (hbind := fun vals hv s => by obtain ⟨a, rfl⟩ := len1 hv; exact BindsTo.of_eq rfl) (hloc := all1 rfl) (hδ := rfl) (hk := rfl) (hb := fun L => ?_) (hcell := by decide) rfl rfl rfl
  have hc : cutD none (some 30) (is.map .int) = (is.take 30).map Dt.int := by
    show (is.map Dt.int).take 30 = _
    rw [List.map_take]
  refine' bSet eInt (bFor (bind := bind1 (Str.ofString "cell")) (μ₁ := []) (ds := (is.take 30).map .int) (iterL (hc ▸ edN (nCut (lv := none) (hv := some 30) (eName rfl rfl) ⟨rfl, rfl⟩ ⟨_, rfl, eInt⟩ ?hl (fun x q => nomatch q) (fun x q => by cases q; decide))) (fun d hd c C δ μ _ => agName rfl)) ?loop) rfl
  case hl => rw [List.length_map]; omega
  case loop =>
    refine (?l : ∀ (js : List Int) (N : Nat) (δ : Loc), δ.lookup (Str.ofString "number") = some (.int (N : Nat)) → Lp _ _ _ L _ _ _ (js.map .int) δ []) (is.take 30) 17 _ rfl
    intro js
    induction js with
    | nil =>
      intro N δ hN
      have h60 : (10 : Int) ^ (60 : Int).toNat = 10 ^ 60 := rfl
      by_cases hgt : (10 : Int) ^ 60 < (N : Int)
      · refine' bRetN (ds := [.int (N : Nat)]) (nLst (esCons (eIfT (tCmp (eName rfl hN) (eBin eInt eInt (bPow (by decide) (by rw [bits10]; decide))) oGt) (decide_eq_true hgt) (eName rfl hN)) esNil) (Nat.le_of_ble_eq_true rfl)) fun a => ⟨a, N, rfl⟩
      · have hN6 : Builtin.Int.intBits (N : Int) ≤ 200 := PyProof.Rows.intBits_le (by have : (10 : Int) ^ 60 < 2 ^ 200 := by decide
                                                                                      omega)
        have e9 : ((10 : Int) ^ (66 : Int).toNat).fdiv 9 = ((10 ^ 66 / 9 : Nat) : Int) := by decide +kernel
        refine' bRetN (ds := [.int ((N ^ 6 + 10 ^ 66 / 9 : Nat) : Int)]) (nLst (esCons (eIfF (tCmp (eName rfl hN) (eBin eInt eInt (bPow (by decide) (by rw [bits10]; decide))) oGt) (decide_eq_false hgt) ?_) esNil) (Nat.le_of_ble_eq_true rfl)) fun a => ⟨a, _, rfl⟩
        have ee : ((N ^ 6 + 10 ^ 66 / 9 : Nat) : Int) = (N : Int) ^ (6 : Int).toNat + ((10 : Int) ^ (66 : Int).toNat).fdiv 9 := by rw [e9, Int.natCast_add, Int.natCast_pow]; rfl
        rw [ee]
        exact (eBin (eBin (eName rfl hN) eInt (bPow (by decide) (by omega))) (eBin (eBin eInt eInt (bPow (by decide) (by rw [bits10]; decide))) eInt (bDiv (by decide) (by decide))) bAdd)
    | cons j js ih =>
      intro N δ hN
      have h80 : ((10 : Int) ^ 80) ≠ 0 := by decide
      obtain ⟨M, hM⟩ : ∃ M : Nat, (N : Int) * 1000003 + j.fmod (10 ^ 80) = (M : Nat) := by
        have := Int.fmod_nonneg_of_pos j (show (0 : Int) < 10 ^ 80 by decide)
        exact ⟨_, (Int.toNat_of_nonneg (by omega)).symm⟩
      refine' bSet (eBin (eBin (eName rfl hN) eInt (bMul (mulOk_r (by decide +kernel)))) (eBin (eName rfl rfl) (eBin eInt eInt (bPow (by decide) (by rw [bits10]; decide))) (bMod h80)) bAdd) (bNil (ih M _ ?_)) rfl
      show some _ = some _
      rw [← hM]
      rfl
end
end Mine
end

noncomputable section
open PySem PySem.W PyProof.Rows PySem.Calls PySem.Spec
set_option Elab.async false
set_option linter.unusedVariables false
namespace Mine
set_option maxRecDepth 100000
set_option maxHeartbeats 8000000
section
variable {n k : Nat} {fi : Fi} {L : Addr} {c : Fc fi L} {ev env : Env} {δ δ' : Loc} {τ : Tm} {μ μ₁ μ₂ μ₃ μ' ν : Mus} {d d₁ d₂ : Dt} {ds ds₁ ds₂ : List Dt} {b : Bool} {pos p1 p2 : Pos} {x y : Str} {e e₁ e₂ t : Expr} {es : List Expr} {f a C : Addr} {o : Option Dt} {i j : Int} {h h' : Heap} {rest : List Stmt} {O : Out → Prop} {v : Value} {target : Expr}
theorem edIn (hp : μ₁.Perm μ₂) (h : ED n fi L ev δ μ₂ e μ d) : ED n fi L ev δ μ₁ e μ d := fun c τ ν Q E hh tk R S K => h c τ ν Q E hh tk R (S.perm (hp.append_right ν)) K
theorem enIn (hp : μ₁.Perm μ₂) (h : EN n fi L ev δ μ₂ e μ ds) : EN n fi L ev δ μ₁ e μ ds := fun c τ ν Q E hh tk R S K => h c τ ν Q E hh tk R (S.perm (hp.append_right ν)) K
theorem St.cellAt (S : St c δ τ μ h) (hm : (a, Mo.cell (some d)) ∈ μ) : ∃ v, h.IsCell a (some v) ∧ St c δ (τ.add v d) μ h := by
  obtain ⟨m, imm, mu, F, N, s, l, t, u⟩ := S
  obtain ⟨o, hmo, ⟨v, hd, hk⟩⟩ := u.mem hm
  obtain ⟨w, rfl, hw⟩ := hk d rfl
  exact ⟨w, ⟨o, (N _ (List.mem_append.mpr (.inl hmo))).1, hd⟩, m, imm, mu, F, N, s, l, t.add hw, u⟩
/-- a name that a cell holds -/
theorem eCell (hk : ev.scope.kind = .function) (hx : ev.kindOf x = some .cell ∨ ev.kindOf x = some .free) (hc : ev.cells.lookup x = some a) (hm : (a, Mo.cell (some d)) ∈ μ) (hb : (x == ("__debug__" : Str)) = false := by decide) (hb2 : (x == ("__classdict__" : Str)) = false := by decide) : ED n fi L ev δ μ (.Name x pos) μ d := by
  intro c τ ν Q E h tk R S K
  obtain ⟨v, hv, S'⟩ := S.cellAt (List.mem_append.mpr (.inl hm))
  rcases hx with hx | hx
  · exact wpAny_Name (wpAny_loadName_cell hk hx hc hv (K v h tk S')) hb
  · exact wpAny_Name (wpAny_loadName_free hk hx hc hv (K v h tk S') hb2) hb
theorem bCell (he : ED n fi L (fi.env L) δ μ e ((a, .cell o) :: μ') d) (hx : (fi.env L).kindOf x = some .cell) (hc : (fi.cl L).lookup x = some a) (hb : Bd n fi L δ ((a, .cell (some d)) :: μ') rest O) (hs : ∀ env, swapsWith e (some (.Name x p1)) pos.line env = pure false := by intro _; rfl) : Bd n fi L δ μ (.Assign [.Name x p1] e pos :: rest) O := by
  intro c τ ν Q E hh tk R S kr kn ke
  refine wpAny_execs_cons (wpAny_Assign_Name (he c τ ν _ _ hh tk R S fun v h' tk' S' => ?_) (hs _))
  obtain ⟨ob, imm, ho, ⟨v0, hd, _⟩, _⟩ := S'.muAt
  refine wpAny_storeName_cell c.fn hx hc ⟨ob, ho, hd⟩ fun h'' hv hsb => ?_
  obtain ⟨ob', ho', hd'⟩ := hv
  have S₂ := S'.upd (k₂ := .cell (some d)) hsb ho' fun imm o t m g => ⟨some v, hd', fun d' e => by cases e; exact ⟨v, rfl, t _ _ (.inl ⟨rfl, rfl⟩)⟩⟩
  exact hb c τ ν Q E h'' _ R S₂.drop kr kn ke

noncomputable abbrev riObj (x left : Int) : Obj := { cls := .type "range_iterator", dict := none, data := .fields #[rawInt x, rawInt left, rawInt 1], slots := #[] }
def rangeD (m : Nat) : List Dt := (List.range m).map fun i => Dt.int (i : Nat)
theorem rangeD_get (m i : Nat) : (rangeD m)[i]? = if i < m then some (Dt.int (i : Nat)) else none := by
  unfold rangeD
  rw [List.getElem?_map]
  split
  · rename_i q; rw [List.getElem?_range q]; rfl
  · rename_i q; rw [List.getElem?_eq_none (by simpa using q)]; rfl
theorem iterR {px pt : Pos} {envs : Addr → Env} {oks : Addr → Mus → Prop} {ups : Addr → Dt → Loc × Mus → Loc × Mus} {m : Nat} {y : Str} (B : Bn ev x (.type "range")) (hi : ED n fi L ev δ μ e μ₁ (.int (m : Nat))) (hm : m < 1000000) (ha : ∀ d ∈ rangeD m, ∀ (c : Fc fi L) C δ μ, oks C μ → Asg c (envs C) (.Name y pt) d δ μ (ups C d (δ, μ)).1 (ups C d (δ, μ)).2)
    (hs : ∀ env, starEach [e] env = (false, eval e env) :: starEach [] env := by intro _; rfl) (hp : ∀ p env, (backTo p (starEach ([] : List Expr) env)).any (·.1) = false := by intro _ _; rfl) (hc' : ∀ env, eval (.Call (.Name x px) [e] [] pos) env = (do callWith pos (← eval (.Name x px) env) [] (backTo pos (starEach [e] env)) (backToKw pos (keywordEach [] env))) := by intro _; rfl)
    (h1 : x ≠ "__name__" := by decide) (h2 : (x == ("__debug__" : Str)) = false := by decide) : Iter n fi L ev envs (.Name y pt) δ μ (.Call (.Name x px) [e] [] pos) μ₁ (rangeD m) oks ups := by
  intro c τ ν Q E h tk R S K
  refine Call_ (name_b B S ?_ h1 h2) (hc' _)
  refine PyProof.Rows.callWith_type1 (args_cons (hi c τ ν _ _ h tk R S fun v h' tk' S' => args_nil ?_) (hs _)) (hs _) (hp _ _)
  obtain ⟨tt, rfl⟩ := S'.isInt (.inl ⟨rfl, rfl⟩)
  refine call_range_1 (s := c.st h' tk') ?_
  refine wpAny_pyIter_range (IsRange.new ..) (small_one (by decide) (by decide) (by omega) (by omega)) ?_
  have hsz : Builtin.Range.rangeSize 0 (m : Int) 1 = (m : Int) := by rw [rangeSize_one]; split <;> omega
  rw [hsz]
  have S₀ := (S'.pushMu (o := { cls := .type "range", data := .fields #[.int 0 tk', .int (m : Nat) tt, .int 1 (tk' + 1)] }) (k := .fix _) rfl fun _ _ => rfl).drop.lose fun _ _ _ e => e
  have S₁ := (S₀.pushMu (o := riObj 0 (m : Int)) (k := .fix (riObj 0 (m : Int))) rfl fun _ _ => rfl).drop
  generalize hI : (h'.push { cls := .type "range", data := .fields #[.int 0 tk', .int (m : Nat) tt, .int 1 (tk' + 1)] }).objs.size = I at S₁
  refine K I (fun i own => own = [(I, .fix (riObj (i : Nat) ((m : Int) - (i : Nat))))]) [(I, .fix (riObj 0 (m : Int)))] _ _ _ (by simp) (fun _ _ e => .inr e) S₁ (fun C => ?_) ?_
  · rintro i _ τ₂ δ₂ μ₂ ν₂ h₂ tk₂ N K E rfl hk ht S₂ hn hs
    have S₂' : St c δ₂ τ₂ ((I, .fix (riObj (i : Nat) ((m : Int) - (i : Nat)))) :: (μ₂ ++ ν₂)) h₂ := S₂
    obtain ⟨oR, immR, hoR, eR, _⟩ := S₂'.muAt
    have eR' : oR = riObj (i : Nat) ((m : Int) - (i : Nat)) := eR
    subst eR'
    by_cases hlt : i < m
    · refine wpAny_pyNext_range_item (s := c.st h₂ tk₂) hoR (by omega) fun h₃ hit hsb => ?_
      have eS : riObj ((i : Int) + 1) ((m : Int) - (i : Nat) - 1) = riObj ((i + 1 : Nat) : Int) ((m : Int) - ((i + 1 : Nat) : Int)) := by
        have : (m : Int) - (i : Nat) - 1 = (m : Int) - ((i + 1 : Nat) : Int) := by omega
        rw [this]; rfl
      have S₃ := ((S₂'.hold (v := .int (i : Nat) tk₂) (d := .int (i : Nat)) fun _ _ _ _ _ _ _ _ => .int _ _).upd (k₂ := .fix (riObj ((i + 1 : Nat) : Int) ((m : Int) - ((i + 1 : Nat) : Int)))) hsb hit fun _ _ _ _ _ => eS)
      have hg : (rangeD m)[i]? = some (.int (i : Nat)) := by rw [rangeD_get, if_pos hlt]
      show wpAny _ _ (letOwnedTupleGo (.Name y pt) (.ref I) (.int (i : Nat) tk₂)) _ _ _
      refine wpAny_pure (ha _ (List.mem_of_getElem? hg) c C δ₂ μ₂ hk _ ([(I, .fix (riObj ((i + 1 : Nat) : Int) ((m : Int) - ((i + 1 : Nat) : Int))))] ++ ν₂) _ h₃ _ _ _ (.inl ⟨rfl, rfl⟩) (S₃.perm List.perm_middle.symm) fun h₄ tk₄ S₄ => ?_)
      exact hs _ hg _ h₄ tk₄ rfl (S₄.perm List.perm_middle).drop
    · refine wpAny_pyNext_range_end (s := c.st h₂ tk₂) c.hd hoR (by omega) fun h₃ hx => ?_
      exact hn (by rw [rangeD_get, if_neg hlt]) h₃ tk₂ (S₂'.lose fun b o hb e => hx b o hb e)
  · rintro _ δ₂ τ₂ μ₂ h₂ tk₂ Q E rfl S₂ q
    obtain ⟨oR, immR, hoR, eR, _⟩ := S₂.muAt
    have eR' : oR = riObj ((0 : Nat) : Int) ((m : Int) - ((0 : Nat) : Int)) := eR
    subst eR'
    exact wpAny_pyIter_rangeiter (s := c.st h₂ tk₂) hoR q
end
end Mine
end

noncomputable section
open PySem PySem.W PyProof.Rows PySem.Calls PySem.Spec
set_option Elab.async false
set_option linter.unusedVariables false
namespace Mine
set_option maxRecDepth 100000
set_option maxHeartbeats 8000000

abbrev rW (k x : String) : Row := (Str.ofString k, Str.ofString x)
def singL : List Row := [rW "word" "a", rW "word" "X-1", rW "number" "12", rW "literal" "a", rW "word" "BY"]
def pickR (l : List Row) (i : Nat) : Row := l.getD i rBy
theorem pick_at {l : List Row} {i : Nat} (h : i < l.length) : l[i]? = some (pickR l i) := by
  unfold pickR
  rw [List.getD_eq_getElem?_getD, List.getElem?_eq_getElem h]
  rfl
theorem lf_ret {μ : Mus} {d : Dt} : Lf (.ret μ d) (.ret μ d) := rfl
section
variable {L : Addr} {fi : Fi} {ev : Env} {n : Nat} {δ : Loc} {μ μ₁ μ' : Mus} {e₁ e₂ : Expr} {l : List Row} {m : Nat} {p1 p2 pos : Pos} {k x : Str} {i1 i2 kk : Nat} {es : List Expr}
theorem ePick (h₁ : ED n fi L ev δ μ e₁ μ₁ (plainD l)) (h₂ : ED n fi L ev δ μ₁ e₂ μ' (.int (m : Nat))) (hm : m < l.length) (hl : l.length < 1000)
  (hs : ∀ l u, subscripted e₂ false (.ref l) (.int (m : Nat) u) = operate [.ref l, .int (m : Nat) u] (getItem (.ref l) (.int (m : Nat) u))) : ED n fi L ev δ μ (.Subscript e₁ e₂ p1) μ' (rowD (pickR l m)) :=
  eRow h₁ h₂ (pick_at hm) (by omega) hs
/-- a row, and rows, written down -/
theorem eRw : ED n fi L ev δ μ (.Tuple [.Constant (.str k) i1 p1, .Constant (.str x) i2 p2] kk pos) μ (rowD (k, x)) := eTup (esCons eStr (esCons eStr esNil))
theorem rsNil : EDs n fi L ev δ μ [] μ (([] : List Row).map rowD) := esNil
theorem rsCons (h : EDs n fi L ev δ μ es μ (l.map rowD)) : EDs n fi L ev δ μ (.Tuple [.Constant (.str k) i1 p1, .Constant (.str x) i2 p2] kk pos :: es) μ (((k, x) :: l).map rowD) := esCons eRw h
theorem eRws (h : EDs n fi L ev δ μ es μ (l.map rowD)) (hl : l.length ≤ 1000000) : ED n fi L ev δ μ (.List es pos) μ (plainD l) := eLst h (Nat.ble_eq_true_of_le (by rw [List.length_map]; exact hl))
end
section
variable {a : Addr} {N : Nat}
theorem single_c : Fu 2 (.ref 212) [(a, .lst [.int (N : Nat)])] [.obj a] (· = .ret [(a, .lst [.int ((N / 5 : Nat) : Int)])] (rowD (pickR singL (N % 5)))) := by
  refine fd_of (k := 1) [Str.ofString "bag"] (ho := fun P => rfl) (hcd := fun P => rfl) (hbind := fun vals hv s => by obtain ⟨a, rfl⟩ := len1 hv; exact BindsTo.of_eq rfl) (hloc := all1 rfl) (hδ := rfl) (hk := rfl) (hb := fun L => ?_) (hcell := by decide) rfl rfl rfl
  have hlt : N % 5 < singL.length := Nat.mod_lt _ (by decide)
  refine' bRet (d := rowD (pickR singL (N % 5))) (μ' := [(a, .lst [.int ((N / 5 : Nat) : Int)])]) ?z ?e
  case e => exact lf_ret
  refine' (ePick (l := singL) (m := N % 5) (μ₁ := [(a, .lst [.int (N : Nat)])]) ?l ?c ?x ?y ?s)
  case x => exact hlt
  case y => decide
  case s => intro _ _; rfl
  case l =>
    refine' eRws ?_ ?_
    iterate 5 refine' rsCons ?_
    exact rsNil
    decide
  case c => exact (eCall (take_law (k := 5) (by decide) (by decide)) rfl (eGlob (f := 198) (fun P => rfl) rfl rfl rfl) (esCons (eName rfl rfl) (esCons eInt esNil)) rfl (fun P => rfl))
end
end Mine
end

noncomputable section
open PySem PySem.W PyProof.Rows PySem.Calls PySem.Spec
set_option Elab.async false
set_option linter.unusedVariables false
namespace Mine
set_option maxRecDepth 100000
set_option maxHeartbeats 8000000
theorem fs_of {n k : Nat} {f : Addr} {μ μr : Mus} {d dr : Dt} {name qual : Str} {params : Arguments} {body : List Stmt} {scope : Scope} {dV kV doc pm cdv ct oc : Value} {an od : Option Addr} {osl : Array (Option Value)} (x y : Str)
    (ho : ∀ P, (KM P).lookup f = some ⟨oc, od, .func (fnOf name qual params body scope dV kV doc pm an cdv ct), osl⟩) (hcd : ∀ P, codeIn (KM P) cdv qual = true)
    (hbind : ∀ v s, BindsTo s (fnOf name qual params body scope dV kV doc pm an cdv ct) ⟨[v], []⟩ [(x, v)]) (hx : scope.names.lookup x = some .cell) (hcl : ∀ m, cellsFrom m scope.names [] = [(y, m + 1), (x, m)]) (hxy : (y == x) = false)
    (hk : Nat.ble (k + 1) n = true) (hb : ∀ L, Bd k ⟨qual, scope, f, cdv, fun L => cellsFrom (L + 1) scope.names [], false⟩ L [] ((L + 1 + 1, .cell none) :: (L + 1, .cell (some d)) :: μ) body (fun o => ∃ o1 o2, o = .ret ((L + 1 + 1, .cell o1) :: (L + 1, .cell o2) :: μr) dr))
    (hco : scope.isCoroutine = false) (hgen : scope.isGenerator = false) (hkd : scope.kind = .function) : Fu n (.ref f) μ [d] (· = .ret μr dr) := by
  intro fi L c δ τ ν vals Q E h tk R t S K KX
  obtain ⟨v, rfl, hv⟩ := t.one
  obtain ⟨m, imm, mu, F, N, s, l, tm, u⟩ := S
  obtain ⟨p, loose, mean, mg, mb, T⟩ := c.T
  obtain ⟨A₀, base, B⟩ := c.B
  refine wpAny_call (code_defC (binds := [(x, v)]) B F c.X N T c.fr rfl c.fn (ho _) (hcd _) R.lt (hbind v _) (by simp [hx]) (by rw [hcl]; simpa using hxy) (fun g L' h₁ tk' cells FG F' N' Y B' X' T' lt => ?_) hco hgen hkd)
  rw [hcl] at Y
  obtain ⟨o, o', rfl, e1, e2⟩ := Y.two
  have kx : (envOfC qual scope L' f cdv).kindOf x = some .cell := hx
  have eb : bindC (envOfC qual scope L' f cdv).kindOf [(x, v)] (fun _ => none) = fun z => if z = x then some v else none := by
    unfold bindC bindC; rw [kx]; rfl
  rw [eb] at e1 e2
  dsimp only at e1 e2
  rw [if_pos rfl] at e2
  rw [if_neg (fun q => by rw [q, beq_self_eq_true] at hxy; cases hxy)] at e1
  let c' : Fc ⟨qual, scope, f, cdv, fun L => cellsFrom (L + 1) scope.names [], false⟩ L' := ⟨c.w, c.A.deeper (envOfC qual scope L' f cdv), g, fi.env c.L :: c.outer, c.s0, X', ⟨p, loose, mean, mg, mb, T'⟩, ⟨_, _, B'⟩, Around.frames_deeper B'.stack, c.hd, hkd, by
    cases q : g.get? L' with
    | none => rfl
    | some o => exact absurd (Nat.lt_of_lt_of_le (Heap.lt_size q) F'.above) (Nat.lt_irrefl _), fun q => nomatch q⟩
  let τ' : Tm := fun v d => τ v d ∨ ∃ x, m x = some v ∧ δ.lookup x = some d
  have lk : ∀ x d, δ.lookup x = some d → ∃ v, m x = some v ∧ τ' v d := fun x d e => let ⟨v, a, _⟩ := l x d e; ⟨v, a, .inr ⟨x, a, e⟩⟩
  have tm' : TmIn c.P imm τ' := fun v d e => by
    rcases e with e | ⟨x, a, b⟩
    · exact tm v d e
    · obtain ⟨v', a', hd⟩ := l x d b
      rw [a] at a'; cases a'; exact hd
  have S' : St c' [] τ' ((L' + 1 + 1, .cell none) :: (L' + 1, .cell (some d)) :: (μ ++ ν)) h₁ := by
    refine ⟨_, imm, (L' + 1 + 1, o) :: (L' + 1, o') :: mu, F', N', ⟨fun p hp q hq => ?_, ?_⟩, (fun x d e => nomatch e), tm', ⟨rfl, ⟨none, e1, (fun d' e => nomatch e)⟩, rfl, ⟨some v, e2, fun d' e => by cases e; exact ⟨v, rfl, tm v d hv⟩⟩, u⟩⟩
    · have hq' := lt q (List.mem_append.mpr (.inr hq))
      rcases List.mem_cons.mp hp with rfl | hp
      · exact fun z => absurd hq' (by rw [← z]; exact Nat.not_lt.mpr (Nat.le_add_right L' 2))
      · rcases List.mem_cons.mp hp with rfl | hp
        · exact fun z => absurd hq' (by rw [← z]; exact Nat.not_lt.mpr (Nat.le_add_right L' 1))
        · exact s.off p hp q hq
    · refine List.nodup_cons.mpr ⟨fun hm => ?_, List.nodup_cons.mpr ⟨fun hm => ?_, s.nd⟩⟩
      · rcases List.mem_cons.mp hm with e | hm
        · exact absurd e (Nat.succ_ne_self _)
        · obtain ⟨p, hp, e⟩ := List.mem_map.mp hm
          exact absurd (lt p (List.mem_append.mpr (.inl hp))) (by rw [e]; exact Nat.not_lt.mpr (Nat.le_add_right L' 2))
      · obtain ⟨p, hp, e⟩ := List.mem_map.mp hm
        exact absurd (lt p (List.mem_append.mpr (.inl hp))) (by rw [e]; exact Nat.not_lt.mpr (Nat.le_add_right L' 1))
  refine hb L' c' τ' ν _ _ h₁ tk' (R.use hk _) S' (fun w d' δ'' μ' h' tk' o S'' => ?_) (fun δ'' μ' h' tk' o S'' => ?_) (fun x δ'' j h' tk' o X => ?_)
  · obtain ⟨o1, o2, e⟩ := o
    cases e
    obtain ⟨m'', imm'', mu'', F'', N'', s'', l'', t'', u''⟩ := St.loses (own := [(L' + 1 + 1, .cell o1), (L' + 1, .cell o2)]) S''
    exact leaveK_ F'' N'' fun kF kN => K w _ _ h' tk' rfl ⟨m, imm'', mu'', kF, kN, s'', fun x d e => let ⟨v, a, b⟩ := lk x d e; ⟨v, a, t'' v d (.inr b)⟩, fun v d e => t'' v d (e.elim .inl fun e => .inr (.inl e)), u''⟩
  · obtain ⟨_, _, e⟩ := o; cases e
  · obtain ⟨_, _, e⟩ := o; cases e
section
variable {n k : Nat} {fi : Fi} {L : Addr} {c : Fc fi L} {ev : Env} {δ : Loc} {τ : Tm} {μ μ₁ μ₂ ν : Mus} {d d₁ d₂ : Dt} {ds : List Dt} {pos : Pos} {e₁ e₂ : Expr} {j : Int}
theorem rep_all {P : Params} {imm : Led} {vs : List Value} (r : DtAll P imm vs ds) : ∀ k : Nat, DtAll P imm (List.replicate k vs).flatten (List.replicate k ds).flatten
  | 0 => .nil
  | k + 1 => by rw [List.replicate_succ, List.replicate_succ, List.flatten_cons, List.flatten_cons]; exact r.append (rep_all r k)
/-- a list times a number -/
theorem nMul (h₁ : ED n fi L ev δ μ e₁ μ₁ (.list ds)) (h₂ : ED n fi L ev δ μ₁ e₂ μ₂ (.int (k : Nat))) (hk : k < 1000) (hl : ds.length ≤ 1000) : EN n fi L ev δ μ (.BinOp e₁ .Mult e₂ pos) μ₂ (List.replicate k ds).flatten := by
  intro c τ ν Q E h tk R S K
  refine wpAny_BinOp (h₁ c τ ν _ _ h tk R S fun a h' tk' S₁ => h₂ c _ ν _ _ h' tk' R S₁ fun b h'' tk'' S₂ => ?_)
  obtain ⟨t, rfl⟩ := S₂.isInt (v := b) (i := (k : Int)) (.inl ⟨rfl, rfl⟩)
  obtain ⟨m, imm, mu, F, N, s, l, tm, u⟩ := S₂
  obtain ⟨l₁, vs₁, n₁, rfl, m₁, r₁⟩ := (tm a _ (.inr (.inl ⟨rfl, rfl⟩))).lst
  refine mul_list (s := c.st h'' tk'') F N ((N _ (List.mem_append.mpr (.inr m₁))).1) (by omega) (by omega) ?_ fun h₃ F₃ N₃ => K _ _ _ ?_
  · rw [Int.toNat_natCast, List.size_toArray, r₁.length]
    exact Nat.le_trans (Nat.mul_le_mul hl (Nat.le_of_lt hk)) (by decide)
  · rw [listMul_foldl_if, Int.toNat_natCast] at N₃
    exact (St.made (τ := _) (k := 0) s l tm u F₃ N₃ (fun p hp => Heap.lt_size (N p hp).1) (rep_all r₁ k)).weaken (fun _ _ e => e) fun v d e => e.elim .inl fun e => .inr (.inr (.inr e))
end
end Mine
end

noncomputable section
open PySem PySem.W PyProof.Rows PySem.Calls PySem.Spec
set_option Elab.async false
set_option linter.unusedVariables false
namespace Mine
set_option maxRecDepth 100000
set_option maxHeartbeats 8000000

def some6 : List Row := [rW "word" "a", rW "sign" ".", rW "picture" "X", rW "number" "5", rW "literal" "==", rW "word" "REPLACING"]
noncomputable def pickN : Nat → Nat → Nat × List Row
  | 0, N => (N, [])
  | c + 1, N => ((pickN c (N / 6)).1, pickR some6 (N % 6) :: (pickN c (N / 6)).2)
noncomputable def sideN (N : Nat) : Nat := if N % 3 = 0 then N / 3 / 5 else (pickN (N / 3 % 4) (N / 3 / 4)).1
noncomputable def sideL (N : Nat) : List Row := if N % 3 = 0 then [pickR singL (N / 3 % 5)] else [rPs] ++ (pickN (N / 3 % 4) (N / 3 / 4)).2 ++ [rPs]
theorem pickN_len : ∀ c N, (pickN c N).2.length = c
  | 0, _ => rfl
  | c + 1, N => by unfold pickN; rw [List.length_cons, pickN_len c]
section
variable {a : Addr} {N k : Nat} {L : Addr} {fi : Fi} {ev : Env} {n : Nat} {δ : Loc} {μ μ' ρ : Mus} {px py pz pos : Pos} {x : Str} {kk : Nat}
/-- _law_take(bag, k) -/
theorem eTake (k : Nat) (hk : 0 < k) (hk2 : k < 1073741824) (hb : ED n fi L ev δ ((a, .lst [.int (N : Nat)]) :: ρ) (.Name x py) ((a, .lst [.int (N : Nat)]) :: ρ) (.obj a)) (hn : Nat.ble 1 n = true) (hg : ev.globals = mainGlobals) (hkd : ev.scope.kind = .function) (hx : ev.kindOf (Str.ofString "_law_take") = some .globalImplicit) (hp : μ.Perm ((a, .lst [.int (N : Nat)]) :: ρ)) (hp' : ((a, Mo.lst [.int ((N / k : Nat) : Int)]) :: ρ).Perm μ') :
    ED n fi L ev δ μ (.Call (.Name (Str.ofString "_law_take") px) [.Name x py, .Constant (.int (k : Nat)) kk pz] [] pos) μ' (.int ((N % k : Nat) : Int)) :=
  edIn hp (edPerm hp' (eCall (take_law hk hk2) rfl (eGlob (f := 198) (fun P => rfl) hg hkd hx) (esCons hb (esCons eInt esNil)) hn (fun P => rfl)))
theorem eSingle (hb : ED n fi L ev δ ((a, .lst [.int (N : Nat)]) :: ρ) (.Name x py) ((a, .lst [.int (N : Nat)]) :: ρ) (.obj a)) (hn : Nat.ble 2 n = true) (hg : ev.globals = mainGlobals) (hkd : ev.scope.kind = .function) (hx : ev.kindOf (Str.ofString "_law_single") = some .globalImplicit) :
    ED n fi L ev δ ((a, .lst [.int (N : Nat)]) :: ρ) (.Call (.Name (Str.ofString "_law_single") px) [.Name x py] [] pos) ((a, Mo.lst [.int ((N / 5 : Nat) : Int)]) :: ρ) (rowD (pickR singL (N % 5))) :=
  eCall single_c rfl (eGlob (f := 212) (fun P => rfl) hg hkd hx) (esCons hb esNil) hn (fun P => rfl)
end
section
variable {L : Addr} {fi : Fi} {ev : Env} {n : Nat} {δ : Loc} {μ μ₁ μ₂ : Mus} {e₁ e₂ : Expr} {l₁ l₂ : List Row} {pos : Pos}
theorem ePlus (h₁ : ED n fi L ev δ μ e₁ μ₁ (plainD l₁)) (h₂ : ED n fi L ev δ μ₁ e₂ μ₂ (plainD l₂)) (hl : l₁.length + l₂.length ≤ 1000000) : ED n fi L ev δ μ (.BinOp e₁ .Add e₂ pos) μ₂ (plainD (l₁ ++ l₂)) := by
  have := edN (nAdd (pos := pos) h₁ h₂ (by rw [List.length_map, List.length_map]; exact hl))
  rw [← List.map_append] at this
  exact this
end
section
variable {a : Addr} {N : Nat}
theorem some_q {n : Nat} {fi : Fi} {L : Addr} {env : Env} {elt : Expr} {δ : Loc} {C : Addr} {μ : Mus} {x : Str} (he : ∀ d δc N, ED n fi L env δ ((C, .ns ((x, d) :: δc)) :: (a, .lst [.int (N : Nat)]) :: μ) elt ((C, .ns ((x, d) :: δc)) :: (a, .lst [.int ((N / 6 : Nat) : Int)]) :: μ) (rowD (pickR some6 (N % 6)))) :
    ∀ (ds : List Dt) (N : Nat) (δc : Loc), Cq (bind1 x) n fi L env elt δ C ((a, .lst [.int ((pickN ds.length N).1 : Nat)]) :: μ) ds δc ((a, .lst [.int (N : Nat)]) :: μ) ((pickN ds.length N).2.map rowD)
  | [], _, _ => ⟨rfl, rfl⟩
  | d :: ds, N, δc => ⟨_, _, _, rfl, he d δc N, some_q he ds (N / 6) _⟩
theorem some_r {n : Nat} {fi : Fi} {L : Addr} {env : Env} {elt : Expr} {δ : Loc} {C : Addr} {μ : Mus} {x : Str} {ds : List Dt} {m M : Nat} (he : ∀ d δc N, ED n fi L env δ ((C, .ns ((x, d) :: δc)) :: (a, .lst [.int (N : Nat)]) :: μ) elt ((C, .ns ((x, d) :: δc)) :: (a, .lst [.int ((N / 6 : Nat) : Int)]) :: μ) (rowD (pickR some6 (N % 6)))) (hl : ds.length = m) :
    Cq (bind1 x) n fi L env elt δ C ((a, .lst [.int ((pickN m M).1 : Nat)]) :: μ) ds [] ((a, .lst [.int (M : Nat)]) :: μ) ((pickN m M).2.map rowD) := hl ▸ some_q he ds M []
abbrev cS (L : Addr) : Addr := L + 1 + 1
abbrev cB (L : Addr) : Addr := L + 1
abbrev bagM (a : Addr) (N : Nat) : Addr × Mo := (a, .lst [.int (N : Nat)])
abbrev dv (N k : Nat) : Nat := N / k
abbrev cellsO (L : Addr) (o : Option Dt) (a : Addr) : Mus := [(L + 1 + 1, .cell o), (L + 1, .cell (some (.obj a)))]
theorem side_c : Fu 3 (.ref 217) [(a, .lst [.int (N : Nat)])] [.obj a] (· = .ret [(a, .lst [.int (sideN N : Nat)])] (plainD (sideL N))) := by
  refine fs_of (k := 2) (Str.ofString "bag") (Str.ofString "some") (ho := fun P => rfl) (hcd := fun P => rfl) (hbind := fun v s => BindsTo.of_eq rfl) (hx := rfl) (hcl := fun m => rfl) (hxy := by decide) (hk := rfl) (hb := fun L => ?_) rfl rfl rfl
  refine bPerm (μ' := (a, .lst [.int (N : Nat)]) :: cellsO L none a) (((List.Perm.swap _ _ _).cons _).trans (.swap _ _ _)) ?_
  have pm : ∀ {k₁ : Mo} {o : Option Dt}, ((a, k₁) :: cellsO L o a).Perm ((L + 1 + 1, .cell o) :: (L + 1, .cell (some (.obj a))) :: [(a, k₁)]) := (List.Perm.swap _ _ _).trans ((List.Perm.swap _ _ _).cons _)
  by_cases h3 : N % 3 = 0
  · have e1 : sideN N = N / 3 / 5 := if_pos h3
    have e2 : plainD (sideL N) = .list [rowD (pickR singL (N / 3 % 5))] := congrArg plainD (if_pos h3)
    rw [e1, e2]
    refine bIfT (μ' := (a, .lst [.int ((N / 3 : Nat) : Int)]) :: cellsO L none a) (tCmp (eTake 3 (by decide) (by decide) (eCell rfl (.inl rfl) rfl ?m) rfl rfl rfl rfl (.refl _) (.refl _)) eInt oEqI) (by rw [h3]; rfl) ?_
    case m => exact .tail _ (.tail _ (.head _))
    refine bRet (edPerm pm (edN (nLst (esCons (eSingle (eCell rfl (.inl rfl) rfl ?m) rfl rfl rfl rfl) esNil) ?_))) ?_
    case m => exact .tail _ (.tail _ (.head _))
    · exact Nat.le_of_ble_eq_true rfl
    · exact ⟨_, _, rfl⟩
  · have e1 : sideN N = (pickN (N / 3 % 4) (N / 3 / 4)).1 := if_neg h3
    have e2 : sideL N = [rPs] ++ (pickN (N / 3 % 4) (N / 3 / 4)).2 ++ [rPs] := by unfold sideL; rw [if_neg h3]
    rw [e1, e2]
    refine bIfF (μ' := (a, .lst [.int ((N / 3 : Nat) : Int)]) :: cellsO L none a) (tCmp (eTake 3 (by decide) (by decide) (eCell rfl (.inl rfl) rfl ?m) rfl rfl rfl rfl (.refl _) (.refl _)) eInt oEqI) ?_ ?_
    case m => exact .tail _ (.tail _ (.head _))
    · exact beq_eq_false_iff_ne.mpr (by omega)
    have hlt : N / 3 % 4 < 4 := Nat.mod_lt _ (by decide)
    refine bCell (a := cS L) (o := none) (μ' := [bagM a (dv N 3), (cB L, .cell (some (.obj a)))]) (d := plainD some6) ?l ?h1 ?h2 ?h3 ?h4
    case h1 => rfl
    case h2 => rfl
    case h4 => intro _; rfl
    case l =>
      refine edPerm (μ₁ := bagM a (dv N 3) :: cellsO L none a) ?p ?q
      case p => exact .swap _ _ _
      refine' eRws ?_ ?_
      iterate 6 refine' rsCons ?_
      exact rsNil
      decide
    refine bPerm (μ' := bagM a (dv N 3) :: cellsO L (some (plainD some6)) a) (.swap _ _ _) ?_
    obtain ⟨m, hm⟩ : ∃ m, N / 3 % 4 = m := ⟨_, rfl⟩
    obtain ⟨M, hM⟩ : ∃ M, N / 3 / 4 = M := ⟨_, rfl⟩
    rw [hm, hM]
    rw [hm] at hlt
    refine bRet (μ' := [(cS L, .cell (some (plainD some6))), (cB L, .cell (some (.obj a))), bagM a (pickN m M).1]) (d := plainD ([rPs] ++ (pickN m M).2 ++ [rPs])) ?e ?o
    case o => exact ⟨_, _, rfl⟩
    refine edPerm (μ₁ := bagM a (pickN m M).1 :: cellsO L (some (plainD some6)) a) ?p2 ?q2
    case p2 => exact pm
    refine ePlus (μ₁ := bagM a (pickN m M).1 :: cellsO L (some (plainD some6)) a) ?xy ?y ?l3
    case xy =>
     refine ePlus (μ₁ := bagM a (dv N 3) :: cellsO L (some (plainD some6)) a) ?x ?comp ?l2
     case x => refine' eRws ?_ ?_; refine' rsCons ?_; exact rsNil; decide
     case l2 => rw [pickN_len]; exact Nat.le_trans (Nat.add_le_add_left (Nat.le_of_lt hlt) _) (by decide)
     case comp =>
      refine eComp (μ₁ := bagM a M :: cellsO L (some (plainD some6)) a) (ds := rangeD m) (cl := [(Str.ofString "some", cS L), (Str.ofString "bag", cB L)]) (bind := bind1 (Str.ofString "turn")) ?hi ?hclos ?hcell ?hkind ?hnames (fun C => ?hq) ?hlen
      case hclos => rfl
      case hcell => decide
      case hkind => rfl
      case hnames => decide
      case hlen => unfold rangeD; rw [List.length_map, List.length_range]; exact Nat.le_trans (Nat.le_of_lt hlt) (by decide)
      case hi =>
        refine iterR ⟨fun P => rfl, rfl, rfl, rfl, rfl, rfl⟩ ?ht ?hm4 ?ha
        case hm4 => exact Nat.lt_trans hlt (by decide)
        case ha =>
          rintro d - c C δ μ ⟨δc, μr, rfl⟩
          exact agNameC rfl rfl rfl
        case ht =>
          rw [← hm, ← hM]
          exact eTake 4 (by decide) (by decide) (eCell rfl (.inl rfl) rfl (.tail _ (.tail _ (.head _)))) rfl rfl rfl rfl (.refl _) (.refl _)
      case hq =>
        refine some_r (a := a) (x := Str.ofString "turn") ?he (by unfold rangeD; rw [List.length_map, List.length_range])
        case he =>
          intro d δc N'
          refine ePick (μ₁ := (C, .ns ((Str.ofString "turn", d) :: δc)) :: bagM a N' :: cellsO L (some (plainD some6)) a) (l := some6) (m := N' % 6) ?h7 ?h8 ?h9 ?h10 ?h11
          case h9 => exact Nat.mod_lt _ (by decide)
          case h10 => decide
          case h11 => intro _ _; rfl
          case h7 => exact eCell rfl (.inl rfl) rfl (.tail _ (.tail _ (.head _)))
          case h8 => exact eTake 6 (by decide) (by decide) (eCell rfl (.inl rfl) rfl (.tail _ (.tail _ (.tail _ (.head _))))) rfl rfl rfl rfl (.swap _ _ _) (.swap _ _ _)
    case y => refine' eRws ?_ ?_; refine' rsCons ?_; exact rsNil; decide
    case l3 => rw [List.length_append, pickN_len]; exact Nat.le_trans (Nat.add_le_add_right (Nat.add_le_add_left (Nat.le_of_lt hlt) _) _) (by decide)
end
end Mine
end

noncomputable section
open PySem PySem.W PyProof.Rows PySem.Calls PySem.Spec
set_option Elab.async false
set_option linter.unusedVariables false
namespace Mine
set_option maxRecDepth 100000
set_option maxHeartbeats 1000000
section
variable {n : Nat} {fi : Fi} {L : Addr} {δ δ' : Loc} {μ μ' : Mus} {b : Bool} {pos : Pos} {t : Expr} {b₁ b₂ body : List Stmt} {J : Loc → Mus → Prop} {K : Nat → Loc → Mus → Prop} {bind : Dt → Loc → Loc} {rest : List Stmt} {O : Out → Prop} {x y z : Str} {d d₂ : Dt} {ds : List Dt} {a : Addr}
/-- statements, then others -/
theorem bThen (h : Bd n fi L δ μ body (Again J O)) (hr : ∀ δ μ, J δ μ → Bd n fi L δ μ rest O) : Bd n fi L δ μ (body ++ rest) O := by
  intro c τ ν Q E hh tk R S kr kn ke
  rw [execs_app]
  refine wpAny_bind (h c τ ν (fun f s => wpAny (model prog0 c.w) c.A (match f with | .next => execs rest (fi.env L) | f => pure f) Q E s) E hh tk R S (fun v d δ' μ' h' tk' o S' => ?_) (fun δ' μ' h' tk' o S' => ?_) fun x δ' j h' tk' o X => ke x δ' j h' tk' o X)
  · exact wpAny_pure (kr v d δ' μ' h' tk' o S')
  · exact hr δ' μ' o c τ ν Q E h' tk' R S' kr kn ke
/-- if t: b₁ else: b₂, met again behind -/
theorem bIfJ (ht : TD n fi L (fi.env L) δ μ t μ' b) (h₁ : b = true → Bd n fi L δ μ' b₁ (Again J O)) (h₂ : b = false → Bd n fi L δ μ' b₂ (Again J O)) (hr : ∀ δ μ, J δ μ → Bd n fi L δ μ rest O) : Bd n fi L δ μ (.If t b₁ b₂ pos :: rest) O :=
  bIf ht (fun q => bThen (h₁ q) hr) fun q => bThen (h₂ q) hr
theorem lpJ (step : ∀ k d δ μ, K (k + 1) δ μ → Bd n fi L (bind d δ) μ body (Again (K k) O)) (fin : ∀ δ μ, K 0 δ μ → Bd n fi L δ μ rest O) : ∀ (ds : List Dt) (δ : Loc) (μ : Mus), K ds.length δ μ → Lp bind n fi L body rest O ds δ μ
  | [], δ, μ, h => fin δ μ h
  | d :: ds, δ, μ, h => bMono (step ds.length d δ μ h) fun o ho => by
    cases o with
    | next δ' μ' => exact lpJ step fin ds δ' μ' ho
    | ret μ' d => exact ho
    | exc δ' j => exact ho
theorem lk_ne {d' : Option Dt} (h : δ.lookup y = d') (hn : (y == x) = false) : ((x, d) :: δ).lookup y = d' := by
  rw [List.lookup_cons, hn]; exact h
/-- one name turns to data, the rest stay -/
theorem fz1 (hr : δ.lookup x = some (.obj a)) : ∀ z d, ((x, Dt.list ds) :: δ).lookup z = some d → δ.lookup z = some d ∨ (δ.lookup z = some (.obj a) ∧ d = .list ds) := fun z d e => by
  rw [List.lookup_cons] at e
  cases q : z == x with
  | true => rw [q] at e; cases e; rw [eq_of_beq q]; exact .inr ⟨hr, rfl⟩
  | false => rw [q] at e; exact .inl e
end
end Mine
end

noncomputable section
open PySem PySem.W PyProof.Rows PySem.Calls PySem.Spec
set_option Elab.async false
set_option linter.unusedVariables false
namespace Mine
set_option maxRecDepth 100000
set_option maxHeartbeats 200000

def allR : List Row := [rW "word" "lib-a", rW "word" "T", rW "literal" "part one", rW "number" "7", rW "word" "OF", rW "word" "IN", rW "word" "L", rW "sign" ".", rW "word" "REPLACING", rW "word" "BY", rW "word" "REST", rW "pseudo" "==", rW "word" "COPY", rW "sign" "(", rW "word" "a", rW "word" "X-1", rW "number" "12", rW "literal" "a", rW "picture" "X", rW "number" "5", rW "literal" "=="]
structure Zs (l : List Row) (k : Nat) : Prop where
  len : l.length ≤ k
  sub : ∀ r ∈ l, r ∈ allR
theorem pickR_mem {l : List Row} {i : Nat} (h : i < l.length) : pickR l i ∈ l := List.mem_of_getElem? (pick_at h)
theorem Zs.app {l₁ l₂ : List Row} {j k : Nat} (h₁ : Zs l₁ j) (h₂ : Zs l₂ k) : Zs (l₁ ++ l₂) (j + k) := ⟨by rw [List.length_append]; exact Nat.add_le_add h₁.len h₂.len, fun r hr => (List.mem_append.mp hr).elim (h₁.sub r) (h₂.sub r)⟩
theorem Zs.le {l : List Row} {j k : Nat} (h : Zs l j) (hk : j ≤ k) : Zs l k := ⟨Nat.le_trans h.len hk, h.sub⟩
theorem Zs.pick {t : List Row} {i : Nat} (h : i < t.length) (ht : ∀ r ∈ t, r ∈ allR) : Zs [pickR t i] 1 := ⟨Nat.le_refl _, fun r hr => by rw [List.mem_singleton.mp hr]; exact ht _ (pickR_mem h)⟩
theorem Zs.one {r : Row} (h : r ∈ allR) : Zs [r] 1 := ⟨Nat.le_refl _, fun x hx => by rw [List.mem_singleton.mp hx]; exact h⟩
theorem Zs.take {l : List Row} {k : Nat} (h : Zs l k) (i : Nat) : Zs (l.take i) k := ⟨Nat.le_trans (by rw [List.length_take]; exact Nat.min_le_right _ _) h.len, fun r hr => h.sub r (List.mem_of_mem_take hr)⟩
theorem Zs.drop {l : List Row} {k : Nat} (h : Zs l k) (i : Nat) : Zs (l.drop i) k := ⟨Nat.le_trans (by rw [List.length_drop]; exact Nat.sub_le _ _) h.len, fun r hr => h.sub r (List.mem_of_mem_drop hr)⟩
theorem sing_sub : ∀ r ∈ singL, r ∈ allR := by decide +kernel
theorem some_sub : ∀ r ∈ some6, r ∈ allR := by decide +kernel
theorem Zs.ps : Zs [rPs] 1 := .one (by decide +kernel)
theorem Zs.pickN : ∀ c N, Zs (Mine.pickN c N).2 c
  | 0, _ => ⟨Nat.le_refl _, fun r hr => nomatch hr⟩
  | c + 1, N => by
    have h := Zs.app (Zs.pick (t := some6) (i := N % 6) (Nat.mod_lt _ (by decide)) some_sub) (Zs.pickN c (N / 6))
    rw [Nat.add_comm] at h
    exact h
theorem Zs.side (N : Nat) : Zs (sideL N) 5 := by
  unfold sideL
  split
  · exact (Zs.pick (t := singL) (Nat.mod_lt _ (by decide)) sing_sub).le (by decide)
  · have h3 : N / 3 % 4 < 4 := Nat.mod_lt _ (by decide)
    exact ((Zs.app .ps (Zs.pickN _ _)).app .ps).le (by omega)
section
variable {a : Addr} {N k : Nat} {L : Addr} {fi : Fi} {ev : Env} {n : Nat} {δ : Loc} {μ μ₁ μ' ρ : Mus} {px py pz p1 pos : Pos} {x : Str} {e e₁ : Expr} {l : List Row} {i : Nat} {kk : Nat}
/-- _law_take(bag, e) -/
theorem eTakeE (k : Nat) (hk : 0 < k) (hk2 : k < 1073741824) (hb : ED n fi L ev δ ((a, .lst [.int (N : Nat)]) :: ρ) (.Name x py) ((a, .lst [.int (N : Nat)]) :: ρ) (.obj a)) (he : ED n fi L ev δ ((a, .lst [.int (N : Nat)]) :: ρ) e ((a, .lst [.int (N : Nat)]) :: ρ) (.int (k : Nat))) (hn : Nat.ble 1 n = true) (hg : ev.globals = mainGlobals) (hkd : ev.scope.kind = .function) (hx : ev.kindOf (Str.ofString "_law_take") = some .globalImplicit)
    (h1 : ∀ env, starEach [.Name x py, e] env = (false, eval (.Name x py) env) :: starEach [e] env := by intro _; rfl) (h2 : ∀ env, starEach [e] env = (false, eval e env) :: starEach [] env := by intro _; rfl) (h3 : ∀ p env, (backTo p (starEach [.Name x py, e] env)).any (·.1) = false := by intro _ _; rfl) (h4 : ∀ env, eval (.Call (.Name (Str.ofString "_law_take") px) [.Name x py, e] [] pos) env = (do callWith pos (← eval (.Name (Str.ofString "_law_take") px) env) [] (backTo pos (starEach [.Name x py, e] env)) (backToKw pos (keywordEach [] env))) := by intro _; rfl) :
    ED n fi L ev δ ((a, .lst [.int (N : Nat)]) :: ρ) (.Call (.Name (Str.ofString "_law_take") px) [.Name x py, e] [] pos) ((a, Mo.lst [.int ((N / k : Nat) : Int)]) :: ρ) (.int ((N % k : Nat) : Int)) := by
  refine eCall (take_law hk hk2) rfl (eGlob (f := 198) (fun P => rfl) hg hkd hx) (esCons hb (esCons he esNil h2) h1) hn (fun P => rfl) h3 h1 h4
theorem eLen (h : ED n fi L ev δ μ (.Name x py) μ (plainD l)) (B : Bn ev (Str.ofString "len") (.builtin "len")) (hl : l.length ≤ 1000000) : ED n fi L ev δ μ (.Call (.Name (Str.ofString "len") px) [.Name x py] [] pos) μ (.int (l.length : Nat)) := by
  have := eCallB (x := Str.ofString "len") (px := px) (pos := pos) (ρ := μ) B (con_len (ds := l.map rowD) (by rw [List.length_map]; exact hl)) rfl (esCons h esNil) rfl
  rw [List.length_map] at this
  exact this
theorem ePre (h₁ : ED n fi L ev δ μ e μ₁ (plainD l)) (h₂ : ED n fi L ev δ μ₁ e₁ μ' (.int (i : Nat))) (hl : l.length ≤ 1000000) (ht : ∀ o r, letTemporaryGo e o r = pure () := by intro _ _; rfl) : ED n fi L ev δ μ (.Subscript e (.Slice none (some e₁) none p1) pos) μ' (plainD (l.take i)) := by
  have := edN (nCut (pos := pos) (p1 := p1) (lo := none) (hi := some e₁) (lv := none) (hv := some (i : Int)) h₁ ⟨rfl, rfl⟩ ⟨_, rfl, h₂⟩ (by rw [List.length_map]; exact hl) (fun x q => nomatch q) (fun x q => by cases q; omega) ht)
  show ED _ _ _ _ _ _ _ _ (.list ((l.take i).map rowD))
  rw [List.map_take]
  exact this
theorem eSuf (h₁ : ED n fi L ev δ μ e μ₁ (plainD l)) (h₂ : ED n fi L ev δ μ₁ e₁ μ' (.int (i : Nat))) (hl : l.length ≤ 1000000) (ht : ∀ o r, letTemporaryGo e o r = pure () := by intro _ _; rfl) : ED n fi L ev δ μ (.Subscript e (.Slice (some e₁) none none p1) pos) μ' (plainD (l.drop i)) := by
  have := edN (nCut (pos := pos) (p1 := p1) (lo := some e₁) (hi := none) (lv := some (i : Int)) (hv := none) h₁ ⟨_, rfl, h₂⟩ ⟨rfl, rfl⟩ (by rw [List.length_map]; exact hl) (fun x q => by cases q; omega) (fun x q => nomatch q) ht)
  show ED _ _ _ _ _ _ _ _ (.list ((l.drop i).map rowD))
  rw [List.map_drop]
  exact this
theorem eSide (hb : ED n fi L ev δ ((a, .lst [.int (N : Nat)]) :: ρ) (.Name x py) ((a, .lst [.int (N : Nat)]) :: ρ) (.obj a)) (hn : Nat.ble 3 n = true) (hg : ev.globals = mainGlobals) (hkd : ev.scope.kind = .function) (hx : ev.kindOf (Str.ofString "_law_side") = some .globalImplicit) :
    ED n fi L ev δ ((a, .lst [.int (N : Nat)]) :: ρ) (.Call (.Name (Str.ofString "_law_side") px) [.Name x py] [] pos) ((a, Mo.lst [.int (sideN N : Nat)]) :: ρ) (plainD (sideL N)) :=
  eCall side_c rfl (eGlob (f := 217) (fun P => rfl) hg hkd hx) (esCons hb esNil) hn (fun P => rfl)
theorem eOneR (h : ED n fi L ev δ μ e μ' (rowD r)) (hs : ∀ env, starEach [e] env = (false, eval e env) :: starEach [] env := by intro _; rfl) : ED n fi L ev δ μ (.List [e] pos) μ' (plainD [r]) := eLst (esCons h esNil hs)
theorem eRep (h₁ : ED n fi L ev δ μ e μ₁ (plainD l)) (h₂ : ED n fi L ev δ μ₁ e₁ μ' (.int (k : Nat))) (hk : k < 1000) (hl : l.length ≤ 1000) : ED n fi L ev δ μ (.BinOp e .Mult e₁ pos) μ' (plainD (List.replicate k l).flatten) := by
  have := edN (nMul (pos := pos) h₁ h₂ hk (by rw [List.length_map]; exact hl))
  show ED _ _ _ _ _ _ _ _ (.list ((List.replicate k l).flatten.map rowD))
  rw [List.map_flatten, List.map_replicate]
  exact this
theorem Zs.rep {l : List Row} {j : Nat} (h : Zs l j) : ∀ k, Zs (List.replicate k l).flatten (k * j)
  | 0 => ⟨Nat.zero_le _, fun r hr => nomatch hr⟩
  | k + 1 => by
    rw [List.replicate_succ, List.flatten_cons]
    exact (h.app (Zs.rep h k)).le (by rw [Nat.add_mul, Nat.one_mul, Nat.add_comm]; exact Nat.le_refl _)
end
end Mine
end

noncomputable section
open PySem PySem.W PyProof.Rows PySem.Calls PySem.Spec
set_option Elab.async false
set_option linter.unusedVariables false
namespace Mine
set_option maxRecDepth 100000
set_option maxHeartbeats 8000000

abbrev OR (a : Addr) (o : Out) : Prop := ∃ (N' : Nat) (l : List Row), o = .ret [bagM a N'] (plainD l) ∧ Zs l 100
theorem nOneR {n : Nat} {fi : Fi} {L : Addr} {ev : Env} {δ : Loc} {μ μ' : Mus} {e : Expr} {pos : Pos} {r : Row} (h : ED n fi L ev δ μ e μ' (rowD r)) (hs : ∀ env, starEach [e] env = (false, eval e env) :: starEach [] env := by intro _; rfl) : EN n fi L ev δ μ (.List [e] pos) μ' [rowD r] := nLst (esCons h esNil hs) (Nat.le_of_ble_eq_true rfl)
section
variable {a : Addr} {N : Nat}
def first4 : List Row := [rW "word" "lib-a", rW "word" "T", rW "literal" "part one", rW "number" "7"]
def lib2 : List Row := [rW "word" "L", rW "sign" "."]
def more6 : List Row := [rW "sign" ".", rW "pseudo" "==", rW "word" "BY", rW "word" "COPY", rW "sign" "(", rW "word" "REPLACING"]
abbrev sBag : Str := Str.ofString "bag"
abbrev sRows : Str := Str.ofString "rows"
def J1 (a : Addr) (δ : Loc) (μ : Mus) : Prop := ∃ (N : Nat) (l : List Row) (b : Addr), Zs l 3 ∧ δ.lookup sBag = some (.obj a) ∧ δ.lookup sRows = some (.obj b) ∧ μ = [bagM a N, (b, .lst (l.map rowD))]
def J2 (a : Addr) (m : Nat) (δ : Loc) (μ : Mus) : Prop := ∃ (N : Nat) (l : List Row) (b : Addr), Zs l 4 ∧ δ.lookup sBag = some (.obj a) ∧ δ.lookup sRows = some (.obj b) ∧ δ.lookup (Str.ofString "many") = some (.int (m : Nat)) ∧ μ = [bagM a N, (b, .lst (l.map rowD))]
def K3 (a : Addr) (k : Nat) (δ : Loc) (μ : Mus) : Prop := ∃ (N : Nat) (l : List Row), Zs l (40 - 11 * k) ∧ k ≤ 3 ∧ δ.lookup sBag = some (.obj a) ∧ δ.lookup sRows = some (plainD l) ∧ μ = [bagM a N]
theorem rows_c : Fu 4 (.ref 224) [bagM a N] [.obj a] (fun o => ∃ (N' : Nat) (l : List Row), o = .ret [bagM a N'] (plainD l) ∧ Zs l 100) := by
  refine fp_of (k := 3) [Str.ofString "bag"] (ho := fun P => rfl) (hcd := fun P => rfl) (hbind := fun vals hv s => by obtain ⟨a, rfl⟩ := len1 hv; exact BindsTo.of_eq rfl) (hloc := all1 rfl) (hδ := rfl) (hk := rfl) (hb := fun L => ?_) (hcell := by decide) rfl rfl rfl
  refine bSetN (μ' := [bagM a (dv N 4)]) (ds := [rowD (pickR first4 (N % 4))]) ?s1 ?s1x ?s1y ?s1z
  case s1x => rfl
  case s1z => intro _; rfl
  case s1 =>
    refine nOneR ?s2 ?s3
    case s3 => intro _; rfl
    refine ePick (μ₁ := [bagM a N]) (l := first4) (m := N % 4) ?s4 ?s5 ?s6 ?s7 ?s8
    case s6 => exact Nat.mod_lt _ (by decide)
    case s7 => decide
    case s8 => intro _ _; rfl
    case s4 => refine' eRws ?_ ?_; iterate 4 refine' rsCons ?_
               exact rsNil
               decide
    case s5 => exact eTake 4 (by decide) (by decide) (eName rfl rfl) rfl rfl rfl rfl (.refl _) (.refl _)
  intro b
  refine bPerm (μ' := [bagM a (dv N 4), (b, .lst [rowD (pickR first4 (N % 4))])]) (.swap _ _ _) ?_
  obtain ⟨l, hl, hz⟩ : ∃ l, l = [pickR first4 (N % 4)] ∧ Zs l 1 := ⟨_, rfl, .pick (t := first4) (Nat.mod_lt _ (by decide)) (by decide +kernel)⟩
  have hl' : [rowD (pickR first4 (N % 4))] = l.map rowD := by rw [hl]; rfl
  rw [hl']
  generalize dv N 4 = N
  refine' bIfJ (μ' := [bagM a (dv N 3), (b, .lst (l.map rowD))]) (J := J1 a) ?t1 ?t2 ?t3 ?t4
  case t1 => exact tCmp (eTake 3 (by decide) (by decide) (eName rfl rfl) rfl rfl rfl rfl (.refl _) (.refl _)) eInt oEqI
  case t3 => exact fun _ => bNil ⟨dv N 3, l, b, hz.le (by decide), rfl, rfl, rfl⟩
  case t2 =>
    intro _
    generalize dv N 3 = N
    refine bFreeze (δ' := (sRows, plainD l) :: _) (a := b) (ds := l.map rowD) (μ' := [bagM a N]) (fz1 rfl) (.swap _ _ _) ?_
    obtain ⟨s, hs, hsm⟩ : ∃ s, [Dt.str (Str.ofString "OF"), Dt.str (Str.ofString "IN")][((N % 2 : Nat) : Int).toNat]? = some (.str s) ∧ (Str.ofString "word", s) ∈ allR := by
      have h2 : N % 2 < 2 := Nat.mod_lt _ (by decide)
      rw [Int.toNat_natCast]
      generalize N % 2 = i at h2
      rcases i with _ | _ | i
      · exact ⟨_, rfl, by decide +kernel⟩
      · exact ⟨_, rfl, by decide +kernel⟩
      · omega
    have hq : (((dv N 2 % 5 : Nat) : Int).fdiv 4) = ((dv N 2 % 5 / 4 : Nat) : Int) := by
      rw [Int.fdiv_eq_ediv_of_nonneg _ (by decide)]; rfl
    have hq2 : dv N 2 % 5 / 4 < 2 := by have : dv N 2 % 5 < 5 := Nat.mod_lt _ (by decide)
                                        omega
    obtain ⟨r2, hr2, hr2m⟩ : ∃ r, r = pickR lib2 (dv N 2 % 5 / 4) ∧ r ∈ allR := ⟨_, rfl, (by decide +kernel : ∀ r ∈ lib2, r ∈ allR) _ (pickR_mem hq2)⟩
    have hz2 : Zs (l ++ [(Str.ofString "word", s), r2]) 3 := (hz.app (k := 2) ⟨Nat.le_refl _, fun r hr => by
      rcases List.mem_cons.mp hr with rfl | hr
      · exact hsm
      · rw [List.mem_singleton.mp hr]; exact hr2m⟩).le (by decide)
    refine bSetN (μ' := [bagM a (dv (dv N 2) 5)]) (ds := l.map rowD ++ [rowD (Str.ofString "word", s), rowD r2]) ?t5 ?t6 ?t7 ?t8
    case t6 => rfl
    case t8 => intro _; rfl
    case t7 =>
      intro b
      refine bPerm (μ' := [bagM a (dv (dv N 2) 5), (b, .lst (l.map rowD ++ [rowD (Str.ofString "word", s), rowD r2]))]) (.swap _ _ _) (bNil ?_)
      exact ⟨_, l ++ [(Str.ofString "word", s), r2], b, hz2, rfl, rfl, by rw [List.map_append]; rfl⟩
    case t5 =>
      refine nAdd (μ₁ := [bagM a N]) (eName rfl rfl) ?u1 ?u2
      case u2 => have := hz.len; rw [List.length_map]; exact Nat.le_trans (Nat.add_le_add_right this _) (Nat.le_of_ble_eq_true rfl)
      refine eLst ?u3 rfl
      refine esCons (μ₁ := [bagM a (dv N 2)]) ?u4 (esCons (μ₁ := [bagM a (dv (dv N 2) 5)]) ?u5 esNil)
      case u4 =>
        refine eTup (ds := [.str (Str.ofString "word"), .str s]) (esCons eStr (esCons ?u6 esNil)) rfl
        refine eItem (μ₁ := [bagM a N]) (ds := [.str (Str.ofString "OF"), .str (Str.ofString "IN")]) (i := ((N % 2 : Nat) : Int)) ?u7 ?u8 (Int.natCast_nonneg _) hs ?u9 ?u10
        case u10 => intro _ _; rfl
        case u9 => have : N % 2 < 2 := Nat.mod_lt _ (by decide)
                   omega
        case u7 => exact eLst (esCons eStr (esCons eStr esNil)) rfl
        case u8 => exact eTake 2 (by decide) (by decide) (eName rfl rfl) rfl rfl rfl rfl (.refl _) (.refl _)
      case u5 =>
        rw [hr2]
        refine ePick (μ₁ := [bagM a (dv N 2)]) (l := lib2) (m := dv N 2 % 5 / 4) ?v4 ?v5 hq2 ?v7 ?v8
        case v7 => decide
        case v8 => intro _ _; rfl
        case v4 => refine' eRws ?_ ?_; iterate 2 refine' rsCons ?_
                   exact rsNil
                   decide
        case v5 =>
          rw [← hq]
          exact eBin (eTake 5 (by decide) (by decide) (eName rfl rfl) rfl rfl rfl rfl (.refl _) (.refl _)) eInt (bDiv (by decide) (by decide))
  rintro δ μ ⟨N, l, b, hz, hB, hR, rfl⟩
  refine bSet (μ' := [bagM a (dv N 4), (b, .lst (l.map rowD))]) (d := .int ((N % 4 : Nat) : Int)) ?a1 ?a2 ?a3 ?a4
  case a3 => rfl
  case a4 => intro _; rfl
  case a1 => exact eTake 4 (by decide) (by decide) (eName rfl hB) rfl rfl rfl rfl (.refl _) (.refl _)
  have hm4 : N % 4 < 4 := Nat.mod_lt _ (by decide)
  generalize N % 4 = m at hm4
  generalize dv N 4 = N
  refine' bIfJ (μ' := [bagM a N, (b, .lst (l.map rowD))]) (J := J2 a m) ?b1 ?b2 ?b3 ?b4
  case b1 => exact tCmp (eName rfl rfl) eInt oGt
  case b3 => exact fun _ => bNil ⟨N, l, b, hz.le (by decide), hB, hR, rfl, rfl⟩
  case b2 =>
    intro _
    refine bPerm (μ' := [(b, .lst (l.map rowD)), bagM a N]) (.swap _ _ _) ?_
    refine bApp (d := rowD (rW "word" "REPLACING")) (a := b) (ds := l.map rowD) (μ' := [bagM a N]) ?c1 rfl hR ?c4 ?c5 (hm := ⟨_, .head _⟩)
    case c1 => exact eRw
    case c4 => rw [List.length_map]; exact Nat.le_trans hz.len (by decide)
    case c5 =>
      refine bPerm (μ' := [bagM a N, (b, .lst (l.map rowD ++ [rowD (rW "word" "REPLACING")]))]) (.swap _ _ _) (bNil ?_)
      exact ⟨N, l ++ [rW "word" "REPLACING"], b, hz.app (.one (by decide +kernel)), hB, hR, rfl, by rw [List.map_append]; rfl⟩
  rintro δ μ ⟨N, l, b, hz, hB, hR, hM, rfl⟩
  refine bFreeze (δ' := (sRows, plainD l) :: δ) (a := b) (ds := l.map rowD) (μ' := [bagM a N]) (fz1 hR) (.swap _ _ _) ?_
  refine bFor (μ₁ := [bagM a N]) (ds := rangeD m) (bind := bind1 (Str.ofString "turn")) ?d1 (lpJ (K := K3 a) ?d2 ?d3 _ _ _ ?d4) ?d5
  case d5 => intro _ _; rfl
  case d1 => exact iterR ⟨fun P => rfl, rfl, rfl, rfl, rfl, rfl⟩ (eName rfl hM) (Nat.lt_trans hm4 (by decide)) (fun d hd c C δ μ _ => agName rfl)
  case d4 =>
    have hr : (rangeD m).length = m := by unfold rangeD; rw [List.length_map, List.length_range]
    rw [hr]
    exact ⟨N, l, hz.le (by omega), by omega, hB, rfl, rfl⟩
  case d2 =>
    rintro k d δ μ ⟨N, l, hz, hk, hB, hR, rfl⟩
    have hy : Zs [rBy] 1 := .one (by decide +kernel)
    have z1 := hz.app (Zs.side N)
    have z2 := z1.app hy
    have z3 := z2.app (Zs.side (sideN N))
    refine bSet (μ' := [bagM a (sideN (sideN N))]) (d := plainD (l ++ sideL N ++ [rBy] ++ sideL (sideN N))) ?e1 (bNil ⟨_, _, z3.le (by omega), by omega, hB, rfl, rfl⟩) ?e3 ?e4
    case e3 => rfl
    case e4 => intro _; rfl
    refine ePlus (μ₁ := [bagM a (sideN N)]) ?f1 ?f2 ?f3
    case f3 => have := z2.len; have := (Zs.side (sideN N)).len; omega
    case f2 => exact eSide (eName rfl hB) rfl rfl rfl rfl
    refine ePlus (μ₁ := [bagM a (sideN N)]) ?g1 ?g2 ?g3
    case g3 => have := z1.len; have := hy.len; omega
    case g2 => refine' eRws ?_ ?_; refine' rsCons ?_; exact rsNil; decide
    refine ePlus (μ₁ := [bagM a N]) (eName rfl hR) ?g5 ?g6
    case g6 => have := hz.len; have := (Zs.side N).len; omega
    case g5 => exact eSide (eName rfl hB) rfl rfl rfl rfl
  rintro δ μ ⟨N, l, hz, -, hB, hR, rfl⟩
  have hd1 : Zs [rDot] 1 := .one (by decide +kernel)
  have hw : Zs [rW "word" "REST"] 1 := .one (by decide +kernel)
  have z1 := hz.app hd1
  have z2 := z1.app (hw.rep (N % 2))
  have hm2 : N % 2 < 2 := Nat.mod_lt _ (by decide)
  refine bSet (μ' := [bagM a (dv N 2)]) (d := plainD (l ++ [rDot] ++ (List.replicate (N % 2) [rW "word" "REST"]).flatten)) ?h1 ?h2 ?h3 ?h4
  case h3 => rfl
  case h4 => intro _; rfl
  case h1 =>
    refine ePlus (μ₁ := [bagM a N]) ?i1 ?i2 ?i3
    case i3 => have := z1.len; have := (hw.rep (N % 2)).len; omega
    case i1 =>
      refine ePlus (μ₁ := [bagM a N]) (eName rfl hR) ?i4 ?i5
      case i5 => have := hz.len; have := hd1.len; omega
      refine' eRws ?_ ?_; refine' rsCons ?_; exact rsNil; decide
    case i2 =>
      refine eRep (μ₁ := [bagM a N]) ?i6 ?i7 (Nat.lt_trans hm2 (by decide)) (by decide)
      case i6 => refine' eRws ?_ ?_; refine' rsCons ?_; exact rsNil; decide
      case i7 => exact eTake 2 (by decide) (by decide) (eName rfl hB) rfl rfl rfl rfl (.refl _) (.refl _)
  obtain ⟨l', hl', hz', hp⟩ : ∃ l', l' = l ++ [rDot] ++ (List.replicate (N % 2) [rW "word" "REST"]).flatten ∧ Zs l' 42 ∧ 0 < l'.length := ⟨_, rfl, z2.le (by omega), by rw [List.length_append, List.length_append]; exact Nat.lt_of_lt_of_le (Nat.lt_of_lt_of_le Nat.zero_lt_one (Nat.le_add_left _ _)) (Nat.le_add_right _ _)⟩
  rw [← hl']
  clear z1 z2 hw hd1 hl' hz hm2
  generalize dv N 2 = N
  refine bSet (μ' := [bagM a (dv N 6)]) (d := .int ((N % 6 : Nat) : Int)) ?j1 ?j2 ?j3 ?j4
  case j3 => rfl
  case j4 => intro _; rfl
  case j1 => exact eTake 6 (by decide) (by decide) (eName rfl hB) rfl rfl rfl rfl (.refl _) (.refl _)
  generalize N % 6 = w
  generalize dv N 6 = N
  have hlen := hz'.len
  refine bSet (μ' := [bagM a (dv N l'.length)]) (d := .int ((N % l'.length : Nat) : Int)) ?k1 ?k2 ?k3 ?k4
  case k3 => rfl
  case k4 => intro _; rfl
  case k1 =>
    refine eTakeE l'.length hp (by omega) (eName rfl hB) ?k5 rfl rfl rfl rfl
    exact eLen (eName rfl rfl) ⟨fun P => rfl, rfl, rfl, rfl, rfl, rfl⟩ (by omega)
  generalize N % l'.length = sp
  generalize dv N l'.length = N
  obtain ⟨r, hr, hrm⟩ : ∃ r, r = pickR more6 (N % 6) ∧ r ∈ allR := ⟨_, rfl, (by decide +kernel : ∀ r ∈ more6, r ∈ allR) _ (pickR_mem (Nat.mod_lt _ (by decide)))⟩
  refine bSet (μ' := [bagM a (dv N 6)]) (d := rowD r) ?m1 ?m2 ?m3 ?m4
  case m3 => rfl
  case m4 => intro _; rfl
  case m1 =>
    rw [hr]
    refine ePick (μ₁ := [bagM a N]) (l := more6) (m := N % 6) ?m5 ?m6 ?m7 ?m8 ?m9
    case m7 => exact Nat.mod_lt _ (by decide)
    case m8 => decide
    case m9 => intro _ _; rfl
    case m5 => refine' eRws ?_ ?_; iterate 6 refine' rsCons ?_
               exact rsNil
               decide
    case m6 => exact eTake 6 (by decide) (by decide) (eName rfl hB) rfl rfl rfl rfl (.refl _) (.refl _)
  clear hr
  generalize dv N 6 = N
  have hli : l'.length ≤ 1000000 := by omega
  refine' bIf (μ' := [bagM a N]) ?n1 ?n2 ?n3
  case n1 => exact tCmp (eName rfl rfl) eInt oEqI
  case n2 =>
    intro _
    refine bRet (μ' := [bagM a N]) (d := plainD (l'.take sp ++ l'.drop (sp + 1))) ?n4 ⟨N, _, rfl, ((hz'.take sp).app (hz'.drop (sp + 1))).le (by decide) |>.le (Nat.le_refl _)⟩
    refine ePlus (μ₁ := [bagM a N]) (ePre (μ₁ := [bagM a N]) (eName rfl rfl) (eName rfl rfl) hli) (eSuf (μ₁ := [bagM a N]) (eName rfl rfl) ?n5 hli) ?n6
    case n6 => have := (hz'.take sp).len; have := (hz'.drop (sp + 1)).len; omega
    case n5 => rw [Int.natCast_succ]; exact eBin (eName rfl rfl) eInt bAdd
  case n3 =>
    intro _
    refine' bIf (μ' := [bagM a N]) ?o1 ?o2 ?o3
    case o1 => exact tOr (tCmp (eName rfl rfl) eInt oEqI) (fun _ => tCmp (eName rfl rfl) eInt oEqI) (fun _ => rfl)
    case o2 =>
      intro hw
      have hw' : w = 1 ∨ w = 2 := by
        rw [Bool.or_eq_true] at hw
        rcases hw with h | h
        · exact .inl (by have := eq_of_beq h; omega)
        · exact .inr (by have := eq_of_beq h; omega)
      have hsw : ((sp : Nat) : Int) + ((w : Nat) : Int) - 1 = ((sp + w - 1 : Nat) : Int) := by omega
      have hr1 : Zs [r] 1 := .one hrm
      refine bRet (μ' := [bagM a N]) (d := plainD (l'.take sp ++ [r] ++ l'.drop (sp + w - 1))) ?o4 ⟨N, _, rfl, (((hz'.take sp).app hr1).app (hz'.drop (sp + w - 1))).le (by decide)⟩
      refine ePlus (μ₁ := [bagM a N]) (ePlus (μ₁ := [bagM a N]) (ePre (μ₁ := [bagM a N]) (eName rfl rfl) (eName rfl rfl) hli) (eOneR (eName rfl rfl)) ?o5) (eSuf (μ₁ := [bagM a N]) (eName rfl rfl) ?o7 hli) ?o8
      case o5 => have := (hz'.take sp).len; have := hr1.len; omega
      case o8 => have := ((hz'.take sp).app hr1).len; have := (hz'.drop (sp + w - 1)).len; omega
      case o7 => rw [← hsw]; exact eBin (eBin (eName rfl rfl) (eName rfl rfl) bAdd) eInt bSub
    case o3 =>
      intro _
      by_cases h3 : w = 3
      · refine bRet (μ' := [bagM a (dv N (l'.length + 1))]) (d := plainD (l'.take (N % (l'.length + 1)))) ?p4 ⟨_, _, rfl, (hz'.take _).le (by decide)⟩
        refine eIfT (μ₁ := [bagM a N]) (tCmp (eName rfl rfl) eInt oEqI) ?p5 ?p6
        case p5 => rw [h3]; rfl
        case p6 =>
          refine ePre (μ₁ := [bagM a N]) (eName rfl rfl) ?p7 hli
          refine eTakeE (l'.length + 1) (Nat.succ_pos _) (by omega) (eName rfl hB) ?p8 rfl rfl rfl rfl
          rw [Int.natCast_succ]
          exact eBin (eLen (eName rfl rfl) ⟨fun P => rfl, rfl, rfl, rfl, rfl, rfl⟩ hli) eInt bAdd
      · refine bRet (μ' := [bagM a N]) (d := plainD l') ?q4 ⟨_, _, rfl, hz'.le (by decide)⟩
        refine eIfF (μ₁ := [bagM a N]) (tCmp (eName rfl rfl) eInt oEqI) ?q5 (eName rfl rfl)
        exact beq_eq_false_iff_ne.mpr (by omega)
end
end Mine
end

noncomputable section
open PySem PySem.W PyProof.Rows PySem.Calls PySem.Spec
set_option Elab.async false
set_option linter.unusedVariables false
namespace Mine
set_option maxRecDepth 100000
set_option maxHeartbeats 1000000
section
variable {n : Nat} {fi : Fi} {L : Addr} {c : Fc fi L} {ev : Env} {δ : Loc} {τ : Tm} {μ μ₁ μ₂ ν : Mus} {ds : List Dt} {pos p1 p2 pa : Pos} {x y : Str} {e e₁ e₂ : Expr} {i j : Int} {ks k : Nat}
theorem strs_all {P : Params} {imm : Led} : ∀ l : List (Str × Tok), DtAll P imm (strValues l) ((l.map (·.1)).map Dt.str)
  | [] => .nil
  | p :: l => .cons (.str p.1 p.2) (strs_all l)
/-- x.split(y) -/
theorem eSplit (he : ED n fi L ev δ μ e μ₁ (.str x)) (hy : (y.length == 0) = false) (hl : x.length + 2 ≤ 1000000) (hb : ∀ env, attributeBase e (Str.ofString "split") env (eval e env) = eval e env := by intro _; rfl)
    (h1 : ∀ env, methodCallForm (([.Constant (.str y) ks p2] : List Expr).length + ([] : List Keyword).length) (backTo pos (starEach ([.Constant (.str y) ks p2] : List Expr) env)) (backToKw pos (keywordEach [] env)) = true := by intro _; rfl) (h2 : (pa.endLine == pos.line) = true := by rfl)
    (hp : ∀ p env, (backTo p (starEach ([] : List Expr) env)).any (·.1) = false := by intro _ _; rfl) (he' : ∀ env, starEach [.Constant (.str y) ks p2] env = (false, eval (.Constant (.str y) ks p2) env) :: starEach [] env := by intro _; rfl) : ED n fi L ev δ μ (.Call (.Attribute e (Str.ofString "split") pa) [.Constant (.str y) ks p2] [] pos) μ₁ (.list ((Txt.split x y).map .str)) := by
  refine edN ?_
  intro c τ ν Q E h tk R S K
  obtain ⟨pl, hc'⟩ := mc_name (fe := e) (name := Str.ofString "split") (p1 := pa) (h1 ev) h2 (hb ev)
  refine MethodCall_ (he c τ ν _ _ h tk R S fun v h' tk' S' => ?_) hc'
  obtain ⟨t, rfl⟩ := S'.isStr (.inl ⟨rfl, rfl⟩)
  refine GM.split (s := c.st h' tk') ?_
  refine callWith_method1 (args_cons (eStr (x := y) c _ ν _ _ h' tk' R S'.drop fun v h'' tk'' S'' => args_nil ?_) (he' _)) (he' _) (hp _ _)
  obtain ⟨u, rfl⟩ := S''.isStr (.inl ⟨rfl, rfl⟩)
  obtain ⟨m, imm, mu, F, N, s, lo, tm, uu⟩ := S''
  refine splitN1 (s := c.st h'' tk'') F N hy (fun l h₃ k₃ el F₃ N₃ => ?_) (fits hl)
  have q := St.made (τ := τ.add (.str y u) (.str y)) (k := 0) s lo tm uu F₃ N₃ (fun p hp => Heap.lt_size (N p hp).1) (strs_all l)
  rw [el] at q
  exact K _ _ _ (q.weaken (fun _ _ e => e) fun v d e => e.elim .inl fun e => .inr (.inr e))
/-- x[i] of a text -/
theorem eSItem {c : Nat} (h₁ : ED n fi L ev δ μ e₁ μ₁ (.str x)) (h₂ : ED n fi L ev δ μ₁ e₂ μ₂ (.int i)) (hr : (decide (i < -(2 ^ 63 : Int)) || decide (i ≥ 2 ^ 63)) = false) (hc : (seqIndex? i x.length).bind (x.cps[·]?) = some c)
    (hs : ∀ t u, subscripted e₂ false (.str x t) (.int i u) = operate [.str x t, .int i u] (getItem (.str x t) (.int i u)) := by intro _ _; with_unfolding_all rfl) : ED n fi L ev δ μ (.Subscript e₁ e₂ pos) μ₂ (.str ⟨#[c]⟩) := by
  intro c τ ν Q E h tk R S K
  refine Subscript_ (h₁ c τ ν _ _ h tk R S fun a h' tk' S₁ => h₂ c _ ν _ _ h' tk' R S₁ fun b' h'' tk'' S₂ => ?_)
  obtain ⟨t, rfl⟩ := S₂.isInt (.inl ⟨rfl, rfl⟩)
  obtain ⟨u, rfl⟩ := S₂.isStr (v := a) (x := x) (.inr (.inl ⟨rfl, rfl⟩))
  refine tail_any (typeIs_str _ _ _) F.slot_str_getitem.lookup (P.getItem_str (s := c.st h'' tk'') hr hc (K _ _ _ ?_)) (hs _ _)
  exact (S₂.hold (v := .str ⟨#[_]⟩ _) (d := .str ⟨#[_]⟩) fun _ _ _ _ _ _ _ _ => .str _ _).weaken (fun _ _ e => e) fun v d e => e.elim .inl fun e => .inr (.inr (.inr e))
/-- x[i:j] of a text -/
theorem eSCut {p3 : Pos} {lo hi : Expr} (h₁ : ED n fi L ev δ μ e₁ μ₁ (.str x)) (h₂ : ED n fi L ev δ μ₁ lo μ₁ (.int i)) (h₃ : ED n fi L ev δ μ₁ hi μ₁ (.int j)) (hl : x.length ≤ 1000000)
    (hs : ∀ t r, subscripted (.Slice (some lo) (some hi) none p3) false (.str x t) (.ref r) = operate [.ref r, .str x t] (getItem (.str x t) (.ref r)) := by intro _ _; with_unfolding_all rfl) (ht : ∀ t r, letTemporaryGo e₁ (.str x t) r = pure () := by intro _ _; with_unfolding_all rfl) : ED n fi L ev δ μ (.Subscript e₁ (.Slice (some lo) (some hi) none p3) pos) μ₁ (.str (Txt.slice x (some i) (some j))) := by
  intro c τ ν Q E h tk R S K
  refine Subscript_ (h₁ c τ ν _ _ h tk R S fun a h' tk' S₁ => ?_)
  obtain ⟨t, rfl⟩ := S₁.isStr (v := a) (x := x) (.inl ⟨rfl, rfl⟩)
  refine wpAny_Slice ?_
  rw [evalPart_some]
  refine h₂ c _ ν _ _ h' tk' R S₁ fun b h'' tk'' S₂ => ?_
  rw [evalPart_some]
  refine h₃ c _ ν _ _ h'' tk'' R S₂ fun b' h₃ tk₃ S₃ => ?_
  rw [evalPart_none]
  refine wpAny_pure ?_
  obtain ⟨ui, rfl⟩ := S₃.isInt (v := b) (i := i) (.inr (.inl ⟨rfl, rfl⟩))
  obtain ⟨uj, rfl⟩ := S₃.isInt (v := b') (i := j) (.inl ⟨rfl, rfl⟩)
  obtain ⟨m, imm, mu, F, N, s, l, tm, u⟩ := S₃
  refine slice_strN_ss (s := c.st h₃ tk₃) F N (fun h₄ t' k F₄ N₄ => K _ _ _ ?_) (hs _ _) (fun r => ht t r) (fits hl)
  exact ⟨m, imm, mu, F₄, N₄, s, l, fun v d e => e.elim (fun ⟨e1, e2⟩ => e1 ▸ e2 ▸ .str _ _) (fun e => tm v d (.inr (.inr (.inr e)))), u⟩
end
end Mine
end

noncomputable section
open PySem PySem.W PyProof.Rows PySem.Calls PySem.Spec
set_option Elab.async false
set_option linter.unusedVariables false
namespace Mine
set_option maxRecDepth 100000
set_option maxHeartbeats 400000

abbrev sQ (s : String) : Str := Str.ofString s
def headC (w : Str) : Str := ⟨#[w.cps.getD 0 0]⟩
def cutW (w : Str) : List Row := if w = sQ "==" then [(sQ "pseudo", w)] else if w = sQ "." ∨ w = sQ "(" then [(sQ "sign", w)] else if w = sQ "5" then [(sQ "number", w)] else if w = sQ "" then [] else if headC w = sQ "'" then [(sQ "literal", Txt.slice w (some 1) (some (-1)))] else [(sQ "word", w)]
def cutR (x : Str) : List Row := (Txt.split x (sQ " ")).flatMap cutW
structure Tx (x : Str) : Prop where
  len : x.length ≤ 1000
  few : (Txt.split x (sQ " ")).length ≤ 1000
  ok : ∀ w ∈ Txt.split x (sQ " "), Ok (.str w) ∧ Ok (.str (headC w)) ∧ w.length ≤ 1000
theorem sEq {n : Nat} {w y : Str} (o₁ : Ok (.str w)) (o₂ : Ok (.str y)) : Op2 n .Eq (.str w) (.str y) (.bool (decide (w = y))) := oEq o₁ o₂ (by
  rw [decide_eq_true_iff]; unfold toDat
  exact ⟨fun q => by rw [q], fun q => by injection q⟩)
theorem sNe {n : Nat} {w y : Str} (o₁ : Ok (.str w)) (o₂ : Ok (.str y)) : Op2 n .NotEq (.str w) (.str y) (.bool (decide (w ≠ y))) := oNe o₁ o₂ (by
  rw [decide_eq_true_iff]; unfold toDat
  exact not_congr ⟨fun q => by rw [q], fun q => by injection q⟩)
theorem sIn2 {n : Nat} {w y z : Str} (o₁ : Ok (.str w)) (o₂ : Ok (.str y)) (o₃ : Ok (.str z)) : Op2 n .In (.str w) (.tuple [.str y, .str z]) (.bool (decide (w = y ∨ w = z))) := oIn o₁ (fun d hd => by
    rcases List.mem_cons.mp hd with rfl | hd
    · exact o₂
    · rw [List.mem_singleton.mp hd]; exact o₃) (by
  rw [decide_eq_true_iff]
  constructor
  · rintro (rfl | rfl)
    · exact ⟨_, .head _, rfl⟩
    · exact ⟨_, .tail _ (.head _), rfl⟩
  · rintro ⟨d, hd, e⟩
    rcases List.mem_cons.mp hd with rfl | hd
    · unfold toDat at e; injection e with e; exact .inl e.symm
    · rw [List.mem_singleton.mp hd] at e; unfold toDat at e; injection e with e; exact .inr e.symm)
theorem head_at {w : Str} (h : w ≠ sQ "") (hl : w.length ≤ 1000) : (seqIndex? (0 : Int) w.length).bind (w.cps[·]?) = some (w.cps.getD 0 0) := by
  have hp : 0 < w.length := by
    rcases Nat.eq_zero_or_pos w.length with q | q
    · refine absurd ?_ h
      have e : w.cps = #[] := Array.eq_empty_of_size_eq_zero q
      have : w = ⟨#[]⟩ := by cases w; simp at e; rw [e]
      rw [this]; decide +kernel
    · exact q
  have e : seqIndex? (0 : Int) w.length = some 0 := by
    unfold seqIndex?
    simp
    omega
  rw [e]
  show w.cps[0]? = _
  have hp' : 0 < w.cps.size := hp
  rw [Array.getElem?_eq_getElem hp', Array.getD, dif_pos hp']
  rfl
theorem cut_c {x : Str} (t : Tx x) : Fu 1 (.ref 262) [] [.str x] (· = .ret [] (plainD (cutR x))) := by
  refine fd_of (k := 0) [Str.ofString "text"] (ho := fun P => rfl) (hcd := fun P => rfl) (hbind := fun vals hv s => by obtain ⟨a, rfl⟩ := len1 hv; exact BindsTo.of_eq rfl) (hloc := all1 rfl) (hδ := rfl) (hk := rfl) (hb := fun L => ?_) (hcell := by decide) rfl rfl rfl
  have hlen := t.len
  refine bSetN (μ' := []) (ds := []) ?s1 ?s2 ?s3 ?s4
  case s1 => exact nLst esNil (Nat.zero_le _)
  case s2 => rfl
  case s4 => intro _; rfl
  intro b
  refine bFor (μ₁ := [(b, .lst [])]) (ds := (Txt.split x (sQ " ")).map .str) (bind := bind1 (sQ "word")) ?f1 ?f2 ?f3
  case f3 => intro _ _; rfl
  case f1 =>
    refine iterL ?f4 (fun d hd c C δ μ _ => agName rfl)
    exact eSplit (eName rfl rfl) rfl (by omega)
  refine (?loop : ∀ (ws : List Str) (acc : List Row) (δ : Loc), (∀ w ∈ ws, Ok (.str w) ∧ Ok (.str (headC w)) ∧ w.length ≤ 1000) → acc.length + ws.length ≤ 1000 → δ.lookup (sQ "rows") = some (.obj b) → Lp _ _ _ L _ _ (Lf (.ret [] (plainD (acc ++ ws.flatMap cutW)))) (ws.map .str) δ [(b, .lst (acc.map rowD))]) (Txt.split x (sQ " ")) [] _ t.ok (by have := t.few; simpa using this) rfl
  intro ws
  induction ws with
  | nil =>
    intro acc δ _ hl hR
    refine bFreeze (δ' := (sQ "rows", plainD acc) :: δ) (a := b) (ds := acc.map rowD) (μ' := []) (fz1 hR) (.refl _) ?_
    refine bRet (μ' := []) (d := plainD acc) (eName rfl rfl) ?_
    show Lf (.ret [] (plainD (acc ++ []))) _
    rw [List.append_nil]
    exact lf_ret
  | cons w ws ih =>
    intro acc δ hw hl hR
    obtain ⟨o1, o2, hwl⟩ := hw w (.head _)
    rw [List.length_cons] at hl
    have nx : ∀ l : List Row, cutW w = l → l.length ≤ 1 → Again (Lp (bind1 (sQ "word")) 0 _ L _ _ (Lf (.ret [] (plainD (acc ++ (w :: ws).flatMap cutW)))) (ws.map .str)) (Lf (.ret [] (plainD (acc ++ (w :: ws).flatMap cutW)))) (.next (bind1 (sQ "word") (.str w) δ) [(b, .lst ((acc ++ l).map rowD))]) := fun l el ll => by
      rw [List.flatMap_cons, el, ← List.append_assoc]
      exact ih (acc ++ l) _ (fun w q => hw w (.tail _ q)) (by rw [List.length_append]; omega) hR
    have ap : ∀ r : Row, cutW w = [r] → Again (Lp (bind1 (sQ "word")) 0 _ L _ _ (Lf (.ret [] (plainD (acc ++ (w :: ws).flatMap cutW)))) (ws.map .str)) (Lf (.ret [] (plainD (acc ++ (w :: ws).flatMap cutW)))) (.next (bind1 (sQ "word") (.str w) δ) [(b, .lst (acc.map rowD ++ [rowD r]))]) := fun r el => by
      have := nx [r] el (Nat.le_refl _)
      rw [List.map_append] at this
      exact this
    have hal : (acc.map rowD).length ≤ 1000000 := by rw [List.length_map]; omega
    by_cases h1 : w = sQ "=="
    · refine bIfT (μ' := [(b, .lst (acc.map rowD))]) (tCmp (eName rfl rfl) eStr (sEq o1 (by decide +kernel))) (decide_eq_true h1) ?_
      refine bApp (d := rowD (sQ "pseudo", w)) (a := b) (ds := acc.map rowD) (μ' := []) ?g1 rfl hR hal (bNil (ap _ ?g2)) (hm := ⟨_, .head _⟩)
      case g1 => exact eTup (esCons eStr (esCons (eName rfl rfl) esNil))
      case g2 => unfold cutW; rw [if_pos h1]
    refine bIfF (μ' := [(b, .lst (acc.map rowD))]) (tCmp (eName rfl rfl) eStr (sEq o1 (by decide +kernel))) (decide_eq_false h1) ?_
    by_cases h2 : w = sQ "." ∨ w = sQ "("
    · refine bIfT (μ' := [(b, .lst (acc.map rowD))]) (tCmp (eName rfl rfl) (eTup (esCons eStr (esCons eStr esNil))) (sIn2 o1 (by decide +kernel) (by decide +kernel))) (decide_eq_true h2) ?_
      refine bApp (d := rowD (sQ "sign", w)) (a := b) (ds := acc.map rowD) (μ' := []) ?g3 rfl hR hal (bNil (ap _ ?g4)) (hm := ⟨_, .head _⟩)
      case g3 => exact eTup (esCons eStr (esCons (eName rfl rfl) esNil))
      case g4 => unfold cutW; rw [if_neg h1, if_pos h2]
    refine bIfF (μ' := [(b, .lst (acc.map rowD))]) (tCmp (eName rfl rfl) (eTup (esCons eStr (esCons eStr esNil))) (sIn2 o1 (by decide +kernel) (by decide +kernel))) (decide_eq_false h2) ?_
    by_cases h3 : w = sQ "5"
    · refine bIfT (μ' := [(b, .lst (acc.map rowD))]) (tCmp (eName rfl rfl) eStr (sEq o1 (by decide +kernel))) (decide_eq_true h3) ?_
      refine bApp (d := rowD (sQ "number", w)) (a := b) (ds := acc.map rowD) (μ' := []) ?g5 rfl hR hal (bNil (ap _ ?g6)) (hm := ⟨_, .head _⟩)
      case g5 => exact eTup (esCons eStr (esCons (eName rfl rfl) esNil))
      case g6 => unfold cutW; rw [if_neg h1, if_neg h2, if_pos h3]
    refine bIfF (μ' := [(b, .lst (acc.map rowD))]) (tCmp (eName rfl rfl) eStr (sEq o1 (by decide +kernel))) (decide_eq_false h3) ?_
    by_cases h4 : w = sQ ""
    · refine bIfF (μ' := [(b, .lst (acc.map rowD))]) (tCmp (eName rfl rfl) eStr (sNe o1 (by decide +kernel))) (decide_eq_false (fun q => q h4)) (bNil ?g7)
      have := nx [] (by unfold cutW; rw [if_neg h1, if_neg h2, if_neg h3, if_pos h4]) (Nat.zero_le _)
      rw [List.append_nil] at this
      exact this
    refine bIfT (μ' := [(b, .lst (acc.map rowD))]) (tCmp (eName rfl rfl) eStr (sNe o1 (by decide +kernel))) (decide_eq_true h4) ?_
    by_cases h5 : headC w = sQ "'"
    · refine bApp (d := rowD (sQ "literal", Txt.slice w (some 1) (some (-1)))) (a := b) (ds := acc.map rowD) (μ' := []) ?g8 rfl hR hal (bNil (ap _ ?g9)) (hm := ⟨_, .head _⟩)
      case g8 =>
        refine eIfT (μ₁ := [(b, .lst (acc.map rowD))]) (tCmp (d₁ := .str (headC w)) (eSItem (i := 0) (eName rfl rfl) eInt (by decide) (head_at h4 hwl)) eStr (sEq o2 (by decide +kernel))) (decide_eq_true h5) ?g12
        refine eTup (ds := [.str (sQ "literal"), .str (Txt.slice w (some 1) (some (-1)))]) (esCons eStr (esCons ?g13 esNil)) rfl
        exact eSCut (eName rfl rfl) eInt (eNeg eInt) (by omega)
      case g9 => unfold cutW; rw [if_neg h1, if_neg h2, if_neg h3, if_neg h4, if_pos h5]
    · refine bApp (d := rowD (sQ "word", w)) (a := b) (ds := acc.map rowD) (μ' := []) ?g10 rfl hR hal (bNil (ap _ ?g11)) (hm := ⟨_, .head _⟩)
      case g10 =>
        refine eIfF (μ₁ := [(b, .lst (acc.map rowD))]) (tCmp (d₁ := .str (headC w)) (eSItem (i := 0) (eName rfl rfl) eInt (by decide) (head_at h4 hwl)) eStr (sEq o2 (by decide +kernel))) (decide_eq_false h5) ?g14
        exact eTup (esCons eStr (esCons (eName rfl rfl) esNil))
      case g11 => unfold cutW; rw [if_neg h1, if_neg h2, if_neg h3, if_neg h4, if_neg h5]
end Mine
end

noncomputable section
open PySem PySem.W PyProof.Rows PySem.Calls PySem.Spec
set_option Elab.async false
set_option linter.unusedVariables false
namespace Mine
set_option maxRecDepth 100000
set_option maxHeartbeats 400000

section
variable {rows : List Row} {i : Nat}
theorem ps_mem : ∀ {rs : List Row} {k N : Nat} {p : Side}, psR rs k N = .ok p → ∀ r ∈ p.1, r ∈ rs
  | [], _, _, _, h => nomatch h
  | r :: rs, k, N, p, h => by
    unfold psR at h
    split at h
    · cases h; exact fun r hr => nomatch hr
    · split at h
      · cases h
      · split at h
        · rename_i q hq
          cases h
          intro x hx
          rcases List.mem_cons.mp hx with rfl | hx
          · exact .head _
          · exact .tail _ (ps_mem hq x hx)
        · cases h
theorem side_mem {a : Nat} {s : List Row} {e : Nat} (h : sideR rows i = .ok (a, s, e)) : ∀ r ∈ s, r ∈ rows := by
  unfold sideR at h
  split at h
  · cases h
  · rename_i r hr
    split at h
    · split at h
      · rename_i p hp
        cases h
        exact fun r hr => List.mem_of_mem_drop (ps_mem hp r hr)
      · cases h
    · split at h
      · cases h
        exact fun x hx => by rw [List.mem_singleton.mp hx]; exact List.mem_of_getElem? hr
      · cases h
theorem pair_mem {p : Pair} {e : Nat} (h : pairR rows i = .ok (p, e)) : (∀ r ∈ p.1.2, r ∈ rows) ∧ ∀ r ∈ p.2.2, r ∈ rows := by
  unfold pairR at h
  split at h
  · cases h
  · rename_i a s e1 h1
    split at h
    · cases h
    · split at h
      · split at h
        · cases h
        · rename_i a' s' e' h2
          cases h
          exact ⟨side_mem h1, side_mem h2⟩
      · cases h
theorem pairs_mem : ∀ {n i : Nat} {ps : List Pair} {e : Nat}, pairsR rows n i = .ok (ps, e) → ∀ p ∈ ps, (∀ r ∈ p.1.2, r ∈ rows) ∧ ∀ r ∈ p.2.2, r ∈ rows
  | 0, i, ps, e, h => by
    unfold pairsR at h; cases h
  | n + 1, i, ps, e, h => by
    unfold pairsR at h
    split at h
    · cases h
    · rename_i p e1 hp
      have := pair_mem hp
      split at h
      · cases h
        exact fun p hp => by rw [List.mem_singleton.mp hp]; exact this
      · split at h
        · cases h
        · rename_i ps' e' hq
          cases h
          have q := pairs_mem hq
          exact fun p hp => by
            rcases List.mem_cons.mp hp with rfl | hp
            · exact this
            · exact q p hp
theorem copy_mem {x : Str} {ps : List Pair} {e : Nat} (h : copyR rows = .ok (x, ps, e)) : (∃ r ∈ rows, x = Txt.upper r.2) ∧ ∀ p ∈ ps, (∀ r ∈ p.1.2, r ∈ rows) ∧ ∀ r ∈ p.2.2, r ∈ rows := by
  unfold copyR at h
  split at h
  · cases h
  · rename_i r hr
    have hm := List.mem_of_getElem? hr
    split at h
    · split at h
      · cases h
      · dsimp only at h
        generalize (if rows[1]? = some rOf ∨ rows[1]? = some rIn then 3 else 1) = i at h
        split at h
        · split at h
          · cases h
          · rename_i q hq
            cases h
            exact ⟨⟨r, hm, rfl⟩, pairs_mem hq⟩
        · split at h
          · cases h
            exact ⟨⟨r, hm, rfl⟩, fun p hp => nomatch hp⟩
          · cases h
    · cases h
theorem all_map {n : Nat} {f : α → Dt} {l : List α} (h : ∀ a ∈ l, kqdOk n (toDat (f a)) = true) : (toDats (l.map f)).all (kqdOk n) = true := by
  rw [toDats_eq, List.all_eq_true]
  intro d hd
  obtain ⟨d', hd', rfl⟩ := List.mem_map.mp hd
  obtain ⟨r, hr, rfl⟩ := List.mem_map.mp hd'
  exact h r hr
theorem heard_ok (g : Gd rows) : Ok (heardD rows) := by
  unfold heardD
  cases h : copyR rows with
  | error j => rfl
  | ok p =>
    obtain ⟨x, ps, e⟩ := p
    obtain ⟨⟨r, hr, rfl⟩, hp⟩ := copy_mem h
    have hrow : ∀ l : List Row, (∀ r ∈ l, r ∈ rows) → kqdOk 5 (toDat (plainD l)) = true := fun l hl => by
      show kqdOk 5 (toDat (.list (l.map rowD))) = true
      rw [toDat, kqdOk]
      exact all_map fun r hr => by
        have := g.ok r (hl r hr)
        simpa [rowD, toDat, toDats, kqdOk] using this.1
    have hps : kqdOk 7 (toDat (.list (ps.map told2))) = true := by
      rw [toDat, kqdOk]
      exact all_map fun p hm => by
        have q := hp p hm
        show kqdOk 6 (toDat (.tuple [plainD p.1.2, plainD p.2.2])) = true
        rw [toDat, kqdOk, toDats, toDats, toDats]
        simp only [List.all_cons, List.all_nil, Bool.and_true, Bool.and_eq_true]
        exact ⟨hrow _ q.1, hrow _ q.2⟩
    have hu := g.up r hr
    show kqdOk 8 (toDat (.tuple [.str (Txt.upper r.2), .list (ps.map told2), .int (e : Nat)])) = true
    rw [toDat, kqdOk, toDats, toDats, toDats, toDats]
    simp only [List.all_cons, List.all_nil, Bool.and_true, Bool.and_eq_true]
    exact ⟨hu, hps, rfl⟩
end
def gdR (r : Row) : Bool := kqdOk 8 (.str r.1) && kqdOk 8 (.str r.2) && decide (r.2.length ≤ 5592405) && kqdOk 8 (.str (Txt.upper r.2))
theorem Gd.of {rows : List Row} (hl : rows.length < 1000000) (h : ∀ r ∈ rows, gdR r = true) : Gd rows := ⟨hl, fun r hr => by
  have := h r hr
  unfold gdR at this
  simp only [Bool.and_eq_true, decide_eq_true_eq] at this
  exact this.1, fun r hr => by
  have := h r hr
  unfold gdR at this
  simp only [Bool.and_eq_true, decide_eq_true_eq] at this
  exact this.2⟩
theorem all_gd : ∀ r ∈ allR, gdR r = true := by decide +kernel
theorem Zs.gd {l : List Row} (z : Zs l 100) : Gd l := .of (Nat.lt_of_le_of_lt z.len (by decide)) fun r hr => all_gd r (z.sub r hr)
end Mine
end

noncomputable section
open PySem PySem.W PyProof.Rows PySem.Calls PySem.Spec
set_option Elab.async false
set_option linter.unusedVariables false
namespace Mine
set_option maxRecDepth 100000
set_option maxHeartbeats 8000000

abbrev wA : Row := rW "word" "A"
abbrev tK (x : String) (ps : List Dt) (k : Int) : Dt := .tuple [.str (sQ x), .list ps, .int k]
abbrev wrP (p : Str × Dt) : Dt := .tuple [.str p.1, p.2]
def wr0 : Str × Dt := (sQ "lib .", tK "LIB" [] 2)
def wr1 : Str × Dt := (sQ "lib", .int 0)
def wr2 : Str × Dt := (sQ "5 .", .int 0)
def wr3 : Str × Dt := (sQ "lib OF x .", tK "LIB" [] 4)
def wr4 : Str × Dt := (sQ "lib IN", .int 1)
def wr5 : Str × Dt := (sQ "lib A .", .int 1)
def wr6 : Str × Dt := (sQ "'a' REPLACING A BY 5 .", tK "A" [.tuple [plainD [wA], plainD [rW "number" "5"]]] 6)
def wr7 : Str × Dt := (sQ "lib REPLACING == == BY A .", .int 2)
def wr8 : Str × Dt := (sQ "lib REPLACING A A .", .int 3)
def wr9 : Str × Dt := (sQ "lib REPLACING == A . == BY == == A BY A . A", tK "LIB" [.tuple [plainD [wA, rDot], plainD []], .tuple [plainD [wA], plainD [wA]]] 13)
def wr10 : Str × Dt := (sQ "lib REPLACING == A COPY == BY A .", .int 4)
def wr11 : Str × Dt := (sQ "lib REPLACING .", .int 2)
def wr12 : Str × Dt := (sQ "lib REPLACING A BY A", .int 4)
def wr13 : Str × Dt := (sQ "lib REPLACING == A BY", .int 4)
def wr14 : Str × Dt := (sQ "", .int (-1))
def writ : List (Str × Dt) := [wr0, wr1, wr2, wr3, wr4, wr5, wr6, wr7, wr8, wr9, wr10, wr11, wr12, wr13, wr14]
def txB (x : Str) : Bool := decide (x.length ≤ 1000) && decide ((Txt.split x (sQ " ")).length ≤ 1000) && (Txt.split x (sQ " ")).all (fun w => kqdOk 8 (.str w) && kqdOk 8 (.str (headC w)) && decide (w.length ≤ 1000)) && decide ((cutR x).length < 1000000) && (cutR x).all gdR
theorem Tx.of {x : Str} (h : txB x = true) : Tx x ∧ Gd (cutR x) := by
  unfold txB at h
  simp only [Bool.and_eq_true, decide_eq_true_eq, List.all_eq_true] at h
  obtain ⟨⟨⟨⟨h1, h2⟩, h3⟩, h4⟩, h5⟩ := h
  exact ⟨⟨h1, h2, fun w hw => ⟨(h3 w hw).1.1, (h3 w hw).1.2, (h3 w hw).2⟩⟩, .of h4 h5⟩
structure Wr (p : Str × Dt) : Prop where
  t : txB p.1 = true
  h : heardD (cutR p.1) = p.2
theorem wk0 : Wr wr0 := ⟨by decide +kernel, by kernel_rfl⟩
theorem wk1 : Wr wr1 := ⟨by decide +kernel, by kernel_rfl⟩
theorem wk2 : Wr wr2 := ⟨by decide +kernel, by kernel_rfl⟩
theorem wk3 : Wr wr3 := ⟨by decide +kernel, by kernel_rfl⟩
theorem wk4 : Wr wr4 := ⟨by decide +kernel, by kernel_rfl⟩
theorem wk5 : Wr wr5 := ⟨by decide +kernel, by kernel_rfl⟩
theorem wk6 : Wr wr6 := ⟨by decide +kernel, by kernel_rfl⟩
theorem wk7 : Wr wr7 := ⟨by decide +kernel, by kernel_rfl⟩
theorem wk8 : Wr wr8 := ⟨by decide +kernel, by kernel_rfl⟩
theorem wk9 : Wr wr9 := ⟨by decide +kernel, by kernel_rfl⟩
theorem wk10 : Wr wr10 := ⟨by decide +kernel, by kernel_rfl⟩
theorem wk11 : Wr wr11 := ⟨by decide +kernel, by kernel_rfl⟩
theorem wk12 : Wr wr12 := ⟨by decide +kernel, by kernel_rfl⟩
theorem wk13 : Wr wr13 := ⟨by decide +kernel, by kernel_rfl⟩
theorem wk14 : Wr wr14 := ⟨by decide +kernel, by kernel_rfl⟩
theorem writ_ok : ∀ p ∈ writ, Wr p := by
  unfold writ
  simp only [List.forall_mem_cons]
  exact ⟨wk0, wk1, wk2, wk3, wk4, wk5, wk6, wk7, wk8, wk9, wk10, wk11, wk12, wk13, wk14, fun _ h => nomatch h⟩
section
variable {n : Nat} {fi : Fi} {L : Addr} {ev : Env} {δ : Loc} {μ : Mus} {pos p1 p2 : Pos} {e : Expr} {es : List Expr} {d : Dt} {x : Str} {i1 kk : Nat} {l : List (Str × Dt)}
theorem wrNil : EDs n fi L ev δ μ [] μ (([] : List (Str × Dt)).map wrP) := esNil
theorem wrCons (h : ED n fi L ev δ μ e μ d) (t : EDs n fi L ev δ μ es μ (l.map wrP)) (h1 : ∀ env, starEach [.Constant (.str x) i1 p1, e] env = (false, eval (.Constant (.str x) i1 p1) env) :: starEach [e] env := by intro _; rfl) (h2 : ∀ env, starEach [e] env = (false, eval e env) :: starEach [] env := by intro _; rfl) : EDs n fi L ev δ μ (.Tuple [.Constant (.str x) i1 p1, e] kk p2 :: es) μ (((x, d) :: l).map wrP) := esCons (eTup (esCons eStr (esCons h esNil h2) h1)) t
end
theorem written_c : Fu 1 (.ref 255) [] [] (· = .ret [] (.list (writ.map wrP))) := by
  refine fd_of (k := 0) [] (ho := fun P => rfl) (hcd := fun P => rfl) (hbind := fun vals hv s => by obtain rfl := List.eq_nil_of_length_eq_zero hv; exact BindsTo.of_eq rfl) (hloc := fun y hy => nomatch hy) (hδ := rfl) (hk := rfl) (hb := fun L => ?_) (hcell := by decide) rfl rfl rfl
  refine bSet (μ' := []) (d := rowD wA) ?a0 ?b0 ?c0 ?d0
  case a0 => exact eRw
  case c0 => rfl
  case d0 => intro _; rfl
  refine bRet (μ' := []) (d := .list (writ.map wrP)) ?e ?o
  case o => exact lf_ret
  refine eLst ?l1 ?l2
  case l2 => rfl
  unfold writ
  have hE : ∀ {n : Nat} {fi : Fi} {L : Addr} {ev : Env} {δ : Loc} {μ : Mus} {pos p1 p2 p3 : Pos} {k1 k2 k3 : Nat} {x : Str} {k : Int}, ED n fi L ev δ μ (.Tuple [.Constant (.str x) k1 p1, .List [] p2, .Constant (.int k) k2 p3] k3 pos) μ (.tuple [.str x, .list [], .int k]) := eTup (esCons eStr (esCons (eLst esNil) (esCons eInt esNil)))
  refine' wrCons (d := wr0.2) ?x0 ?_
  case x0 => exact hE
  refine' wrCons (d := wr1.2) ?x1 ?_
  case x1 => exact eInt
  refine' wrCons (d := wr2.2) ?x2 ?_
  case x2 => exact eInt
  refine' wrCons (d := wr3.2) ?x3 ?_
  case x3 => exact hE
  refine' wrCons (d := wr4.2) ?x4 ?_
  case x4 => exact eInt
  refine' wrCons (d := wr5.2) ?x5 ?_
  case x5 => exact eInt
  refine' wrCons (d := wr6.2) ?x6 ?_
  case x6 =>
    refine eTup (ds := [.str (sQ "A"), .list [.tuple [plainD [wA], plainD [rW "number" "5"]]], .int 6]) (esCons eStr (esCons (eLst (ds := [.tuple [plainD [wA], plainD [rW "number" "5"]]]) (esCons (μ₁ := []) ?y6 esNil)) (esCons eInt esNil)))
    refine eTup (ds := [plainD [wA], plainD [rW "number" "5"]]) (esCons (eOneR (eName rfl rfl)) (esCons (μ₁ := []) ?z6 esNil))
    refine' eRws ?_ ?_; refine' rsCons ?_; exact rsNil; decide
  refine' wrCons (d := wr7.2) ?x7 ?_
  case x7 => exact eInt
  refine' wrCons (d := wr8.2) ?x8 ?_
  case x8 => exact eInt
  refine' wrCons (d := wr9.2) ?x9 ?_
  case x9 =>
    refine eTup (ds := [.str (sQ "LIB"), .list [.tuple [plainD [wA, rDot], plainD []], .tuple [plainD [wA], plainD [wA]]], .int 13]) (esCons eStr (esCons (eLst (ds := [.tuple [plainD [wA, rDot], plainD []], .tuple [plainD [wA], plainD [wA]]]) (esCons (μ₁ := []) ?y9 (esCons (μ₁ := []) ?w9 esNil))) (esCons eInt esNil)))
    case y9 =>
      refine eTup (ds := [plainD [wA, rDot], plainD []]) (esCons (μ₁ := []) ?z9 (esCons (eLst esNil) esNil))
      exact eLst (ds := [rowD wA, rowD rDot]) (esCons (eName rfl rfl) (esCons eRw esNil))
    case w9 => exact eTup (ds := [plainD [wA], plainD [wA]]) (esCons (eOneR (eName rfl rfl)) (esCons (eOneR (eName rfl rfl)) esNil))
  refine' wrCons (d := wr10.2) ?x10 ?_
  case x10 => exact eInt
  refine' wrCons (d := wr11.2) ?x11 ?_
  case x11 => exact eInt
  refine' wrCons (d := wr12.2) ?x12 ?_
  case x12 => exact eInt
  refine' wrCons (d := wr13.2) ?x13 ?_
  case x13 => exact eInt
  refine' wrCons (d := wr14.2) ?x14 ?_
  case x14 => exact eNeg eInt
  exact wrNil
end Mine
end

noncomputable section
open PySem PySem.W PyProof.Rows PySem.Calls PySem.Spec
set_option Elab.async false
set_option linter.unusedVariables false
namespace Mine
set_option maxRecDepth 100000
set_option maxHeartbeats 8000000

noncomputable def lawBody : List Stmt := match st24 with
  | .FunctionDef _ _ b _ _ _ _ _ _ _ => b
  | _ => []
noncomputable def lawScope : Scope := match st24 with
  | .FunctionDef _ _ _ _ _ _ s _ _ _ => s
  | _ => default
noncomputable abbrev lawFi (fa : Addr) (cd : Value) : Fi := ⟨sQ "law", lawScope, fa, cd, fun _ => [], true⟩
def bindTD (d : Dt) (δ : Loc) : Loc := match d with
  | .tuple [a, b] => (sQ "due", b) :: (sQ "text", a) :: δ
  | _ => δ
def K8 (a : Addr) (k : Nat) (δ : Loc) (μ : Mus) : Prop := ∃ N : Nat, δ.lookup sBag = some (.obj a) ∧ μ = [bagM a N]
theorem ne_self {n : Nat} {d : Dt} (o : Ok d) : Op2 n .NotEq d d (.bool false) := oNe o o ⟨(fun q => nomatch q), fun q => absurd rfl q⟩
theorem law_b {is : List Int} (hl : is.length ≤ 63) (fa : Addr) (cd : Value) (L : Addr) : Bd 13 (lawFi fa cd) L [(sQ "script", .list (is.map .int))] [] lawBody (fun o => ∃ μ, o = .ret μ (.bool true)) := by
  unfold lawBody
  refine bFor (μ₁ := []) (ds := writ.map wrP) (bind := bindTD) ?f1 ?f2 ?f3
  case f3 => intro _ _; rfl
  case f1 =>
    refine iterL ?f4 ?f5
    case f4 => exact eCall0 (ρ := []) written_c rfl (eGlob (f := 255) (fun P => rfl) rfl rfl rfl) rfl (fun P => rfl)
    case f5 =>
      intro d hd c C δ μ _
      obtain ⟨p, _, rfl⟩ := List.mem_map.mp hd
      exact agPair rfl rfl
  refine (?loop : ∀ (ps : List (Str × Dt)) (δ : Loc), (∀ p ∈ ps, Wr p) → δ.lookup (sQ "script") = some (.list (is.map .int)) → Lp bindTD 13 _ L _ _ (fun o => ∃ μ, o = .ret μ (.bool true)) (ps.map wrP) δ []) writ _ writ_ok rfl
  intro ps
  induction ps with
  | cons p ps ih =>
    intro δ hp hS
    obtain ⟨w1, w2⟩ := hp p (.head _)
    obtain ⟨t, g⟩ := Tx.of w1
    have ok := heard_ok g
    rw [w2] at ok
    refine bIfF (μ' := []) (b := false) ?g1 rfl (bNil (ih _ (fun p q => hp p (.tail _ q)) hS))
    refine tOr (μ₁ := []) (b₁ := false) (b₂ := false) ?g2 (fun _ => ?g3) (fun _ => rfl)
    case g2 =>
      refine tCmp (μ₁ := []) (d₁ := p.2) (d₂ := p.2) ?g4 (eName rfl rfl) (ne_self ok)
      rw [← w2]
      refine eCallT (μa := []) (μb := []) (ρ := []) (heard_c g) rfl rfl (eGlob (f := 248) (fun P => rfl) rfl rfl rfl) (esCons ?g6 esNil) rfl (fun P => rfl)
      exact eCall (μa := []) (μb := []) (ρ := []) (cut_c t) rfl (eGlob (f := 262) (fun P => rfl) rfl rfl rfl) (esCons (eName rfl rfl) esNil) rfl (fun P => rfl)
    case g3 =>
      refine tCmp (μ₁ := []) (d₁ := p.2) (d₂ := p.2) ?g5 (eName rfl rfl) (ne_self ok)
      rw [← w2]
      refine eCall (μa := []) (μb := []) (ρ := []) (due_c g) rfl (eGlob (f := 238) (fun P => rfl) rfl rfl rfl) (esCons ?g7 esNil) rfl (fun P => rfl)
      exact eCall (μa := []) (μb := []) (ρ := []) (cut_c t) rfl (eGlob (f := 262) (fun P => rfl) rfl rfl rfl) (esCons (eName rfl rfl) esNil) rfl (fun P => rfl)
  | nil =>
    intro δ _ hS
    refine bSetC (μa := []) (ρ := []) (bag_c hl) (eGlob (f := 205) (fun P => rfl) rfl rfl rfl) (esCons (eName rfl hS) esNil) rfl (fun P => rfl) ?h1 ?h2 rfl
    case h2 => rintro j ⟨a, N, e⟩; cases e
    case h1 =>
      rintro μ' d ⟨a, N, e⟩
      cases e
      refine bFor (μ₁ := [bagM a N]) (ds := rangeD 8) (bind := bind1 (sQ "turn")) ?i1 (lpJ (K := K8 a) ?i2 ?i3 _ _ _ ?i4) ?i5
      case i5 => intro _ _; rfl
      case i1 => exact iterR (m := 8) ⟨fun P => rfl, rfl, rfl, rfl, rfl, rfl⟩ eInt (by decide) (fun d hd c C δ μ _ => agName rfl)
      case i4 => exact ⟨N, rfl, rfl⟩
      case i3 =>
        rintro δ μ ⟨N, hB, rfl⟩
        exact bRet (μ' := [bagM a N]) eBool ⟨_, rfl⟩
      case i2 =>
        rintro k d δ μ ⟨N, hB, rfl⟩
        refine bSetC (μa := [bagM a N]) (ρ := []) rows_c (eGlob (f := 224) (fun P => rfl) rfl rfl rfl) (esCons (eName rfl hB) esNil) rfl (fun P => rfl) ?j1 ?j2 rfl
        case j2 => rintro j ⟨N', l, e, _⟩; cases e
        case j1 =>
          rintro μ' d ⟨N', l, e, z⟩
          cases e
          have g := z.gd
          refine bIfF (μ' := [bagM a N']) (b := false) ?k1 rfl (bNil ⟨N', hB, rfl⟩)
          refine tCmp (μ₁ := [bagM a N']) (d₁ := heardD l) (d₂ := heardD l) ?k2 ?k3 (ne_self (heard_ok g))
          case k2 => exact eCallT (μa := []) (μb := []) (ρ := [bagM a N']) (heard_c g) rfl rfl (eGlob (f := 248) (fun P => rfl) rfl rfl rfl) (esCons (eName rfl rfl) esNil) rfl (fun P => rfl)
          case k3 => exact eCall (μa := []) (μb := []) (ρ := [bagM a N']) (due_c g) rfl (eGlob (f := 238) (fun P => rfl) rfl rfl rfl) (esCons (eName rfl rfl) esNil) rfl (fun P => rfl)
end Mine
end

noncomputable section
open PySem PySem.W PyProof.Rows PySem.Calls PySem.Spec
set_option Elab.async false
set_option linter.unusedVariables false
namespace Mine
set_option maxRecDepth 100000
set_option maxHeartbeats 1000000
theorem ofPy_ints : ∀ is : List Int, ofPys (is.map PyData.int) = is.map WData.int
  | [] => rfl
  | i :: is => by rw [List.map_cons, List.map_cons, ofPys, ofPy_ints is]; rfl
theorem lay_ints {R : WRecords} {cl : Str → Option Addr} {P : Params} {ord : List DictEntry → List DictEntry} : ∀ (is : List Int) {s s' : Shared} {vs : List Value}, layAllW R cl P ord (is.map WData.int) s = some (vs, s') → s'.heap = s.heap
  | [], s, s', vs, h => by rw [List.map_nil, layAllW] at h; cases h; rfl
  | i :: is, s, s', vs, h => by
    rw [List.map_cons, layAllW, layW] at h
    dsimp only at h
    split at h
    · rename_i r hr
      cases h
      exact lay_ints is (s := { s with toks := s.toks + 1 }) (s' := r.2) (vs := r.1) hr
    · cases h
theorem lay_one {R : WRecords} {cl : Str → Option Addr} {P : Params} {ord : List DictEntry → List DictEntry} {is : List Int} {s s' : Shared} {l : Addr} (h : layAllW R cl P ord [ofPy (.list (is.map PyData.int))] s = some ([.ref l], s')) : l = s.heap.objs.size ∧ ∃ vs : List Value, s'.heap = s.heap.push (listOf vs.toArray 0) := by
  rw [ofPy, ofPy_ints, layAllW, layW] at h
  dsimp only at h
  split at h
  · rename_i a ha
    rw [layAllW] at h
    dsimp only at h
    split at ha
    · rename_i r hr
      cases ha
      cases h
      have e := lay_ints is (s' := r.2) (vs := r.1) hr
      exact ⟨congrArg (·.objs.size) e, r.1, by rw [← e]⟩
    · cases ha
  · cases h
/-- a program that says nothing -/
def pNo (p : Program) : Program := { p with main := { p.main with body := [.Import [⟨Str.ofString "sys", none, ⟨0, 0, 0, 0⟩⟩] ⟨0, 0, 0, 0⟩] } }
def looseAll (p : Program) (loose : List Str) : List Str := loose ++ (recsOf p).map (·.name) ++ (litsOf p).map (·.1) ++ (clssOf p loose).map (·.name)
theorem ns_hide {h : Heap} {a l : Addr} {m : Str → Option Value} {vs : Array Value} {n : Nat} (hl : h.get? l = some (listOf vs n)) (H : h.Ns a m) : (hideAll h [l]).Ns a m := by
  obtain ⟨o, es, ep, e, hd, r⟩ := H
  refine ⟨o, es, ep, hideAll_get _ e fun q => ?_, hd, r⟩
  rw [List.mem_singleton.mp q, hl] at e
  cases e
  cases hd
theorem top_hide {p : Program} {loose : List Str} {mean : ExcName → Option Value} {mg mb : Str → Option Value} {h : Heap} {l : Addr} {vs : Array Value} {n : Nat} (T : Top p loose mean mg mb h) (hl : h.get? l = some (listOf vs n)) : Top (pNo p) (looseAll p loose) mean mg mb (hideAll h [l]) where
  g := ns_hide hl T.g
  b := ns_hide hl T.b
  nolimit := let ⟨mc, a, b⟩ := T.nolimit; ⟨mc, ns_hide hl a, b⟩
  nodigits := let ⟨mc, a, b⟩ := T.nodigits; ⟨mc, ns_hide hl a, b⟩
  fn := fun d hd => nomatch (show d ∈ ([] : List DefRec) from hd)
  own := fun d hd => nomatch (show d ∈ ([] : List OwnSpec) from hd)
  const := fun x d e => nomatch (show (none : Option PyData) = some d from e)
  free := fun x h1 h2 _ _ _ => by
    unfold looseAll at h2
    simp only [List.mem_append, not_or] at h2
    exact T.free x h1 h2.1.1.1 h2.1.1.2 h2.1.2 h2.2
  builtins := T.builtins
  tab := fun d hd => nomatch (show d ∈ ([] : List DefRec) from hd)
  bmain := by
    obtain ⟨bm, ob, a, b, c, d, e, f⟩ := T.bmain
    refine ⟨bm, ob, a, b, hideAll_get _ c fun q => ?_, d, e, f⟩
    rw [List.mem_singleton.mp q, hl] at c
    cases c
    cases f
  seer := fun e => nomatch (show false = true from e)
noncomputable def lawParams : Arguments := match st24 with
  | .FunctionDef _ ps _ _ _ _ _ _ _ _ => ps
  | _ => default
theorem ints_all {P : Params} {imm : Led} {vs : List Value} {is : List Int} (h : IntsAre vs is) : DtAll P imm vs (is.map Dt.int) := by
  induction h with
  | nil => exact .nil
  | cons i t _ ih => exact .cons (.int _ _) ih
theorem law_run {w : World} {s₀ s₁ : Shared} {mg mb : Str → Option Value} {p : Program} {loose : List Str} {mean : ExcName → Option Value} {fa : Addr} {o : Obj} {pm cd doc : Value} {is : List Int} {vs : List Value} {R : Result → Shared → Prop} (X : (KM w.params).In s₀.heap) (T : Top p loose mean mg mb s₁.heap) (ho : s₁.heap.get? fa = some o) (hd : o.data = .func { docDef (sQ "law") lawParams lawBody lawScope pm cd doc with defaults := .none, kwdefaults := .none }) (hcd : s₁.heap.CodeRec cd (sQ "law")) (hh : s₁.heap = s₀.heap.push (listOf vs.toArray 0)) (hI : IntsAre vs is) (hl : is.length ≤ 63)
    (K : ∀ h' tk', (∀ b o, s₁.heap.get? b = some o → h'.get? b = some o) → R (.ok (.ret (.bool true))) { s₁ with heap := h', toks := tk' }) : codeAny (model prog0 w) callerA (.call (.ref fa) ⟨[.ref s₀.heap.objs.size], []⟩) R s₁ := by
  have hl1 : s₁.heap.get? s₀.heap.objs.size = some (listOf vs.toArray 0) := by rw [hh]; exact Heap.get?_push_size _ rfl
  have X₁ : (KM w.params).In (hideAll s₁.heap [s₀.heap.objs.size]) := fun a o e => hideAll_get _ (by rw [hh]; exact Heap.get?_push_of_some _ (X a o e)) fun q => absurd (Heap.lt_size (X a o e)) (by rw [List.mem_singleton.mp q]; exact Nat.lt_irrefl _)
  refine codeAny_call_def (binds := [(sQ "script", .ref s₀.heap.objs.size)]) (body := lawBody) (by decide) ho hd T.nolimit hcd rfl (BindsTo.of_eq rfl) (show ∀ x ∈ lawScope.names, x.2 ≠ .cell by decide) (all1 rfl) (fun h₁ hns hk => ?_) rfl rfl rfl
  have BG : Below callerA (hideAll s₁.heap [s₀.heap.objs.size]) [] (hideAll s₁.heap [s₀.heap.objs.size]) := below_caller _
  let c : Fc (lawFi fa cd) s₁.heap.objs.size := ⟨w, callerA.deeper ((lawFi fa cd).env s₁.heap.objs.size), hideAll s₁.heap [s₀.heap.objs.size], [], s₁, X₁, ⟨_, _, _, _, _, top_hide T hl1⟩, ⟨_, _, BG⟩, Around.frames_deeper BG.stack, rfl, rfl, by
    cases q : (hideAll s₁.heap [s₀.heap.objs.size]).get? s₁.heap.objs.size with
    | none => rfl
    | some o => exact absurd (Heap.lt_size (of_hideAll _ q)) (Nat.lt_irrefl _), fun _ => rfl⟩
  have F : Fr (hideAll s₁.heap [s₀.heap.objs.size]) s₁.heap.objs.size h₁ (fun y => [(sQ "script", Value.ref s₀.heap.objs.size)].reverse.lookup y) := ⟨hns, fun b o e => hk b o (of_hideAll _ e), Nat.le_of_eq (hideAll_size _ _)⟩
  have N : News (hideAll s₁.heap [s₀.heap.objs.size]) s₁.heap.objs.size h₁ ([] ++ [(s₀.heap.objs.size, listOf vs.toArray 0)]) := fun q hq => by
    rw [List.mem_singleton.mp hq]
    exact ⟨hk _ _ hl1, Nat.ne_of_lt (Heap.lt_size hl1), hideAll_none _ (.head _)⟩
  have dl : DtIn w.params [(s₀.heap.objs.size, listOf vs.toArray 0)] (.ref s₀.heap.objs.size) (.list (is.map .int)) := .list (.head _) (ints_all hI)
  have S : St c [(sQ "script", .list (is.map .int))] (fun v d => v = .ref s₀.heap.objs.size ∧ d = .fix (listOf vs.toArray 0)) ([] ++ []) h₁ := by
    refine ⟨_, [(s₀.heap.objs.size, listOf vs.toArray 0)], [], F, N, ⟨(fun p hp => nomatch hp), List.nodup_nil⟩, fun x d e => ?_, fun v d e => ?_, trivial⟩
    · rw [List.lookup_cons] at e
      cases q : x == sQ "script" with
      | true =>
        rw [q] at e; cases e
        exact ⟨_, by show List.lookup x [(sQ "script", Value.ref s₀.heap.objs.size)] = _; rw [List.lookup_cons, q], dl⟩
      | false => rw [q] at e; cases e
    · rw [e.1, e.2]; exact .fix (.head _)
  have keep : ∀ {δ' : Loc} {τ' : Tm} {μ' : Mus} {h' : Heap}, St c δ' τ' μ' h' → τ' (.ref s₀.heap.objs.size) (.fix (listOf vs.toArray 0)) → ∀ b o, s₁.heap.get? b = some o → h'.get? b = some o := fun {δ' τ' μ' h'} S' ht b o e => by
    obtain ⟨m', imm', mu', F', N', s', l', t', u'⟩ := S'
    by_cases hb : b = s₀.heap.objs.size
    · subst hb
      rw [hl1] at e
      cases e
      have q := t' _ _ ht
      cases q with
      | fix hm => exact (N' _ (List.mem_append.mpr (.inr hm))).1
    · exact F'.keep b o (hideAll_get _ e fun q => hb (List.mem_singleton.mp q))
  refine law_b hl fa cd s₁.heap.objs.size c _ [] _ _ h₁ _ ⟨show callerA.depth + 1 + 13 < recursionLimit by decide, show callerA.units + 3 + 16 * 13 + 600 < cLine by decide⟩ S (fun v d δ' μ' h' tk' ho' S' => ?_) (fun δ' μ' h' tk' ho' S' => ?_) fun x δ' j h' tk' ho' _ => ?_
  · obtain ⟨μ, e⟩ := ho'
    cases e
    have hv : v = .bool true := by
      obtain ⟨m', imm', mu', F', N', s', l', t', u'⟩ := S'
      have q := t' v _ (.inl ⟨rfl, rfl⟩)
      cases q; rfl
    subst hv
    exact K h' tk' (keep S' (.inr ⟨rfl, rfl⟩))
  · obtain ⟨μ, e⟩ := ho'; cases e
  · obtain ⟨μ, e⟩ := ho'; cases e
end Mine
end

noncomputable section
open PySem PySem.W PyProof.Rows PySem.Calls PySem.Spec
set_option Elab.async false
set_option linter.unusedVariables false
namespace Mine
set_option maxRecDepth 100000
set_option maxHeartbeats 1000000
theorem ints_have {vs vs' : List Value} {is : List Int} {l : Addr} {h : Heap} (H : h.IsList l vs.toArray) (hl : h.get? l = some (listOf vs'.toArray 0)) (hI : IntsAre vs is) : IntsAre vs' is := by
  obtain ⟨o, e, _, n, hd⟩ := H
  rw [hl] at e
  cases e
  have : vs'.toArray = vs.toArray := by injection hd
  have : vs' = vs := by simpa using this
  rw [this]; exact hI
noncomputable def lawRec : DefRec := match st24 with
  | .FunctionDef n ps b _ _ _ sc _ _ p => ⟨n, ps, b, sc, p⟩
  | _ => ⟨default, default, [], default, default⟩
theorem fin0 : law1.Holds := by
  refine holds_law (by decide +kernel) fun said => ?_
  refine holds_openX (q := qv) (loose := lw) (Xt := fun _ => true) (XP := fun _ _ => True) (Yf := hYf) (Ya := hYa) (d := lawRec) (kwd := []) (N := 3626) left1 (fun _ _ => trivial) (fun _ _ _ _ _ => trivial) (by rfl) (by rfl) (by rfl) (fun s _ => recFacts_nil rfl) rfl said (by decide +kernel) ⟨rfl, rfl, rfl, rfl, rfl, by decide +kernel⟩ ?hw ?call
  case hw => w_witness2
  intro w s₀ s₁ mg mb G Y fa o pm cd doc dV kV ho hd' hcd hD hmg hg args vals as La hpre hlay hrd hwl hlo
  have X : (KM w.params).In s₀.heap := InK.of (K := KM) (as := kas) (fun P => rfl) w s₀ Y
  clear Y
  have T := G.T
  clear G hmg
  obtain ⟨rfl, rfl⟩ : dV = .none ∧ kV = .none := ⟨hD.pos.elim (·.2) fun z => absurd rfl z.1, hD.kw.elim (·.2) fun z => absurd rfl z.1⟩
  clear hD
  wrow_args hpre hlay hrd hwl hlo
  rename_i hI _ hl63 _
  obtain ⟨ord, _, hlaid⟩ := La.laid
  obtain ⟨rfl, vs', hh⟩ := lay_one hlaid
  refine enter_call (law_run X T ho hd' hcd hh (ints_have (by assumption) (by rw [hh]; exact Heap.get?_push_size _ rfl) hI) (by omega) fun h' tk' kp => ?_)
  refine ⟨.inl ⟨_, .bool true, [], rfl, fun cls => rfl, .bool true, ?_, fun _ => ⟨.nil, fun a h => nomatch h⟩⟩, OldK.of_keep kp, rfl, ?_⟩
  · clear hd' hcd ho T
    wrow_post
  · exact AllBare.of_eq hg
theorem fin1 : PySem.Challenge.rw_pq0667_01.Holds := law1_eq ▸ fin0
end Mine
end

section
theorem PySem.Challenge.cw_pq0667_01_holds : PySem.Challenge.rw_pq0667_01.Holds := by
  exact Mine.fin1
end
