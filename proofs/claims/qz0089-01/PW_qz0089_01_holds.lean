import PyProof.Rows.All
import Wide.All
import OpenK.AllK
import Wide.FinOn
import PySem.Challenge.RW_qz0089_01
set_option Elab.async false
set_option maxRecDepth 100000
set_option linter.unusedVariables false
namespace Mine
section
open PySem PySem.W PyProof.Rows
-- HEAD
noncomputable abbrev pw := PySem.Challenge.pw_qz0089_01
noncomputable def keepL : List Nat := [1,2,3,5,6,7,8,9,10,11,12,14,15,16,17,18,19,20,21,22,23,24,25,26,27,29,30,31,32,33,34,35,36,37]
noncomputable def vq : Program := view pw keepL
noncomputable abbrev lo : List Str := [Str.ofString "SHORT_ESCAPES"]
theorem pw_open : opening pw = plainProg pw.main.scope.names := rfl
theorem pw_fence : ∀ s, fenceModules? pw s = some s := fun _ => rfl
local macro_rules | `(tactic| walk_at "myPiece") => `(tactic| (
  (try rw [PySem.W.Fast.te14374325043358763698]); (try rw [PySem.W.Fast.te14082659384304107361]); (try rw [PySem.W.Fast.te15667345088766844465])
  rw [PySem.W.Fast.te14364793385576792824]
  kernel_rfl))
noncomputable abbrev lw := PySem.Challenge.rw_qz0089_01
theorem look_fen : sreFenced pw.main = true := by kernel_rfl
theorem look_mods : ((moduleNames pw.main.body).isEmpty || lookedIntoSs (moduleNames pw.main.body) pw.main.body) = true := by kernel_rfl
theorem look_res : namesResolve pw = true := by
  rw [PySem.W.Fast.te8377067652309620493]; kernel_rfl
theorem look_wld : (pw.boundNames.all (fun n => !worldNames.contains n)) = true := by kernel_rfl
theorem look_road : (noRoadLSs { strict := !(importedModules pw.main.body).all cThrough.contains, foot := none, bare := (["vars", "dir", "locals"] : List Str).filter (readsOut pw pw.main.body) } pw.main.body) = true := by
  rw [PySem.W.Fast.te8326940854005059898]; kernel_rfl
theorem look_attr : (namesMeet pw pw.main.body fun _ n => attrL n) = true := by
  rw [PySem.W.Fast.te17119622794617984870]; kernel_rfl
theorem look_open : looksOpen lw.row.prog = true := by
  show (sreFenced pw.main && ((moduleNames pw.main.body).isEmpty || lookedIntoSs (moduleNames pw.main.body) pw.main.body) &&
    namesResolve pw && pw.boundNames.all (fun n => !worldNames.contains n) &&
    noRoadLSs { strict := !(importedModules pw.main.body).all cThrough.contains, foot := none, bare := (["vars", "dir", "locals"] : List Str).filter (readsOut pw pw.main.body) } pw.main.body &&
    namesMeet pw pw.main.body fun _ n => attrL n) = true
  rw [look_fen, look_mods, look_res, look_wld, look_road, look_attr]; rfl
theorem said1 : lw.row.partSaid = true := by
  unfold OpenRow.partSaid
  rw [look_open]
  kernel_rfl
theorem said2 : lw.row.wellSaid = true := by
  unfold OpenRow.wellSaid
  rw [said1]
  kernel_rfl
theorem said3 : noRoadLSs { strict := true, foot := some lw.bound', writes := lw.writes, may := lw.may } lw.footing = true := by kernel_rfl
theorem said4 : lw.bound'.all (fun n => !builtinNamed n || lw.about == [n] || !lw.reads n) = true := by kernel_rfl
theorem said5 : lw.own.all (fun n => !builtinNamed n) = true := by kernel_rfl
theorem said6 : (namesMeet lw.prog lw.above fun _ n => !lw.own.contains n) = true := by kernel_rfl
theorem said7 : (namesMeet lw.prog lw.footing fun sc n => sc.kind == .module || sc.names.lookup n != some .globalExplicit) = true := by kernel_rfl
theorem said_ok : lw.wellSaid = true := by
  unfold OpenLaw.wellSaid
  rw [said2, said3, said4, said5, said6, said7]
  kernel_rfl
set_option hygiene false in
local macro_rules | `(tactic| o_head $_H) => `(tactic| exact h)
set_option maxRecDepth 100000 in
set_option maxHeartbeats 8000000 in
theorem hd (h : PySem.Challenge.rw_qz0089_01.row.Holds) : PySem.Challenge.rw_qz0089_01.row.Holds := by
  k_head
noncomputable abbrev hk : Hook := kmHook hd.heap_1
  [2, 3, 15, 22, 24, 25, 27, 28, 29, 30, 31, 32, 35, 42, 44, 45, 47, 48, 49, 50, 51, 54, 61, 63, 64, 66, 67, 68,
   69, 70, 73, 74, 76, 77, 79, 80, 81, 83, 84, 86, 87, 88, 90, 91, 93, 94, 95, 97, 98, 100, 101, 102, 104, 105,
   107, 108, 116, 118, 119, 121, 122, 123, 124, 125, 126, 127, 130, 132, 133, 135, 136, 137, 139, 140, 142, 143,
   144, 146, 147, 149, 150, 151, 153, 154, 156, 157, 158, 160, 161, 163, 164, 165, 167, 168, 170, 171, 172, 174,
   175, 177, 178, 179, 181, 182, 184, 185, 186, 188, 189, 191, 192, 193, 195, 196, 198, 199, 200, 202, 203, 205,
   206, 207, 209, 210, 212, 213, 214, 216, 217, 219, 220, 221, 223, 224, 226, 227, 228, 230, 231, 233, 234, 235,
   237, 238, 240, 241, 242, 244, 245, 247, 248, 249, 251, 252, 254, 255, 256, 259, 260]
  (fun _ => by kernel_rfl) [257]
noncomputable abbrev xt : Shared → Bool := fun s => xlAt vq [] s && recOk (RowW.records (PySem.Challenge.rw_qz0089_01.row.toRowW)) s
-- PIECES (printed by wip/gen.lean)
noncomputable abbrev topL : List Stmt := behindTheImports pw
noncomputable def dOf : Option Stmt → Arguments × List Stmt × Scope
  | some (.FunctionDef _ a b _ _ _ s _ _ _) => (a, b, s)
  | _ => (⟨[], [], none, [], [], none, []⟩, [], pw.main.scope)
noncomputable def cAt : Option Stmt → Nat → Option Stmt
  | some (.ClassDef _ _ _ b _ _ _ _ _ _ _), j => b[j]?
  | _, _ => none
noncomputable def valAt (o : Obj) (i : Nat) : Value := match o.data with
  | .dict es _ => (match es[i]? with | some e => e.val | none => .none)
  | _ => .none
noncomputable abbrev df0 : Arguments × List Stmt × Scope := (dOf (cAt (topL[1]?) 0))
noncomputable abbrev df1 : Arguments × List Stmt × Scope := (dOf (cAt (topL[2]?) 0))
noncomputable abbrev df2 : Arguments × List Stmt × Scope := (dOf (cAt (topL[3]?) 0))
noncomputable abbrev df3 : Arguments × List Stmt × Scope := (dOf (topL[8]?))
noncomputable abbrev df4 : Arguments × List Stmt × Scope := (dOf (topL[9]?))
noncomputable abbrev df5 : Arguments × List Stmt × Scope := (dOf (topL[10]?))
noncomputable abbrev df6 : Arguments × List Stmt × Scope := (dOf (topL[11]?))
noncomputable abbrev df7 : Arguments × List Stmt × Scope := (dOf (topL[12]?))
noncomputable abbrev df8 : Arguments × List Stmt × Scope := (dOf (cAt (topL[16]?) 0))
noncomputable abbrev df9 : Arguments × List Stmt × Scope := (dOf (topL[17]?))
noncomputable abbrev df10 : Arguments × List Stmt × Scope := (dOf (topL[18]?))
noncomputable abbrev df11 : Arguments × List Stmt × Scope := (dOf (topL[19]?))
noncomputable abbrev df12 : Arguments × List Stmt × Scope := (dOf (topL[20]?))
noncomputable abbrev df13 : Arguments × List Stmt × Scope := (dOf (topL[21]?))
noncomputable abbrev df14 : Arguments × List Stmt × Scope := (dOf (topL[22]?))
noncomputable abbrev df15 : Arguments × List Stmt × Scope := (dOf (topL[23]?))
noncomputable abbrev df16 : Arguments × List Stmt × Scope := (dOf (topL[24]?))
noncomputable abbrev df17 : Arguments × List Stmt × Scope := (dOf (topL[25]?))
noncomputable abbrev df18 : Arguments × List Stmt × Scope := (dOf (topL[26]?))
noncomputable abbrev df19 : Arguments × List Stmt × Scope := (dOf (topL[27]?))
noncomputable abbrev df20 : Arguments × List Stmt × Scope := (dOf (topL[30]?))
noncomputable abbrev df21 : Arguments × List Stmt × Scope := (dOf (topL[31]?))
noncomputable abbrev df22 : Arguments × List Stmt × Scope := (dOf (topL[32]?))
noncomputable abbrev df23 : Arguments × List Stmt × Scope := (dOf (topL[33]?))
noncomputable abbrev df24 : Arguments × List Stmt × Scope := (dOf (topL[34]?))
noncomputable abbrev df25 : Arguments × List Stmt × Scope := (dOf (topL[35]?))
noncomputable abbrev df26 : Arguments × List Stmt × Scope := (dOf (topL[36]?))
noncomputable abbrev df27 : Arguments × List Stmt × Scope := (dOf (topL[37]?))

noncomputable abbrev envT : Env := { scope := pw.main.scope, locals := mainNs, globals := mainNs, cells := [], code := (PySem.Value.ref 13), frame := some 14 }
noncomputable abbrev codT : Code := Code.body topL envT
noncomputable abbrev frT : List Frame := [topFrame (PySem.Pos.mk 0 0 0 0)]
noncomputable abbrev ob0 (P : Params) : Obj := (PySem.Obj.mk (PySem.Value.type "tuple") none (PySem.Data.seq #[] 0) #[])
noncomputable abbrev ob1 (P : Params) : Obj := (PySem.Obj.mk PySem.Value.none none (PySem.Data.fields #[]) #[])
noncomputable abbrev ob2 (P : Params) : Obj := (PySem.Obj.mk (PySem.Value.type "code") none (PySem.Data.fields #[(PySem.Value.str (PySem.Str.ofString "<module>") 182), (PySem.Value.str (PySem.Str.ofString "<module>") 183), (PySem.Value.str (PySem.Str.ofString "/claim/cut.py") 184), (PySem.Value.int (1 : Int) 0), (PySem.Value.int (0 : Int) 0), (PySem.Value.int (0 : Int) 0), (PySem.Value.int (0 : Int) 0), (PySem.Value.int (0 : Int) 0), (PySem.Value.ref 11), (PySem.Value.bool Bool.false), (PySem.Value.int (181 : Int) 0), (PySem.Value.ref 12), PySem.Value.none, PySem.Value.none, PySem.Value.none, PySem.Value.none, (PySem.Value.int (185 : Int) 0), (PySem.Value.int (1 : Int) 0), (PySem.Value.str (PySem.Str.ofString "/claim/cut.py") 186)]) #[])
noncomputable abbrev ob3 (P : Params) : Obj := (PySem.Obj.mk (PySem.Value.type "frame") none PySem.Data.plain #[(some (PySem.Value.ref 13)), (some (PySem.Value.ref 3)), (some (PySem.Value.ref 3)), none, (some (PySem.Value.str (PySem.Str.ofString "__main__") 164)), none, (some (PySem.Value.ref 0))])
noncomputable abbrev hp0 (P : Params) : Heap := ⟨⟨[boot_o_0 P, boot_o_1 P, boot_o_2 P, boot_o_3 P, boot_o_4 P, boot_o_5 P, boot_o_6 P, boot_o_7 P, boot_o_8 P, boot_o_9 P, boot_o_10 P, ob0 P, ob1 P, ob2 P, ob3 P]⟩,
  (PySem.Life.mk [] [] [] 0 [] [] Bool.false #[] [] 0 Bool.false Bool.false Bool.false (0 : Int) [(2000 : Int), (10 : Int), (10 : Int)] Bool.false 0 Bool.true [] [] 0 Bool.false)⟩
noncomputable abbrev st0 (w : World) (os : OsState) : Shared := ⟨hp0 w.params, #[], (PySem.Drawn.mk 0 0 0 0), 187, os⟩
theorem pcPre (w : World) (os : OsState) : topGo treeTable pw w 11 (some (PySem.Value.ref 6)) 12 ⟨boot_heap w.params, #[], boot_drawn, boot_toks, os⟩ (topStub pw) = some (st0 w os, ⟨denote treeTable codT, codT, (PySem.Pos.mk 0 0 0 0), frT⟩) := by kernel_rfl
theorem pcBlk (w : World) (os : OsState) : segRun treeTable pw w 11 (some (PySem.Value.ref 6)) 1 1 (st0 w os) (blockOf topL envT codT (PySem.Pos.mk 0 0 0 0) frT) = some (.next, st0 w os, codT, (PySem.Pos.mk 0 0 0 0)) := by walk_at "myPiece"
noncomputable abbrev ob4 (P : Params) : Obj := (PySem.Obj.mk PySem.Value.none none (PySem.Data.dict #[(PySem.DictEntry.mk (PySem.PyData.keyHash P (PySem.Str.ofString "type.__subclasses__.Exception.0")) (PySem.Value.str (PySem.Str.ofString "type.__subclasses__.Exception.0") 214) (PySem.Value.int (31 : Int) 0)), (PySem.DictEntry.mk (PySem.PyData.keyHash P (PySem.Str.ofString "type.__subclasses__.Exception.n")) (PySem.Value.str (PySem.Str.ofString "type.__subclasses__.Exception.n") 215) (PySem.Value.int (1 : Int) 0))] 2) #[])
noncomputable abbrev ob5 (P : Params) : Obj := (PySem.Obj.mk (PySem.Value.type "dict") none (PySem.Data.dict #[(PySem.DictEntry.mk (PySem.PyData.keyHash P (PySem.Str.ofString "__name__")) (PySem.Value.str (PySem.Str.ofString "__name__") 165) (PySem.Value.str (PySem.Str.ofString "perlcore.errors") 187)), (PySem.DictEntry.mk (PySem.PyData.keyHash P (PySem.Str.ofString "__doc__")) (PySem.Value.str (PySem.Str.ofString "__doc__") 166) PySem.Value.none), (PySem.DictEntry.mk (PySem.PyData.keyHash P (PySem.Str.ofString "__package__")) (PySem.Value.str (PySem.Str.ofString "__package__") 167) PySem.Value.none), (PySem.DictEntry.mk (PySem.PyData.keyHash P (PySem.Str.ofString "__loader__")) (PySem.Value.str (PySem.Str.ofString "__loader__") 168) (valAt (boot_o_3 P) 3)), (PySem.DictEntry.mk (PySem.PyData.keyHash P (PySem.Str.ofString "__spec__")) (PySem.Value.str (PySem.Str.ofString "__spec__") 169) PySem.Value.none), (PySem.DictEntry.mk (PySem.PyData.keyHash P (PySem.Str.ofString "__annotations__")) (PySem.Value.str (PySem.Str.ofString "__annotations__") 170) (PySem.Value.ref 6)), (PySem.DictEntry.mk (PySem.PyData.keyHash P (PySem.Str.ofString "__builtins__")) (PySem.Value.str (PySem.Str.ofString "__builtins__") 171) (PySem.Value.ref 4)), (PySem.DictEntry.mk (PySem.PyData.keyHash P (PySem.Str.ofString "__file__")) (PySem.Value.str (PySem.Str.ofString "__file__") 173) (PySem.Value.str (PySem.Str.ofString "/claim/cut.py") 172)), (PySem.DictEntry.mk (PySem.PyData.keyHash P (PySem.Str.ofString "__cached__")) (PySem.Value.str (PySem.Str.ofString "__cached__") 174) PySem.Value.none), (PySem.DictEntry.mk (PySem.PyData.keyHash P (PySem.Str.ofString "PerlError")) (PySem.Value.str (PySem.Str.ofString "PerlError") 217) (PySem.Value.ref 31))] 10) #[])
noncomputable abbrev ob6 (P : Params) : Obj := (PySem.Obj.mk PySem.Value.none none (PySem.Data.fields #[(PySem.Value.int (2 : Int) 0), (PySem.Value.int (0 : Int) 0), (PySem.Value.ref 20)]) #[])
noncomputable abbrev ob7 (P : Params) : Obj := (PySem.Obj.mk (PySem.Value.type "tuple") none (PySem.Data.seq #[(PySem.Value.type "Exception")] 0) #[])
noncomputable abbrev ob8 (P : Params) : Obj := (PySem.Obj.mk (PySem.Value.type "builtin_function_or_method") none (PySem.Data.fields #[(PySem.Value.builtin "type.__prepare__"), (PySem.Value.type "type")]) #[])
noncomputable abbrev ob9 (P : Params) : Obj := (PySem.Obj.mk (PySem.Value.type "dict") none (PySem.Data.dict #[(PySem.DictEntry.mk (PySem.PyData.keyHash P (PySem.Str.ofString "__module__")) (PySem.Value.str (PySem.Str.ofString "__module__") 196) (PySem.Value.str (PySem.Str.ofString "perlcore.errors") 187)), (PySem.DictEntry.mk (PySem.PyData.keyHash P (PySem.Str.ofString "__qualname__")) (PySem.Value.str (PySem.Str.ofString "__qualname__") 198) (PySem.Value.str (PySem.Str.ofString "PerlError") 197)), (PySem.DictEntry.mk (PySem.PyData.keyHash P (PySem.Str.ofString "__firstlineno__")) (PySem.Value.str (PySem.Str.ofString "__firstlineno__") 200) (PySem.Value.int (2 : Int) 199)), (PySem.DictEntry.mk (PySem.PyData.keyHash P (PySem.Str.ofString "__init__")) (PySem.Value.str (PySem.Str.ofString "__init__") 208) (PySem.Value.ref 28)), (PySem.DictEntry.mk (PySem.PyData.keyHash P (PySem.Str.ofString "__static_attributes__")) (PySem.Value.str (PySem.Str.ofString "__static_attributes__") 210) (PySem.Value.ref 29))] 5) #[])
noncomputable abbrev ob10 (P : Params) : Obj := (PySem.Obj.mk (PySem.Value.type "tuple") none (PySem.Data.seq #[] 0) #[])
noncomputable abbrev ob11 (P : Params) : Obj := (PySem.Obj.mk PySem.Value.none none (PySem.Data.fields #[(PySem.Value.int (4 : Int) 0), (PySem.Value.int (4 : Int) 0), (PySem.Value.ref 27)]) #[])
noncomputable abbrev ob12 (P : Params) : Obj := (PySem.Obj.mk (PySem.Value.type "code") none (PySem.Data.fields #[(PySem.Value.str (PySem.Str.ofString "PerlError") 191), (PySem.Value.str (PySem.Str.ofString "PerlError") 192), (PySem.Value.str (PySem.Str.ofString "/claim/cut.py") 193), (PySem.Value.int (2 : Int) 0), (PySem.Value.int (0 : Int) 0), (PySem.Value.int (0 : Int) 0), (PySem.Value.int (0 : Int) 0), (PySem.Value.int (0 : Int) 0), (PySem.Value.ref 18), (PySem.Value.bool Bool.false), (PySem.Value.int (181 : Int) 0), (PySem.Value.ref 19), PySem.Value.none, PySem.Value.none, PySem.Value.none, PySem.Value.none, (PySem.Value.int (194 : Int) 0), (PySem.Value.int (2 : Int) 0), (PySem.Value.str (PySem.Str.ofString "/claim/cut.py") 195)]) #[])
noncomputable abbrev ob13 (P : Params) : Obj := (PySem.Obj.mk (PySem.Value.type "frame") none PySem.Data.plain #[(some (PySem.Value.ref 20)), (some (PySem.Value.ref 3)), (some (PySem.Value.ref 17)), none, (some (PySem.Value.str (PySem.Str.ofString "perlcore.errors") 187)), none, (some (PySem.Value.ref 0))])
noncomputable abbrev ob14 (P : Params) : Obj := (PySem.Obj.mk (PySem.Value.type "tuple") none (PySem.Data.seq #[] 0) #[])
noncomputable abbrev ob15 (P : Params) : Obj := (PySem.Obj.mk PySem.Value.none none (PySem.Data.fields #[]) #[])
noncomputable abbrev ob16 (P : Params) : Obj := (PySem.Obj.mk (PySem.Value.type "tuple") none (PySem.Data.seq #[(PySem.Value.str (PySem.Str.ofString "self") 204), (PySem.Value.str (PySem.Str.ofString "text") 205)] 0) #[])
noncomputable abbrev ob17 (P : Params) : Obj := (PySem.Obj.mk (PySem.Value.type "tuple") none (PySem.Data.seq #[] 0) #[])
noncomputable abbrev ob18 (P : Params) : Obj := (PySem.Obj.mk PySem.Value.none none (PySem.Data.func (PySem.FuncData.mk (PySem.Str.ofString "__init__") (PySem.Str.ofString "PerlError.__init__") df0.1 (FuncBody.stmts df0.2.1) df0.2.2 0 [] PySem.Value.none PySem.Value.none PySem.Value.none PySem.Value.none none PySem.Value.none PySem.Value.none 0)) #[])
noncomputable abbrev ob19 (P : Params) : Obj := (PySem.Obj.mk (PySem.Value.type "code") none (PySem.Data.fields #[(PySem.Value.str (PySem.Str.ofString "__init__") 201), (PySem.Value.str (PySem.Str.ofString "PerlError.__init__") 202), (PySem.Value.str (PySem.Str.ofString "/claim/cut.py") 203), (PySem.Value.int (4 : Int) 0), (PySem.Value.int (2 : Int) 0), (PySem.Value.int (0 : Int) 0), (PySem.Value.int (0 : Int) 0), (PySem.Value.int (3 : Int) 0), (PySem.Value.ref 22), (PySem.Value.bool Bool.true), (PySem.Value.int (181 : Int) 0), (PySem.Value.ref 23), PySem.Value.none, (PySem.Value.ref 24), (PySem.Value.ref 25), (PySem.Value.ref 26), (PySem.Value.int (206 : Int) 0), (PySem.Value.int (4 : Int) 0), (PySem.Value.str (PySem.Str.ofString "/claim/cut.py") 207)]) #[])
noncomputable abbrev ob20 (P : Params) : Obj := (PySem.Obj.mk (PySem.Value.type "function") none (PySem.Data.func (PySem.FuncData.mk (PySem.Str.ofString "__init__") (PySem.Str.ofString "PerlError.__init__") df0.1 (FuncBody.stmts df0.2.1) df0.2.2 3 [] PySem.Value.none PySem.Value.none PySem.Value.none (PySem.Value.str (PySem.Str.ofString "perlcore.errors") 187) none (PySem.Value.ref 27) PySem.Value.none 0)) #[])
noncomputable abbrev ob21 (P : Params) : Obj := (PySem.Obj.mk (PySem.Value.type "tuple") none (PySem.Data.seq #[(PySem.Value.str (PySem.Str.ofString "text") 209)] 0) #[])
noncomputable abbrev ob22 (P : Params) : Obj := (PySem.Obj.mk (PySem.Value.type "dict") none (PySem.Data.dict #[(PySem.DictEntry.mk (PySem.PyData.keyHash P (PySem.Str.ofString "__module__")) (PySem.Value.str (PySem.Str.ofString "__module__") 196) (PySem.Value.str (PySem.Str.ofString "perlcore.errors") 187)), (PySem.DictEntry.mk (PySem.PyData.keyHash P (PySem.Str.ofString "__firstlineno__")) (PySem.Value.str (PySem.Str.ofString "__firstlineno__") 200) (PySem.Value.int (2 : Int) 199)), (PySem.DictEntry.mk (PySem.PyData.keyHash P (PySem.Str.ofString "__init__")) (PySem.Value.str (PySem.Str.ofString "__init__") 208) (PySem.Value.ref 28)), (PySem.DictEntry.mk (PySem.PyData.keyHash P (PySem.Str.ofString "__static_attributes__")) (PySem.Value.str (PySem.Str.ofString "__static_attributes__") 210) (PySem.Value.ref 29)), (PySem.DictEntry.mk (PySem.PyData.keyHash P (PySem.Str.ofString "__weakref__")) (PySem.Value.str (PySem.Str.ofString "__weakref__") 212) (PySem.Value.ref 32)), (PySem.DictEntry.mk (PySem.PyData.keyHash P (PySem.Str.ofString "__doc__")) (PySem.Value.str (PySem.Str.ofString "__doc__") 213) PySem.Value.none)] 3) #[])
noncomputable abbrev ob23 (P : Params) : Obj := (PySem.Obj.mk (PySem.Value.type "type") none (PySem.Data.cls (PySem.ClassData.mk (PySem.Str.ofString "PerlError") [(PySem.Value.type "Exception")] [(PySem.Value.ref 31), (PySem.Value.type "Exception"), (PySem.Value.type "BaseException"), (PySem.Value.type "object")] 30 (PySem.Str.ofString "PerlError") Bool.true [] [] Bool.false none Bool.false)) #[(some (PySem.Value.ref 15)), none, (some (PySem.Value.str (PySem.Str.ofString "PerlError") 189)), (some (PySem.Value.str (PySem.Str.ofString "PerlError") 197)), (some (PySem.Value.builtin "Exception.__new__")), (some (PySem.Value.bool Bool.true))])
noncomputable abbrev ob24 (P : Params) : Obj := (PySem.Obj.mk (PySem.Value.type "getset_descriptor") none (PySem.Data.fields #[(PySem.Value.str (PySem.Str.ofString "__weakref__") 211), (PySem.Value.ref 31), (PySem.Value.builtin "ExceptionGroup.__weakref__"), PySem.Value.none]) #[])
noncomputable abbrev ob25 (P : Params) : Obj := (PySem.Obj.mk (PySem.Value.type "super") none (PySem.Data.fields #[(PySem.Value.ref 31), (PySem.Value.ref 31), (PySem.Value.ref 31)]) #[])
noncomputable abbrev ob26 (P : Params) : Obj := (PySem.Obj.mk (PySem.Value.type "builtin_function_or_method") none (PySem.Data.fields #[(PySem.Value.builtin "object.__init_subclass__"), (PySem.Value.ref 31)]) #[])
noncomputable abbrev hp1 (P : Params) : Heap := ⟨⟨[boot_o_0 P, boot_o_1 P, ob4 P, ob5 P, boot_o_4 P, boot_o_5 P, boot_o_6 P, boot_o_7 P, boot_o_8 P, boot_o_9 P, boot_o_10 P, ob0 P, ob6 P, ob2 P, ob3 P, ob7 P, ob8 P, ob9 P, ob10 P, ob11 P, ob12 P, ob13 P, ob14 P, ob15 P, ob16 P, ob17 P, ob18 P, ob19 P, ob20 P, ob21 P, ob22 P, ob23 P, ob24 P, ob25 P, ob26 P]⟩,
  (PySem.Life.mk [] [] [] 0 [] [] Bool.false #[] [] 0 Bool.false Bool.false Bool.false (0 : Int) [(2000 : Int), (10 : Int), (10 : Int)] Bool.false 0 Bool.true [] [] 0 Bool.false)⟩
noncomputable abbrev st1 (w : World) (os : OsState) : Shared := ⟨hp1 w.params, #[], (PySem.Drawn.mk 0 0 0 0), 218, os⟩
noncomputable abbrev sl0 : List Stmt := (topL.drop 0).take 2
theorem pc0 (w : World) (os : OsState) : segRun treeTable pw w 11 (some (PySem.Value.ref 6)) 1 238 (st0 w os) (piecesOf sl0 envT codT (PySem.Pos.mk 0 0 0 0) frT) = some (.next, st1 w os, codT, (PySem.Pos.mk 2 0 6 24)) := by walk_at "myPiece"
noncomputable abbrev ob27 (P : Params) : Obj := (PySem.Obj.mk (PySem.Value.type "dict") none (PySem.Data.dict #[(PySem.DictEntry.mk (PySem.PyData.keyHash P (PySem.Str.ofString "__name__")) (PySem.Value.str (PySem.Str.ofString "__name__") 165) (PySem.Value.str (PySem.Str.ofString "perlcore.errors") 187)), (PySem.DictEntry.mk (PySem.PyData.keyHash P (PySem.Str.ofString "__doc__")) (PySem.Value.str (PySem.Str.ofString "__doc__") 166) PySem.Value.none), (PySem.DictEntry.mk (PySem.PyData.keyHash P (PySem.Str.ofString "__package__")) (PySem.Value.str (PySem.Str.ofString "__package__") 167) PySem.Value.none), (PySem.DictEntry.mk (PySem.PyData.keyHash P (PySem.Str.ofString "__loader__")) (PySem.Value.str (PySem.Str.ofString "__loader__") 168) (valAt (boot_o_3 P) 3)), (PySem.DictEntry.mk (PySem.PyData.keyHash P (PySem.Str.ofString "__spec__")) (PySem.Value.str (PySem.Str.ofString "__spec__") 169) PySem.Value.none), (PySem.DictEntry.mk (PySem.PyData.keyHash P (PySem.Str.ofString "__annotations__")) (PySem.Value.str (PySem.Str.ofString "__annotations__") 170) (PySem.Value.ref 6)), (PySem.DictEntry.mk (PySem.PyData.keyHash P (PySem.Str.ofString "__builtins__")) (PySem.Value.str (PySem.Str.ofString "__builtins__") 171) (PySem.Value.ref 4)), (PySem.DictEntry.mk (PySem.PyData.keyHash P (PySem.Str.ofString "__file__")) (PySem.Value.str (PySem.Str.ofString "__file__") 173) (PySem.Value.str (PySem.Str.ofString "/claim/cut.py") 172)), (PySem.DictEntry.mk (PySem.PyData.keyHash P (PySem.Str.ofString "__cached__")) (PySem.Value.str (PySem.Str.ofString "__cached__") 174) PySem.Value.none), (PySem.DictEntry.mk (PySem.PyData.keyHash P (PySem.Str.ofString "PerlError")) (PySem.Value.str (PySem.Str.ofString "PerlError") 217) (PySem.Value.ref 31)), (PySem.DictEntry.mk (PySem.PyData.keyHash P (PySem.Str.ofString "Die")) (PySem.Value.str (PySem.Str.ofString "Die") 242) (PySem.Value.ref 51))] 11) #[])
noncomputable abbrev ob28 (P : Params) : Obj := (PySem.Obj.mk PySem.Value.none none (PySem.Data.fields #[(PySem.Value.int (2 : Int) 0), (PySem.Value.int (0 : Int) 0), (PySem.Value.ref 20), (PySem.Value.int (7 : Int) 0), (PySem.Value.int (0 : Int) 0), (PySem.Value.ref 40)]) #[])
noncomputable abbrev ob29 (P : Params) : Obj := (PySem.Obj.mk (PySem.Value.type "type") none (PySem.Data.cls (PySem.ClassData.mk (PySem.Str.ofString "PerlError") [(PySem.Value.type "Exception")] [(PySem.Value.ref 31), (PySem.Value.type "Exception"), (PySem.Value.type "BaseException"), (PySem.Value.type "object")] 30 (PySem.Str.ofString "PerlError") Bool.true [] [(PySem.Value.ref 51)] Bool.false none Bool.false)) #[(some (PySem.Value.ref 15)), none, (some (PySem.Value.str (PySem.Str.ofString "PerlError") 189)), (some (PySem.Value.str (PySem.Str.ofString "PerlError") 197)), (some (PySem.Value.builtin "Exception.__new__")), (some (PySem.Value.bool Bool.true))])
noncomputable abbrev ob30 (P : Params) : Obj := (PySem.Obj.mk (PySem.Value.type "tuple") none (PySem.Data.seq #[(PySem.Value.ref 31)] 0) #[])
noncomputable abbrev ob31 (P : Params) : Obj := (PySem.Obj.mk (PySem.Value.type "builtin_function_or_method") none (PySem.Data.fields #[(PySem.Value.builtin "type.__prepare__"), (PySem.Value.type "type")]) #[])
noncomputable abbrev ob32 (P : Params) : Obj := (PySem.Obj.mk (PySem.Value.type "dict") none (PySem.Data.dict #[(PySem.DictEntry.mk (PySem.PyData.keyHash P (PySem.Str.ofString "__module__")) (PySem.Value.str (PySem.Str.ofString "__module__") 225) (PySem.Value.str (PySem.Str.ofString "perlcore.errors") 187)), (PySem.DictEntry.mk (PySem.PyData.keyHash P (PySem.Str.ofString "__qualname__")) (PySem.Value.str (PySem.Str.ofString "__qualname__") 227) (PySem.Value.str (PySem.Str.ofString "Die") 226)), (PySem.DictEntry.mk (PySem.PyData.keyHash P (PySem.Str.ofString "__firstlineno__")) (PySem.Value.str (PySem.Str.ofString "__firstlineno__") 229) (PySem.Value.int (7 : Int) 228)), (PySem.DictEntry.mk (PySem.PyData.keyHash P (PySem.Str.ofString "__init__")) (PySem.Value.str (PySem.Str.ofString "__init__") 237) (PySem.Value.ref 48)), (PySem.DictEntry.mk (PySem.PyData.keyHash P (PySem.Str.ofString "__static_attributes__")) (PySem.Value.str (PySem.Str.ofString "__static_attributes__") 239) (PySem.Value.ref 49))] 5) #[])
noncomputable abbrev ob33 (P : Params) : Obj := (PySem.Obj.mk (PySem.Value.type "tuple") none (PySem.Data.seq #[] 0) #[])
noncomputable abbrev ob34 (P : Params) : Obj := (PySem.Obj.mk PySem.Value.none none (PySem.Data.fields #[(PySem.Value.int (9 : Int) 0), (PySem.Value.int (4 : Int) 0), (PySem.Value.ref 47)]) #[])
noncomputable abbrev ob35 (P : Params) : Obj := (PySem.Obj.mk (PySem.Value.type "code") none (PySem.Data.fields #[(PySem.Value.str (PySem.Str.ofString "Die") 220), (PySem.Value.str (PySem.Str.ofString "Die") 221), (PySem.Value.str (PySem.Str.ofString "/claim/cut.py") 222), (PySem.Value.int (7 : Int) 0), (PySem.Value.int (0 : Int) 0), (PySem.Value.int (0 : Int) 0), (PySem.Value.int (0 : Int) 0), (PySem.Value.int (0 : Int) 0), (PySem.Value.ref 38), (PySem.Value.bool Bool.false), (PySem.Value.int (181 : Int) 0), (PySem.Value.ref 39), PySem.Value.none, PySem.Value.none, PySem.Value.none, PySem.Value.none, (PySem.Value.int (223 : Int) 0), (PySem.Value.int (7 : Int) 0), (PySem.Value.str (PySem.Str.ofString "/claim/cut.py") 224)]) #[])
noncomputable abbrev ob36 (P : Params) : Obj := (PySem.Obj.mk (PySem.Value.type "frame") none PySem.Data.plain #[(some (PySem.Value.ref 40)), (some (PySem.Value.ref 3)), (some (PySem.Value.ref 37)), none, (some (PySem.Value.str (PySem.Str.ofString "perlcore.errors") 187)), none, (some (PySem.Value.ref 0))])
noncomputable abbrev ob37 (P : Params) : Obj := (PySem.Obj.mk (PySem.Value.type "tuple") none (PySem.Data.seq #[] 0) #[])
noncomputable abbrev ob38 (P : Params) : Obj := (PySem.Obj.mk PySem.Value.none none (PySem.Data.fields #[]) #[])
noncomputable abbrev ob39 (P : Params) : Obj := (PySem.Obj.mk (PySem.Value.type "tuple") none (PySem.Data.seq #[(PySem.Value.str (PySem.Str.ofString "self") 233), (PySem.Value.str (PySem.Str.ofString "value") 234)] 0) #[])
noncomputable abbrev ob40 (P : Params) : Obj := (PySem.Obj.mk (PySem.Value.type "tuple") none (PySem.Data.seq #[] 0) #[])
noncomputable abbrev ob41 (P : Params) : Obj := (PySem.Obj.mk PySem.Value.none none (PySem.Data.func (PySem.FuncData.mk (PySem.Str.ofString "__init__") (PySem.Str.ofString "Die.__init__") df1.1 (FuncBody.stmts df1.2.1) df1.2.2 0 [] PySem.Value.none PySem.Value.none PySem.Value.none PySem.Value.none none PySem.Value.none PySem.Value.none 0)) #[])
noncomputable abbrev ob42 (P : Params) : Obj := (PySem.Obj.mk (PySem.Value.type "code") none (PySem.Data.fields #[(PySem.Value.str (PySem.Str.ofString "__init__") 230), (PySem.Value.str (PySem.Str.ofString "Die.__init__") 231), (PySem.Value.str (PySem.Str.ofString "/claim/cut.py") 232), (PySem.Value.int (9 : Int) 0), (PySem.Value.int (2 : Int) 0), (PySem.Value.int (0 : Int) 0), (PySem.Value.int (0 : Int) 0), (PySem.Value.int (3 : Int) 0), (PySem.Value.ref 42), (PySem.Value.bool Bool.true), (PySem.Value.int (181 : Int) 0), (PySem.Value.ref 43), PySem.Value.none, (PySem.Value.ref 44), (PySem.Value.ref 45), (PySem.Value.ref 46), (PySem.Value.int (235 : Int) 0), (PySem.Value.int (9 : Int) 0), (PySem.Value.str (PySem.Str.ofString "/claim/cut.py") 236)]) #[])
noncomputable abbrev ob43 (P : Params) : Obj := (PySem.Obj.mk (PySem.Value.type "function") none (PySem.Data.func (PySem.FuncData.mk (PySem.Str.ofString "__init__") (PySem.Str.ofString "Die.__init__") df1.1 (FuncBody.stmts df1.2.1) df1.2.2 3 [] PySem.Value.none PySem.Value.none PySem.Value.none (PySem.Value.str (PySem.Str.ofString "perlcore.errors") 187) none (PySem.Value.ref 47) PySem.Value.none 0)) #[])
noncomputable abbrev ob44 (P : Params) : Obj := (PySem.Obj.mk (PySem.Value.type "tuple") none (PySem.Data.seq #[(PySem.Value.str (PySem.Str.ofString "value") 238)] 0) #[])
noncomputable abbrev ob45 (P : Params) : Obj := (PySem.Obj.mk (PySem.Value.type "dict") none (PySem.Data.dict #[(PySem.DictEntry.mk (PySem.PyData.keyHash P (PySem.Str.ofString "__module__")) (PySem.Value.str (PySem.Str.ofString "__module__") 225) (PySem.Value.str (PySem.Str.ofString "perlcore.errors") 187)), (PySem.DictEntry.mk (PySem.PyData.keyHash P (PySem.Str.ofString "__firstlineno__")) (PySem.Value.str (PySem.Str.ofString "__firstlineno__") 229) (PySem.Value.int (7 : Int) 228)), (PySem.DictEntry.mk (PySem.PyData.keyHash P (PySem.Str.ofString "__init__")) (PySem.Value.str (PySem.Str.ofString "__init__") 237) (PySem.Value.ref 48)), (PySem.DictEntry.mk (PySem.PyData.keyHash P (PySem.Str.ofString "__static_attributes__")) (PySem.Value.str (PySem.Str.ofString "__static_attributes__") 239) (PySem.Value.ref 49)), (PySem.DictEntry.mk (PySem.PyData.keyHash P (PySem.Str.ofString "__doc__")) (PySem.Value.str (PySem.Str.ofString "__doc__") 240) PySem.Value.none)] 2) #[])
noncomputable abbrev ob46 (P : Params) : Obj := (PySem.Obj.mk (PySem.Value.type "type") none (PySem.Data.cls (PySem.ClassData.mk (PySem.Str.ofString "Die") [(PySem.Value.ref 31)] [(PySem.Value.ref 51), (PySem.Value.ref 31), (PySem.Value.type "Exception"), (PySem.Value.type "BaseException"), (PySem.Value.type "object")] 50 (PySem.Str.ofString "Die") Bool.true [] [] Bool.false none Bool.false)) #[(some (PySem.Value.ref 35)), none, (some (PySem.Value.str (PySem.Str.ofString "Die") 218)), (some (PySem.Value.str (PySem.Str.ofString "Die") 226)), (some (PySem.Value.builtin "Exception.__new__")), (some (PySem.Value.bool Bool.true))])
noncomputable abbrev ob47 (P : Params) : Obj := (PySem.Obj.mk (PySem.Value.type "super") none (PySem.Data.fields #[(PySem.Value.ref 51), (PySem.Value.ref 51), (PySem.Value.ref 51)]) #[])
noncomputable abbrev ob48 (P : Params) : Obj := (PySem.Obj.mk (PySem.Value.type "builtin_function_or_method") none (PySem.Data.fields #[(PySem.Value.builtin "object.__init_subclass__"), (PySem.Value.ref 51)]) #[])
noncomputable abbrev hp2 (P : Params) : Heap := ⟨⟨[boot_o_0 P, boot_o_1 P, ob4 P, ob27 P, boot_o_4 P, boot_o_5 P, boot_o_6 P, boot_o_7 P, boot_o_8 P, boot_o_9 P, boot_o_10 P, ob0 P, ob28 P, ob2 P, ob3 P, ob7 P, ob8 P, ob9 P, ob10 P, ob11 P, ob12 P, ob13 P, ob14 P, ob15 P, ob16 P, ob17 P, ob18 P, ob19 P, ob20 P, ob21 P, ob22 P, ob29 P, ob24 P, ob25 P, ob26 P, ob30 P, ob31 P, ob32 P, ob33 P, ob34 P, ob35 P, ob36 P, ob37 P, ob38 P, ob39 P, ob40 P, ob41 P, ob42 P, ob43 P, ob44 P, ob45 P, ob46 P, ob47 P, ob48 P]⟩,
  (PySem.Life.mk [] [] [] 0 [] [] Bool.false #[] [] 0 Bool.false Bool.false Bool.false (0 : Int) [(2000 : Int), (10 : Int), (10 : Int)] Bool.false 0 Bool.true [] [] 0 Bool.false)⟩
noncomputable abbrev st2 (w : World) (os : OsState) : Shared := ⟨hp2 w.params, #[], (PySem.Drawn.mk 0 0 0 0), 243, os⟩
noncomputable abbrev sl1 : List Stmt := (topL.drop 2).take 1
theorem pc1 (w : World) (os : OsState) : segRun treeTable pw w 11 (some (PySem.Value.ref 6)) 1 246 (st1 w os) (piecesOf sl1 envT codT (PySem.Pos.mk 2 0 6 24) frT) = some (.next, st2 w os, codT, (PySem.Pos.mk 7 0 11 26)) := by walk_at "myPiece"
noncomputable abbrev ob49 (P : Params) : Obj := (PySem.Obj.mk (PySem.Value.type "dict") none (PySem.Data.dict #[(PySem.DictEntry.mk (PySem.PyData.keyHash P (PySem.Str.ofString "__name__")) (PySem.Value.str (PySem.Str.ofString "__name__") 165) (PySem.Value.str (PySem.Str.ofString "perlcore.quotes") 269)), (PySem.DictEntry.mk (PySem.PyData.keyHash P (PySem.Str.ofString "__doc__")) (PySem.Value.str (PySem.Str.ofString "__doc__") 166) PySem.Value.none), (PySem.DictEntry.mk (PySem.PyData.keyHash P (PySem.Str.ofString "__package__")) (PySem.Value.str (PySem.Str.ofString "__package__") 167) PySem.Value.none), (PySem.DictEntry.mk (PySem.PyData.keyHash P (PySem.Str.ofString "__loader__")) (PySem.Value.str (PySem.Str.ofString "__loader__") 168) (valAt (boot_o_3 P) 3)), (PySem.DictEntry.mk (PySem.PyData.keyHash P (PySem.Str.ofString "__spec__")) (PySem.Value.str (PySem.Str.ofString "__spec__") 169) PySem.Value.none), (PySem.DictEntry.mk (PySem.PyData.keyHash P (PySem.Str.ofString "__annotations__")) (PySem.Value.str (PySem.Str.ofString "__annotations__") 170) (PySem.Value.ref 6)), (PySem.DictEntry.mk (PySem.PyData.keyHash P (PySem.Str.ofString "__builtins__")) (PySem.Value.str (PySem.Str.ofString "__builtins__") 171) (PySem.Value.ref 4)), (PySem.DictEntry.mk (PySem.PyData.keyHash P (PySem.Str.ofString "__file__")) (PySem.Value.str (PySem.Str.ofString "__file__") 173) (PySem.Value.str (PySem.Str.ofString "/claim/cut.py") 172)), (PySem.DictEntry.mk (PySem.PyData.keyHash P (PySem.Str.ofString "__cached__")) (PySem.Value.str (PySem.Str.ofString "__cached__") 174) PySem.Value.none), (PySem.DictEntry.mk (PySem.PyData.keyHash P (PySem.Str.ofString "PerlError")) (PySem.Value.str (PySem.Str.ofString "PerlError") 217) (PySem.Value.ref 31)), (PySem.DictEntry.mk (PySem.PyData.keyHash P (PySem.Str.ofString "Die")) (PySem.Value.str (PySem.Str.ofString "Die") 242) (PySem.Value.ref 51)), (PySem.DictEntry.mk (PySem.PyData.keyHash P (PySem.Str.ofString "SyntaxDie")) (PySem.Value.str (PySem.Str.ofString "SyntaxDie") 268) (PySem.Value.ref 70))] 12) #[])
noncomputable abbrev ob50 (P : Params) : Obj := (PySem.Obj.mk PySem.Value.none none (PySem.Data.fields #[(PySem.Value.int (2 : Int) 0), (PySem.Value.int (0 : Int) 0), (PySem.Value.ref 20), (PySem.Value.int (7 : Int) 0), (PySem.Value.int (0 : Int) 0), (PySem.Value.ref 40), (PySem.Value.int (12 : Int) 0), (PySem.Value.int (0 : Int) 0), (PySem.Value.ref 59)]) #[])
noncomputable abbrev ob51 (P : Params) : Obj := (PySem.Obj.mk (PySem.Value.type "type") none (PySem.Data.cls (PySem.ClassData.mk (PySem.Str.ofString "PerlError") [(PySem.Value.type "Exception")] [(PySem.Value.ref 31), (PySem.Value.type "Exception"), (PySem.Value.type "BaseException"), (PySem.Value.type "object")] 30 (PySem.Str.ofString "PerlError") Bool.true [] [(PySem.Value.ref 51), (PySem.Value.ref 70)] Bool.false none Bool.false)) #[(some (PySem.Value.ref 15)), none, (some (PySem.Value.str (PySem.Str.ofString "PerlError") 189)), (some (PySem.Value.str (PySem.Str.ofString "PerlError") 197)), (some (PySem.Value.builtin "Exception.__new__")), (some (PySem.Value.bool Bool.true))])
noncomputable abbrev ob52 (P : Params) : Obj := (PySem.Obj.mk (PySem.Value.type "tuple") none (PySem.Data.seq #[(PySem.Value.ref 31)] 0) #[])
noncomputable abbrev ob53 (P : Params) : Obj := (PySem.Obj.mk (PySem.Value.type "builtin_function_or_method") none (PySem.Data.fields #[(PySem.Value.builtin "type.__prepare__"), (PySem.Value.type "type")]) #[])
noncomputable abbrev ob54 (P : Params) : Obj := (PySem.Obj.mk (PySem.Value.type "dict") none (PySem.Data.dict #[(PySem.DictEntry.mk (PySem.PyData.keyHash P (PySem.Str.ofString "__module__")) (PySem.Value.str (PySem.Str.ofString "__module__") 250) (PySem.Value.str (PySem.Str.ofString "perlcore.errors") 187)), (PySem.DictEntry.mk (PySem.PyData.keyHash P (PySem.Str.ofString "__qualname__")) (PySem.Value.str (PySem.Str.ofString "__qualname__") 252) (PySem.Value.str (PySem.Str.ofString "SyntaxDie") 251)), (PySem.DictEntry.mk (PySem.PyData.keyHash P (PySem.Str.ofString "__firstlineno__")) (PySem.Value.str (PySem.Str.ofString "__firstlineno__") 254) (PySem.Value.int (12 : Int) 253)), (PySem.DictEntry.mk (PySem.PyData.keyHash P (PySem.Str.ofString "__init__")) (PySem.Value.str (PySem.Str.ofString "__init__") 263) (PySem.Value.ref 67)), (PySem.DictEntry.mk (PySem.PyData.keyHash P (PySem.Str.ofString "__static_attributes__")) (PySem.Value.str (PySem.Str.ofString "__static_attributes__") 265) (PySem.Value.ref 68))] 5) #[])
noncomputable abbrev ob55 (P : Params) : Obj := (PySem.Obj.mk (PySem.Value.type "tuple") none (PySem.Data.seq #[] 0) #[])
noncomputable abbrev ob56 (P : Params) : Obj := (PySem.Obj.mk PySem.Value.none none (PySem.Data.fields #[(PySem.Value.int (14 : Int) 0), (PySem.Value.int (4 : Int) 0), (PySem.Value.ref 66)]) #[])
noncomputable abbrev ob57 (P : Params) : Obj := (PySem.Obj.mk (PySem.Value.type "code") none (PySem.Data.fields #[(PySem.Value.str (PySem.Str.ofString "SyntaxDie") 245), (PySem.Value.str (PySem.Str.ofString "SyntaxDie") 246), (PySem.Value.str (PySem.Str.ofString "/claim/cut.py") 247), (PySem.Value.int (12 : Int) 0), (PySem.Value.int (0 : Int) 0), (PySem.Value.int (0 : Int) 0), (PySem.Value.int (0 : Int) 0), (PySem.Value.int (0 : Int) 0), (PySem.Value.ref 57), (PySem.Value.bool Bool.false), (PySem.Value.int (181 : Int) 0), (PySem.Value.ref 58), PySem.Value.none, PySem.Value.none, PySem.Value.none, PySem.Value.none, (PySem.Value.int (248 : Int) 0), (PySem.Value.int (12 : Int) 0), (PySem.Value.str (PySem.Str.ofString "/claim/cut.py") 249)]) #[])
noncomputable abbrev ob58 (P : Params) : Obj := (PySem.Obj.mk (PySem.Value.type "frame") none PySem.Data.plain #[(some (PySem.Value.ref 59)), (some (PySem.Value.ref 3)), (some (PySem.Value.ref 56)), none, (some (PySem.Value.str (PySem.Str.ofString "perlcore.errors") 187)), none, (some (PySem.Value.ref 0))])
noncomputable abbrev ob59 (P : Params) : Obj := (PySem.Obj.mk (PySem.Value.type "tuple") none (PySem.Data.seq #[] 0) #[])
noncomputable abbrev ob60 (P : Params) : Obj := (PySem.Obj.mk PySem.Value.none none (PySem.Data.fields #[]) #[])
noncomputable abbrev ob61 (P : Params) : Obj := (PySem.Obj.mk (PySem.Value.type "tuple") none (PySem.Data.seq #[(PySem.Value.str (PySem.Str.ofString "self") 258), (PySem.Value.str (PySem.Str.ofString "text") 259), (PySem.Value.str (PySem.Str.ofString "line") 260)] 0) #[])
noncomputable abbrev ob62 (P : Params) : Obj := (PySem.Obj.mk (PySem.Value.type "tuple") none (PySem.Data.seq #[] 0) #[])
noncomputable abbrev ob63 (P : Params) : Obj := (PySem.Obj.mk PySem.Value.none none (PySem.Data.func (PySem.FuncData.mk (PySem.Str.ofString "__init__") (PySem.Str.ofString "SyntaxDie.__init__") df2.1 (FuncBody.stmts df2.2.1) df2.2.2 0 [] PySem.Value.none PySem.Value.none PySem.Value.none PySem.Value.none none PySem.Value.none PySem.Value.none 0)) #[])
noncomputable abbrev ob64 (P : Params) : Obj := (PySem.Obj.mk (PySem.Value.type "code") none (PySem.Data.fields #[(PySem.Value.str (PySem.Str.ofString "__init__") 255), (PySem.Value.str (PySem.Str.ofString "SyntaxDie.__init__") 256), (PySem.Value.str (PySem.Str.ofString "/claim/cut.py") 257), (PySem.Value.int (14 : Int) 0), (PySem.Value.int (3 : Int) 0), (PySem.Value.int (0 : Int) 0), (PySem.Value.int (0 : Int) 0), (PySem.Value.int (3 : Int) 0), (PySem.Value.ref 61), (PySem.Value.bool Bool.true), (PySem.Value.int (181 : Int) 0), (PySem.Value.ref 62), PySem.Value.none, (PySem.Value.ref 63), (PySem.Value.ref 64), (PySem.Value.ref 65), (PySem.Value.int (261 : Int) 0), (PySem.Value.int (14 : Int) 0), (PySem.Value.str (PySem.Str.ofString "/claim/cut.py") 262)]) #[])
noncomputable abbrev ob65 (P : Params) : Obj := (PySem.Obj.mk (PySem.Value.type "function") none (PySem.Data.func (PySem.FuncData.mk (PySem.Str.ofString "__init__") (PySem.Str.ofString "SyntaxDie.__init__") df2.1 (FuncBody.stmts df2.2.1) df2.2.2 3 [] PySem.Value.none PySem.Value.none PySem.Value.none (PySem.Value.str (PySem.Str.ofString "perlcore.errors") 187) none (PySem.Value.ref 66) PySem.Value.none 0)) #[])
noncomputable abbrev ob66 (P : Params) : Obj := (PySem.Obj.mk (PySem.Value.type "tuple") none (PySem.Data.seq #[(PySem.Value.str (PySem.Str.ofString "line") 264)] 0) #[])
noncomputable abbrev ob67 (P : Params) : Obj := (PySem.Obj.mk (PySem.Value.type "dict") none (PySem.Data.dict #[(PySem.DictEntry.mk (PySem.PyData.keyHash P (PySem.Str.ofString "__module__")) (PySem.Value.str (PySem.Str.ofString "__module__") 250) (PySem.Value.str (PySem.Str.ofString "perlcore.errors") 187)), (PySem.DictEntry.mk (PySem.PyData.keyHash P (PySem.Str.ofString "__firstlineno__")) (PySem.Value.str (PySem.Str.ofString "__firstlineno__") 254) (PySem.Value.int (12 : Int) 253)), (PySem.DictEntry.mk (PySem.PyData.keyHash P (PySem.Str.ofString "__init__")) (PySem.Value.str (PySem.Str.ofString "__init__") 263) (PySem.Value.ref 67)), (PySem.DictEntry.mk (PySem.PyData.keyHash P (PySem.Str.ofString "__static_attributes__")) (PySem.Value.str (PySem.Str.ofString "__static_attributes__") 265) (PySem.Value.ref 68)), (PySem.DictEntry.mk (PySem.PyData.keyHash P (PySem.Str.ofString "__doc__")) (PySem.Value.str (PySem.Str.ofString "__doc__") 266) PySem.Value.none)] 2) #[])
noncomputable abbrev ob68 (P : Params) : Obj := (PySem.Obj.mk (PySem.Value.type "type") none (PySem.Data.cls (PySem.ClassData.mk (PySem.Str.ofString "SyntaxDie") [(PySem.Value.ref 31)] [(PySem.Value.ref 70), (PySem.Value.ref 31), (PySem.Value.type "Exception"), (PySem.Value.type "BaseException"), (PySem.Value.type "object")] 69 (PySem.Str.ofString "SyntaxDie") Bool.true [] [] Bool.false none Bool.false)) #[(some (PySem.Value.ref 54)), none, (some (PySem.Value.str (PySem.Str.ofString "SyntaxDie") 243)), (some (PySem.Value.str (PySem.Str.ofString "SyntaxDie") 251)), (some (PySem.Value.builtin "Exception.__new__")), (some (PySem.Value.bool Bool.true))])
noncomputable abbrev ob69 (P : Params) : Obj := (PySem.Obj.mk (PySem.Value.type "super") none (PySem.Data.fields #[(PySem.Value.ref 70), (PySem.Value.ref 70), (PySem.Value.ref 70)]) #[])
noncomputable abbrev ob70 (P : Params) : Obj := (PySem.Obj.mk (PySem.Value.type "builtin_function_or_method") none (PySem.Data.fields #[(PySem.Value.builtin "object.__init_subclass__"), (PySem.Value.ref 70)]) #[])
noncomputable abbrev hp3 (P : Params) : Heap := ⟨⟨[boot_o_0 P, boot_o_1 P, ob4 P, ob49 P, boot_o_4 P, boot_o_5 P, boot_o_6 P, boot_o_7 P, boot_o_8 P, boot_o_9 P, boot_o_10 P, ob0 P, ob50 P, ob2 P, ob3 P, ob7 P, ob8 P, ob9 P, ob10 P, ob11 P, ob12 P, ob13 P, ob14 P, ob15 P, ob16 P, ob17 P, ob18 P, ob19 P, ob20 P, ob21 P, ob22 P, ob51 P, ob24 P, ob25 P, ob26 P, ob30 P, ob31 P, ob32 P, ob33 P, ob34 P, ob35 P, ob36 P, ob37 P, ob38 P, ob39 P, ob40 P, ob41 P, ob42 P, ob43 P, ob44 P, ob45 P, ob46 P, ob47 P, ob48 P, ob52 P, ob53 P, ob54 P, ob55 P, ob56 P, ob57 P, ob58 P, ob59 P, ob60 P, ob61 P, ob62 P, ob63 P, ob64 P, ob65 P, ob66 P, ob67 P, ob68 P, ob69 P, ob70 P]⟩,
  (PySem.Life.mk [] [] [] 0 [] [] Bool.false #[] [] 0 Bool.false Bool.false Bool.false (0 : Int) [(2000 : Int), (10 : Int), (10 : Int)] Bool.false 0 Bool.true [] [] 0 Bool.false)⟩
noncomputable abbrev st3 (w : World) (os : OsState) : Shared := ⟨hp3 w.params, #[], (PySem.Drawn.mk 0 0 0 0), 271, os⟩
noncomputable abbrev sl2 : List Stmt := (topL.drop 3).take 2
theorem pc2 (w : World) (os : OsState) : segRun treeTable pw w 11 (some (PySem.Value.ref 6)) 1 256 (st2 w os) (piecesOf sl2 envT codT (PySem.Pos.mk 7 0 11 26) frT) = some (.next, st3 w os, codT, (PySem.Pos.mk 17 0 17 8)) := by walk_at "myPiece"
noncomputable abbrev ob71 (P : Params) : Obj := (PySem.Obj.mk (PySem.Value.type "dict") none (PySem.Data.dict #[(PySem.DictEntry.mk (PySem.PyData.keyHash P (PySem.Str.ofString "__name__")) (PySem.Value.str (PySem.Str.ofString "__name__") 165) (PySem.Value.str (PySem.Str.ofString "perlcore.quotes") 269)), (PySem.DictEntry.mk (PySem.PyData.keyHash P (PySem.Str.ofString "__doc__")) (PySem.Value.str (PySem.Str.ofString "__doc__") 166) PySem.Value.none), (PySem.DictEntry.mk (PySem.PyData.keyHash P (PySem.Str.ofString "__package__")) (PySem.Value.str (PySem.Str.ofString "__package__") 167) PySem.Value.none), (PySem.DictEntry.mk (PySem.PyData.keyHash P (PySem.Str.ofString "__loader__")) (PySem.Value.str (PySem.Str.ofString "__loader__") 168) (valAt (boot_o_3 P) 3)), (PySem.DictEntry.mk (PySem.PyData.keyHash P (PySem.Str.ofString "__spec__")) (PySem.Value.str (PySem.Str.ofString "__spec__") 169) PySem.Value.none), (PySem.DictEntry.mk (PySem.PyData.keyHash P (PySem.Str.ofString "__annotations__")) (PySem.Value.str (PySem.Str.ofString "__annotations__") 170) (PySem.Value.ref 6)), (PySem.DictEntry.mk (PySem.PyData.keyHash P (PySem.Str.ofString "__builtins__")) (PySem.Value.str (PySem.Str.ofString "__builtins__") 171) (PySem.Value.ref 4)), (PySem.DictEntry.mk (PySem.PyData.keyHash P (PySem.Str.ofString "__file__")) (PySem.Value.str (PySem.Str.ofString "__file__") 173) (PySem.Value.str (PySem.Str.ofString "/claim/cut.py") 172)), (PySem.DictEntry.mk (PySem.PyData.keyHash P (PySem.Str.ofString "__cached__")) (PySem.Value.str (PySem.Str.ofString "__cached__") 174) PySem.Value.none), (PySem.DictEntry.mk (PySem.PyData.keyHash P (PySem.Str.ofString "PerlError")) (PySem.Value.str (PySem.Str.ofString "PerlError") 217) (PySem.Value.ref 31)), (PySem.DictEntry.mk (PySem.PyData.keyHash P (PySem.Str.ofString "Die")) (PySem.Value.str (PySem.Str.ofString "Die") 242) (PySem.Value.ref 51)), (PySem.DictEntry.mk (PySem.PyData.keyHash P (PySem.Str.ofString "SyntaxDie")) (PySem.Value.str (PySem.Str.ofString "SyntaxDie") 268) (PySem.Value.ref 70)), (PySem.DictEntry.mk (PySem.PyData.keyHash P (PySem.Str.ofString "SHORT_ESCAPES")) (PySem.Value.str (PySem.Str.ofString "SHORT_ESCAPES") 292) (PySem.Value.ref 73))] 13) #[])
noncomputable abbrev ob72 (P : Params) : Obj := (PySem.Obj.mk (PySem.Value.type "dict") none (PySem.Data.dict #[(PySem.DictEntry.mk (PySem.PyData.keyHash P (PySem.Str.ofString "n")) (PySem.Value.str (PySem.Str.ofString "n") 271) (PySem.Value.str (PySem.Str.ofString "\n") 272)), (PySem.DictEntry.mk (PySem.PyData.keyHash P (PySem.Str.ofString "t")) (PySem.Value.str (PySem.Str.ofString "t") 273) (PySem.Value.str (PySem.Str.ofString "\t") 274)), (PySem.DictEntry.mk (PySem.PyData.keyHash P (PySem.Str.ofString "r")) (PySem.Value.str (PySem.Str.ofString "r") 275) (PySem.Value.str (PySem.Str.ofString "\x0d") 276)), (PySem.DictEntry.mk (PySem.PyData.keyHash P (PySem.Str.ofString "f")) (PySem.Value.str (PySem.Str.ofString "f") 277) (PySem.Value.str (PySem.Str.ofString "\x0c") 278)), (PySem.DictEntry.mk (PySem.PyData.keyHash P (PySem.Str.ofString "b")) (PySem.Value.str (PySem.Str.ofString "b") 279) (PySem.Value.str (PySem.Str.ofString "\x08") 280)), (PySem.DictEntry.mk (PySem.PyData.keyHash P (PySem.Str.ofString "a")) (PySem.Value.str (PySem.Str.ofString "a") 281) (PySem.Value.str (PySem.Str.ofString "\x07") 282)), (PySem.DictEntry.mk (PySem.PyData.keyHash P (PySem.Str.ofString "e")) (PySem.Value.str (PySem.Str.ofString "e") 283) (PySem.Value.str (PySem.Str.ofString "\x1b") 284))] 7) #[])
noncomputable abbrev hp4 (P : Params) : Heap := ⟨⟨[boot_o_0 P, boot_o_1 P, ob4 P, ob71 P, boot_o_4 P, boot_o_5 P, boot_o_6 P, boot_o_7 P, boot_o_8 P, boot_o_9 P, boot_o_10 P, ob0 P, ob50 P, ob2 P, ob3 P, ob7 P, ob8 P, ob9 P, ob10 P, ob11 P, ob12 P, ob13 P, ob14 P, ob15 P, ob16 P, ob17 P, ob18 P, ob19 P, ob20 P, ob21 P, ob22 P, ob51 P, ob24 P, ob25 P, ob26 P, ob30 P, ob31 P, ob32 P, ob33 P, ob34 P, ob35 P, ob36 P, ob37 P, ob38 P, ob39 P, ob40 P, ob41 P, ob42 P, ob43 P, ob44 P, ob45 P, ob46 P, ob47 P, ob48 P, ob52 P, ob53 P, ob54 P, ob55 P, ob56 P, ob57 P, ob58 P, ob59 P, ob60 P, ob61 P, ob62 P, ob63 P, ob64 P, ob65 P, ob66 P, ob67 P, ob68 P, ob69 P, ob70 P, ob72 P]⟩,
  (PySem.Life.mk [] [] [] 0 [] [] Bool.false #[] [] 0 Bool.false Bool.false Bool.false (0 : Int) [(2000 : Int), (10 : Int), (10 : Int)] Bool.false 0 Bool.true [] [] 0 Bool.false)⟩
noncomputable abbrev st4 (w : World) (os : OsState) : Shared := ⟨hp4 w.params, #[], (PySem.Drawn.mk 0 0 0 0), 293, os⟩
noncomputable abbrev sl3 : List Stmt := (topL.drop 5).take 1
theorem pc3f (w : World) (os : OsState) : segRun treeTable pw (w.withFollow "special-get-raises" false) 11 (some (PySem.Value.ref 6)) 1 116 (st3 (w.withFollow "special-get-raises" false) os) (piecesOf sl3 envT codT (PySem.Pos.mk 17 0 17 8) frT) = some (.next, st4 (w.withFollow "special-get-raises" false) os, codT, (PySem.Pos.mk 18 0 18 13)) := by walk_at "myPiece"
theorem pc3t (w : World) (os : OsState) : segRun treeTable pw (w.withFollow "special-get-raises" true) 11 (some (PySem.Value.ref 6)) 1 116 (st3 (w.withFollow "special-get-raises" true) os) (piecesOf sl3 envT codT (PySem.Pos.mk 17 0 17 8) frT) = some (.next, st4 (w.withFollow "special-get-raises" true) os, codT, (PySem.Pos.mk 18 0 18 13)) := by walk_at "myPiece"
theorem pc3 (w : World) (os : OsState) : segRun treeTable pw w 11 (some (PySem.Value.ref 6)) 1 116 (st3 w os) (piecesOf sl3 envT codT (PySem.Pos.mk 17 0 17 8) frT) = some (.next, st4 w os, codT, (PySem.Pos.mk 18 0 18 13)) :=
  byRow2 "special-get-raises" (P := fun w => ∀ os, segRun treeTable pw w 11 (some (PySem.Value.ref 6)) 1 116 (st3 w os) (piecesOf sl3 envT codT (PySem.Pos.mk 17 0 17 8) frT) = some (.next, st4 w os, codT, (PySem.Pos.mk 18 0 18 13))) pc3f pc3t w os
noncomputable abbrev ob73 (P : Params) : Obj := (PySem.Obj.mk (PySem.Value.type "dict") none (PySem.Data.dict #[(PySem.DictEntry.mk (PySem.PyData.keyHash P (PySem.Str.ofString "__name__")) (PySem.Value.str (PySem.Str.ofString "__name__") 165) (PySem.Value.str (PySem.Str.ofString "perlcore.trans") 347)), (PySem.DictEntry.mk (PySem.PyData.keyHash P (PySem.Str.ofString "__doc__")) (PySem.Value.str (PySem.Str.ofString "__doc__") 166) PySem.Value.none), (PySem.DictEntry.mk (PySem.PyData.keyHash P (PySem.Str.ofString "__package__")) (PySem.Value.str (PySem.Str.ofString "__package__") 167) PySem.Value.none), (PySem.DictEntry.mk (PySem.PyData.keyHash P (PySem.Str.ofString "__loader__")) (PySem.Value.str (PySem.Str.ofString "__loader__") 168) (valAt (boot_o_3 P) 3)), (PySem.DictEntry.mk (PySem.PyData.keyHash P (PySem.Str.ofString "__spec__")) (PySem.Value.str (PySem.Str.ofString "__spec__") 169) PySem.Value.none), (PySem.DictEntry.mk (PySem.PyData.keyHash P (PySem.Str.ofString "__annotations__")) (PySem.Value.str (PySem.Str.ofString "__annotations__") 170) (PySem.Value.ref 6)), (PySem.DictEntry.mk (PySem.PyData.keyHash P (PySem.Str.ofString "__builtins__")) (PySem.Value.str (PySem.Str.ofString "__builtins__") 171) (PySem.Value.ref 4)), (PySem.DictEntry.mk (PySem.PyData.keyHash P (PySem.Str.ofString "__file__")) (PySem.Value.str (PySem.Str.ofString "__file__") 173) (PySem.Value.str (PySem.Str.ofString "/claim/cut.py") 172)), (PySem.DictEntry.mk (PySem.PyData.keyHash P (PySem.Str.ofString "__cached__")) (PySem.Value.str (PySem.Str.ofString "__cached__") 174) PySem.Value.none), (PySem.DictEntry.mk (PySem.PyData.keyHash P (PySem.Str.ofString "PerlError")) (PySem.Value.str (PySem.Str.ofString "PerlError") 217) (PySem.Value.ref 31)), (PySem.DictEntry.mk (PySem.PyData.keyHash P (PySem.Str.ofString "Die")) (PySem.Value.str (PySem.Str.ofString "Die") 242) (PySem.Value.ref 51)), (PySem.DictEntry.mk (PySem.PyData.keyHash P (PySem.Str.ofString "SyntaxDie")) (PySem.Value.str (PySem.Str.ofString "SyntaxDie") 268) (PySem.Value.ref 70)), (PySem.DictEntry.mk (PySem.PyData.keyHash P (PySem.Str.ofString "SHORT_ESCAPES")) (PySem.Value.str (PySem.Str.ofString "SHORT_ESCAPES") 292) (PySem.Value.ref 73)), (PySem.DictEntry.mk (PySem.PyData.keyHash P (PySem.Str.ofString "CODE_FIGURES")) (PySem.Value.str (PySem.Str.ofString "CODE_FIGURES") 294) (PySem.Value.str (PySem.Str.ofString "0123456789abcdef") 293)), (PySem.DictEntry.mk (PySem.PyData.keyHash P (PySem.Str.ofString "TOP_CODE")) (PySem.Value.str (PySem.Str.ofString "TOP_CODE") 296) (PySem.Value.int (1114111 : Int) 295)), (PySem.DictEntry.mk (PySem.PyData.keyHash P (PySem.Str.ofString "digits_value")) (PySem.Value.str (PySem.Str.ofString "digits_value") 309) (PySem.Value.ref 80)), (PySem.DictEntry.mk (PySem.PyData.keyHash P (PySem.Str.ofString "coded_sign")) (PySem.Value.str (PySem.Str.ofString "coded_sign") 316) (PySem.Value.ref 87)), (PySem.DictEntry.mk (PySem.PyData.keyHash P (PySem.Str.ofString "braced_code")) (PySem.Value.str (PySem.Str.ofString "braced_code") 328) (PySem.Value.ref 94)), (PySem.DictEntry.mk (PySem.PyData.keyHash P (PySem.Str.ofString "escape_at")) (PySem.Value.str (PySem.Str.ofString "escape_at") 339) (PySem.Value.ref 101)), (PySem.DictEntry.mk (PySem.PyData.keyHash P (PySem.Str.ofString "great_letter")) (PySem.Value.str (PySem.Str.ofString "great_letter") 346) (PySem.Value.ref 108)), (PySem.DictEntry.mk (PySem.PyData.keyHash P (PySem.Str.ofString "KEPT_SIGN")) (PySem.Value.str (PySem.Str.ofString "KEPT_SIGN") 351) (PySem.Value.int (-(1 : Int) : Int) 350)), (PySem.DictEntry.mk (PySem.PyData.keyHash P (PySem.Str.ofString "DROPPED_SIGN")) (PySem.Value.str (PySem.Str.ofString "DROPPED_SIGN") 354) (PySem.Value.int (-(2 : Int) : Int) 353))] 22) #[])
noncomputable abbrev ob74 (P : Params) : Obj := (PySem.Obj.mk PySem.Value.none none (PySem.Data.fields #[(PySem.Value.int (2 : Int) 0), (PySem.Value.int (0 : Int) 0), (PySem.Value.ref 20), (PySem.Value.int (7 : Int) 0), (PySem.Value.int (0 : Int) 0), (PySem.Value.ref 40), (PySem.Value.int (12 : Int) 0), (PySem.Value.int (0 : Int) 0), (PySem.Value.ref 59), (PySem.Value.int (21 : Int) 0), (PySem.Value.int (0 : Int) 0), (PySem.Value.ref 79), (PySem.Value.int (31 : Int) 0), (PySem.Value.int (0 : Int) 0), (PySem.Value.ref 86), (PySem.Value.int (35 : Int) 0), (PySem.Value.int (0 : Int) 0), (PySem.Value.ref 93), (PySem.Value.int (41 : Int) 0), (PySem.Value.int (0 : Int) 0), (PySem.Value.ref 100), (PySem.Value.int (64 : Int) 0), (PySem.Value.int (0 : Int) 0), (PySem.Value.ref 107)]) #[])
noncomputable abbrev ob75 (P : Params) : Obj := (PySem.Obj.mk (PySem.Value.type "tuple") none (PySem.Data.seq #[] 0) #[])
noncomputable abbrev ob76 (P : Params) : Obj := (PySem.Obj.mk PySem.Value.none none (PySem.Data.fields #[]) #[])
noncomputable abbrev ob77 (P : Params) : Obj := (PySem.Obj.mk (PySem.Value.type "tuple") none (PySem.Data.seq #[(PySem.Value.str (PySem.Str.ofString "text") 300), (PySem.Value.str (PySem.Str.ofString "at") 301), (PySem.Value.str (PySem.Str.ofString "most") 302), (PySem.Value.str (PySem.Str.ofString "base") 303), (PySem.Value.str (PySem.Str.ofString "value") 304), (PySem.Value.str (PySem.Str.ofString "end") 305), (PySem.Value.str (PySem.Str.ofString "digit") 306)] 0) #[])
noncomputable abbrev ob78 (P : Params) : Obj := (PySem.Obj.mk (PySem.Value.type "tuple") none (PySem.Data.seq #[] 0) #[])
noncomputable abbrev ob79 (P : Params) : Obj := (PySem.Obj.mk PySem.Value.none none (PySem.Data.func (PySem.FuncData.mk (PySem.Str.ofString "digits_value") (PySem.Str.ofString "digits_value") df3.1 (FuncBody.stmts df3.2.1) df3.2.2 0 [] PySem.Value.none PySem.Value.none PySem.Value.none PySem.Value.none none PySem.Value.none PySem.Value.none 0)) #[])
noncomputable abbrev ob80 (P : Params) : Obj := (PySem.Obj.mk (PySem.Value.type "code") none (PySem.Data.fields #[(PySem.Value.str (PySem.Str.ofString "digits_value") 297), (PySem.Value.str (PySem.Str.ofString "digits_value") 298), (PySem.Value.str (PySem.Str.ofString "/claim/cut.py") 299), (PySem.Value.int (21 : Int) 0), (PySem.Value.int (4 : Int) 0), (PySem.Value.int (0 : Int) 0), (PySem.Value.int (0 : Int) 0), (PySem.Value.int (3 : Int) 0), (PySem.Value.ref 74), (PySem.Value.bool Bool.true), (PySem.Value.int (181 : Int) 0), (PySem.Value.ref 75), PySem.Value.none, (PySem.Value.ref 76), (PySem.Value.ref 77), (PySem.Value.ref 78), (PySem.Value.int (307 : Int) 0), (PySem.Value.int (21 : Int) 0), (PySem.Value.str (PySem.Str.ofString "/claim/cut.py") 308)]) #[])
noncomputable abbrev ob81 (P : Params) : Obj := (PySem.Obj.mk (PySem.Value.type "function") none (PySem.Data.func (PySem.FuncData.mk (PySem.Str.ofString "digits_value") (PySem.Str.ofString "digits_value") df3.1 (FuncBody.stmts df3.2.1) df3.2.2 3 [] PySem.Value.none PySem.Value.none PySem.Value.none (PySem.Value.str (PySem.Str.ofString "perlcore.quotes") 269) none (PySem.Value.ref 79) PySem.Value.none 0)) #[])
noncomputable abbrev ob82 (P : Params) : Obj := (PySem.Obj.mk (PySem.Value.type "tuple") none (PySem.Data.seq #[] 0) #[])
noncomputable abbrev ob83 (P : Params) : Obj := (PySem.Obj.mk PySem.Value.none none (PySem.Data.fields #[]) #[])
noncomputable abbrev ob84 (P : Params) : Obj := (PySem.Obj.mk (PySem.Value.type "tuple") none (PySem.Data.seq #[(PySem.Value.str (PySem.Str.ofString "code") 313)] 0) #[])
noncomputable abbrev ob85 (P : Params) : Obj := (PySem.Obj.mk (PySem.Value.type "tuple") none (PySem.Data.seq #[] 0) #[])
noncomputable abbrev ob86 (P : Params) : Obj := (PySem.Obj.mk PySem.Value.none none (PySem.Data.func (PySem.FuncData.mk (PySem.Str.ofString "coded_sign") (PySem.Str.ofString "coded_sign") df4.1 (FuncBody.stmts df4.2.1) df4.2.2 0 [] PySem.Value.none PySem.Value.none PySem.Value.none PySem.Value.none none PySem.Value.none PySem.Value.none 0)) #[])
noncomputable abbrev ob87 (P : Params) : Obj := (PySem.Obj.mk (PySem.Value.type "code") none (PySem.Data.fields #[(PySem.Value.str (PySem.Str.ofString "coded_sign") 310), (PySem.Value.str (PySem.Str.ofString "coded_sign") 311), (PySem.Value.str (PySem.Str.ofString "/claim/cut.py") 312), (PySem.Value.int (31 : Int) 0), (PySem.Value.int (1 : Int) 0), (PySem.Value.int (0 : Int) 0), (PySem.Value.int (0 : Int) 0), (PySem.Value.int (3 : Int) 0), (PySem.Value.ref 81), (PySem.Value.bool Bool.true), (PySem.Value.int (181 : Int) 0), (PySem.Value.ref 82), PySem.Value.none, (PySem.Value.ref 83), (PySem.Value.ref 84), (PySem.Value.ref 85), (PySem.Value.int (314 : Int) 0), (PySem.Value.int (31 : Int) 0), (PySem.Value.str (PySem.Str.ofString "/claim/cut.py") 315)]) #[])
noncomputable abbrev ob88 (P : Params) : Obj := (PySem.Obj.mk (PySem.Value.type "function") none (PySem.Data.func (PySem.FuncData.mk (PySem.Str.ofString "coded_sign") (PySem.Str.ofString "coded_sign") df4.1 (FuncBody.stmts df4.2.1) df4.2.2 3 [] PySem.Value.none PySem.Value.none PySem.Value.none (PySem.Value.str (PySem.Str.ofString "perlcore.quotes") 269) none (PySem.Value.ref 86) PySem.Value.none 0)) #[])
noncomputable abbrev ob89 (P : Params) : Obj := (PySem.Obj.mk (PySem.Value.type "tuple") none (PySem.Data.seq #[] 0) #[])
noncomputable abbrev ob90 (P : Params) : Obj := (PySem.Obj.mk PySem.Value.none none (PySem.Data.fields #[]) #[])
noncomputable abbrev ob91 (P : Params) : Obj := (PySem.Obj.mk (PySem.Value.type "tuple") none (PySem.Data.seq #[(PySem.Value.str (PySem.Str.ofString "text") 320), (PySem.Value.str (PySem.Str.ofString "at") 321), (PySem.Value.str (PySem.Str.ofString "base") 322), (PySem.Value.str (PySem.Str.ofString "end") 323), (PySem.Value.str (PySem.Str.ofString "value") 324), (PySem.Value.str (PySem.Str.ofString "behind") 325)] 0) #[])
noncomputable abbrev ob92 (P : Params) : Obj := (PySem.Obj.mk (PySem.Value.type "tuple") none (PySem.Data.seq #[] 0) #[])
noncomputable abbrev ob93 (P : Params) : Obj := (PySem.Obj.mk PySem.Value.none none (PySem.Data.func (PySem.FuncData.mk (PySem.Str.ofString "braced_code") (PySem.Str.ofString "braced_code") df5.1 (FuncBody.stmts df5.2.1) df5.2.2 0 [] PySem.Value.none PySem.Value.none PySem.Value.none PySem.Value.none none PySem.Value.none PySem.Value.none 0)) #[])
noncomputable abbrev ob94 (P : Params) : Obj := (PySem.Obj.mk (PySem.Value.type "code") none (PySem.Data.fields #[(PySem.Value.str (PySem.Str.ofString "braced_code") 317), (PySem.Value.str (PySem.Str.ofString "braced_code") 318), (PySem.Value.str (PySem.Str.ofString "/claim/cut.py") 319), (PySem.Value.int (35 : Int) 0), (PySem.Value.int (3 : Int) 0), (PySem.Value.int (0 : Int) 0), (PySem.Value.int (0 : Int) 0), (PySem.Value.int (3 : Int) 0), (PySem.Value.ref 88), (PySem.Value.bool Bool.true), (PySem.Value.int (181 : Int) 0), (PySem.Value.ref 89), PySem.Value.none, (PySem.Value.ref 90), (PySem.Value.ref 91), (PySem.Value.ref 92), (PySem.Value.int (326 : Int) 0), (PySem.Value.int (35 : Int) 0), (PySem.Value.str (PySem.Str.ofString "/claim/cut.py") 327)]) #[])
noncomputable abbrev ob95 (P : Params) : Obj := (PySem.Obj.mk (PySem.Value.type "function") none (PySem.Data.func (PySem.FuncData.mk (PySem.Str.ofString "braced_code") (PySem.Str.ofString "braced_code") df5.1 (FuncBody.stmts df5.2.1) df5.2.2 3 [] PySem.Value.none PySem.Value.none PySem.Value.none (PySem.Value.str (PySem.Str.ofString "perlcore.quotes") 269) none (PySem.Value.ref 93) PySem.Value.none 0)) #[])
noncomputable abbrev ob96 (P : Params) : Obj := (PySem.Obj.mk (PySem.Value.type "tuple") none (PySem.Data.seq #[] 0) #[])
noncomputable abbrev ob97 (P : Params) : Obj := (PySem.Obj.mk PySem.Value.none none (PySem.Data.fields #[]) #[])
noncomputable abbrev ob98 (P : Params) : Obj := (PySem.Obj.mk (PySem.Value.type "tuple") none (PySem.Data.seq #[(PySem.Value.str (PySem.Str.ofString "text") 332), (PySem.Value.str (PySem.Str.ofString "at") 333), (PySem.Value.str (PySem.Str.ofString "sign") 334), (PySem.Value.str (PySem.Str.ofString "value") 335), (PySem.Value.str (PySem.Str.ofString "end") 336)] 0) #[])
noncomputable abbrev ob99 (P : Params) : Obj := (PySem.Obj.mk (PySem.Value.type "tuple") none (PySem.Data.seq #[] 0) #[])
noncomputable abbrev ob100 (P : Params) : Obj := (PySem.Obj.mk PySem.Value.none none (PySem.Data.func (PySem.FuncData.mk (PySem.Str.ofString "escape_at") (PySem.Str.ofString "escape_at") df6.1 (FuncBody.stmts df6.2.1) df6.2.2 0 [] PySem.Value.none PySem.Value.none PySem.Value.none PySem.Value.none none PySem.Value.none PySem.Value.none 0)) #[])
noncomputable abbrev ob101 (P : Params) : Obj := (PySem.Obj.mk (PySem.Value.type "code") none (PySem.Data.fields #[(PySem.Value.str (PySem.Str.ofString "escape_at") 329), (PySem.Value.str (PySem.Str.ofString "escape_at") 330), (PySem.Value.str (PySem.Str.ofString "/claim/cut.py") 331), (PySem.Value.int (41 : Int) 0), (PySem.Value.int (2 : Int) 0), (PySem.Value.int (0 : Int) 0), (PySem.Value.int (0 : Int) 0), (PySem.Value.int (3 : Int) 0), (PySem.Value.ref 95), (PySem.Value.bool Bool.true), (PySem.Value.int (181 : Int) 0), (PySem.Value.ref 96), PySem.Value.none, (PySem.Value.ref 97), (PySem.Value.ref 98), (PySem.Value.ref 99), (PySem.Value.int (337 : Int) 0), (PySem.Value.int (41 : Int) 0), (PySem.Value.str (PySem.Str.ofString "/claim/cut.py") 338)]) #[])
noncomputable abbrev ob102 (P : Params) : Obj := (PySem.Obj.mk (PySem.Value.type "function") none (PySem.Data.func (PySem.FuncData.mk (PySem.Str.ofString "escape_at") (PySem.Str.ofString "escape_at") df6.1 (FuncBody.stmts df6.2.1) df6.2.2 3 [] PySem.Value.none PySem.Value.none PySem.Value.none (PySem.Value.str (PySem.Str.ofString "perlcore.quotes") 269) none (PySem.Value.ref 100) PySem.Value.none 0)) #[])
noncomputable abbrev ob103 (P : Params) : Obj := (PySem.Obj.mk (PySem.Value.type "tuple") none (PySem.Data.seq #[] 0) #[])
noncomputable abbrev ob104 (P : Params) : Obj := (PySem.Obj.mk PySem.Value.none none (PySem.Data.fields #[]) #[])
noncomputable abbrev ob105 (P : Params) : Obj := (PySem.Obj.mk (PySem.Value.type "tuple") none (PySem.Data.seq #[(PySem.Value.str (PySem.Str.ofString "sign") 343)] 0) #[])
noncomputable abbrev ob106 (P : Params) : Obj := (PySem.Obj.mk (PySem.Value.type "tuple") none (PySem.Data.seq #[] 0) #[])
noncomputable abbrev ob107 (P : Params) : Obj := (PySem.Obj.mk PySem.Value.none none (PySem.Data.func (PySem.FuncData.mk (PySem.Str.ofString "great_letter") (PySem.Str.ofString "great_letter") df7.1 (FuncBody.stmts df7.2.1) df7.2.2 0 [] PySem.Value.none PySem.Value.none PySem.Value.none PySem.Value.none none PySem.Value.none PySem.Value.none 0)) #[])
noncomputable abbrev ob108 (P : Params) : Obj := (PySem.Obj.mk (PySem.Value.type "code") none (PySem.Data.fields #[(PySem.Value.str (PySem.Str.ofString "great_letter") 340), (PySem.Value.str (PySem.Str.ofString "great_letter") 341), (PySem.Value.str (PySem.Str.ofString "/claim/cut.py") 342), (PySem.Value.int (64 : Int) 0), (PySem.Value.int (1 : Int) 0), (PySem.Value.int (0 : Int) 0), (PySem.Value.int (0 : Int) 0), (PySem.Value.int (3 : Int) 0), (PySem.Value.ref 102), (PySem.Value.bool Bool.true), (PySem.Value.int (181 : Int) 0), (PySem.Value.ref 103), PySem.Value.none, (PySem.Value.ref 104), (PySem.Value.ref 105), (PySem.Value.ref 106), (PySem.Value.int (344 : Int) 0), (PySem.Value.int (64 : Int) 0), (PySem.Value.str (PySem.Str.ofString "/claim/cut.py") 345)]) #[])
noncomputable abbrev ob109 (P : Params) : Obj := (PySem.Obj.mk (PySem.Value.type "function") none (PySem.Data.func (PySem.FuncData.mk (PySem.Str.ofString "great_letter") (PySem.Str.ofString "great_letter") df7.1 (FuncBody.stmts df7.2.1) df7.2.2 3 [] PySem.Value.none PySem.Value.none PySem.Value.none (PySem.Value.str (PySem.Str.ofString "perlcore.quotes") 269) none (PySem.Value.ref 107) PySem.Value.none 0)) #[])
noncomputable abbrev hp5 (P : Params) : Heap := ⟨⟨[boot_o_0 P, boot_o_1 P, ob4 P, ob73 P, boot_o_4 P, boot_o_5 P, boot_o_6 P, boot_o_7 P, boot_o_8 P, boot_o_9 P, boot_o_10 P, ob0 P, ob74 P, ob2 P, ob3 P, ob7 P, ob8 P, ob9 P, ob10 P, ob11 P, ob12 P, ob13 P, ob14 P, ob15 P, ob16 P, ob17 P, ob18 P, ob19 P, ob20 P, ob21 P, ob22 P, ob51 P, ob24 P, ob25 P, ob26 P, ob30 P, ob31 P, ob32 P, ob33 P, ob34 P, ob35 P, ob36 P, ob37 P, ob38 P, ob39 P, ob40 P, ob41 P, ob42 P, ob43 P, ob44 P, ob45 P, ob46 P, ob47 P, ob48 P, ob52 P, ob53 P, ob54 P, ob55 P, ob56 P, ob57 P, ob58 P, ob59 P, ob60 P, ob61 P, ob62 P, ob63 P, ob64 P, ob65 P, ob66 P, ob67 P, ob68 P, ob69 P, ob70 P, ob72 P, ob75 P, ob76 P, ob77 P, ob78 P, ob79 P, ob80 P, ob81 P, ob82 P, ob83 P, ob84 P, ob85 P, ob86 P, ob87 P, ob88 P, ob89 P, ob90 P, ob91 P, ob92 P, ob93 P, ob94 P, ob95 P, ob96 P, ob97 P, ob98 P, ob99 P, ob100 P, ob101 P, ob102 P, ob103 P, ob104 P, ob105 P, ob106 P, ob107 P, ob108 P, ob109 P]⟩,
  (PySem.Life.mk [] [] [] 0 [] [] Bool.false #[] [] 0 Bool.false Bool.false Bool.false (0 : Int) [(2000 : Int), (10 : Int), (10 : Int)] Bool.false 0 Bool.true [] [] 0 Bool.false)⟩
noncomputable abbrev st5 (w : World) (os : OsState) : Shared := ⟨hp5 w.params, #[], (PySem.Drawn.mk 0 0 0 0), 355, os⟩
noncomputable abbrev sl4 : List Stmt := (topL.drop 6).take 10
theorem pc4 (w : World) (os : OsState) : segRun treeTable pw w 11 (some (PySem.Value.ref 6)) 1 216 (st4 w os) (piecesOf sl4 envT codT (PySem.Pos.mk 18 0 18 13) frT) = some (.next, st5 w os, codT, (PySem.Pos.mk 70 0 70 12)) := by walk_at "myPiece"
noncomputable abbrev ob110 (P : Params) : Obj := (PySem.Obj.mk (PySem.Value.type "dict") none (PySem.Data.dict #[(PySem.DictEntry.mk (PySem.PyData.keyHash P (PySem.Str.ofString "__name__")) (PySem.Value.str (PySem.Str.ofString "__name__") 165) (PySem.Value.str (PySem.Str.ofString "perlcore.trans") 347)), (PySem.DictEntry.mk (PySem.PyData.keyHash P (PySem.Str.ofString "__doc__")) (PySem.Value.str (PySem.Str.ofString "__doc__") 166) PySem.Value.none), (PySem.DictEntry.mk (PySem.PyData.keyHash P (PySem.Str.ofString "__package__")) (PySem.Value.str (PySem.Str.ofString "__package__") 167) PySem.Value.none), (PySem.DictEntry.mk (PySem.PyData.keyHash P (PySem.Str.ofString "__loader__")) (PySem.Value.str (PySem.Str.ofString "__loader__") 168) (valAt (boot_o_3 P) 3)), (PySem.DictEntry.mk (PySem.PyData.keyHash P (PySem.Str.ofString "__spec__")) (PySem.Value.str (PySem.Str.ofString "__spec__") 169) PySem.Value.none), (PySem.DictEntry.mk (PySem.PyData.keyHash P (PySem.Str.ofString "__annotations__")) (PySem.Value.str (PySem.Str.ofString "__annotations__") 170) (PySem.Value.ref 6)), (PySem.DictEntry.mk (PySem.PyData.keyHash P (PySem.Str.ofString "__builtins__")) (PySem.Value.str (PySem.Str.ofString "__builtins__") 171) (PySem.Value.ref 4)), (PySem.DictEntry.mk (PySem.PyData.keyHash P (PySem.Str.ofString "__file__")) (PySem.Value.str (PySem.Str.ofString "__file__") 173) (PySem.Value.str (PySem.Str.ofString "/claim/cut.py") 172)), (PySem.DictEntry.mk (PySem.PyData.keyHash P (PySem.Str.ofString "__cached__")) (PySem.Value.str (PySem.Str.ofString "__cached__") 174) PySem.Value.none), (PySem.DictEntry.mk (PySem.PyData.keyHash P (PySem.Str.ofString "PerlError")) (PySem.Value.str (PySem.Str.ofString "PerlError") 217) (PySem.Value.ref 31)), (PySem.DictEntry.mk (PySem.PyData.keyHash P (PySem.Str.ofString "Die")) (PySem.Value.str (PySem.Str.ofString "Die") 242) (PySem.Value.ref 51)), (PySem.DictEntry.mk (PySem.PyData.keyHash P (PySem.Str.ofString "SyntaxDie")) (PySem.Value.str (PySem.Str.ofString "SyntaxDie") 268) (PySem.Value.ref 70)), (PySem.DictEntry.mk (PySem.PyData.keyHash P (PySem.Str.ofString "SHORT_ESCAPES")) (PySem.Value.str (PySem.Str.ofString "SHORT_ESCAPES") 292) (PySem.Value.ref 73)), (PySem.DictEntry.mk (PySem.PyData.keyHash P (PySem.Str.ofString "CODE_FIGURES")) (PySem.Value.str (PySem.Str.ofString "CODE_FIGURES") 294) (PySem.Value.str (PySem.Str.ofString "0123456789abcdef") 293)), (PySem.DictEntry.mk (PySem.PyData.keyHash P (PySem.Str.ofString "TOP_CODE")) (PySem.Value.str (PySem.Str.ofString "TOP_CODE") 296) (PySem.Value.int (1114111 : Int) 295)), (PySem.DictEntry.mk (PySem.PyData.keyHash P (PySem.Str.ofString "digits_value")) (PySem.Value.str (PySem.Str.ofString "digits_value") 309) (PySem.Value.ref 80)), (PySem.DictEntry.mk (PySem.PyData.keyHash P (PySem.Str.ofString "coded_sign")) (PySem.Value.str (PySem.Str.ofString "coded_sign") 316) (PySem.Value.ref 87)), (PySem.DictEntry.mk (PySem.PyData.keyHash P (PySem.Str.ofString "braced_code")) (PySem.Value.str (PySem.Str.ofString "braced_code") 328) (PySem.Value.ref 94)), (PySem.DictEntry.mk (PySem.PyData.keyHash P (PySem.Str.ofString "escape_at")) (PySem.Value.str (PySem.Str.ofString "escape_at") 339) (PySem.Value.ref 101)), (PySem.DictEntry.mk (PySem.PyData.keyHash P (PySem.Str.ofString "great_letter")) (PySem.Value.str (PySem.Str.ofString "great_letter") 346) (PySem.Value.ref 108)), (PySem.DictEntry.mk (PySem.PyData.keyHash P (PySem.Str.ofString "KEPT_SIGN")) (PySem.Value.str (PySem.Str.ofString "KEPT_SIGN") 351) (PySem.Value.int (-(1 : Int) : Int) 350)), (PySem.DictEntry.mk (PySem.PyData.keyHash P (PySem.Str.ofString "DROPPED_SIGN")) (PySem.Value.str (PySem.Str.ofString "DROPPED_SIGN") 354) (PySem.Value.int (-(2 : Int) : Int) 353)), (PySem.DictEntry.mk (PySem.PyData.keyHash P (PySem.Str.ofString "TransTable")) (PySem.Value.str (PySem.Str.ofString "TransTable") 393) (PySem.Value.ref 125))] 23) #[])
noncomputable abbrev ob111 (P : Params) : Obj := (PySem.Obj.mk PySem.Value.none none (PySem.Data.fields #[(PySem.Value.int (2 : Int) 0), (PySem.Value.int (0 : Int) 0), (PySem.Value.ref 20), (PySem.Value.int (7 : Int) 0), (PySem.Value.int (0 : Int) 0), (PySem.Value.ref 40), (PySem.Value.int (12 : Int) 0), (PySem.Value.int (0 : Int) 0), (PySem.Value.ref 59), (PySem.Value.int (21 : Int) 0), (PySem.Value.int (0 : Int) 0), (PySem.Value.ref 79), (PySem.Value.int (31 : Int) 0), (PySem.Value.int (0 : Int) 0), (PySem.Value.ref 86), (PySem.Value.int (35 : Int) 0), (PySem.Value.int (0 : Int) 0), (PySem.Value.ref 93), (PySem.Value.int (41 : Int) 0), (PySem.Value.int (0 : Int) 0), (PySem.Value.ref 100), (PySem.Value.int (64 : Int) 0), (PySem.Value.int (0 : Int) 0), (PySem.Value.ref 107), (PySem.Value.int (71 : Int) 0), (PySem.Value.int (0 : Int) 0), (PySem.Value.ref 114)]) #[])
noncomputable abbrev ob112 (P : Params) : Obj := (PySem.Obj.mk (PySem.Value.type "tuple") none (PySem.Data.seq #[] 0) #[])
noncomputable abbrev ob113 (P : Params) : Obj := (PySem.Obj.mk (PySem.Value.type "builtin_function_or_method") none (PySem.Data.fields #[(PySem.Value.builtin "type.__prepare__"), (PySem.Value.type "type")]) #[])
noncomputable abbrev ob114 (P : Params) : Obj := (PySem.Obj.mk (PySem.Value.type "dict") none (PySem.Data.dict #[(PySem.DictEntry.mk (PySem.PyData.keyHash P (PySem.Str.ofString "__module__")) (PySem.Value.str (PySem.Str.ofString "__module__") 362) (PySem.Value.str (PySem.Str.ofString "perlcore.trans") 347)), (PySem.DictEntry.mk (PySem.PyData.keyHash P (PySem.Str.ofString "__qualname__")) (PySem.Value.str (PySem.Str.ofString "__qualname__") 364) (PySem.Value.str (PySem.Str.ofString "TransTable") 363)), (PySem.DictEntry.mk (PySem.PyData.keyHash P (PySem.Str.ofString "__firstlineno__")) (PySem.Value.str (PySem.Str.ofString "__firstlineno__") 366) (PySem.Value.int (71 : Int) 365)), (PySem.DictEntry.mk (PySem.PyData.keyHash P (PySem.Str.ofString "__init__")) (PySem.Value.str (PySem.Str.ofString "__init__") 379) (PySem.Value.ref 122)), (PySem.DictEntry.mk (PySem.PyData.keyHash P (PySem.Str.ofString "__static_attributes__")) (PySem.Value.str (PySem.Str.ofString "__static_attributes__") 386) (PySem.Value.ref 123))] 5) #[])
noncomputable abbrev ob115 (P : Params) : Obj := (PySem.Obj.mk (PySem.Value.type "tuple") none (PySem.Data.seq #[] 0) #[])
noncomputable abbrev ob116 (P : Params) : Obj := (PySem.Obj.mk PySem.Value.none none (PySem.Data.fields #[(PySem.Value.int (73 : Int) 0), (PySem.Value.int (4 : Int) 0), (PySem.Value.ref 121)]) #[])
noncomputable abbrev ob117 (P : Params) : Obj := (PySem.Obj.mk (PySem.Value.type "code") none (PySem.Data.fields #[(PySem.Value.str (PySem.Str.ofString "TransTable") 357), (PySem.Value.str (PySem.Str.ofString "TransTable") 358), (PySem.Value.str (PySem.Str.ofString "/claim/cut.py") 359), (PySem.Value.int (71 : Int) 0), (PySem.Value.int (0 : Int) 0), (PySem.Value.int (0 : Int) 0), (PySem.Value.int (0 : Int) 0), (PySem.Value.int (0 : Int) 0), (PySem.Value.ref 112), (PySem.Value.bool Bool.false), (PySem.Value.int (181 : Int) 0), (PySem.Value.ref 113), PySem.Value.none, PySem.Value.none, PySem.Value.none, PySem.Value.none, (PySem.Value.int (360 : Int) 0), (PySem.Value.int (71 : Int) 0), (PySem.Value.str (PySem.Str.ofString "/claim/cut.py") 361)]) #[])
noncomputable abbrev ob118 (P : Params) : Obj := (PySem.Obj.mk (PySem.Value.type "frame") none PySem.Data.plain #[(some (PySem.Value.ref 114)), (some (PySem.Value.ref 3)), (some (PySem.Value.ref 111)), none, (some (PySem.Value.str (PySem.Str.ofString "perlcore.trans") 347)), none, (some (PySem.Value.ref 0))])
noncomputable abbrev ob119 (P : Params) : Obj := (PySem.Obj.mk (PySem.Value.type "tuple") none (PySem.Data.seq #[] 0) #[])
noncomputable abbrev ob120 (P : Params) : Obj := (PySem.Obj.mk PySem.Value.none none (PySem.Data.fields #[]) #[])
noncomputable abbrev ob121 (P : Params) : Obj := (PySem.Obj.mk (PySem.Value.type "tuple") none (PySem.Data.seq #[(PySem.Value.str (PySem.Str.ofString "self") 370), (PySem.Value.str (PySem.Str.ofString "codes") 371), (PySem.Value.str (PySem.Str.ofString "is_turned") 372), (PySem.Value.str (PySem.Str.ofString "barred") 373), (PySem.Value.str (PySem.Str.ofString "becomes") 374), (PySem.Value.str (PySem.Str.ofString "is_deleting") 375), (PySem.Value.str (PySem.Str.ofString "is_squeezing") 376)] 0) #[])
noncomputable abbrev ob122 (P : Params) : Obj := (PySem.Obj.mk (PySem.Value.type "tuple") none (PySem.Data.seq #[] 0) #[])
noncomputable abbrev ob123 (P : Params) : Obj := (PySem.Obj.mk PySem.Value.none none (PySem.Data.func (PySem.FuncData.mk (PySem.Str.ofString "__init__") (PySem.Str.ofString "TransTable.__init__") df8.1 (FuncBody.stmts df8.2.1) df8.2.2 0 [] PySem.Value.none PySem.Value.none PySem.Value.none PySem.Value.none none PySem.Value.none PySem.Value.none 0)) #[])
noncomputable abbrev ob124 (P : Params) : Obj := (PySem.Obj.mk (PySem.Value.type "code") none (PySem.Data.fields #[(PySem.Value.str (PySem.Str.ofString "__init__") 367), (PySem.Value.str (PySem.Str.ofString "TransTable.__init__") 368), (PySem.Value.str (PySem.Str.ofString "/claim/cut.py") 369), (PySem.Value.int (73 : Int) 0), (PySem.Value.int (7 : Int) 0), (PySem.Value.int (0 : Int) 0), (PySem.Value.int (0 : Int) 0), (PySem.Value.int (3 : Int) 0), (PySem.Value.ref 116), (PySem.Value.bool Bool.true), (PySem.Value.int (181 : Int) 0), (PySem.Value.ref 117), PySem.Value.none, (PySem.Value.ref 118), (PySem.Value.ref 119), (PySem.Value.ref 120), (PySem.Value.int (377 : Int) 0), (PySem.Value.int (73 : Int) 0), (PySem.Value.str (PySem.Str.ofString "/claim/cut.py") 378)]) #[])
noncomputable abbrev ob125 (P : Params) : Obj := (PySem.Obj.mk (PySem.Value.type "function") none (PySem.Data.func (PySem.FuncData.mk (PySem.Str.ofString "__init__") (PySem.Str.ofString "TransTable.__init__") df8.1 (FuncBody.stmts df8.2.1) df8.2.2 3 [] PySem.Value.none PySem.Value.none PySem.Value.none (PySem.Value.str (PySem.Str.ofString "perlcore.trans") 347) none (PySem.Value.ref 121) PySem.Value.none 0)) #[])
noncomputable abbrev ob126 (P : Params) : Obj := (PySem.Obj.mk (PySem.Value.type "tuple") none (PySem.Data.seq #[(PySem.Value.str (PySem.Str.ofString "barred") 380), (PySem.Value.str (PySem.Str.ofString "becomes") 381), (PySem.Value.str (PySem.Str.ofString "codes") 382), (PySem.Value.str (PySem.Str.ofString "is_deleting") 383), (PySem.Value.str (PySem.Str.ofString "is_squeezing") 384), (PySem.Value.str (PySem.Str.ofString "is_turned") 385)] 0) #[])
noncomputable abbrev ob127 (P : Params) : Obj := (PySem.Obj.mk (PySem.Value.type "dict") none (PySem.Data.dict #[(PySem.DictEntry.mk (PySem.PyData.keyHash P (PySem.Str.ofString "__module__")) (PySem.Value.str (PySem.Str.ofString "__module__") 362) (PySem.Value.str (PySem.Str.ofString "perlcore.trans") 347)), (PySem.DictEntry.mk (PySem.PyData.keyHash P (PySem.Str.ofString "__firstlineno__")) (PySem.Value.str (PySem.Str.ofString "__firstlineno__") 366) (PySem.Value.int (71 : Int) 365)), (PySem.DictEntry.mk (PySem.PyData.keyHash P (PySem.Str.ofString "__init__")) (PySem.Value.str (PySem.Str.ofString "__init__") 379) (PySem.Value.ref 122)), (PySem.DictEntry.mk (PySem.PyData.keyHash P (PySem.Str.ofString "__static_attributes__")) (PySem.Value.str (PySem.Str.ofString "__static_attributes__") 386) (PySem.Value.ref 123)), (PySem.DictEntry.mk (PySem.PyData.keyHash P (PySem.Str.ofString "__dict__")) (PySem.Value.str (PySem.Str.ofString "__dict__") 388) (PySem.Value.ref 126)), (PySem.DictEntry.mk (PySem.PyData.keyHash P (PySem.Str.ofString "__weakref__")) (PySem.Value.str (PySem.Str.ofString "__weakref__") 390) (PySem.Value.ref 127)), (PySem.DictEntry.mk (PySem.PyData.keyHash P (PySem.Str.ofString "__doc__")) (PySem.Value.str (PySem.Str.ofString "__doc__") 391) PySem.Value.none)] 4) #[])
noncomputable abbrev ob128 (P : Params) : Obj := (PySem.Obj.mk (PySem.Value.type "type") none (PySem.Data.cls (PySem.ClassData.mk (PySem.Str.ofString "TransTable") [(PySem.Value.type "object")] [(PySem.Value.ref 125), (PySem.Value.type "object")] 124 (PySem.Str.ofString "TransTable") Bool.true [] [] Bool.false none Bool.false)) #[none, none, (some (PySem.Value.str (PySem.Str.ofString "TransTable") 355)), (some (PySem.Value.str (PySem.Str.ofString "TransTable") 363)), (some (PySem.Value.builtin "object.__new__")), (some (PySem.Value.bool Bool.true))])
noncomputable abbrev ob129 (P : Params) : Obj := (PySem.Obj.mk (PySem.Value.type "getset_descriptor") none (PySem.Data.fields #[(PySem.Value.str (PySem.Str.ofString "__dict__") 387), (PySem.Value.ref 125), (PySem.Value.builtin "function.__dict__"), (PySem.Value.builtin "function.__dict__#set")]) #[])
noncomputable abbrev ob130 (P : Params) : Obj := (PySem.Obj.mk (PySem.Value.type "getset_descriptor") none (PySem.Data.fields #[(PySem.Value.str (PySem.Str.ofString "__weakref__") 389), (PySem.Value.ref 125), (PySem.Value.builtin "ExceptionGroup.__weakref__"), PySem.Value.none]) #[])
noncomputable abbrev ob131 (P : Params) : Obj := (PySem.Obj.mk (PySem.Value.type "super") none (PySem.Data.fields #[(PySem.Value.ref 125), (PySem.Value.ref 125), (PySem.Value.ref 125)]) #[])
noncomputable abbrev ob132 (P : Params) : Obj := (PySem.Obj.mk (PySem.Value.type "builtin_function_or_method") none (PySem.Data.fields #[(PySem.Value.builtin "object.__init_subclass__"), (PySem.Value.ref 125)]) #[])
noncomputable abbrev hp6 (P : Params) : Heap := ⟨⟨[boot_o_0 P, boot_o_1 P, ob4 P, ob110 P, boot_o_4 P, boot_o_5 P, boot_o_6 P, boot_o_7 P, boot_o_8 P, boot_o_9 P, boot_o_10 P, ob0 P, ob111 P, ob2 P, ob3 P, ob7 P, ob8 P, ob9 P, ob10 P, ob11 P, ob12 P, ob13 P, ob14 P, ob15 P, ob16 P, ob17 P, ob18 P, ob19 P, ob20 P, ob21 P, ob22 P, ob51 P, ob24 P, ob25 P, ob26 P, ob30 P, ob31 P, ob32 P, ob33 P, ob34 P, ob35 P, ob36 P, ob37 P, ob38 P, ob39 P, ob40 P, ob41 P, ob42 P, ob43 P, ob44 P, ob45 P, ob46 P, ob47 P, ob48 P, ob52 P, ob53 P, ob54 P, ob55 P, ob56 P, ob57 P, ob58 P, ob59 P, ob60 P, ob61 P, ob62 P, ob63 P, ob64 P, ob65 P, ob66 P, ob67 P, ob68 P, ob69 P, ob70 P, ob72 P, ob75 P, ob76 P, ob77 P, ob78 P, ob79 P, ob80 P, ob81 P, ob82 P, ob83 P, ob84 P, ob85 P, ob86 P, ob87 P, ob88 P, ob89 P, ob90 P, ob91 P, ob92 P, ob93 P, ob94 P, ob95 P, ob96 P, ob97 P, ob98 P, ob99 P, ob100 P, ob101 P, ob102 P, ob103 P, ob104 P, ob105 P, ob106 P, ob107 P, ob108 P, ob109 P, ob112 P, ob113 P, ob114 P, ob115 P, ob116 P, ob117 P, ob118 P, ob119 P, ob120 P, ob121 P, ob122 P, ob123 P, ob124 P, ob125 P, ob126 P, ob127 P, ob128 P, ob129 P, ob130 P, ob131 P, ob132 P]⟩,
  (PySem.Life.mk [] [] [] 0 [] [] Bool.false #[] [] 0 Bool.false Bool.false Bool.false (0 : Int) [(2000 : Int), (10 : Int), (10 : Int)] Bool.false 0 Bool.true [] [] 0 Bool.false)⟩
noncomputable abbrev st6 (w : World) (os : OsState) : Shared := ⟨hp6 w.params, #[], (PySem.Drawn.mk 0 0 0 0), 394, os⟩
noncomputable abbrev sl5 : List Stmt := (topL.drop 16).take 1
theorem pc5 (w : World) (os : OsState) : segRun treeTable pw w 11 (some (PySem.Value.ref 6)) 1 233 (st5 w os) (piecesOf sl5 envT codT (PySem.Pos.mk 70 0 70 12) frT) = some (.next, st6 w os, codT, (PySem.Pos.mk 71 0 79 40)) := by walk_at "myPiece"
noncomputable abbrev ob133 (P : Params) : Obj := (PySem.Obj.mk (PySem.Value.type "dict") none (PySem.Data.dict #[(PySem.DictEntry.mk (PySem.PyData.keyHash P (PySem.Str.ofString "__name__")) (PySem.Value.str (PySem.Str.ofString "__name__") 165) (PySem.Value.str (PySem.Str.ofString "perlcore.trans") 347)), (PySem.DictEntry.mk (PySem.PyData.keyHash P (PySem.Str.ofString "__doc__")) (PySem.Value.str (PySem.Str.ofString "__doc__") 166) PySem.Value.none), (PySem.DictEntry.mk (PySem.PyData.keyHash P (PySem.Str.ofString "__package__")) (PySem.Value.str (PySem.Str.ofString "__package__") 167) PySem.Value.none), (PySem.DictEntry.mk (PySem.PyData.keyHash P (PySem.Str.ofString "__loader__")) (PySem.Value.str (PySem.Str.ofString "__loader__") 168) (valAt (boot_o_3 P) 3)), (PySem.DictEntry.mk (PySem.PyData.keyHash P (PySem.Str.ofString "__spec__")) (PySem.Value.str (PySem.Str.ofString "__spec__") 169) PySem.Value.none), (PySem.DictEntry.mk (PySem.PyData.keyHash P (PySem.Str.ofString "__annotations__")) (PySem.Value.str (PySem.Str.ofString "__annotations__") 170) (PySem.Value.ref 6)), (PySem.DictEntry.mk (PySem.PyData.keyHash P (PySem.Str.ofString "__builtins__")) (PySem.Value.str (PySem.Str.ofString "__builtins__") 171) (PySem.Value.ref 4)), (PySem.DictEntry.mk (PySem.PyData.keyHash P (PySem.Str.ofString "__file__")) (PySem.Value.str (PySem.Str.ofString "__file__") 173) (PySem.Value.str (PySem.Str.ofString "/claim/cut.py") 172)), (PySem.DictEntry.mk (PySem.PyData.keyHash P (PySem.Str.ofString "__cached__")) (PySem.Value.str (PySem.Str.ofString "__cached__") 174) PySem.Value.none), (PySem.DictEntry.mk (PySem.PyData.keyHash P (PySem.Str.ofString "PerlError")) (PySem.Value.str (PySem.Str.ofString "PerlError") 217) (PySem.Value.ref 31)), (PySem.DictEntry.mk (PySem.PyData.keyHash P (PySem.Str.ofString "Die")) (PySem.Value.str (PySem.Str.ofString "Die") 242) (PySem.Value.ref 51)), (PySem.DictEntry.mk (PySem.PyData.keyHash P (PySem.Str.ofString "SyntaxDie")) (PySem.Value.str (PySem.Str.ofString "SyntaxDie") 268) (PySem.Value.ref 70)), (PySem.DictEntry.mk (PySem.PyData.keyHash P (PySem.Str.ofString "SHORT_ESCAPES")) (PySem.Value.str (PySem.Str.ofString "SHORT_ESCAPES") 292) (PySem.Value.ref 73)), (PySem.DictEntry.mk (PySem.PyData.keyHash P (PySem.Str.ofString "CODE_FIGURES")) (PySem.Value.str (PySem.Str.ofString "CODE_FIGURES") 294) (PySem.Value.str (PySem.Str.ofString "0123456789abcdef") 293)), (PySem.DictEntry.mk (PySem.PyData.keyHash P (PySem.Str.ofString "TOP_CODE")) (PySem.Value.str (PySem.Str.ofString "TOP_CODE") 296) (PySem.Value.int (1114111 : Int) 295)), (PySem.DictEntry.mk (PySem.PyData.keyHash P (PySem.Str.ofString "digits_value")) (PySem.Value.str (PySem.Str.ofString "digits_value") 309) (PySem.Value.ref 80)), (PySem.DictEntry.mk (PySem.PyData.keyHash P (PySem.Str.ofString "coded_sign")) (PySem.Value.str (PySem.Str.ofString "coded_sign") 316) (PySem.Value.ref 87)), (PySem.DictEntry.mk (PySem.PyData.keyHash P (PySem.Str.ofString "braced_code")) (PySem.Value.str (PySem.Str.ofString "braced_code") 328) (PySem.Value.ref 94)), (PySem.DictEntry.mk (PySem.PyData.keyHash P (PySem.Str.ofString "escape_at")) (PySem.Value.str (PySem.Str.ofString "escape_at") 339) (PySem.Value.ref 101)), (PySem.DictEntry.mk (PySem.PyData.keyHash P (PySem.Str.ofString "great_letter")) (PySem.Value.str (PySem.Str.ofString "great_letter") 346) (PySem.Value.ref 108)), (PySem.DictEntry.mk (PySem.PyData.keyHash P (PySem.Str.ofString "KEPT_SIGN")) (PySem.Value.str (PySem.Str.ofString "KEPT_SIGN") 351) (PySem.Value.int (-(1 : Int) : Int) 350)), (PySem.DictEntry.mk (PySem.PyData.keyHash P (PySem.Str.ofString "DROPPED_SIGN")) (PySem.Value.str (PySem.Str.ofString "DROPPED_SIGN") 354) (PySem.Value.int (-(2 : Int) : Int) 353)), (PySem.DictEntry.mk (PySem.PyData.keyHash P (PySem.Str.ofString "TransTable")) (PySem.Value.str (PySem.Str.ofString "TransTable") 393) (PySem.Value.ref 125)), (PySem.DictEntry.mk (PySem.PyData.keyHash P (PySem.Str.ofString "guarded_at")) (PySem.Value.str (PySem.Str.ofString "guarded_at") 402) (PySem.Value.ref 136)), (PySem.DictEntry.mk (PySem.PyData.keyHash P (PySem.Str.ofString "trans_signs")) (PySem.Value.str (PySem.Str.ofString "trans_signs") 412) (PySem.Value.ref 143)), (PySem.DictEntry.mk (PySem.PyData.keyHash P (PySem.Str.ofString "trans_codes")) (PySem.Value.str (PySem.Str.ofString "trans_codes") 426) (PySem.Value.ref 150)), (PySem.DictEntry.mk (PySem.PyData.keyHash P (PySem.Str.ofString "plain_table")) (PySem.Value.str (PySem.Str.ofString "plain_table") 438) (PySem.Value.ref 157)), (PySem.DictEntry.mk (PySem.PyData.keyHash P (PySem.Str.ofString "sorted_once")) (PySem.Value.str (PySem.Str.ofString "sorted_once") 447) (PySem.Value.ref 164)), (PySem.DictEntry.mk (PySem.PyData.keyHash P (PySem.Str.ofString "make_trans")) (PySem.Value.str (PySem.Str.ofString "make_trans") 460) (PySem.Value.ref 171)), (PySem.DictEntry.mk (PySem.PyData.keyHash P (PySem.Str.ofString "rank_outside")) (PySem.Value.str (PySem.Str.ofString "rank_outside") 471) (PySem.Value.ref 178))] 30) #[])
noncomputable abbrev ob134 (P : Params) : Obj := (PySem.Obj.mk PySem.Value.none none (PySem.Data.fields #[(PySem.Value.int (2 : Int) 0), (PySem.Value.int (0 : Int) 0), (PySem.Value.ref 20), (PySem.Value.int (7 : Int) 0), (PySem.Value.int (0 : Int) 0), (PySem.Value.ref 40), (PySem.Value.int (12 : Int) 0), (PySem.Value.int (0 : Int) 0), (PySem.Value.ref 59), (PySem.Value.int (21 : Int) 0), (PySem.Value.int (0 : Int) 0), (PySem.Value.ref 79), (PySem.Value.int (31 : Int) 0), (PySem.Value.int (0 : Int) 0), (PySem.Value.ref 86), (PySem.Value.int (35 : Int) 0), (PySem.Value.int (0 : Int) 0), (PySem.Value.ref 93), (PySem.Value.int (41 : Int) 0), (PySem.Value.int (0 : Int) 0), (PySem.Value.ref 100), (PySem.Value.int (64 : Int) 0), (PySem.Value.int (0 : Int) 0), (PySem.Value.ref 107), (PySem.Value.int (71 : Int) 0), (PySem.Value.int (0 : Int) 0), (PySem.Value.ref 114), (PySem.Value.int (80 : Int) 0), (PySem.Value.int (0 : Int) 0), (PySem.Value.ref 135), (PySem.Value.int (85 : Int) 0), (PySem.Value.int (0 : Int) 0), (PySem.Value.ref 142), (PySem.Value.int (96 : Int) 0), (PySem.Value.int (0 : Int) 0), (PySem.Value.ref 149), (PySem.Value.int (114 : Int) 0), (PySem.Value.int (0 : Int) 0), (PySem.Value.ref 156), (PySem.Value.int (129 : Int) 0), (PySem.Value.int (0 : Int) 0), (PySem.Value.ref 163), (PySem.Value.int (135 : Int) 0), (PySem.Value.int (0 : Int) 0), (PySem.Value.ref 170), (PySem.Value.int (142 : Int) 0), (PySem.Value.int (0 : Int) 0), (PySem.Value.ref 177)]) #[])
noncomputable abbrev ob135 (P : Params) : Obj := (PySem.Obj.mk (PySem.Value.type "tuple") none (PySem.Data.seq #[] 0) #[])
noncomputable abbrev ob136 (P : Params) : Obj := (PySem.Obj.mk PySem.Value.none none (PySem.Data.fields #[]) #[])
noncomputable abbrev ob137 (P : Params) : Obj := (PySem.Obj.mk (PySem.Value.type "tuple") none (PySem.Data.seq #[(PySem.Value.str (PySem.Str.ofString "text") 397), (PySem.Value.str (PySem.Str.ofString "at") 398), (PySem.Value.str (PySem.Str.ofString "fault") 399)] 0) #[])
noncomputable abbrev ob138 (P : Params) : Obj := (PySem.Obj.mk (PySem.Value.type "tuple") none (PySem.Data.seq #[] 0) #[])
noncomputable abbrev ob139 (P : Params) : Obj := (PySem.Obj.mk PySem.Value.none none (PySem.Data.func (PySem.FuncData.mk (PySem.Str.ofString "guarded_at") (PySem.Str.ofString "guarded_at") df9.1 (FuncBody.stmts df9.2.1) df9.2.2 0 [] PySem.Value.none PySem.Value.none PySem.Value.none PySem.Value.none none PySem.Value.none PySem.Value.none 0)) #[])
noncomputable abbrev ob140 (P : Params) : Obj := (PySem.Obj.mk (PySem.Value.type "code") none (PySem.Data.fields #[(PySem.Value.str (PySem.Str.ofString "guarded_at") 394), (PySem.Value.str (PySem.Str.ofString "guarded_at") 395), (PySem.Value.str (PySem.Str.ofString "/claim/cut.py") 396), (PySem.Value.int (80 : Int) 0), (PySem.Value.int (2 : Int) 0), (PySem.Value.int (0 : Int) 0), (PySem.Value.int (0 : Int) 0), (PySem.Value.int (3 : Int) 0), (PySem.Value.ref 130), (PySem.Value.bool Bool.true), (PySem.Value.int (181 : Int) 0), (PySem.Value.ref 131), PySem.Value.none, (PySem.Value.ref 132), (PySem.Value.ref 133), (PySem.Value.ref 134), (PySem.Value.int (400 : Int) 0), (PySem.Value.int (80 : Int) 0), (PySem.Value.str (PySem.Str.ofString "/claim/cut.py") 401)]) #[])
noncomputable abbrev ob141 (P : Params) : Obj := (PySem.Obj.mk (PySem.Value.type "function") none (PySem.Data.func (PySem.FuncData.mk (PySem.Str.ofString "guarded_at") (PySem.Str.ofString "guarded_at") df9.1 (FuncBody.stmts df9.2.1) df9.2.2 3 [] PySem.Value.none PySem.Value.none PySem.Value.none (PySem.Value.str (PySem.Str.ofString "perlcore.trans") 347) none (PySem.Value.ref 135) PySem.Value.none 0)) #[])
noncomputable abbrev ob142 (P : Params) : Obj := (PySem.Obj.mk (PySem.Value.type "tuple") none (PySem.Data.seq #[] 0) #[])
noncomputable abbrev ob143 (P : Params) : Obj := (PySem.Obj.mk PySem.Value.none none (PySem.Data.fields #[]) #[])
noncomputable abbrev ob144 (P : Params) : Obj := (PySem.Obj.mk (PySem.Value.type "tuple") none (PySem.Data.seq #[(PySem.Value.str (PySem.Str.ofString "text") 406), (PySem.Value.str (PySem.Str.ofString "found") 407), (PySem.Value.str (PySem.Str.ofString "at") 408), (PySem.Value.str (PySem.Str.ofString "sign") 409)] 0) #[])
noncomputable abbrev ob145 (P : Params) : Obj := (PySem.Obj.mk (PySem.Value.type "tuple") none (PySem.Data.seq #[] 0) #[])
noncomputable abbrev ob146 (P : Params) : Obj := (PySem.Obj.mk PySem.Value.none none (PySem.Data.func (PySem.FuncData.mk (PySem.Str.ofString "trans_signs") (PySem.Str.ofString "trans_signs") df10.1 (FuncBody.stmts df10.2.1) df10.2.2 0 [] PySem.Value.none PySem.Value.none PySem.Value.none PySem.Value.none none PySem.Value.none PySem.Value.none 0)) #[])
noncomputable abbrev ob147 (P : Params) : Obj := (PySem.Obj.mk (PySem.Value.type "code") none (PySem.Data.fields #[(PySem.Value.str (PySem.Str.ofString "trans_signs") 403), (PySem.Value.str (PySem.Str.ofString "trans_signs") 404), (PySem.Value.str (PySem.Str.ofString "/claim/cut.py") 405), (PySem.Value.int (85 : Int) 0), (PySem.Value.int (1 : Int) 0), (PySem.Value.int (0 : Int) 0), (PySem.Value.int (0 : Int) 0), (PySem.Value.int (3 : Int) 0), (PySem.Value.ref 137), (PySem.Value.bool Bool.true), (PySem.Value.int (181 : Int) 0), (PySem.Value.ref 138), PySem.Value.none, (PySem.Value.ref 139), (PySem.Value.ref 140), (PySem.Value.ref 141), (PySem.Value.int (410 : Int) 0), (PySem.Value.int (85 : Int) 0), (PySem.Value.str (PySem.Str.ofString "/claim/cut.py") 411)]) #[])
noncomputable abbrev ob148 (P : Params) : Obj := (PySem.Obj.mk (PySem.Value.type "function") none (PySem.Data.func (PySem.FuncData.mk (PySem.Str.ofString "trans_signs") (PySem.Str.ofString "trans_signs") df10.1 (FuncBody.stmts df10.2.1) df10.2.2 3 [] PySem.Value.none PySem.Value.none PySem.Value.none (PySem.Value.str (PySem.Str.ofString "perlcore.trans") 347) none (PySem.Value.ref 142) PySem.Value.none 0)) #[])
noncomputable abbrev ob149 (P : Params) : Obj := (PySem.Obj.mk (PySem.Value.type "tuple") none (PySem.Data.seq #[] 0) #[])
noncomputable abbrev ob150 (P : Params) : Obj := (PySem.Obj.mk PySem.Value.none none (PySem.Data.fields #[]) #[])
noncomputable abbrev ob151 (P : Params) : Obj := (PySem.Obj.mk (PySem.Value.type "tuple") none (PySem.Data.seq #[(PySem.Value.str (PySem.Str.ofString "text") 416), (PySem.Value.str (PySem.Str.ofString "most") 417), (PySem.Value.str (PySem.Str.ofString "signs") 418), (PySem.Value.str (PySem.Str.ofString "found") 419), (PySem.Value.str (PySem.Str.ofString "at") 420), (PySem.Value.str (PySem.Str.ofString "code") 421), (PySem.Value.str (PySem.Str.ofString "last") 422), (PySem.Value.str (PySem.Str.ofString "one") 423)] 0) #[])
noncomputable abbrev ob152 (P : Params) : Obj := (PySem.Obj.mk (PySem.Value.type "tuple") none (PySem.Data.seq #[] 0) #[])
noncomputable abbrev ob153 (P : Params) : Obj := (PySem.Obj.mk PySem.Value.none none (PySem.Data.func (PySem.FuncData.mk (PySem.Str.ofString "trans_codes") (PySem.Str.ofString "trans_codes") df11.1 (FuncBody.stmts df11.2.1) df11.2.2 0 [] PySem.Value.none PySem.Value.none PySem.Value.none PySem.Value.none none PySem.Value.none PySem.Value.none 0)) #[])
noncomputable abbrev ob154 (P : Params) : Obj := (PySem.Obj.mk (PySem.Value.type "code") none (PySem.Data.fields #[(PySem.Value.str (PySem.Str.ofString "trans_codes") 413), (PySem.Value.str (PySem.Str.ofString "trans_codes") 414), (PySem.Value.str (PySem.Str.ofString "/claim/cut.py") 415), (PySem.Value.int (96 : Int) 0), (PySem.Value.int (2 : Int) 0), (PySem.Value.int (0 : Int) 0), (PySem.Value.int (0 : Int) 0), (PySem.Value.int (3 : Int) 0), (PySem.Value.ref 144), (PySem.Value.bool Bool.true), (PySem.Value.int (181 : Int) 0), (PySem.Value.ref 145), PySem.Value.none, (PySem.Value.ref 146), (PySem.Value.ref 147), (PySem.Value.ref 148), (PySem.Value.int (424 : Int) 0), (PySem.Value.int (96 : Int) 0), (PySem.Value.str (PySem.Str.ofString "/claim/cut.py") 425)]) #[])
noncomputable abbrev ob155 (P : Params) : Obj := (PySem.Obj.mk (PySem.Value.type "function") none (PySem.Data.func (PySem.FuncData.mk (PySem.Str.ofString "trans_codes") (PySem.Str.ofString "trans_codes") df11.1 (FuncBody.stmts df11.2.1) df11.2.2 3 [] PySem.Value.none PySem.Value.none PySem.Value.none (PySem.Value.str (PySem.Str.ofString "perlcore.trans") 347) none (PySem.Value.ref 149) PySem.Value.none 0)) #[])
noncomputable abbrev ob156 (P : Params) : Obj := (PySem.Obj.mk (PySem.Value.type "tuple") none (PySem.Data.seq #[] 0) #[])
noncomputable abbrev ob157 (P : Params) : Obj := (PySem.Obj.mk PySem.Value.none none (PySem.Data.fields #[]) #[])
noncomputable abbrev ob158 (P : Params) : Obj := (PySem.Obj.mk (PySem.Value.type "tuple") none (PySem.Data.seq #[(PySem.Value.str (PySem.Str.ofString "sources") 430), (PySem.Value.str (PySem.Str.ofString "becomes") 431), (PySem.Value.str (PySem.Str.ofString "is_deleting") 432), (PySem.Value.str (PySem.Str.ofString "codes") 433), (PySem.Value.str (PySem.Str.ofString "place") 434), (PySem.Value.str (PySem.Str.ofString "code") 435)] 0) #[])
noncomputable abbrev ob159 (P : Params) : Obj := (PySem.Obj.mk (PySem.Value.type "tuple") none (PySem.Data.seq #[] 0) #[])
noncomputable abbrev ob160 (P : Params) : Obj := (PySem.Obj.mk PySem.Value.none none (PySem.Data.func (PySem.FuncData.mk (PySem.Str.ofString "plain_table") (PySem.Str.ofString "plain_table") df12.1 (FuncBody.stmts df12.2.1) df12.2.2 0 [] PySem.Value.none PySem.Value.none PySem.Value.none PySem.Value.none none PySem.Value.none PySem.Value.none 0)) #[])
noncomputable abbrev ob161 (P : Params) : Obj := (PySem.Obj.mk (PySem.Value.type "code") none (PySem.Data.fields #[(PySem.Value.str (PySem.Str.ofString "plain_table") 427), (PySem.Value.str (PySem.Str.ofString "plain_table") 428), (PySem.Value.str (PySem.Str.ofString "/claim/cut.py") 429), (PySem.Value.int (114 : Int) 0), (PySem.Value.int (3 : Int) 0), (PySem.Value.int (0 : Int) 0), (PySem.Value.int (0 : Int) 0), (PySem.Value.int (3 : Int) 0), (PySem.Value.ref 151), (PySem.Value.bool Bool.true), (PySem.Value.int (181 : Int) 0), (PySem.Value.ref 152), PySem.Value.none, (PySem.Value.ref 153), (PySem.Value.ref 154), (PySem.Value.ref 155), (PySem.Value.int (436 : Int) 0), (PySem.Value.int (114 : Int) 0), (PySem.Value.str (PySem.Str.ofString "/claim/cut.py") 437)]) #[])
noncomputable abbrev ob162 (P : Params) : Obj := (PySem.Obj.mk (PySem.Value.type "function") none (PySem.Data.func (PySem.FuncData.mk (PySem.Str.ofString "plain_table") (PySem.Str.ofString "plain_table") df12.1 (FuncBody.stmts df12.2.1) df12.2.2 3 [] PySem.Value.none PySem.Value.none PySem.Value.none (PySem.Value.str (PySem.Str.ofString "perlcore.trans") 347) none (PySem.Value.ref 156) PySem.Value.none 0)) #[])
noncomputable abbrev ob163 (P : Params) : Obj := (PySem.Obj.mk (PySem.Value.type "tuple") none (PySem.Data.seq #[] 0) #[])
noncomputable abbrev ob164 (P : Params) : Obj := (PySem.Obj.mk PySem.Value.none none (PySem.Data.fields #[]) #[])
noncomputable abbrev ob165 (P : Params) : Obj := (PySem.Obj.mk (PySem.Value.type "tuple") none (PySem.Data.seq #[(PySem.Value.str (PySem.Str.ofString "codes") 442), (PySem.Value.str (PySem.Str.ofString "found") 443), (PySem.Value.str (PySem.Str.ofString "code") 444)] 0) #[])
noncomputable abbrev ob166 (P : Params) : Obj := (PySem.Obj.mk (PySem.Value.type "tuple") none (PySem.Data.seq #[] 0) #[])
noncomputable abbrev ob167 (P : Params) : Obj := (PySem.Obj.mk PySem.Value.none none (PySem.Data.func (PySem.FuncData.mk (PySem.Str.ofString "sorted_once") (PySem.Str.ofString "sorted_once") df13.1 (FuncBody.stmts df13.2.1) df13.2.2 0 [] PySem.Value.none PySem.Value.none PySem.Value.none PySem.Value.none none PySem.Value.none PySem.Value.none 0)) #[])
noncomputable abbrev ob168 (P : Params) : Obj := (PySem.Obj.mk (PySem.Value.type "code") none (PySem.Data.fields #[(PySem.Value.str (PySem.Str.ofString "sorted_once") 439), (PySem.Value.str (PySem.Str.ofString "sorted_once") 440), (PySem.Value.str (PySem.Str.ofString "/claim/cut.py") 441), (PySem.Value.int (129 : Int) 0), (PySem.Value.int (1 : Int) 0), (PySem.Value.int (0 : Int) 0), (PySem.Value.int (0 : Int) 0), (PySem.Value.int (3 : Int) 0), (PySem.Value.ref 158), (PySem.Value.bool Bool.true), (PySem.Value.int (181 : Int) 0), (PySem.Value.ref 159), PySem.Value.none, (PySem.Value.ref 160), (PySem.Value.ref 161), (PySem.Value.ref 162), (PySem.Value.int (445 : Int) 0), (PySem.Value.int (129 : Int) 0), (PySem.Value.str (PySem.Str.ofString "/claim/cut.py") 446)]) #[])
noncomputable abbrev ob169 (P : Params) : Obj := (PySem.Obj.mk (PySem.Value.type "function") none (PySem.Data.func (PySem.FuncData.mk (PySem.Str.ofString "sorted_once") (PySem.Str.ofString "sorted_once") df13.1 (FuncBody.stmts df13.2.1) df13.2.2 3 [] PySem.Value.none PySem.Value.none PySem.Value.none (PySem.Value.str (PySem.Str.ofString "perlcore.trans") 347) none (PySem.Value.ref 163) PySem.Value.none 0)) #[])
noncomputable abbrev ob170 (P : Params) : Obj := (PySem.Obj.mk (PySem.Value.type "tuple") none (PySem.Data.seq #[] 0) #[])
noncomputable abbrev ob171 (P : Params) : Obj := (PySem.Obj.mk PySem.Value.none none (PySem.Data.fields #[]) #[])
noncomputable abbrev ob172 (P : Params) : Obj := (PySem.Obj.mk (PySem.Value.type "tuple") none (PySem.Data.seq #[(PySem.Value.str (PySem.Str.ofString "source") 451), (PySem.Value.str (PySem.Str.ofString "target") 452), (PySem.Value.str (PySem.Str.ofString "flags") 453), (PySem.Value.str (PySem.Str.ofString "most") 454), (PySem.Value.str (PySem.Str.ofString "sources") 455), (PySem.Value.str (PySem.Str.ofString "becomes") 456), (PySem.Value.str (PySem.Str.ofString "is_deleting") 457)] 0) #[])
noncomputable abbrev ob173 (P : Params) : Obj := (PySem.Obj.mk (PySem.Value.type "tuple") none (PySem.Data.seq #[] 0) #[])
noncomputable abbrev ob174 (P : Params) : Obj := (PySem.Obj.mk PySem.Value.none none (PySem.Data.func (PySem.FuncData.mk (PySem.Str.ofString "make_trans") (PySem.Str.ofString "make_trans") df14.1 (FuncBody.stmts df14.2.1) df14.2.2 0 [] PySem.Value.none PySem.Value.none PySem.Value.none PySem.Value.none none PySem.Value.none PySem.Value.none 0)) #[])
noncomputable abbrev ob175 (P : Params) : Obj := (PySem.Obj.mk (PySem.Value.type "code") none (PySem.Data.fields #[(PySem.Value.str (PySem.Str.ofString "make_trans") 448), (PySem.Value.str (PySem.Str.ofString "make_trans") 449), (PySem.Value.str (PySem.Str.ofString "/claim/cut.py") 450), (PySem.Value.int (135 : Int) 0), (PySem.Value.int (4 : Int) 0), (PySem.Value.int (0 : Int) 0), (PySem.Value.int (0 : Int) 0), (PySem.Value.int (3 : Int) 0), (PySem.Value.ref 165), (PySem.Value.bool Bool.true), (PySem.Value.int (181 : Int) 0), (PySem.Value.ref 166), PySem.Value.none, (PySem.Value.ref 167), (PySem.Value.ref 168), (PySem.Value.ref 169), (PySem.Value.int (458 : Int) 0), (PySem.Value.int (135 : Int) 0), (PySem.Value.str (PySem.Str.ofString "/claim/cut.py") 459)]) #[])
noncomputable abbrev ob176 (P : Params) : Obj := (PySem.Obj.mk (PySem.Value.type "function") none (PySem.Data.func (PySem.FuncData.mk (PySem.Str.ofString "make_trans") (PySem.Str.ofString "make_trans") df14.1 (FuncBody.stmts df14.2.1) df14.2.2 3 [] PySem.Value.none PySem.Value.none PySem.Value.none (PySem.Value.str (PySem.Str.ofString "perlcore.trans") 347) none (PySem.Value.ref 170) PySem.Value.none 0)) #[])
noncomputable abbrev ob177 (P : Params) : Obj := (PySem.Obj.mk (PySem.Value.type "tuple") none (PySem.Data.seq #[] 0) #[])
noncomputable abbrev ob178 (P : Params) : Obj := (PySem.Obj.mk PySem.Value.none none (PySem.Data.fields #[]) #[])
noncomputable abbrev ob179 (P : Params) : Obj := (PySem.Obj.mk (PySem.Value.type "tuple") none (PySem.Data.seq #[(PySem.Value.str (PySem.Str.ofString "barred") 464), (PySem.Value.str (PySem.Str.ofString "code") 465), (PySem.Value.str (PySem.Str.ofString "below") 466), (PySem.Value.str (PySem.Str.ofString "beyond") 467), (PySem.Value.str (PySem.Str.ofString "middle") 468)] 0) #[])
noncomputable abbrev ob180 (P : Params) : Obj := (PySem.Obj.mk (PySem.Value.type "tuple") none (PySem.Data.seq #[] 0) #[])
noncomputable abbrev ob181 (P : Params) : Obj := (PySem.Obj.mk PySem.Value.none none (PySem.Data.func (PySem.FuncData.mk (PySem.Str.ofString "rank_outside") (PySem.Str.ofString "rank_outside") df15.1 (FuncBody.stmts df15.2.1) df15.2.2 0 [] PySem.Value.none PySem.Value.none PySem.Value.none PySem.Value.none none PySem.Value.none PySem.Value.none 0)) #[])
noncomputable abbrev ob182 (P : Params) : Obj := (PySem.Obj.mk (PySem.Value.type "code") none (PySem.Data.fields #[(PySem.Value.str (PySem.Str.ofString "rank_outside") 461), (PySem.Value.str (PySem.Str.ofString "rank_outside") 462), (PySem.Value.str (PySem.Str.ofString "/claim/cut.py") 463), (PySem.Value.int (142 : Int) 0), (PySem.Value.int (2 : Int) 0), (PySem.Value.int (0 : Int) 0), (PySem.Value.int (0 : Int) 0), (PySem.Value.int (3 : Int) 0), (PySem.Value.ref 172), (PySem.Value.bool Bool.true), (PySem.Value.int (181 : Int) 0), (PySem.Value.ref 173), PySem.Value.none, (PySem.Value.ref 174), (PySem.Value.ref 175), (PySem.Value.ref 176), (PySem.Value.int (469 : Int) 0), (PySem.Value.int (142 : Int) 0), (PySem.Value.str (PySem.Str.ofString "/claim/cut.py") 470)]) #[])
noncomputable abbrev ob183 (P : Params) : Obj := (PySem.Obj.mk (PySem.Value.type "function") none (PySem.Data.func (PySem.FuncData.mk (PySem.Str.ofString "rank_outside") (PySem.Str.ofString "rank_outside") df15.1 (FuncBody.stmts df15.2.1) df15.2.2 3 [] PySem.Value.none PySem.Value.none PySem.Value.none (PySem.Value.str (PySem.Str.ofString "perlcore.trans") 347) none (PySem.Value.ref 177) PySem.Value.none 0)) #[])
noncomputable abbrev hp7 (P : Params) : Heap := ⟨⟨[boot_o_0 P, boot_o_1 P, ob4 P, ob133 P, boot_o_4 P, boot_o_5 P, boot_o_6 P, boot_o_7 P, boot_o_8 P, boot_o_9 P, boot_o_10 P, ob0 P, ob134 P, ob2 P, ob3 P, ob7 P, ob8 P, ob9 P, ob10 P, ob11 P, ob12 P, ob13 P, ob14 P, ob15 P, ob16 P, ob17 P, ob18 P, ob19 P, ob20 P, ob21 P, ob22 P, ob51 P, ob24 P, ob25 P, ob26 P, ob30 P, ob31 P, ob32 P, ob33 P, ob34 P, ob35 P, ob36 P, ob37 P, ob38 P, ob39 P, ob40 P, ob41 P, ob42 P, ob43 P, ob44 P, ob45 P, ob46 P, ob47 P, ob48 P, ob52 P, ob53 P, ob54 P, ob55 P, ob56 P, ob57 P, ob58 P, ob59 P, ob60 P, ob61 P, ob62 P, ob63 P, ob64 P, ob65 P, ob66 P, ob67 P, ob68 P, ob69 P, ob70 P, ob72 P, ob75 P, ob76 P, ob77 P, ob78 P, ob79 P, ob80 P, ob81 P, ob82 P, ob83 P, ob84 P, ob85 P, ob86 P, ob87 P, ob88 P, ob89 P, ob90 P, ob91 P, ob92 P, ob93 P, ob94 P, ob95 P, ob96 P, ob97 P, ob98 P, ob99 P, ob100 P, ob101 P, ob102 P, ob103 P, ob104 P, ob105 P, ob106 P, ob107 P, ob108 P, ob109 P, ob112 P, ob113 P, ob114 P, ob115 P, ob116 P, ob117 P, ob118 P, ob119 P, ob120 P, ob121 P, ob122 P, ob123 P, ob124 P, ob125 P, ob126 P, ob127 P, ob128 P, ob129 P, ob130 P, ob131 P, ob132 P, ob135 P, ob136 P, ob137 P, ob138 P, ob139 P, ob140 P, ob141 P, ob142 P, ob143 P, ob144 P, ob145 P, ob146 P, ob147 P, ob148 P, ob149 P, ob150 P, ob151 P, ob152 P, ob153 P, ob154 P, ob155 P, ob156 P, ob157 P, ob158 P, ob159 P, ob160 P, ob161 P, ob162 P, ob163 P, ob164 P, ob165 P, ob166 P, ob167 P, ob168 P, ob169 P, ob170 P, ob171 P, ob172 P, ob173 P, ob174 P, ob175 P, ob176 P, ob177 P, ob178 P, ob179 P, ob180 P, ob181 P, ob182 P, ob183 P]⟩,
  (PySem.Life.mk [] [] [] 0 [] [] Bool.false #[] [] 0 Bool.false Bool.false Bool.false (0 : Int) [(2000 : Int), (10 : Int), (10 : Int)] Bool.false 0 Bool.true [] [] 0 Bool.false)⟩
noncomputable abbrev st7 (w : World) (os : OsState) : Shared := ⟨hp7 w.params, #[], (PySem.Drawn.mk 0 0 0 0), 472, os⟩
noncomputable abbrev sl6 : List Stmt := (topL.drop 17).take 7
theorem pc6 (w : World) (os : OsState) : segRun treeTable pw w 11 (some (PySem.Value.ref 6)) 1 233 (st6 w os) (piecesOf sl6 envT codT (PySem.Pos.mk 71 0 79 40) frT) = some (.next, st7 w os, codT, (PySem.Pos.mk 142 0 152 23)) := by walk_at "myPiece"
noncomputable abbrev ob184 (P : Params) : Obj := (PySem.Obj.mk (PySem.Value.type "dict") none (PySem.Data.dict #[(PySem.DictEntry.mk (PySem.PyData.keyHash P (PySem.Str.ofString "__name__")) (PySem.Value.str (PySem.Str.ofString "__name__") 165) (PySem.Value.str (PySem.Str.ofString "law_qz0089_01") 513)), (PySem.DictEntry.mk (PySem.PyData.keyHash P (PySem.Str.ofString "__doc__")) (PySem.Value.str (PySem.Str.ofString "__doc__") 166) PySem.Value.none), (PySem.DictEntry.mk (PySem.PyData.keyHash P (PySem.Str.ofString "__package__")) (PySem.Value.str (PySem.Str.ofString "__package__") 167) PySem.Value.none), (PySem.DictEntry.mk (PySem.PyData.keyHash P (PySem.Str.ofString "__loader__")) (PySem.Value.str (PySem.Str.ofString "__loader__") 168) (valAt (boot_o_3 P) 3)), (PySem.DictEntry.mk (PySem.PyData.keyHash P (PySem.Str.ofString "__spec__")) (PySem.Value.str (PySem.Str.ofString "__spec__") 169) PySem.Value.none), (PySem.DictEntry.mk (PySem.PyData.keyHash P (PySem.Str.ofString "__annotations__")) (PySem.Value.str (PySem.Str.ofString "__annotations__") 170) (PySem.Value.ref 6)), (PySem.DictEntry.mk (PySem.PyData.keyHash P (PySem.Str.ofString "__builtins__")) (PySem.Value.str (PySem.Str.ofString "__builtins__") 171) (PySem.Value.ref 4)), (PySem.DictEntry.mk (PySem.PyData.keyHash P (PySem.Str.ofString "__file__")) (PySem.Value.str (PySem.Str.ofString "__file__") 173) (PySem.Value.str (PySem.Str.ofString "/claim/cut.py") 172)), (PySem.DictEntry.mk (PySem.PyData.keyHash P (PySem.Str.ofString "__cached__")) (PySem.Value.str (PySem.Str.ofString "__cached__") 174) PySem.Value.none), (PySem.DictEntry.mk (PySem.PyData.keyHash P (PySem.Str.ofString "PerlError")) (PySem.Value.str (PySem.Str.ofString "PerlError") 217) (PySem.Value.ref 31)), (PySem.DictEntry.mk (PySem.PyData.keyHash P (PySem.Str.ofString "Die")) (PySem.Value.str (PySem.Str.ofString "Die") 242) (PySem.Value.ref 51)), (PySem.DictEntry.mk (PySem.PyData.keyHash P (PySem.Str.ofString "SyntaxDie")) (PySem.Value.str (PySem.Str.ofString "SyntaxDie") 268) (PySem.Value.ref 70)), (PySem.DictEntry.mk (PySem.PyData.keyHash P (PySem.Str.ofString "SHORT_ESCAPES")) (PySem.Value.str (PySem.Str.ofString "SHORT_ESCAPES") 292) (PySem.Value.ref 73)), (PySem.DictEntry.mk (PySem.PyData.keyHash P (PySem.Str.ofString "CODE_FIGURES")) (PySem.Value.str (PySem.Str.ofString "CODE_FIGURES") 294) (PySem.Value.str (PySem.Str.ofString "0123456789abcdef") 293)), (PySem.DictEntry.mk (PySem.PyData.keyHash P (PySem.Str.ofString "TOP_CODE")) (PySem.Value.str (PySem.Str.ofString "TOP_CODE") 296) (PySem.Value.int (1114111 : Int) 295)), (PySem.DictEntry.mk (PySem.PyData.keyHash P (PySem.Str.ofString "digits_value")) (PySem.Value.str (PySem.Str.ofString "digits_value") 309) (PySem.Value.ref 80)), (PySem.DictEntry.mk (PySem.PyData.keyHash P (PySem.Str.ofString "coded_sign")) (PySem.Value.str (PySem.Str.ofString "coded_sign") 316) (PySem.Value.ref 87)), (PySem.DictEntry.mk (PySem.PyData.keyHash P (PySem.Str.ofString "braced_code")) (PySem.Value.str (PySem.Str.ofString "braced_code") 328) (PySem.Value.ref 94)), (PySem.DictEntry.mk (PySem.PyData.keyHash P (PySem.Str.ofString "escape_at")) (PySem.Value.str (PySem.Str.ofString "escape_at") 339) (PySem.Value.ref 101)), (PySem.DictEntry.mk (PySem.PyData.keyHash P (PySem.Str.ofString "great_letter")) (PySem.Value.str (PySem.Str.ofString "great_letter") 346) (PySem.Value.ref 108)), (PySem.DictEntry.mk (PySem.PyData.keyHash P (PySem.Str.ofString "KEPT_SIGN")) (PySem.Value.str (PySem.Str.ofString "KEPT_SIGN") 351) (PySem.Value.int (-(1 : Int) : Int) 350)), (PySem.DictEntry.mk (PySem.PyData.keyHash P (PySem.Str.ofString "DROPPED_SIGN")) (PySem.Value.str (PySem.Str.ofString "DROPPED_SIGN") 354) (PySem.Value.int (-(2 : Int) : Int) 353)), (PySem.DictEntry.mk (PySem.PyData.keyHash P (PySem.Str.ofString "TransTable")) (PySem.Value.str (PySem.Str.ofString "TransTable") 393) (PySem.Value.ref 125)), (PySem.DictEntry.mk (PySem.PyData.keyHash P (PySem.Str.ofString "guarded_at")) (PySem.Value.str (PySem.Str.ofString "guarded_at") 402) (PySem.Value.ref 136)), (PySem.DictEntry.mk (PySem.PyData.keyHash P (PySem.Str.ofString "trans_signs")) (PySem.Value.str (PySem.Str.ofString "trans_signs") 412) (PySem.Value.ref 143)), (PySem.DictEntry.mk (PySem.PyData.keyHash P (PySem.Str.ofString "trans_codes")) (PySem.Value.str (PySem.Str.ofString "trans_codes") 426) (PySem.Value.ref 150)), (PySem.DictEntry.mk (PySem.PyData.keyHash P (PySem.Str.ofString "plain_table")) (PySem.Value.str (PySem.Str.ofString "plain_table") 438) (PySem.Value.ref 157)), (PySem.DictEntry.mk (PySem.PyData.keyHash P (PySem.Str.ofString "sorted_once")) (PySem.Value.str (PySem.Str.ofString "sorted_once") 447) (PySem.Value.ref 164)), (PySem.DictEntry.mk (PySem.PyData.keyHash P (PySem.Str.ofString "make_trans")) (PySem.Value.str (PySem.Str.ofString "make_trans") 460) (PySem.Value.ref 171)), (PySem.DictEntry.mk (PySem.PyData.keyHash P (PySem.Str.ofString "rank_outside")) (PySem.Value.str (PySem.Str.ofString "rank_outside") 471) (PySem.Value.ref 178)), (PySem.DictEntry.mk (PySem.PyData.keyHash P (PySem.Str.ofString "turned_code")) (PySem.Value.str (PySem.Str.ofString "turned_code") 480) (PySem.Value.ref 185)), (PySem.DictEntry.mk (PySem.PyData.keyHash P (PySem.Str.ofString "trans_code")) (PySem.Value.str (PySem.Str.ofString "trans_code") 488) (PySem.Value.ref 192)), (PySem.DictEntry.mk (PySem.PyData.keyHash P (PySem.Str.ofString "run_trans")) (PySem.Value.str (PySem.Str.ofString "run_trans") 501) (PySem.Value.ref 199)), (PySem.DictEntry.mk (PySem.PyData.keyHash P (PySem.Str.ofString "trans_text")) (PySem.Value.str (PySem.Str.ofString "trans_text") 512) (PySem.Value.ref 206)), (PySem.DictEntry.mk (PySem.PyData.keyHash P (PySem.Str.ofString "_law_figures")) (PySem.Value.str (PySem.Str.ofString "_law_figures") 516) (PySem.Value.str (PySem.Str.ofString "0123456789abcdef") 515)), (PySem.DictEntry.mk (PySem.PyData.keyHash P (PySem.Str.ofString "_law_short")) (PySem.Value.str (PySem.Str.ofString "_law_short") 522) (PySem.Value.ref 213))] 36) #[])
noncomputable abbrev ob185 (P : Params) : Obj := (PySem.Obj.mk PySem.Value.none none (PySem.Data.fields #[(PySem.Value.int (2 : Int) 0), (PySem.Value.int (0 : Int) 0), (PySem.Value.ref 20), (PySem.Value.int (7 : Int) 0), (PySem.Value.int (0 : Int) 0), (PySem.Value.ref 40), (PySem.Value.int (12 : Int) 0), (PySem.Value.int (0 : Int) 0), (PySem.Value.ref 59), (PySem.Value.int (21 : Int) 0), (PySem.Value.int (0 : Int) 0), (PySem.Value.ref 79), (PySem.Value.int (31 : Int) 0), (PySem.Value.int (0 : Int) 0), (PySem.Value.ref 86), (PySem.Value.int (35 : Int) 0), (PySem.Value.int (0 : Int) 0), (PySem.Value.ref 93), (PySem.Value.int (41 : Int) 0), (PySem.Value.int (0 : Int) 0), (PySem.Value.ref 100), (PySem.Value.int (64 : Int) 0), (PySem.Value.int (0 : Int) 0), (PySem.Value.ref 107), (PySem.Value.int (71 : Int) 0), (PySem.Value.int (0 : Int) 0), (PySem.Value.ref 114), (PySem.Value.int (80 : Int) 0), (PySem.Value.int (0 : Int) 0), (PySem.Value.ref 135), (PySem.Value.int (85 : Int) 0), (PySem.Value.int (0 : Int) 0), (PySem.Value.ref 142), (PySem.Value.int (96 : Int) 0), (PySem.Value.int (0 : Int) 0), (PySem.Value.ref 149), (PySem.Value.int (114 : Int) 0), (PySem.Value.int (0 : Int) 0), (PySem.Value.ref 156), (PySem.Value.int (129 : Int) 0), (PySem.Value.int (0 : Int) 0), (PySem.Value.ref 163), (PySem.Value.int (135 : Int) 0), (PySem.Value.int (0 : Int) 0), (PySem.Value.ref 170), (PySem.Value.int (142 : Int) 0), (PySem.Value.int (0 : Int) 0), (PySem.Value.ref 177), (PySem.Value.int (153 : Int) 0), (PySem.Value.int (0 : Int) 0), (PySem.Value.ref 184), (PySem.Value.int (164 : Int) 0), (PySem.Value.int (0 : Int) 0), (PySem.Value.ref 191), (PySem.Value.int (168 : Int) 0), (PySem.Value.int (0 : Int) 0), (PySem.Value.ref 198), (PySem.Value.int (184 : Int) 0), (PySem.Value.int (0 : Int) 0), (PySem.Value.ref 205), (PySem.Value.int (188 : Int) 0), (PySem.Value.int (0 : Int) 0), (PySem.Value.ref 212)]) #[])
noncomputable abbrev ob186 (P : Params) : Obj := (PySem.Obj.mk (PySem.Value.type "tuple") none (PySem.Data.seq #[] 0) #[])
noncomputable abbrev ob187 (P : Params) : Obj := (PySem.Obj.mk PySem.Value.none none (PySem.Data.fields #[]) #[])
noncomputable abbrev ob188 (P : Params) : Obj := (PySem.Obj.mk (PySem.Value.type "tuple") none (PySem.Data.seq #[(PySem.Value.str (PySem.Str.ofString "table") 475), (PySem.Value.str (PySem.Str.ofString "code") 476), (PySem.Value.str (PySem.Str.ofString "rank") 477)] 0) #[])
noncomputable abbrev ob189 (P : Params) : Obj := (PySem.Obj.mk (PySem.Value.type "tuple") none (PySem.Data.seq #[] 0) #[])
noncomputable abbrev ob190 (P : Params) : Obj := (PySem.Obj.mk PySem.Value.none none (PySem.Data.func (PySem.FuncData.mk (PySem.Str.ofString "turned_code") (PySem.Str.ofString "turned_code") df16.1 (FuncBody.stmts df16.2.1) df16.2.2 0 [] PySem.Value.none PySem.Value.none PySem.Value.none PySem.Value.none none PySem.Value.none PySem.Value.none 0)) #[])
noncomputable abbrev ob191 (P : Params) : Obj := (PySem.Obj.mk (PySem.Value.type "code") none (PySem.Data.fields #[(PySem.Value.str (PySem.Str.ofString "turned_code") 472), (PySem.Value.str (PySem.Str.ofString "turned_code") 473), (PySem.Value.str (PySem.Str.ofString "/claim/cut.py") 474), (PySem.Value.int (153 : Int) 0), (PySem.Value.int (2 : Int) 0), (PySem.Value.int (0 : Int) 0), (PySem.Value.int (0 : Int) 0), (PySem.Value.int (3 : Int) 0), (PySem.Value.ref 179), (PySem.Value.bool Bool.true), (PySem.Value.int (181 : Int) 0), (PySem.Value.ref 180), PySem.Value.none, (PySem.Value.ref 181), (PySem.Value.ref 182), (PySem.Value.ref 183), (PySem.Value.int (478 : Int) 0), (PySem.Value.int (153 : Int) 0), (PySem.Value.str (PySem.Str.ofString "/claim/cut.py") 479)]) #[])
noncomputable abbrev ob192 (P : Params) : Obj := (PySem.Obj.mk (PySem.Value.type "function") none (PySem.Data.func (PySem.FuncData.mk (PySem.Str.ofString "turned_code") (PySem.Str.ofString "turned_code") df16.1 (FuncBody.stmts df16.2.1) df16.2.2 3 [] PySem.Value.none PySem.Value.none PySem.Value.none (PySem.Value.str (PySem.Str.ofString "perlcore.trans") 347) none (PySem.Value.ref 184) PySem.Value.none 0)) #[])
noncomputable abbrev ob193 (P : Params) : Obj := (PySem.Obj.mk (PySem.Value.type "tuple") none (PySem.Data.seq #[] 0) #[])
noncomputable abbrev ob194 (P : Params) : Obj := (PySem.Obj.mk PySem.Value.none none (PySem.Data.fields #[]) #[])
noncomputable abbrev ob195 (P : Params) : Obj := (PySem.Obj.mk (PySem.Value.type "tuple") none (PySem.Data.seq #[(PySem.Value.str (PySem.Str.ofString "table") 484), (PySem.Value.str (PySem.Str.ofString "code") 485)] 0) #[])
noncomputable abbrev ob196 (P : Params) : Obj := (PySem.Obj.mk (PySem.Value.type "tuple") none (PySem.Data.seq #[] 0) #[])
noncomputable abbrev ob197 (P : Params) : Obj := (PySem.Obj.mk PySem.Value.none none (PySem.Data.func (PySem.FuncData.mk (PySem.Str.ofString "trans_code") (PySem.Str.ofString "trans_code") df17.1 (FuncBody.stmts df17.2.1) df17.2.2 0 [] PySem.Value.none PySem.Value.none PySem.Value.none PySem.Value.none none PySem.Value.none PySem.Value.none 0)) #[])
noncomputable abbrev ob198 (P : Params) : Obj := (PySem.Obj.mk (PySem.Value.type "code") none (PySem.Data.fields #[(PySem.Value.str (PySem.Str.ofString "trans_code") 481), (PySem.Value.str (PySem.Str.ofString "trans_code") 482), (PySem.Value.str (PySem.Str.ofString "/claim/cut.py") 483), (PySem.Value.int (164 : Int) 0), (PySem.Value.int (2 : Int) 0), (PySem.Value.int (0 : Int) 0), (PySem.Value.int (0 : Int) 0), (PySem.Value.int (3 : Int) 0), (PySem.Value.ref 186), (PySem.Value.bool Bool.true), (PySem.Value.int (181 : Int) 0), (PySem.Value.ref 187), PySem.Value.none, (PySem.Value.ref 188), (PySem.Value.ref 189), (PySem.Value.ref 190), (PySem.Value.int (486 : Int) 0), (PySem.Value.int (164 : Int) 0), (PySem.Value.str (PySem.Str.ofString "/claim/cut.py") 487)]) #[])
noncomputable abbrev ob199 (P : Params) : Obj := (PySem.Obj.mk (PySem.Value.type "function") none (PySem.Data.func (PySem.FuncData.mk (PySem.Str.ofString "trans_code") (PySem.Str.ofString "trans_code") df17.1 (FuncBody.stmts df17.2.1) df17.2.2 3 [] PySem.Value.none PySem.Value.none PySem.Value.none (PySem.Value.str (PySem.Str.ofString "perlcore.trans") 347) none (PySem.Value.ref 191) PySem.Value.none 0)) #[])
noncomputable abbrev ob200 (P : Params) : Obj := (PySem.Obj.mk (PySem.Value.type "tuple") none (PySem.Data.seq #[] 0) #[])
noncomputable abbrev ob201 (P : Params) : Obj := (PySem.Obj.mk PySem.Value.none none (PySem.Data.fields #[]) #[])
noncomputable abbrev ob202 (P : Params) : Obj := (PySem.Obj.mk (PySem.Value.type "tuple") none (PySem.Data.seq #[(PySem.Value.str (PySem.Str.ofString "table") 492), (PySem.Value.str (PySem.Str.ofString "text") 493), (PySem.Value.str (PySem.Str.ofString "out") 494), (PySem.Value.str (PySem.Str.ofString "count") 495), (PySem.Value.str (PySem.Str.ofString "last") 496), (PySem.Value.str (PySem.Str.ofString "sign") 497), (PySem.Value.str (PySem.Str.ofString "code") 498)] 0) #[])
noncomputable abbrev ob203 (P : Params) : Obj := (PySem.Obj.mk (PySem.Value.type "tuple") none (PySem.Data.seq #[] 0) #[])
noncomputable abbrev ob204 (P : Params) : Obj := (PySem.Obj.mk PySem.Value.none none (PySem.Data.func (PySem.FuncData.mk (PySem.Str.ofString "run_trans") (PySem.Str.ofString "run_trans") df18.1 (FuncBody.stmts df18.2.1) df18.2.2 0 [] PySem.Value.none PySem.Value.none PySem.Value.none PySem.Value.none none PySem.Value.none PySem.Value.none 0)) #[])
noncomputable abbrev ob205 (P : Params) : Obj := (PySem.Obj.mk (PySem.Value.type "code") none (PySem.Data.fields #[(PySem.Value.str (PySem.Str.ofString "run_trans") 489), (PySem.Value.str (PySem.Str.ofString "run_trans") 490), (PySem.Value.str (PySem.Str.ofString "/claim/cut.py") 491), (PySem.Value.int (168 : Int) 0), (PySem.Value.int (2 : Int) 0), (PySem.Value.int (0 : Int) 0), (PySem.Value.int (0 : Int) 0), (PySem.Value.int (3 : Int) 0), (PySem.Value.ref 193), (PySem.Value.bool Bool.true), (PySem.Value.int (181 : Int) 0), (PySem.Value.ref 194), PySem.Value.none, (PySem.Value.ref 195), (PySem.Value.ref 196), (PySem.Value.ref 197), (PySem.Value.int (499 : Int) 0), (PySem.Value.int (168 : Int) 0), (PySem.Value.str (PySem.Str.ofString "/claim/cut.py") 500)]) #[])
noncomputable abbrev ob206 (P : Params) : Obj := (PySem.Obj.mk (PySem.Value.type "function") none (PySem.Data.func (PySem.FuncData.mk (PySem.Str.ofString "run_trans") (PySem.Str.ofString "run_trans") df18.1 (FuncBody.stmts df18.2.1) df18.2.2 3 [] PySem.Value.none PySem.Value.none PySem.Value.none (PySem.Value.str (PySem.Str.ofString "perlcore.trans") 347) none (PySem.Value.ref 198) PySem.Value.none 0)) #[])
noncomputable abbrev ob207 (P : Params) : Obj := (PySem.Obj.mk (PySem.Value.type "tuple") none (PySem.Data.seq #[] 0) #[])
noncomputable abbrev ob208 (P : Params) : Obj := (PySem.Obj.mk PySem.Value.none none (PySem.Data.fields #[]) #[])
noncomputable abbrev ob209 (P : Params) : Obj := (PySem.Obj.mk (PySem.Value.type "tuple") none (PySem.Data.seq #[(PySem.Value.str (PySem.Str.ofString "text") 505), (PySem.Value.str (PySem.Str.ofString "source") 506), (PySem.Value.str (PySem.Str.ofString "target") 507), (PySem.Value.str (PySem.Str.ofString "flags") 508), (PySem.Value.str (PySem.Str.ofString "most") 509)] 0) #[])
noncomputable abbrev ob210 (P : Params) : Obj := (PySem.Obj.mk (PySem.Value.type "tuple") none (PySem.Data.seq #[] 0) #[])
noncomputable abbrev ob211 (P : Params) : Obj := (PySem.Obj.mk PySem.Value.none none (PySem.Data.func (PySem.FuncData.mk (PySem.Str.ofString "trans_text") (PySem.Str.ofString "trans_text") df19.1 (FuncBody.stmts df19.2.1) df19.2.2 0 [] PySem.Value.none PySem.Value.none PySem.Value.none PySem.Value.none none PySem.Value.none PySem.Value.none 0)) #[])
noncomputable abbrev ob212 (P : Params) : Obj := (PySem.Obj.mk (PySem.Value.type "code") none (PySem.Data.fields #[(PySem.Value.str (PySem.Str.ofString "trans_text") 502), (PySem.Value.str (PySem.Str.ofString "trans_text") 503), (PySem.Value.str (PySem.Str.ofString "/claim/cut.py") 504), (PySem.Value.int (184 : Int) 0), (PySem.Value.int (5 : Int) 0), (PySem.Value.int (0 : Int) 0), (PySem.Value.int (0 : Int) 0), (PySem.Value.int (3 : Int) 0), (PySem.Value.ref 200), (PySem.Value.bool Bool.true), (PySem.Value.int (181 : Int) 0), (PySem.Value.ref 201), PySem.Value.none, (PySem.Value.ref 202), (PySem.Value.ref 203), (PySem.Value.ref 204), (PySem.Value.int (510 : Int) 0), (PySem.Value.int (184 : Int) 0), (PySem.Value.str (PySem.Str.ofString "/claim/cut.py") 511)]) #[])
noncomputable abbrev ob213 (P : Params) : Obj := (PySem.Obj.mk (PySem.Value.type "function") none (PySem.Data.func (PySem.FuncData.mk (PySem.Str.ofString "trans_text") (PySem.Str.ofString "trans_text") df19.1 (FuncBody.stmts df19.2.1) df19.2.2 3 [] PySem.Value.none PySem.Value.none PySem.Value.none (PySem.Value.str (PySem.Str.ofString "perlcore.trans") 347) none (PySem.Value.ref 205) PySem.Value.none 0)) #[])
noncomputable abbrev ob214 (P : Params) : Obj := (PySem.Obj.mk (PySem.Value.type "tuple") none (PySem.Data.seq #[] 0) #[])
noncomputable abbrev ob215 (P : Params) : Obj := (PySem.Obj.mk PySem.Value.none none (PySem.Data.fields #[]) #[])
noncomputable abbrev ob216 (P : Params) : Obj := (PySem.Obj.mk (PySem.Value.type "tuple") none (PySem.Data.seq #[] 0) #[])
noncomputable abbrev ob217 (P : Params) : Obj := (PySem.Obj.mk (PySem.Value.type "tuple") none (PySem.Data.seq #[] 0) #[])
noncomputable abbrev ob218 (P : Params) : Obj := (PySem.Obj.mk PySem.Value.none none (PySem.Data.func (PySem.FuncData.mk (PySem.Str.ofString "_law_short") (PySem.Str.ofString "_law_short") df20.1 (FuncBody.stmts df20.2.1) df20.2.2 0 [] PySem.Value.none PySem.Value.none PySem.Value.none PySem.Value.none none PySem.Value.none PySem.Value.none 0)) #[])
noncomputable abbrev ob219 (P : Params) : Obj := (PySem.Obj.mk (PySem.Value.type "code") none (PySem.Data.fields #[(PySem.Value.str (PySem.Str.ofString "_law_short") 517), (PySem.Value.str (PySem.Str.ofString "_law_short") 518), (PySem.Value.str (PySem.Str.ofString "/claim/cut.py") 519), (PySem.Value.int (188 : Int) 0), (PySem.Value.int (0 : Int) 0), (PySem.Value.int (0 : Int) 0), (PySem.Value.int (0 : Int) 0), (PySem.Value.int (3 : Int) 0), (PySem.Value.ref 207), (PySem.Value.bool Bool.true), (PySem.Value.int (181 : Int) 0), (PySem.Value.ref 208), PySem.Value.none, (PySem.Value.ref 209), (PySem.Value.ref 210), (PySem.Value.ref 211), (PySem.Value.int (520 : Int) 0), (PySem.Value.int (188 : Int) 0), (PySem.Value.str (PySem.Str.ofString "/claim/cut.py") 521)]) #[])
noncomputable abbrev ob220 (P : Params) : Obj := (PySem.Obj.mk (PySem.Value.type "function") none (PySem.Data.func (PySem.FuncData.mk (PySem.Str.ofString "_law_short") (PySem.Str.ofString "_law_short") df20.1 (FuncBody.stmts df20.2.1) df20.2.2 3 [] PySem.Value.none PySem.Value.none PySem.Value.none (PySem.Value.str (PySem.Str.ofString "law_qz0089_01") 513) none (PySem.Value.ref 212) PySem.Value.none 0)) #[])
noncomputable abbrev hp8 (P : Params) : Heap := ⟨⟨[boot_o_0 P, boot_o_1 P, ob4 P, ob184 P, boot_o_4 P, boot_o_5 P, boot_o_6 P, boot_o_7 P, boot_o_8 P, boot_o_9 P, boot_o_10 P, ob0 P, ob185 P, ob2 P, ob3 P, ob7 P, ob8 P, ob9 P, ob10 P, ob11 P, ob12 P, ob13 P, ob14 P, ob15 P, ob16 P, ob17 P, ob18 P, ob19 P, ob20 P, ob21 P, ob22 P, ob51 P, ob24 P, ob25 P, ob26 P, ob30 P, ob31 P, ob32 P, ob33 P, ob34 P, ob35 P, ob36 P, ob37 P, ob38 P, ob39 P, ob40 P, ob41 P, ob42 P, ob43 P, ob44 P, ob45 P, ob46 P, ob47 P, ob48 P, ob52 P, ob53 P, ob54 P, ob55 P, ob56 P, ob57 P, ob58 P, ob59 P, ob60 P, ob61 P, ob62 P, ob63 P, ob64 P, ob65 P, ob66 P, ob67 P, ob68 P, ob69 P, ob70 P, ob72 P, ob75 P, ob76 P, ob77 P, ob78 P, ob79 P, ob80 P, ob81 P, ob82 P, ob83 P, ob84 P, ob85 P, ob86 P, ob87 P, ob88 P, ob89 P, ob90 P, ob91 P, ob92 P, ob93 P, ob94 P, ob95 P, ob96 P, ob97 P, ob98 P, ob99 P, ob100 P, ob101 P, ob102 P, ob103 P, ob104 P, ob105 P, ob106 P, ob107 P, ob108 P, ob109 P, ob112 P, ob113 P, ob114 P, ob115 P, ob116 P, ob117 P, ob118 P, ob119 P, ob120 P, ob121 P, ob122 P, ob123 P, ob124 P, ob125 P, ob126 P, ob127 P, ob128 P, ob129 P, ob130 P, ob131 P, ob132 P, ob135 P, ob136 P, ob137 P, ob138 P, ob139 P, ob140 P, ob141 P, ob142 P, ob143 P, ob144 P, ob145 P, ob146 P, ob147 P, ob148 P, ob149 P, ob150 P, ob151 P, ob152 P, ob153 P, ob154 P, ob155 P, ob156 P, ob157 P, ob158 P, ob159 P, ob160 P, ob161 P, ob162 P, ob163 P, ob164 P, ob165 P, ob166 P, ob167 P, ob168 P, ob169 P, ob170 P, ob171 P, ob172 P, ob173 P, ob174 P, ob175 P, ob176 P, ob177 P, ob178 P, ob179 P, ob180 P, ob181 P, ob182 P, ob183 P, ob186 P, ob187 P, ob188 P, ob189 P, ob190 P, ob191 P, ob192 P, ob193 P, ob194 P, ob195 P, ob196 P, ob197 P, ob198 P, ob199 P, ob200 P, ob201 P, ob202 P, ob203 P, ob204 P, ob205 P, ob206 P, ob207 P, ob208 P, ob209 P, ob210 P, ob211 P, ob212 P, ob213 P, ob214 P, ob215 P, ob216 P, ob217 P, ob218 P, ob219 P, ob220 P]⟩,
  (PySem.Life.mk [] [] [] 0 [] [] Bool.false #[] [] 0 Bool.false Bool.false Bool.false (0 : Int) [(2000 : Int), (10 : Int), (10 : Int)] Bool.false 0 Bool.true [] [] 0 Bool.false)⟩
noncomputable abbrev st8 (w : World) (os : OsState) : Shared := ⟨hp8 w.params, #[], (PySem.Drawn.mk 0 0 0 0), 523, os⟩
noncomputable abbrev sl7 : List Stmt := (topL.drop 24).take 7
theorem pc7 (w : World) (os : OsState) : segRun treeTable pw w 11 (some (PySem.Value.ref 6)) 1 176 (st7 w os) (piecesOf sl7 envT codT (PySem.Pos.mk 142 0 152 23) frT) = some (.next, st8 w os, codT, (PySem.Pos.mk 188 0 189 71)) := by walk_at "myPiece"
noncomputable abbrev ob221 (P : Params) : Obj := (PySem.Obj.mk (PySem.Value.type "dict") none (PySem.Data.dict #[(PySem.DictEntry.mk (PySem.PyData.keyHash P (PySem.Str.ofString "__name__")) (PySem.Value.str (PySem.Str.ofString "__name__") 165) (PySem.Value.str (PySem.Str.ofString "law_qz0089_01") 513)), (PySem.DictEntry.mk (PySem.PyData.keyHash P (PySem.Str.ofString "__doc__")) (PySem.Value.str (PySem.Str.ofString "__doc__") 166) PySem.Value.none), (PySem.DictEntry.mk (PySem.PyData.keyHash P (PySem.Str.ofString "__package__")) (PySem.Value.str (PySem.Str.ofString "__package__") 167) PySem.Value.none), (PySem.DictEntry.mk (PySem.PyData.keyHash P (PySem.Str.ofString "__loader__")) (PySem.Value.str (PySem.Str.ofString "__loader__") 168) (valAt (boot_o_3 P) 3)), (PySem.DictEntry.mk (PySem.PyData.keyHash P (PySem.Str.ofString "__spec__")) (PySem.Value.str (PySem.Str.ofString "__spec__") 169) PySem.Value.none), (PySem.DictEntry.mk (PySem.PyData.keyHash P (PySem.Str.ofString "__annotations__")) (PySem.Value.str (PySem.Str.ofString "__annotations__") 170) (PySem.Value.ref 6)), (PySem.DictEntry.mk (PySem.PyData.keyHash P (PySem.Str.ofString "__builtins__")) (PySem.Value.str (PySem.Str.ofString "__builtins__") 171) (PySem.Value.ref 4)), (PySem.DictEntry.mk (PySem.PyData.keyHash P (PySem.Str.ofString "__file__")) (PySem.Value.str (PySem.Str.ofString "__file__") 173) (PySem.Value.str (PySem.Str.ofString "/claim/cut.py") 172)), (PySem.DictEntry.mk (PySem.PyData.keyHash P (PySem.Str.ofString "__cached__")) (PySem.Value.str (PySem.Str.ofString "__cached__") 174) PySem.Value.none), (PySem.DictEntry.mk (PySem.PyData.keyHash P (PySem.Str.ofString "PerlError")) (PySem.Value.str (PySem.Str.ofString "PerlError") 217) (PySem.Value.ref 31)), (PySem.DictEntry.mk (PySem.PyData.keyHash P (PySem.Str.ofString "Die")) (PySem.Value.str (PySem.Str.ofString "Die") 242) (PySem.Value.ref 51)), (PySem.DictEntry.mk (PySem.PyData.keyHash P (PySem.Str.ofString "SyntaxDie")) (PySem.Value.str (PySem.Str.ofString "SyntaxDie") 268) (PySem.Value.ref 70)), (PySem.DictEntry.mk (PySem.PyData.keyHash P (PySem.Str.ofString "SHORT_ESCAPES")) (PySem.Value.str (PySem.Str.ofString "SHORT_ESCAPES") 292) (PySem.Value.ref 73)), (PySem.DictEntry.mk (PySem.PyData.keyHash P (PySem.Str.ofString "CODE_FIGURES")) (PySem.Value.str (PySem.Str.ofString "CODE_FIGURES") 294) (PySem.Value.str (PySem.Str.ofString "0123456789abcdef") 293)), (PySem.DictEntry.mk (PySem.PyData.keyHash P (PySem.Str.ofString "TOP_CODE")) (PySem.Value.str (PySem.Str.ofString "TOP_CODE") 296) (PySem.Value.int (1114111 : Int) 295)), (PySem.DictEntry.mk (PySem.PyData.keyHash P (PySem.Str.ofString "digits_value")) (PySem.Value.str (PySem.Str.ofString "digits_value") 309) (PySem.Value.ref 80)), (PySem.DictEntry.mk (PySem.PyData.keyHash P (PySem.Str.ofString "coded_sign")) (PySem.Value.str (PySem.Str.ofString "coded_sign") 316) (PySem.Value.ref 87)), (PySem.DictEntry.mk (PySem.PyData.keyHash P (PySem.Str.ofString "braced_code")) (PySem.Value.str (PySem.Str.ofString "braced_code") 328) (PySem.Value.ref 94)), (PySem.DictEntry.mk (PySem.PyData.keyHash P (PySem.Str.ofString "escape_at")) (PySem.Value.str (PySem.Str.ofString "escape_at") 339) (PySem.Value.ref 101)), (PySem.DictEntry.mk (PySem.PyData.keyHash P (PySem.Str.ofString "great_letter")) (PySem.Value.str (PySem.Str.ofString "great_letter") 346) (PySem.Value.ref 108)), (PySem.DictEntry.mk (PySem.PyData.keyHash P (PySem.Str.ofString "KEPT_SIGN")) (PySem.Value.str (PySem.Str.ofString "KEPT_SIGN") 351) (PySem.Value.int (-(1 : Int) : Int) 350)), (PySem.DictEntry.mk (PySem.PyData.keyHash P (PySem.Str.ofString "DROPPED_SIGN")) (PySem.Value.str (PySem.Str.ofString "DROPPED_SIGN") 354) (PySem.Value.int (-(2 : Int) : Int) 353)), (PySem.DictEntry.mk (PySem.PyData.keyHash P (PySem.Str.ofString "TransTable")) (PySem.Value.str (PySem.Str.ofString "TransTable") 393) (PySem.Value.ref 125)), (PySem.DictEntry.mk (PySem.PyData.keyHash P (PySem.Str.ofString "guarded_at")) (PySem.Value.str (PySem.Str.ofString "guarded_at") 402) (PySem.Value.ref 136)), (PySem.DictEntry.mk (PySem.PyData.keyHash P (PySem.Str.ofString "trans_signs")) (PySem.Value.str (PySem.Str.ofString "trans_signs") 412) (PySem.Value.ref 143)), (PySem.DictEntry.mk (PySem.PyData.keyHash P (PySem.Str.ofString "trans_codes")) (PySem.Value.str (PySem.Str.ofString "trans_codes") 426) (PySem.Value.ref 150)), (PySem.DictEntry.mk (PySem.PyData.keyHash P (PySem.Str.ofString "plain_table")) (PySem.Value.str (PySem.Str.ofString "plain_table") 438) (PySem.Value.ref 157)), (PySem.DictEntry.mk (PySem.PyData.keyHash P (PySem.Str.ofString "sorted_once")) (PySem.Value.str (PySem.Str.ofString "sorted_once") 447) (PySem.Value.ref 164)), (PySem.DictEntry.mk (PySem.PyData.keyHash P (PySem.Str.ofString "make_trans")) (PySem.Value.str (PySem.Str.ofString "make_trans") 460) (PySem.Value.ref 171)), (PySem.DictEntry.mk (PySem.PyData.keyHash P (PySem.Str.ofString "rank_outside")) (PySem.Value.str (PySem.Str.ofString "rank_outside") 471) (PySem.Value.ref 178)), (PySem.DictEntry.mk (PySem.PyData.keyHash P (PySem.Str.ofString "turned_code")) (PySem.Value.str (PySem.Str.ofString "turned_code") 480) (PySem.Value.ref 185)), (PySem.DictEntry.mk (PySem.PyData.keyHash P (PySem.Str.ofString "trans_code")) (PySem.Value.str (PySem.Str.ofString "trans_code") 488) (PySem.Value.ref 192)), (PySem.DictEntry.mk (PySem.PyData.keyHash P (PySem.Str.ofString "run_trans")) (PySem.Value.str (PySem.Str.ofString "run_trans") 501) (PySem.Value.ref 199)), (PySem.DictEntry.mk (PySem.PyData.keyHash P (PySem.Str.ofString "trans_text")) (PySem.Value.str (PySem.Str.ofString "trans_text") 512) (PySem.Value.ref 206)), (PySem.DictEntry.mk (PySem.PyData.keyHash P (PySem.Str.ofString "_law_figures")) (PySem.Value.str (PySem.Str.ofString "_law_figures") 516) (PySem.Value.str (PySem.Str.ofString "0123456789abcdef") 515)), (PySem.DictEntry.mk (PySem.PyData.keyHash P (PySem.Str.ofString "_law_short")) (PySem.Value.str (PySem.Str.ofString "_law_short") 522) (PySem.Value.ref 213)), (PySem.DictEntry.mk (PySem.PyData.keyHash P (PySem.Str.ofString "_law_roll")) (PySem.Value.str (PySem.Str.ofString "_law_roll") 530) (PySem.Value.ref 220)), (PySem.DictEntry.mk (PySem.PyData.keyHash P (PySem.Str.ofString "_law_spelt")) (PySem.Value.str (PySem.Str.ofString "_law_spelt") 540) (PySem.Value.ref 227)), (PySem.DictEntry.mk (PySem.PyData.keyHash P (PySem.Str.ofString "_law_sign")) (PySem.Value.str (PySem.Str.ofString "_law_sign") 550) (PySem.Value.ref 234)), (PySem.DictEntry.mk (PySem.PyData.keyHash P (PySem.Str.ofString "_law_list")) (PySem.Value.str (PySem.Str.ofString "_law_list") 566) (PySem.Value.ref 241)), (PySem.DictEntry.mk (PySem.PyData.keyHash P (PySem.Str.ofString "_law_heard")) (PySem.Value.str (PySem.Str.ofString "_law_heard") 573) (PySem.Value.ref 248)), (PySem.DictEntry.mk (PySem.PyData.keyHash P (PySem.Str.ofString "_law_turned")) (PySem.Value.str (PySem.Str.ofString "_law_turned") 586) (PySem.Value.ref 255)), (PySem.DictEntry.mk (PySem.PyData.keyHash P (PySem.Str.ofString "law")) (PySem.Value.str (PySem.Str.ofString "law") 592) (PySem.Value.ref 260))] 43) #[])
noncomputable abbrev ob222 (P : Params) : Obj := (PySem.Obj.mk PySem.Value.none none (PySem.Data.fields #[(PySem.Value.int (2 : Int) 0), (PySem.Value.int (0 : Int) 0), (PySem.Value.ref 20), (PySem.Value.int (7 : Int) 0), (PySem.Value.int (0 : Int) 0), (PySem.Value.ref 40), (PySem.Value.int (12 : Int) 0), (PySem.Value.int (0 : Int) 0), (PySem.Value.ref 59), (PySem.Value.int (21 : Int) 0), (PySem.Value.int (0 : Int) 0), (PySem.Value.ref 79), (PySem.Value.int (31 : Int) 0), (PySem.Value.int (0 : Int) 0), (PySem.Value.ref 86), (PySem.Value.int (35 : Int) 0), (PySem.Value.int (0 : Int) 0), (PySem.Value.ref 93), (PySem.Value.int (41 : Int) 0), (PySem.Value.int (0 : Int) 0), (PySem.Value.ref 100), (PySem.Value.int (64 : Int) 0), (PySem.Value.int (0 : Int) 0), (PySem.Value.ref 107), (PySem.Value.int (71 : Int) 0), (PySem.Value.int (0 : Int) 0), (PySem.Value.ref 114), (PySem.Value.int (80 : Int) 0), (PySem.Value.int (0 : Int) 0), (PySem.Value.ref 135), (PySem.Value.int (85 : Int) 0), (PySem.Value.int (0 : Int) 0), (PySem.Value.ref 142), (PySem.Value.int (96 : Int) 0), (PySem.Value.int (0 : Int) 0), (PySem.Value.ref 149), (PySem.Value.int (114 : Int) 0), (PySem.Value.int (0 : Int) 0), (PySem.Value.ref 156), (PySem.Value.int (129 : Int) 0), (PySem.Value.int (0 : Int) 0), (PySem.Value.ref 163), (PySem.Value.int (135 : Int) 0), (PySem.Value.int (0 : Int) 0), (PySem.Value.ref 170), (PySem.Value.int (142 : Int) 0), (PySem.Value.int (0 : Int) 0), (PySem.Value.ref 177), (PySem.Value.int (153 : Int) 0), (PySem.Value.int (0 : Int) 0), (PySem.Value.ref 184), (PySem.Value.int (164 : Int) 0), (PySem.Value.int (0 : Int) 0), (PySem.Value.ref 191), (PySem.Value.int (168 : Int) 0), (PySem.Value.int (0 : Int) 0), (PySem.Value.ref 198), (PySem.Value.int (184 : Int) 0), (PySem.Value.int (0 : Int) 0), (PySem.Value.ref 205), (PySem.Value.int (188 : Int) 0), (PySem.Value.int (0 : Int) 0), (PySem.Value.ref 212), (PySem.Value.int (190 : Int) 0), (PySem.Value.int (0 : Int) 0), (PySem.Value.ref 219), (PySem.Value.int (195 : Int) 0), (PySem.Value.int (0 : Int) 0), (PySem.Value.ref 226), (PySem.Value.int (201 : Int) 0), (PySem.Value.int (0 : Int) 0), (PySem.Value.ref 233), (PySem.Value.int (219 : Int) 0), (PySem.Value.int (0 : Int) 0), (PySem.Value.ref 240), (PySem.Value.int (236 : Int) 0), (PySem.Value.int (0 : Int) 0), (PySem.Value.ref 247), (PySem.Value.int (241 : Int) 0), (PySem.Value.int (0 : Int) 0), (PySem.Value.ref 254), (PySem.Value.int (251 : Int) 0), (PySem.Value.int (0 : Int) 0), (PySem.Value.ref 259)]) #[])
noncomputable abbrev ob223 (P : Params) : Obj := (PySem.Obj.mk (PySem.Value.type "tuple") none (PySem.Data.seq #[] 0) #[])
noncomputable abbrev ob224 (P : Params) : Obj := (PySem.Obj.mk PySem.Value.none none (PySem.Data.fields #[]) #[])
noncomputable abbrev ob225 (P : Params) : Obj := (PySem.Obj.mk (PySem.Value.type "tuple") none (PySem.Data.seq #[(PySem.Value.str (PySem.Str.ofString "pen") 526), (PySem.Value.str (PySem.Str.ofString "many") 527)] 0) #[])
noncomputable abbrev ob226 (P : Params) : Obj := (PySem.Obj.mk (PySem.Value.type "tuple") none (PySem.Data.seq #[] 0) #[])
noncomputable abbrev ob227 (P : Params) : Obj := (PySem.Obj.mk PySem.Value.none none (PySem.Data.func (PySem.FuncData.mk (PySem.Str.ofString "_law_roll") (PySem.Str.ofString "_law_roll") df21.1 (FuncBody.stmts df21.2.1) df21.2.2 0 [] PySem.Value.none PySem.Value.none PySem.Value.none PySem.Value.none none PySem.Value.none PySem.Value.none 0)) #[])
noncomputable abbrev ob228 (P : Params) : Obj := (PySem.Obj.mk (PySem.Value.type "code") none (PySem.Data.fields #[(PySem.Value.str (PySem.Str.ofString "_law_roll") 523), (PySem.Value.str (PySem.Str.ofString "_law_roll") 524), (PySem.Value.str (PySem.Str.ofString "/claim/cut.py") 525), (PySem.Value.int (190 : Int) 0), (PySem.Value.int (2 : Int) 0), (PySem.Value.int (0 : Int) 0), (PySem.Value.int (0 : Int) 0), (PySem.Value.int (3 : Int) 0), (PySem.Value.ref 214), (PySem.Value.bool Bool.true), (PySem.Value.int (181 : Int) 0), (PySem.Value.ref 215), PySem.Value.none, (PySem.Value.ref 216), (PySem.Value.ref 217), (PySem.Value.ref 218), (PySem.Value.int (528 : Int) 0), (PySem.Value.int (190 : Int) 0), (PySem.Value.str (PySem.Str.ofString "/claim/cut.py") 529)]) #[])
noncomputable abbrev ob229 (P : Params) : Obj := (PySem.Obj.mk (PySem.Value.type "function") none (PySem.Data.func (PySem.FuncData.mk (PySem.Str.ofString "_law_roll") (PySem.Str.ofString "_law_roll") df21.1 (FuncBody.stmts df21.2.1) df21.2.2 3 [] PySem.Value.none PySem.Value.none PySem.Value.none (PySem.Value.str (PySem.Str.ofString "law_qz0089_01") 513) none (PySem.Value.ref 219) PySem.Value.none 0)) #[])
noncomputable abbrev ob230 (P : Params) : Obj := (PySem.Obj.mk (PySem.Value.type "tuple") none (PySem.Data.seq #[] 0) #[])
noncomputable abbrev ob231 (P : Params) : Obj := (PySem.Obj.mk PySem.Value.none none (PySem.Data.fields #[]) #[])
noncomputable abbrev ob232 (P : Params) : Obj := (PySem.Obj.mk (PySem.Value.type "tuple") none (PySem.Data.seq #[(PySem.Value.str (PySem.Str.ofString "code") 534), (PySem.Value.str (PySem.Str.ofString "base") 535), (PySem.Value.str (PySem.Str.ofString "least") 536), (PySem.Value.str (PySem.Str.ofString "text") 537)] 0) #[])
noncomputable abbrev ob233 (P : Params) : Obj := (PySem.Obj.mk (PySem.Value.type "tuple") none (PySem.Data.seq #[] 0) #[])
noncomputable abbrev ob234 (P : Params) : Obj := (PySem.Obj.mk PySem.Value.none none (PySem.Data.func (PySem.FuncData.mk (PySem.Str.ofString "_law_spelt") (PySem.Str.ofString "_law_spelt") df22.1 (FuncBody.stmts df22.2.1) df22.2.2 0 [] PySem.Value.none PySem.Value.none PySem.Value.none PySem.Value.none none PySem.Value.none PySem.Value.none 0)) #[])
noncomputable abbrev ob235 (P : Params) : Obj := (PySem.Obj.mk (PySem.Value.type "code") none (PySem.Data.fields #[(PySem.Value.str (PySem.Str.ofString "_law_spelt") 531), (PySem.Value.str (PySem.Str.ofString "_law_spelt") 532), (PySem.Value.str (PySem.Str.ofString "/claim/cut.py") 533), (PySem.Value.int (195 : Int) 0), (PySem.Value.int (3 : Int) 0), (PySem.Value.int (0 : Int) 0), (PySem.Value.int (0 : Int) 0), (PySem.Value.int (3 : Int) 0), (PySem.Value.ref 221), (PySem.Value.bool Bool.true), (PySem.Value.int (181 : Int) 0), (PySem.Value.ref 222), PySem.Value.none, (PySem.Value.ref 223), (PySem.Value.ref 224), (PySem.Value.ref 225), (PySem.Value.int (538 : Int) 0), (PySem.Value.int (195 : Int) 0), (PySem.Value.str (PySem.Str.ofString "/claim/cut.py") 539)]) #[])
noncomputable abbrev ob236 (P : Params) : Obj := (PySem.Obj.mk (PySem.Value.type "function") none (PySem.Data.func (PySem.FuncData.mk (PySem.Str.ofString "_law_spelt") (PySem.Str.ofString "_law_spelt") df22.1 (FuncBody.stmts df22.2.1) df22.2.2 3 [] PySem.Value.none PySem.Value.none PySem.Value.none (PySem.Value.str (PySem.Str.ofString "law_qz0089_01") 513) none (PySem.Value.ref 226) PySem.Value.none 0)) #[])
noncomputable abbrev ob237 (P : Params) : Obj := (PySem.Obj.mk (PySem.Value.type "tuple") none (PySem.Data.seq #[] 0) #[])
noncomputable abbrev ob238 (P : Params) : Obj := (PySem.Obj.mk PySem.Value.none none (PySem.Data.fields #[]) #[])
noncomputable abbrev ob239 (P : Params) : Obj := (PySem.Obj.mk (PySem.Value.type "tuple") none (PySem.Data.seq #[(PySem.Value.str (PySem.Str.ofString "pen") 544), (PySem.Value.str (PySem.Str.ofString "way") 545), (PySem.Value.str (PySem.Str.ofString "code") 546), (PySem.Value.str (PySem.Str.ofString "letter") 547)] 0) #[])
noncomputable abbrev ob240 (P : Params) : Obj := (PySem.Obj.mk (PySem.Value.type "tuple") none (PySem.Data.seq #[] 0) #[])
noncomputable abbrev ob241 (P : Params) : Obj := (PySem.Obj.mk PySem.Value.none none (PySem.Data.func (PySem.FuncData.mk (PySem.Str.ofString "_law_sign") (PySem.Str.ofString "_law_sign") df23.1 (FuncBody.stmts df23.2.1) df23.2.2 0 [] PySem.Value.none PySem.Value.none PySem.Value.none PySem.Value.none none PySem.Value.none PySem.Value.none 0)) #[])
noncomputable abbrev ob242 (P : Params) : Obj := (PySem.Obj.mk (PySem.Value.type "code") none (PySem.Data.fields #[(PySem.Value.str (PySem.Str.ofString "_law_sign") 541), (PySem.Value.str (PySem.Str.ofString "_law_sign") 542), (PySem.Value.str (PySem.Str.ofString "/claim/cut.py") 543), (PySem.Value.int (201 : Int) 0), (PySem.Value.int (1 : Int) 0), (PySem.Value.int (0 : Int) 0), (PySem.Value.int (0 : Int) 0), (PySem.Value.int (3 : Int) 0), (PySem.Value.ref 228), (PySem.Value.bool Bool.true), (PySem.Value.int (181 : Int) 0), (PySem.Value.ref 229), PySem.Value.none, (PySem.Value.ref 230), (PySem.Value.ref 231), (PySem.Value.ref 232), (PySem.Value.int (548 : Int) 0), (PySem.Value.int (201 : Int) 0), (PySem.Value.str (PySem.Str.ofString "/claim/cut.py") 549)]) #[])
noncomputable abbrev ob243 (P : Params) : Obj := (PySem.Obj.mk (PySem.Value.type "function") none (PySem.Data.func (PySem.FuncData.mk (PySem.Str.ofString "_law_sign") (PySem.Str.ofString "_law_sign") df23.1 (FuncBody.stmts df23.2.1) df23.2.2 3 [] PySem.Value.none PySem.Value.none PySem.Value.none (PySem.Value.str (PySem.Str.ofString "law_qz0089_01") 513) none (PySem.Value.ref 233) PySem.Value.none 0)) #[])
noncomputable abbrev ob244 (P : Params) : Obj := (PySem.Obj.mk (PySem.Value.type "tuple") none (PySem.Data.seq #[] 0) #[])
noncomputable abbrev ob245 (P : Params) : Obj := (PySem.Obj.mk PySem.Value.none none (PySem.Data.fields #[]) #[])
noncomputable abbrev ob246 (P : Params) : Obj := (PySem.Obj.mk (PySem.Value.type "tuple") none (PySem.Data.seq #[(PySem.Value.str (PySem.Str.ofString "pen") 554), (PySem.Value.str (PySem.Str.ofString "text") 555), (PySem.Value.str (PySem.Str.ofString "signs") 556), (PySem.Value.str (PySem.Str.ofString "codes") 557), (PySem.Value.str (PySem.Str.ofString "turn") 558), (PySem.Value.str (PySem.Str.ofString "part") 559), (PySem.Value.str (PySem.Str.ofString "code") 560), (PySem.Value.str (PySem.Str.ofString "is_guarded") 561), (PySem.Value.str (PySem.Str.ofString "last") 562), (PySem.Value.str (PySem.Str.ofString "is_last_guarded") 563)] 0) #[])
noncomputable abbrev ob247 (P : Params) : Obj := (PySem.Obj.mk (PySem.Value.type "tuple") none (PySem.Data.seq #[] 0) #[])
noncomputable abbrev ob248 (P : Params) : Obj := (PySem.Obj.mk PySem.Value.none none (PySem.Data.func (PySem.FuncData.mk (PySem.Str.ofString "_law_list") (PySem.Str.ofString "_law_list") df24.1 (FuncBody.stmts df24.2.1) df24.2.2 0 [] PySem.Value.none PySem.Value.none PySem.Value.none PySem.Value.none none PySem.Value.none PySem.Value.none 0)) #[])
noncomputable abbrev ob249 (P : Params) : Obj := (PySem.Obj.mk (PySem.Value.type "code") none (PySem.Data.fields #[(PySem.Value.str (PySem.Str.ofString "_law_list") 551), (PySem.Value.str (PySem.Str.ofString "_law_list") 552), (PySem.Value.str (PySem.Str.ofString "/claim/cut.py") 553), (PySem.Value.int (219 : Int) 0), (PySem.Value.int (1 : Int) 0), (PySem.Value.int (0 : Int) 0), (PySem.Value.int (0 : Int) 0), (PySem.Value.int (3 : Int) 0), (PySem.Value.ref 235), (PySem.Value.bool Bool.true), (PySem.Value.int (181 : Int) 0), (PySem.Value.ref 236), PySem.Value.none, (PySem.Value.ref 237), (PySem.Value.ref 238), (PySem.Value.ref 239), (PySem.Value.int (564 : Int) 0), (PySem.Value.int (219 : Int) 0), (PySem.Value.str (PySem.Str.ofString "/claim/cut.py") 565)]) #[])
noncomputable abbrev ob250 (P : Params) : Obj := (PySem.Obj.mk (PySem.Value.type "function") none (PySem.Data.func (PySem.FuncData.mk (PySem.Str.ofString "_law_list") (PySem.Str.ofString "_law_list") df24.1 (FuncBody.stmts df24.2.1) df24.2.2 3 [] PySem.Value.none PySem.Value.none PySem.Value.none (PySem.Value.str (PySem.Str.ofString "law_qz0089_01") 513) none (PySem.Value.ref 240) PySem.Value.none 0)) #[])
noncomputable abbrev ob251 (P : Params) : Obj := (PySem.Obj.mk (PySem.Value.type "tuple") none (PySem.Data.seq #[] 0) #[])
noncomputable abbrev ob252 (P : Params) : Obj := (PySem.Obj.mk PySem.Value.none none (PySem.Data.fields #[]) #[])
noncomputable abbrev ob253 (P : Params) : Obj := (PySem.Obj.mk (PySem.Value.type "tuple") none (PySem.Data.seq #[(PySem.Value.str (PySem.Str.ofString "work") 570)] 0) #[])
noncomputable abbrev ob254 (P : Params) : Obj := (PySem.Obj.mk (PySem.Value.type "tuple") none (PySem.Data.seq #[] 0) #[])
noncomputable abbrev ob255 (P : Params) : Obj := (PySem.Obj.mk PySem.Value.none none (PySem.Data.func (PySem.FuncData.mk (PySem.Str.ofString "_law_heard") (PySem.Str.ofString "_law_heard") df25.1 (FuncBody.stmts df25.2.1) df25.2.2 0 [] PySem.Value.none PySem.Value.none PySem.Value.none PySem.Value.none none PySem.Value.none PySem.Value.none 0)) #[])
noncomputable abbrev ob256 (P : Params) : Obj := (PySem.Obj.mk (PySem.Value.type "code") none (PySem.Data.fields #[(PySem.Value.str (PySem.Str.ofString "_law_heard") 567), (PySem.Value.str (PySem.Str.ofString "_law_heard") 568), (PySem.Value.str (PySem.Str.ofString "/claim/cut.py") 569), (PySem.Value.int (236 : Int) 0), (PySem.Value.int (1 : Int) 0), (PySem.Value.int (0 : Int) 0), (PySem.Value.int (0 : Int) 0), (PySem.Value.int (3 : Int) 0), (PySem.Value.ref 242), (PySem.Value.bool Bool.true), (PySem.Value.int (181 : Int) 0), (PySem.Value.ref 243), PySem.Value.none, (PySem.Value.ref 244), (PySem.Value.ref 245), (PySem.Value.ref 246), (PySem.Value.int (571 : Int) 0), (PySem.Value.int (236 : Int) 0), (PySem.Value.str (PySem.Str.ofString "/claim/cut.py") 572)]) #[])
noncomputable abbrev ob257 (P : Params) : Obj := (PySem.Obj.mk (PySem.Value.type "function") none (PySem.Data.func (PySem.FuncData.mk (PySem.Str.ofString "_law_heard") (PySem.Str.ofString "_law_heard") df25.1 (FuncBody.stmts df25.2.1) df25.2.2 3 [] PySem.Value.none PySem.Value.none PySem.Value.none (PySem.Value.str (PySem.Str.ofString "law_qz0089_01") 513) none (PySem.Value.ref 247) PySem.Value.none 0)) #[])
noncomputable abbrev ob258 (P : Params) : Obj := (PySem.Obj.mk (PySem.Value.type "tuple") none (PySem.Data.seq #[] 0) #[])
noncomputable abbrev ob259 (P : Params) : Obj := (PySem.Obj.mk PySem.Value.none none (PySem.Data.fields #[]) #[])
noncomputable abbrev ob260 (P : Params) : Obj := (PySem.Obj.mk (PySem.Value.type "tuple") none (PySem.Data.seq #[(PySem.Value.str (PySem.Str.ofString "text") 577), (PySem.Value.str (PySem.Str.ofString "sources") 578), (PySem.Value.str (PySem.Str.ofString "goals") 579), (PySem.Value.str (PySem.Str.ofString "found") 580), (PySem.Value.str (PySem.Str.ofString "count") 581), (PySem.Value.str (PySem.Str.ofString "sign") 582), (PySem.Value.str (PySem.Str.ofString "place") 583)] 0) #[])
noncomputable abbrev ob261 (P : Params) : Obj := (PySem.Obj.mk (PySem.Value.type "tuple") none (PySem.Data.seq #[] 0) #[])
noncomputable abbrev ob262 (P : Params) : Obj := (PySem.Obj.mk PySem.Value.none none (PySem.Data.func (PySem.FuncData.mk (PySem.Str.ofString "_law_turned") (PySem.Str.ofString "_law_turned") df26.1 (FuncBody.stmts df26.2.1) df26.2.2 0 [] PySem.Value.none PySem.Value.none PySem.Value.none PySem.Value.none none PySem.Value.none PySem.Value.none 0)) #[])
noncomputable abbrev ob263 (P : Params) : Obj := (PySem.Obj.mk (PySem.Value.type "code") none (PySem.Data.fields #[(PySem.Value.str (PySem.Str.ofString "_law_turned") 574), (PySem.Value.str (PySem.Str.ofString "_law_turned") 575), (PySem.Value.str (PySem.Str.ofString "/claim/cut.py") 576), (PySem.Value.int (241 : Int) 0), (PySem.Value.int (3 : Int) 0), (PySem.Value.int (0 : Int) 0), (PySem.Value.int (0 : Int) 0), (PySem.Value.int (3 : Int) 0), (PySem.Value.ref 249), (PySem.Value.bool Bool.true), (PySem.Value.int (181 : Int) 0), (PySem.Value.ref 250), PySem.Value.none, (PySem.Value.ref 251), (PySem.Value.ref 252), (PySem.Value.ref 253), (PySem.Value.int (584 : Int) 0), (PySem.Value.int (241 : Int) 0), (PySem.Value.str (PySem.Str.ofString "/claim/cut.py") 585)]) #[])
noncomputable abbrev ob264 (P : Params) : Obj := (PySem.Obj.mk (PySem.Value.type "function") none (PySem.Data.func (PySem.FuncData.mk (PySem.Str.ofString "_law_turned") (PySem.Str.ofString "_law_turned") df26.1 (FuncBody.stmts df26.2.1) df26.2.2 3 [] PySem.Value.none PySem.Value.none PySem.Value.none (PySem.Value.str (PySem.Str.ofString "law_qz0089_01") 513) none (PySem.Value.ref 254) PySem.Value.none 0)) #[])
noncomputable abbrev ob265 (P : Params) : Obj := (PySem.Obj.mk (PySem.Value.type "tuple") none (PySem.Data.seq #[] 0) #[])
noncomputable abbrev ob266 (P : Params) : Obj := (PySem.Obj.mk PySem.Value.none none (PySem.Data.fields #[]) #[])
noncomputable abbrev ob267 (P : Params) : Obj := (PySem.Obj.mk PySem.Value.none none (PySem.Data.func (PySem.FuncData.mk (PySem.Str.ofString "law") (PySem.Str.ofString "law") df27.1 (FuncBody.stmts df27.2.1) df27.2.2 0 [] PySem.Value.none PySem.Value.none PySem.Value.none PySem.Value.none none PySem.Value.none PySem.Value.none 0)) #[])
noncomputable abbrev ob268 (P : Params) : Obj := (PySem.Obj.mk (PySem.Value.type "code") none (PySem.Data.fields #[(PySem.Value.str (PySem.Str.ofString "law") 587), (PySem.Value.str (PySem.Str.ofString "law") 588), (PySem.Value.str (PySem.Str.ofString "/claim/cut.py") 589), (PySem.Value.int (251 : Int) 0), (PySem.Value.int (1 : Int) 0), (PySem.Value.int (0 : Int) 0), (PySem.Value.int (0 : Int) 0), (PySem.Value.int (3 : Int) 0), (PySem.Value.ref 256), (PySem.Value.bool Bool.true), (PySem.Value.int (181 : Int) 0), (PySem.Value.ref 257), PySem.Value.none, PySem.Value.none, PySem.Value.none, (PySem.Value.ref 258), (PySem.Value.int (590 : Int) 0), (PySem.Value.int (251 : Int) 0), (PySem.Value.str (PySem.Str.ofString "/claim/cut.py") 591)]) #[])
noncomputable abbrev ob269 (P : Params) : Obj := (PySem.Obj.mk (PySem.Value.type "function") none (PySem.Data.func (PySem.FuncData.mk (PySem.Str.ofString "law") (PySem.Str.ofString "law") df27.1 (FuncBody.stmts df27.2.1) df27.2.2 3 [] PySem.Value.none PySem.Value.none PySem.Value.none (PySem.Value.str (PySem.Str.ofString "law_qz0089_01") 513) none (PySem.Value.ref 259) PySem.Value.none 0)) #[])
noncomputable abbrev hp9 (P : Params) : Heap := ⟨⟨[boot_o_0 P, boot_o_1 P, ob4 P, ob221 P, boot_o_4 P, boot_o_5 P, boot_o_6 P, boot_o_7 P, boot_o_8 P, boot_o_9 P, boot_o_10 P, ob0 P, ob222 P, ob2 P, ob3 P, ob7 P, ob8 P, ob9 P, ob10 P, ob11 P, ob12 P, ob13 P, ob14 P, ob15 P, ob16 P, ob17 P, ob18 P, ob19 P, ob20 P, ob21 P, ob22 P, ob51 P, ob24 P, ob25 P, ob26 P, ob30 P, ob31 P, ob32 P, ob33 P, ob34 P, ob35 P, ob36 P, ob37 P, ob38 P, ob39 P, ob40 P, ob41 P, ob42 P, ob43 P, ob44 P, ob45 P, ob46 P, ob47 P, ob48 P, ob52 P, ob53 P, ob54 P, ob55 P, ob56 P, ob57 P, ob58 P, ob59 P, ob60 P, ob61 P, ob62 P, ob63 P, ob64 P, ob65 P, ob66 P, ob67 P, ob68 P, ob69 P, ob70 P, ob72 P, ob75 P, ob76 P, ob77 P, ob78 P, ob79 P, ob80 P, ob81 P, ob82 P, ob83 P, ob84 P, ob85 P, ob86 P, ob87 P, ob88 P, ob89 P, ob90 P, ob91 P, ob92 P, ob93 P, ob94 P, ob95 P, ob96 P, ob97 P, ob98 P, ob99 P, ob100 P, ob101 P, ob102 P, ob103 P, ob104 P, ob105 P, ob106 P, ob107 P, ob108 P, ob109 P, ob112 P, ob113 P, ob114 P, ob115 P, ob116 P, ob117 P, ob118 P, ob119 P, ob120 P, ob121 P, ob122 P, ob123 P, ob124 P, ob125 P, ob126 P, ob127 P, ob128 P, ob129 P, ob130 P, ob131 P, ob132 P, ob135 P, ob136 P, ob137 P, ob138 P, ob139 P, ob140 P, ob141 P, ob142 P, ob143 P, ob144 P, ob145 P, ob146 P, ob147 P, ob148 P, ob149 P, ob150 P, ob151 P, ob152 P, ob153 P, ob154 P, ob155 P, ob156 P, ob157 P, ob158 P, ob159 P, ob160 P, ob161 P, ob162 P, ob163 P, ob164 P, ob165 P, ob166 P, ob167 P, ob168 P, ob169 P, ob170 P, ob171 P, ob172 P, ob173 P, ob174 P, ob175 P, ob176 P, ob177 P, ob178 P, ob179 P, ob180 P, ob181 P, ob182 P, ob183 P, ob186 P, ob187 P, ob188 P, ob189 P, ob190 P, ob191 P, ob192 P, ob193 P, ob194 P, ob195 P, ob196 P, ob197 P, ob198 P, ob199 P, ob200 P, ob201 P, ob202 P, ob203 P, ob204 P, ob205 P, ob206 P, ob207 P, ob208 P, ob209 P, ob210 P, ob211 P, ob212 P, ob213 P, ob214 P, ob215 P, ob216 P, ob217 P, ob218 P, ob219 P, ob220 P, ob223 P, ob224 P, ob225 P, ob226 P, ob227 P, ob228 P, ob229 P, ob230 P, ob231 P, ob232 P, ob233 P, ob234 P, ob235 P, ob236 P, ob237 P, ob238 P, ob239 P, ob240 P, ob241 P, ob242 P, ob243 P, ob244 P, ob245 P, ob246 P, ob247 P, ob248 P, ob249 P, ob250 P, ob251 P, ob252 P, ob253 P, ob254 P, ob255 P, ob256 P, ob257 P, ob258 P, ob259 P, ob260 P, ob261 P, ob262 P, ob263 P, ob264 P, ob265 P, ob266 P, ob267 P, ob268 P, ob269 P]⟩,
  (PySem.Life.mk [] [] [] 0 [] [] Bool.false #[] [] 0 Bool.false Bool.false Bool.false (0 : Int) [(2000 : Int), (10 : Int), (10 : Int)] Bool.false 0 Bool.true [] [] 0 Bool.false)⟩
noncomputable abbrev st9 (w : World) (os : OsState) : Shared := ⟨hp9 w.params, #[], (PySem.Drawn.mk 0 0 0 0), 593, os⟩
noncomputable abbrev sl8 : List Stmt := (topL.drop 31).take 7
theorem pc8 (w : World) (os : OsState) : segRun treeTable pw w 11 (some (PySem.Value.ref 6)) 1 223 (st8 w os) (piecesOf sl8 envT codT (PySem.Pos.mk 188 0 189 71) frT) = some (.next, st9 w os, codT, (PySem.Pos.mk 251 0 268 56)) := by walk_at "myPiece"
noncomputable abbrev hp10 (P : Params) : Heap := ⟨⟨[boot_o_0 P, boot_o_1 P, ob4 P, ob221 P, boot_o_4 P, boot_o_5 P, boot_o_6 P, boot_o_7 P, boot_o_8 P, boot_o_9 P, boot_o_10 P, ob0 P, ob222 P, ob2 P, ob3 P, ob7 P, ob8 P, ob9 P, ob10 P, ob11 P, ob12 P, ob13 P, ob14 P, ob15 P, ob16 P, ob17 P, ob18 P, ob19 P, ob20 P, ob21 P, ob22 P, ob51 P, ob24 P, ob25 P, ob26 P, ob30 P, ob31 P, ob32 P, ob33 P, ob34 P, ob35 P, ob36 P, ob37 P, ob38 P, ob39 P, ob40 P, ob41 P, ob42 P, ob43 P, ob44 P, ob45 P, ob46 P, ob47 P, ob48 P, ob52 P, ob53 P, ob54 P, ob55 P, ob56 P, ob57 P, ob58 P, ob59 P, ob60 P, ob61 P, ob62 P, ob63 P, ob64 P, ob65 P, ob66 P, ob67 P, ob68 P, ob69 P, ob70 P, ob72 P, ob75 P, ob76 P, ob77 P, ob78 P, ob79 P, ob80 P, ob81 P, ob82 P, ob83 P, ob84 P, ob85 P, ob86 P, ob87 P, ob88 P, ob89 P, ob90 P, ob91 P, ob92 P, ob93 P, ob94 P, ob95 P, ob96 P, ob97 P, ob98 P, ob99 P, ob100 P, ob101 P, ob102 P, ob103 P, ob104 P, ob105 P, ob106 P, ob107 P, ob108 P, ob109 P, ob112 P, ob113 P, ob114 P, ob115 P, ob116 P, ob117 P, ob118 P, ob119 P, ob120 P, ob121 P, ob122 P, ob123 P, ob124 P, ob125 P, ob126 P, ob127 P, ob128 P, ob129 P, ob130 P, ob131 P, ob132 P, ob135 P, ob136 P, ob137 P, ob138 P, ob139 P, ob140 P, ob141 P, ob142 P, ob143 P, ob144 P, ob145 P, ob146 P, ob147 P, ob148 P, ob149 P, ob150 P, ob151 P, ob152 P, ob153 P, ob154 P, ob155 P, ob156 P, ob157 P, ob158 P, ob159 P, ob160 P, ob161 P, ob162 P, ob163 P, ob164 P, ob165 P, ob166 P, ob167 P, ob168 P, ob169 P, ob170 P, ob171 P, ob172 P, ob173 P, ob174 P, ob175 P, ob176 P, ob177 P, ob178 P, ob179 P, ob180 P, ob181 P, ob182 P, ob183 P, ob186 P, ob187 P, ob188 P, ob189 P, ob190 P, ob191 P, ob192 P, ob193 P, ob194 P, ob195 P, ob196 P, ob197 P, ob198 P, ob199 P, ob200 P, ob201 P, ob202 P, ob203 P, ob204 P, ob205 P, ob206 P, ob207 P, ob208 P, ob209 P, ob210 P, ob211 P, ob212 P, ob213 P, ob214 P, ob215 P, ob216 P, ob217 P, ob218 P, ob219 P, ob220 P, ob223 P, ob224 P, ob225 P, ob226 P, ob227 P, ob228 P, ob229 P, ob230 P, ob231 P, ob232 P, ob233 P, ob234 P, ob235 P, ob236 P, ob237 P, ob238 P, ob239 P, ob240 P, ob241 P, ob242 P, ob243 P, ob244 P, ob245 P, ob246 P, ob247 P, ob248 P, ob249 P, ob250 P, ob251 P, ob252 P, ob253 P, ob254 P, ob255 P, ob256 P, ob257 P, ob258 P, ob259 P, ob260 P, ob261 P, ob262 P, ob263 P, ob264 P, ob265 P, ob266 P, ob267 P, ob268 P, ob269 P]⟩,
  (PySem.Life.mk [] [] [] 0 [] [] Bool.false #[] [] 0 Bool.false Bool.false Bool.false (0 : Int) [(2000 : Int), (10 : Int), (10 : Int)] Bool.false 0 Bool.true [] [] 0 Bool.false)⟩
noncomputable abbrev st10 (w : World) (os : OsState) : Shared := ⟨hp10 w.params, #[], (PySem.Drawn.mk 0 0 0 0), 593, os⟩
theorem pcFin (w : World) (os : OsState) : topRun treeTable pw w 11 (some (PySem.Value.ref 6)) 2 (st9 w os) ⟨doneF .next, codT, (PySem.Pos.mk 251 0 268 56), frT⟩ = some (st10 w os) := by walk_at "myPiece"
theorem top_cut : topL = sl0 ++ (sl1 ++ (sl2 ++ (sl3 ++ (sl4 ++ (sl5 ++ (sl6 ++ (sl7 ++ (sl8 ++ ([]))))))))) := by kernel_rfl
theorem pcAll (w : World) (os : OsState) : topRun treeTable pw w 11 (some (PySem.Value.ref 6)) (238 + (246 + (256 + (116 + (216 + (233 + (233 + (176 + (223 + (2)))))))))) (st0 w os) (restOf (sl0 ++ (sl1 ++ (sl2 ++ (sl3 ++ (sl4 ++ (sl5 ++ (sl6 ++ (sl7 ++ (sl8 ++ ([])))))))))) envT codT (PySem.Pos.mk 0 0 0 0) frT) = some (st10 w os) :=
  piece_app (pc0 w os) (piece_app (pc1 w os) (piece_app (pc2 w os) (piece_app (pc3 w os) (piece_app (pc4 w os) (piece_app (pc5 w os) (piece_app (pc6 w os) (piece_app (pc7 w os) (piece_app (pc8 w os) (pcFin w os)))))))))
theorem pcRun (w : World) (os : OsState) : topRun treeTable pw w 11 (some (PySem.Value.ref 6)) (12 + (1 + (238 + (246 + (256 + (116 + (216 + (233 + (233 + (176 + (223 + (2)))))))))))) ⟨boot_heap w.params, #[], boot_drawn, boot_toks, os⟩ (topStub pw) = some (st10 w os) :=
  go_top (pcPre w os) (piece_block (pcBlk w os) ((congrArg (fun l => topRun treeTable pw w 11 (some (PySem.Value.ref 6)) (238 + (246 + (256 + (116 + (216 + (233 + (233 + (176 + (223 + (2)))))))))) (st0 w os) (restOf l envT codT (PySem.Pos.mk 0 0 0 0) frT)) top_cut).trans (pcAll w os)))
-- total 1952
-- PIECES END
theorem lkSize (w : World) : ((boot_heap w.params).isNs mainGlobals && (#[] : Array GenState).size == 0, (boot_heap w.params).objs.size,
    (boot_heap w.params).nsMap mainGlobals "__annotations__") = (true, 11, some (PySem.Value.ref 6)) := by kernel_rfl
theorem lkTop (w : World) (os : OsState) : (staticsOk (importedModules pw.main.body) (boot_heap w.params) (hp10 w.params) &&
    namesBound pw (hp10 w.params) && gensDone (st10 w os) && laidKept (boot_heap w.params) (hp10 w.params)) = true := by kernel_rfl
theorem lkS0 (w : World) (os : OsState) : seen ((recsOf vq).map (·.name)) (ownsOf vq) [] { (st10 w os) with gens := #[] } = expectedOf vq := by kernel_rfl
theorem lkS1 (w : World) (os : OsState) : (st10 w os).heap.bltView = bltViewBooted := by kernel_rfl
theorem lkS2 (w : World) (os : OsState) : ((st10 w os).heap.keysOk (looseW vq lo) ((recsOf vq).map (·.name)) ((litsOf vq).map (·.1)) ((clssOf vq (looseW vq lo)).map (·.name)) && (st10 w os).heap.accountedOkI (importedModules pw.main.body) && (st10 w os).heap.isNs mainGlobals && (st10 w os).heap.isNs builtinsNs && tablesOk vq (st10 w os).heap && xt (st10 w os) && (if true then (st10 w os).gens.size == 0 else !leftWithCleanup (st10 w os).gens)) = true := by kernel_rfl
theorem lkS3 (w : World) (os : OsState) : tabsOk vq (st10 w os) = true := by kernel_rfl
theorem lkS4 (w : World) (os : OsState) : pinSeenD vq (drecsOf vq) (st10 w os) = pinGoodD (drecsOf vq) := by kernel_rfl
theorem lkS5 (w : World) (os : OsState) : plainSeenE vq (looseW vq lo) (st10 w os) = plainGoodE vq (looseW vq lo) := by kernel_rfl
theorem lkS6 (w : World) (os : OsState) : plainSeenD vq lo (st10 w os) = plainGoodD vq lo := by kernel_rfl
theorem lkS7 (w : World) (os : OsState) : wideSeen vq (st10 w os) = wideGood vq := by kernel_rfl
theorem lkS8 (w : World) (os : OsState) : clsSeenW vq lo (st10 w os) = clsGoodW vq lo := by kernel_rfl
theorem lkSeen (w : World) (os : OsState) : openSeen vq lo (importedModules pw.main.body) xt true (st10 w os) = openGood vq lo :=
  looks_pair (lkS0 w os) (looks_pair (lkS1 w os) (looks_pair (lkS2 w os) (looks_pair (lkS3 w os) (looks_pair (lkS4 w os) (looks_pair (lkS5 w os) (looks_pair (lkS6 w os) (looks_pair (lkS7 w os) (lkS8 w os))))))))
theorem lkObs (w : World) (os : OsState) : hk.obs (st10 w os) = hk.val w := by kernel_rfl
theorem left_ok : LeftO pw vq lo xt hk.obs hk.val 3000 true :=
  LeftO.of_pieces (H₀ := boot_heap) (H₁ := hp10) (gs₀ := #[]) (gs₁ := #[]) (d₀ := boot_drawn) (d₁ := PySem.Drawn.mk 0 0 0 0)
    (k₀ := boot_toks) (k₁ := 593) (boot_open pw_open rfl pw_fence) lkSize pcRun rfl
    (fun w => funext fun os => looks_pair (lkTop w os) (looks_pair (lkSeen w os) (lkObs w os)))

end

-- L0
section
open PySem PySem.W PyProof.Rows PySem.Calls

noncomputable abbrev PF := Addr → Option Obj
noncomputable def Sub (f : PF) (h : Heap) : Prop := ∀ b o, f b = some o → h.get? b = some o
noncomputable abbrev upd (m : Str → Option Value) (x : Str) (v : Value) : Str → Option Value := fun y => if y = x then some v else m y
noncomputable def kOf (h : Heap) (ps : List Addr) : PF := fun b => if b ∈ ps then none else h.get? b
noncomputable abbrev PR : Program := Challenge.rw_qz0089_01.row.prog

/-- what the top gives -/
structure Gl (w : World) (mg mb : Str → Option Value) (h : Heap) : Prop where
  K : (hd.heap_1 w.params).In h
  g : h.Ns mainGlobals mg
  b : h.Ns builtinsNs mb
  lim : h.NoLimit
  bl : ∀ x : Str, x ≠ "__name__" → mb x = bootBuiltins x

theorem Gl.keeps {w : World} {mg mb : Str → Option Value} {h h' : Heap} (G : Gl w mg mb h) (k : ∀ b o, h.get? b = some o → h'.get? b = some o) : Gl w mg mb h' :=
  ⟨G.K.keeps k, G.g.keeps k, G.b.keeps k, G.lim.keeps k, G.bl⟩

/-- the state of a frame's walk: base, kept, made, the frame, the objects that turn, the heap, the locals -/
structure St (g : Heap) (k r : PF) (L : Addr) (μ : List (Addr × Obj)) (h : Heap) (m : Str → Option Value) : Prop where
  ns : h.Ns L m
  gk : ∀ b o, g.get? b = some o → k b = some o
  kk : Sub k h
  rr : Sub r h
  kL : k L = none
  rL : r L = none
  rk : ∀ b o, r b = some o → k b = none
  mu : ∀ p ∈ μ, h.get? p.1 = some p.2 ∧ p.1 ≠ L ∧ k p.1 = none ∧ r p.1 = none
  nd : (μ.map (·.1)).Nodup

section
variable {g h h' : Heap} {k r : PF} {L : Addr} {μ : List (Addr × Obj)} {m : Str → Option Value}
theorem St.gg (S : St g k r L μ h m) : ∀ b o, g.get? b = some o → h.get? b = some o := fun b o e => S.kk b o (S.gk b o e)
theorem St.Lsome (S : St g k r L μ h m) : ∃ o, h.get? L = some o := let ⟨o, _, _, e, _⟩ := S.ns; ⟨o, e⟩
theorem none_of_sub {f : PF} {h : Heap} (x : Sub f h) {a : Addr} (e : h.get? a = none) : f a = none := by
  cases q : f a with
  | none => rfl
  | some o => rw [x a o q] at e; cases e

theorem St.set (S : St g k r L μ h m) {m' : Str → Option Value} (hn : h'.Ns L m') (hs : Heap.SameBut L h h') : St g k r L μ h' m' where
  ns := hn
  gk := S.gk
  kk := fun b o e => (hs.2 b fun q => by rw [q, S.kL] at e; cases e).trans (S.kk b o e)
  rr := fun b o e => (hs.2 b fun q => by rw [q, S.rL] at e; cases e).trans (S.rr b o e)
  kL := S.kL
  rL := S.rL
  rk := S.rk
  mu := fun p hp => let x := S.mu p hp; ⟨(hs.2 p.1 x.2.1).trans x.1, x.2⟩
  nd := S.nd

/-- a new object, onto the list of those that may turn -/
theorem St.push (S : St g k r L μ h m) (o : Obj) (hf : o.isFreed = false := by rfl) : St g k r L ((h.objs.size, o) :: μ) (h.push o) m where
  ns := let ⟨a1, a2, a3, e, a4⟩ := S.ns; ⟨a1, a2, a3, Heap.get?_push_of_some _ e, a4⟩
  gk := S.gk
  kk := fun b o e => Heap.get?_push_of_some _ (S.kk b o e)
  rr := fun b o e => Heap.get?_push_of_some _ (S.rr b o e)
  kL := S.kL
  rL := S.rL
  rk := S.rk
  mu := by
    have hnone : h.get? h.objs.size = none := Heap.get?_none_of_le (Nat.le_refl _)
    intro p hp
    rcases List.mem_cons.mp hp with rfl | hp
    · obtain ⟨oL, hL⟩ := S.Lsome
      exact ⟨Heap.get?_push_size _ hf, Nat.ne_of_gt (Heap.lt_size hL), none_of_sub S.kk hnone, none_of_sub S.rr hnone⟩
    · have x := S.mu p hp
      exact ⟨Heap.get?_push_of_some _ x.1, x.2⟩
  nd := by
    rw [List.map_cons, List.nodup_cons]
    refine ⟨fun hm => ?_, S.nd⟩
    obtain ⟨p, hp, e⟩ := List.mem_map.mp hm
    have := Heap.lt_size (S.mu p hp).1
    rw [e] at this
    exact absurd this (Nat.lt_irrefl _)

/-- a heap that keeps all that stood -/
theorem St.grow (S : St g k r L μ h m) (hk : ∀ b o, h.get? b = some o → h'.get? b = some o) : St g k r L μ h' m where
  ns := let ⟨a1, a2, a3, e, a4⟩ := S.ns; ⟨a1, a2, a3, hk _ _ e, a4⟩
  gk := S.gk
  kk := fun b o e => hk _ _ (S.kk b o e)
  rr := fun b o e => hk _ _ (S.rr b o e)
  kL := S.kL
  rL := S.rL
  rk := S.rk
  mu := fun p hp => let x := S.mu p hp; ⟨hk _ _ x.1, x.2⟩
  nd := S.nd

/-- a turn of the object at the list's head -/
theorem St.turn {a : Addr} {o o' : Obj} {f : Obj → Obj} (S : St g k r L ((a, o) :: μ) h m) (e : f o = o') (hf : o'.isFreed = false) : St g k r L ((a, o') :: μ) (h.update a f) m where
  ns := let ⟨a1, a2, a3, e, a4⟩ := S.ns; ⟨a1, a2, a3, (Heap.get?_update_other _ _ (S.mu _ (.head _)).2.1).trans e, a4⟩
  gk := S.gk
  kk := fun b o e => (Heap.get?_update_other _ _ fun q => by have := (S.mu _ (.head _)).2.2.1; rw [q, e] at this; cases this).trans (S.kk b o e)
  rr := fun b o e => (Heap.get?_update_other _ _ fun q => by have := (S.mu _ (.head _)).2.2.2; rw [q, e] at this; cases this).trans (S.rr b o e)
  kL := S.kL
  rL := S.rL
  rk := S.rk
  mu := by
    intro p hp
    rcases List.mem_cons.mp hp with rfl | hp
    · exact ⟨e ▸ Heap.get?_update_self _ (S.mu _ (.head _)).1 (e ▸ hf), (S.mu _ (.head _)).2⟩
    · have x := S.mu p (.tail _ hp)
      refine ⟨(Heap.get?_update_other _ _ fun q => ?_).trans x.1, x.2⟩
      have := S.nd
      rw [List.map_cons, List.nodup_cons] at this
      exact this.1 (List.mem_map.mpr ⟨p, hp, q.symm⟩)
  nd := S.nd

/-- another order, fewer objects that turn -/
theorem St.pick {μ' : List (Addr × Obj)} (S : St g k r L μ h m) (hs : ∀ p ∈ μ', p ∈ μ) (hn : (μ'.map (·.1)).Nodup) : St g k r L μ' h m :=
  { S with mu := fun p hp => S.mu p (hs p hp), nd := hn }
theorem St.drop {p : Addr × Obj} (S : St g k r L (p :: μ) h m) : St g k r L μ h m :=
  S.pick (fun _ hp => .tail _ hp) (List.nodup_cons.mp S.nd).2
theorem St.swap {p q : Addr × Obj} (S : St g k r L (p :: q :: μ) h m) : St g k r L (q :: p :: μ) h m := by
  refine S.pick (fun x hx => ?_) ?_
  · rcases List.mem_cons.mp hx with rfl | hx
    · exact .tail _ (.head _)
    · rcases List.mem_cons.mp hx with rfl | hx
      · exact .head _
      · exact .tail _ (.tail _ hx)
  · have := S.nd
    simp only [List.map_cons, List.nodup_cons, List.mem_cons, not_or] at this ⊢
    exact ⟨⟨fun e => this.1.1 e.symm, this.2.1⟩, this.1.2, this.2.2⟩
theorem St.rot {p q u : Addr × Obj} (S : St g k r L (p :: q :: u :: μ) h m) : St g k r L (u :: p :: q :: μ) h m := by
  refine S.pick (fun x hx => ?_) ?_
  · simp only [List.mem_cons] at hx ⊢
    rcases hx with h | h | h | h <;> simp [h]
  · have := S.nd
    simp only [List.map_cons, List.nodup_cons, List.mem_cons, not_or] at this ⊢
    obtain ⟨⟨a1, a2, a3⟩, ⟨a4, a5⟩, a6, a7⟩ := this
    exact ⟨⟨fun e => a2 e.symm, fun e => a4 e.symm, a6⟩, ⟨a1, a3⟩, a5, a7⟩
theorem St.at (S : St g k r L μ h m) {a : Addr} {o : Obj} (hm : (a, o) ∈ μ) : h.get? a = some o := (S.mu _ hm).1

/-- what a called def made and hands back joins what was made -/
theorem St.join (S : St g k r L μ h m) {r' : PF} (hk : ∀ b o, h.get? b = some o → h'.get? b = some o) (hr : Sub r' h') (hf : ∀ b o, r' b = some o → h.get? b = none) :
    ∃ r2 : PF, (∀ b o, r b = some o → r2 b = some o) ∧ (∀ b o, r' b = some o → r2 b = some o) ∧ St g k r2 L μ h' m := by
  have S' := S.grow hk
  have rn : ∀ b o, r' b = some o → r b = none := fun b o e => none_of_sub S.rr (hf b o e)
  refine ⟨fun b => (r b).or (r' b), fun b o e => by simp [e], fun b o e => by simp [e, rn b o e], ?_⟩
  have sp : ∀ b o, (r b).or (r' b) = some o → r b = some o ∨ r' b = some o := fun b o e => by
    cases q : r b with
    | none => rw [q] at e; exact .inr e
    | some x => rw [q] at e; exact .inl e
  refine { S' with rr := fun b o e => ?_, rL := ?_, rk := fun b o e => ?_, mu := fun p hp => ?_ }
  · exact (sp b o e).elim (S'.rr b o) (hr b o)
  · obtain ⟨oL, hL⟩ := S.Lsome
    cases q : r' L with
    | none => simp [S.rL, q]
    | some o => rw [hf L o q] at hL; cases hL
  · exact (sp b o e).elim (S.rk b o) fun e' => none_of_sub S.kk (hf b o e')
  · have x := S'.mu p hp
    refine ⟨x.1, x.2.1, x.2.2.1, ?_⟩
    cases q : r' p.1 with
    | none => simp [x.2.2.2, q]
    | some o => have := hf _ o q; rw [(S.mu p hp).1] at this; cases this

/-- an object that turns no more joins what was made -/
theorem St.freeze {a : Addr} {o : Obj} (S : St g k r L ((a, o) :: μ) h m) :
    ∃ r2 : PF, (∀ b o, r b = some o → r2 b = some o) ∧ r2 a = some o ∧ St g k r2 L μ h m := by
  have x := S.mu _ (.head _)
  refine ⟨fun b => if b = a then some o else r b, fun b o' e => ?_, by simp, ?_⟩
  · by_cases q : b = a
    · subst q; rw [x.2.2.2] at e; cases e
    · simp [q, e]
  refine { S.drop with rr := fun b o' e => ?_, rL := ?_, rk := fun b o' e => ?_, mu := fun p hp => ?_ }
  · by_cases q : b = a
    · subst q; simp only [if_true] at e; cases e; exact x.1
    · simp only [q, if_false] at e; exact S.rr b o' e
  · have : L ≠ a := fun q => x.2.1 q.symm
    simp [this, S.rL]
  · by_cases q : b = a
    · subst q; exact x.2.2.1
    · simp only [q, if_false] at e; exact S.rk b o' e
  · have y := S.mu p (.tail _ hp)
    have := S.nd
    rw [List.map_cons, List.nodup_cons] at this
    have hne : p.1 ≠ a := fun q => this.1 (List.mem_map.mpr ⟨p, hp, q⟩)
    exact ⟨y.1, y.2.1, y.2.2.1, by simp [hne, y.2.2.2]⟩
end

section
variable {w : World} {M : Model} {A : Around} {E : Value → Shared → Prop} {s : Shared} {env : Env} {g : Heap} {k r : PF} {L : Addr} {μ : List (Addr × Obj)} {m : Str → Option Value}

theorem st_ {x : Str} {v : Value} {h : Heap} {gn : Array GenState} {d : Drawn} {tk : Nat} {os : OsState} {Q : Unit → Shared → Prop} (S : St g k r L μ h m)
    (hq : ∀ h', St g k r L μ h' (upd m x v) → Q () ⟨h', gn, d, tk + 1, os⟩) (hL : env.locals = L)
    (hl : env.kindOf x = some .local) (hk : env.scope.kind = .function) :
    wpAny M A (storeName env x v) Q E ⟨h, gn, d, tk, os⟩ := by
  subst hL
  exact wpAny_storeName_local hl S.ns (fun h' hn hs => hq h' (S.set hn hs)) (by rw [hk]; rfl)

theorem ldn_ {x : Str} {v : Value} {Q : Value → Shared → Prop} (S : St g k r L μ s.heap m) (hv : m x = some v) (h : Q v s) (hL : env.locals = L)
    (hk : env.scope.kind = .function) (hl : env.kindOf x = some .local) :
    wpAny M A (loadName env x) Q E s := by
  subst hL
  exact wpAny_loadName_local hk hl S.ns hv h
theorem ld_ {x : Str} {pos : Pos} {v : Value} {Q : Value → Shared → Prop} (S : St g k r L μ s.heap m) (hv : m x = some v) (h : Q v s) (hL : env.locals = L)
    (hk : env.scope.kind = .function) (hl : env.kindOf x = some .local) (hd : (x == ("__debug__" : Str)) = false) :
    wpAny M A (eval (.Name x pos) env) Q E s := by
  subst hL
  exact wpAny_Name (wpAny_loadName_local hk hl S.ns hv h) hd

theorem xAssign {x : Str} {pos' pos : Pos} {value : Expr} {rest : List Stmt} {Q : Flow → Shared → Prop}
    (h : wpAny M A (eval value env) (fun v s₁ => wpAny M A (storeName env x v) (fun _ s₂ => wpAny M A (execs rest env) Q E s₂) E s₁) E s)
    (hs : swapsWith value (some (.Name x pos')) pos.line env = pure false) :
    wpAny M A (execs (.Assign [.Name x pos'] value pos :: rest) env) Q E s := wpAny_execs_cons (wpAny_Assign_Name h hs)
theorem xRet {e : Expr} {pos : Pos} {rest : List Stmt} {Q : Flow → Shared → Prop} (h : wpAny M A (eval e env) (fun v => Q (.ret v)) E s) :
    wpAny M A (execs (.Return (some e) pos :: rest) env) Q E s := wpAny_execs_cons (wpAny_Return_some h)
theorem xExpr {e : Expr} {pos : Pos} {rest : List Stmt} {Q : Flow → Shared → Prop} (h : wpAny (model PR w) A (eval e env) (fun _ s₁ => wpAny (model PR w) A (execs rest env) Q E s₁) E s)
    (hi : interactive env = false) (hs : swapsWith e none pos.line env = pure false) :
    wpAny (model PR w) A (execs (.Expr e pos :: rest) env) Q E s := wpAny_execs_cons (wpAny_Expr_any h hi hs)
theorem xIf {test : Expr} {body orelse : List Stmt} {pos : Pos} {rest : List Stmt} {Q : Flow → Shared → Prop}
    (h : wpAny M A (isTrue test env (eval test env)) (fun b s₂ => if b then wpAny M A (execs body env) (fun f s' => match f with | .next => wpAny M A (execs rest env) Q E s' | f => Q f s') E s₂
      else wpAny M A (execs orelse env) (fun f s' => match f with | .next => wpAny M A (execs rest env) Q E s' | f => Q f s') E s₂) E s) :
    wpAny M A (execs (.If test body orelse pos :: rest) env) Q E s := wpAny_execs_cons (wpAny_If h)
theorem xAug {x : Str} {pos' pos : Pos} {op : Operator} {value : Expr} {rest : List Stmt} {Q : Flow → Shared → Prop}
    (h : wpAny M A (loadName env x) (fun old s₁ => wpAny M A (eval value env) (fun v s₂ => wpAny M A (inplaceOp op old v)
      (fun r s₃ => wpAny M A (storeName env x r) (fun _ s₄ => wpAny M A (execs rest env) Q E s₄) E s₃) E s₂) E s₁) E s) :
    wpAny M A (execs (.AugAssign (.Name x pos') op value pos :: rest) env) Q E s := wpAny_execs_cons (wpAny_AugAssign_Name h)
theorem xSub {o i value : Expr} {pos' pos : Pos} {rest : List Stmt} {Q : Flow → Shared → Prop}
    (h : wpAny M A (eval value env) (fun v s₁ => wpAny M A (eval o env) (fun ov s₂ => wpAny M A (eval i env) (fun iv s₃ =>
      wpAny M A (setItem ov iv v) (fun _ s₄ => wpAny M A (execs rest env) Q E s₄) E s₃) E s₂) E s₁) E s)
    (hs : swapsWith value (some (.Subscript o i pos')) pos.line env = pure false) :
    wpAny M A (execs (.Assign [.Subscript o i pos'] value pos :: rest) env) Q E s := wpAny_execs_cons (wpAny_Assign_Subscript h hs)
theorem xWhile {test : Expr} {body orelse : List Stmt} {pos : Pos} {rest : List Stmt} {Q : Flow → Shared → Prop}
    (h : codeAny M A (.whileLoop test body orelse env) (fun r s' => match r with | .ok .next => wpAny M A (execs rest env) Q E s' | .ok f => Q f s' | .error e => cameBackBy M A env E e s') s) :
    wpAny M A (execs (.While test body orelse pos :: rest) env) Q E s := by
  refine wpAny_execs_cons (wpAny_While (codeAny_mono h fun r s' hr => ?_))
  cases r with
  | error e => exact hr
  | ok f => cases f <;> exact hr
theorem ite_t {c : Bool} {P R : Prop} (h : c = true) (p : P) : if c then P else R := by rw [h]; exact p
theorem ite_f {c : Bool} {P R : Prop} (h : c = false) (p : R) : if c then P else R := by rw [h]; exact p

theorem glb_ {w : World} {mg mb : Str → Option Value} {x : Str} {pos : Pos} {v : Value} {Q : Value → Shared → Prop} (G : Gl w mg mb g) (S : St g k r L μ s.heap m) (e : nsIn (hd.heap_1 w.params) mainGlobals x = some (some v)) (h : Q v s)
    (hk : env.scope.kind = .function := by rfl) (hx : env.kindOf x = some .globalImplicit := by rfl) (hg : env.globals = mainGlobals := by rfl) (hd : (x == ("__debug__" : Str)) = false := by decide) :
    wpAny M A (eval (.Name x pos) env) Q E s :=
  Name_function_global hk hx (loadGlobal_global (hg ▸ G.g.keeps S.gg) (mg_of G.K G.g e) h) hd
theorem blt_ {w : World} {mg mb : Str → Option Value} {x : Str} {pos : Pos} {v : Value} {Q : Value → Shared → Prop} (G : Gl w mg mb g) (S : St g k r L μ s.heap m) (e : nsIn (hd.heap_1 w.params) mainGlobals x = some none) (hv : bootBuiltins x = some v) (h : Q v s)
    (hn : x ≠ "__name__" := by decide) (hk : env.scope.kind = .function := by rfl) (hx : env.kindOf x = some .globalImplicit := by rfl) (hg : env.globals = mainGlobals := by rfl) (hb : env.builtins = builtinsNs := by rfl) (hd : (x == ("__debug__" : Str)) = false := by decide) :
    wpAny M A (eval (.Name x pos) env) Q E s :=
  Name_function_global hk hx (loadGlobal_builtin (hg ▸ G.g.keeps S.gg) (mg_none_of G.K G.g e) (hb ▸ G.b.keeps S.gg) ((G.bl x hn).trans hv) h) hd

theorem newTuple_ {vs : List Value} {h : Heap} {gn : Array GenState} {d : Drawn} {tk : Nat} {os : OsState} {Q : Value → Shared → Prop} (S : St g k r L μ h m)
    (hq : ∀ a h', St g k r L ((a, { cls := .type "tuple", data := .seq vs.toArray }) :: μ) h' m → Q (.ref a) ⟨h', gn, d, tk, os⟩) (hsz : vs.length ≤ sizeLine) :
    wpAny M A (newTuple vs) Q E ⟨h, gn, d, tk, os⟩ := wpAny_newObj_type (hq _ _ (S.push _)) (by show vs.toArray.size ≤ sizeLine; rw [List.size_toArray]; exact hsz)
theorem newList_ {vs : List Value} {h : Heap} {gn : Array GenState} {d : Drawn} {tk : Nat} {os : OsState} {Q : Value → Shared → Prop} (S : St g k r L μ h m)
    (hq : ∀ a h', St g k r L ((a, { cls := .type "list", data := .seq vs.toArray }) :: μ) h' m → Q (.ref a) ⟨h', gn, d, tk, os⟩) (hsz : vs.length ≤ sizeLine) :
    wpAny M A (newList vs) Q E ⟨h, gn, d, tk, os⟩ := wpAny_newObj_type (hq _ _ (S.push _)) (by show vs.toArray.size ≤ sizeLine; rw [List.size_toArray]; exact hsz)
end

/-- what is known of a def's own names -/
structure En (env : Env) (scope : Scope) (L : Addr) : Prop where
  sk : env.scope.kind = .function
  gl : env.globals = mainGlobals
  bi : env.builtins = builtinsNs
  fr : env.frame = some L
  kd : ∀ x, env.kindOf x = scope.names.lookup x
section
variable {w : World} {A : Around} {s : Shared}
theorem kOf_nil (h : Heap) : kOf h [] = h.get? := by funext b; simp [kOf]
theorem Sub.stays {h h' : Heap} (x : Sub (kOf h []) h') : ∀ b o, h.get? b = some o → h'.get? b = some o := fun b o e => x b o (by rw [kOf_nil]; exact e)

/-- a def of the text is entered -/
theorem enter_ {g : Heap} {R : Result → Shared → Prop} {name qual : Str} {params : Arguments} {body : List Stmt} {scope : Scope} {dV kV doc pm cdv ct oc : Value} {an od : Option Addr} {osl : Array (Option Value)} {f : Addr} {args : Args} {binds : List (Str × Value)} {mg mb : Str → Option Value}
    (μ : List (Addr × Obj)) (G : Gl w mg mb g) (hg : ∀ b o, g.get? b = some o → s.heap.get? b = some o) (hμ : ∀ p ∈ μ, s.heap.get? p.1 = some p.2 ∧ g.get? p.1 = none) (hnd : (μ.map (·.1)).Nodup)
    (ho : (hd.heap_1 w.params).lookup f = some ⟨oc, od, .func (fnOf name qual params body scope dV kV doc pm an cdv ct), osl⟩) (hcd : codeIn (hd.heap_1 w.params) cdv qual = true) (hroom : A.depth < recursionLimit)
    (hbind : BindsTo s (fnOf name qual params body scope dV kV doc pm an cdv ct) args binds) (hloc : ∀ y ∈ binds, scope.names.lookup y.1 = some .local)
    (h : ∀ L h₁ tk env (k r : PF) (Q : Flow → Shared → Prop) (E : Value → Shared → Prop), k = kOf s.heap (μ.map (·.1)) → s.heap.get? L = none → env = envOf qual scope L f cdv → env.locals = L → En env scope L →
      (∀ v s', R (.ok (.ret v)) s' → Q (.ret v) s') → (∀ s', R (.ok (.ret .none)) s' → Q .next s') →
      (∀ e s', wpAny (model PR w) (A.deeper env) (leaving env e) (fun _ s'' => R (.error e) s'') (fun e' s'' => R (.error e') s'') s' → E e s') →
      St g k r L μ h₁ (fun y => binds.reverse.lookup y) →
      wpAny (model PR w) (A.deeper env) (execs body env) Q E { s with heap := h₁, toks := tk })
    (hcell : ∀ x ∈ scope.names, x.2 ≠ .cell := by decide) (hco : scope.isCoroutine = false := by rfl) (hgen : scope.isGenerator = false := by rfl) (hk : scope.kind = .function := by rfl) :
    codeAny (model PR w) A (.call (.ref f) args) R s := by
  refine codeAny_call_def (fd := fnOf name qual params body scope dV kV doc pm an cdv ct) (body := body) (binds := binds) hroom (hg _ _ (G.K _ _ ho)) rfl (G.lim.keeps hg) ((codeRec_of G.K hcd).keeps hg) rfl hbind hcell hloc (fun h₁ hns hk₁ => ?_) hco hgen hk
  have hnone : s.heap.get? s.heap.objs.size = none := Heap.get?_none_of_le (Nat.le_refl _)
  refine h s.heap.objs.size h₁ _ _ _ (fun _ => none) _ _ rfl hnone rfl rfl ⟨hk, rfl, rfl, rfl, fun _ => rfl⟩ (fun _ _ x => x) (fun _ x => x) (fun _ _ x => x) ⟨hns, fun b o e => ?_, fun b o e => ?_, fun _ _ e => (nomatch e), ?_, rfl, fun _ _ e => (nomatch e), fun p hp => ⟨hk₁ _ _ (hμ p hp).1, Nat.ne_of_lt (Heap.lt_size (hμ p hp).1), ?_, rfl⟩, hnd⟩
  · have : b ∉ μ.map (·.1) := fun q => by
      obtain ⟨p, hp, rfl⟩ := List.mem_map.mp q
      rw [(hμ p hp).2] at e; cases e
    simp only [kOf, this, if_false]; exact hg b o e
  · unfold kOf at e
    split at e
    · cases e
    · exact hk₁ b o e
  · unfold kOf; split
    · rfl
    · exact hnone
  · unfold kOf; rw [if_pos (List.mem_map_of_mem hp)]
end
end

-- L1
section
open PySem PySem.W PyProof.Rows PySem.Calls PySem.Builtin PySem.Builtin.Str
/-- a text by its signs -/
noncomputable def tx (l : List Nat) : Str := ⟨l.toArray⟩
theorem tx_cps (l : List Nat) : (tx l).cps.toList = l := rfl
theorem tx_len (l : List Nat) : (tx l).length = l.length := by simp [tx, Str.length]
theorem tx_app (a b : List Nat) : tx a ++ tx b = tx (a ++ b) := by
  show Str.mk (a.toArray ++ b.toArray) = Str.mk (a ++ b).toArray
  rw [List.append_toArray]
theorem tx_inj {a b : List Nat} (h : tx a = tx b) : a = b := congrArg (fun x : Str => x.cps.toList) h
theorem tx_of (x : Str) : x = tx x.cps.toList := rfl

theorem tx_item {l : List Nat} {n c : Nat} (hi : l[n]? = some c) : Txt.item (tx l) (n : Int) = tx [c] := by
  have h : (tx l).cps[((n : Int)).toNat]? = some c := by simpa [tx] using hi
  have := StrLaws.at_nonneg (x := tx l) (i := (n : Int)) (by omega) h
  show Str.mk #[(Txt.charAt (tx l) n).getD 0] = _
  rw [show Txt.charAt (tx l) (n : Int) = some c from this]
  rfl
theorem tx_slice (l : List Nat) {a b : Nat} (hab : a ≤ b) (hb : b ≤ l.length) : Txt.slice (tx l) (some (a : Int)) (some (b : Int)) = tx ((l.drop a).take (b - a)) := by
  have := StrLaws.sliceText_nat (tx l) hab (by rw [tx_len]; exact hb)
  rw [tx_cps] at this
  exact this
theorem tx_slice0 (l : List Nat) {b : Nat} (hb : b ≤ l.length) : Txt.slice (tx l) none (some (b : Int)) = tx (l.take b) := by
  have := StrLaws.sliceText_to (x := tx l) (j := (b : Int)) ⟨by omega, by rw [tx_cps]; omega⟩
  rw [tx_cps] at this
  have e : ((b : Int) - 0).toNat = b := by omega
  rw [e, List.drop_zero] at this
  exact this

theorem upd_same {m : Str → Option Value} {x : Str} {v : Value} : upd m x v x = some v := if_pos rfl
theorem upd_skip {m : Str → Option Value} {x y : Str} {v u : Value} (hne : y ≠ x) (e : m y = some u) : upd m x v y = some u := (if_neg hne).trans e

section
variable {w : World} {A : Around} {E : Value → Shared → Prop} {env : Env} {g h : Heap} {k r : PF} {L : Addr} {μ : List (Addr × Obj)} {m : Str → Option Value} {gn : Array GenState} {d : Drawn} {tk : Nat} {os : OsState}

theorem cInt {i : Int} {q : Nat} {pos : Pos} {Q : Value → Shared → Prop} (hq : Q (.int i tk) ⟨h, gn, d, tk + 1, os⟩) : wpAny (model PR w) A (eval (.Constant (.int i) q pos) env) Q E ⟨h, gn, d, tk, os⟩ := by
  with_reducible refine wpAny_Constant_int ?_
  exact hq
theorem cStr {x : Str} {q : Nat} {pos : Pos} {Q : Value → Shared → Prop} (hq : Q (.str x tk) ⟨h, gn, d, tk + 1, os⟩) : wpAny (model PR w) A (eval (.Constant (.str x) q pos) env) Q E ⟨h, gn, d, tk, os⟩ := by
  with_reducible refine Calls.Constant_str ?_
  exact hq
theorem addI {a b : Int} {t u : Tok} {Q : Value → Shared → Prop} (hq : Q (.int (a + b) tk) ⟨h, gn, d, tk + 1, os⟩) : wpAny (model PR w) A (binaryOp .Add (.int a t) (.int b u)) Q E ⟨h, gn, d, tk, os⟩ := by
  with_reducible refine add_int ?_
  exact hq
theorem iaddI {a b : Int} {t u : Tok} {Q : Value → Shared → Prop} (hq : Q (.int (a + b) tk) ⟨h, gn, d, tk + 1, os⟩) : wpAny (model PR w) A (inplaceOp .Add (.int a t) (.int b u)) Q E ⟨h, gn, d, tk, os⟩ := by
  with_reducible refine iadd_int ?_
  exact hq
theorem subI {a b : Int} {t u : Tok} {Q : Value → Shared → Prop} (hq : Q (.int (a - b) tk) ⟨h, gn, d, tk + 1, os⟩) : wpAny (model PR w) A (binaryOp .Sub (.int a t) (.int b u)) Q E ⟨h, gn, d, tk, os⟩ := by
  with_reducible refine sub_int ?_
  exact hq
theorem mulI {a b : Int} {t u : Tok} {Q : Value → Shared → Prop} (hm : IntMulOk a b) (hq : Q (.int (a * b) tk) ⟨h, gn, d, tk + 1, os⟩) : wpAny (model PR w) A (binaryOp .Mult (.int a t) (.int b u)) Q E ⟨h, gn, d, tk, os⟩ := by
  with_reducible refine PyProof.Rows.mul_int ?_ hm
  exact hq
theorem modI {a b : Int} {t u : Tok} {Q : Value → Shared → Prop} (hb : 0 < b) (hq : Q (.int (a % b) tk) ⟨h, gn, d, tk + 1, os⟩) : wpAny (model PR w) A (binaryOp .Mod (.int a t) (.int b u)) Q E ⟨h, gn, d, tk, os⟩ := by
  with_reducible refine PyProof.Rows.mod_int ?hx ?_
  case hx => omega
  rw [Int.fmod_eq_emod_of_nonneg _ (by omega)]
  exact hq
theorem divI {a b : Int} {t u : Tok} {Q : Value → Shared → Prop} (hb : 0 < b) (hb' : b < 1000000) (hq : Q (.int (a / b) tk) ⟨h, gn, d, tk + 1, os⟩) : wpAny (model PR w) A (binaryOp .FloorDiv (.int a t) (.int b u)) Q E ⟨h, gn, d, tk, os⟩ := by
  with_reducible refine PyProof.Rows.floordiv_int ?hx ?_ ?hy
  case hx => omega
  case hy => exact Or.inl (PyProof.noPylong_small (by omega))
  rw [Int.fdiv_eq_ediv_of_nonneg _ (by omega)]
  exact hq
theorem modN {n p : Nat} {t u : Tok} {Q : Value → Shared → Prop} (hb : 0 < p) (hq : Q (.int ((n % p : Nat) : Int) tk) ⟨h, gn, d, tk + 1, os⟩) : wpAny (model PR w) A (binaryOp .Mod (.int (n : Int) t) (.int (p : Int) u)) Q E ⟨h, gn, d, tk, os⟩ := by
  with_reducible refine modI ?hx ?_
  case hx => omega
  exact hq
theorem divN {n p : Nat} {t u : Tok} {Q : Value → Shared → Prop} (hb : 0 < p) (hb' : p < 1000000) (hq : Q (.int ((n / p : Nat) : Int) tk) ⟨h, gn, d, tk + 1, os⟩) : wpAny (model PR w) A (binaryOp .FloorDiv (.int (n : Int) t) (.int (p : Int) u)) Q E ⟨h, gn, d, tk, os⟩ := by
  with_reducible refine divI ?hx ?hy ?_
  case hx => omega
  case hy => omega
  exact hq
theorem geI {a b : Int} {t u : Tok} {s : Shared} {Q : Value → Shared → Prop} (hq : Q (.bool (decide (b ≤ a))) s) : wpAny (model PR w) A (compareOp .GtE (.int a t) (.int b u)) Q E s := by
  with_reducible refine ge_int ?_
  exact hq

theorem lenS {l : List Nat} {x : Str} {t : Tok} {Q : Value → Shared → Prop} (hx : x = tx l) (hb : l.length < 2 ^ 40) (hq : Q (.int l.length (tk + 1)) ⟨h, gn, d, tk + 1 + 1, os⟩) : wpAny (model PR w) A (call (.builtin "len") [.str x t]) Q E ⟨h, gn, d, tk, os⟩ := by
  subst hx
  with_reducible refine PyProof.Rows.len_str ?_ ?_
  · rw [tx_len]; omega
  · rw [tx_len]; exact hq
theorem addS {a b : List Nat} {x y : Str} {t u : Tok} {Q : Value → Shared → Prop} (hx : x = tx a) (hy : y = tx b) (hb : a.length + b.length ≤ 10000000) (hq : ∀ t' tk', Q (.str (tx (a ++ b)) t') ⟨h, gn, d, tk', os⟩) : wpAny (model PR w) A (binaryOp .Add (.str x t) (.str y u)) Q E ⟨h, gn, d, tk, os⟩ := by
  subst hx hy
  refine SBL.add (fun t' k' hz => ?_) ?_
  · rw [tx_app]; exact hq t' k'
  · rw [tx_len, tx_len, sizeLine_eq]; omega
theorem itemS {value slice : Expr} {l : List Nat} {x : Str} {i : Int} {n c : Nat} {t u : Tok} {Q : Value → Shared → Prop} (hx : x = tx l) (hn : i = (n : Int)) (hi : l[n]? = some c) (hb : l.length < 2 ^ 40) (hq : Q (.str (tx [c]) tk) ⟨h, gn, d, tk + 1, os⟩)
    (hs : subscripted slice false (.str x t) (.int i u) = operate [.str x t, .int i u] (getItem (.str x t) (.int i u)))
    (ht : ∀ r, letTemporaryGo value (.str x t) r = pure ()) :
    wpAny (model PR w) A (subscriptTail value slice (.str x t) (.int i u)) Q E ⟨h, gn, d, tk, os⟩ := by
  subst hx hn
  have hlt : n < l.length := (List.getElem?_eq_some_iff.mp hi).1
  refine PyProof.Rows.item_str (fitsSsize_of (N := 9223372036854775808) (by omega) (by omega) (Int.le_refl _)) (by rw [tx_len]; omega) (by rw [tx_len]; omega) (fun _ => ?_) hs ht
  rw [tx_item hi]
  exact hq
theorem sliceS {value slice : Expr} {l : List Nat} {x : Str} {i j : Int} {a b : Nat} {t u v : Tok} {Q : Value → Shared → Prop} (S₀ : St g k r L μ h m) (hx : x = tx l) (hi : i = (a : Int)) (hj : j = (b : Int)) (hab : a ≤ b) (hbl : b ≤ l.length) (hb : l.length ≤ 10000000)
    (hq : ∀ h' t' tk', St g k r L μ h' m → Q (.str (tx ((l.drop a).take (b - a))) t') ⟨h', gn, d, tk', os⟩)
    (hs : subscripted slice false (.str x t) (.ref h.objs.size) = operate [.ref h.objs.size, .str x t] (getItem (.str x t) (.ref h.objs.size)))
    (ht : ∀ r, letTemporaryGo value (.str x t) r = pure ()) :
    wpAny (model PR w) A (subscriptTail value slice (.str x t) (.ref h.objs.size)) Q E ⟨h.push { cls := .type "slice", data := .fields #[.int i u, .int j v, .none] }, gn, d, tk, os⟩ := by
  subst hx hi hj
  refine tail_of_ItemOn (SBH.sliceItem_ss (P := fun h => St g k r L μ h m) (s := ⟨h, gn, d, tk, os⟩) (fun h ob S => S.grow fun b o e => Heap.get?_push_of_some ob e) S₀ (fun h' t' tk' S' => ?_) (by rw [tx_len, sizeLine_eq]; omega)) hs ht
  rw [tx_slice l hab hbl]
  exact hq h' t' tk' S'
theorem sliceS0 {value slice : Expr} {l : List Nat} {x : Str} {j : Int} {b : Nat} {t v : Tok} {Q : Value → Shared → Prop} (S₀ : St g k r L μ h m) (hx : x = tx l) (hj : j = (b : Int)) (hbl : b ≤ l.length) (hb : l.length ≤ 10000000)
    (hq : ∀ h' t' tk', St g k r L μ h' m → Q (.str (tx (l.take b)) t') ⟨h', gn, d, tk', os⟩)
    (hs : subscripted slice false (.str x t) (.ref h.objs.size) = operate [.ref h.objs.size, .str x t] (getItem (.str x t) (.ref h.objs.size)))
    (ht : ∀ r, letTemporaryGo value (.str x t) r = pure ()) :
    wpAny (model PR w) A (subscriptTail value slice (.str x t) (.ref h.objs.size)) Q E ⟨h.push { cls := .type "slice", data := .fields #[.none, .int j v, .none] }, gn, d, tk, os⟩ := by
  subst hx hj
  refine tail_of_ItemOn (SBH.sliceItem_ns (P := fun h => St g k r L μ h m) (s := ⟨h, gn, d, tk, os⟩) (fun h ob S => S.grow fun b o e => Heap.get?_push_of_some ob e) S₀ (fun h' t' tk' S' => ?_) (by rw [tx_len, sizeLine_eq]; omega)) hs ht
  rw [tx_slice0 l hbl]
  exact hq h' t' tk' S'
theorem eqS {a b : List Nat} {x y : Str} {t u : Tok} {s : Shared} {Q : Value → Shared → Prop} (hx : x = tx a) (hy : y = tx b) (hq : Q (.bool (decide (a = b))) s) : wpAny (model PR w) A (compareOp .Eq (.str x t) (.str y u)) Q E s := by
  subst hx hy
  with_reducible refine eq_str ?_
  have : (tx a == tx b) = decide (a = b) := by
    by_cases h : a = b
    · subst h; simp
    · rw [decide_eq_false h, beq_eq_false_iff_ne]; exact fun e => h (tx_inj e)
  rw [this]; exact hq
theorem neS {a b : List Nat} {x y : Str} {t u : Tok} {s : Shared} {Q : Value → Shared → Prop} (hx : x = tx a) (hy : y = tx b) (hq : Q (.bool (decide (a ≠ b))) s) : wpAny (model PR w) A (compareOp .NotEq (.str x t) (.str y u)) Q E s := by
  subst hx hy
  with_reducible refine ne_str ?_
  have : (tx a != tx b) = decide (a ≠ b) := by
    by_cases h : a = b
    · subst h; simp
    · rw [decide_eq_true h, bne_iff_ne]; exact fun e => h (tx_inj e)
  rw [this]; exact hq
theorem leS {a b : Nat} {x y : Str} {t u : Tok} {s : Shared} {Q : Value → Shared → Prop} (hx : x = tx [a]) (hy : y = tx [b]) (hq : Q (.bool (decide (a ≤ b))) s) : wpAny (model PR w) A (compareOp .LtE (.str x t) (.str y u)) Q E s := by
  subst hx hy
  with_reducible refine PySem.P.le_str ?_
  have : (!(decide ((tx [b]).cps.toList < (tx [a]).cps.toList))) = decide (a ≤ b) := by
    rw [tx_cps, tx_cps]
    have e : ([b] < [a]) ↔ b < a := by simp [List.cons_lt_cons_iff]
    by_cases h : a ≤ b
    · rw [decide_eq_true h, decide_eq_false (by rw [e]; omega)]; rfl
    · rw [decide_eq_false h, decide_eq_true (by rw [e]; omega)]; rfl
  rw [this]; exact hq
theorem inS {l : List Nat} {c : Nat} {x y : Str} {t u : Tok} {s : Shared} {Q : Value → Shared → Prop} (hx : x = tx [c]) (hy : y = tx l) (hq : Q (.bool (decide (c ∈ l))) s) : wpAny (model PR w) A (compareOp .In (.str x t) (.str y u)) Q E s := by
  subst hx hy
  with_reducible refine PyProof.Rows.in_str ?_
  rw [show tx [c] = ⟨#[c]⟩ from rfl, StrLaws.found_one, tx_cps]
  exact hq
theorem xorI {a b : Int} {t u : Tok} {Q : Value → Shared → Prop} (hq : Q (.int (Builtin.bitXor a b) tk) ⟨h, gn, d, tk + 1, os⟩) : wpAny (model PR w) A (binaryOp .BitXor (.int a t) (.int b u)) Q E ⟨h, gn, d, tk, os⟩ := by
  with_reducible refine PyProof.Rows.xor_int ?_
  exact hq
theorem inD {x : Str} {a : Addr} {t : Tok} {kvs : List (Str × Value)} {Q : Value → Shared → Prop} (hd : h.DictOf (PySem.strKind PR w) a kvs) (hs : (a == sysModules) = false) (hq : Q (.bool (valueAt kvs x).isSome) ⟨h, gn, d, tk + 1, os⟩) : wpAny (model PR w) A (compareOp .In (.str x t) (.ref a)) Q E ⟨h, gn, d, tk, os⟩ := by
  refine wpAny_in_of (knd := PySem.strKind PR w) (strKind_is _ _ _ _) hs hd.mapOf ?_
  exact hq
theorem getD {value slice : Expr} {x : Str} {a : Addr} {t : Tok} {v : Value} {kvs : List (Str × Value)} {Q : Value → Shared → Prop} (hd : h.DictOf (PySem.strKind PR w) a kvs) (hv : valueAt kvs x = some v) (hq : Q v ⟨h, gn, d, tk + 1, os⟩)
    (hs : subscripted slice false (.ref a) (.str x t) = operate [.ref a, .str x t] (getItem (.ref a) (.str x t))) (ht : ∀ r, letTemporaryGo value (.ref a) r = pure ()) :
    wpAny (model PR w) A (subscriptTail value slice (.ref a) (.str x t)) Q E ⟨h, gn, d, tk, os⟩ :=
  subscriptTail_builtin (T := "dict") hd.typeIs slot_dict_getitem.lookup (wpAny_getItem_of (knd := PySem.strKind PR w) (strKind_is _ _ _ _) hd.mapOf hv hq) hs ht
theorem ordS {c : Nat} {x : Str} {t : Tok} {Q : Value → Shared → Prop} (hx : x = tx [c]) (hq : Q (.int (c : Int) tk) ⟨h, gn, d, tk + 1, os⟩) : wpAny (model PR w) A (call (.builtin "ord") [.str x t]) Q E ⟨h, gn, d, tk, os⟩ := by
  subst hx
  exact ord_of_one rfl hq
theorem chrI {n : Nat} {i : Int} {t : Tok} {Q : Value → Shared → Prop} (hi : i = (n : Int)) (hb : n ≤ 1114111) (hq : Q (.str (tx [n]) tk) ⟨h, gn, d, tk + 1, os⟩) : wpAny (model PR w) A (call (.builtin "chr") [.int i t]) Q E ⟨h, gn, d, tk, os⟩ := by
  subst hi
  exact chr_of_range (by omega) (by omega) hq

theorem minI {a b : Int} {t u : Tok} {Q : Value → Shared → Prop} (S₀ : St g k r L μ h m) (hh : A.handled = none) (hq : ∀ h' tk' v, St g k r L μ h' m → Q (.int (min a b) v) ⟨h', gn, d, tk', os⟩) :
    wpAny (model PR w) A (call (.builtin "min") [.int a t, .int b u]) Q E ⟨h, gn, d, tk, os⟩ := by
  refine min_two_ints hh fun h' tk' hk => ?_
  by_cases hc : b < a
  · have := hq h' tk' u (S₀.grow hk)
    rw [show min a b = b by omega] at this
    simpa only [if_pos hc] using this
  · have := hq h' tk' t (S₀.grow hk)
    rw [show min a b = a by omega] at this
    simpa only [if_neg hc] using this
theorem xTup {elts value : _} {q : Nat} {tpos pos : Pos} {rest : List Stmt} {s : Shared} {Q : Flow → Shared → Prop}
    (hq : wpAny (model PR w) A (eval value env) (fun v s₁ => wpAny (model PR w) A (assign (.Tuple elts q tpos) env v) (fun _ s₂ => wpAny (model PR w) A (execs rest env) Q E s₂) E s₁) E s)
    (hs : swapsWithSole [.Tuple elts q tpos] value pos.line env = pure false) (hw : swappedStores [.Tuple elts q tpos] value env = pure none) :
    wpAny (model PR w) A (execs (.Assign [.Tuple elts q tpos] value pos :: rest) env) Q E s := wpAny_execs_cons (Assign_Tuple hq hs hw)
theorem xTupS {elts value : _} {q : Nat} {tpos pos : Pos} {rest : List Stmt} {names : List Str} {s : Shared} {Q : Flow → Shared → Prop}
    (hq : wpAny (model PR w) A (eval value env) (fun v s₁ => wpAny (model PR w) A (unpackItems v names.length none) (fun items s₂ =>
      wpAny (model PR w) A (assignInOrder (names.reverse.map fun n => bindName env n) items.reverse) (fun _ s₃ => wpAny (model PR w) A (execs rest env) Q E s₃) E s₂) E s₁) E s)
    (hs : swapsWithSole [.Tuple elts q tpos] value pos.line env = pure false) (hw : swappedStores [.Tuple elts q tpos] value env = pure (some names)) :
    wpAny (model PR w) A (execs (.Assign [.Tuple elts q tpos] value pos :: rest) env) Q E s := wpAny_execs_cons (Assign_Tuple_swapped hq hs hw)
theorem keep_ext {h h' : Heap} (x : Heap.ExtBut h.objs.size h h') : ∀ b o, h.get? b = some o → h'.get? b = some o := fun b o e => x b o (Nat.ne_of_lt (Heap.lt_size e)) e
theorem isTup_of {h : Heap} {a : Addr} {vs : Array Value} {n : Nat} (e : h.get? a = some { cls := .type "tuple", data := .seq vs n }) : IsTup h a vs := ⟨_, e, rfl, _, rfl⟩
theorem assignTup {elts : List Expr} {q : Nat} {pos : Pos} {t : Addr} {vs : Array Value} {n : Nat} {Q : Unit → Shared → Prop} (S₀ : St g k r L μ h m) (hh : A.handled = none)
    (ht : h.get? t = some { cls := .type "tuple", data := .seq vs n }) (hn : (assignEach elts env).length = vs.size) (hst : (assignEach elts env).findIdx? (·.1) = none)
    (hq : ∀ h', St g k r L μ h' m → wpAny (model PR w) A (assignInOrder ((assignEach elts env).map (·.2)) vs.toList) Q E ⟨h', gn, d, tk, os⟩) :
    wpAny (model PR w) A (assign (.Tuple elts q pos) env (.ref t)) Q E ⟨h, gn, d, tk, os⟩ :=
  assign_Tuple_tuple hh (isTup_of ht) hn hst fun h' he => hq h' (S₀.grow (keep_ext he))
theorem unpackTup {q : Nat} {t : Addr} {vs : Array Value} {n : Nat} {Q : List Value → Shared → Prop} (S₀ : St g k r L μ h m) (hh : A.handled = none)
    (ht : h.get? t = some { cls := .type "tuple", data := .seq vs n }) (hn : q = vs.size) (hq : ∀ h', St g k r L μ h' m → Q vs.toList ⟨h', gn, d, tk, os⟩) :
    wpAny (model PR w) A (unpackItems (.ref t) q none) Q E ⟨h, gn, d, tk, os⟩ := by
  subst hn
  exact unpackItems_tuple hh (isTup_of ht) fun h' he => hq h' (S₀.grow (keep_ext he))

/-- a def of the text is called -/
theorem callF_ {mg mb : Str → Option Value} {pos : Pos} {f : Addr} {e : Expr} {rest : List Expr} {oc : Value} {od : Option Addr} {fd : FuncData} {osl : Array (Option Value)} {s : Shared} {Q : Value → Shared → Prop} (G : Gl w mg mb g)
    (ho : (hd.heap_1 w.params).lookup f = some ⟨oc, od, .func fd, osl⟩)
    (hq : wpAny (model PR w) A (spliced (backTo pos (starEach (e :: rest) env))) (fun vs s₁ => (∀ b o, g.get? b = some o → s₁.heap.get? b = some o) ∧ wpAny (model PR w) A (call (.ref f) vs) Q E s₁) E s)
    (he : starEach (e :: rest) env = (false, eval e env) :: starEach rest env) :
    wpAny (model PR w) A (callWith pos (.ref f) [] (backTo pos (starEach (e :: rest) env)) []) Q E s :=
  callWith_def (o := ⟨oc, od, .func fd, osl⟩) (fd := fd) rfl (wpAny_mono hq (fun _ _ hx => ⟨hx.1 _ _ (G.K _ _ ho), hx.2⟩) fun _ _ hx => hx) he
theorem call_ {f : Value} {vs : List Value} {s : Shared} {Q : Value → Shared → Prop}
    (hq : ∀ R : Result → Shared → Prop, (∀ v s', Q v s' → R (.ok (.ret v)) s') → (∀ e s', E e s' → R (.error e) s') → codeAny (model PR w) A (.call f ⟨vs, []⟩) R s) :
    wpAny (model PR w) A (call f vs) Q E s := wpAny_call (hq _ (fun _ _ x => x) fun _ _ x => x)

/-- the same tree, by a word between -/
theorem cut_ {α : Type} {M : Model} {t : Sem α} {s : Shared} {P Q : α → Shared → Prop} (h1 : wpAny M A t P E s) (h2 : ∀ a s', P a s' → Q a s') : wpAny M A t Q E s := wpAny_mono h1 h2 fun _ _ e => e

/-- a while, by what holds between the turns -/
theorem while_ {test : Expr} {body : List Stmt} {pos : Pos} {rest : List Stmt} {s : Shared} {Q : Flow → Shared → Prop} (I : Nat → Shared → Prop)
    (turn : ∀ n s (Qb : Flow → Shared → Prop) (Eb : Value → Shared → Prop), I n s → (∀ s' m, m < n → I m s' → Qb .next s') → (∀ s' m, m < n → I m s' → Qb .cont s') →
      (∀ s', wpAny (model PR w) A (execs rest env) Q E s' → Qb .brk s') → (∀ v s', Q (.ret v) s' → Qb (.ret v) s') →
      (∀ e s', notedBy (model PR w) A env (fun e s' => cameBackBy (model PR w) A env E e s') e s' → Eb e s') →
      wpAny (model PR w) A (isTrue test env (eval test env)) (fun b s₂ => if b then wpAny (model PR w) A (execs body env) Qb Eb s₂ else wpAny (model PR w) A (execs rest env) Q E s₂) Eb s)
    (n : Nat) (hI : I n s) : wpAny (model PR w) A (execs (.While test body [] pos :: rest) env) Q E s := by
  refine xWhile (codeAny_whileLoop I (fun n s hI => ?_) n hI)
  have Tn := turn n s (fun f s₃ => match f with
      | .next | .cont => ∃ m, m < n ∧ I m s₃
      | .brk => wpAny (model PR w) A (execs rest env) Q E s₃
      | .ret v => Q (.ret v) s₃) (notedBy (model PR w) A env fun e s' => cameBackBy (model PR w) A env E e s') hI (fun s' m hm hI' => ?_) (fun s' m hm hI' => ?_) (fun s' hs' => ?_) (fun v s' hs' => ?_) (fun e s' he => he)
  refine wpAny_mono Tn (fun b s₂ hb => ?_) (fun _ _ he => he)
  rotate_left
  · exact ⟨m, hm, hI'⟩
  · exact ⟨m, hm, hI'⟩
  · exact hs'
  · exact hs'
  cases b with
  | true =>
    simp only [if_true] at hb ⊢
    refine wpAny_mono hb (fun f s₃ hf => ?_) fun _ _ he => he
    cases f <;> exact hf
  | false =>
    simp only [Bool.false_eq_true, if_false] at hb ⊢
    exact wpAny_execs_nil hb
end
end

local macro_rules | `(tactic| walk_at "mLook") => `(tactic| first
  | (with_reducible exact upd_same)
  | (with_reducible assumption)
  | ((with_reducible refine' upd_skip ?hne ?hrest); (case hne => decide); (case hrest => walk_at "mLook"))
  | exact rfl)
set_option hygiene false in
local macro_rules | `(tactic| walk_at "mSides") => `(tactic| (
  (case ho => k_is)
  (case hcd => k_is)
  (case c1 => decide)
  (case c2 => rfl)
  (case c3 => rfl)
  (case c4 => rfl)
  (case hbind => exact BindsTo.of_eq rfl)
  (case hloc => exact locs rfl)
  intro L h₁ tk₁ env k r Q E hk hL he hl en hQ hQn hE S
  obtain ⟨hsk, hgl, hbi, hfr, hkd⟩ := en))
set_option hygiene false in
local macro_rules | `(tactic| walk_at "m") => `(tactic| first
  | (with_reducible refine xAssign ?_ ?hs); (case hs => with_unfolding_all rfl)
  | (with_reducible refine xTup ?_ ?hs ?hw); (case hs => with_unfolding_all rfl); (case hw => first | with_unfolding_all rfl | (rw [he]; with_unfolding_all rfl))
  | (with_reducible refine' xTupS ?_ ?hs ?hw); (case hs => with_unfolding_all rfl); (case hw => rw [he]; with_unfolding_all rfl)
  | (with_reducible refine xRet ?_)
  | (with_reducible refine wpAny_execs_nil ?_)
  | (with_reducible refine xExpr ?_ ?h1 ?h2); (case h1 => rw [he]; with_unfolding_all rfl); (case h2 => with_unfolding_all rfl)
  | (with_reducible refine xIf ?_)
  | (with_reducible refine xAug ?_)
  | (with_reducible refine xSub ?_ ?hs); (case hs => with_unfolding_all rfl)
  | (with_reducible refine cInt ?_)
  | (with_reducible refine cStr ?_)
  | (with_reducible refine wpAny_Constant_none ?_)
  | (with_reducible refine wpAny_Constant_bool ?_)
  | (with_reducible refine' ld_ S ?hv ?_ hl hsk ?hl ?hd); (case hl => exact hkd _); (case hd => decide); (case hv => walk_at "mLook")
  | (with_reducible refine' glb_ G S ?he ?_ hsk ?hx hgl ?hd); (case hx => exact hkd _); (case hd => decide); (case he => k_is)
  | (with_reducible refine' blt_ G S ?he ?hv ?_ ?hn hsk ?hx hgl hbi ?hd); (case hx => exact hkd _); (case hd => decide); (case he => k_is); (case hn => decide); (case hv => boot_by_name)
  | (with_reducible refine st_ S ?_ hl ?hl hsk); (case hl => exact hkd _); clear S; intro h' S
  | (with_reducible refine' ldn_ S ?hv ?_ hl hsk ?hl); (case hl => exact hkd _); (case hv => walk_at "mLook")
  | (with_reducible refine wpAny_BinOp ?_)
  | (with_reducible refine wpAny_Compare1 ?_ ?hm); (case hm => with_unfolding_all rfl)
  | (with_reducible refine wpAny_isTrue_Compare1 ?_ ?hm); (case hm => with_unfolding_all rfl)
  | (with_reducible refine isTrue_chain ?_ ?hm); (case hm => with_unfolding_all rfl)
  | ((with_reducible show wpAny _ _ (testChain _ _ _ _) _ _ _); first | refine test_last ?_ | refine test_link ?_)
  | (with_reducible refine isTrue_and ?_)
  | (with_reducible refine isTrue_or ?_)
  | (with_reducible refine isTrue_and_nil ?_)
  | (with_reducible refine isTrue_or_nil ?_)
  | ((with_reducible refine isTrue_plain ?_ ?hm); (case hm => with_unfolding_all rfl))
  | (with_reducible refine wpAny_truthy_bool ?_)
  | (with_reducible refine BoolOp_one ?_)
  | (with_reducible refine BoolOp_and ?_)
  | (with_reducible refine BoolOp_or ?_)
  | (with_reducible refine IfExp_ ?_)
  | (with_reducible refine Attribute_name ?_)
  | (with_reducible refine UnaryOp_ ?_)
  | (with_reducible refine PyProof.Rows.neg_int ?_)
  | (with_reducible refine Subscript_ ?_)
  | (with_reducible refine Tuple_ ?_)
  | (with_reducible refine List_ ?_)
  | (with_reducible refine args_nil ?_)
  | (with_reducible refine args_cons ?_ ?he); (case he => rfl)
  | (with_reducible refine Call_ ?_ ?he); (case he => rfl)
  | (with_reducible refine' MethodCall_ ?_ ?he); (case he => rfl)
  | (with_reducible refine GM.find ?_)
  | (with_reducible refine GM.lower ?_)
  | (with_reducible refine GM.join ?_)
  | (with_reducible refine PyProof.Rows.callWith_builtin1 ?_ ?he ?hp); (case he => rfl); (case hp => rfl)
  | (with_reducible refine callWith_method1 ?_ ?he ?hp); (case he => rfl); (case hp => rfl)
  | (with_reducible refine callWith_method0 ?_)
  | (with_reducible refine PyProof.Rows.callWith_type1 ?_ ?he ?hp); (case he => rfl); (case hp => rfl)
  | (with_reducible refine' callWith_K G.K ?hkk ?_ ?he ?hp); (case he => rfl); (case hp => rfl); (case hkk => k_is)
  | (with_reducible refine' callWith_K0 (G.K.keeps S.gg) ?hkk ?_); (case hkk => k_is)
  | ((with_reducible show Frag.In _ _ ∧ _); refine ⟨G.K.keeps S.gg, ?_⟩)
  | ((with_reducible show (∀ b o, Heap.get? _ b = some o → _) ∧ _); refine ⟨S.gg, ?_⟩)
  | ((with_reducible show wpAny _ _ (assignInOrder _ _) _ _ _); first | (refine assignInOrder_cons ?_; (try dsimp only); first | (with_reducible refine bindName_ ?_) | (refine assign_Name ?_)) | refine assignInOrder_nil ?_)
  | (with_reducible refine wpAny_Slice ?_)
  | (with_reducible refine evalPart_some_step ?_)
  | (with_reducible refine evalPart_none_step ?_); (try dsimp only)
  | (with_reducible refine lt_int ?_)
  | (with_reducible refine gt_int ?_)
  | (with_reducible refine PyProof.Rows.le_int ?_)
  | (with_reducible refine eq_int ?_)
  | (with_reducible refine ne_int ?_)
  | (with_reducible refine addI ?_)
  | (with_reducible refine subI ?_)
  | (with_reducible refine iaddI ?_)
  | (with_reducible refine geI ?_)
  | (with_reducible refine' eqS ?hx lit_x ?_); (case hx => rfl)
  | (with_reducible refine' eqS ?hx lit_o ?_); (case hx => rfl)
  | (with_reducible refine' eqS ?hx lit_N ?_); (case hx => rfl)
  | (with_reducible refine' eqS ?hx lit_c ?_); (case hx => rfl)
  | (with_reducible refine' eqS ?hx lit_br ?_); (case hx => rfl)
  | (with_reducible refine' eqS ?hx lit_Up ?_); (case hx => rfl)
  | (with_reducible refine' eqS ?hx lit_bar ?_); (case hx => rfl)
  | (with_reducible refine' eqS ?hx empty_is ?_); (case hx => rfl)
  | (with_reducible refine' neS ?hx empty_is ?_); (case hx => rfl)
  | (with_reducible refine' inS ?hx lit_oct ?_); (case hx => rfl)
  | (with_reducible refine ite_t rfl ?_)
  | (with_reducible refine ite_f rfl ?_)
  | ((with_reducible show (if _ then _ else _)); first | refine ite_f (by decide) ?_ | refine ite_t (by decide) ?_)
  | fail "no step")

local macro_rules | `(tactic| walk_at "mHT") => `(tactic| ((case hs => with_unfolding_all rfl); (case ht => intro _; with_unfolding_all rfl)))

set_option hygiene false in
local macro_rules | `(tactic| walk_at "mRaise") => `(tactic| (
  refine xRaise (own70 w) hh ?_
  repeat walk_at "m"
  refine syn_made G S.gg (by show A.depth + 1 + 2 < _; omega) fun h' tk' e dx mA hkp hen hdn hne X ht => ?_
  have hfr : env.frame = some L := by rw [he]; rfl
  obtain ⟨t0, he0⟩ := X.ob
  refine ⟨e, dx, t0, rfl, G.K.keeps fun b o q => hkp _ _ (S.gg b o q), he0, hE _ _ ?_⟩
  exact raise_end K hk hL hfr S (thrown_new (K.push hk S hfr (by rw [he]; intro z; cases z)) hkp hen hdn X fun _ => ⟨rfl, ht⟩) (.inl rfl) (Heap.UpToSlots.of_keeps hkp) fun h' T U => hR _ _ _ T U))
set_option hygiene false in
local macro_rules | `(tactic| walk_at "mPass") => `(tactic| (
  have hfr : env.frame = some L := by rw [he]; rfl
  exact raise_end K hk hL hfr S T2 (.inl rfl) U2 fun h' T U => hR _ _ _ T U))

local macro_rules | `(tactic| walk_at "mH") => `(tactic| (case hs => with_unfolding_all rfl))

-- P0
section
open PySem PySem.W PyProof.Rows PySem.Calls
/-- the figures, a figure's worth -/
noncomputable def figs : List Nat := [48, 49, 50, 51, 52, 53, 54, 55, 56, 57, 97, 98, 99, 100, 101, 102]
theorem figs_is : Str.ofString "0123456789abcdef" = tx figs := by decide +kernel
noncomputable def dig (c : Nat) : Nat := if c < 58 then c - 48 else c - 87
noncomputable def IsDig (b c : Nat) : Prop := figs[dig c]? = some c ∧ dig c < b
noncomputable def val (b : Nat) (ds : List Nat) : Nat := ds.foldl (fun v c => v * b + dig c) 0
theorem val_from (b : Nat) (ds : List Nat) : ∀ v, ds.foldl (fun v c => v * b + dig c) v = v * b ^ ds.length + val b ds := by
  induction ds with
  | nil => intro v; simp [val]
  | cons c r ih =>
    intro v
    have h1 := ih (v * b + dig c)
    have h2 := ih (0 * b + dig c)
    rw [List.foldl_cons, h1]
    show _ = v * b ^ (r.length + 1) + List.foldl _ 0 (c :: r)
    rw [List.foldl_cons, h2, Nat.pow_succ, Nat.add_mul, Nat.zero_mul, Nat.zero_add, Nat.mul_assoc, Nat.mul_comm b (b ^ r.length), Nat.add_assoc]
theorem val_cons (b c : Nat) (ds : List Nat) : val b (c :: ds) = dig c * b ^ ds.length + val b ds := by
  show List.foldl _ 0 (c :: ds) = _
  rw [List.foldl_cons, val_from, Nat.zero_mul, Nat.zero_add]
theorem fig_dig : ∀ d, d < 16 → ∃ c, figs[d]? = some c ∧ dig c = d := by decide
theorem empty_is : Str.ofString "" = tx [] := by decide +kernel
/-- what _law_spelt gives -/
structure Spelt (b n l : Nat) (ds : List Nat) : Prop where
  digs : ∀ c ∈ ds, IsDig b c
  val : val b ds = n
  least : l ≤ ds.length
  most : ds.length ≤ 3
  exact : n < b ^ l → ds.length = l
theorem find_fig0 : ∀ d : Nat, d < 16 → Txt.find (tx figs) (tx [figs.getD d 0]) = (d : Int) := by decide +kernel
theorem lower_fig0 : ∀ d : Nat, d < 16 → Txt.lower (tx [figs.getD d 0]) = tx [figs.getD d 0] := by decide +kernel
theorem fig_getD {d c : Nat} (h : figs[d]? = some c) : figs.getD d 0 = c ∧ d < 16 := by
  have hl := (List.getElem?_eq_some_iff.mp h).1
  refine ⟨?_, hl⟩
  rw [List.getD_eq_getElem?_getD, h]; rfl
theorem find_fig {d c : Nat} (h : figs[d]? = some c) : Txt.find (tx figs) (tx [c]) = (d : Int) := by
  obtain ⟨e, hl⟩ := fig_getD h
  rw [← e]; exact find_fig0 d hl
theorem lower_fig {d c : Nat} (h : figs[d]? = some c) : Txt.lower (tx [c]) = tx [c] := by
  obtain ⟨e, hl⟩ := fig_getD h
  rw [← e]; exact lower_fig0 d hl
theorem IsDig.lt {b c : Nat} (h : IsDig b c) : dig c < 16 := by
  have := (List.getElem?_eq_some_iff.mp h.1).1
  exact this
/-- the first place of a sign from here on -/
theorem find_from {l pre mid rest : List Nat} {c : Nat} (hl : l = pre ++ mid ++ c :: rest) (hc : c ∉ mid) : Txt.find3 (tx l) (tx [c]) (pre.length : Int) = ((pre.length + mid.length : Nat) : Int) := by
  have hlen : (tx l).length = pre.length + mid.length + (rest.length + 1) := by rw [tx_len, hl]; simp; omega
  have hfrom : PySem.fromIndex (tx l).length (pre.length : Int) = pre.length := by unfold PySem.fromIndex; rw [if_neg (by omega)]; omega
  have hget : ∀ v, (tx l).cps.getD v 0 = l.getD v 0 := fun v => by simp [tx, Array.getD, List.getD_eq_getElem?_getD]; split <;> rename_i h <;> simp [h]
  have hat : l.getD (pre.length + mid.length) 0 = c := by
    rw [hl, List.getD_eq_getElem?_getD, List.getElem?_append_right (by simp)]; simp
  have hbef : ∀ v, pre.length ≤ v → v < pre.length + mid.length → l.getD v 0 ≠ c := fun v h1 h2 e => by
    rw [hl, List.getD_eq_getElem?_getD, List.append_assoc, List.getElem?_append_right h1, List.getElem?_append_left (by omega), List.getElem?_eq_getElem (by omega)] at e
    exact hc (e ▸ List.getElem_mem _)
  rcases StrLaws.find3_spec (tx l) c (pre.length : Int) with ⟨_, hn⟩ | ⟨q, hq, h1, h2, h3, h4⟩
  · exact absurd ((hget _).trans hat) (hn (pre.length + mid.length) (by rw [hfrom]; omega) (by rw [hlen]; omega))
  · rw [hfrom] at h1 h4
    have e : q = pre.length + mid.length := by
      rcases Nat.lt_trichotomy q (pre.length + mid.length) with hlt | he | hgt
      · exact absurd ((hget q).symm.trans h3) (hbef q h1 hlt)
      · exact he
      · exact absurd ((hget _).trans hat) (h4 (pre.length + mid.length) (by omega) hgt)
    rw [show tx [c] = ⟨#[c]⟩ from rfl, hq, e]
theorem find_none {l pre : List Nat} {c : Nat} (hc : c ∉ l) : Txt.find3 (tx l) (tx [c]) (pre.length : Int) = -1 := by
  have hget : ∀ v, v < (tx l).length → (tx l).cps.getD v 0 ∈ l := fun v hv => by
    rw [tx_len] at hv
    simp [tx, Array.getD, hv]
  rcases StrLaws.find3_spec (tx l) c (pre.length : Int) with ⟨h, _⟩ | ⟨q, _, _, h2, h3, _⟩
  · exact h
  · exact absurd (h3 ▸ hget q h2) hc
theorem IsDig.ne_brace {b : Nat} : ¬ IsDig b 125 := fun h => by
  have := h.1
  revert this; decide
/-- the value as digits_value reckons it -/
noncomputable def vmin (b : Nat) (ds : List Nat) : Nat := ds.foldl (fun v c => min (v * b + dig c) 1114112) 0
theorem vmin_is (b : Nat) (hb : 1 ≤ b) (ds : List Nat) : vmin b ds = min (val b ds) 1114112 := by
  have : ∀ (ds : List Nat) (v u : Nat), u = min v 1114112 → ds.foldl (fun v c => min (v * b + dig c) 1114112) u = min (ds.foldl (fun v c => v * b + dig c) v) 1114112 := by
    intro ds
    induction ds with
    | nil => intro v u h; exact h
    | cons c r ih =>
      intro v u h
      rw [List.foldl_cons, List.foldl_cons]
      refine ih _ _ ?_
      subst h
      rcases Nat.le_total v 1114112 with hv | hv
      · rw [Nat.min_eq_left hv]
      · rw [Nat.min_eq_right hv]
        have h1 : 1114112 * 1 ≤ 1114112 * b := Nat.mul_le_mul_left _ hb
        have h2 : 1114112 * 1 ≤ v * b := Nat.mul_le_mul hv hb
        omega
  exact this ds 0 0 rfl
theorem vmin_snoc (b : Nat) (ds : List Nat) (c : Nat) : vmin b (ds ++ [c]) = min (vmin b ds * b + dig c) 1114112 := by
  unfold vmin; rw [List.foldl_append]; rfl
theorem vmin_le (b : Nat) (ds : List Nat) : vmin b ds ≤ 1114112 := by
  rcases List.eq_nil_or_concat ds with rfl | ⟨l, c, rfl⟩
  · exact Nat.zero_le _
  · rw [List.concat_eq_append, vmin_snoc]; exact Nat.min_le_right _ _
end

-- P1
section
open PySem PySem.W PyProof.Rows PySem.Calls
theorem IsDig.mem {b c : Nat} (h : IsDig b c) : c ∈ figs := List.mem_of_getElem? h.1
theorem IsDig.oct {c : Nat} (h : IsDig 8 c) : c ∈ [48, 49, 50, 51, 52, 53, 54, 55] := by
  obtain ⟨h1, h2⟩ := h
  generalize dig c = d at h1 h2
  have : d = 0 ∨ d = 1 ∨ d = 2 ∨ d = 3 ∨ d = 4 ∨ d = 5 ∨ d = 6 ∨ d = 7 := by omega
  rcases this with rfl | rfl | rfl | rfl | rfl | rfl | rfl | rfl <;> (simp [figs] at h1; subst h1; simp)
/-- the table of short escapes: letter, sign -/
noncomputable def shorts : List (Nat × Nat) := [(110, 10), (116, 9), (114, 13), (102, 12), (98, 8), (97, 7), (101, 27)]
/-- a sign that a bar tells: its text, its code -/
inductive Esc : List Nat → Nat → Prop
  | hex2 (ds : List Nat) (hd : ∀ c ∈ ds, IsDig 16 c) (hl : ds.length = 2) : Esc (92 :: 120 :: ds) (val 16 ds)
  | hexb (ds : List Nat) (hd : ∀ c ∈ ds, IsDig 16 c) (hv : val 16 ds < 512) (hl : ds.length < 10) : Esc (92 :: 120 :: 123 :: (ds ++ [125])) (val 16 ds)
  | octb (ds : List Nat) (hd : ∀ c ∈ ds, IsDig 8 c) (hv : val 8 ds < 512) (hl : ds.length < 10) : Esc (92 :: 111 :: 123 :: (ds ++ [125])) (val 8 ds)
  | nam (ds : List Nat) (hd : ∀ c ∈ ds, IsDig 16 c) (hv : val 16 ds < 512) (hl : ds.length < 10) : Esc (92 :: 78 :: 123 :: 85 :: 43 :: (ds ++ [125])) (val 16 ds)
  | oct3 (ds : List Nat) (hd : ∀ c ∈ ds, IsDig 8 c) (hl : ds.length = 3) : Esc (92 :: ds) (val 8 ds)
  | ctl (k : Nat) (hk : k < 26) : Esc [92, 99, 97 + k] (1 + k)
  | short (e c : Nat) (h : (e, c) ∈ shorts) : Esc [92, e] c
theorem val_lt (b : Nat) (hb : 0 < b) (ds : List Nat) (hd : ∀ c ∈ ds, IsDig b c) : val b ds < b ^ ds.length := by
  induction ds with
  | nil => simp [val]
  | cons c r ih =>
    rw [val_cons, List.length_cons, Nat.pow_succ]
    have h1 := ih fun x hx => hd x (.tail _ hx)
    have h2 : dig c + 1 ≤ b := (hd c (.head _)).2
    have h3 := Nat.mul_le_mul_right (b ^ r.length) h2
    rw [Nat.add_mul, Nat.one_mul] at h3
    rw [Nat.mul_comm (b ^ r.length) b]
    omega
theorem Esc.lt {p : List Nat} {c : Nat} (h : Esc p c) : c < 512 := by
  cases h with
  | hex2 ds hd hl => have := val_lt 16 (by decide) ds hd; rw [hl] at this; omega
  | hexb ds hd hv => exact hv
  | octb ds hd hv => exact hv
  | nam ds hd hv => exact hv
  | oct3 ds hd hl => have := val_lt 8 (by decide) ds hd; rw [hl] at this; omega
  | ctl k hk => omega
  | short e c h => revert h; simp only [shorts, List.mem_cons, Prod.mk.injEq, List.not_mem_nil, or_false]; omega
theorem Esc.head {p : List Nat} {c : Nat} (h : Esc p c) : ∃ c1 q, p = 92 :: c1 :: q ∧ q.length < 20 := by
  cases h with
  | hex2 ds hd hl => exact ⟨_, _, rfl, by omega⟩
  | hexb ds hd hv hl => exact ⟨_, _, rfl, by simp; omega⟩
  | octb ds hd hv hl => exact ⟨_, _, rfl, by simp; omega⟩
  | nam ds hd hv hl => exact ⟨_, _, rfl, by simp; omega⟩
  | oct3 ds hd hl =>
    match ds, hl with
    | a :: q, hl => exact ⟨_, _, rfl, by simp at hl; omega⟩
  | ctl k hk => exact ⟨_, _, rfl, by simp⟩
  | short e c h => exact ⟨_, _, rfl, by simp⟩
noncomputable def skvs : List (Str × Value) := [(Str.ofString "n", .str (Str.ofString "\n") 272), (Str.ofString "t", .str (Str.ofString "\t") 274), (Str.ofString "r", .str (Str.ofString "\r") 276), (Str.ofString "f", .str (Str.ofString "\x0c") 278), (Str.ofString "b", .str (Str.ofString "\x08") 280), (Str.ofString "a", .str (Str.ofString "\x07") 282), (Str.ofString "e", .str (Str.ofString "\x1b") 284)]
theorem skvs_at (c : Nat) : valueAt skvs (tx [c]) = (skvs.find? fun kv => kv.1 = tx [c]).map (·.2) := rfl
theorem one_eq {a b : Nat} : (tx [a] = tx [b]) ↔ a = b := ⟨fun h => by have := tx_inj h; injection this, fun h => h ▸ rfl⟩
theorem skvs_is : skvs = [(tx [110], .str (tx [10]) 272), (tx [116], .str (tx [9]) 274), (tx [114], .str (tx [13]) 276), (tx [102], .str (tx [12]) 278), (tx [98], .str (tx [8]) 280), (tx [97], .str (tx [7]) 282), (tx [101], .str (tx [27]) 284)] := by decide +kernel
theorem skvs_none {c : Nat} (h : c ≠ 110 ∧ c ≠ 116 ∧ c ≠ 114 ∧ c ≠ 102 ∧ c ≠ 98 ∧ c ≠ 97 ∧ c ≠ 101) : valueAt skvs (tx [c]) = none := by
  obtain ⟨h1, h2, h3, h4, h5, h6, h7⟩ := h
  rw [skvs_at, skvs_is]
  simp [one_eq, h1.symm, h2.symm, h3.symm, h4.symm, h5.symm, h6.symm, h7.symm]
theorem skvs_some {e c : Nat} (h : (e, c) ∈ shorts) : ∃ t, valueAt skvs (tx [e]) = some (.str (tx [c]) t) := by
  rw [skvs_at, skvs_is]
  simp only [shorts, List.mem_cons, Prod.mk.injEq, List.not_mem_nil, or_false] at h
  rcases h with ⟨rfl, rfl⟩ | ⟨rfl, rfl⟩ | ⟨rfl, rfl⟩ | ⟨rfl, rfl⟩ | ⟨rfl, rfl⟩ | ⟨rfl, rfl⟩ | ⟨rfl, rfl⟩ <;> exact ⟨_, by simp [one_eq]; rfl⟩
theorem kfillP1 (w : World) : (hd.heap_1 w.params) = (hd.heap_1 w.params) ∧ Challenge.rw_qz0089_01 = Challenge.rw_qz0089_01 := by
  k_fill
  exact ⟨rfl, rfl⟩
theorem keyed {w : World} {x : Str} {t : Tok} {v : Value} : ∃ k, (strKind PR w).is k (DictEntry.mk (PyData.keyHash w.params x) (.str x t) v).key = true ∧ (DictEntry.mk (PyData.keyHash w.params x) (.str x t) v).hash = (strKind PR w).hash k :=
  ⟨x, strKind_is _ _ _ _, rfl⟩
theorem short_map {w : World} {mg mb : Str → Option Value} {g : Heap} (G : Gl w mg mb g) : g.DictOf (strKind PR w) 73 skvs := by
  have e := G.K 73
  have e2 := e _ (by k_is)
  refine ⟨_, _, _, e2, ⟨rfl, rfl, rfl⟩, rfl, ?_, ?_, ?_⟩
  · intro x hx
    simp only [List.mem_toArray, List.mem_cons, List.not_mem_nil, or_false, Array.mem_def] at hx
    rcases hx with rfl | rfl | rfl | rfl | rfl | rfl | rfl <;> exact keyed
  · repeat' first | exact Pairs.nil | refine Pairs.cons (strKind_is _ _ _ _) rfl ?_
  · decide +kernel
end

-- L2
section
open PySem PySem.W PyProof.Rows PySem.Calls PySem.Builtin PySem.Builtin.Str
theorem lit_x : Str.ofString "x" = tx [120] := by decide +kernel
theorem lit_o : Str.ofString "o" = tx [111] := by decide +kernel
theorem lit_N : Str.ofString "N" = tx [78] := by decide +kernel
theorem lit_c : Str.ofString "c" = tx [99] := by decide +kernel
theorem lit_br : Str.ofString "{" = tx [123] := by decide +kernel
theorem lit_Up : Str.ofString "{U+" = tx [123, 85, 43] := by decide +kernel
theorem lit_bar : Str.ofString "\\" = tx [92] := by decide +kernel
theorem lit_oct : Str.ofString "01234567" = tx [48, 49, 50, 51, 52, 53, 54, 55] := by decide +kernel
section
variable {w : World} {A : Around} {E : Value → Shared → Prop} {env : Env} {g h : Heap} {k r : PF} {L : Addr} {μ : List (Addr × Obj)} {m : Str → Option Value} {gn : Array GenState} {d : Drawn} {tk : Nat} {os : OsState}
theorem sliceM {value slice : Expr} {x : Str} {i j : Int} {t u v : Tok} {Q : Value → Shared → Prop} (pre mid post : List Nat) (S₀ : St g k r L μ h m) (hx : x = tx (pre ++ mid ++ post)) (hi : i = (pre.length : Int)) (hj : j = ((pre.length + mid.length : Nat) : Int)) (hb : (pre ++ mid ++ post).length ≤ 10000000)
    (hq : ∀ h' t' tk', St g k r L μ h' m → Q (.str (tx mid) t') ⟨h', gn, d, tk', os⟩)
    (hs : subscripted slice false (.str x t) (.ref h.objs.size) = operate [.ref h.objs.size, .str x t] (getItem (.str x t) (.ref h.objs.size)))
    (ht : ∀ r, letTemporaryGo value (.str x t) r = pure ()) :
    wpAny (model PR w) A (subscriptTail value slice (.str x t) (.ref h.objs.size)) Q E ⟨h.push { cls := .type "slice", data := .fields #[.int i u, .int j v, .none] }, gn, d, tk, os⟩ := by
  with_reducible refine sliceS (a := pre.length) (b := pre.length + mid.length) S₀ hx hi hj (Nat.le_add_right _ _) ?hbl hb ?hq hs ht
  case hbl => simp
  case hq =>
    intro h' t' tk' S'
    rw [List.append_assoc, List.drop_left', Nat.add_sub_cancel_left, List.take_left']
    · exact hq h' t' tk' S'
    · rfl
    · rfl
theorem itemM {value slice : Expr} {x : Str} {i : Int} {c : Nat} {t u : Tok} {Q : Value → Shared → Prop} (pre post : List Nat) (hx : x = tx (pre ++ c :: post)) (hn : i = (pre.length : Int)) (hb : (pre ++ c :: post).length < 2 ^ 40) (hq : Q (.str (tx [c]) tk) ⟨h, gn, d, tk + 1, os⟩)
    (hs : subscripted slice false (.str x t) (.int i u) = operate [.str x t, .int i u] (getItem (.str x t) (.int i u)))
    (ht : ∀ r, letTemporaryGo value (.str x t) r = pure ()) :
    wpAny (model PR w) A (subscriptTail value slice (.str x t) (.int i u)) Q E ⟨h, gn, d, tk, os⟩ := by
  with_reducible refine itemS (n := pre.length) hx hn ?hi hb hq hs ht
  case hi => simp
end
end

-- T1
section
open PySem PySem.W PyProof.Rows PySem.Calls
set_option maxHeartbeats 4000000 in
theorem spelt_ok {w : World} {A : Around} {s : Shared} {R : Result → Shared → Prop} {mg mb : Str → Option Value} {g : Heap} (G : Gl w mg mb g) (hg : ∀ b o, g.get? b = some o → s.heap.get? b = some o) (hroom : A.depth < recursionLimit)
    (n b l : Nat) (t1 t2 t3 : Tok) (hn : n < 512) (hb : 8 ≤ b) (hb' : b ≤ 16) (hl3 : l ≤ 3) (hR : ∀ h' tk ds t, Sub (kOf s.heap []) h' → Spelt b n l ds → R (.ok (.ret (.str (tx ds) t))) { s with heap := h', toks := tk }) :
    codeAny (model PR w) A (.call (.ref 227) ⟨[.int n t1, .int b t2, .int l t3], []⟩) R s := by
  refine' enter_ (binds := [(Str.ofString "code", .int n t1), (Str.ofString "base", .int b t2), (Str.ofString "least", .int l t3)]) [] G hg (fun _ hp => nomatch hp) .nil ?ho ?hcd hroom ?hbind ?hloc ?h ?c1 ?c2 ?c3 ?c4
  walk_at "mSides"
  repeat walk_at "m"
  refine while_ (fun q s' => ∃ h tk m cur ds t u, s' = ⟨h, s.gens, s.drawn, tk, s.os⟩ ∧ St g k r L [] h m ∧ m (Str.ofString "code") = some (.int (cur : Nat) t) ∧ m (Str.ofString "base") = some (.int b t2) ∧ m (Str.ofString "least") = some (.int l t3) ∧ m (Str.ofString "text") = some (.str (tx ds) u) ∧
      (∀ c ∈ ds, IsDig b c) ∧ cur * b ^ ds.length + val b ds = n ∧ ds.length ≤ 3 ∧ (n < b ^ l → ds.length ≤ l) ∧ q = cur + (l - ds.length)) ?turn (n + l) ?start
  case start =>
    refine' ⟨_, _, _, n, [], t1, _, rfl, S, ?_, ?_, ?_, ?_, ?_, ?_, ?_, ?_, ?_⟩
    rotate_left
    · walk_at "mLook"
    · walk_at "mLook"
    · walk_at "mLook"
    · rw [← empty_is]; exact upd_same
    · intro c hc; cases hc
    · simp [val]
    · simp
    · simp
    · simp
  case turn =>
  clear S
  intro q s1 Qb Eb ⟨h, tk, m, cur, ds, t, u, hs, S, m1, m2, m3, m4, hd, hv, hlen, hex, hq⟩ hnext hcont hbrk hret hEb
  subst hs
  refine cut_ (P := fun b s' => ∃ tk, s' = ⟨h, s.gens, s.drawn, tk, s.os⟩ ∧ b = decide (0 < cur ∨ ds.length < l)) ?_ ?_
  · repeat walk_at "m"
    by_cases hc : (cur : Int) > 0
    · refine ite_t (decide_eq_true hc) ⟨_, rfl, (decide_eq_true (by omega)).symm⟩
    · refine ite_f (decide_eq_false hc) ?_
      repeat walk_at "m"
      refine lenS rfl (by omega) ?_
      repeat walk_at "m"
      by_cases hc2 : (ds.length : Int) < l
      · refine ite_t (decide_eq_true hc2) ⟨_, rfl, (decide_eq_true (by omega)).symm⟩
      · refine ite_f (decide_eq_false hc2) ?_
        repeat walk_at "m"
        exact ⟨_, rfl, (decide_eq_false (by omega)).symm⟩
  · rintro b s2 ⟨tk, rfl, hb⟩
    subst hb
    by_cases hgo : 0 < cur ∨ ds.length < l
    · refine ite_t (decide_eq_true hgo) ?_
      have hmod : cur % b < 16 := Nat.lt_of_lt_of_le (Nat.mod_lt _ (by omega)) hb'
      obtain ⟨c, hc1, hc2⟩ := fig_dig _ hmod
      repeat walk_at "m"
      refine modN (by omega) ?_
      refine itemS figs_is (n := cur % b) rfl hc1 (by decide) ?_ ?hs ?ht
      case hs => with_unfolding_all rfl
      case ht => intro _; with_unfolding_all rfl
      repeat walk_at "m"
      refine addS rfl rfl (by simp; omega) (fun t' tk' => ?_)
      repeat walk_at "m"
      refine divN (by omega) (by omega) ?_
      repeat walk_at "m"
      refine' hnext _ (cur / b + (l - (ds.length + 1))) ?lt ⟨_, _, _, cur / b, c :: ds, _, _, rfl, S, ?v1, ?v2, ?v3, ?v4, ?v5, ?v6, ?v7, ?v8, rfl⟩
      case lt =>
        rcases hgo with h0 | h0
        · have := Nat.div_lt_self h0 (show 1 < b by omega); omega
        · have := Nat.div_le_self cur b; omega
      case v1 => walk_at "mLook"
      case v2 => walk_at "mLook"
      case v3 => walk_at "mLook"
      case v4 => walk_at "mLook"
      case v5 =>
        intro x hx
        rcases List.mem_cons.mp hx with rfl | hx
        · exact ⟨hc2 ▸ hc1, by rw [hc2]; exact Nat.mod_lt _ (by omega)⟩
        · exact hd x hx
      case v6 =>
        rw [val_cons, hc2, List.length_cons, Nat.pow_succ, ← hv, ← Nat.add_assoc, ← Nat.mul_assoc, Nat.mul_right_comm, ← Nat.add_mul, Nat.mul_comm (cur / b) b, Nat.div_add_mod]
      case v7 =>
        rw [List.length_cons]
        rcases hgo with h0 | h0
        · rcases Nat.lt_or_ge ds.length 3 with h3 | h3
          · omega
          · exfalso
            have e3 : ds.length = 3 := by omega
            have h8 : 8 ^ 3 ≤ b ^ 3 := Nat.pow_le_pow_left hb 3
            have h9 : 1 * b ^ 3 ≤ cur * b ^ 3 := Nat.mul_le_mul_right _ h0
            rw [e3] at hv
            omega
        · omega
      case v8 =>
        intro hlt
        rw [List.length_cons]
        rcases hgo with h0 | h0
        · have h1 := hex hlt
          rcases Nat.lt_or_ge ds.length l with h3 | h3
          · omega
          · exfalso
            have e3 : ds.length = l := by omega
            have h9 : 1 * b ^ l ≤ cur * b ^ l := Nat.mul_le_mul_right _ h0
            rw [e3] at hv
            omega
        · omega
    · refine ite_f (decide_eq_false hgo) ?_
      repeat walk_at "m"
      have h0 : cur = 0 := by omega
      subst h0
      refine hQ _ _ (hR _ _ ds _ (hk ▸ S.kk) ⟨hd, by simpa using hv, by omega, hlen, fun hlt => ?_⟩)
      have := hex hlt
      omega
end

-- T2
section
open PySem PySem.W PyProof.Rows PySem.Calls
set_option maxHeartbeats 4000000 in
theorem digits_ok {w : World} {A : Around} {s : Shared} {R : Result → Shared → Prop} {mg mb : Str → Option Value} {g : Heap} (G : Gl w mg mb g) (hg : ∀ b o, g.get? b = some o → s.heap.get? b = some o) (hroom : A.depth < recursionLimit) (hh : A.handled = none)
    (x : Str) (pre ds rest : List Nat) (at_ most : Int) (b : Nat) (t1 t2 t3 t4 : Tok) (hx : x = tx (pre ++ ds ++ rest)) (hlx : (pre ++ ds ++ rest).length < 10000000) (hat : at_ = (pre.length : Int)) (hb : 8 ≤ b) (hb' : b ≤ 16) (hds : ∀ c ∈ ds, IsDig b c) (hm : (ds.length : Int) ≤ most) (hm' : rest = [] ∨ (ds.length : Int) = most)
    (hR : ∀ h' tk a t u, Sub (kOf s.heap []) h' → h'.get? a = some { cls := .type "tuple", data := .seq #[.int (vmin b ds : Nat) t, .int ((pre.length + ds.length : Nat) : Int) u] } → R (.ok (.ret (.ref a))) { s with heap := h', toks := tk }) :
    codeAny (model PR w) A (.call (.ref 80) ⟨[.str x t1, .int at_ t2, .int most t3, .int b t4], []⟩) R s := by
  refine' enter_ (binds := [(Str.ofString "text", .str x t1), (Str.ofString "at", .int at_ t2), (Str.ofString "most", .int most t3), (Str.ofString "base", .int b t4)]) [] G hg (fun _ hp => nomatch hp) .nil ?ho ?hcd hroom ?hbind ?hloc ?h ?c1 ?c2 ?c3 ?c4
  walk_at "mSides"
  repeat walk_at "m"
  refine while_ (fun q s' => ∃ h tk m n t u, s' = ⟨h, s.gens, s.drawn, tk, s.os⟩ ∧ St g k r L [] h m ∧ m (Str.ofString "text") = some (.str x t1) ∧ m (Str.ofString "at") = some (.int at_ t2) ∧ m (Str.ofString "most") = some (.int most t3) ∧ m (Str.ofString "base") = some (.int b t4) ∧
      m (Str.ofString "value") = some (.int ((vmin b (ds.take n) : Nat) : Int) t) ∧ m (Str.ofString "end") = some (.int ((pre.length + n : Nat) : Int) u) ∧ n ≤ ds.length ∧ q = ds.length - n) ?turn ds.length ?start
  case start =>
    refine' ⟨_, _, _, 0, _, _, rfl, S, ?v1, ?v2, ?v3, ?v4, ?v5, ?v6, Nat.zero_le _, rfl⟩
    case v1 => walk_at "mLook"
    case v2 => walk_at "mLook"
    case v3 => walk_at "mLook"
    case v4 => walk_at "mLook"
    case v5 => walk_at "mLook"
    case v6 => rw [Nat.add_zero, ← hat]; walk_at "mLook"
  case turn =>
  clear S
  intro q s1 Qb Eb ⟨h, tk, m, n, t, u, hs, S, m1, m2, m3, m4, m5, m6, hn, hq⟩ hnext hcont hbrk hret hEb
  subst hs
  have hlen : (pre ++ ds ++ rest).length = pre.length + ds.length + rest.length := by simp; omega
  refine cut_ (P := fun c s' => ∃ tk, s' = ⟨h, s.gens, s.drawn, tk, s.os⟩ ∧ c = decide (n < ds.length)) ?_ ?_
  · repeat walk_at "m"
    refine lenS hx (by omega) ?_
    repeat walk_at "m"
    by_cases hc : ((pre.length + n : Nat) : Int) < (pre ++ ds ++ rest).length
    · refine ite_t (decide_eq_true hc) ?_
      repeat walk_at "m"
      by_cases hc2 : ((pre.length + n : Nat) : Int) < at_ + most
      · refine ite_t (decide_eq_true hc2) ?_
        repeat walk_at "m"
        refine ⟨_, rfl, (decide_eq_true ?_).symm⟩
        rcases hm' with h0 | h0
        · subst h0; simp at hc; omega
        · omega
      · refine ite_f (decide_eq_false hc2) ?_
        exact ⟨_, rfl, (decide_eq_false (by omega)).symm⟩
    · refine ite_f (decide_eq_false hc) ?_
      exact ⟨_, rfl, (decide_eq_false (by omega)).symm⟩
  · rintro c s2 ⟨tk, rfl, hc⟩
    subst hc
    by_cases hgo : n < ds.length
    · refine ite_t (decide_eq_true hgo) ?_
      repeat walk_at "m"
      have hd := hds (ds[n]) (List.getElem_mem hgo)
      have hlt : dig ds[n] < b := hd.2
      have hget : (pre ++ ds ++ rest)[pre.length + n]? = some (ds[n]) := by
        rw [List.append_assoc, List.getElem?_append_right (by omega), List.getElem?_append_left (by omega), Nat.add_sub_cancel_left, List.getElem?_eq_getElem hgo]
      refine itemS hx rfl hget (by omega) ?_ ?hs ?ht
      case hs => with_unfolding_all rfl
      case ht => intro _; with_unfolding_all rfl
      repeat walk_at "m"
      refine SC.lower (by rw [lower_fig hd.1]; rfl) ?_
      rw [lower_fig hd.1]
      dsimp only
      repeat walk_at "m"
      refine SC.find ?_
      rw [figs_is, find_fig hd.1]
      dsimp only
      repeat walk_at "m"
      refine ite_f (decide_eq_false (by omega)) ?_
      repeat walk_at "m"
      have hv4 := vmin_le b (ds.take n)
      refine mulI (IntMulOk.of_right (intBits_le_64 (by omega) (by omega))) ?_
      repeat walk_at "m"
      refine minI S hh (fun h' tk' v S => ?_)
      repeat walk_at "m"
      refine' hnext _ (ds.length - (n + 1)) (by omega) ⟨_, _, _, n + 1, _, _, rfl, S, ?v1, ?v2, ?v3, ?v4, ?v5, ?v6, hgo, rfl⟩
      case v1 => walk_at "mLook"
      case v2 => walk_at "mLook"
      case v3 => walk_at "mLook"
      case v4 => walk_at "mLook"
      case v5 =>
        rw [List.take_succ_eq_append_getElem hgo, vmin_snoc, show ((min (vmin b (ds.take n) * b + dig ds[n]) 1114112 : Nat) : Int) = min (((vmin b (ds.take n) : Nat) : Int) * b + (dig ds[n] : Nat)) (1114111 + 1) by omega]
        walk_at "mLook"
      case v6 =>
        rw [show ((pre.length + (n + 1) : Nat) : Int) = ((pre.length + n : Nat) : Int) + 1 by omega]
        walk_at "mLook"
    · have e : n = ds.length := by omega
      subst e
      rw [List.take_length] at m5
      refine ite_f (decide_eq_false hgo) ?_
      repeat walk_at "m"
      refine newTuple_ S (fun a h' S => ?_) (Nat.le_of_ble_eq_true rfl)
      refine hQ _ _ (hR _ _ _ _ _ (fun b o e => S.kk b o (hk ▸ e)) (S.at (.head _)))
end

-- T3
section
open PySem PySem.W PyProof.Rows PySem.Calls
set_option maxHeartbeats 4000000 in
theorem coded_ok {w : World} {A : Around} {s : Shared} {R : Result → Shared → Prop} {mg mb : Str → Option Value} {g : Heap} (G : Gl w mg mb g) (hg : ∀ b o, g.get? b = some o → s.heap.get? b = some o) (hroom : A.depth < recursionLimit)
    (n : Nat) (t1 : Tok) (hn : n ≤ 1114111) (hR : ∀ h' tk t, Sub (kOf s.heap []) h' → R (.ok (.ret (.str (tx [n]) t))) { s with heap := h', toks := tk }) :
    codeAny (model PR w) A (.call (.ref 87) ⟨[.int n t1], []⟩) R s := by
  refine' enter_ (binds := [(Str.ofString "code", .int n t1)]) [] G hg (fun _ hp => nomatch hp) .nil ?ho ?hcd hroom ?hbind ?hloc ?h ?c1 ?c2 ?c3 ?c4
  walk_at "mSides"
  repeat walk_at "m"
  refine ite_f (decide_eq_false (by omega)) ?_
  repeat walk_at "m"
  refine chrI rfl hn ?_
  exact hQ _ _ (hR _ _ _ (hk ▸ S.kk))

set_option maxHeartbeats 4000000 in
theorem braced_ok {w : World} {A : Around} {s : Shared} {R : Result → Shared → Prop} {mg mb : Str → Option Value} {g : Heap} (G : Gl w mg mb g) (hg : ∀ b o, g.get? b = some o → s.heap.get? b = some o) (hroom : A.depth + 2 < recursionLimit) (hh : A.handled = none)
    (x : Str) (b0 : Nat) (hb0 : b0 ≠ 125) (pre ds rest : List Nat) (at_ : Int) (b : Nat) (t1 t2 t3 : Tok) (hx : x = tx (pre ++ b0 :: ds ++ 125 :: rest)) (hlx : (pre ++ b0 :: ds ++ 125 :: rest).length < 10000000) (hat : at_ = (pre.length : Int)) (hb : 8 ≤ b) (hb' : b ≤ 16) (hds : ∀ c ∈ ds, IsDig b c) (hv : val b ds ≤ 1114111)
    (hR : ∀ h' tk a t u, Sub (kOf s.heap []) h' → h'.get? a = some { cls := .type "tuple", data := .seq #[.str (tx [val b ds]) t, .int ((pre.length + ds.length + 2 : Nat) : Int) u] } → R (.ok (.ret (.ref a))) { s with heap := h', toks := tk }) :
    codeAny (model PR w) A (.call (.ref 94) ⟨[.str x t1, .int at_ t2, .int b t3], []⟩) R s := by
  have hroom' : A.depth < recursionLimit := by omega
  refine' enter_ (binds := [(Str.ofString "text", .str x t1), (Str.ofString "at", .int at_ t2), (Str.ofString "base", .int b t3)]) [] G hg (fun _ hp => nomatch hp) .nil ?ho ?hcd hroom' ?hbind ?hloc ?h ?c1 ?c2 ?c3 ?c4
  walk_at "mSides"
  repeat walk_at "m"
  refine SC.find3 ?_
  subst hat
  rw [hx, show Str.ofString "}" = tx [125] from by decide +kernel, find_from (pre := pre) (mid := b0 :: ds) (c := 125) (rest := rest) (by simp) (fun hm => (List.mem_cons.mp hm).elim (fun e => hb0 e.symm) fun hm => IsDig.ne_brace (hds _ hm))]
  dsimp only
  repeat walk_at "m"
  have hl1 : (pre ++ b0 :: ds ++ 125 :: rest).take (pre.length + (b0 :: ds).length) = pre ++ [b0] ++ ds ++ [] := by
    rw [show pre.length + (b0 :: ds).length = (pre ++ b0 :: ds).length by simp, List.take_left' rfl]; simp
  have hln : (pre ++ b0 :: ds ++ 125 :: rest).length = pre.length + ds.length + rest.length + 2 := by simp; omega
  (with_reducible refine sliceS0 S hx rfl ?hb1 ?hb2 (fun h' t' tk' S => ?_) ?hs ?ht)
  case hb1 => simp
  case hb2 => omega
  case hs => with_unfolding_all rfl
  case ht => intro _; with_unfolding_all rfl
  repeat walk_at "m"
  rw [hl1]
  refine call_ fun R' hr' _ => digits_ok (A := A.deeper env) (s := ⟨_, _, _, _, _⟩) G S.gg (by show A.depth + 1 < _; omega) hh _ (pre ++ [b0]) ds [] _ _ b _ _ _ _ rfl (by simp; omega) (by simp) hb hb' hds (by simp; omega) (.inl rfl) (fun h2 tk2 a2 u2 v2 hs2 hget2 => hr' _ _ ?_)
  replace S := S.grow hs2.stays
  dsimp only
  refine assignTup S hh hget2 rfl rfl (fun h3 S => ?_)
  repeat walk_at "m"
  have hvm : vmin b ds = val b ds := by rw [vmin_is b (by omega)]; omega
  rw [hvm]
  refine call_ fun R' hr' _ => coded_ok (A := A.deeper env) (s := ⟨_, _, _, _, _⟩) G S.gg (by show A.depth + 1 < _; omega) _ _ hv (fun h4 tk4 t4 hs4 => hr' _ _ ?_)
  replace S := S.grow hs4.stays
  dsimp only
  repeat walk_at "m"
  refine newTuple_ S (fun a h' S => ?_) (Nat.le_of_ble_eq_true rfl)
  refine hQ _ _ (hR _ _ a t4 (tk4 + 1) (fun b o e => S.kk b o (hk ▸ e)) ?_)
  rw [show ((pre.length + ds.length + 2 : Nat) : Int) = ((pre.length + (b0 :: ds).length : Nat) : Int) + 1 by simp; omega]
  exact S.at (.head _)
end

-- T4
section
open PySem PySem.W PyProof.Rows PySem.Calls
set_option maxHeartbeats 4000000 in
theorem great_ok {w : World} {A : Around} {s : Shared} {R : Result → Shared → Prop} {mg mb : Str → Option Value} {g : Heap} (G : Gl w mg mb g) (hg : ∀ b o, g.get? b = some o → s.heap.get? b = some o) (hroom : A.depth < recursionLimit)
    (x : Str) (n : Nat) (t1 : Tok) (hx : x = tx [97 + n]) (hn : n < 26) (hR : ∀ h' tk t, Sub (kOf s.heap []) h' → R (.ok (.ret (.str (tx [65 + n]) t))) { s with heap := h', toks := tk }) :
    codeAny (model PR w) A (.call (.ref 108) ⟨[.str x t1], []⟩) R s := by
  refine' enter_ (binds := [(Str.ofString "sign", .str x t1)]) [] G hg (fun _ hp => nomatch hp) .nil ?ho ?hcd hroom ?hbind ?hloc ?h ?c1 ?c2 ?c3 ?c4
  walk_at "mSides"
  repeat walk_at "m"
  refine leS (a := 97) (by decide +kernel) hx ?_
  repeat walk_at "m"
  refine ite_t (decide_eq_true (by omega)) ?_
  repeat walk_at "m"
  refine leS (b := 122) hx (by decide +kernel) ?_
  repeat walk_at "m"
  refine ite_t (decide_eq_true (by omega)) ?_
  repeat walk_at "m"
  refine ordS hx ?_
  repeat walk_at "m"
  refine chrI (n := 65 + n) (by omega) (by omega) ?_
  exact hQ _ _ (hR _ _ _ (hk ▸ S.kk))

theorem xor64 : ∀ n : Nat, n < 26 → Builtin.bitXor ((65 + n : Nat) : Int) 64 = ((1 + n : Nat) : Int) := by decide +kernel
set_option maxHeartbeats 4000000 in
theorem escape_ok {w : World} {A : Around} {s : Shared} {R : Result → Shared → Prop} {mg mb : Str → Option Value} {g : Heap} (G : Gl w mg mb g) (hg : ∀ b o, g.get? b = some o → s.heap.get? b = some o) (hroom : A.depth + 3 < recursionLimit) (hh : A.handled = none)
    (x : Str) (pre p rest : List Nat) (c : Nat) (at_ : Int) (t1 t2 : Tok) (hEsc : Esc p c) (hx : x = tx (pre ++ p ++ rest)) (hlx : (pre ++ p ++ rest).length < 10000000) (hat : at_ = (pre.length : Int))
    (hR : ∀ h' tk a t u, Sub (kOf s.heap []) h' → h'.get? a = some { cls := .type "tuple", data := .seq #[.str (tx [c]) t, .int ((pre.length + p.length : Nat) : Int) u] } → R (.ok (.ret (.ref a))) { s with heap := h', toks := tk }) :
    codeAny (model PR w) A (.call (.ref 101) ⟨[.str x t1, .int at_ t2], []⟩) R s := by
  have hroom' : A.depth < recursionLimit := by omega
  obtain ⟨c1, q, hp, hq20⟩ := hEsc.head
  have hlen : (pre ++ p ++ rest).length = pre.length + (q.length + 2) + rest.length := by rw [hp]; simp; omega
  have hd1 : ((pre ++ p ++ rest).drop (pre.length + 1)).take (pre.length + 2 - (pre.length + 1)) = [c1] := by
    rw [hp, List.append_assoc, List.drop_append, List.drop_of_length_le (by omega)]; simp [Nat.add_sub_cancel_left]
  refine' enter_ (binds := [(Str.ofString "text", .str x t1), (Str.ofString "at", .int at_ t2)]) [] G hg (fun _ hp => nomatch hp) .nil ?ho ?hcd hroom' ?hbind ?hloc ?h ?c1 ?c2 ?c3 ?c4
  walk_at "mSides"
  subst hat
  repeat walk_at "m"
  (with_reducible refine sliceS (a := pre.length + 1) (b := pre.length + 2) S hx ?hi ?hj ?hab ?hbl ?hb (fun h' t' tk' S => ?_) ?hs ?ht)
  case hi => omega
  case hj => omega
  case hab => omega
  case hbl => omega
  case hb => omega
  walk_at "mHT"
  rw [hd1]
  repeat walk_at "m"
  refine inD ((short_map G).keep S.gg) (by decide) ?_
  repeat walk_at "m"
  cases hEsc with
  | short e c h =>
    injection hp with _ hp
    injection hp with hp1 hp2
    subst hp1 hp2
    obtain ⟨t3, hv⟩ := skvs_some h
    refine ite_t (by rw [hv]; rfl) ?_
    repeat walk_at "m"
    refine getD ((short_map G).keep S.gg) hv ?_ ?hs ?ht
    walk_at "mHT"
    repeat walk_at "m"
    refine newTuple_ S (fun a h' S => ?_) (Nat.le_of_ble_eq_true rfl)
    refine hQ _ _ (hR _ _ a _ _ (fun b o e => S.kk b o (hk ▸ e)) (S.at (.head _)))
  | ctl n hn =>
    injection hp with _ hp
    injection hp with hp1 hp2
    subst hp1 hp2
    refine ite_f (by rw [skvs_none (by decide)]; rfl) ?_
    repeat walk_at "m"
    refine sliceM (pre ++ [92, 99]) [97 + n] rest S (by rw [hx]; simp) (by simp) (by simp; omega) (by simp; simp at hlx; omega) (fun h' t' tk' S => ?_) ?hs ?ht
    walk_at "mHT"
    repeat walk_at "m"
    refine itemM (pre ++ [92, 99]) rest (c := 97 + n) (by rw [hx]; simp) (by simp) (by simp; simp at hlx; omega) ?_ ?hs ?ht
    walk_at "mHT"
    repeat walk_at "m"
    refine call_ fun R' hr' _ => great_ok (A := A.deeper env) (s := ⟨_, _, _, _, _⟩) G S.gg (by show A.depth + 1 < _; omega) _ n _ rfl hn (fun h4 tk4 t4 hs4 => hr' _ _ ?_)
    replace S := S.grow hs4.stays
    dsimp only
    repeat walk_at "m"
    refine ordS rfl ?_
    repeat walk_at "m"
    refine xorI ?_
    rw [xor64 n hn]
    repeat walk_at "m"
    refine chrI (n := 1 + n) rfl (by omega) ?_
    repeat walk_at "m"
    refine newTuple_ S (fun a h' S => ?_) (Nat.le_of_ble_eq_true rfl)
    exact hQ _ _ (hR _ _ a _ _ (fun b o e => S.kk b o (hk ▸ e)) (S.at (.head _)))
  | hex2 ds hd hl2 =>
    injection hp with _ hp
    injection hp with hp1 hp2
    subst hp1 hp2
    have hv : vmin 16 ds = val 16 ds := by rw [vmin_is 16 (by decide)]; have := val_lt 16 (by decide) ds hd; rw [hl2] at this; omega
    refine ite_f (by rw [skvs_none (by decide)]; rfl) ?_
    repeat walk_at "m"
    match ds, hl2 with
    | [d0, d1], _ =>
    refine sliceM (pre ++ [92, 120]) [d0] (d1 :: rest) S (by rw [hx]; simp) (by simp) (by simp; omega) (by simp; simp at hlx; omega) (fun h' t' tk' S => ?_) ?hs ?ht
    walk_at "mHT"
    repeat walk_at "m"
    refine ite_f (decide_eq_false (fun e => ?_)) ?_
    · have := (hd d0 (.head _)).mem
      injection e with e _
      subst e
      revert this; decide
    repeat walk_at "m"
    refine call_ fun R' hr' _ => digits_ok (A := A.deeper env) (s := ⟨_, _, _, _, _⟩) G S.gg (by show A.depth + 1 < _; omega) hh _ (pre ++ [92, 120]) [d0, d1] rest _ _ 16 _ _ _ _ (by rw [hx]; simp) (by simp; simp at hlx; omega) (by simp) (by decide) (by decide) hd (by simp) (.inr (by simp)) (fun h2 tk2 a2 u2 v2 hs2 hget2 => hr' _ _ ?_)
    replace S := S.grow hs2.stays
    dsimp only
    refine assignTup S hh hget2 rfl rfl (fun h3 S => ?_)
    repeat walk_at "m"
    refine chrI (n := val 16 [d0, d1]) (by rw [hv]) (by have := val_lt 16 (by decide) _ hd; simp at this; omega) ?_
    repeat walk_at "m"
    refine newTuple_ S (fun a h' S => ?_) (Nat.le_of_ble_eq_true rfl)
    have e := S.at (.head _)
    have q : (pre ++ [92, 120] : List Nat).length + [d0, d1].length = pre.length + (92 :: 120 :: [d0, d1]).length := by simp
    rw [q] at e
    exact hQ _ _ (hR _ _ a _ v2 (fun b o e => S.kk b o (hk ▸ e)) e)
  | oct3 ds hd hl3 =>
    match ds, hl3 with
    | [d0, d1, d2], _ =>
    injection hp with _ hp
    injection hp with hp1 hp2
    subst hp1 hp2
    have hv : vmin 8 [d0, d1, d2] = val 8 [d0, d1, d2] := by rw [vmin_is 8 (by decide)]; have := val_lt 8 (by decide) _ hd; simp at this; omega
    have hd0 := (hd d0 (.head _)).oct
    refine ite_f (by rw [skvs_none (by simp at hd0; omega)]; rfl) ?_
    repeat walk_at "m"
    refine ite_t (decide_eq_true hd0) ?_
    repeat walk_at "m"
    refine call_ fun R' hr' _ => digits_ok (A := A.deeper env) (s := ⟨_, _, _, _, _⟩) G S.gg (by show A.depth + 1 < _; omega) hh _ (pre ++ [92]) [d0, d1, d2] rest _ _ 8 _ _ _ _ (by rw [hx]; simp) (by simp; simp at hlx; omega) (by simp) (by decide) (by decide) hd (by simp) (.inr (by simp)) (fun h2 tk2 a2 u2 v2 hs2 hget2 => hr' _ _ ?_)
    replace S := S.grow hs2.stays
    dsimp only
    refine assignTup S hh hget2 rfl rfl (fun h3 S => ?_)
    repeat walk_at "m"
    refine chrI (n := val 8 [d0, d1, d2]) (by rw [hv]) (by have := val_lt 8 (by decide) _ hd; simp at this; omega) ?_
    repeat walk_at "m"
    refine newTuple_ S (fun a h' S => ?_) (Nat.le_of_ble_eq_true rfl)
    have e := S.at (.head _)
    have q : (pre ++ [92] : List Nat).length + [d0, d1, d2].length = pre.length + (92 :: [d0, d1, d2]).length := by simp
    rw [q] at e
    exact hQ _ _ (hR _ _ a _ v2 (fun b o e => S.kk b o (hk ▸ e)) e)
  | hexb ds hd hv hlt =>
    injection hp with _ hp
    injection hp with hp1 hp2
    subst hp1 hp2
    refine ite_f (by rw [skvs_none (by decide)]; rfl) ?_
    repeat walk_at "m"
    refine sliceM (pre ++ [92, 120]) [123] (ds ++ 125 :: rest) S (by rw [hx]; simp) (by simp) (by simp; omega) (by simp; simp at hlx; omega) (fun h' t' tk' S => ?_) ?hs ?ht
    walk_at "mHT"
    repeat walk_at "m"
    refine call_ fun R' hr' _ => braced_ok (A := A.deeper env) (s := ⟨_, _, _, _, _⟩) G S.gg (by show A.depth + 1 + 2 < _; omega) hh _ 123 (by decide) (pre ++ [92, 120]) ds rest _ 16 _ _ _ (by rw [hx]; simp) (by simp; simp at hlx; omega) (by simp) (by decide) (by decide) hd (by omega) (fun h2 tk2 a2 u2 v2 hs2 hget2 => hr' _ _ ?_)
    replace S := S.grow hs2.stays
    have q : (pre ++ [92, 120] : List Nat).length + ds.length + 2 = pre.length + (92 :: 120 :: 123 :: (ds ++ [125])).length := by simp; omega
    rw [q] at hget2
    exact hQ _ _ (hR _ _ a2 u2 v2 (fun b o e => S.kk b o (hk ▸ e)) hget2)
  | octb ds hd hv hlt =>
    injection hp with _ hp
    injection hp with hp1 hp2
    subst hp1 hp2
    refine ite_f (by rw [skvs_none (by decide)]; rfl) ?_
    repeat walk_at "m"
    refine sliceM (pre ++ [92, 111]) [123] (ds ++ 125 :: rest) S (by rw [hx]; simp) (by simp) (by simp; omega) (by simp; simp at hlx; omega) (fun h' t' tk' S => ?_) ?hs ?ht
    walk_at "mHT"
    repeat walk_at "m"
    refine call_ fun R' hr' _ => braced_ok (A := A.deeper env) (s := ⟨_, _, _, _, _⟩) G S.gg (by show A.depth + 1 + 2 < _; omega) hh _ 123 (by decide) (pre ++ [92, 111]) ds rest _ 8 _ _ _ (by rw [hx]; simp) (by simp; simp at hlx; omega) (by simp) (by decide) (by decide) hd (by omega) (fun h2 tk2 a2 u2 v2 hs2 hget2 => hr' _ _ ?_)
    replace S := S.grow hs2.stays
    have q : (pre ++ [92, 111] : List Nat).length + ds.length + 2 = pre.length + (92 :: 111 :: 123 :: (ds ++ [125])).length := by simp; omega
    rw [q] at hget2
    exact hQ _ _ (hR _ _ a2 u2 v2 (fun b o e => S.kk b o (hk ▸ e)) hget2)
  | nam ds hd hv hlt =>
    injection hp with _ hp
    injection hp with hp1 hp2
    subst hp1 hp2
    refine ite_f (by rw [skvs_none (by decide)]; rfl) ?_
    repeat walk_at "m"
    refine sliceM (pre ++ [92, 78]) [123, 85, 43] (ds ++ 125 :: rest) S (by rw [hx]; simp) (by simp) (by simp; omega) (by simp; simp at hlx; omega) (fun h' t' tk' S => ?_) ?hs ?ht
    walk_at "mHT"
    repeat walk_at "m"
    refine call_ fun R' hr' _ => braced_ok (A := A.deeper env) (s := ⟨_, _, _, _, _⟩) G S.gg (by show A.depth + 1 + 2 < _; omega) hh _ 43 (by decide) (pre ++ [92, 78, 123, 85]) ds rest _ 16 _ _ _ (by rw [hx]; simp) (by simp; simp at hlx; omega) (by simp) (by decide) (by decide) hd (by omega) (fun h2 tk2 a2 u2 v2 hs2 hget2 => hr' _ _ ?_)
    replace S := S.grow hs2.stays
    have q : (pre ++ [92, 78, 123, 85] : List Nat).length + ds.length + 2 = pre.length + (92 :: 78 :: 123 :: 85 :: 43 :: (ds ++ [125])).length := by simp; omega
    rw [q] at hget2
    exact hQ _ _ (hR _ _ a2 u2 v2 (fun b o e => S.kk b o (hk ▸ e)) hget2)
end

-- L3
section
open PySem PySem.W PyProof.Rows PySem.Calls
noncomputable abbrev lst (vs : List Value) (n : Nat) : Obj := { cls := .type "list", data := .seq vs.toArray n }
noncomputable abbrev tup (vs : List Value) : Obj := { cls := .type "tuple", data := .seq vs.toArray }
section
variable {g h h' : Heap} {k r : PF} {L : Addr} {μ : List (Addr × Obj)} {m : Str → Option Value}
/-- a turn of the object at the list's head, told by what it leaves -/
theorem St.change {a : Addr} {o o' : Obj} (S : St g k r L ((a, o) :: μ) h m) (hs : Heap.SameBut a h h') (e : h'.get? a = some o') : St g k r L ((a, o') :: μ) h' m where
  ns := let ⟨a1, a2, a3, e, a4⟩ := S.ns; ⟨a1, a2, a3, (hs.2 _ (Ne.symm (S.mu _ (.head _)).2.1)).trans e, a4⟩
  gk := S.gk
  kk := fun b o e => (hs.2 b fun q => by have := (S.mu _ (.head _)).2.2.1; rw [q] at e; rw [e] at this; cases this).trans (S.kk b o e)
  rr := fun b o e => (hs.2 b fun q => by have := (S.mu _ (.head _)).2.2.2; rw [q] at e; rw [e] at this; cases this).trans (S.rr b o e)
  kL := S.kL
  rL := S.rL
  rk := S.rk
  mu := by
    intro p hp
    rcases List.mem_cons.mp hp with rfl | hp
    · exact ⟨e, (S.mu _ (.head _)).2⟩
    · have x := S.mu p (.tail _ hp)
      refine ⟨(hs.2 p.1 fun q => ?_).trans x.1, x.2⟩
      have := S.nd
      rw [List.map_cons, List.nodup_cons] at this
      exact this.1 (List.mem_map.mpr ⟨p, hp, q⟩)
  nd := S.nd
theorem St.add {a : Addr} {o : Obj} (S : St g k r L μ h m) (ha : h.get? a = some o) (hf : a ≠ L ∧ k a = none ∧ r a = none ∧ a ∉ μ.map (·.1)) : St g k r L ((a, o) :: μ) h m where
  ns := S.ns
  gk := S.gk
  kk := S.kk
  rr := S.rr
  kL := S.kL
  rL := S.rL
  rk := S.rk
  mu := by
    intro p hp
    rcases List.mem_cons.mp hp with rfl | hp
    · exact ⟨ha, hf.1, hf.2.1, hf.2.2.1⟩
    · exact S.mu p hp
  nd := by rw [List.map_cons, List.nodup_cons]; exact ⟨hf.2.2.2, S.nd⟩
end
section
variable {w : World} {A : Around} {E : Value → Shared → Prop} {env : Env} {g h : Heap} {k r : PF} {L : Addr} {μ : List (Addr × Obj)} {m : Str → Option Value} {gn : Array GenState} {d : Drawn} {tk : Nat} {os : OsState}
theorem gmApp {a : Addr} {vs : List Value} {n : Nat} {pl : Sem Bool} {Q : Value × List Value → Shared → Prop} (S : St g k r L ((a, lst vs n) :: μ) h m) (hq : Q (.builtin "list.append", [.ref a]) ⟨h, gn, d, tk, os⟩) :
    wpAny (model PR w) A (getMethod (.ref a) "append" pl) Q E ⟨h, gn, d, tk, os⟩ := Calls.getMethod_list_append (S.at (.head _)) rfl rfl hq
theorem appL {a : Addr} {vs : List Value} {x : Value} {n : Nat} {Q : Value → Shared → Prop} (S : St g k r L ((a, lst vs n) :: μ) h m) (hsz : vs.length ≤ sizeLine)
    (hq : ∀ h', St g k r L ((a, lst (vs ++ [x]) (n + 1)) :: μ) h' m → Q .none ⟨h', gn, d, tk, os⟩) :
    wpAny (model PR w) A (call (.builtin "list.append") [.ref a, x]) Q E ⟨h, gn, d, tk, os⟩ := by
  refine append_at (S.at (.head _)) (fun h' hs e => hq h' (S.change hs ?_)) (by simpa using hsz)
  rw [e]; simp [lst]
theorem xTry {body orelse : List Stmt} {h₀ : ExceptHandler} {hs : List ExceptHandler} {pos : Pos} {rest : List Stmt} {s : Shared} {Q : Flow → Shared → Prop}
    (h : wpAny (model PR w) A (execs body env) (fun f s₁ => match f with
        | .next => wpAny (model PR w) A (execs orelse env) (fun f s' => match f with | .next => wpAny (model PR w) A (execs rest env) Q E s' | f => Q f s') E s₁
        | f => Q f s₁)
      (fun e s₁ => wpAny (model PR w) A (noteFrame e env) (fun _ s₂ => wpAny (model PR w) A (setFlight e none) (fun _ s₃ => wpAny (model PR w) A (handleBy e env (h₀ :: hs)) (fun f s' => match f with | .next => wpAny (model PR w) A (execs rest env) Q E s' | f => Q f s') E s₃) E s₂) E s₁) s) :
    wpAny (model PR w) A (execs (.Try body (h₀ :: hs) orelse [] pos :: rest) env) Q E s := by
  refine wpAny_execs_cons (wpAny_Try_except (wpAny_mono h (fun f s₁ hf => ?_) fun _ _ x => x))
  cases f <;> exact hf
end
/-- the list of signs: a list of pairs, told by what was made -/
noncomputable def Pair (r : PF) (v : Value) (i : Nat × Bool) : Prop := ∃ b t, v = .ref b ∧ r b = some (tup [.int (i.1 : Int) t, .bool i.2])
noncomputable def Pairs2 (r : PF) : List Value → List (Nat × Bool) → Prop
  | [], [] => True
  | v :: vs, i :: is => Pair r v i ∧ Pairs2 r vs is
  | _, _ => False
theorem Pair.keep {r r' : PF} (k : ∀ b o, r b = some o → r' b = some o) {v i} (p : Pair r v i) : Pair r' v i :=
  let ⟨b, t, e, q⟩ := p; ⟨b, t, e, k _ _ q⟩
theorem Pairs2.keep {r r' : PF} (k : ∀ b o, r b = some o → r' b = some o) : ∀ {vs is}, Pairs2 r vs is → Pairs2 r' vs is
  | [], [], _ => trivial
  | _ :: _, _ :: _, ⟨a, b⟩ => ⟨a.keep k, b.keep k⟩
theorem Pairs2.snoc {r : PF} {v i} : ∀ {vs is}, Pairs2 r vs is → Pair r v i → Pairs2 r (vs ++ [v]) (is ++ [i])
  | [], [], _, p => ⟨p, trivial⟩
  | _ :: _, _ :: _, ⟨a, b⟩, p => ⟨a, b.snoc p⟩
theorem Pairs2.len {r : PF} : ∀ {vs is}, Pairs2 r vs is → vs.length = is.length
  | [], [], _ => rfl
  | _ :: _, _ :: _, ⟨_, b⟩ => congrArg (· + 1) b.len
theorem Pairs2.get {r : PF} {i : Nat × Bool} : ∀ {n : Nat} {vs is}, Pairs2 r vs is → is[n]? = some i → ∃ v, vs[n]? = some v ∧ Pair r v i
  | _, [], [], _, e => by simp at e
  | 0, v :: _, j :: _, p, e => by simp at e; subst e; exact ⟨v, by simp, p.1⟩
  | n + 1, _ :: vs, _ :: is, p, e => by
    simp at e ⊢
    exact Pairs2.get p.2 e
theorem int_at {m : Str → Option Value} {y : Str} {i j : Int} {t : Tok} (e : m y = some (.int i t)) (h : i = j) : m y = some (.int j t) := h ▸ e
noncomputable def IntAt (m : Str → Option Value) (y : Str) (i : Int) : Prop := ∃ t, m y = some (.int i t)
/-- one sign of a text: its letters, its code, whether a bar guards it -/
inductive Item : List Nat → Nat → Bool → Prop
  | plain (c : Nat) (hc : c ≠ 92) (hb : c < 512) : Item [c] c false
  | esc {p : List Nat} {c : Nat} (h : Esc p c) : Item p c true
theorem Item.lt {p c b} (h : Item p c b) : c < 512 := by
  cases h with
  | plain _ _ hb => exact hb
  | esc h => exact h.lt
theorem Item.len {p c b} (h : Item p c b) : 0 < p.length ∧ p.length < 24 := by
  cases h with
  | plain _ _ hb => exact ⟨Nat.zero_lt_one, by simp⟩
  | esc h => obtain ⟨_, q, rfl, hq⟩ := h.head; exact ⟨by simp, by simp; omega⟩
end

-- L4
section
open PySem PySem.W PyProof.Rows PySem.Calls PySem.Builtin PySem.Spec PySem.SeqAt
noncomputable abbrev rngO (a b : Int) (t u v : Tok) : Obj := { cls := .type "range", data := .fields #[.int a t, .int b u, .int 1 v] }
noncomputable abbrev ritO (x left : Int) : Obj := { cls := .type "range_iterator", data := .fields #[rawInt x, rawInt left, rawInt 1] }
theorem isList_of {h : Heap} {a : Addr} {vs : List Value} {n : Nat} (e : h.get? a = some (lst vs n)) : h.IsList a vs.toArray := ⟨_, e, rfl, n, rfl⟩
section
variable {w : World} {A : Around} {E : Value → Shared → Prop} {env : Env} {g h : Heap} {k r : PF} {L : Addr} {μ : List (Addr × Obj)} {m : Str → Option Value} {gn : Array GenState} {d : Drawn} {tk : Nat} {os : OsState}
theorem lenL {a : Addr} {vs : List Value} {n : Nat} {Q : Value → Shared → Prop} (e : h.get? a = some (lst vs n)) (hb : vs.length < 2 ^ 40) (hq : Q (.int vs.length (tk + 1)) ⟨h, gn, d, tk + 1 + 1, os⟩) :
    wpAny (model PR w) A (call (.builtin "len") [.ref a]) Q E ⟨h, gn, d, tk, os⟩ := by
  refine PyProof.Rows.len_list (isList_of e) (by simp; omega) ?_
  simpa using hq
theorem itemL {value slice : Expr} {a : Addr} {vs : List Value} {n i : Nat} {k : Int} {u : Tok} {x : Value} {s : Shared} {Q : Value → Shared → Prop} (e : s.heap.get? a = some (lst vs n)) (hk : k = (i : Int)) (hx : vs[i]? = some x) (hb : vs.length < 2 ^ 40) (hq : Q x s)
    (hs : subscripted slice false (.ref a) (.int k u) = operate [.ref a, .int k u] (getItem (.ref a) (.int k u))) :
    wpAny (model PR w) A (subscriptTail value slice (.ref a) (.int k u)) Q E s := by
  subst hk
  have := (List.getElem?_eq_some_iff.mp hx).1
  exact item_listR (isList_of e) (by omega) (by omega) (by simpa using hx) hq hs
theorem itemT {value slice : Expr} {a : Addr} {vs : List Value} {i : Nat} {k : Int} {u : Tok} {x : Value} {s : Shared} {Q : Value → Shared → Prop} (e : s.heap.get? a = some (tup vs)) (hk : k = (i : Int)) (hx : vs[i]? = some x) (hb : vs.length < 2 ^ 40) (hq : Q x s)
    (hs : subscripted slice false (.ref a) (.int k u) = operate [.ref a, .int k u] (getItem (.ref a) (.int k u))) :
    wpAny (model PR w) A (subscriptTail value slice (.ref a) (.int k u)) Q E s := by
  subst hk
  have := (List.getElem?_eq_some_iff.mp hx).1
  refine item_tupleT (isTup_of e) (by omega) (by omega) (j := i) ?_ hx hq hs
  simp [seqIndex?]; omega
theorem rng2 {a b : Int} {t u : Tok} {Q : Value → Shared → Prop} (S : St g k r L μ h m) (hq : ∀ x h' v, St g k r L ((x, rngO a b t u v) :: μ) h' m → Q (.ref x) ⟨h', gn, d, tk + 1, os⟩) :
    wpAny (model PR w) A (call (.type "range") [.int a t, .int b u]) Q E ⟨h, gn, d, tk, os⟩ := by
  refine call_range_2 (hq _ _ _ (S.push _))
theorem rng1 {b : Int} {u : Tok} {Q : Value → Shared → Prop} (S : St g k r L μ h m) (hq : ∀ x h' t v, St g k r L ((x, rngO 0 b t u v) :: μ) h' m → Q (.ref x) ⟨h', gn, d, tk + 1 + 1, os⟩) :
    wpAny (model PR w) A (call (.type "range") [.int b u]) Q E ⟨h, gn, d, tk, os⟩ := by
  refine call_range_1 (hq _ _ _ _ (S.push _))
theorem iterR {x : Addr} {a b : Int} {n : Nat} {t u v : Tok} {Q : Value → Shared → Prop} (S : St g k r L ((x, rngO a b t u v) :: μ) h m) (hn : (n : Int) = if a < b then b - a else 0) (ha : -1000000 ≤ a) (ha' : a ≤ 1000000) (hb : -1000000 ≤ b) (hb' : b ≤ 1000000)
    (hq : ∀ it h', St g k r L ((it, ritO a n) :: μ) h' m → Q (.ref it) ⟨h', gn, d, tk, os⟩) :
    wpAny (model PR w) A (pyIter (.ref x)) Q E ⟨h, gn, d, tk, os⟩ := by
  refine wpAny_pyIter_range (S.at (.head _)) (small_one (by omega) (by omega) (by omega) (by omega)) ?_
  have := S.drop.push (ritO a n)
  refine hq _ _ ?_
  have e : Builtin.Range.rangeSize a b 1 = (n : Int) := by rw [rangeSize_one, hn]
  show St g k r L _ (h.push { cls := .type "range_iterator", data := .fields #[rawInt a, rawInt (Builtin.Range.rangeSize a b 1), rawInt 1] }) m
  rw [e]
  exact this
theorem nextR {it : Addr} {x left : Int} {Q : Option Value → Shared → Prop} (S : St g k r L ((it, ritO x left) :: μ) h m) (hl : 0 < left)
    (hq : ∀ h', St g k r L ((it, ritO (x + 1) (left - 1)) :: μ) h' m → Q (some (.int x tk)) ⟨h', gn, d, tk + 1, os⟩) :
    wpAny (model PR w) A (pyNext (.ref it)) Q E ⟨h, gn, d, tk, os⟩ :=
  wpAny_pyNext_range_item (S.at (.head _)) hl fun h' hit hs => hq h' (S.change hs hit)
theorem St.ext {it : Addr} {o : Obj} {h' : Heap} (S : St g k r L ((it, o) :: μ) h m) (hx : Heap.ExtBut it h h') : St g k r L μ h' m where
  ns := let ⟨a1, a2, a3, e, a4⟩ := S.ns; ⟨a1, a2, a3, hx _ _ (Ne.symm (S.mu _ (.head _)).2.1) e, a4⟩
  gk := S.gk
  kk := fun b o q => hx b o (fun z => by have := (S.mu _ (.head _)).2.2.1; rw [z] at q; rw [q] at this; cases this) (S.kk b o q)
  rr := fun b o q => hx b o (fun z => by have := (S.mu _ (.head _)).2.2.2; rw [z] at q; rw [q] at this; cases this) (S.rr b o q)
  kL := S.kL
  rL := S.rL
  rk := S.rk
  mu := fun p hp => by
    have x := S.mu p (.tail _ hp)
    refine ⟨hx _ _ (fun z => ?_) x.1, x.2⟩
    have := S.nd
    rw [List.map_cons, List.nodup_cons] at this
    exact this.1 (List.mem_map.mpr ⟨p, hp, z⟩)
  nd := S.drop.nd
theorem endR {it : Addr} {x left : Int} {Q : Option Value → Shared → Prop} (S : St g k r L ((it, ritO x left) :: μ) h m) (hh : A.handled = none) (hl : left ≤ 0)
    (hq : ∀ h', St g k r L μ h' m → Q none ⟨h', gn, d, tk, os⟩) :
    wpAny (model PR w) A (pyNext (.ref it)) Q E ⟨h, gn, d, tk, os⟩ :=
  wpAny_pyNext_range_end hh (S.at (.head _)) hl fun h' hx => hq h' (S.ext hx)
theorem xFor {target iter : Expr} {body : List Stmt} {pos : Pos} {rest : List Stmt} {s : Shared} {Q : Flow → Shared → Prop}
    (hq : wpAny (model PR w) A (eval iter env) (fun x s₁ => wpAny (model PR w) A (pyIter x) (fun it s₂ =>
      codeAny (model PR w) A (.forLoop target it body [] env) (fun r s' => match r with | .ok .next => wpAny (model PR w) A (execs rest env) Q E s' | .ok f => Q f s' | .error e => cameBackBy (model PR w) A env E e s') s₂) E s₁) E s)
    (hs : ∀ x, foldedSetIterable iter env x = pure x) :
    wpAny (model PR w) A (execs (.For target iter body [] pos :: rest) env) Q E s := by
  refine wpAny_execs_cons (wpAny_For (wpAny_mono hq (fun x s₁ h₁ => wpAny_mono h₁ (fun it s₂ h₂ => codeAny_mono h₂ fun r s' hr => ?_) fun _ _ e => e) fun _ _ e => e) hs)
  cases r with
  | error e => exact hr
  | ok f => cases f <;> exact hr
/-- a for, by what holds between the turns -/
theorem for_ {target : Expr} {it : Value} {body : List Stmt} {rest : List Stmt} {s : Shared} {Q : Flow → Shared → Prop} (I : Nat → Shared → Prop)
    (turn : ∀ n s (Qb : Flow → Shared → Prop) (Eb : Value → Shared → Prop), I n s → (∀ s' m, m < n → I m s' → Qb .next s') → (∀ s' m, m < n → I m s' → Qb .cont s') →
      (∀ s', wpAny (model PR w) A (execs rest env) Q E s' → Qb .brk s') → (∀ v s', Q (.ret v) s' → Qb (.ret v) s') →
      (∀ e s', notedBy (model PR w) A env (fun e s' => cameBackBy (model PR w) A env E e s') e s' → Eb e s') →
      wpAny (model PR w) A (pyNext it) (fun r s₁ => match r with
        | none => wpAny (model PR w) A (execs rest env) Q E s₁
        | some v => wpAny (model PR w) A (assign target env v) (fun _ s₂ => wpAny (model PR w) A (execs body env) Qb Eb s₂) Eb s₁) Eb s)
    (n : Nat) (hI : I n s) (ht : ∀ v, letOwnedTupleGo target it v = pure ()) :
    codeAny (model PR w) A (.forLoop target it body [] env) (fun r s' => match r with | .ok .next => wpAny (model PR w) A (execs rest env) Q E s' | .ok f => Q f s' | .error e => cameBackBy (model PR w) A env E e s') s := by
  refine codeAny_forLoop I (fun n s hI => ?_) n hI ht
  have Tn := turn n s (fun f s₃ => match f with
      | .next | .cont => ∃ m, m < n ∧ I m s₃
      | .brk => wpAny (model PR w) A (execs rest env) Q E s₃
      | .ret v => Q (.ret v) s₃) (notedBy (model PR w) A env fun e s' => cameBackBy (model PR w) A env E e s') hI (fun s' m hm hI' => ⟨m, hm, hI'⟩) (fun s' m hm hI' => ⟨m, hm, hI'⟩) (fun s' hs' => hs') (fun v s' hs' => hs') (fun e s' he => he)
  refine wpAny_mono Tn (fun r s₁ hr => ?_) (fun _ _ he => he)
  cases r with
  | none => exact wpAny_execs_nil hr
  | some v =>
    refine wpAny_mono hr (fun _ s₂ h2 => wpAny_mono h2 (fun f s₃ hf => ?_) fun _ _ e => e) fun _ _ e => e
    cases f <;> exact hf
end
end

-- T5
section
open PySem PySem.W PyProof.Rows PySem.Calls
set_option maxHeartbeats 4000000 in
theorem guarded_ok {w : World} {A : Around} {s : Shared} {R : Result → Shared → Prop} {mg mb : Str → Option Value} {g : Heap} (G : Gl w mg mb g) (hg : ∀ b o, g.get? b = some o → s.heap.get? b = some o) (hroom : A.depth + 4 < recursionLimit) (hh : A.handled = none)
    (x : Str) (pre p rest : List Nat) (c : Nat) (at_ : Int) (t1 t2 : Tok) (hEsc : Esc p c) (hx : x = tx (pre ++ p ++ rest)) (hlx : (pre ++ p ++ rest).length < 10000000) (hat : at_ = (pre.length : Int))
    (hR : ∀ h' tk a t u, Sub (kOf s.heap []) h' → h'.get? a = some { cls := .type "tuple", data := .seq #[.str (tx [c]) t, .int ((pre.length + p.length : Nat) : Int) u] } → R (.ok (.ret (.ref a))) { s with heap := h', toks := tk }) :
    codeAny (model PR w) A (.call (.ref 136) ⟨[.str x t1, .int at_ t2], []⟩) R s := by
  have hroom' : A.depth < recursionLimit := by omega
  refine' enter_ (binds := [(Str.ofString "text", .str x t1), (Str.ofString "at", .int at_ t2)]) [] G hg (fun _ hp => nomatch hp) .nil ?ho ?hcd hroom' ?hbind ?hloc ?h ?c1 ?c2 ?c3 ?c4
  walk_at "mSides"
  refine xTry ?_
  repeat walk_at "m"
  refine call_ fun R' hr' _ => escape_ok (A := A.deeper env) (s := ⟨_, _, _, _, _⟩) G S.gg (by show A.depth + 1 + 3 < _; omega) hh _ pre p rest c _ _ _ hEsc hx hlx hat (fun h2 tk2 a2 u2 v2 hs2 hget2 => hr' _ _ ?_)
  replace S := S.grow hs2.stays
  exact hQ _ _ (hR _ _ a2 u2 v2 (fun b o e => S.kk b o (hk ▸ e)) hget2)

set_option maxHeartbeats 4000000 in
theorem signs_ok {w : World} {A : Around} {s : Shared} {R : Result → Shared → Prop} {mg mb : Str → Option Value} {g : Heap} (G : Gl w mg mb g) (hg : ∀ b o, g.get? b = some o → s.heap.get? b = some o) (hroom : A.depth + 5 < recursionLimit) (hh : A.handled = none)
    (x : Str) (its : List (List Nat × Nat × Bool)) (t1 : Tok) (hits : ∀ i ∈ its, Item i.1 i.2.1 i.2.2) (hx : x = tx (its.flatMap (·.1))) (hlx : (its.flatMap (·.1)).length < 10000000) (hln : its.length < 1000)
    (hR : ∀ h' tk a (r' : PF) vs n, Sub (kOf s.heap []) h' → Sub r' h' → (∀ b o, r' b = some o → s.heap.get? b = none) → r' a = some (lst vs n) → Pairs2 r' vs (its.map (·.2)) → R (.ok (.ret (.ref a))) { s with heap := h', toks := tk }) :
    codeAny (model PR w) A (.call (.ref 143) ⟨[.str x t1], []⟩) R s := by
  have hroom' : A.depth < recursionLimit := by omega
  refine' enter_ (binds := [(Str.ofString "text", .str x t1)]) [] G hg (fun _ hp => nomatch hp) .nil ?ho ?hcd hroom' ?hbind ?hloc ?h ?c1 ?c2 ?c3 ?c4
  walk_at "mSides"
  repeat walk_at "m"
  refine newList_ S (fun fa h' S => ?_) (Nat.le_of_ble_eq_true rfl)
  repeat walk_at "m"
  refine while_ (fun q s' => ∃ h tk m r dn todo vs n, s' = ⟨h, s.gens, s.drawn, tk, s.os⟩ ∧ St g k r L [(fa, lst vs n)] h m ∧ m (Str.ofString "text") = some (.str x t1) ∧ m (Str.ofString "found") = some (.ref fa) ∧ IntAt m (Str.ofString "at") ((dn.flatMap (·.1)).length : Nat) ∧
      dn ++ todo = its ∧ Pairs2 r vs (dn.map (·.2)) ∧ q = todo.length) ?turn its.length ?start
  case start =>
    refine' ⟨_, _, _, _, [], its, [], _, rfl, S, ?_, ?_, ⟨_, upd_same⟩, rfl, trivial, rfl⟩
    · walk_at "mLook"
    · walk_at "mLook"
  case turn =>
  clear S
  intro q s1 Qb Eb ⟨h, tk, m, r, dn, todo, vs, n, hs, S, m1, m2, ⟨t, m3⟩, hdt, hpr, hq⟩ hnext hcont hbrk hret hEb
  subst hs
  have hl2 : 2 ^ 40 = 1099511627776 := by decide
  repeat walk_at "m"
  refine lenS hx (by omega) ?_
  repeat walk_at "m"
  have hlen := congrArg (fun l : List (List Nat × Nat × Bool) => (l.flatMap (·.1)).length) hdt
  simp only [List.flatMap_append, List.length_append] at hlen
  match todo, hdt, hlen with
  | [], hdt, hlen =>
    refine ite_f (decide_eq_false (by simp only [List.flatMap_nil, List.length_nil, Nat.add_zero] at hlen; omega)) ?_
    repeat walk_at "m"
    rw [List.append_nil] at hdt
    obtain ⟨r2, hr2, hfa, S⟩ := S.freeze
    have hkk : k = s.heap.get? := by rw [hk]; exact kOf_nil _
    exact hQ _ _ (hR _ _ _ r2 vs n (fun b o e => S.kk b o (hk ▸ e)) S.rr (fun b o e => by have := S.rk b o e; rw [hkk] at this; exact this) hfa (hdt ▸ hpr.keep hr2))
  | (p, c, b) :: todo, hdt, hlen =>
    have hit : Item p c b := hits (p, c, b) (by rw [← hdt]; simp)
    have hp := hit.len
    simp only [List.flatMap_cons, List.length_append] at hlen
    have htx : its.flatMap (·.1) = dn.flatMap (·.1) ++ p ++ todo.flatMap (·.1) := by rw [← hdt]; simp
    have hvl := hpr.len
    simp only [List.length_map] at hvl
    have hdl : dn.length < 1000 := by have := congrArg List.length hdt; simp at this; omega
    refine ite_t (decide_eq_true (by omega)) ?_
    repeat walk_at "m"
    cases hit with
    | plain c hc hb =>
      refine itemM (dn.flatMap (·.1)) (todo.flatMap (·.1)) (c := c) (by rw [hx, htx]; simp) rfl (by rw [htx] at hlx; simp at hlx ⊢; omega) ?_ ?hs ?ht
      walk_at "mHT"
      repeat walk_at "m"
      refine ite_f (decide_eq_false (fun e => hc (by injection e))) ?_
      repeat walk_at "m"
      refine gmApp S ?_
      repeat walk_at "m"
      refine itemM (dn.flatMap (·.1)) (todo.flatMap (·.1)) (c := c) (by rw [hx, htx]; simp) rfl (by rw [htx] at hlx; simp at hlx ⊢; omega) ?_ ?hs ?ht
      walk_at "mHT"
      repeat walk_at "m"
      refine ordS rfl ?_
      repeat walk_at "m"
      refine newTuple_ S (fun a h' S => ?_) (Nat.le_of_ble_eq_true rfl)
      obtain ⟨r2, hr2, hfa, S⟩ := S.freeze
      repeat walk_at "m"
      refine appL S (by rw [hvl, sizeLine_eq]; omega) fun h' S => ?_
      repeat walk_at "m"
      refine' hnext _ todo.length (by rw [hq]; exact Nat.lt_succ_self _) ⟨_, _, _, _, dn ++ [([c], c, false)], todo, _, _, rfl, S, ?_, ?_, ?_, ?_, ?_, rfl⟩
      · walk_at "mLook"
      · walk_at "mLook"
      · refine ⟨_, int_at upd_same ?_⟩
        rw [List.flatMap_append, List.length_append]; rfl
      · rw [List.append_assoc]; exact hdt
      · rw [List.map_append]; exact (hpr.keep hr2).snoc ⟨_, _, rfl, hfa⟩
    | esc h =>
      obtain ⟨c1, q, hpq, hq20⟩ := h.head
      refine itemM (dn.flatMap (·.1)) (c1 :: q ++ todo.flatMap (·.1)) (c := 92) (by rw [hx, htx, hpq]; simp) rfl (by rw [htx, hpq] at hlx; simp at hlx ⊢; omega) ?_ ?hs ?ht
      walk_at "mHT"
      repeat walk_at "m"
      refine lenS hx (by omega) ?_
      repeat walk_at "m"
      refine ite_t (decide_eq_true (by rw [htx, hpq]; simp; omega)) ?_
      repeat walk_at "m"
      refine call_ fun R' hr' _ => guarded_ok (A := A.deeper env) (s := ⟨_, _, _, _, _⟩) G S.gg (by show A.depth + 1 + 4 < _; omega) hh _ (dn.flatMap (·.1)) p (todo.flatMap (·.1)) c _ _ _ h (by rw [hx, htx]) (by rw [htx] at hlx; exact hlx) rfl (fun h2 tk2 a2 u2 v2 hs2 hget2 => hr' _ _ ?_)
      replace S := S.grow hs2.stays
      dsimp only
      refine assignTup S hh hget2 rfl rfl (fun h3 S => ?_)
      repeat walk_at "m"
      refine gmApp S ?_
      repeat walk_at "m"
      refine ordS rfl ?_
      repeat walk_at "m"
      refine newTuple_ S (fun a h' S => ?_) (Nat.le_of_ble_eq_true rfl)
      obtain ⟨r2, hr2, hfa, S⟩ := S.freeze
      repeat walk_at "m"
      refine appL S (by rw [hvl, sizeLine_eq]; omega) fun h' S => ?_
      repeat walk_at "m"
      refine' hnext _ todo.length (by rw [hq]; exact Nat.lt_succ_self _) ⟨_, _, _, _, dn ++ [(p, c, true)], todo, _, _, rfl, S, ?_, ?_, ?_, ?_, ?_, rfl⟩
      · walk_at "mLook"
      · walk_at "mLook"
      · refine ⟨_, int_at upd_same ?_⟩
        rw [List.flatMap_append, List.length_append]; simp
      · rw [List.append_assoc]; exact hdt
      · rw [List.map_append]; exact (hpr.keep hr2).snoc ⟨_, _, rfl, hfa⟩
end

-- E1
section
open PySem PySem.W PyProof.Rows PySem.Calls PySem.Builtin
noncomputable abbrev bmE : List Value := [.ref 31, .type "Exception", .type "BaseException", .type "object"]
noncomputable abbrev excO (nm q : Str) (C N : Addr) (k0 k2 k3 k5 : Option Value) : Obj := excClassObj nm q C N [.ref 31] bmE true [] [] false none none k0 none k2 k3 k5 "Exception.__new__"
noncomputable abbrev eObj (C : Addr) (dct : Option Addr) (t : Addr) (tb cx : Value) : Obj := { cls := .ref C, dict := dct, data := .fields #[.ref t, tb, cx, .none, .bool false, .none] }
section
variable {prog : Program} {w : World} {A : Around} {E : Value → Shared → Prop} {R : Result → Shared → Prop} {h : Heap} {g : Array GenState} {d : Drawn} {t : Nat} {os : OsState} {nm q : Str} {C N : Addr} {k0 k2 k3 k5 : Option Value}
theorem exc_new {rest : List Value} (hC : h.get? C = some (excO nm q C N k0 k2 k3 k5))
    (hq : R (.ok (.ret (.ref (h.objs.size + 1)))) ⟨(h.push (tup rest)).push (eObj C none h.objs.size .none .none), g, d, t, os⟩) (hrest : rest.length ≤ sizeLine) :
    codeAny (model prog w) A (.call (.builtin "Exception.__new__") ⟨.ref C :: rest, []⟩) R ⟨h, g, d, t, os⟩ := by
  have F := PySem.F.excBase_Exception
  have hcB : (Value.ref C :: bmE).contains (.type "Exception") = true := by rw [List.contains_cons]; rfl
  have hcA : (Value.ref C :: bmE).contains (.type "AttributeError") = false := by rw [List.contains_cons]; rfl
  have hcN : (Value.ref C :: bmE).contains (.type "NameError") = false := by rw [List.contains_cons]; rfl
  refine codeAny_call_builtin_code (Code.quiet_builtin _ F.quiet) ?_
  have hstar := F.noStar
  simp only [checkBuiltinCall, F.newKind, F.newSplit, F.newRow]
  repeat (first | refine wpAny_loadPart_at hC ?_ | (refine wpAny_isSubtype_exc hC ?_; rw [hcB]) | refine wpAny_staticBase_exc hC ?_ | refine wpAny_madeBy_exc hC ?_ | simp only [bne_self_eq_false, Bool.false_eq_true, if_false] | wp_step)
  have hends := F.ends
  refine codeAny_builtinAt F.entry ?_
  unfold Builtin.«BaseException.__new__»
  refine PySem.wpAt_bind ?_
  show PySem.wpAt _ _ _ (stack >>= _) _ _ _
  refine PySem.wpAt_bind (PySem.wpAt_stack fun p below => PySem.wpAt_of_wpAny ?_)
  wp_walk
  refine PySem.wpAt_of_wpAny ?_
  rw [F.owner]
  repeat (first | with_reducible refine wpAny_madeHere_exc F.canon hC ?_ | with_reducible refine wpAny_loadPart_at hC ?_ | (with_reducible refine wpAny_isSubtype_exc hC ?_; first | rw [hcB] | rw [hcA] | rw [hcN]) | wp_step)
  show R _ _
  rw [Heap.size_push]
  exact hq
end
structure Own (K : Frag) (C fI : Addr) : Prop where
  obj : ∃ nm q N k0 k2 k3 k5, K.lookup C = some (excO nm q C N k0 k2 k3 k5)
  init : findIn K (.ref C) "__init__" = some (some (.ref fI))
  fn : typeIn K (.ref fI) = some (.type "function")
  call : specialIn K (.ref C) "__call__" = some (some (.builtin "type.__call__"))
  typ : instIn K (.ref C) (.type "type") = some true
  self : mroIn K C (.ref C) = some true
  top : mroIn K C (.type "object") = some true
  exc : mroIn K C (.type "Exception") = some true
  base : mroIn K C (.type "BaseException") = some true
  setA : findIn K (.ref C) "__setattr__" = some (some (.builtin "object.__setattr__"))
  getA : findIn K (.ref C) "__getattribute__" = some (some (.builtin "BaseException.__getattribute__"))
  cls : (clsIn K C).any (fun cd => cd.mro == .ref C :: bmE && cd.hasDict) = true
theorem own51 (w : World) : Own (hd.heap_1 w.params) 51 48 where
  obj := ⟨Str.ofString "Die", Str.ofString "Die", 50, some (.ref 35), some (.str (Str.ofString "Die") 218), some (.str (Str.ofString "Die") 226), some (.bool true), by k_is⟩
  init := by k_is
  fn := by k_is
  call := by k_is
  typ := by k_is
  self := by k_is
  top := by k_is
  exc := by k_is
  base := by k_is
  setA := by k_is
  getA := by k_is
  cls := by rfl
theorem own70 (w : World) : Own (hd.heap_1 w.params) 70 67 where
  obj := ⟨Str.ofString "SyntaxDie", Str.ofString "SyntaxDie", 69, some (.ref 54), some (.str (Str.ofString "SyntaxDie") 243), some (.str (Str.ofString "SyntaxDie") 251), some (.bool true), by k_is⟩
  init := by k_is
  fn := by k_is
  call := by k_is
  typ := by k_is
  self := by k_is
  top := by k_is
  exc := by k_is
  base := by k_is
  setA := by k_is
  getA := by k_is
  cls := by rfl
section
variable {prog : Program} {w : World} {A : Around} {E : Value → Shared → Prop} {R : Result → Shared → Prop} {h : Heap} {g : Array GenState} {d : Drawn} {t : Nat} {os : OsState} {C fI : Addr} {K : Frag}
theorem exc_make {rest : List Value} (O : Own K C fI) (X : K.In h) (hrest : rest.length ≤ sizeLine)
    (hq : codeAny (model prog w) (A.under (.builtin "type.__call__" ⟨.ref C :: rest, []⟩)) (.call (.ref fI) ⟨.ref (h.objs.size + 1) :: rest, []⟩) (InitBack (h.objs.size + 1) R) ⟨(h.push (tup rest)).push (eObj C none h.objs.size .none .none), g, d, t, os⟩) :
    codeAny (model prog w) A (.call (.ref C) ⟨rest, []⟩) R ⟨h, g, d, t, os⟩ := by
  obtain ⟨nm, q, N, k0, k2, k3, k5, ho⟩ := O.obj
  have hC := X _ _ ho
  have call := looks_specialIn (M := model prog w) X O.call
  have typ := looks_instIn (M := model prog w) X O.typ
  have self := looks_mroIn (M := model prog w) X O.self
  have hi := looks_findIn (M := model prog w) X O.init
  refine codeAny_of_tree ?_
  show wpAny _ _ (callAny (.ref C) _) _ _ _
  refine nd_load hC ?_
  show wpAny _ _ (callAny.viaDunder (.ref C) _) _ _ _
  unfold callAny.viaDunder
  refine wpAny_bind (call.at ?_)
  dsimp only
  rw [tc_bind]
  refine wpAny_bind (wpAny_pure (wpAny_bind (wpAny_pure ?_)))
  refine wpAny_pure (a := Fin.again (.call (.builtin "type.__call__") ⟨.ref C :: rest, []⟩)) (And.intro rfl ?_)
  refine codeAny_call_builtin_at (Code.quiet_builtin _ (by decide +kernel)) entry_typeCall (check_slot tc_kind tc_split typ (tc_args _ _ _) ?_)
  unfold Builtin.«type.__call__»
  have hm : Looks (model prog w) h (mroOf (.ref C)) (.ref C :: bmE) := ((Looks.ld (part := none) hC).andThen .now).andThen .now
  repeat (first | simp only [Bool.false_eq_true, if_false] | with_reducible refine wpAny_call ?_ | lk)
  refine exc_new hC ?_ hrest
  have k : ∀ b o, h.get? b = some o → ((h.push (tup rest)).push (eObj C none h.objs.size .none .none)).get? b = some o := fun b o e => Heap.get?_push_of_some _ (Heap.get?_push_of_some _ e)
  have hx : ((h.push (tup rest)).push (eObj C none h.objs.size .none .none)).get? (h.objs.size + 1) = some (eObj C none h.objs.size .none .none) := by heap_get
  have t1 : Looks (model prog w) ((h.push (tup rest)).push (eObj C none h.objs.size .none .none)) (typeOf (.ref (h.objs.size + 1))) (.ref C) := (Looks.ld hx).andThen .now
  have s1 := self.keeps k
  have i1 := hi.keeps k
  have b1 := (bind_fn (M := model prog w) X (.ref (h.objs.size + 1)) O.fn).keeps k
  unfold isInstance callSpecial? specialOf
  repeat (first | with_reducible refine wpAny_call ?_ | lk)
  refine codeAny_mono hq fun r s' z => ?_
  rcases r with e | (v | _ | _ | _) <;> first | exact z | exact z.elim | skip
  obtain ⟨rfl, z⟩ := z
  exact wpAny_pure (wpAny_pure z)
end
end

-- E2
section
open PySem PySem.W PyProof.Rows PySem.Calls PySem.Builtin PySem.Builtin.ObjectAttr
noncomputable def DO (od : Obj) (mA : Str → Option Value) : Prop := ∃ es ep, od.data = .dict es ep ∧ StrKeys es ∧ UniqKeys es ∧ ∀ name, nsFind es name = mA name
theorem DO.ns {od : Obj} {mA : Str → Option Value} {h : Heap} {dx : Addr} (D : DO od mA) (e : h.get? dx = some od) : h.Ns1 dx mA := let ⟨es, ep, r⟩ := D; ⟨od, es, ep, e, r⟩
theorem DO.of {mA : Str → Option Value} {h : Heap} {dx : Addr} (n : h.Ns1 dx mA) : ∃ od, h.get? dx = some od ∧ DO od mA := let ⟨od, es, ep, e, r⟩ := n; ⟨od, e, es, ep, r⟩
theorem DO.look {od : Obj} {mA : Str → Option Value} (D : DO od mA) (name : Str) : lookIn name od = some (mA name) := by
  obtain ⟨es, ep, e, hk, hu, hf⟩ := D
  unfold lookIn
  rw [e]
  dsimp only
  have := hf name
  unfold nsFind findBy at this
  rw [← Array.find?_toList] at this
  cases q : es.toList.find? (·.key.isStr name) with
  | some en => rw [q] at this; simp only [Option.map_some] at this; rw [← this]
  | none =>
    rw [q] at this; simp only [Option.map_none] at this
    rw [← this]
    have hany : es.toList.any (·.refKey) = false := by
      rw [List.any_eq_false]; intro x hx; obtain ⟨n, t, h⟩ := hk x (Array.mem_toList_iff.mp hx); simp [DictEntry.refKey, h]
    simp [hany]
section
variable {w : World} {A : Around} {E : Value → Shared → Prop} {g h : Heap} {k r : PF} {L : Addr} {μ : List (Addr × Obj)} {m : Str → Option Value} {gn : Array GenState} {d : Drawn} {tk : Nat} {os : OsState} {e C fI t0 : Addr} {dct : Option Addr} {tb cx : Value} {K : Frag}
theorem exc_init {v : Value} {Q : Value → Shared → Prop} (O : Own K C fI) (X : K.In h) (S : St g k r L ((e, eObj C dct t0 tb cx) :: μ) h m)
    (hq : ∀ h' t1, St g k r L ((e, eObj C dct t1 tb cx) :: μ) h' m → Q .none ⟨h', gn, d, tk, os⟩) :
    wpAny (model PR w) A (call (.builtin "Exception.__init__") [.ref e, v]) Q E ⟨h, gn, d, tk, os⟩ := by
  obtain ⟨nm, q, N, k0, k2, k3, k5, ho⟩ := O.obj
  have hC := X _ _ ho
  have F := PySem.F.excBase_Exception
  have he := S.at (.head _)
  have hcB : (Value.ref C :: bmE).contains (.type "Exception") = true := by rw [List.contains_cons]; rfl
  refine wpAny_call (codeAny_call_builtin F.init.plain F.initEntry ?_)
  have hshort := F.noStar
  simp only [checkBuiltinCall, F.initKind, F.initSplit, F.initRow]
  repeat (first | (with_reducible refine wpAny_loadPart_at he ?_) | with_reducible refine wpAny_loadPart_at hC ?_ | (with_reducible refine wpAny_isSubtype_exc hC ?_; rw [hcB]) | wp_step)
  refine hq _ h.objs.size ((S.push (tup [v])).drop.turn (f := Obj.mapFields fun x => x.setIfInBounds 0 (Value.ref h.objs.size)) rfl rfl)
theorem exc_osa {R : Result → Shared → Prop} {name : Str} {v : Value} {tk0 : Tok} (O : Own K C fI) (X : K.In h) (he : h.get? e = some (eObj C dct t0 tb cx)) (ht : takerIn K C name = some none)
    (hq : wpAny (model PR w) A.in1 (storeInOwnDict (.ref e) (.ref C) (.str name tk0) name v (findIn K (.ref C) name).join.isSome) (fun fin s' => match fin with | .done f => R (.ok f) s' | .again c' => c'.quiet = true ∧ codeAny (model PR w) A c' R s') (fun e s' => R (.error e) s') ⟨h, gn, d, tk, os⟩) :
    codeAny (model PR w) A (.call (.builtin "object.__setattr__") ⟨[.ref e, .str name tk0, v], []⟩) R ⟨h, gn, d, tk, os⟩ := by
  have SF := PySem.F.store_object
  have L0 : Looks (model PR w) h (typeOf (.ref e)) (.ref C) := (Looks.ld he).andThen .now
  have sub : Looks (model PR w) h (isInstance (.ref e) (.type "object")) true := L0.andThen (looks_mroIn X O.top)
  refine codeAny_call_builtin SF.slot.plain SF.entry (@check_slot (model PR w) _ _ ⟨h, gn, d, tk, os⟩ "object.__setattr__" "object" "__setattr__" (.ref e) [.str name tk0, v] [] _ SF.kind SF.split sub (SF.args (.ref e) (.str name tk0) v) ?_)
  obtain ⟨attr, ha, hr⟩ := Option.bind_eq_some_iff.mp ht
  obtain ⟨nm, q, N, k0, k2, k3, k5, ho⟩ := O.obj
  have hm : Looks (model PR w) h (mroOf (.ref C)) (.ref C :: bmE) := ((Looks.ld (part := none) (X _ _ ho)).andThen .now).andThen .now
  have L3 : Looks (model PR w) h (storeTaker? attr) none := by
    cases attr with
    | none => cases hr; exact .now
    | some a =>
      obtain ⟨b, hb, hr⟩ := Option.map_eq_some_iff.mp hr
      refine (looks_takesIn X hb).andThen ?_
      cases b
      · exact .now
      · cases hr
  rw [osa_eq, refuse_eq]
  refine wpAny_bind (wpAny_bind (L0.at (wpAny_bind (hm.at ?_))))
  rw [refuseLoop_ref, refuseLoop_ref, PySem.F.store_Exception.passes]
  refine wpAny_pure (wpAny_bind (L0.at (wpAny_bind ((looks_findIn X ha).at (wpAny_bind (L3.at ?_))))))
  rw [ha] at hq
  exact hq
theorem exc_set0 {name : Str} {v : Value} {Q : Unit → Shared → Prop} (O : Own K C fI) (X : K.In h) (ht : takerIn K C name = some none) (S : St g k r L ((e, eObj C none t0 tb cx) :: μ) h m)
    (hq : ∀ h' tk' dx od, DO od (upd (fun _ => none) name v) → St g k r L ((e, eObj C (some dx) t0 tb cx) :: (dx, od) :: μ) h' m → Q () ⟨h', gn, d, tk', os⟩) :
    wpAny (model PR w) A (setAttr (.ref e) name v) Q E ⟨h, gn, d, tk, os⟩ := by
  obtain ⟨nm, q, N, k0, k2, k3, k5, ho⟩ := O.obj
  have hC := X _ _ ho
  have he := S.at (.head _)
  have I : InstAt h e (eObj C none t0 tb cx) C none := ⟨he, rfl, rfl, trivial⟩
  refine set_plain X I O.setA (exc_osa O X he ht ?_)
  have S1 := (S.push emptyDict).swap.turn (f := fun o => { o with dict := some h.objs.size }) (o' := eObj C (some h.objs.size) t0 tb cx) rfl rfl
  refine wpAny_bind (wpAny_pure (wpAny_bind (wpAny_bind (wpAny_loadPart he ?_))))
  dsimp only
  refine wpAny_bind (nd_load hC ?_)
  refine wpAny_pure ?_
  refine wpAny_bind (wpAny_alloc ?_)
  refine wpAny_bind (wpAny_update (Heap.get?_push_of_some _ he) ?_)
  refine wpAny_pure (wpAny_bind (wpAny_pure ?_))
  have hgd := S1.at (.tail _ (.head _))
  refine wpAny_bind (wpAny_nsSet1 (Heap.Ns1.of_empty ⟨_, #[], _, hgd, rfl, fun e he => absurd he (by simp), fun _ => rfl⟩) fun h' hn' hs => ?_)
  obtain ⟨oD, esD, epD, hoD, hdD, hcD⟩ := hn'.count (Within.cons name v Within.nil)
  refine wpAny_bind (wpAny_lookBehind hoD (by rw [hdD]; exact pastItsLine_dict (Nat.le_trans hcD (by rw [List.length_cons, List.length_nil, sizeLine_eq]; omega))) ?_)
  obtain ⟨od, hod, D⟩ := DO.of hn'
  wp_walk
  exact hq _ _ _ od D (S1.swap.change hs hod).swap
theorem exc_set1 {name : Str} {v : Value} {Q : Unit → Shared → Prop} {dx : Addr} {od : Obj} {mA : Str → Option Value} {ns : List Str} (O : Own K C fI) (X : K.In h) (ht : takerIn K C name = some none) (S : St g k r L ((e, eObj C (some dx) t0 tb cx) :: (dx, od) :: μ) h m)
    (D : DO od mA) (hw : Within mA ns) (hns : ns.length ≤ 10)
    (hq : ∀ h' tk' od', DO od' (upd mA name v) → St g k r L ((e, eObj C (some dx) t0 tb cx) :: (dx, od') :: μ) h' m → Q () ⟨h', gn, d, tk', os⟩) :
    wpAny (model PR w) A (setAttr (.ref e) name v) Q E ⟨h, gn, d, tk, os⟩ := by
  obtain ⟨nm, q, N, k0, k2, k3, k5, ho⟩ := O.obj
  have hC := X _ _ ho
  have he := S.at (.head _)
  have hgd := S.at (.tail _ (.head _))
  have I : InstAt h e (eObj C (some dx) t0 tb cx) C (some od) := ⟨he, rfl, rfl, hgd⟩
  refine set_plain X I O.setA (exc_osa O X he ht ?_)
  refine wpAny_bind (wpAny_pure (wpAny_bind (wpAny_bind (wpAny_loadPart he ?_))))
  dsimp only
  refine wpAny_bind (nd_load hC ?_)
  refine wpAny_pure ?_
  refine wpAny_pure (a := some dx) (wpAny_bind (wpAny_pure ?_))
  refine wpAny_bind (wpAny_nsSet1 (D.ns hgd) fun h' hn' hs => ?_)
  obtain ⟨oD, esD, epD, hoD, hdD, hcD⟩ := hn'.count (Within.cons name v hw)
  refine wpAny_bind (wpAny_lookBehind hoD (by rw [hdD]; exact pastItsLine_dict (Nat.le_trans hcD (by rw [List.length_cons, sizeLine_eq]; omega))) ?_)
  obtain ⟨od, hod, D⟩ := DO.of hn'
  wp_walk
  exact hq _ _ od D (S.swap.change hs hod).swap
end
end

-- E3
section
open PySem PySem.W PyProof.Rows PySem.Calls PySem.Builtin PySem.Builtin.ObjectAttr
section
variable {w : World} {A : Around} {E : Value → Shared → Prop} {h : Heap} {gn : Array GenState} {d : Drawn} {tk : Nat} {os : OsState} {e C fI : Addr} {K : Frag} {oe : Obj} {dx : Addr} {od : Obj} {mA : Str → Option Value} {vs : Array Value}
theorem exc_get {name : Str} {v : Value} {expr : Bool} {Q : Value → Shared → Prop} (O : Own K C fI) (X : K.In h) (hn : findIn K (.ref C) name = some none) (hga : findIn K (.ref C) "__getattr__" = some none) (he : h.get? e = some oe) (hc : oe.cls = .ref C) (hd : oe.data = .fields vs) (hdx : oe.dict = some dx) (hod : h.get? dx = some od) (D : DO od mA) (hv : mA name = some v) (hh : handedIn v = true)
    (hq : ∀ tk', Q v ⟨h, gn, d, tk', os⟩) : wpAny (model PR w) A (getAttr (.ref e) name expr) Q E ⟨h, gn, d, tk, os⟩ := by
  obtain ⟨nm, q, N, k0, k2, k3, k5, ho⟩ := O.obj
  have hC := X _ _ ho
  have FB := PySem.F.attrBase_Exception
  have I : InstAt h e oe C (some od) := ⟨he, hc, by unfold notCls; rw [hd], by rw [hdx]; exact hod⟩
  have hcd : clsIn K C = some { name := nm, bases := [.ref 31], mro := .ref C :: bmE, ns := N, qualname := q } := by unfold clsIn; rw [ho]
  have hf : findObj K C (some od) name = some (.value v) := by
    unfold findObj
    rw [hcd, Option.bind_some, hn, Option.bind_some]
    dsimp only
    rw [Option.bind_some, Option.bind_some]
    unfold PySem.W.ownOf
    dsimp only
    rw [if_pos rfl, D.look, hv]
    rfl
  have L0 := I.type (M := model PR w)
  have L1 := looks_findIn (M := model PR w) X O.getA
  have L2 := looks_find (M := model PR w) X I hf
  have L3 := looks_findIn (M := model PR w) X hga
  unfold getAttr getAttrBy
  refine wpAny_bind (wpAny_mkText (wpAny_holding (wpAny_bind (L0.at (wpAny_bind (L1.at ?_))))))
  dsimp only
  have f3 := FB.ga.bind (.ref e)
  have hx0 : (expr && onTheHeap (Value.builtin "BaseException.__getattribute__")) = false := by cases expr <;> rfl
  have hx2 : (Value.builtin "BaseException.__getattribute__" == Value.builtin "object.__getattribute__") = false := by decide +kernel
  have hx1 : (onTheHeap (Value.ref C) && Value.builtin "BaseException.__getattribute__" == Value.builtin "object.__getattribute__") = false := by rw [hx2]; rfl
  rw [hx1]
  have L4 : Looks (model PR w) h (hookBefore (.ref C)) none := looks_hook X (by exact hga)
  unfold getAttrByItsOwn
  refine wpAny_bind (L4.at (wpAny_bind (wpAny_attempt (wpAny_holding ?_))))
  unfold callGetattribute
  rw [hx0]
  repeat (any_goals (first | assumption | wp_step))
  have hk : builtinKind "BaseException.__getattribute__" = some .slot := by decide +kernel
  have hsplit : splitId "BaseException.__getattribute__" = some ("BaseException", "__getattribute__") := by decide +kernel
  have sub : Looks (model PR w) h (isInstance (.ref e) (.type "BaseException")) true := L0.andThen (looks_mroIn X O.base)
  refine codeAny_call_builtin FB.ga.plain PySem.F.entry_bexc_ga (@check_slot (model PR w) _ _ ⟨h, gn, d, tk + 1, os⟩ "BaseException.__getattribute__" "BaseException" "__getattribute__" (.ref e) [.str name tk] [] _ hk hsplit sub (PySem.F.args_bexc_ga (.ref e) (.str name tk)) ?_)
  unfold Builtin.«object.__getattribute__»
  repeat (any_goals (first | assumption | lk | wp_step))
  show wpAny _ _ (handedOut v) _ _ _
  rw [handedOut_of hh]; exact wpAny_pure (hq _)

/-- the classes' own read: PerlError.__init__, Exception.__init__ -/
theorem perl_init_get {pl : Sem Bool} {Q : Value × List Value → Shared → Prop} (X : (hd.heap_1 w.params).In h) (hq : Q (.ref 28, []) ⟨h, gn, d, tk + 1, os⟩) :
    wpAny (model PR w) A (getMethod (.ref 31) (Str.ofString "__init__") pl) Q E ⟨h, gn, d, tk, os⟩ := by
  refine method_cls X (by k_is) (cls_value X (mc := .type "type") ?_ (by k_is) rfl hq)
  rfl
theorem exc_init_get {pl : Sem Bool} {Q : Value × List Value → Shared → Prop} (X : (hd.heap_1 w.params).In h) (hq : Q (.builtin "Exception.__init__", []) ⟨h, gn, d, tk + 1, os⟩) :
    wpAny (model PR w) A (getMethod (.type "Exception") (Str.ofString "__init__") pl) Q E ⟨h, gn, d, tk, os⟩ := by
  have ht : typeOf (.type "Exception") = pure (.type "type") := by rfl
  have hs : Manifest.isStub "Exception" = false := by decide +kernel
  have e : findCls (hd.heap_1 w.params) (.type "Exception") (.type "type") (Str.ofString "__init__") = some (.val (.builtin "Exception.__init__")) := by k_is
  have hstub : opaqueClassAbove (.type "Exception") = pure none := by unfold opaqueClassAbove; dsimp only; rw [hs]; rfl
  have L0 : Looks (model PR w) h (typeOf (.type "Exception")) (.type "type") := Looks.of_pure ht
  have hg : findIn (hd.heap_1 w.params) (.type "type") "__getattribute__" = some (some (.builtin "type.__getattribute__")) := type_tga
  unfold getMethod specialOf
  refine wpAny_bind (wpAny_bind (L0.at ((looks_findIn X hg).at ?_)))
  dsimp only
  rw [if_pos canon_tga]
  refine wpAny_bind (wpAny_mono (Q := fun v => Q (v, [])) (E := E) ?_ (fun _ _ z => wpAny_pure z) fun _ _ z => z)
  have LO : Looks (model PR w) h (opaqueClassAbove (.type "Exception")) none := Looks.of_pure hstub
  refine cls_open X LO L0 hg (looks_hook X (r := none) (by rfl)) (by show subIn (hd.heap_1 w.params) _ _ = _; rfl) e
    (wpAny_pure ?_)
  show wpAny _ _ (handedOut (.builtin "Exception.__init__")) _ _ _
  rw [handedOut_of rfl]; exact wpAny_pure hq
end
end

-- E4
section
open PySem PySem.W PyProof.Rows PySem.Calls PySem.Builtin PySem.Builtin.ObjectAttr
section
variable {g h h' : Heap} {k r : PF} {L : Addr} {μ : List (Addr × Obj)} {m : Str → Option Value}
/-- a def called with the object at the head: it comes back changed -/
theorem St.back1 {e : Addr} {o o' : Obj} (S : St g k r L ((e, o) :: μ) h m) (hs : Sub (kOf h [e]) h') (he : h'.get? e = some o') : St g k r L ((e, o') :: μ) h' m := by
  have kp : ∀ b x, b ≠ e → h.get? b = some x → h'.get? b = some x := fun b x hb q => hs b x (by simp [kOf, hb, q])
  have xe := S.mu _ (.head _)
  refine { S with ns := ?_, kk := ?_, rr := ?_, mu := ?_ }
  · obtain ⟨a1, a2, a3, e1, a4⟩ := S.ns
    exact ⟨a1, a2, a3, kp _ _ (Ne.symm xe.2.1) e1, a4⟩
  · intro b x q
    exact kp b x (fun z => by rw [z, xe.2.2.1] at q; cases q) (S.kk b x q)
  · intro b x q
    exact kp b x (fun z => by rw [z, xe.2.2.2] at q; cases q) (S.rr b x q)
  · intro p hp
    rcases List.mem_cons.mp hp with rfl | hp
    · exact ⟨he, xe.2⟩
    · have x := S.mu p (.tail _ hp)
      refine ⟨kp _ _ (fun z => ?_) x.1, x.2⟩
      have := S.nd
      rw [List.map_cons, List.nodup_cons] at this
      exact this.1 (List.mem_map.mpr ⟨p, hp, z⟩)
/-- what was not there is none of ours -/
theorem St.fresh (S : St g k r L μ h m) {a : Addr} (ha : h.get? a = none) : a ≠ L ∧ k a = none ∧ r a = none ∧ a ∉ μ.map (·.1) := by
  refine ⟨fun z => ?_, none_of_sub S.kk ha, none_of_sub S.rr ha, fun hm => ?_⟩
  · obtain ⟨oL, hL⟩ := S.Lsome; rw [← z, ha] at hL; cases hL
  · obtain ⟨p, hp, z⟩ := List.mem_map.mp hm
    rw [← z, (S.mu p hp).1] at ha; cases ha
end
theorem xSetAttr {M : Model} {A : Around} {E : Value → Shared → Prop} {env : Env} {s : Shared} {o value : Expr} {attr : Str} {pos' pos : Pos} {rest : List Stmt} {Q : Flow → Shared → Prop}
    (h : wpAny M A (eval value env) (fun v s₁ => wpAny M A (eval o env) (fun ov s₂ => wpAny M A (setAttr ov attr v) (fun _ s₃ => wpAny M A (execs rest env) Q E s₃) E s₂) E s₁) E s)
    (hs : swapsWith value (some (.Attribute o attr pos')) pos.line env = pure false) :
    wpAny M A (execs (.Assign [.Attribute o attr pos'] value pos :: rest) env) Q E s := wpAny_execs_cons (plainObj_wpAny_Assign_Attribute h hs)
set_option maxHeartbeats 4000000 in
theorem perl_init {w : World} {A : Around} {s : Shared} {R : Result → Shared → Prop} {mg mb : Str → Option Value} {g : Heap} (G : Gl w mg mb g) (hg : ∀ b o, g.get? b = some o → s.heap.get? b = some o) (hroom : A.depth < recursionLimit)
    {C fI e t0 : Addr} (O : Own (hd.heap_1 w.params) C fI) (htk : takerIn (hd.heap_1 w.params) C (Str.ofString "text") = some none) (v : Value) (heo : s.heap.get? e = some (eObj C none t0 .none .none)) (hge : g.get? e = none)
    (hR : ∀ h' tk t1 dx od, Sub (kOf s.heap [e]) h' → s.heap.get? dx = none → h'.get? e = some (eObj C (some dx) t1 .none .none) → h'.get? dx = some od → DO od (upd (fun _ => none) (Str.ofString "text") v) → R (.ok (.ret .none)) { s with heap := h', toks := tk }) :
    codeAny (model PR w) A (.call (.ref 28) ⟨[.ref e, v], []⟩) R s := by
  refine' enter_ (binds := [(Str.ofString "self", .ref e), (Str.ofString "text", v)]) [(e, eObj C none t0 .none .none)] G hg ?hm ?hnd ?ho ?hcd hroom ?hbind ?hloc ?h ?c1 ?c2 ?c3 ?c4
  case hm => intro p hp; rcases List.mem_singleton.mp hp with rfl; exact ⟨heo, hge⟩
  case hnd => exact .cons (fun _ h => nomatch h) .nil
  walk_at "mSides"
  repeat walk_at "m"
  refine exc_init_get (G.K.keeps S.gg) ?_
  repeat walk_at "m"
  refine exc_init O (G.K.keeps S.gg) S fun h' t1 S => ?_
  repeat walk_at "m"
  refine xSetAttr ?_ ?hs
  case hs => with_unfolding_all rfl
  repeat walk_at "m"
  refine exc_set0 O (G.K.keeps S.gg) htk S fun h' tk' dx od D S => ?_
  repeat walk_at "m"
  refine hQn _ (hR _ _ t1 dx od (fun b o q => S.kk b o (hk ▸ q)) ?_ (S.at (.head _)) (S.at (.tail _ (.head _))) D)
  have x := (S.mu _ (.tail _ (.head _))).2.2.1
  have y := S.nd
  simp only [List.map_cons, List.nodup_cons, List.mem_cons, not_or] at y
  rw [hk] at x
  have z : dx ∉ [e] := fun q => y.1.1 (List.mem_singleton.mp q).symm
  simpa [kOf, z] using x
theorem St.after_init {g h h' : Heap} {k r : PF} {L e dx : Addr} {μ : List (Addr × Obj)} {m : Str → Option Value} {o o' od : Obj} (S : St g k r L ((e, o) :: μ) h m) (hs : Sub (kOf h [e]) h') (hn : h.get? dx = none) (he : h'.get? e = some o') (hd : h'.get? dx = some od) :
    St g k r L ((e, o') :: (dx, od) :: μ) h' m := ((S.back1 hs he).add hd (S.fresh hn)).swap
theorem kOf_new {s : Heap} {k : PF} {e dx : Addr} {o od : Obj} {g h : Heap} {r : PF} {L : Addr} {m : Str → Option Value} (hk : k = kOf s [e]) (S : St g k r L [(e, o), (dx, od)] h m) : s.get? dx = none := by
  have x := (S.mu _ (.tail _ (.head _))).2.2.1
  have y := S.nd
  simp only [List.map_cons, List.nodup_cons, List.mem_cons, not_or] at y
  rw [hk] at x
  have z : dx ∉ [e] := fun q => y.1.1 (List.mem_singleton.mp q).symm
  simpa [kOf, z] using x
set_option maxHeartbeats 4000000 in
theorem syn_init {w : World} {A : Around} {s : Shared} {R : Result → Shared → Prop} {mg mb : Str → Option Value} {g : Heap} (G : Gl w mg mb g) (hg : ∀ b o, g.get? b = some o → s.heap.get? b = some o) (hroom : A.depth + 1 < recursionLimit)
    {C fI e t0 : Addr} (O : Own (hd.heap_1 w.params) C fI) (htk : takerIn (hd.heap_1 w.params) C (Str.ofString "text") = some none) (htl : takerIn (hd.heap_1 w.params) C (Str.ofString "line") = some none) (v u : Value) (heo : s.heap.get? e = some (eObj C none t0 .none .none)) (hge : g.get? e = none)
    (hR : ∀ h' tk t1 dx od mA, Sub (kOf s.heap [e]) h' → s.heap.get? dx = none → h'.get? e = some (eObj C (some dx) t1 .none .none) → h'.get? dx = some od → DO od mA → mA (Str.ofString "text") = some v → R (.ok (.ret .none)) { s with heap := h', toks := tk }) :
    codeAny (model PR w) A (.call (.ref 67) ⟨[.ref e, v, u], []⟩) R s := by
  have hroom' : A.depth < recursionLimit := by omega
  refine' enter_ (binds := [(Str.ofString "self", .ref e), (Str.ofString "text", v), (Str.ofString "line", u)]) [(e, eObj C none t0 .none .none)] G hg ?hm ?hnd ?ho ?hcd hroom' ?hbind ?hloc ?h ?c1 ?c2 ?c3 ?c4
  case hm => intro p hp; rcases List.mem_singleton.mp hp with rfl; exact ⟨heo, hge⟩
  case hnd => exact .cons (fun _ h => nomatch h) .nil
  walk_at "mSides"
  repeat walk_at "m"
  refine perl_init_get (G.K.keeps S.gg) ?_
  repeat walk_at "m"
  refine call_ fun R' hr' _ => perl_init (A := A.deeper env) (s := ⟨_, _, _, _, _⟩) G S.gg (by show A.depth + 1 < _; omega) O htk v (S.at (.head _)) hge (fun h2 tk2 t1 dx od hs2 hn2 he2 hd2 D => hr' _ _ ?_)
  replace S := S.after_init hs2 hn2 he2 hd2
  dsimp only
  repeat walk_at "m"
  refine xSetAttr ?_ ?hs
  case hs => with_unfolding_all rfl
  repeat walk_at "m"
  refine exc_set1 O (G.K.keeps S.gg) htl S D (Within.cons _ _ Within.nil) (by simp) fun h' tk' od' D' S => ?_
  repeat walk_at "m"
  exact hQn _ (hR _ _ t1 dx od' _ (fun b o q => S.kk b o (hk ▸ q)) (kOf_new hk S) (S.at (.head _)) (S.at (.tail _ (.head _))) D' (upd_skip (by decide) upd_same))
set_option maxHeartbeats 4000000 in
theorem die_init {w : World} {A : Around} {s : Shared} {R : Result → Shared → Prop} {mg mb : Str → Option Value} {g : Heap} (G : Gl w mg mb g) (hg : ∀ b o, g.get? b = some o → s.heap.get? b = some o) (hroom : A.depth + 1 < recursionLimit)
    {C fI e t0 : Addr} (O : Own (hd.heap_1 w.params) C fI) (htk : takerIn (hd.heap_1 w.params) C (Str.ofString "text") = some none) (htl : takerIn (hd.heap_1 w.params) C (Str.ofString "value") = some none) (u : Value) (heo : s.heap.get? e = some (eObj C none t0 .none .none)) (hge : g.get? e = none)
    (hR : ∀ h' tk t1 dx od mA v, Sub (kOf s.heap [e]) h' → s.heap.get? dx = none → h'.get? e = some (eObj C (some dx) t1 .none .none) → h'.get? dx = some od → DO od mA → mA (Str.ofString "text") = some v → R (.ok (.ret .none)) { s with heap := h', toks := tk }) :
    codeAny (model PR w) A (.call (.ref 48) ⟨[.ref e, u], []⟩) R s := by
  have hroom' : A.depth < recursionLimit := by omega
  refine' enter_ (binds := [(Str.ofString "self", .ref e), (Str.ofString "value", u)]) [(e, eObj C none t0 .none .none)] G hg ?hm ?hnd ?ho ?hcd hroom' ?hbind ?hloc ?h ?c1 ?c2 ?c3 ?c4
  case hm => intro p hp; rcases List.mem_singleton.mp hp with rfl; exact ⟨heo, hge⟩
  case hnd => exact .cons (fun _ h => nomatch h) .nil
  walk_at "mSides"
  repeat walk_at "m"
  refine perl_init_get (G.K.keeps S.gg) ?_
  repeat walk_at "m"
  refine call_ fun R' hr' _ => perl_init (A := A.deeper env) (s := ⟨_, _, _, _, _⟩) G S.gg (by show A.depth + 1 < _; omega) O htk _ (S.at (.head _)) hge (fun h2 tk2 t1 dx od hs2 hn2 he2 hd2 D => hr' _ _ ?_)
  replace S := S.after_init hs2 hn2 he2 hd2
  dsimp only
  repeat walk_at "m"
  refine xSetAttr ?_ ?hs
  case hs => with_unfolding_all rfl
  repeat walk_at "m"
  refine exc_set1 O (G.K.keeps S.gg) htl S D (Within.cons _ _ Within.nil) (by simp) fun h' tk' od' D' S => ?_
  repeat walk_at "m"
  exact hQn _ (hR _ _ t1 dx od' _ _ (fun b o q => S.kk b o (hk ▸ q)) (kOf_new hk S) (S.at (.head _)) (S.at (.tail _ (.head _))) D' (upd_skip (by decide) upd_same))
end

-- E5
section
open PySem PySem.W PyProof.Rows PySem.Calls PySem.Builtin PySem.Builtin.ObjectAttr
theorem tc_weight (C : Addr) (rest : List Value) : (Code.builtin "type.__call__" ⟨.ref C :: rest, []⟩).weight = 1 := by rfl
theorem tc_depth {A : Around} (C : Addr) (rest : List Value) : (A.under (.builtin "type.__call__" ⟨.ref C :: rest, []⟩)).depth = A.depth + 1 := by
  show A.depth + _ = _; rw [tc_weight]
theorem tup_push_kept (h : Heap) (o1 o2 : Obj) : ∀ b o, h.get? b = some o → ((h.push o1).push o2).get? b = some o := fun b o e => Heap.get?_push_of_some _ (Heap.get?_push_of_some _ e)
structure Exc (C e dx : Addr) (mA : Str → Option Value) (cx : Value) (h : Heap) : Prop where
  ob : ∃ t, h.get? e = some (eObj C (some dx) t .none cx)
  dc : ∃ od, h.get? dx = some od ∧ DO od mA
theorem syn_made {w : World} {A : Around} {mg mb : Str → Option Value} {g h : Heap} {E : Value → Shared → Prop} {gn : Array GenState} {d : Drawn} {tk : Nat} {os : OsState} (G : Gl w mg mb g) (hg : ∀ b o, g.get? b = some o → h.get? b = some o) (hroom : A.depth + 2 < recursionLimit) {v u : Value} {Q : Value → Shared → Prop}
    (hq : ∀ h' tk' e dx mA, (∀ b o, h.get? b = some o → h'.get? b = some o) → h.get? e = none → h.get? dx = none → e ≠ dx → Exc 70 e dx mA .none h' → mA (Str.ofString "text") = some v → Q (.ref e) ⟨h', gn, d, tk', os⟩) :
    wpAny (model PR w) A (call (.ref 70) [v, u]) Q E ⟨h, gn, d, tk, os⟩ := by
  refine call_ fun R hR _ => exc_make (own70 w) (G.K.keeps hg) (by rw [sizeLine_eq]; exact Nat.le_of_ble_eq_true rfl) ?_
  have hx : ((h.push (tup [v, u])).push (eObj 70 none h.objs.size .none .none)).get? (h.objs.size + 1) = some (eObj 70 none h.objs.size .none .none) := by heap_get
  have hn : h.get? (h.objs.size + 1) = none := Heap.get?_none_of_le (Nat.le_succ _)
  have kp := tup_push_kept h (tup [v, u]) (eObj 70 none h.objs.size .none .none)
  refine syn_init (s := ⟨_, _, _, _, _⟩) G (fun b o e => kp _ _ (hg b o e)) (by rw [tc_depth]; omega) (own70 w) (by k_is) (by k_is) v u hx (none_of_sub hg hn) fun h' tk t1 dx od mA hs hd he hdx D hv => ?_
  have hdn : h.get? dx = none := none_of_sub kp hd
  have hk : ∀ b o, h.get? b = some o → h'.get? b = some o := fun b o q => hs b o (by
    have hb : b ∉ [h.objs.size + 1] := fun z => by rw [List.mem_singleton.mp z, hn] at q; cases q
    simp [kOf, hb]; exact kp b o q)
  exact ⟨rfl, hR _ _ (hq h' tk _ dx mA hk hn hdn (fun z => by subst z; exact absurd (hx.symm.trans hd) (by simp)) ⟨⟨_, he⟩, _, hdx, D⟩ hv)⟩
theorem die_made {w : World} {A : Around} {mg mb : Str → Option Value} {g h : Heap} {E : Value → Shared → Prop} {gn : Array GenState} {d : Drawn} {tk : Nat} {os : OsState} (G : Gl w mg mb g) (hg : ∀ b o, g.get? b = some o → h.get? b = some o) (hroom : A.depth + 2 < recursionLimit) {u : Value} {Q : Value → Shared → Prop}
    (hq : ∀ h' tk' e dx mA, (∀ b o, h.get? b = some o → h'.get? b = some o) → h.get? e = none → h.get? dx = none → e ≠ dx → Exc 51 e dx mA .none h' → Q (.ref e) ⟨h', gn, d, tk', os⟩) :
    wpAny (model PR w) A (call (.ref 51) [u]) Q E ⟨h, gn, d, tk, os⟩ := by
  refine call_ fun R hR _ => exc_make (own51 w) (G.K.keeps hg) (by rw [sizeLine_eq]; exact Nat.le_of_ble_eq_true rfl) ?_
  have hx : ((h.push (tup [u])).push (eObj 51 none h.objs.size .none .none)).get? (h.objs.size + 1) = some (eObj 51 none h.objs.size .none .none) := by heap_get
  have hn : h.get? (h.objs.size + 1) = none := Heap.get?_none_of_le (Nat.le_succ _)
  have kp := tup_push_kept h (tup [u]) (eObj 51 none h.objs.size .none .none)
  refine die_init (s := ⟨_, _, _, _, _⟩) G (fun b o e => kp _ _ (hg b o e)) (by rw [tc_depth]; omega) (own51 w) (by k_is) (by k_is) u hx (none_of_sub hg hn) fun h' tk t1 dx od mA v hs hd he hdx D hv => ?_
  have hdn : h.get? dx = none := none_of_sub kp hd
  have hk : ∀ b o, h.get? b = some o → h'.get? b = some o := fun b o q => hs b o (by
    have hb : b ∉ [h.objs.size + 1] := fun z => by rw [List.mem_singleton.mp z, hn] at q; cases q
    simp [kOf, hb]; exact kp b o q)
  exact ⟨rfl, hR _ _ (hq h' tk _ dx mA hk hn hdn (fun z => by subst z; exact absurd (hx.symm.trans hd) (by simp)) ⟨⟨_, he⟩, _, hdx, D⟩)⟩
/-- raise of an object of an own class -/
theorem xRaise {w : World} {A : Around} {E : Value → Shared → Prop} {env : Env} {s : Shared} {C fI : Addr} {K : Frag} {x : Expr} {pos : Pos} {rest : List Stmt} {Q : Flow → Shared → Prop} (O : Own K C fI) (hh : A.handled = none)
    (h : wpAny (model PR w) A (eval x env) (fun v s₁ => ∃ e dx t, v = .ref e ∧ K.In s₁.heap ∧ s₁.heap.get? e = some (eObj C (some dx) t .none .none) ∧ E (.ref e) s₁) E s) :
    wpAny (model PR w) A (execs (.Raise (some x) none pos :: rest) env) Q E s := by
  refine wpAny_execs_cons ?_
  rw [arm_exec_Raise]
  refine wpAny_bind (wpAny_standAt ?_)
  unfold raiseStmt evalOpt
  refine wpAny_bind (wpAny_bind (wpAny_mono h (fun v s₁ h₁ => ?_) fun _ _ x => x))
  obtain ⟨e, dx, t, rfl, X, he, hE⟩ := h₁
  obtain ⟨nm, q, N, k0, k2, k3, k5, ho⟩ := O.obj
  obtain ⟨hp, g, d, tk, os⟩ := s₁
  have hC := X _ _ ho
  have L0 : Looks (model PR w) hp (typeOf (.ref e)) (.ref C) := (Looks.ld he).andThen .now
  have L1 : Looks (model PR w) hp (isInstance (.ref e) (.type "BaseException")) true := L0.andThen (looks_mroIn X O.base)
  refine wpAny_bind (wpAny_standAt (wpAny_pure ?_))
  dsimp only
  refine wpAny_bind (wpAny_pure ?_)
  unfold excFromValue raisedInstance setFlight
  repeat (first | lk | with_reducible refine wpAny_loadPart_at he ?_ | with_reducible refine wpAny_loadPart_at hC ?_ | wp_step)
  refine wpAny_handled ?_
  rw [hh]
  exact wpAny_throw hE
/-- the same, while another is handled -/
theorem xRaise2 {w : World} {A : Around} {E : Value → Shared → Prop} {env : Env} {s : Shared} {C fI : Addr} {K : Frag} {x : Expr} {pos : Pos} {rest : List Stmt} {Q : Flow → Shared → Prop} {e1 : Addr} (O : Own K C fI) (hh : A.handled = some (.ref e1))
    (h : wpAny (model PR w) A (eval x env) (fun v s₁ => ∃ e dx t o1 vs1, v = .ref e ∧ K.In s₁.heap ∧ s₁.heap.get? e = some (eObj C (some dx) t .none .none) ∧ e1 ≠ e ∧ s₁.heap.get? e1 = some o1 ∧ o1.data = .fields vs1 ∧ vs1[2]? = some .none ∧
      ∀ h', Heap.SameBut e s₁.heap h' → h'.get? e = some (eObj C (some dx) t .none (.ref e1)) → E (.ref e) { s₁ with heap := h' }) E s) :
    wpAny (model PR w) A (execs (.Raise (some x) none pos :: rest) env) Q E s := by
  refine wpAny_execs_cons ?_
  rw [arm_exec_Raise]
  refine wpAny_bind (wpAny_standAt ?_)
  unfold raiseStmt evalOpt
  refine wpAny_bind (wpAny_bind (wpAny_mono h (fun v s₁ h₁ => ?_) fun _ _ x => x))
  obtain ⟨e, dx, t, o1, vs1, rfl, X, he, hne, he1, hd1, hc1, hE⟩ := h₁
  obtain ⟨nm, q, N, k0, k2, k3, k5, ho⟩ := O.obj
  obtain ⟨hp, g, d, tk, os⟩ := s₁
  have hC := X _ _ ho
  have L0 : Looks (model PR w) hp (typeOf (.ref e)) (.ref C) := (Looks.ld he).andThen .now
  have L1 : Looks (model PR w) hp (isInstance (.ref e) (.type "BaseException")) true := L0.andThen (looks_mroIn X O.base)
  refine wpAny_bind (wpAny_standAt (wpAny_pure ?_))
  dsimp only
  refine wpAny_bind (wpAny_pure ?_)
  unfold excFromValue raisedInstance setFlight
  repeat (first | lk | with_reducible refine wpAny_loadPart_at he ?_ | with_reducible refine wpAny_loadPart_at hC ?_ | wp_step)
  refine wpAny_handled ?_
  rw [hh]
  dsimp only
  rw [if_pos (show (Value.ref e1 != Value.ref e) = true by simp [hne])]
  have hu : entryFor table "proto.unchain" = some PySem.Builtin.«proto.unchain» := entryFor_of_fast (by kernel_rfl)
  refine wpAny_bind (wpAny_holding (wpAny_runValue (codeAny_builtin hu ?_)))
  refine wpAny_bind (wpAny_field he1 hd1 hc1 ?_)
  rw [if_pos (show (Value.none == Value.none) = true from rfl)]
  refine wpAny_bind (wpAny_pure (wpAny_pure ?_))
  dsimp only
  unfold updateField
  refine wpAny_bind (wpAny_bind (wpAny_load he ?_))
  show wpAny _ _ (if 2 < 6 then update e (Obj.mapFields fun x => x.setIfInBounds 2 (Value.ref e1)) else _) _ _ _
  rw [if_pos (by decide)]
  refine wpAny_update he ?_
  refine wpAny_throw (hE _ (Heap.SameBut.update ..) ?_)
  exact Heap.get?_update_self _ he rfl
end

-- E6
section
open PySem PySem.W PyProof.Rows PySem.Calls PySem.Builtin PySem.Builtin.ObjectAttr
structure Fly (B : Heap) (fl : List Env) (e C dx : Addr) (cx fv : Value) (h : Heap) : Prop where
  stays : B.StaysIn h
  new : B.get? e = none
  funs : h.FunFrames B fl
  ob : ∃ oe vs, h.get? e = some oe ∧ oe.cls = .ref C ∧ oe.dict = some dx ∧ oe.data = .fields vs ∧ 1 < vs.size ∧ vs[2]? = some cx ∧
    ((vs[1]? = some .none ∧ fv = .none) ∨ ∃ T oT ts, vs[1]? = some (.ref T) ∧ B.get? T = none ∧ T ≠ e ∧ h.get? T = some oT ∧ oT.data = .fields ts ∧ ts[3]? = some fv)
theorem dict_mapFields (f : Array Value → Array Value) (o : Obj) : (Obj.mapFields f o).dict = o.dict := by
  obtain ⟨c, d, dt, sl⟩ := o
  cases dt <;> rfl
section
variable {M : Model} {A : Around} {E : Value → Shared → Prop} {s : Shared} {B : Heap} {env : Env} {outer fl : List Env} {L e C dx : Addr} {cx fv : Value} {Q : Unit → Shared → Prop}
theorem fly_entry {oe : Obj} {vs : Array Value} {head : Value} {hadNext : Bool} (hfr : A.frames = some (env :: outer)) (hf : env.frame = some L) (hl : s.heap.FunFrames B (env :: outer)) (hkb : B.StaysIn s.heap) (hen : B.get? e = none)
    (he : s.heap.get? e = some oe) (hc : oe.cls = .ref C) (hdx : oe.dict = some dx) (hd : oe.data = .fields vs) (hsz : 1 < vs.size) (h2 : vs[2]? = some cx)
    (h : ∀ h', Fly B (env :: outer) e C dx cx (rawInt L) h' → s.heap.UpToSlots h' → Q () { s with heap := h' }) :
    wpAny M A (do let a ← frameOf env; let pl ← entryPlaceOf L hadNext; let b ← EntryCells.newEntry head a .none (rawInt L) .none pl; setField (.ref e) 1 b) Q E s := by
  have hene : e ∉ (env :: outer).filterMap (·.frame) := fun hm => by
    obtain ⟨_, o, ho, hnf⟩ := hl.mem hm
    rw [he] at ho; injection ho with ho; subst ho; exact hnf vs hd
  refine wpAny_bind (wpAny_frameOf_fun hfr hl hf fun h₁ hs₁ => ?_)
  refine wpAny_bind (wpAny_entryPlaceOf fun pl hpl => ?_)
  unfold EntryCells.newEntry newFields
  refine wpAny_bind (wpAny_newObj_type ?_ (hpl.sizeOk5 _ _ _ _ _))
  generalize hoT : ({ cls := .type "traceback", dict := none, data := .fields ([head, .ref L, .none, rawInt L, .none] ++ (if pl.isEmpty then List.replicate 6 Value.none else pl)).toArray } : Obj) = oT
  have hdT : oT.data = .fields ([head, .ref L, .none, rawInt L, .none] ++ (if pl.isEmpty then List.replicate 6 Value.none else pl)).toArray := by rw [← hoT]
  have hfT : oT.isFreed = false := by rw [← hoT]; rfl
  have he₁ : h₁.get? e = some oe := (hs₁.2.1 e hene).trans he
  have kb₁ : B.StaysIn h₁ := fun b o hbo => (hs₁.2.1 b fun hm => by rw [(hl.mem hm).1] at hbo; cases hbo).trans (hkb b o hbo)
  have he₂ := Heap.get?_push_of_some (h := h₁) oT he₁
  have hTe : h₁.objs.size ≠ e := Nat.ne_of_gt (Heap.lt_size he₁)
  have keep : ∀ b o, b ≠ e → h₁.get? b = some o → ((h₁.push oT).update e (Obj.mapFields (·.setIfInBounds 1 (Value.ref h₁.objs.size)))).get? b = some o :=
    fun b o hbe hb => by rw [Heap.get?_update_other _ _ (Ne.symm hbe)]; exact Heap.get?_push_of_some _ hb
  have noRecord : ∀ b o, s.heap.get? b = some o → (∀ vs, o.data ≠ .fields vs) → b ≠ e := fun b o hb hnf q => by
    rw [q, he] at hb; injection hb with hb; subst hb; exact hnf vs hd
  have hd₃ := Obj.data_mapFields hd (·.setIfInBounds 1 (Value.ref h₁.objs.size))
  refine wpAny_setField he₂ hd hsz (h _ ⟨fun b o q => ?_, hen, ?_, ?_⟩ fun b o hb hnf => ?_)
  · exact keep b o (fun z => by rw [z, hen] at q; cases q) (kb₁ b o q)
  · exact hl.of_keeps fun b o hb hnf => let ⟨sl, hs⟩ := hs₁.2.2 b o hb; ⟨_, keep b _ (noRecord b o hb hnf) hs, rfl⟩
  · refine ⟨_, _, Heap.get?_update_self _ he₂ (Obj.isFreed_of_fields hd₃), (Obj.cls_mapFields _ _).trans hc, (dict_mapFields _ _).trans hdx, hd₃, by simpa using hsz, by rw [Array.getElem?_setIfInBounds_ne (by decide)]; exact h2, .inr ⟨h₁.objs.size, oT, _, by simp [hsz], kb₁.fresh, hTe, ?_, hdT, ?_⟩⟩
    · rw [Heap.get?_update_other _ _ (Ne.symm hTe)]; exact Heap.get?_push_size h₁ hfT
    · simp
  · obtain ⟨sl, hs⟩ := hs₁.2.2 b o hb
    exact ⟨sl, keep b _ (noRecord b o hb hnf) hs⟩
theorem fly_note (hfr : A.frames = some (env :: outer)) (hf : env.frame = some L) (F : Fly B (env :: outer) e C dx cx .none s.heap)
    (h : ∀ h', Fly B (env :: outer) e C dx cx (rawInt L) h' → s.heap.UpToSlots h' → Q () { s with heap := h' }) : wpAny M A (noteFrame (.ref e) env) Q E s := by
  obtain ⟨f1, f2, f3, oe, vs, he, hc, hdx, hd, hsz, h2, h1⟩ := F
  unfold noteFrame
  simp only [hf]
  rcases h1 with ⟨h1, -⟩ | ⟨T, oT, ts, h1, hnT, hTe, hT, hdT, h3⟩
  · refine wpAny_bind (wpAny_field he hd h1 ?_)
    rw [if_neg (by decide)]
    exact fly_entry hfr hf f3 f1 f2 he hc hdx hd hsz h2 h
  · refine wpAny_bind (wpAny_field he hd h1 ?_)
    rw [if_pos (show (Value.ref T != Value.none) = true from by simp)]
    refine wpAny_bind (wpAny_field hT hdT h3 ?_)
    rw [if_neg (show ¬ ((Value.none == rawInt L) = true) from by simp [rawInt])]
    refine wpAny_bind (wpAny_setField hT hdT (Array.getElem?_eq_some_iff.mp h3).1 ?_)
    have other : ∀ b, b ≠ T → (s.heap.update T (Obj.mapFields (·.setIfInBounds 3 Value.none))).get? b = s.heap.get? b := fun b hb => Heap.get?_update_other _ _ (Ne.symm hb)
    have noRecord : ∀ b o, s.heap.get? b = some o → (∀ vs, o.data ≠ .fields vs) → b ≠ T := fun b o hb hnf q => by
      rw [q, hT] at hb; injection hb with hb; subst hb; exact hnf ts hdT
    refine fly_entry hfr hf (f3.of_keeps fun b o hb hnf => ⟨o, (other b (noRecord b o hb hnf)).trans hb, rfl⟩) (fun b o q => (other b fun z => by rw [z, hnT] at q; cases q).trans (f1 b o q)) f2 ((other e (Ne.symm hTe)).trans he) hc hdx hd hsz h2
      fun h' F' U => h h' F' fun b o hb hnf => U b o ((other b (noRecord b o hb hnf)).trans hb) hnf
theorem fly_set (F : Fly B fl e C dx cx fv s.heap)
    (h : ∀ h', Fly B fl e C dx cx .none h' → s.heap.UpToSlots h' → Q () { s with heap := h' }) : wpAny M A (setFlight (.ref e) none) Q E s := by
  obtain ⟨f1, f2, f3, oe, vs, he, hc, hdx, hd, hsz, h2, h1⟩ := F
  unfold setFlight
  rcases h1 with ⟨h1, -⟩ | ⟨T, oT, ts, h1, hnT, hTe, hT, hdT, h3⟩
  · refine wpAny_bind (wpAny_field he hd h1 ?_)
    rw [if_neg (by decide)]
    exact wpAny_pure (h _ ⟨f1, f2, f3, oe, vs, he, hc, hdx, hd, hsz, h2, .inl ⟨h1, rfl⟩⟩ (Heap.UpToSlots.refl _))
  · refine wpAny_bind (wpAny_field he hd h1 ?_)
    rw [if_pos (show (Value.ref T != Value.none) = true from by simp)]
    have hsz3 : 3 < ts.size := (Array.getElem?_eq_some_iff.mp h3).1
    have other : ∀ b, b ≠ T → (s.heap.update T (Obj.mapFields (·.setIfInBounds 3 ((none : Option Addr).elim Value.none fun f => rawInt f)))).get? b = s.heap.get? b := fun b hb => Heap.get?_update_other _ _ (Ne.symm hb)
    have noRecord : ∀ b o, s.heap.get? b = some o → (∀ vs, o.data ≠ .fields vs) → b ≠ T := fun b o hb hnf q => by
      rw [q, hT] at hb; injection hb with hb; subst hb; exact hnf ts hdT
    refine wpAny_setField hT hdT hsz3 (h _ ⟨fun b o q => (other b fun z => by rw [z, hnT] at q; cases q).trans (f1 b o q), f2, f3.of_keeps fun b o hb hnf => ⟨o, (other b (noRecord b o hb hnf)).trans hb, rfl⟩, ?_⟩ fun b o hb hnf => ⟨o.slots, (other b (noRecord b o hb hnf)).trans hb⟩)
    exact ⟨oe, vs, (other e (Ne.symm hTe)).trans he, hc, hdx, hd, hsz, h2, .inr ⟨T, _, _, h1, hnT, hTe, Heap.get?_update_self _ hT (Obj.isFreed_of_fields (Obj.data_mapFields hdT _)), Obj.data_mapFields hdT _, by simp [hsz3]⟩⟩
theorem Fly.tail {h : Heap} (F : Fly B (env :: outer) e C dx cx fv h) : Fly B outer e C dx cx fv h := { F with funs := F.funs.2.2 }
theorem fly_leave (hfr : A.frames = some (env :: outer)) (hf : env.frame = some L) (F : Fly B (env :: outer) e C dx cx .none s.heap)
    (h : ∀ h', Fly B outer e C dx cx .none h' → s.heap.UpToSlots h' → Q () { s with heap := h' }) : wpAny M A (leaving env (.ref e)) Q E s := by
  unfold leaving
  refine wpAny_bind (fly_note hfr hf F fun h1 F1 U1 => fly_set F1 fun h2 F2 U2 => h h2 F2.tail (U1.trans U2))
theorem Fly.base {B' h : Heap} (F : Fly B' fl e C dx cx fv h) (k : B.StaysIn B') : Fly B fl e C dx cx fv h := by
  obtain ⟨f1, f2, f3, oe, vs, he, hc, hdx, hd, hsz, h2, h1⟩ := F
  refine ⟨fun b o q => f1 b o (k b o q), fresh_of_stays k f2, funFrames_base k f3, oe, vs, he, hc, hdx, hd, hsz, h2, h1.imp id ?_⟩
  rintro ⟨T, oT, ts, a1, a2, r⟩
  exact ⟨T, oT, ts, a1, fresh_of_stays k a2, r⟩
end
end

-- E7
section
open PySem PySem.W PyProof.Rows PySem.Calls PySem.Builtin PySem.Builtin.ObjectAttr
noncomputable def fa (fl : List Env) : List Addr := fl.filterMap (·.frame)
noncomputable def bs (h : Heap) (fl : List Env) : Heap := hideAll h (fa fl)
structure Stk (A : Around) (fl : List Env) (h : Heap) : Prop where
  fr : A.frames = some fl
  fu : ∀ env ∈ fl, env.scope.kind ≠ .module ∧ ∃ L o, env.frame = some L ∧ h.get? L = some o ∧ ∀ vs, o.data ≠ .fields vs
theorem Stk.funs {A : Around} {fl : List Env} {h : Heap} (K : Stk A fl h) {h2 : Heap} (hk : ∀ b o, h.get? b = some o → h2.get? b = some o) (B : Heap) (hB : ∀ a ∈ fa fl, B.get? a = none) : h2.FunFrames B fl := by
  have fu := K.fu
  clear K
  induction fl with
  | nil => trivial
  | cons env r ih =>
    obtain ⟨a, L, o, b, c, d⟩ := fu env (.head _)
    exact ⟨a, ⟨L, o, b, hB L (List.mem_filterMap.mpr ⟨env, .head _, b⟩), hk _ _ c, d⟩, ih (fun x hx => hB x (by
      obtain ⟨y, hy, z⟩ := List.mem_filterMap.mp hx
      exact List.mem_filterMap.mpr ⟨y, .tail _ hy, z⟩)) fun e he => fu e (.tail _ he)⟩
theorem Stk.mem {A : Around} {fl : List Env} {h : Heap} (K : Stk A fl h) {a : Addr} (ha : a ∈ fa fl) : ∃ o, h.get? a = some o ∧ ∀ vs, o.data ≠ .fields vs := by
  obtain ⟨env, he, hf⟩ := List.mem_filterMap.mp ha
  obtain ⟨_, L, o, b, c, d⟩ := K.fu env he
  obtain rfl : L = a := Option.some.inj (b.symm.trans hf)
  exact ⟨o, c, d⟩
noncomputable def Dct (h : Heap) (dx : Addr) (mA : Str → Option Value) : Prop := ∃ od, h.get? dx = some od ∧ DO od mA
theorem Dct.slots {h h' : Heap} {dx : Addr} {mA : Str → Option Value} (D : Dct h dx mA) (U : h.UpToSlots h') : Dct h' dx mA := by
  obtain ⟨od, e, es, ep, hd, r⟩ := D
  obtain ⟨sl, q⟩ := U dx od e fun vs z => by rw [hd] at z; cases z
  exact ⟨_, q, es, ep, hd, r⟩
noncomputable def Told (C dx : Addr) (cx : Value) (B : Heap) (fl : List Env) (h : Heap) : Prop := C = 70 → cx = .none ∧ ∃ mA x t, Dct h dx mA ∧ mA (Str.ofString "text") = some (.str x t) ∧ dx ∉ fa fl ∧ B.get? dx = none
structure Thrown (C : Addr) (B : Heap) (fl : List Env) (e : Addr) (fv : Value) (h : Heap) : Prop where
  ex : ∃ dx cx, Fly B fl e C dx cx fv h ∧ Told C dx cx B fl h
theorem told_slots {C dx : Addr} {cx : Value} {B h h' : Heap} {fl : List Env} (D : Told C dx cx B fl h) (U : h.UpToSlots h') : Told C dx cx B fl h' :=
  fun e => let ⟨a, mA, x, t, d, y⟩ := D e; ⟨a, mA, x, t, d.slots U, y⟩
theorem fa_sub {env : Env} {fl : List Env} {a : Addr} (h : a ∈ fa fl) : a ∈ fa (env :: fl) := by
  obtain ⟨y, hy, z⟩ := List.mem_filterMap.mp h
  exact List.mem_filterMap.mpr ⟨y, .tail _ hy, z⟩
section
variable {M : Model} {A : Around} {E : Value → Shared → Prop} {s : Shared} {B : Heap} {env : Env} {outer fl : List Env} {L e C dx : Addr} {cx fv : Value} {Q : Unit → Shared → Prop}
theorem thrown_new {h h2 : Heap} {mA : Str → Option Value} {x : Str} {t : Tok} (K : Stk A fl h) (hk : ∀ b o, h.get? b = some o → h2.get? b = some o) (hn : h.get? e = none) (hdn : h.get? dx = none) (X : Exc C e dx mA cx h2) (hc : C = 70 → cx = .none ∧ mA (Str.ofString "text") = some (.str x t)) :
    Thrown C (bs h fl) fl e .none h2 := by
  obtain ⟨t0, he⟩ := X.ob
  refine ⟨dx, cx, ⟨fun b o q => hk b o (of_hideAll _ q), ?_, K.funs hk _ fun a ha => hideAll_none _ ha, _, _, he, rfl, rfl, rfl, Nat.le_of_ble_eq_true rfl, rfl, .inl ⟨rfl, rfl⟩⟩, fun e => ⟨(hc e).1, mA, x, t, X.dc, (hc e).2, fun hm => ?_, none_of_sub (fun b o q => of_hideAll _ q) hdn⟩⟩
  · exact none_of_sub (f := (bs h fl).get?) (fun b o q => of_hideAll _ q) hn
  · obtain ⟨o, z, _⟩ := K.mem hm
    rw [hdn] at z; cases z
theorem thrown_note {Q : Unit → Shared → Prop} (hfr : A.frames = some (env :: outer)) (hf : env.frame = some L) (T : Thrown C B (env :: outer) e .none s.heap)
    (h : ∀ h', Thrown C B (env :: outer) e (rawInt L) h' → s.heap.UpToSlots h' → Q () { s with heap := h' }) : wpAny M A (noteFrame (.ref e) env) Q E s := by
  obtain ⟨dx, cx, F, D⟩ := T.ex
  exact fly_note hfr hf F fun h' F' U => h h' ⟨dx, cx, F', told_slots D U⟩ U
theorem thrown_set {Q : Unit → Shared → Prop} (T : Thrown C B fl e fv s.heap)
    (h : ∀ h', Thrown C B fl e .none h' → s.heap.UpToSlots h' → Q () { s with heap := h' }) : wpAny M A (setFlight (.ref e) none) Q E s := by
  obtain ⟨dx, cx, F, D⟩ := T.ex
  exact fly_set F fun h' F' U => h h' ⟨dx, cx, F', told_slots D U⟩ U
theorem thrown_again {Q : Unit → Shared → Prop} (hf : env.frame = some L) (T : Thrown C B fl e (rawInt L) s.heap) (h : Q () s) : wpAny M A (noteFrame (.ref e) env) Q E s := by
  obtain ⟨dx, cx, F, D⟩ := T.ex
  obtain ⟨f1, f2, f3, oe, vs, he, hc, hdx, hd, hsz, h2, h1⟩ := F
  rcases h1 with ⟨_, h1⟩ | ⟨T, oT, ts, h1, hnT, hTe, hT, hdT, h3⟩
  · simp [rawInt] at h1
  unfold noteFrame
  simp only [hf]
  refine wpAny_bind (wpAny_field he hd h1 ?_)
  rw [if_pos (show (Value.ref T != Value.none) = true from by simp)]
  refine wpAny_bind (wpAny_field hT hdT h3 ?_)
  rw [if_pos (show (rawInt L == rawInt L) = true from by simp)]
  exact wpAny_pure h
theorem Thrown.tail {h : Heap} (T : Thrown C B (env :: outer) e fv h) : Thrown C B outer e fv h :=
  let ⟨dx, cx, F, r⟩ := T.ex; ⟨dx, cx, F.tail, fun e => let ⟨a, mA, x, t, d, y, z, u⟩ := r e; ⟨a, mA, x, t, d, y, fun q => z (fa_sub q), u⟩⟩
theorem Thrown.base {B' h : Heap} (T : Thrown C B' fl e fv h) (k : B.StaysIn B') : Thrown C B fl e fv h :=
  let ⟨dx, cx, F, r⟩ := T.ex; ⟨dx, cx, F.base k, fun e => let ⟨a, mA, x, t, d, y, z, u⟩ := r e; ⟨a, mA, x, t, d, y, z, fresh_of_stays k u⟩⟩
theorem thrown_leave {Q : Unit → Shared → Prop} (hfr : A.frames = some (env :: outer)) (hf : env.frame = some L) (T : Thrown C B (env :: outer) e fv s.heap) (hfv : fv = .none ∨ fv = rawInt L)
    (h : ∀ h', Thrown C B outer e .none h' → s.heap.UpToSlots h' → Q () { s with heap := h' }) : wpAny M A (leaving env (.ref e)) Q E s := by
  unfold leaving
  rcases hfv with rfl | rfl
  · exact wpAny_bind (thrown_note hfr hf T fun h1 T1 U1 => thrown_set T1 fun h2 T2 U2 => h h2 T2.tail (U1.trans U2))
  · exact wpAny_bind (thrown_again hf T (thrown_set T fun h2 T2 U2 => h h2 T2.tail U2))
theorem thrown_field (T : Thrown C B fl e (rawInt L) s.heap) {Q : Value → Shared → Prop} (h : ∀ T0, Q (.ref T0) s) : wpAny M A (field (.ref e) 1) Q E s := by
  obtain ⟨dx, cx, F, D⟩ := T.ex
  obtain ⟨f1, f2, f3, oe, vs, he, hc, hdx, hd, hsz, h2, h1⟩ := F
  rcases h1 with ⟨_, h1⟩ | ⟨T, oT, ts, h1, _⟩
  · simp [rawInt] at h1
  exact wpAny_field he hd h1 (h _)
theorem thrown_setL (T : Thrown C B fl e (rawInt L) s.heap) {Q : Unit → Shared → Prop} (h : ∀ h', Thrown C B fl e (rawInt L) h' → s.heap.UpToSlots h' → Q () { s with heap := h' }) :
    wpAny M A (setFlight (.ref e) (some L)) Q E s := by
  obtain ⟨dx, cx, F, D⟩ := T.ex
  obtain ⟨f1, f2, f3, oe, vs, he, hc, hdx, hd, hsz, h2, h1⟩ := F
  rcases h1 with ⟨_, h1⟩ | ⟨T, oT, ts, h1, hnT, hTe, hT, hdT, h3⟩
  · simp [rawInt] at h1
  unfold setFlight
  refine wpAny_bind (wpAny_field he hd h1 ?_)
  rw [if_pos (show (Value.ref T != Value.none) = true from by simp)]
  have hsz3 : 3 < ts.size := (Array.getElem?_eq_some_iff.mp h3).1
  have other : ∀ b, b ≠ T → (s.heap.update T (Obj.mapFields (·.setIfInBounds 3 ((some L).elim Value.none fun f => rawInt f)))).get? b = s.heap.get? b := fun b hb => Heap.get?_update_other _ _ (Ne.symm hb)
  have noRecord : ∀ b o, s.heap.get? b = some o → (∀ vs, o.data ≠ .fields vs) → b ≠ T := fun b o hb hnf q => by
    rw [q, hT] at hb; injection hb with hb; subst hb; exact hnf ts hdT
  have U : s.heap.UpToSlots (s.heap.update T (Obj.mapFields (·.setIfInBounds 3 ((some L).elim Value.none fun f => rawInt f)))) := fun b o hb hnf => ⟨o.slots, (other b (noRecord b o hb hnf)).trans hb⟩
  refine wpAny_setField hT hdT hsz3 (h _ ⟨dx, cx, ⟨fun b o q => (other b fun z => by rw [z, hnT] at q; cases q).trans (f1 b o q), f2, f3.of_keeps fun b o hb hnf => ⟨o, (other b (noRecord b o hb hnf)).trans hb, rfl⟩, ?_⟩, told_slots D U⟩ U)
  exact ⟨oe, vs, (other e (Ne.symm hTe)).trans he, hc, hdx, hd, hsz, h2, .inr ⟨T, _, _, h1, hnT, hTe, Heap.get?_update_self _ hT (Obj.isFreed_of_fields (Obj.data_mapFields hdT _)), Obj.data_mapFields hdT _, by simp [hsz3]⟩⟩
theorem thrown_back (hf : env.frame = some L) (T : Thrown C B fl e (rawInt L) s.heap) (h : ∀ h', Thrown C B fl e (rawInt L) h' → s.heap.UpToSlots h' → E (.ref e) { s with heap := h' }) : cameBackBy M A env E (.ref e) s := by
  unfold cameBackBy
  refine wpAny_bind (thrown_field T fun T0 => ?_)
  rw [if_neg (by simp), hf]
  exact thrown_setL T h
theorem thrown_pass {what : String} {N : Value → Shared → Prop} {Q : Flow → Shared → Prop} (hf : env.frame = some L) (T : Thrown C B fl e (rawInt L) s.heap) (h : ∀ h', Thrown C B fl e (rawInt L) h' → s.heap.UpToSlots h' → N (.ref e) { s with heap := h' }) : wpAny M A (PySem.passOn what (.ref e) env : Sem Flow) Q N s := by
  unfold PySem.passOn
  refine wpAny_bind (thrown_field T fun T0 => ?_)
  rw [if_neg (by simp), hf]
  exact wpAny_bind (thrown_setL T fun h' T' U' => wpAny_throw (h h' T' U'))
/-- through a loop or a clause of the same frame -/
theorem thrown_own {A' : Around} (hfr : A'.frames = some (env :: outer)) (hf : env.frame = some L) (T : Thrown C B (env :: outer) e .none s.heap)
    (h : ∀ h', Thrown C B (env :: outer) e (rawInt L) h' → s.heap.UpToSlots h' → E (.ref e) { s with heap := h' }) : notedBy M A' env (fun e s' => cameBackBy M A env E e s') (.ref e) s := by
  unfold notedBy
  exact thrown_note hfr hf T fun h1 T1 U1 => thrown_back hf T1 fun h2 T2 U2 => h h2 T2 (U1.trans U2)
end
section
variable {w : World} {A : Around} {s : Shared} {g h h2 : Heap} {k r : PF} {L e C : Addr} {μ : List (Addr × Obj)} {m : Str → Option Value} {fl : List Env} {env : Env} {R : Result → Shared → Prop} {fv : Value} {gn : Array GenState} {d : Drawn} {tk : Nat} {os : OsState}
theorem Stk.push2 (K : Stk A fl s.heap) (U0 : s.heap.UpToSlots h) (S : St g k r L μ h m) (hf : env.frame = some L) (hm : env.scope.kind ≠ .module) : Stk (A.deeper env) (env :: fl) h := by
  refine ⟨by show A.frames.map _ = _; rw [K.fr]; rfl, fun e he => ?_⟩
  rcases List.mem_cons.mp he with rfl | he
  · obtain ⟨o, es, ep, e1, e2, _⟩ := S.ns
    exact ⟨hm, L, o, hf, e1, fun vs q => by rw [e2] at q; cases q⟩
  · obtain ⟨a, L', o, b, c, d⟩ := K.fu e he
    obtain ⟨sl, z⟩ := U0 _ _ c d
    exact ⟨a, L', _, b, z, d⟩
theorem up_of (hk : k = kOf s.heap []) (S : St g k r L μ h m) : s.heap.UpToSlots h := Heap.UpToSlots.of_keeps fun b o q => S.kk _ _ (by rw [hk, kOf_nil]; exact q)
theorem Stk.push (K : Stk A fl s.heap) (hk : k = kOf s.heap []) (S : St g k r L μ h m) (hf : env.frame = some L) (hm : env.scope.kind ≠ .module) : Stk (A.deeper env) (env :: fl) h := K.push2 (up_of hk S) S hf hm
theorem stays_base (hk : ∀ b o, (bs s.heap fl).get? b = some o → k b = some o) (hL : s.heap.get? L = none) (hf : env.frame = some L) (S : St g k r L μ h m) : (bs s.heap fl).StaysIn (bs h (env :: fl)) := by
  intro b o q
  have q1 : s.heap.get? b = some o := of_hideAll _ q
  have q2 : b ∉ fa fl := fun hm => by rw [show bs s.heap fl = hideAll s.heap (fa fl) from rfl, hideAll_none _ hm] at q; cases q
  refine hideAll_get _ (S.kk _ _ (hk _ _ q)) fun hm => ?_
  rw [show fa (env :: fl) = L :: fa fl from by unfold fa; rw [List.filterMap_cons, hf]] at hm
  rcases List.mem_cons.mp hm with rfl | hm
  · rw [hL] at q1; cases q1
  · exact q2 hm
/-- out of the frame -/
theorem raise_end2 (K : Stk A fl s.heap) (hk : ∀ b o, (bs s.heap fl).get? b = some o → k b = some o) (U : s.heap.UpToSlots h2) (hL : s.heap.get? L = none) (hf : env.frame = some L) (S : St g k r L μ h m) (T : Thrown C (bs h (env :: fl)) (env :: fl) e fv h2) (hfv : fv = .none ∨ fv = rawInt L)
    (hR : ∀ h', Thrown C (bs s.heap fl) fl e .none h' → s.heap.UpToSlots h' → R (.error (.ref e)) ⟨h', gn, d, tk, os⟩) :
    wpAny (model PR w) (A.deeper env) (leaving env (.ref e)) (fun _ s'' => R (.error (.ref e)) s'') (fun e' s'' => R (.error e') s'') ⟨h2, gn, d, tk, os⟩ :=
  thrown_leave (by show A.frames.map _ = _; rw [K.fr]; rfl) hf T hfv fun h' T' U' => hR h' (T'.base (stays_base hk hL hf S)) (U.trans U')
theorem raise_end (K : Stk A fl s.heap) (hk : k = kOf s.heap []) (hL : s.heap.get? L = none) (hf : env.frame = some L) (S : St g k r L μ h m) (T : Thrown C (bs h (env :: fl)) (env :: fl) e fv h2) (hfv : fv = .none ∨ fv = rawInt L) (U : h.UpToSlots h2)
    (hR : ∀ h', Thrown C (bs s.heap fl) fl e .none h' → s.heap.UpToSlots h' → R (.error (.ref e)) ⟨h', gn, d, tk, os⟩) :
    wpAny (model PR w) (A.deeper env) (leaving env (.ref e)) (fun _ s'' => R (.error (.ref e)) s'') (fun e' s'' => R (.error e') s'') ⟨h2, gn, d, tk, os⟩ :=
  raise_end2 K (fun b o q => by rw [hk, kOf_nil]; exact of_hideAll _ q) ((up_of hk S).trans U) hL hf S T hfv hR
theorem off_push {g h : Heap} {k r : PF} {L : Addr} {μ : List (Addr × Obj)} {m : Str → Option Value} {fl : List Env} {env : Env} (hoff : ∀ a ∈ fa fl, g.get? a = none) (S : St g k r L μ h m) (hf : env.frame = some L) : ∀ a ∈ fa (env :: fl), g.get? a = none := by
  intro a ha
  rw [show fa (env :: fl) = L :: fa fl from by unfold fa; rw [List.filterMap_cons, hf]] at ha
  rcases List.mem_cons.mp ha with rfl | ha
  · cases q : g.get? a with
    | none => rfl
    | some o => have := S.gk a o q; rw [S.kL] at this; cases this
  · exact hoff a ha
theorem up_same {s h h' : Heap} {L : Addr} (U : s.UpToSlots h) (hs : Heap.SameBut L h h') (hL : s.get? L = none) : s.UpToSlots h' := fun b o e hn =>
  let ⟨sl, q⟩ := U b o e hn; ⟨sl, (hs.2 b fun z => by rw [z, hL] at e; cases e).trans q⟩
/-- the frame after a catch: what stands in the base is kept -/
theorem St.caught (S : St g k r L μ h m) (hk : ∀ b o, (bs s.heap fl).get? b = some o → k b = some o) (hL : s.heap.get? L = none) (hf : env.frame = some L) (hoff : ∀ a ∈ fa fl, g.get? a = none) (hg : ∀ b o, g.get? b = some o → s.heap.get? b = some o)
    (hst : (bs h (env :: fl)).StaysIn h2) (U : h.UpToSlots h2) : St g (bs s.heap fl).get? (fun _ => none) L [] h2 m where
  ns := U.ns S.ns
  gk := fun b o q => hideAll_get _ (hg b o q) fun hm => by rw [hoff b hm] at q; cases q
  kk := fun b o q => hst b o (stays_base hk hL hf S b o q)
  rr := fun _ _ q => nomatch q
  kL := by
    cases q : (bs s.heap fl).get? L with
    | none => rfl
    | some o => rw [of_hideAll _ q] at hL; cases hL
  rL := rfl
  rk := fun _ _ q => nomatch q
  mu := fun _ q => nomatch q
  nd := .nil
theorem funs_weak {B : Heap} {h h' : Heap} (k : ∀ b o, h.get? b = some o → (∀ vs, o.data ≠ .fields vs) → ∃ o', h'.get? b = some o' ∧ ∀ vs, o'.data ≠ .fields vs) : ∀ {l : List Env}, h.FunFrames B l → h'.FunFrames B l
  | [], _ => trivial
  | _ :: _, ⟨hk, ⟨L, o, hf, hn, ho, hd⟩, hr⟩ => let ⟨o', a, b⟩ := k L o ho hd; ⟨hk, ⟨L, o', hf, hn, a, b⟩, funs_weak k hr⟩
/-- a write into the frame's own names -/
theorem Thrown.writeL {B : Heap} {outer : List Env} {h' : Heap} {m' : Str → Option Value} (T : Thrown C B (env :: outer) e fv h) (hC : C ≠ 70) (hf : env.frame = some L) (hs : Heap.SameBut L h h') (hn : h'.Ns L m') : Thrown C B (env :: outer) e fv h' := by
  obtain ⟨dx, cx, F, D⟩ := T.ex
  obtain ⟨f1, f2, f3, oe, vs, he, hc, hdx, hd, hsz, h2, h1⟩ := F
  obtain ⟨oL', es, ep, e1, e2, _⟩ := hn
  have ⟨_, ⟨L', oL, hf', hnL, hoL, hdL⟩, _⟩ := f3
  obtain rfl : L' = L := Option.some.inj (hf'.symm.trans hf)
  have other : ∀ b, b ≠ L' → h'.get? b = h.get? b := hs.2
  have rec_ne : ∀ b o vs, h.get? b = some o → o.data = .fields vs → b ≠ L' := fun b o vs hb hv q => by
    rw [q, hoL] at hb; injection hb with hb; subst hb; exact hdL vs hv
  refine ⟨dx, cx, ⟨fun b o q => (other b fun z => by rw [z, hnL] at q; cases q).trans (f1 b o q), f2, funs_weak (fun b o hb hnf => ?_) f3, oe, vs, (other e (rec_ne _ _ _ he hd)).trans he, hc, hdx, hd, hsz, h2, ?_⟩, fun z => absurd z hC⟩
  · by_cases q : b = L'
    · subst q; exact ⟨_, e1, fun vs z => by rw [e2] at z; cases z⟩
    · exact ⟨o, (other b q).trans hb, hnf⟩
  · rcases h1 with h1 | ⟨T, oT, ts, h1, hnT, hTe, hT, hdT, h3⟩
    · exact .inl h1
    · exact .inr ⟨T, oT, ts, h1, hnT, hTe, (other T (rec_ne _ _ _ hT hdT)).trans hT, hdT, h3⟩
end
end

-- E8
section
open PySem PySem.W PyProof.Rows PySem.Calls PySem.Builtin PySem.Builtin.ObjectAttr
section
variable {w : World} {A : Around} {E : Value → Shared → Prop} {s : Shared} {env : Env} {e C fI : Addr} {K : Frag} {t : Expr} {n : Str} {b₀ : Stmt} {suite : List Stmt} {pos : Pos} {rest : List ExceptHandler} {Q : Flow → Shared → Prop}
theorem handle_as (O : Own K C fI)
    (h : wpAny (model PR w) (A.mark (some (.ref e))) (eval t env) (fun c s₁ => c = .ref C ∧ K.In s₁.heap ∧ (∃ oe, s₁.heap.get? e = some oe ∧ oe.cls = .ref C) ∧
      wpAny (model PR w) (A.mark (some (.ref e))) (setFlight (.ref e) none) (fun _ s₂ =>
          wpAny (model PR w) (A.mark (some (.ref e))) (storeName env n (.ref e)) (fun _ s₃ =>
            wpAny (model PR w) (A.mark (some (.ref e))) (execs (b₀ :: suite) env)
              (fun f s₄ => wpAny (model PR w) A (do bindName env n .none; unbindBehindTheSuite env n pos) (fun _ s₅ => Q f s₅) E s₄)
              (AsSuiteRaised (model PR w) (A.mark (some (.ref e))) env n pos (notedBy (model PR w) (A.mark (some (.ref e))) env (cameBackBy (model PR w) A env E))) s₃) (notedBy (model PR w) (A.mark (some (.ref e))) env (cameBackBy (model PR w) A env E)) s₂) (notedBy (model PR w) (A.mark (some (.ref e))) env (cameBackBy (model PR w) A env E)) s₁) (notedBy (model PR w) (A.mark (some (.ref e))) env (cameBackBy (model PR w) A env E)) s) :
    wpAny (model PR w) A (handleBy (.ref e) env (.ExceptHandler (some t) (some n) (b₀ :: suite) pos :: rest)) Q E s := by
  refine wpAny_handleBy_cons (codeAny_handlers_test (wpAny_mono h (fun c s₁ h₁ => ?_) fun _ _ y => y)) (by intro q; cases q)
  obtain ⟨rfl, X, ⟨oe, he, hcls⟩, hk⟩ := h₁
  obtain ⟨nm, q, N, k0, k2, k3, k5, ho⟩ := O.obj
  obtain ⟨hh, g, d, tk, os⟩ := s₁
  exact wpAny_excMatches_sub_self (X _ _ ho) he hcls rfl (codeAny_handlers_suite_as hk)
theorem handle_plain (O : Own K C fI)
    (h : wpAny (model PR w) (A.mark (some (.ref e))) (eval t env) (fun c s₁ => c = .ref C ∧ K.In s₁.heap ∧ (∃ oe, s₁.heap.get? e = some oe ∧ oe.cls = .ref C) ∧
      wpAny (model PR w) (A.mark (some (.ref e))) (setFlight (.ref e) none) (fun _ s₂ => wpAny (model PR w) (A.mark (some (.ref e))) (execs (b₀ :: suite) env) Q (notedBy (model PR w) (A.mark (some (.ref e))) env (cameBackBy (model PR w) A env E)) s₂) (notedBy (model PR w) (A.mark (some (.ref e))) env (cameBackBy (model PR w) A env E)) s₁) (notedBy (model PR w) (A.mark (some (.ref e))) env (cameBackBy (model PR w) A env E)) s) :
    wpAny (model PR w) A (handleBy (.ref e) env (.ExceptHandler (some t) none (b₀ :: suite) pos :: rest)) Q E s := by
  refine wpAny_handleBy_cons (codeAny_handlers_test (wpAny_mono h (fun c s₁ h₁ => ?_) fun _ _ y => y)) (by intro q; cases q)
  obtain ⟨rfl, X, ⟨oe, he, hcls⟩, hk⟩ := h₁
  obtain ⟨nm, q, N, k0, k2, k3, k5, ho⟩ := O.obj
  obtain ⟨hh, g, d, tk, os⟩ := s₁
  exact wpAny_excMatches_sub_self (X _ _ ho) he hcls rfl (codeAny_handlers_suite hk)
end
end

-- T6
section
open PySem PySem.W PyProof.Rows PySem.Calls
set_option maxHeartbeats 4000000 in
theorem coded_raise {w : World} {A : Around} {s : Shared} {R : Result → Shared → Prop} {mg mb : Str → Option Value} {g : Heap} {fl : List Env} (G : Gl w mg mb g) (hg : ∀ b o, g.get? b = some o → s.heap.get? b = some o) (hroom : A.depth + 3 < recursionLimit) (hh : A.handled = none) (K : Stk A fl s.heap)
    (n : Nat) (t1 : Tok) (hn : 1114111 < n) (hR : ∀ e h' tk, Thrown 70 (bs s.heap fl) fl e .none h' → s.heap.UpToSlots h' → R (.error (.ref e)) { s with heap := h', toks := tk }) :
    codeAny (model PR w) A (.call (.ref 87) ⟨[.int n t1], []⟩) R s := by
  have hroom' : A.depth < recursionLimit := by omega
  refine' enter_ (binds := [(Str.ofString "code", .int n t1)]) [] G hg (fun _ hp => nomatch hp) .nil ?ho ?hcd hroom' ?hbind ?hloc ?h ?c1 ?c2 ?c3 ?c4
  walk_at "mSides"
  repeat walk_at "m"
  refine ite_t (decide_eq_true (by omega)) ?_
  walk_at "mRaise"
set_option maxHeartbeats 4000000 in
theorem braced_raise1 {w : World} {A : Around} {s : Shared} {R : Result → Shared → Prop} {mg mb : Str → Option Value} {g : Heap} {fl : List Env} (G : Gl w mg mb g) (hg : ∀ b o, g.get? b = some o → s.heap.get? b = some o) (hroom : A.depth + 3 < recursionLimit) (hh : A.handled = none) (K : Stk A fl s.heap)
    (x : Str) (at_ b : Int) (t1 t2 t3 : Tok) (hx : Txt.find3 x (Str.ofString "}") at_ = -1)
    (hR : ∀ e h' tk, Thrown 70 (bs s.heap fl) fl e .none h' → s.heap.UpToSlots h' → R (.error (.ref e)) { s with heap := h', toks := tk }) :
    codeAny (model PR w) A (.call (.ref 94) ⟨[.str x t1, .int at_ t2, .int b t3], []⟩) R s := by
  have hroom' : A.depth < recursionLimit := by omega
  refine' enter_ (binds := [(Str.ofString "text", .str x t1), (Str.ofString "at", .int at_ t2), (Str.ofString "base", .int b t3)]) [] G hg (fun _ hp => nomatch hp) .nil ?ho ?hcd hroom' ?hbind ?hloc ?h ?c1 ?c2 ?c3 ?c4
  walk_at "mSides"
  repeat walk_at "m"
  refine SC.find3 ?_
  rw [hx]
  repeat walk_at "m"
  walk_at "mRaise"
set_option maxHeartbeats 4000000 in
theorem braced_raise2 {w : World} {A : Around} {s : Shared} {R : Result → Shared → Prop} {mg mb : Str → Option Value} {g : Heap} {fl : List Env} (G : Gl w mg mb g) (hg : ∀ b o, g.get? b = some o → s.heap.get? b = some o) (hroom : A.depth + 4 < recursionLimit) (hh : A.handled = none) (K : Stk A fl s.heap)
    (x : Str) (b0 : Nat) (hb0 : b0 ≠ 125) (pre ds rest : List Nat) (at_ : Int) (b : Nat) (t1 t2 t3 : Tok) (hx : x = tx (pre ++ b0 :: ds ++ 125 :: rest)) (hlx : (pre ++ b0 :: ds ++ 125 :: rest).length < 10000000) (hat : at_ = (pre.length : Int)) (hb : 8 ≤ b) (hb' : b ≤ 16) (hds : ∀ c ∈ ds, IsDig b c) (hv : 1114111 < val b ds)
    (hR : ∀ e h' tk, Thrown 70 (bs s.heap fl) fl e .none h' → s.heap.UpToSlots h' → R (.error (.ref e)) { s with heap := h', toks := tk }) :
    codeAny (model PR w) A (.call (.ref 94) ⟨[.str x t1, .int at_ t2, .int b t3], []⟩) R s := by
  have hroom' : A.depth < recursionLimit := by omega
  refine' enter_ (binds := [(Str.ofString "text", .str x t1), (Str.ofString "at", .int at_ t2), (Str.ofString "base", .int b t3)]) [] G hg (fun _ hp => nomatch hp) .nil ?ho ?hcd hroom' ?hbind ?hloc ?h ?c1 ?c2 ?c3 ?c4
  walk_at "mSides"
  repeat walk_at "m"
  refine SC.find3 ?_
  subst hat
  rw [hx, show Str.ofString "}" = tx [125] from by decide +kernel, find_from (pre := pre) (mid := b0 :: ds) (c := 125) (rest := rest) (by simp) (fun hm => (List.mem_cons.mp hm).elim (fun e => hb0 e.symm) fun hm => IsDig.ne_brace (hds _ hm))]
  dsimp only
  repeat walk_at "m"
  have hl1 : (pre ++ b0 :: ds ++ 125 :: rest).take (pre.length + (b0 :: ds).length) = pre ++ [b0] ++ ds ++ [] := by
    rw [show pre.length + (b0 :: ds).length = (pre ++ b0 :: ds).length by simp, List.take_left' rfl]; simp
  have hln : (pre ++ b0 :: ds ++ 125 :: rest).length = pre.length + ds.length + rest.length + 2 := by simp; omega
  (with_reducible refine sliceS0 S hx rfl ?hb1 ?hb2 (fun h' t' tk' S => ?_) ?hs ?ht)
  case hb1 => simp
  case hb2 => omega
  case hs => with_unfolding_all rfl
  case ht => intro _; with_unfolding_all rfl
  repeat walk_at "m"
  rw [hl1]
  refine call_ fun R' hr' _ => digits_ok (A := A.deeper env) (s := ⟨_, _, _, _, _⟩) G S.gg (by show A.depth + 1 < _; omega) hh _ (pre ++ [b0]) ds [] _ _ b _ _ _ _ rfl (by simp; omega) (by simp) hb hb' hds (by simp; omega) (.inl rfl) (fun h2 tk2 a2 u2 v2 hs2 hget2 => hr' _ _ ?_)
  replace S := S.grow hs2.stays
  dsimp only
  refine assignTup S hh hget2 rfl rfl (fun h3 S => ?_)
  repeat walk_at "m"
  have hvm : vmin b ds = 1114112 := by rw [vmin_is b (by omega)]; omega
  rw [hvm]
  have hfr : env.frame = some L := by rw [he]; rfl
  refine call_ fun R' _ he' => coded_raise (A := A.deeper env) (s := ⟨_, _, _, _, _⟩) (fl := env :: fl) G S.gg (by show A.depth + 1 + 3 < _; omega) hh (K.push hk S hfr (by rw [he]; intro z; cases z)) _ _ (by decide) (fun e h2 tk2 T2 U2 => he' _ _ (hE _ _ ?_))
  walk_at "mPass"
end

-- T7
section
open PySem PySem.W PyProof.Rows PySem.Calls
inductive Bad : List Nat → Prop
  | a : Bad [92, 120, 123, 52, 49]
  | b : Bad [92, 120, 123, 49, 49, 48, 48, 48, 48, 125]
  | c : Bad [92, 111, 123, 52, 50, 48, 48, 48, 48, 48, 125]
  | d : Bad [92, 78, 123, 85, 43]
theorem isDig_dec {b c : Nat} (h : figs[dig c]? = some c ∧ dig c < b) : IsDig b c := h
set_option maxHeartbeats 4000000 in
theorem escape_raise {w : World} {A : Around} {s : Shared} {R : Result → Shared → Prop} {mg mb : Str → Option Value} {g : Heap} {fl : List Env} (G : Gl w mg mb g) (hg : ∀ b o, g.get? b = some o → s.heap.get? b = some o) (hroom : A.depth + 5 < recursionLimit) (hh : A.handled = none) (K : Stk A fl s.heap)
    (x : Str) (l : List Nat) (t1 t2 : Tok) (hx : x = tx l) (hl0 : Bad l)
    (hR : ∀ e h' tk, Thrown 70 (bs s.heap fl) fl e .none h' → s.heap.UpToSlots h' → R (.error (.ref e)) { s with heap := h', toks := tk }) :
    codeAny (model PR w) A (.call (.ref 101) ⟨[.str x t1, .int 0 t2], []⟩) R s := by
  have hroom' : A.depth < recursionLimit := by omega
  refine' enter_ (binds := [(Str.ofString "text", .str x t1), (Str.ofString "at", .int 0 t2)]) [] G hg (fun _ hp => nomatch hp) .nil ?ho ?hcd hroom' ?hbind ?hloc ?h ?c1 ?c2 ?c3 ?c4
  walk_at "mSides"
  have hfr : env.frame = some L := by rw [he]; rfl
  repeat walk_at "m"
  cases hl0 with
  | a =>
    refine sliceM [92] [120] [123, 52, 49] S hx rfl rfl (by decide) (fun h' t' tk' S => ?_) ?hs ?ht
    walk_at "mHT"
    repeat walk_at "m"
    refine inD ((short_map G).keep S.gg) (by decide) ?_
    repeat walk_at "m"
    refine sliceM [92, 120] [123] [52, 49] S hx rfl rfl (by decide) (fun h' t' tk' S => ?_) ?hs ?ht
    walk_at "mHT"
    repeat walk_at "m"
    refine call_ fun R' _ he' => braced_raise1 (A := A.deeper env) (s := ⟨_, _, _, _, _⟩) (fl := env :: fl) G S.gg (by show A.depth + 1 + 3 < _; omega) hh (K.push hk S hfr (by rw [he]; intro z; cases z)) _ _ _ _ _ _ (by subst hx; decide +kernel) (fun e h2 tk2 T2 U2 => he' _ _ (hE _ _ ?_))
    walk_at "mPass"
  | b =>
    refine sliceM [92] [120] [123, 49, 49, 48, 48, 48, 48, 125] S hx rfl rfl (by decide) (fun h' t' tk' S => ?_) ?hs ?ht
    walk_at "mHT"
    repeat walk_at "m"
    refine inD ((short_map G).keep S.gg) (by decide) ?_
    repeat walk_at "m"
    refine sliceM [92, 120] [123] [49, 49, 48, 48, 48, 48, 125] S hx rfl rfl (by decide) (fun h' t' tk' S => ?_) ?hs ?ht
    walk_at "mHT"
    repeat walk_at "m"
    refine call_ fun R' _ he' => braced_raise2 (A := A.deeper env) (s := ⟨_, _, _, _, _⟩) (fl := env :: fl) G S.gg (by show A.depth + 1 + 4 < _; omega) hh (K.push hk S hfr (by rw [he]; intro z; cases z)) _ 123 (by decide) [92, 120] [49, 49, 48, 48, 48, 48] [] _ 16 _ _ _ hx (by decide) rfl (by decide) (by decide) (by simp only [List.mem_cons, List.not_mem_nil, or_false]; rintro c (rfl | rfl | rfl | rfl | rfl | rfl) <;> exact isDig_dec (by decide)) (by decide) (fun e h2 tk2 T2 U2 => he' _ _ (hE _ _ ?_))
    walk_at "mPass"
  | c =>
    refine sliceM [92] [111] [123, 52, 50, 48, 48, 48, 48, 48, 125] S hx rfl rfl (by decide) (fun h' t' tk' S => ?_) ?hs ?ht
    walk_at "mHT"
    repeat walk_at "m"
    refine inD ((short_map G).keep S.gg) (by decide) ?_
    repeat walk_at "m"
    refine sliceM [92, 111] [123] [52, 50, 48, 48, 48, 48, 48, 125] S hx rfl rfl (by decide) (fun h' t' tk' S => ?_) ?hs ?ht
    walk_at "mHT"
    repeat walk_at "m"
    refine call_ fun R' _ he' => braced_raise2 (A := A.deeper env) (s := ⟨_, _, _, _, _⟩) (fl := env :: fl) G S.gg (by show A.depth + 1 + 4 < _; omega) hh (K.push hk S hfr (by rw [he]; intro z; cases z)) _ 123 (by decide) [92, 111] [52, 50, 48, 48, 48, 48, 48] [] _ 8 _ _ _ hx (by decide) rfl (by decide) (by decide) (by simp only [List.mem_cons, List.not_mem_nil, or_false]; rintro c (rfl | rfl | rfl | rfl | rfl | rfl | rfl) <;> exact isDig_dec (by decide)) (by decide) (fun e h2 tk2 T2 U2 => he' _ _ (hE _ _ ?_))
    walk_at "mPass"
  | d =>
    refine sliceM [92] [78] [123, 85, 43] S hx rfl rfl (by decide) (fun h' t' tk' S => ?_) ?hs ?ht
    walk_at "mHT"
    repeat walk_at "m"
    refine inD ((short_map G).keep S.gg) (by decide) ?_
    repeat walk_at "m"
    refine sliceM [92, 78] [123, 85, 43] [] S hx rfl rfl (by decide) (fun h' t' tk' S => ?_) ?hs ?ht
    walk_at "mHT"
    repeat walk_at "m"
    refine call_ fun R' _ he' => braced_raise1 (A := A.deeper env) (s := ⟨_, _, _, _, _⟩) (fl := env :: fl) G S.gg (by show A.depth + 1 + 3 < _; omega) hh (K.push hk S hfr (by rw [he]; intro z; cases z)) _ _ _ _ _ _ (by subst hx; decide +kernel) (fun e h2 tk2 T2 U2 => he' _ _ (hE _ _ ?_))
    walk_at "mPass"
end

-- T8
section
open PySem PySem.W PyProof.Rows PySem.Calls
set_option maxHeartbeats 4000000 in
theorem guarded_raise {w : World} {A : Around} {s : Shared} {R : Result → Shared → Prop} {mg mb : Str → Option Value} {g : Heap} {fl : List Env} (G : Gl w mg mb g) (hg : ∀ b o, g.get? b = some o → s.heap.get? b = some o) (hroom : A.depth + 6 < recursionLimit) (hh : A.handled = none) (K : Stk A fl s.heap) (hoff : ∀ a ∈ fa fl, g.get? a = none)
    (x : Str) (l : List Nat) (t1 t2 : Tok) (hx : x = tx l) (hl0 : Bad l)
    (hR : ∀ e h' tk, Thrown 51 (bs s.heap fl) fl e .none h' → s.heap.UpToSlots h' → R (.error (.ref e)) { s with heap := h', toks := tk }) :
    codeAny (model PR w) A (.call (.ref 136) ⟨[.str x t1, .int 0 t2], []⟩) R s := by
  have hroom' : A.depth < recursionLimit := by omega
  refine' enter_ (binds := [(Str.ofString "text", .str x t1), (Str.ofString "at", .int 0 t2)]) [] G hg (fun _ hp => nomatch hp) .nil ?ho ?hcd hroom' ?hbind ?hloc ?h ?c1 ?c2 ?c3 ?c4
  walk_at "mSides"
  have hfr : env.frame = some L := by rw [he]; rfl
  have hk0 := hk
  rw [List.map_nil, kOf_nil] at hk0
  have hkb : ∀ b o, (bs s.heap fl).get? b = some o → k b = some o := fun b o q => by rw [hk0]; exact of_hideAll _ q
  have hfa : (A.deeper env).frames = some (env :: fl) := by show A.frames.map _ = _; rw [K.fr]; rfl
  have S0 := S
  refine xTry ?_
  repeat walk_at "m"
  refine call_ fun R' _ he' => escape_raise (A := A.deeper env) (s := ⟨_, _, _, _, _⟩) (fl := env :: fl) G S.gg (by show A.depth + 1 + 5 < _; omega) hh (K.push hk S hfr (by rw [he]; intro z; cases z)) _ l _ _ hx hl0 (fun e h2 tk2 T2 U2 => he' _ _ ?_)
  dsimp only
  refine thrown_note hfa hfr T2 fun h3 T3 U3 => ?_
  refine thrown_set T3 fun h4 T4 U4 => ?_
  have U24 := U2.trans (U3.trans U4)
  refine handle_as (own70 w) ?_
  clear S
  have S := S0.caught hkb hL hfr hoff hg T4.ex.choose_spec.choose_spec.1.stays U24
  repeat walk_at "m"
  obtain ⟨dx4, cx4, F4, D4⟩ := id T4.ex
  obtain ⟨oe4, vs4, a1, a2, -⟩ := F4.ob
  refine ⟨rfl, G.K.keeps S.gg, ⟨oe4, a1, a2⟩, ?_⟩
  refine thrown_set T4 fun h5 T5 U5 => ?_
  have U25 := U24.trans U5
  clear S
  obtain ⟨dx, cx, F5, D5⟩ := T5.ex
  have S := S0.caught hkb hL hfr hoff hg F5.stays U25
  obtain ⟨oe, vs, b1, b2, b3, b4, b5, b6, -⟩ := F5.ob
  obtain ⟨rfl, mA, xx, tt, ⟨od, c1, c2⟩, c3, c4, c5⟩ := D5 rfl
  have hst := stays_base (fl := fl) hkb hL hfr S0
  have eL : e ≠ L := fun z => by
    obtain ⟨oL, es, ep, q1, q2, _⟩ := S.ns
    rw [z, q1] at b1; cases b1; rw [q2] at b4; cases b4
  have ed : dx ≠ e := fun z => by
    obtain ⟨es, ep, q2, _⟩ := c2
    rw [z, b1] at c1; cases c1; rw [q2] at b4; cases b4
  have dL : dx ≠ L := fun z => c4 (by unfold fa; rw [List.filterMap_cons, hfr, z]; exact .head _)
  replace S := (S.add c1 ⟨dL, fresh_of_stays hst c5, rfl, fun q => nomatch q⟩).add b1 ⟨eL, fresh_of_stays hst F5.new, rfl, fun q => by rcases List.mem_cons.mp q with q | q; exact ed q.symm; cases q⟩
  have Us5 : s.heap.UpToSlots h5 := (up_of hk S0).trans U25
  refine wpAny_storeName_local (hkd _) (hl ▸ S.ns) (fun h6 hn6 hs6 => ?_) (by rw [hsk]; rfl)
  rw [hl] at hn6 hs6
  replace S := S.set hn6 hs6
  have Us6 := up_same Us5 hs6 hL
  have hh2 : ((A.deeper env).mark (some (.ref e))).handled = some (.ref e) := rfl
  refine xRaise2 (own51 w) hh2 ?_
  repeat walk_at "m"
  refine exc_get (own70 w) (G.K.keeps S.gg) (by k_is) (by k_is) (S.at (.head _)) b2 b4 b3 (S.at (.tail _ (.head _))) c2 c3 rfl fun tk' => ?_
  repeat walk_at "m"
  refine die_made G S.gg (by show A.depth + 1 + 2 < _; omega) fun h' tk' e2 dx2 mA2 hkp hen hdn hne X => ?_
  obtain ⟨t0, he0⟩ := X.ob
  have ne2 : e ≠ e2 := fun z => by have := S.at (.head _); rw [z, hen] at this; cases this
  refine ⟨e2, dx2, t0, oe, vs, rfl, G.K.keeps fun b o q => hkp _ _ (S.gg b o q), he0, ne2, hkp _ _ (S.at (.head _)), b4, b6, fun h7 hs7 he7 => ?_⟩
  have hkp7 : ∀ b o, h6.get? b = some o → h7.get? b = some o := fun b o q => (hs7.2 b fun z => by rw [z, hen] at q; cases q).trans (hkp b o q)
  have X7 : Exc 51 e2 dx2 mA2 (.ref e) h7 := ⟨⟨t0, he7⟩, let ⟨od2, z1, z2⟩ := X.dc; ⟨od2, (hs7.2 dx2 hne.symm).trans z1, z2⟩⟩
  have K6 : Stk (A.deeper env) (env :: fl) h6 := K.push2 Us6 S hfr (by rw [he]; intro z; cases z)
  have T7 := thrown_new (x := Str.ofString "") (t := 0) K6 hkp7 hen hdn X7 fun z => absurd z (by decide)
  refine thrown_note hfa hfr T7 fun h8 T8 U8 => ?_
  have hn8 : h8.Ns L _ := U8.ns (h := h7) (let ⟨o1, es, ep, q1, q2⟩ := hn6; ⟨o1, es, ep, hkp7 _ _ q1, q2⟩)
  refine wpAny_nameGoes (hkd _) (hl ▸ hn8) (by rw [hsk]; rfl) fun h9 m9 hn9 hs9 => ?_
  rw [hl] at hn9 hs9
  have T9 := T8.writeL (by decide) hfr hs9 hn9
  have U9 := up_same (Us6.trans ((Heap.UpToSlots.of_keeps hkp7).trans U8)) hs9 hL
  refine thrown_pass hfr T9 fun h10 T10 U10 => ?_
  refine thrown_again hfr T10 (thrown_back hfr T10 fun h11 T11 U11 => hE _ _ ?_)
  exact raise_end2 K (fun b o q => q) (U9.trans (U10.trans U11)) hL hfr S T11 (.inr rfl) fun h' T U => hR _ _ _ T U
theorem Bad.head {l : List Nat} (h : Bad l) : ∃ c q, l = 92 :: c :: q ∧ q.length < 20 := by
  cases h <;> exact ⟨_, _, rfl, by decide⟩
set_option maxHeartbeats 4000000 in
theorem signs_raise {w : World} {A : Around} {s : Shared} {R : Result → Shared → Prop} {mg mb : Str → Option Value} {g : Heap} {fl : List Env} (G : Gl w mg mb g) (hg : ∀ b o, g.get? b = some o → s.heap.get? b = some o) (hroom : A.depth + 7 < recursionLimit) (hh : A.handled = none) (K : Stk A fl s.heap) (hoff : ∀ a ∈ fa fl, g.get? a = none)
    (x : Str) (l : List Nat) (t1 : Tok) (hx : x = tx l) (hl0 : Bad l)
    (hR : ∀ e h' tk, Thrown 51 (bs s.heap fl) fl e .none h' → s.heap.UpToSlots h' → R (.error (.ref e)) { s with heap := h', toks := tk }) :
    codeAny (model PR w) A (.call (.ref 143) ⟨[.str x t1], []⟩) R s := by
  have hroom' : A.depth < recursionLimit := by omega
  refine' enter_ (binds := [(Str.ofString "text", .str x t1)]) [] G hg (fun _ hp => nomatch hp) .nil ?ho ?hcd hroom' ?hbind ?hloc ?h ?c1 ?c2 ?c3 ?c4
  walk_at "mSides"
  have hfr : env.frame = some L := by rw [he]; rfl
  have hfa : (A.deeper env).frames = some (env :: fl) := by show A.frames.map _ = _; rw [K.fr]; rfl
  repeat walk_at "m"
  refine newList_ S (fun fa0 h' S => ?_) (Nat.le_of_ble_eq_true rfl)
  repeat walk_at "m"
  refine while_ (fun q s' => ∃ h tk m t, s' = ⟨h, s.gens, s.drawn, tk, s.os⟩ ∧ St g k r L [(fa0, lst [] 0)] h m ∧ m (Str.ofString "text") = some (.str x t1) ∧ m (Str.ofString "found") = some (.ref fa0) ∧ m (Str.ofString "at") = some (.int 0 t)) ?turn 0 ?start
  case start =>
    refine ⟨_, _, _, _, rfl, S, ?_, ?_, upd_same⟩
    · walk_at "mLook"
    · walk_at "mLook"
  case turn =>
  clear S
  intro q s1 Qb Eb ⟨h, tk, m, t, hs, S, m1, m2, m3⟩ hnext hcont hbrk hret hEb
  subst hs
  obtain ⟨c, q, hlq, hq20⟩ := hl0.head
  repeat walk_at "m"
  refine lenS (hx.trans (congrArg tx hlq)) (by simp; omega) ?_
  repeat walk_at "m"
  refine ite_t (decide_eq_true (by simp; omega)) ?_
  repeat walk_at "m"
  refine itemM [] (c :: q) (c := 92) (hx.trans (congrArg tx hlq)) rfl (by simp; omega) ?_ ?hs ?ht
  walk_at "mHT"
  repeat walk_at "m"
  refine lenS (hx.trans (congrArg tx hlq)) (by simp; omega) ?_
  repeat walk_at "m"
  refine ite_t (decide_eq_true (by simp; omega)) ?_
  repeat walk_at "m"
  refine call_ fun R' _ he' => guarded_raise (A := A.deeper env) (s := ⟨_, _, _, _, _⟩) (fl := env :: fl) G S.gg (by show A.depth + 1 + 6 < _; omega) hh (K.push hk S hfr (by rw [he]; intro z; cases z)) (off_push hoff S hfr) _ l _ _ hx hl0 (fun e h2 tk2 T2 U2 => he' _ _ (hEb _ _ (thrown_own hfa hfr T2 fun h3 T3 U3 => hE _ _ ?_)))
  exact raise_end K hk hL hfr S T3 (.inr rfl) (U2.trans U3) fun h' T U => hR _ _ _ T U
end

-- P2
section
open PySem PySem.W PyProof.Rows PySem.Calls PySem.Builtin PySem.Spec PySem.SeqAt
noncomputable abbrev It := List Nat × Nat × Bool
noncomputable abbrev Blk := It × Option It
noncomputable def dash : It := ([45], 45, false)
noncomputable def bits : Blk → List It
  | (i, none) => [i]
  | (i, some j) => [i, dash, j]
noncomputable def OkIt (i : It) : Prop := Item i.1 i.2.1 i.2.2 ∧ ¬ (i.2.1 = 45 ∧ i.2.2 = false)
noncomputable def OkBlk (b : Blk) : Prop := OkIt b.1 ∧ ∀ j, b.2 = some j → OkIt j
noncomputable def itsOf (bs : List Blk) : List It := bs.flatMap bits
noncomputable def blkCodes : Blk → Option (List Nat)
  | (i, none) => some [i.2.1]
  | (i, some j) => if i.2.1 ≤ j.2.1 then some (List.range' i.2.1 (j.2.1 + 1 - i.2.1)) else none
noncomputable def codesOf : List Blk → Option (List Nat)
  | [] => some []
  | b :: bs => match blkCodes b, codesOf bs with
    | some x, some y => some (x ++ y)
    | _, _ => none
theorem codesOf_app (a b : List Blk) : codesOf (a ++ b) = match codesOf a, codesOf b with
    | some x, some y => some (x ++ y)
    | _, _ => none := by
  induction a with
  | nil => simp only [codesOf, List.nil_append]; cases codesOf b <;> rfl
  | cons c r ih =>
    simp only [List.cons_append, codesOf, ih]
    cases blkCodes c <;> cases codesOf r <;> cases codesOf b <;> simp
theorem blk_len {b : Blk} (h : OkBlk b) {x : List Nat} (e : blkCodes b = some x) : x.length ≤ 512 ∧ ∀ c ∈ x, c < 512 := by
  obtain ⟨i, o⟩ := b
  cases o with
  | none => simp only [blkCodes, Option.some.injEq] at e; subst e; exact ⟨by simp, fun c hc => by rw [List.mem_singleton.mp hc]; exact h.1.1.lt⟩
  | some j =>
    simp only [blkCodes] at e
    have hj := (h.2 j rfl).1.lt
    split at e
    · cases e
      refine ⟨by simp; omega, fun c hc => ?_⟩
      rw [List.mem_range'_1] at hc
      omega
    · cases e
theorem codes_len : ∀ {bs : List Blk}, (∀ b ∈ bs, OkBlk b) → ∀ {x : List Nat}, codesOf bs = some x → x.length ≤ bs.length * 512 ∧ ∀ c ∈ x, c < 512
  | [], _, x, e => by simp only [codesOf, Option.some.injEq] at e; subst e; simp
  | b :: bs, h, x, e => by
    simp only [codesOf] at e
    split at e
    · rename_i u v hu hv
      cases e
      have h1 := blk_len (h b (.head _)) hu
      have h2 := codes_len (fun c hc => h c (.tail _ hc)) hv
      refine ⟨by simp; omega, fun c hc => (List.mem_append.mp hc).elim (h1.2 c) (h2.2 c)⟩
    · cases e
theorem itsOf_ok {bs : List Blk} (h : ∀ b ∈ bs, OkBlk b) : ∀ i ∈ itsOf bs, Item i.1 i.2.1 i.2.2 := by
  intro i hi
  obtain ⟨b, hb, hi⟩ := List.mem_flatMap.mp hi
  obtain ⟨p, o⟩ := b
  have ok := h _ hb
  cases o with
  | none => simp only [bits, List.mem_singleton] at hi; subst hi; exact ok.1.1
  | some j =>
    simp only [bits, List.mem_cons, List.not_mem_nil, or_false] at hi
    rcases hi with rfl | rfl | rfl
    · exact ok.1.1
    · exact .plain 45 (by decide) (by decide)
    · exact (ok.2 _ rfl).1
theorem itsOf_len (bs : List Blk) : (itsOf bs).length ≤ 3 * bs.length := by
  induction bs with
  | nil => simp [itsOf]
  | cons b r ih =>
    have : (bits b).length ≤ 3 := by obtain ⟨i, o⟩ := b; cases o <;> simp [bits]
    simp only [itsOf, List.flatMap_cons, List.length_append, List.length_cons] at ih ⊢
    omega
/-- ints told by naturals -/
noncomputable def NatsAre (vs : List Value) (cs : List Nat) : Prop := IntsAre vs (cs.map fun n : Nat => (n : Int))
theorem NatsAre.nil : NatsAre [] [] := IntsAre.nil
theorem NatsAre.snoc {vs cs} (h : NatsAre vs cs) (c : Nat) (t : Tok) : NatsAre (vs ++ [.int (c : Int) t]) (cs ++ [c]) := by
  unfold NatsAre
  rw [List.map_append]
  exact IntsAre.append h (IntsAre.cons _ _ .nil)
theorem NatsAre.len {vs cs} (h : NatsAre vs cs) : vs.length = cs.length := by
  have := IntsAre.length h
  simpa using this
section
variable {M : Model} {A : Around} {E : Value → Shared → Prop} {s : Shared} {env : Env}
theorem of_execs1 {st : Stmt} {P : Flow → Shared → Prop} (h : wpAny M A (execs [st] env) P E s) : wpAny M A (exec st env) P E s := fun Γ p hΓ => by
  have := h Γ p hΓ
  rw [execs_cons, Sem.wp_bind'] at this
  refine Sem.wp_mono M Γ _ (fun f p' s' h' => ?_) (fun _ _ _ h' => h') _ _ this
  cases f <;> exact h'
/-- a word behind a statement -/
theorem split1 {st : Stmt} {rest : List Stmt} {Q : Flow → Shared → Prop} (P : Shared → Prop) (h1 : wpAny M A (execs [st] env) (fun f s' => match f with | .next => P s' | f => Q f s') E s) (h2 : ∀ s', P s' → wpAny M A (execs rest env) Q E s') :
    wpAny M A (execs (st :: rest) env) Q E s := by
  refine wpAny_execs_cons (wpAny_mono (of_execs1 h1) (fun f s' hf => ?_) fun _ _ e => e)
  cases f <;> first | exact h2 _ hf | exact hf
end
section
variable {w : World} {A : Around} {E : Value → Shared → Prop} {s : Shared}
theorem eqPair {a b : Addr} {c c' : Nat} {g g' : Bool} {t t' : Tok} {Q : Value → Shared → Prop} (ha : s.heap.get? a = some (tup [.int (c : Int) t, .bool g])) (hb : s.heap.get? b = some (tup [.int (c' : Int) t', .bool g'])) (hu : A.units + 64 < cLine)
    (hq : Q (.bool (decide (c = c' ∧ g = g'))) s) : wpAny (model PR w) A (compareOp .Eq (.ref a) (.ref b)) Q E s := by
  have ra : Reads s.heap (.ref a) (.tuple [.int c, .bool g]) [] := Reads.tuple ha rfl rfl (.cons (as := []) (.int _ _) (.cons (as := []) (.bool _) .nil))
  have rb : Reads s.heap (.ref b) (.tuple [.int c', .bool g']) [] := Reads.tuple hb rfl rfl (.cons (as := []) (.int _ _) (.cons (as := []) (.bool _) .nil))
  refine eq_dataH_same ra rb ?_ ?_ hu ?_ ?_
  · simp [shaped, PyData.canLay0, PyData.canLayAll0, PyData.depth, PyData.depthAll]
  · simp [shaped, PyData.canLay0, PyData.canLayAll0, PyData.depth, PyData.depthAll]
  · simp [noMix, noMixAll]
  · have e : Spec.same (.tuple [.int c, .bool g]) (.tuple [.int c', .bool g']) = decide (c = c' ∧ g = g') := by
      simp only [Spec.same, Spec.sameAll, Bool.and_true]
      have hcc : ((c : Int) = c') ↔ c = c' := by omega
      by_cases h1 : c = c' <;> by_cases h2 : g = g' <;> simp [h1, h2, hcc]
    rw [e]; exact hq
end
end

-- T9
section
open PySem PySem.W PyProof.Rows PySem.Calls
set_option maxHeartbeats 4000000 in
theorem codes_go {w : World} {A : Around} {s : Shared} {R : Result → Shared → Prop} {mg mb : Str → Option Value} {g : Heap} {fl : List Env} (G : Gl w mg mb g) (hg : ∀ b o, g.get? b = some o → s.heap.get? b = some o) (hroom : A.depth + 8 < recursionLimit) (hun : A.units + 200 < cLine) (hh : A.handled = none) (K : Stk A fl s.heap) (hoff : ∀ a ∈ fa fl, g.get? a = none)
    (x : Str) (bs0 : List Blk) (t1 t2 : Tok) (hok : ∀ b ∈ bs0, OkBlk b) (hx : x = tx ((itsOf bs0).flatMap (·.1))) (hlx : ((itsOf bs0).flatMap (·.1)).length < 10000000) (hln : bs0.length ≤ 6)
    (hR : ∀ h' tk a (r' : PF) vs n cs, codesOf bs0 = some cs → Sub (kOf s.heap []) h' → Sub r' h' → (∀ b o, r' b = some o → s.heap.get? b = none) → r' a = some (lst vs n) → NatsAre vs cs → R (.ok (.ret (.ref a))) { s with heap := h', toks := tk })
    (hRe : codesOf bs0 = none → ∀ e h' tk, Thrown 51 (bs s.heap fl) fl e .none h' → s.heap.UpToSlots h' → R (.error (.ref e)) { s with heap := h', toks := tk }) :
    codeAny (model PR w) A (.call (.ref 150) ⟨[.str x t1, .int 4000 t2], []⟩) R s := by
  have hroom' : A.depth < recursionLimit := by omega
  refine' enter_ (binds := [(Str.ofString "text", .str x t1), (Str.ofString "most", .int 4000 t2)]) [] G hg (fun _ hp => nomatch hp) .nil ?ho ?hcd hroom' ?hbind ?hloc ?h ?c1 ?c2 ?c3 ?c4
  walk_at "mSides"
  have hfr : env.frame = some L := by rw [he]; rfl
  have hfa : (A.deeper env).frames = some (env :: fl) := by show A.frames.map _ = _; rw [K.fr]; rfl
  have hil := itsOf_len bs0
  repeat walk_at "m"
  refine call_ fun R' hr' _ => signs_ok (A := A.deeper env) (s := ⟨_, _, _, _, _⟩) G S.gg (by show A.depth + 1 + 5 < _; omega) hh _ (itsOf bs0) _ (itsOf_ok hok) hx hlx (by omega) (fun h2 tk2 sa r1 svs sn hs2 hsr hfresh hsa hpr => hr' _ _ ?_)
  dsimp only
  obtain ⟨r2, hr2, hr12, S⟩ := S.join hs2.stays hsr hfresh
  replace hsa := hr12 _ _ hsa
  replace hpr := hpr.keep hr12
  repeat walk_at "m"
  refine newList_ S (fun fa0 h' S => ?_) (Nat.le_of_ble_eq_true rfl)
  repeat walk_at "m"
  have hsl : svs.length = (itsOf bs0).length := by have := hpr.len; simpa using this
  refine while_ (fun q s' => ∃ h tk m r dn todo vs n cs, s' = ⟨h, s.gens, s.drawn, tk, s.os⟩ ∧ St g k r L [(fa0, lst vs n)] h m ∧ m (Str.ofString "most") = some (.int 4000 t2) ∧ m (Str.ofString "signs") = some (.ref sa) ∧ m (Str.ofString "found") = some (.ref fa0) ∧ IntAt m (Str.ofString "at") ((itsOf dn).length : Nat) ∧
      dn ++ todo = bs0 ∧ codesOf dn = some cs ∧ NatsAre vs cs ∧ r sa = some (lst svs sn) ∧ Pairs2 r svs ((itsOf bs0).map (·.2)) ∧ q = todo.length) ?turn bs0.length ?start
  case start =>
    refine ⟨_, _, _, _, [], bs0, [], _, [], rfl, S, ?_, ?_, ?_, ⟨_, upd_same⟩, rfl, rfl, NatsAre.nil, hsa, hpr, rfl⟩
    · walk_at "mLook"
    · walk_at "mLook"
    · walk_at "mLook"
  case turn =>
  clear S hsa hpr
  intro q s1 Qb Eb ⟨h, tk, m, r, dn, todo, vs, n, cs, hs, S, m1, m2, m3, ⟨t, m4⟩, hdt, hcs, hna, hsa, hpr, hq⟩ hnext hcont hbrk hret hEb
  subst hs
  have hcl : cs.length ≤ dn.length * 512 := (codes_len (fun b hb => hok b (by rw [← hdt]; exact List.mem_append_left _ hb)) hcs).1
  have hvl := hna.len
  have hdl : dn.length ≤ 6 := by have := congrArg List.length hdt; simp at this; omega
  have hsplit : (itsOf bs0) = itsOf dn ++ itsOf todo := by rw [← hdt]; unfold itsOf; rw [List.flatMap_append]
  have hsplen := congrArg List.length hsplit
  rw [List.length_append] at hsplen
  repeat walk_at "m"
  refine lenL (S.rr _ _ hsa) (by omega) ?_
  repeat walk_at "m"
  match todo, hdt, hsplit, hsplen with
  | [], hdt, hsplit, hsplen =>
    refine ite_f (decide_eq_false (by rw [show (itsOf []).length = 0 from rfl, Nat.add_zero] at hsplen; omega)) ?_
    repeat walk_at "m"
    rw [List.append_nil] at hdt
    obtain ⟨r2, hr2, hfa, S⟩ := S.freeze
    have hkk : k = s.heap.get? := by rw [hk]; exact kOf_nil _
    exact hQ _ _ (hR _ _ _ r2 vs n cs (hdt ▸ hcs) (fun b o e => S.kk b o (hk ▸ e)) S.rr (fun b o e => by have := S.rk b o e; rw [hkk] at this; exact this) hfa hna)
  | b :: todo, hdt, hsplit, hsplen =>
    have hb := hok b (by rw [← hdt]; simp)
    have hdl5 : dn.length ≤ 5 := by have := congrArg List.length hdt; simp at this; omega
    have hbt : itsOf (b :: todo) = bits b ++ itsOf todo := rfl
    have hbl : (itsOf (b :: todo)).length = (bits b).length + (itsOf todo).length := by rw [hbt, List.length_append]
    have hb1 : 0 < (bits b).length := by obtain ⟨i, o⟩ := b; cases o <;> simp [bits]
    have hat : ∀ j, (itsOf bs0)[(itsOf dn).length + j]? = (bits b ++ itsOf todo)[j]? := fun j => by
      rw [hsplit, hbt, List.getElem?_append_right (by omega)]; congr 1; omega
    have hget : ∀ j (i : It), (bits b ++ itsOf todo)[j]? = some i → ∃ v, svs[(itsOf dn).length + j]? = some v ∧ Pair r v i.2 := fun j i e =>
      hpr.get (by rw [List.getElem?_map, hat, e]; rfl)
    obtain ⟨v0, hv0, pb0, pt0, rfl, hpb0⟩ := hget 0 b.1 (by obtain ⟨i, o⟩ := b; cases o <;> rfl)
    refine ite_t (decide_eq_true (by omega)) ?_
    repeat walk_at "m"
    refine itemL (S.rr _ _ hsa) (i := (itsOf dn).length) rfl hv0 (by omega) ?_ ?hs
    case hs => with_unfolding_all rfl
    repeat walk_at "m"
    refine itemT (S.rr _ _ hpb0) (i := 0) rfl rfl (by simp) ?_ ?hs
    case hs => with_unfolding_all rfl
    iterate 4 walk_at "m"
    refine split1 (fun s' => ∃ h tk m l0, s' = ⟨h, s.gens, s.drawn, tk, s.os⟩ ∧ St g k r L [(fa0, lst vs n)] h m ∧ m (Str.ofString "most") = some (.int 4000 t2) ∧ m (Str.ofString "signs") = some (.ref sa) ∧ m (Str.ofString "found") = some (.ref fa0) ∧ IntAt m (Str.ofString "at") ((itsOf dn).length + (bits b).length - 1 : Nat) ∧
      IntAt m (Str.ofString "code") (b.1.2.1 : Nat) ∧ IntAt m (Str.ofString "last") (l0 : Nat) ∧ b.1.2.1 ≤ l0 ∧ l0 < 512 ∧ blkCodes b = some (List.range' b.1.2.1 (l0 + 1 - b.1.2.1))) ?first ?second
    case first =>
      obtain ⟨i, o⟩ := b
      cases o with
      | none =>
        have fin : ∀ h tk m, St g k r L [(fa0, lst vs n)] h m → m (Str.ofString "most") = some (.int 4000 t2) → m (Str.ofString "signs") = some (.ref sa) → m (Str.ofString "found") = some (.ref fa0) → IntAt m (Str.ofString "at") ((itsOf dn).length : Nat) →
            IntAt m (Str.ofString "code") (i.2.1 : Nat) → IntAt m (Str.ofString "last") (i.2.1 : Nat) → ∃ h' tk' m' l0, (⟨h, s.gens, s.drawn, tk, s.os⟩ : Shared) = ⟨h', s.gens, s.drawn, tk', s.os⟩ ∧ St g k r L [(fa0, lst vs n)] h' m' ∧ m' (Str.ofString "most") = some (.int 4000 t2) ∧ m' (Str.ofString "signs") = some (.ref sa) ∧ m' (Str.ofString "found") = some (.ref fa0) ∧
              IntAt m' (Str.ofString "at") ((itsOf dn).length + (bits (i, none)).length - 1 : Nat) ∧ IntAt m' (Str.ofString "code") (i.2.1 : Nat) ∧ IntAt m' (Str.ofString "last") (l0 : Nat) ∧ i.2.1 ≤ l0 ∧ l0 < 512 ∧ blkCodes (i, none) = some (List.range' i.2.1 (l0 + 1 - i.2.1)) :=
          fun h tk m S a1 a2 a3 a4 a5 a6 => ⟨h, tk, m, i.2.1, rfl, S, a1, a2, a3, by simpa [bits] using a4, a5, a6, Nat.le_refl _, hb.1.1.lt, by rw [show i.2.1 + 1 - i.2.1 = 1 by omega]; rfl⟩
        repeat walk_at "m"
        refine lenL (S.rr _ _ hsa) (by omega) ?_
        repeat walk_at "m"
        by_cases hc : (itsOf dn).length + 2 < svs.length
        · refine ite_t (decide_eq_true (by omega)) ?_
          repeat walk_at "m"
          obtain ⟨b', todo', rfl⟩ : ∃ b' todo', todo = b' :: todo' := by
            cases todo with
            | nil => exfalso; have e1 : (itsOf [(i, (none : Option It))]).length = 1 := rfl; omega
            | cons b' t' => exact ⟨b', t', rfl⟩
          have hb' := hok b' (by rw [← hdt]; simp)
          obtain ⟨v1, hv1, pb1, pt1, rfl, hpb1⟩ := hget 1 b'.1 (by obtain ⟨i', o'⟩ := b'; cases o' <;> rfl)
          refine itemL (S.rr _ _ hsa) (i := (itsOf dn).length + 1) rfl hv1 (by omega) ?_ ?hs
          walk_at "mH"
          repeat walk_at "m"
          refine newTuple_ S (fun ta h' S => ?_) (Nat.le_of_ble_eq_true rfl)
          refine eqPair (S.rr _ _ hpb1) (c' := 45) (S.at (.head _)) (by show A.units + 3 + 64 < cLine; omega) ?_
          replace S := S.drop
          repeat walk_at "m"
          refine ite_f (decide_eq_false hb'.1.2) ?_
          repeat walk_at "m"
          exact fin _ _ _ S (by walk_at "mLook") (by walk_at "mLook") (by walk_at "mLook") ⟨t, by walk_at "mLook"⟩ ⟨_, by walk_at "mLook"⟩ ⟨_, by walk_at "mLook"⟩
        · refine ite_f (decide_eq_false (by omega)) ?_
          repeat walk_at "m"
          exact fin _ _ _ S (by walk_at "mLook") (by walk_at "mLook") (by walk_at "mLook") ⟨t, by walk_at "mLook"⟩ ⟨_, by walk_at "mLook"⟩ ⟨_, by walk_at "mLook"⟩
      | some j =>
        have hb3 : (bits (i, some j)).length = 3 := rfl
        repeat walk_at "m"
        refine lenL (S.rr _ _ hsa) (by omega) ?_
        repeat walk_at "m"
        refine ite_t (decide_eq_true (by omega)) ?_
        repeat walk_at "m"
        obtain ⟨v1, hv1, pb1, pt1, rfl, hpb1⟩ := hget 1 dash rfl
        obtain ⟨v2, hv2, pb2, pt2, rfl, hpb2⟩ := hget 2 j rfl
        refine itemL (S.rr _ _ hsa) (i := (itsOf dn).length + 1) rfl hv1 (by omega) ?_ ?hs
        walk_at "mH"
        repeat walk_at "m"
        refine newTuple_ S (fun ta h' S => ?_) (Nat.le_of_ble_eq_true rfl)
        refine eqPair (S.rr _ _ hpb1) (c' := 45) (S.at (.head _)) (by show A.units + 3 + 64 < cLine; omega) ?_
        replace S := S.drop
        repeat walk_at "m"
        refine itemL (S.rr _ _ hsa) (i := (itsOf dn).length + 2) rfl hv2 (by omega) ?_ ?hs
        walk_at "mH"
        repeat walk_at "m"
        refine itemT (S.rr _ _ hpb2) (i := 0) rfl rfl (by simp) ?_ ?hs
        walk_at "mH"
        repeat walk_at "m"
        by_cases hlt : j.2.1 < i.2.1
        · refine ite_t (decide_eq_true (by dsimp only; omega)) ?_
          refine xRaise (own51 w) hh ?_
          repeat walk_at "m"
          refine die_made G S.gg (by show A.depth + 1 + 2 < _; omega) fun h' tk' e dx mA hkp hen hdn hne X => ?_
          obtain ⟨t0, he0⟩ := X.ob
          refine ⟨e, dx, t0, rfl, G.K.keeps fun b o q => hkp _ _ (S.gg b o q), he0, hEb _ _ ?_⟩
          refine thrown_own hfa hfr (thrown_new (x := Str.ofString "") (t := 0) (K.push hk S hfr (by rw [he]; intro z; cases z)) hkp hen hdn X fun z => absurd z (by decide)) fun h3 T3 U3 => hE _ _ ?_
          refine raise_end K hk hL hfr S T3 (.inr rfl) ((Heap.UpToSlots.of_keeps hkp).trans U3) fun h' T U => hRe ?_ _ _ _ T U
          have hbn : blkCodes (i, some j) = none := by show (if i.2.1 ≤ j.2.1 then some (List.range' i.2.1 (j.2.1 + 1 - i.2.1)) else none) = none; rw [if_neg (by omega)]
          rw [← hdt, codesOf_app, hcs]
          simp only [codesOf, hbn]
        · refine ite_f (decide_eq_false (by dsimp only; omega)) ?_
          repeat walk_at "m"
          refine ⟨_, _, _, j.2.1, rfl, S, by walk_at "mLook", by walk_at "mLook", by walk_at "mLook", ⟨_, int_at upd_same (by rw [hb3]; omega)⟩, ⟨_, by walk_at "mLook"⟩, ⟨_, by walk_at "mLook"⟩, by dsimp only; omega, (hb.2 j rfl).1.lt, by show (if i.2.1 ≤ j.2.1 then some (List.range' i.2.1 (j.2.1 + 1 - i.2.1)) else none) = _; rw [if_pos (by omega)]⟩
    case second =>
      clear S
      rintro s' ⟨h, tk, m, l0, rfl, S, m1, m2, m3, ⟨t4, m4⟩, ⟨t5, m5⟩, ⟨t6, m6⟩, hle, hl0, hbc⟩
      repeat walk_at "m"
      refine lenL (S.at (.head _)) (by omega) ?_
      repeat walk_at "m"
      refine ite_f (decide_eq_false (by omega)) ?_
      repeat walk_at "m"
      refine xFor ?_ ?hfold
      case hfold => intro _; with_unfolding_all rfl
      repeat walk_at "m"
      refine rng2 S fun rx h' v S => ?_
      refine iterR S (n := l0 + 1 - b.1.2.1) (by split <;> omega) (by omega) (by omega) (by omega) (by omega) fun it h' S => ?_
      generalize hN : l0 + 1 - b.1.2.1 = N at *
      refine for_ (fun q s' => ∃ h tk m vs n i, s' = ⟨h, s.gens, s.drawn, tk, s.os⟩ ∧ St g k r L [(it, ritO ((b.1.2.1 + i : Nat) : Int) ((N - i : Nat) : Int)), (fa0, lst vs n)] h m ∧ m (Str.ofString "most") = some (.int 4000 t2) ∧ m (Str.ofString "signs") = some (.ref sa) ∧ m (Str.ofString "found") = some (.ref fa0) ∧ IntAt m (Str.ofString "at") ((itsOf dn).length + (bits b).length - 1 : Nat) ∧
        NatsAre vs (cs ++ List.range' b.1.2.1 i) ∧ i ≤ N ∧ q = N - i) ?turn2 N ?start2 ?lt2
      case lt2 => intro _; with_unfolding_all rfl
      case start2 =>
        refine ⟨_, _, _, vs, n, 0, rfl, S, by walk_at "mLook", by walk_at "mLook", by walk_at "mLook", ⟨_, by walk_at "mLook"⟩, by simpa using hna, Nat.zero_le _, rfl⟩
      case turn2 =>
        clear S m1 m2 m3 m4 m5 m6 hna hvl
        rintro q2 s2 Qb2 Eb2 ⟨h, tk, m, vs, n, i, rfl, S, m1, m2, m3, ⟨t4, m4⟩, hna, hiN, hq2⟩ hnext2 hcont2 hbrk2 hret2 hEb2
        have hvl := hna.len
        rw [List.length_append, List.length_range'] at hvl
        by_cases hi : i < N
        · refine nextR S (by omega) fun h' S => ?_
          dsimp only
          refine assign_Name ?_
          repeat walk_at "m"
          replace S := S.swap
          refine gmApp S ?_
          repeat walk_at "m"
          refine appL S (by rw [sizeLine_eq]; omega) fun h' S => ?_
          repeat walk_at "m"
          replace S := S.swap
          have e1 : ((b.1.2.1 + i : Nat) : Int) + 1 = ((b.1.2.1 + (i + 1) : Nat) : Int) := by omega
          have e2 : ((N - i : Nat) : Int) - 1 = ((N - (i + 1) : Nat) : Int) := by omega
          rw [e1, e2] at S
          refine hnext2 _ (N - (i + 1)) (by omega) ⟨_, _, _, _, _, i + 1, rfl, S, by walk_at "mLook", by walk_at "mLook", by walk_at "mLook", ⟨_, by walk_at "mLook"⟩, ?_, hi, rfl⟩
          rw [List.range'_1_concat, ← List.append_assoc]
          exact hna.snoc _ _
        · refine endR S hh (by omega) fun h' S => ?_
          dsimp only
          repeat walk_at "m"
          have hiN2 : i = N := by omega
          rw [hiN2] at hna
          refine hnext _ todo.length (by rw [hq]; exact Nat.lt_succ_self _) ⟨_, _, _, _, dn ++ [b], todo, _, _, cs ++ List.range' b.1.2.1 N, rfl, S, by walk_at "mLook", by walk_at "mLook", by walk_at "mLook", ⟨_, int_at upd_same ?_⟩, by rw [List.append_assoc]; exact hdt, ?_, hna, hsa, hpr, rfl⟩
          · have e3 : (itsOf (dn ++ [b])).length = (itsOf dn).length + (bits b).length := by unfold itsOf; rw [List.flatMap_append, List.length_append]; simp
            rw [e3]; omega
          · rw [codesOf_app, hcs]
            simp only [codesOf, hbc, List.append_nil]
end

-- P3
section
open PySem PySem.W PyProof.Rows PySem.Calls PySem.Builtin PySem.Spec PySem.SeqAt
/-- what the table tells of a sign -/
noncomputable def tval (cs bs : List Nat) (n : Nat) : Option Nat := if n ∈ cs then some (if bs = [] then n else bs.getD (min (cs.idxOf n) (bs.length - 1)) 0) else none
noncomputable def turnTx (cs bs l : List Nat) : List Nat := l.map fun c => (tval cs bs c).getD c
noncomputable def turnN (cs bs l : List Nat) : Nat := (l.filter fun c => c ∈ cs).length
noncomputable def TabOf (kvs : List (Int × Value)) (cs bs : List Nat) : Prop := ∀ n : Nat, (tval cs bs n = none → valueAt kvs (n : Int) = none) ∧ ∀ v, tval cs bs n = some v → ∃ t, valueAt kvs (n : Int) = some (.int (v : Int) t)
theorem tval_none {cs bs : List Nat} {n : Nat} (h : n ∉ cs) : tval cs bs n = none := if_neg h
theorem tval_some {cs bs : List Nat} {n : Nat} (h : n ∈ cs) : tval cs bs n = some (if bs = [] then n else bs.getD (min (cs.idxOf n) (bs.length - 1)) 0) := if_pos h
theorem idx_snoc {cs : List Nat} {c n : Nat} (h : n ∈ cs) : (cs ++ [c]).idxOf n = cs.idxOf n := by
  rw [List.idxOf_append]; simp [h]
theorem idx_new {cs : List Nat} {c : Nat} (h : c ∉ cs) : (cs ++ [c]).idxOf c = cs.length := by
  rw [List.idxOf_append]; simp [h]
theorem tval_old {cs bs : List Nat} {c n : Nat} (h : n ∈ cs) : tval (cs ++ [c]) bs n = tval cs bs n := by
  rw [tval_some h, tval_some (List.mem_append_left _ h), idx_snoc h]
theorem tval_new {cs bs : List Nat} {c : Nat} (h : c ∉ cs) : tval (cs ++ [c]) bs c = some (if bs = [] then c else bs.getD (min cs.length (bs.length - 1)) 0) := by
  rw [tval_some (by simp), idx_new h]
theorem valueAt_nil (n : Int) : valueAt ([] : List (Int × Value)) n = none := rfl
theorem valueAt_app (kvs : List (Int × Value)) (k n : Int) (v : Value) (h : k ∉ kvs.map (·.1)) : valueAt (kvs ++ [(k, v)]) n = if n = k then some v else valueAt kvs n := by
  unfold valueAt
  rw [List.find?_append]
  by_cases hn : n = k
  · subst hn
    have : kvs.find? (fun kv => decide (kv.1 = n)) = none := by
      rw [List.find?_eq_none]; intro x hx; simp; intro e; exact h (List.mem_map.mpr ⟨x, hx, e⟩)
    rw [this]; simp
  · rw [if_neg hn]
    have e : [(k, v)].find? (fun kv => decide (kv.1 = n)) = none := by simp [Ne.symm hn]
    rw [e]; cases kvs.find? (fun kv => decide (kv.1 = n)) <;> rfl
theorem valueAt_mem {kvs : List (Int × Value)} {n : Int} (h : valueAt kvs n = none) : n ∉ kvs.map (·.1) := by
  intro hm
  obtain ⟨x, hx, e⟩ := List.mem_map.mp hm
  unfold valueAt at h
  rw [Option.map_eq_none_iff, List.find?_eq_none] at h
  have := h x hx
  simp [e] at this
theorem stored_new {kvs : List (Int × Value)} {k : Int} {v : Value} (h : k ∉ kvs.map (·.1)) : stored kvs k v = kvs ++ [(k, v)] := by
  unfold stored
  rw [if_neg]
  intro hh
  rw [List.any_eq_true] at hh
  obtain ⟨x, hx, e⟩ := hh
  exact h (List.mem_map.mpr ⟨x, hx, by simpa using e⟩)
theorem TabOf.nil (bs : List Nat) : TabOf [] [] bs := fun n => ⟨fun _ => rfl, fun v h => by simp [tval] at h⟩
theorem TabOf.old {kvs cs bs c} (T : TabOf kvs cs bs) (h : c ∈ cs) : TabOf kvs (cs ++ [c]) bs := by
  intro n
  by_cases hn : n ∈ cs
  · rw [tval_old hn]; exact T n
  · have hc : n ∉ cs ++ [c] := fun z => (List.mem_append.mp z).elim hn fun z => hn (by rw [List.mem_singleton.mp z]; exact h)
    rw [tval_none hc]
    exact ⟨fun _ => (T n).1 (tval_none hn), fun v e => by cases e⟩
theorem TabOf.new {kvs cs bs c} (T : TabOf kvs cs bs) (h : c ∉ cs) {v : Nat} {t : Tok} (hv : v = if bs = [] then c else bs.getD (min cs.length (bs.length - 1)) 0) : TabOf (stored kvs (c : Int) (.int (v : Int) t)) (cs ++ [c]) bs := by
  have hk : ((c : Nat) : Int) ∉ kvs.map (·.1) := valueAt_mem ((T c).1 (tval_none h))
  rw [stored_new hk]
  intro n
  rw [valueAt_app _ _ _ _ hk]
  by_cases hn : n = c
  · subst hn
    rw [tval_new h, if_pos rfl, ← hv]
    exact ⟨fun e => (by cases e), fun u e => ⟨t, (by cases e; rfl)⟩⟩
  · rw [if_neg (by omega)]
    by_cases hm : n ∈ cs
    · rw [tval_old hm]; exact T n
    · have hc : n ∉ cs ++ [c] := fun z => (List.mem_append.mp z).elim hm fun z => hn (List.mem_singleton.mp z)
      rw [tval_none hc]
      exact ⟨fun _ => (T n).1 (tval_none hm), fun v e => by cases e⟩
theorem tval_lt {cs bs : List Nat} {n v : Nat} (h : tval cs bs n = some v) (h1 : ∀ c ∈ cs, c < 512) (h2 : ∀ c ∈ bs, c < 512) : v < 512 := by
  by_cases hm : n ∈ cs
  · rw [tval_some hm] at h
    cases h
    split
    · exact h1 n hm
    · rename_i hb
      have hl : 0 < bs.length := List.length_pos_iff.mpr hb
      have hlt : min (cs.idxOf n) (bs.length - 1) < bs.length := by omega
      rw [List.getD_eq_getElem?_getD, List.getElem?_eq_getElem hlt]
      exact h2 _ (List.getElem_mem hlt)
  · rw [tval_none hm] at h; cases h
theorem NatsAre.get {vs : List Value} {cs : List Nat} (h : NatsAre vs cs) {i c : Nat} (e : cs[i]? = some c) : ∃ t, vs[i]? = some (.int (c : Int) t) := by
  obtain ⟨t, x⟩ := IntsAre.get h i (c : Int) (by rw [List.getElem?_map, e]; rfl)
  exact ⟨t, x⟩
theorem turn_snoc (cs bs l : List Nat) (c : Nat) : turnTx cs bs (l ++ [c]) = turnTx cs bs l ++ [(tval cs bs c).getD c] := by unfold turnTx; rw [List.map_append]; rfl
theorem turnN_none {cs bs : List Nat} (l : List Nat) {c : Nat} (h : tval cs bs c = none) : turnN cs bs (l ++ [c]) = turnN cs bs l := by
  have hc : c ∉ cs := fun z => by rw [tval_some z] at h; cases h
  unfold turnN; rw [List.filter_append]; simp [hc]
theorem turnN_some {cs bs : List Nat} (l : List Nat) {c u : Nat} (h : tval cs bs c = some u) : turnN cs bs (l ++ [c]) = turnN cs bs l + 1 := by
  have hc : c ∈ cs := Classical.byContradiction fun z => by rw [tval_none z] at h; cases h
  unfold turnN; rw [List.filter_append]; simp [hc]
end

-- L5
section
open PySem PySem.W PyProof.Rows PySem.Calls PySem.Builtin PySem.Spec PySem.SeqAt
section
variable {w : World} {A : Around} {E : Value → Shared → Prop} {env : Env} {g h : Heap} {k r : PF} {L : Addr} {μ : List (Addr × Obj)} {m mg mb : Str → Option Value} {gn : Array GenState} {d : Drawn} {tk : Nat} {os : OsState}
theorem not_sys (G : Gl w mg mb g) (S : St g k r L μ h m) {a : Addr} (ha : h.get? a = none) (hle : h.objs.size ≤ a) : (a == sysModules) = false := by
  obtain ⟨o, es, ep, e, _⟩ := G.g
  have := Heap.lt_size (S.gg _ _ e)
  have h3 : mainGlobals = 3 := rfl
  rw [h3] at this
  show (a == 1) = false
  rw [beq_eq_false_iff_ne]; intro z; rw [z] at hle; exact absurd (Nat.lt_of_lt_of_le this hle) (by decide)
theorem newDict_ {pos : Pos} {Q : Value → Shared → Prop} (G : Gl w mg mb g) (S : St g k r L μ h m)
    (hq : ∀ a h' o, (a == sysModules) = false → o.IsDictOf (intKind PR w) ([] : List (Int × Value)) → St g k r L ((a, o) :: μ) h' m → Q (.ref a) ⟨h', gn, d, tk, os⟩) :
    wpAny (model PR w) A (eval (.Dict [] [] pos) env) Q E ⟨h, gn, d, tk, os⟩ := by
  refine wpAny_Dict_empty (hq _ _ { cls := .type "dict", data := .dict #[] } (not_sys G S (Heap.get?_none_of_le (Nat.le_refl _)) (Nat.le_refl _)) ⟨#[], 0, ⟨rfl, rfl, rfl⟩, rfl, fun _ he => by simp at he, Pairs.nil, List.nodup_nil⟩ (S.push _))
theorem inDI {a : Addr} {o : Obj} {n : Int} {t : Tok} {kvs : List (Int × Value)} {s : Shared} {Q : Value → Shared → Prop} (ha : s.heap.get? a = some o) (D : o.IsDictOf (intKind PR w) kvs) (hs : (a == sysModules) = false) (hq : Q (.bool (valueAt kvs n).isSome) { s with toks := s.toks + 1 }) :
    wpAny (model PR w) A (compareOp .In (.int n t) (.ref a)) Q E s :=
  wpAny_in_of (knd := intKind PR w) (k := n) (intKind_is _ _ _ _) hs (Heap.dictOf_iff.mpr ⟨o, ha, D⟩).mapOf hq
theorem setDI {a : Addr} {o : Obj} {n : Int} {t : Tok} {v : Value} {kvs : List (Int × Value)} {Q : Unit → Shared → Prop} (S : St g k r L ((a, o) :: μ) h m) (D : o.IsDictOf (intKind PR w) kvs) (hsz : kvs.length ≤ sizeLine)
    (hq : ∀ h' o', o'.IsDictOf (intKind PR w) (stored kvs n v) → St g k r L ((a, o') :: μ) h' m → Q () ⟨h', gn, d, tk + 1, os⟩) :
    wpAny (model PR w) A (setItem (.ref a) (.int n t) v) Q E ⟨h, gn, d, tk, os⟩ := by
  refine wpAny_setItem_pairs (hsz := hsz) (knd := intKind PR w) (k := n) (intKind_is _ _ _ _) (Heap.dictOf_iff.mpr ⟨o, S.at (.head _), D⟩) fun h' D' hs => ?_
  obtain ⟨o', e, D'⟩ := Heap.dictOf_iff.mp D'
  exact hq h' o' D' (S.change hs e)
theorem eqNil {a b : Addr} {vs : List Value} {cs : List Nat} {n n' : Nat} {s : Shared} {Q : Value → Shared → Prop} (ha : s.heap.get? a = some (lst vs n)) (hn : NatsAre vs cs) (hb : s.heap.get? b = some (lst [] n')) (hu : A.units + 64 < cLine)
    (hq : Q (.bool (decide (cs = []))) s) : wpAny (model PR w) A (compareOp .Eq (.ref a) (.ref b)) Q E s := by
  refine eq_intsK (isList_of ha) hn (isList_of hb) IntsAre.nil hu ?_
  have : decide (List.map (fun n : Nat => (n : Int)) cs = []) = decide (cs = []) := by cases cs <;> simp
  rw [this]; exact hq
theorem notInN {a : Addr} {vs : List Value} {cs : List Nat} {n c : Nat} {t : Tok} {s : Shared} {Q : Value → Shared → Prop} (ha : s.heap.get? a = some (lst vs n)) (hn : NatsAre vs cs)
    (hq : Q (.bool (decide (c ∉ cs))) s) : wpAny (model PR w) A (compareOp .NotIn (.int (c : Int) t) (.ref a)) Q E s := by
  refine notin_list_ints (isList_of ha) hn ?_
  have : (!(List.map (fun n : Nat => (n : Int)) cs).any (· == (c : Int))) = decide (c ∉ cs) := by
    by_cases h : c ∈ cs
    · rw [decide_eq_false (by simpa using h), Bool.not_eq_false', List.any_eq_true]
      exact ⟨_, List.mem_map.mpr ⟨c, h, rfl⟩, by simp⟩
    · rw [decide_eq_true h, Bool.not_eq_true', List.any_eq_false]
      intro x hx
      obtain ⟨y, hy, rfl⟩ := List.mem_map.mp hx
      simp; intro e; exact h (by have : y = c := by omega
                                 rwa [this] at hy)
  rw [this]; exact hq
end
end

-- T10
section
open PySem PySem.W PyProof.Rows PySem.Calls
set_option maxHeartbeats 4000000 in
theorem codes_bad {w : World} {A : Around} {s : Shared} {R : Result → Shared → Prop} {mg mb : Str → Option Value} {g : Heap} {fl : List Env} (G : Gl w mg mb g) (hg : ∀ b o, g.get? b = some o → s.heap.get? b = some o) (hroom : A.depth + 9 < recursionLimit) (hh : A.handled = none) (K : Stk A fl s.heap) (hoff : ∀ a ∈ fa fl, g.get? a = none)
    (x : Str) (l : List Nat) (t1 : Tok) (u : Value) (hx : x = tx l) (hl0 : Bad l)
    (hR : ∀ e h' tk, Thrown 51 (bs s.heap fl) fl e .none h' → s.heap.UpToSlots h' → R (.error (.ref e)) { s with heap := h', toks := tk }) :
    codeAny (model PR w) A (.call (.ref 150) ⟨[.str x t1, u], []⟩) R s := by
  have hroom' : A.depth < recursionLimit := by omega
  refine' enter_ (binds := [(Str.ofString "text", .str x t1), (Str.ofString "most", u)]) [] G hg (fun _ hp => nomatch hp) .nil ?ho ?hcd hroom' ?hbind ?hloc ?h ?c1 ?c2 ?c3 ?c4
  walk_at "mSides"
  have hfr : env.frame = some L := by rw [he]; rfl
  repeat walk_at "m"
  refine call_ fun R' _ he' => signs_raise (A := A.deeper env) (s := ⟨_, _, _, _, _⟩) (fl := env :: fl) G S.gg (by show A.depth + 1 + 7 < _; omega) hh (K.push hk S hfr (by rw [he]; intro z; cases z)) (off_push hoff S hfr) _ l _ hx hl0 (fun e h2 tk2 T2 U2 => he' _ _ (hE _ _ ?_))
  walk_at "mPass"
theorem xCont {M : Model} {A : Around} {E : Value → Shared → Prop} {env : Env} {s : Shared} {pos : Pos} {rest : List Stmt} {Q : Flow → Shared → Prop} (h : Q .cont s) : wpAny M A (execs (.Continue pos :: rest) env) Q E s :=
  wpAny_execs_cons (wpAny_Continue h)
set_option maxHeartbeats 4000000 in
theorem plain_ok {w : World} {A : Around} {s : Shared} {R : Result → Shared → Prop} {mg mb : Str → Option Value} {g : Heap} (G : Gl w mg mb g) (hg : ∀ b o, g.get? b = some o → s.heap.get? b = some o) (hroom : A.depth < recursionLimit) (hun : A.units + 200 < cLine) (hh : A.handled = none)
    (sa ba : Addr) (vs us : List Value) (n1 n2 : Nat) (cs bs : List Nat) (hsa : s.heap.get? sa = some (lst vs n1)) (hba : s.heap.get? ba = some (lst us n2)) (hcs : NatsAre vs cs) (hbs : NatsAre us bs) (hcl : cs.length < 4000) (hbl : bs.length < 4000)
    (hR : ∀ h' tk a o kvs, Sub (kOf s.heap []) h' → s.heap.get? a = none → (a == sysModules) = false → h'.get? a = some o → o.IsDictOf (intKind PR w) kvs → TabOf kvs cs bs → R (.ok (.ret (.ref a))) { s with heap := h', toks := tk }) :
    codeAny (model PR w) A (.call (.ref 157) ⟨[.ref sa, .ref ba, .bool false], []⟩) R s := by
  refine' enter_ (binds := [(Str.ofString "sources", .ref sa), (Str.ofString "becomes", .ref ba), (Str.ofString "is_deleting", .bool false)]) [] G hg (fun _ hp => nomatch hp) .nil ?ho ?hcd hroom ?hbind ?hloc ?h ?c1 ?c2 ?c3 ?c4
  walk_at "mSides"
  have hk0 := hk
  rw [List.map_nil, kOf_nil] at hk0
  have hvl := hcs.len
  have hul := hbs.len
  repeat walk_at "m"
  refine newDict_ G S fun da h' o hsys D S => ?_
  repeat walk_at "m"
  refine xFor ?_ ?hfold
  case hfold => intro _; with_unfolding_all rfl
  repeat walk_at "m"
  refine lenL (S.kk sa _ (by rw [hk0]; exact hsa)) (by omega) ?_
  repeat walk_at "m"
  refine rng1 S fun rx h' t v S => ?_
  refine iterR S (n := vs.length) (by split <;> omega) (by omega) (by omega) (by omega) (by omega) fun it h' S => ?_
  refine for_ (fun q s' => ∃ h tk m o kvs i, s' = ⟨h, s.gens, s.drawn, tk, s.os⟩ ∧ St g k r L [(it, ritO ((i : Nat) : Int) ((vs.length - i : Nat) : Int)), (da, o)] h m ∧ m (Str.ofString "sources") = some (.ref sa) ∧ m (Str.ofString "becomes") = some (.ref ba) ∧ m (Str.ofString "codes") = some (.ref da) ∧ m (Str.ofString "is_deleting") = some (.bool false) ∧
    o.IsDictOf (intKind PR w) kvs ∧ TabOf kvs (cs.take i) bs ∧ kvs.length ≤ i ∧ i ≤ vs.length ∧ q = vs.length - i) ?turn2 vs.length ?start2 ?lt2
  case lt2 => intro _; with_unfolding_all rfl
  case start2 =>
    refine ⟨_, _, _, o, [], 0, rfl, S, by walk_at "mLook", by walk_at "mLook", by walk_at "mLook", by walk_at "mLook", D, TabOf.nil bs, Nat.le_refl _, Nat.zero_le _, rfl⟩
  case turn2 =>
    clear S D
    rintro q2 s2 Qb2 Eb2 ⟨h, tk, m, o, kvs, i, rfl, S, m1, m2, m3, m4, D, T, hkl, hiN, hq2⟩ hnext2 hcont2 hbrk2 hret2 hEb2
    by_cases hi : i < vs.length
    · refine nextR S (by omega) fun h' S => ?_
      dsimp only
      have e1 : ((i : Nat) : Int) + 1 = ((i + 1 : Nat) : Int) := by omega
      have e2 : ((vs.length - i : Nat) : Int) - 1 = ((vs.length - (i + 1) : Nat) : Int) := by omega
      rw [e1, e2] at S
      have hic : i < cs.length := by omega
      obtain ⟨c, hc⟩ : ∃ c, cs[i]? = some c := ⟨_, List.getElem?_eq_getElem hic⟩
      have htk : cs.take (i + 1) = cs.take i ++ [c] := by rw [List.take_add_one, hc]; rfl
      obtain ⟨tc, hvc⟩ := hcs.get hc
      refine assign_Name ?_
      repeat walk_at "m"
      refine itemL (S.kk sa _ (by rw [hk0]; exact hsa)) (i := i) rfl hvc (by omega) ?_ ?hs
      walk_at "mH"
      repeat walk_at "m"
      refine inDI (S.at (.tail _ (.head _))) D hsys ?_
      repeat walk_at "m"
      have fin : ∀ (Qf : Shared → Prop), (∀ s' m, m < q2 → (∃ h tk m_1 o kvs i, s' = ⟨h, s.gens, s.drawn, tk, s.os⟩ ∧ St g k r L [(it, ritO ((i : Nat) : Int) ((vs.length - i : Nat) : Int)), (da, o)] h m_1 ∧ m_1 (Str.ofString "sources") = some (.ref sa) ∧ m_1 (Str.ofString "becomes") = some (.ref ba) ∧ m_1 (Str.ofString "codes") = some (.ref da) ∧ m_1 (Str.ofString "is_deleting") = some (.bool false) ∧
          o.IsDictOf (intKind PR w) kvs ∧ TabOf kvs (cs.take i) bs ∧ kvs.length ≤ i ∧ i ≤ vs.length ∧ m = vs.length - i) → Qf s') →
          ∀ h tk m' o' kvs', St g k r L [(it, ritO ((i + 1 : Nat) : Int) ((vs.length - (i + 1) : Nat) : Int)), (da, o')] h m' → m' (Str.ofString "sources") = some (.ref sa) → m' (Str.ofString "becomes") = some (.ref ba) → m' (Str.ofString "codes") = some (.ref da) → m' (Str.ofString "is_deleting") = some (.bool false) →
          o'.IsDictOf (intKind PR w) kvs' → TabOf kvs' (cs.take i ++ [c]) bs → kvs'.length ≤ i + 1 → Qf ⟨h, s.gens, s.drawn, tk, s.os⟩ :=
        fun Qf hQf h tk m' o' kvs' S a1 a2 a3 a4 D T hl' => hQf _ (vs.length - (i + 1)) (by omega) ⟨h, tk, m', o', kvs', i + 1, rfl, S, a1, a2, a3, a4, D, by rw [htk]; exact T, hl', hi, rfl⟩
      have hstl : ∀ v, (stored kvs (c : Int) v).length ≤ i + 1 := fun v => Nat.le_trans (stored_length_le _ _ _) (by omega)
      have htl : (cs.take i).length = i := by rw [List.length_take]; omega
      by_cases hm : c ∈ cs.take i
      · obtain ⟨tt, ht⟩ := (T c).2 _ (tval_some hm)
        refine ite_t (by rw [ht]; rfl) (xCont ?_)
        exact fin (Qb2 .cont) hcont2 _ _ _ o kvs S (by walk_at "mLook") (by walk_at "mLook") (by walk_at "mLook") (by walk_at "mLook") D (T.old hm) (by omega)
      · refine ite_f (by rw [(T c).1 (tval_none hm)]; rfl) ?_
        repeat walk_at "m"
        refine lenL (S.kk ba _ (by rw [hk0]; exact hba)) (by omega) ?_
        repeat walk_at "m"
        by_cases hlt : i < us.length
        · refine ite_t (decide_eq_true (by omega)) ?_
          repeat walk_at "m"
          obtain ⟨v, hv⟩ : ∃ v, bs[i]? = some v := ⟨_, List.getElem?_eq_getElem (by omega)⟩
          obtain ⟨tv, hvv⟩ := hbs.get hv
          refine itemL (S.kk ba _ (by rw [hk0]; exact hba)) (i := i) rfl hvv (by omega) ?_ ?hs
          walk_at "mH"
          repeat walk_at "m"
          replace S := S.swap
          refine setDI S D (by rw [sizeLine_eq]; omega) fun h' o' D' S => ?_
          repeat walk_at "m"
          refine fin (Qb2 .next) hnext2 _ _ _ o' _ S.swap (by walk_at "mLook") (by walk_at "mLook") (by walk_at "mLook") (by walk_at "mLook") D' (T.new hm ?_) (hstl _)
          have hne : bs ≠ [] := fun e => by rw [e] at hv; cases hv
          rw [if_neg hne, htl, Nat.min_eq_left (by omega), List.getD_eq_getElem?_getD, hv]; rfl
        · refine ite_f (decide_eq_false (by omega)) ?_
          repeat walk_at "m"
          refine newList_ S (fun na h' S => ?_) (Nat.le_of_ble_eq_true rfl)
          refine eqNil (S.kk ba _ (by rw [hk0]; exact hba)) hbs (S.at (.head _)) (by show A.units + 3 + 64 < cLine; omega) ?_
          replace S := S.drop
          repeat walk_at "m"
          by_cases hb0 : bs = []
          · refine ite_t (decide_eq_true hb0) ?_
            repeat walk_at "m"
            replace S := S.swap
            refine setDI S D (by rw [sizeLine_eq]; omega) fun h' o' D' S => ?_
            repeat walk_at "m"
            refine fin (Qb2 .next) hnext2 _ _ _ o' _ S.swap (by walk_at "mLook") (by walk_at "mLook") (by walk_at "mLook") (by walk_at "mLook") D' (T.new hm ?_) (hstl _)
            rw [if_pos hb0]
          · refine ite_f (decide_eq_false hb0) ?_
            repeat walk_at "m"
            refine lenL (S.kk ba _ (by rw [hk0]; exact hba)) (by omega) ?_
            repeat walk_at "m"
            have hbp : 0 < bs.length := List.length_pos_iff.mpr hb0
            obtain ⟨v, hv⟩ : ∃ v, bs[bs.length - 1]? = some v := ⟨_, List.getElem?_eq_getElem (by omega)⟩
            obtain ⟨tv, hvv⟩ := hbs.get hv
            refine itemL (S.kk ba _ (by rw [hk0]; exact hba)) (i := bs.length - 1) (by omega) hvv (by omega) ?_ ?hs
            walk_at "mH"
            repeat walk_at "m"
            replace S := S.swap
            refine setDI S D (by rw [sizeLine_eq]; omega) fun h' o' D' S => ?_
            repeat walk_at "m"
            refine fin (Qb2 .next) hnext2 _ _ _ o' _ S.swap (by walk_at "mLook") (by walk_at "mLook") (by walk_at "mLook") (by walk_at "mLook") D' (T.new hm ?_) (hstl _)
            rw [if_neg hb0, htl, Nat.min_eq_right (by omega), List.getD_eq_getElem?_getD, hv]; rfl
    · refine endR S hh (by omega) fun h' S => ?_
      dsimp only
      repeat walk_at "m"
      have hin : i = vs.length := by omega
      have hf := (S.mu _ (.head _)).2.2.1
      rw [hk0] at hf
      refine hQ _ _ (hR _ _ da o kvs (fun b o e => S.kk b o (hk ▸ e)) hf hsys (S.at (.head _)) D ?_)
      rw [hin, List.take_of_length_le (by omega)] at T
      exact T
end

-- T11
section
open PySem PySem.W PyProof.Rows PySem.Calls PySem.Builtin PySem.Builtin.ObjectAttr
theorem lit_d : Str.ofString "d" = tx [100] := by decide +kernel
theorem lit_s : Str.ofString "s" = tx [115] := by decide +kernel
/-- a list of a transliteration: its letters, what it tells (none: it dies) -/
inductive Src : List Nat → Option (List Nat) → Prop
  | blks (bs : List Blk) (hok : ∀ b ∈ bs, OkBlk b) (hl : bs.length ≤ 6) : Src ((itsOf bs).flatMap (·.1)) (codesOf bs)
  | bad (l : List Nat) (h : Bad l) : Src l none
theorem its_text_len {bs : List Blk} (h : ∀ b ∈ bs, OkBlk b) : ((itsOf bs).flatMap (·.1)).length ≤ 24 * (itsOf bs).length := by
  have hi := itsOf_ok h
  generalize itsOf bs = l at hi
  induction l with
  | nil => simp
  | cons i r ih =>
    have h1 := (hi i (.head _)).len
    have h2 := ih fun x hx => hi x (.tail _ hx)
    simp only [List.flatMap_cons, List.length_append, List.length_cons]
    omega
theorem Src.len {l : List Nat} {cs : List Nat} (h : Src l (some cs)) : cs.length < 4000 ∧ ∀ c ∈ cs, c < 512 := by
  generalize hq : some cs = o at h
  cases h with
  | blks bs hok hl => have := codes_len hok hq.symm; exact ⟨by omega, this.2⟩
  | bad => cases hq
theorem codes_any {w : World} {A : Around} {s : Shared} {R : Result → Shared → Prop} {mg mb : Str → Option Value} {g : Heap} {fl : List Env} (G : Gl w mg mb g) (hg : ∀ b o, g.get? b = some o → s.heap.get? b = some o) (hroom : A.depth + 9 < recursionLimit) (hun : A.units + 200 < cLine) (hh : A.handled = none) (K : Stk A fl s.heap) (hoff : ∀ a ∈ fa fl, g.get? a = none)
    (x : Str) (l : List Nat) (res : Option (List Nat)) (t1 t2 : Tok) (hx : x = tx l) (hsrc : Src l res)
    (hR : ∀ h' tk a (r' : PF) vs n cs, res = some cs → Sub (kOf s.heap []) h' → Sub r' h' → (∀ b o, r' b = some o → s.heap.get? b = none) → r' a = some (lst vs n) → NatsAre vs cs → R (.ok (.ret (.ref a))) { s with heap := h', toks := tk })
    (hRe : res = none → ∀ e h' tk, Thrown 51 (bs s.heap fl) fl e .none h' → s.heap.UpToSlots h' → R (.error (.ref e)) { s with heap := h', toks := tk }) :
    codeAny (model PR w) A (.call (.ref 150) ⟨[.str x t1, .int 4000 t2], []⟩) R s := by
  cases hsrc with
  | blks b0 hok hl =>
    have h1 := its_text_len hok
    have h2 := itsOf_len b0
    exact codes_go G hg (by omega) hun hh K hoff x b0 t1 t2 hok hx (by omega) hl hR hRe
  | bad l hb => exact codes_bad G hg hroom hh K hoff x l t1 _ hx hb (hRe rfl)
section
variable {w : World} {A : Around} {E : Value → Shared → Prop} {g h : Heap} {k r : PF} {L : Addr} {μ : List (Addr × Obj)} {m : Str → Option Value} {gn : Array GenState} {d : Drawn} {tk : Nat} {os : OsState} {x C dx : Addr} {K : Frag}
theorem obj_set {name : Str} {v : Value} {Q : Unit → Shared → Prop} {od : Obj} {mA : Str → Option Value} {ns : List Str} (X : K.In h) (hs : findIn K (.ref C) "__setattr__" = some (some (.builtin "object.__setattr__"))) (hp : plainOver K C = true) (hh : (clsIn K C).any (·.hasDict) = true) (ht : takerIn K C name = some none)
    (S : St g k r L ((x, instObj C dx) :: (dx, od) :: μ) h m) (D : DO od mA) (hw : Within mA ns) (hns : ns.length ≤ 10)
    (hq : ∀ h' tk' od', DO od' (upd mA name v) → St g k r L ((x, instObj C dx) :: (dx, od') :: μ) h' m → Q () ⟨h', gn, d, tk', os⟩) :
    wpAny (model PR w) A (setAttr (.ref x) name v) Q E ⟨h, gn, d, tk, os⟩ := by
  have he := S.at (.head _)
  have hgd := S.at (.tail _ (.head _))
  have I : InstAt h x (instObj C dx) C (some od) := ⟨he, rfl, rfl, hgd⟩
  refine set_plain X I hs (osa_open X I hp ht fun b => ?_)
  obtain ⟨cd, hc, hd'⟩ := any_some hh
  refine wpAny_bind (wpAny_pure (wpAny_bind (wpAny_bind (wpAny_loadPart he ?_))))
  dsimp only
  refine wpAny_bind ((looks_clsIn X hc).here ?_)
  rw [hd']
  refine wpAny_pure (a := some dx) (wpAny_bind (wpAny_pure ?_))
  refine wpAny_bind (wpAny_nsSet1 (D.ns hgd) fun h' hn' hs => ?_)
  obtain ⟨oD, esD, epD, hoD, hdD, hcD⟩ := hn'.count (Within.cons name v hw)
  refine wpAny_bind (wpAny_lookBehind hoD (by rw [hdD]; exact pastItsLine_dict (Nat.le_trans hcD (by rw [List.length_cons, sizeLine_eq]; omega))) ?_)
  obtain ⟨od, hod, D⟩ := DO.of hn'
  wp_walk
  exact hq _ _ od D (S.swap.change hs hod).swap
end
set_option maxHeartbeats 4000000 in
theorem tab_init {w : World} {A : Around} {s : Shared} {R : Result → Shared → Prop} {mg mb : Str → Option Value} {g : Heap} (G : Gl w mg mb g) (hg : ∀ b o, g.get? b = some o → s.heap.get? b = some o) (hroom : A.depth < recursionLimit)
    (xo dx : Addr) (hxo : s.heap.get? xo = some (instObj 125 dx)) (hdx : s.heap.get? dx = some emptyDict) (hne : xo ≠ dx) (hgx : g.get? xo = none) (hgd : g.get? dx = none) (v1 v2 v3 v4 v5 v6 : Value)
    (hR : ∀ h' tk od mA, Sub (kOf s.heap [xo, dx]) h' → h'.get? xo = some (instObj 125 dx) → h'.get? dx = some od → DO od mA → mA (Str.ofString "codes") = some v1 → mA (Str.ofString "is_turned") = some v2 → mA (Str.ofString "is_squeezing") = some v6 → R (.ok (.ret .none)) { s with heap := h', toks := tk }) :
    codeAny (model PR w) A (.call (.ref 122) ⟨[.ref xo, v1, v2, v3, v4, v5, v6], []⟩) R s := by
  refine' enter_ (binds := [(Str.ofString "self", .ref xo), (Str.ofString "codes", v1), (Str.ofString "is_turned", v2), (Str.ofString "barred", v3), (Str.ofString "becomes", v4), (Str.ofString "is_deleting", v5), (Str.ofString "is_squeezing", v6)]) [(xo, instObj 125 dx), (dx, emptyDict)] G hg ?hm ?hnd ?ho ?hcd hroom ?hbind ?hloc ?h ?c1 ?c2 ?c3 ?c4
  case hm =>
    intro p hp
    simp only [List.mem_cons, List.not_mem_nil, or_false] at hp
    rcases hp with rfl | rfl
    · exact ⟨hxo, hgx⟩
    · exact ⟨hdx, hgd⟩
  case hnd => simp [hne]
  walk_at "mSides"
  have D0 : DO emptyDict (fun _ => none) := ⟨#[], 0, rfl, fun e he => absurd he (by simp), by unfold UniqKeys; exact .nil, fun _ => rfl⟩
  refine xSetAttr ?_ ?hs
  case hs => with_unfolding_all rfl
  repeat walk_at "m"
  refine obj_set (G.K.keeps S.gg) (by k_is) (by k_is) (by rfl) (by k_is) S D0 Within.nil (by simp) fun h' tk' od D S => ?_
  refine xSetAttr ?_ ?hs
  case hs => with_unfolding_all rfl
  repeat walk_at "m"
  refine obj_set (G.K.keeps S.gg) (by k_is) (by k_is) (by rfl) (by k_is) S D (by repeat (first | exact Within.nil | apply Within.cons)) (by simp) fun h' tk' od D S => ?_
  refine xSetAttr ?_ ?hs
  case hs => with_unfolding_all rfl
  repeat walk_at "m"
  refine obj_set (G.K.keeps S.gg) (by k_is) (by k_is) (by rfl) (by k_is) S D (by repeat (first | exact Within.nil | apply Within.cons)) (by simp) fun h' tk' od D S => ?_
  refine xSetAttr ?_ ?hs
  case hs => with_unfolding_all rfl
  repeat walk_at "m"
  refine obj_set (G.K.keeps S.gg) (by k_is) (by k_is) (by rfl) (by k_is) S D (by repeat (first | exact Within.nil | apply Within.cons)) (by simp) fun h' tk' od D S => ?_
  refine xSetAttr ?_ ?hs
  case hs => with_unfolding_all rfl
  repeat walk_at "m"
  refine obj_set (G.K.keeps S.gg) (by k_is) (by k_is) (by rfl) (by k_is) S D (by repeat (first | exact Within.nil | apply Within.cons)) (by simp) fun h' tk' od D S => ?_
  refine xSetAttr ?_ ?hs
  case hs => with_unfolding_all rfl
  repeat walk_at "m"
  refine obj_set (G.K.keeps S.gg) (by k_is) (by k_is) (by rfl) (by k_is) S D (by repeat (first | exact Within.nil | apply Within.cons)) (by simp) fun h' tk' od D S => ?_
  repeat walk_at "m"
  refine hQn _ (hR _ _ od _ (fun b o q => S.kk b o (hk ▸ q)) (S.at (.head _)) (S.at (.tail _ (.head _))) D ?_ ?_ ?_)
  · walk_at "mLook"
  · walk_at "mLook"
  · walk_at "mLook"
/-- the table that make_trans hands back -/
noncomputable def Tab (w : World) (h : Heap) (x : Addr) (cs bs : List Nat) : Prop := ∃ dx od mA da o kvs, h.get? x = some (instObj 125 dx) ∧ h.get? dx = some od ∧ DO od mA ∧ mA (Str.ofString "codes") = some (.ref da) ∧ mA (Str.ofString "is_turned") = some (.bool false) ∧ mA (Str.ofString "is_squeezing") = some (.bool false) ∧
  (da == sysModules) = false ∧ h.get? da = some o ∧ o.IsDictOf (intKind PR w) kvs ∧ TabOf kvs cs bs
theorem Tab.keep {w : World} {h h' : Heap} {x : Addr} {cs bs : List Nat} (T : Tab w h x cs bs) (k : ∀ b o, h.get? b = some o → h'.get? b = some o) : Tab w h' x cs bs := by
  obtain ⟨dx, od, mA, da, o, kvs, a1, a2, a3, a4, a5, a6, a7, a8, a9⟩ := T
  exact ⟨dx, od, mA, da, o, kvs, k _ _ a1, k _ _ a2, a3, a4, a5, a6, a7, k _ _ a8, a9⟩
theorem tab_made {w : World} {A : Around} {mg mb : Str → Option Value} {g h : Heap} {E : Value → Shared → Prop} {gn : Array GenState} {d : Drawn} {tk : Nat} {os : OsState} (G : Gl w mg mb g) (hg : ∀ b o, g.get? b = some o → h.get? b = some o) (hroom : A.depth + 2 < recursionLimit) {v3 v4 v5 : Value} {da : Addr} {o : Obj} {kvs : List (Int × Value)} {cs bs : List Nat} {Q : Value → Shared → Prop}
    (hsys : (da == sysModules) = false) (hda : h.get? da = some o) (D : o.IsDictOf (intKind PR w) kvs) (T : TabOf kvs cs bs)
    (hq : ∀ h' tk' x, (∀ b o, h.get? b = some o → h'.get? b = some o) → Tab w h' x cs bs → Q (.ref x) ⟨h', gn, d, tk', os⟩) :
    wpAny (model PR w) A (call (.ref 125) [.ref da, .bool false, v3, v4, v5, .bool false]) Q E ⟨h, gn, d, tk, os⟩ := by
  have X := G.K.keeps hg
  have e1 : makesIn (hd.heap_1 w.params) 125 = true := by k_is
  have e2 : findIn (hd.heap_1 w.params) (.ref 125) (Str.ofString "__init__") = some (some (.ref 122)) := by k_is
  have e3 : typeIn (hd.heap_1 w.params) (.ref 122) = some (.type "function") := by k_is
  refine call_ fun R hR _ => make_core (makes_of X e1) (looks_findIn X e2) (fun self => bind_fn X self e3) (.inl rfl) ?_
  have hx : ((h.push emptyDict).push (instObj 125 h.objs.size)).get? (h.objs.size + 1) = some (instObj 125 h.objs.size) := by heap_get
  have hdd : ((h.push emptyDict).push (instObj 125 h.objs.size)).get? h.objs.size = some emptyDict := by heap_get
  have hn1 : h.get? (h.objs.size + 1) = none := Heap.get?_none_of_le (Nat.le_succ _)
  have hn2 : h.get? h.objs.size = none := Heap.get?_none_of_le (Nat.le_refl _)
  have kp := tup_push_kept h emptyDict (instObj 125 h.objs.size)
  refine tab_init (s := ⟨_, _, _, _, _⟩) G (fun b o e => kp _ _ (hg b o e)) (by rw [tc_depth]; omega) _ _ hx hdd (Nat.succ_ne_self _) (none_of_sub hg hn1) (none_of_sub hg hn2) _ _ _ _ _ _ fun h' tk od mA hs hxo hdx DD a1 a2 a3 => ?_
  have hk : ∀ b o, h.get? b = some o → h'.get? b = some o := fun b o q => hs b o (by
    have hb : b ∉ [h.objs.size + 1, h.objs.size] := fun z => by
      simp only [List.mem_cons, List.not_mem_nil, or_false] at z
      rcases z with z | z
      · rw [z, hn1] at q; cases q
      · rw [z, hn2] at q; cases q
    simp [kOf, hb]; exact kp b o q)
  exact ⟨rfl, hR _ _ (hq h' tk _ hk ⟨_, od, mA, da, o, kvs, hxo, hdx, DD, a1, a2, a3, hsys, hk _ _ hda, D, T⟩)⟩
set_option maxHeartbeats 4000000 in
theorem make_go {w : World} {A : Around} {s : Shared} {R : Result → Shared → Prop} {mg mb : Str → Option Value} {g : Heap} {fl : List Env} (G : Gl w mg mb g) (hg : ∀ b o, g.get? b = some o → s.heap.get? b = some o) (hroom : A.depth + 10 < recursionLimit) (hun : A.units + 300 < cLine) (hh : A.handled = none) (K : Stk A fl s.heap) (hoff : ∀ a ∈ fa fl, g.get? a = none)
    (x y : Str) (l1 l2 : List Nat) (res1 res2 : Option (List Nat)) (t1 t2 t3 t4 : Tok) (hx : x = tx l1) (hy : y = tx l2) (hs1 : Src l1 res1) (hs2_ : Src l2 res2) (f : Str) (hf : f = tx [])
    (hR : ∀ h' tk a cs bs, res1 = some cs → res2 = some bs → Sub (kOf s.heap []) h' → Tab w h' a cs bs → R (.ok (.ret (.ref a))) { s with heap := h', toks := tk })
    (hRe : (res1 = none ∨ res2 = none) → ∀ e h' tk, Thrown 51 (bs s.heap fl) fl e .none h' → s.heap.UpToSlots h' → R (.error (.ref e)) { s with heap := h', toks := tk }) :
    codeAny (model PR w) A (.call (.ref 171) ⟨[.str x t1, .str y t2, .str f t3, .int 4000 t4], []⟩) R s := by
  have hroom' : A.depth < recursionLimit := by omega
  refine' enter_ (binds := [(Str.ofString "source", .str x t1), (Str.ofString "target", .str y t2), (Str.ofString "flags", .str f t3), (Str.ofString "most", .int 4000 t4)]) [] G hg (fun _ hp => nomatch hp) .nil ?ho ?hcd hroom' ?hbind ?hloc ?h ?c1 ?c2 ?c3 ?c4
  walk_at "mSides"
  have hfr : env.frame = some L := by rw [he]; rfl
  repeat walk_at "m"
  refine call_ fun R' hr' he' => codes_any (A := A.deeper env) (s := ⟨_, _, _, _, _⟩) (fl := env :: fl) G S.gg (by show A.depth + 1 + 9 < _; omega) (by show A.units + 3 + 200 < _; omega) hh (K.push hk S hfr (by rw [he]; intro z; cases z)) (off_push hoff S hfr) _ l1 res1 _ _ hx hs1
    (fun h2 tk2 sa r1 vs n1 cs hres hs2 hsr hfresh hsa hna => hr' _ _ ?_) (fun hres e h2 tk2 T2 U2 => he' _ _ (hE _ _ (raise_end K hk hL hfr S T2 (.inl rfl) U2 fun h' T U => hRe (.inl hres) _ _ _ T U)))
  dsimp only
  obtain ⟨r2, hr2, hr12, S⟩ := S.join hs2.stays hsr hfresh
  replace hsa := hr12 _ _ hsa
  repeat walk_at "m"
  refine call_ fun R' hr' he' => codes_any (A := A.deeper env) (s := ⟨_, _, _, _, _⟩) (fl := env :: fl) G S.gg (by show A.depth + 1 + 9 < _; omega) (by show A.units + 3 + 200 < _; omega) hh (K.push hk S hfr (by rw [he]; intro z; cases z)) (off_push hoff S hfr) _ l2 res2 _ _ hy hs2_
    (fun h2 tk2 ba r1 us n2 bs hres2 hs2 hsr hfresh hba hnb => hr' _ _ ?_) (fun hres e h2 tk2 T2 U2 => he' _ _ (hE _ _ (raise_end K hk hL hfr S T2 (.inl rfl) U2 fun h' T U => hRe (.inr hres) _ _ _ T U)))
  dsimp only
  obtain ⟨r3, hr3, hr13, S⟩ := S.join hs2.stays hsr hfresh
  replace hba := hr13 _ _ hba
  replace hsa := hr3 _ _ hsa
  have hl1 := (hres ▸ hs1 : Src l1 (some cs)).len
  have hl2 := (hres2 ▸ hs2_ : Src l2 (some bs)).len
  repeat walk_at "m"
  refine inS lit_d hf ?_
  rw [show decide (100 ∈ ([] : List Nat)) = false from rfl]
  repeat walk_at "m"
  refine inS lit_c hf ?_
  repeat walk_at "m"
  refine call_ fun R' hr' _ => plain_ok (A := A.deeper env) (s := ⟨_, _, _, _, _⟩) G S.gg (by show A.depth + 1 < _; omega) (by show A.units + 3 + 200 < _; omega) hh sa ba vs us n1 n2 cs bs (S.rr _ _ hsa) (S.rr _ _ hba) hna hnb hl1.1 hl2.1 (fun h2 tk2 da o kvs hs2 hnew hsys hda D T => hr' _ _ ?_)
  have hfr2 := S.fresh hnew
  replace S := (S.grow hs2.stays).add hda hfr2
  dsimp only
  repeat walk_at "m"
  refine newList_ S (fun na h' S => ?_) (Nat.le_of_ble_eq_true rfl)
  repeat walk_at "m"
  refine inS lit_s hf ?_
  rw [show decide (115 ∈ ([] : List Nat)) = false from rfl]
  repeat walk_at "m"
  refine tab_made G S.gg (by show A.depth + 1 + 2 < _; omega) hsys (S.at (.tail _ (.head _))) D T fun h' tk' x hkp T' => ?_
  exact hQ _ _ (hR _ _ x cs bs hres hres2 (fun b o q => hkp _ _ (S.kk b o (hk ▸ q))) T')
end

-- L6
section
open PySem PySem.W PyProof.Rows PySem.Calls PySem.Builtin PySem.Spec PySem.SeqAt
noncomputable def SIt (o : Obj) (x : Str) (t : Tok) (i : Nat) : Prop := (o.cls = .type "str_ascii_iterator" ∨ o.cls = .type "str_iterator") ∧ o.data = .fields #[.str x t, .int i 0]
/-- texts of one sign each -/
noncomputable def OnesAre (vs : List Value) (l : List Nat) : Prop := StrsAre vs (l.map fun c => tx [c])
theorem OnesAre.nil : OnesAre [] [] := StrsAre.nil
theorem strsAre_snoc : ∀ {vs : List Value} {ys : List Str}, StrsAre vs ys → ∀ (y : Str) (t : Tok), StrsAre (vs ++ [.str y t]) (ys ++ [y])
  | _, _, .nil, y, t => .cons _ _ .nil
  | _, _, .cons _ _ r, y, t => .cons _ _ (strsAre_snoc r y t)
theorem OnesAre.snoc {vs l} (h : OnesAre vs l) (c : Nat) (t : Tok) : OnesAre (vs ++ [.str (tx [c]) t]) (l ++ [c]) := by
  unfold OnesAre
  rw [List.map_append]
  exact strsAre_snoc h _ _
theorem strsAre_len : ∀ {vs : List Value} {ys : List Str}, StrsAre vs ys → vs.length = ys.length
  | _, _, .nil => rfl
  | _, _, .cons _ _ r => congrArg (· + 1) (strsAre_len r)
theorem OnesAre.len {vs l} (h : OnesAre vs l) : vs.length = l.length := by have := strsAre_len h; simpa using this
theorem glue_go (l : List Nat) : ∀ acc : Array Nat, (l.map fun c => tx [c]).foldl (fun a (p : Str) => a ++ (tx []).cps ++ p.cps) acc = acc ++ l.toArray := by
  induction l with
  | nil => intro acc; simp
  | cons c r ih =>
    intro acc
    simp only [List.map_cons, List.foldl_cons]
    rw [ih]
    simp [tx]
theorem glue_ones (l : List Nat) : Txt.join (tx []) (l.map fun c => tx [c]) = tx l := by
  show Builtin.Str.glued _ _ = _
  unfold Builtin.Str.glued
  cases l with
  | nil => rfl
  | cons c r =>
    simp only [List.map_cons, List.drop_one, List.tail_cons, List.headD_cons]
    rw [glue_go]
    simp [tx]
theorem ones_sum : ∀ l : List Nat, ((l.map fun c => tx [c]).map (·.length)).sum = l.length
  | [] => rfl
  | c :: r => by
    have := ones_sum r
    simp only [List.map_cons, List.sum_cons, List.length_cons, this, tx_len, List.length_nil]
    omega
section
variable {w : World} {A : Around} {E : Value → Shared → Prop} {env : Env} {g h : Heap} {k r : PF} {L : Addr} {μ : List (Addr × Obj)} {m mg mb : Str → Option Value} {gn : Array GenState} {d : Drawn} {tk : Nat} {os : OsState}
theorem joinOnes {a : Addr} {vs : List Value} {l : List Nat} {n : Nat} {x : Str} {t : Tok} {Q : Value → Shared → Prop} (hx : x = tx []) (e : h.get? a = some (lst vs n)) (ho : OnesAre vs l) (hl : l.length ≤ 10000000)
    (hq : ∀ t' k, Q (.str (tx l) t') ⟨h, gn, d, k, os⟩) : wpAny (model PR w) A (call (.builtin "str.join") [.str x t, .ref a]) Q E ⟨h, gn, d, tk, os⟩ := by
  subst hx
  refine join_list (isList_of e) (show StrsAre vs.toArray.toList _ from ho) ?_ fun t' k => ?_
  · have e1 : ((l.map fun c => tx [c]).map (·.length)).sum = l.length := ones_sum l
    have e2 : (tx []).length = 0 := by simp [tx_len]
    rw [e1, e2]; omega
  · rw [glue_ones]; exact hq t' k
theorem iterS {x : Str} {t : Tok} {Q : Value → Shared → Prop} (S : St g k r L μ h m) (hq : ∀ it o h', SIt o x t 0 → St g k r L ((it, o) :: μ) h' m → Q (.ref it) ⟨h', gn, d, tk, os⟩) :
    wpAny (model PR w) A (pyIter (.str x t)) Q E ⟨h, gn, d, tk, os⟩ := by
  cases ha : x.cps.all (· < 128) with
  | true => exact wpAny_pyIter_ascii ha (hq _ { cls := .type "str_ascii_iterator", data := .fields #[.str x t, .int 0 0] } _ ⟨.inl rfl, rfl⟩ (S.push _))
  | false => exact wpAny_pyIter_wide ha (hq _ { cls := .type "str_iterator", data := .fields #[.str x t, .int 0 0] } _ ⟨.inr rfl, rfl⟩ (S.push _))
theorem nextS {it : Addr} {o : Obj} {x : Str} {l : List Nat} {t : Tok} {i c : Nat} {Q : Option Value → Shared → Prop} (S : St g k r L ((it, o) :: μ) h m) (D : SIt o x t i) (hx : x = tx l) (hc : l[i]? = some c)
    (hq : ∀ h' o', SIt o' x t (i + 1) → St g k r L ((it, o') :: μ) h' m → Q (some (.str (tx [c]) tk)) ⟨h', gn, d, tk + 1, os⟩) :
    wpAny (model PR w) A (pyNext (.ref it)) Q E ⟨h, gn, d, tk, os⟩ := by
  have hc' : x.cps[i]? = some c := by subst hx; simpa [tx] using hc
  rcases D with ⟨hcl | hcl, hdt⟩
  · refine wpAny_pyNext_ascii_item ⟨o, S.at (.head _), hcl, hdt⟩ hc' fun h' hit hs => ?_
    obtain ⟨o', e, a1, a2⟩ := hit
    exact hq h' o' ⟨.inl a1, a2⟩ (S.change hs e)
  · refine wpAny_pyNext_wide_item ⟨o, S.at (.head _), hcl, hdt⟩ hc' fun h' hit hs => ?_
    obtain ⟨o', e, a1, a2⟩ := hit
    exact hq h' o' ⟨.inr a1, a2⟩ (S.change hs e)
theorem endS {it : Addr} {o : Obj} {x : Str} {l : List Nat} {t : Tok} {i : Nat} {Q : Option Value → Shared → Prop} (S : St g k r L ((it, o) :: μ) h m) (D : SIt o x t i) (hh : A.handled = none) (hx : x = tx l) (hc : l.length ≤ i)
    (hq : ∀ h', St g k r L μ h' m → Q none ⟨h', gn, d, tk, os⟩) :
    wpAny (model PR w) A (pyNext (.ref it)) Q E ⟨h, gn, d, tk, os⟩ := by
  have hc' : x.cps[i]? = none := by subst hx; simpa [tx] using hc
  rcases D with ⟨hcl | hcl, hdt⟩
  · exact wpAny_pyNext_ascii_end hh ⟨o, S.at (.head _), hcl, hdt⟩ hc' fun h' hx => hq h' (S.ext hx)
  · exact wpAny_pyNext_wide_end hh ⟨o, S.at (.head _), hcl, hdt⟩ hc' fun h' hx => hq h' (S.ext hx)
theorem obj_get {K : Frag} {C x dx : Addr} {od : Obj} {mA : Str → Option Value} {name : Str} {v : Value} {expr : Bool} {cd : ClassData} {Q : Value → Shared → Prop} (X : K.In h) (hc : clsIn K C = some cd) (hhd : cd.hasDict = true) (hga : findIn K (.ref C) "__getattribute__" = some (some (.builtin "object.__getattribute__"))) (hn : findIn K (.ref C) name = some none)
    (hx : h.get? x = some (instObj C dx)) (hd : h.get? dx = some od) (D : DO od mA) (hv : mA name = some v) (hh : handedIn v = true) (hq : Q v ⟨h, gn, d, tk + 1, os⟩) :
    wpAny (model PR w) A (getAttr (.ref x) name expr) Q E ⟨h, gn, d, tk, os⟩ := by
  have I : InstAt h x (instObj C dx) C (some od) := ⟨hx, rfl, rfl, hd⟩
  have hf : findObj K C (some od) name = some (.value v) := by
    unfold findObj
    rw [hc, Option.bind_some, hn, Option.bind_some]
    dsimp only
    rw [Option.bind_some, Option.bind_some]
    unfold PySem.W.ownOf
    dsimp only
    rw [if_pos hhd, D.look, hv]
    rfl
  exact get_value X I hga hf hh hq
theorem gmGet {a : Addr} {o : Obj} {kvs : List (Int × Value)} {pl : Sem Bool} {Q : Value × List Value → Shared → Prop} (e : h.get? a = some o) (D : o.IsDictOf (intKind PR w) kvs) (hq : Q (.builtin "dict.get", [.ref a]) ⟨h, gn, d, tk, os⟩) :
    wpAny (model PR w) A (getMethod (.ref a) (Str.ofString "get") pl) Q E ⟨h, gn, d, tk, os⟩ := by
  have hd : (⟨h, gn, d, tk, os⟩ : Shared).heap.DictOf (intKind PR w) a kvs := Heap.dictOf_iff.mpr ⟨o, e, D⟩
  exact getMethod_builtin hd.typeIs PySem.F.plainAttrs_dict PySem.F.slot_dict_get PySem.F.type_dict_get hd.mapOf.noDict hq
theorem getDI {a : Addr} {o : Obj} {n : Int} {t : Tok} {v : Value} {kvs : List (Int × Value)} {Q : Value → Shared → Prop} (e : h.get? a = some o) (D : o.IsDictOf (intKind PR w) kvs) (hs : (a == sysModules) = false)
    (hq : Q ((valueAt kvs n).getD v) ⟨h, gn, d, tk + 1, os⟩) : wpAny (model PR w) A (call (.builtin "dict.get") [.ref a, .int n t, v]) Q E ⟨h, gn, d, tk, os⟩ := by
  have hd : (⟨h, gn, d, tk, os⟩ : Shared).heap.DictOf (intKind PR w) a kvs := Heap.dictOf_iff.mpr ⟨o, e, D⟩
  exact call_meetsIn PySem.F.slot_dict_get hd.typeIs PySem.F.entry_dict_get (PySem.F.args_dict_get_3 _ _ _) (meets_dict_get_default (intKind PR w) a (k := n) (intKind_is _ _ _ _) hs v) ⟨_, hd.mapOf, hq⟩
end
end

-- T12
section
open PySem PySem.W PyProof.Rows PySem.Calls
theorem cls125 (w : World) : ∃ cd, clsIn (hd.heap_1 w.params) 125 = some cd ∧ cd.hasDict = true := ⟨_, rfl, rfl⟩
set_option maxHeartbeats 4000000 in
theorem code_ok {w : World} {A : Around} {s : Shared} {R : Result → Shared → Prop} {mg mb : Str → Option Value} {g : Heap} (G : Gl w mg mb g) (hg : ∀ b o, g.get? b = some o → s.heap.get? b = some o) (hroom : A.depth < recursionLimit)
    (x : Addr) (cs bs : List Nat) (n : Nat) (t1 : Tok) (T : Tab w s.heap x cs bs)
    (hR : ∀ h' tk v, Sub (kOf s.heap []) h' → (tval cs bs n = none → ∃ t, v = .int (-1) t) → (∀ u, tval cs bs n = some u → ∃ t, v = .int (u : Int) t) → R (.ok (.ret v)) { s with heap := h', toks := tk }) :
    codeAny (model PR w) A (.call (.ref 192) ⟨[.ref x, .int (n : Int) t1], []⟩) R s := by
  refine' enter_ (binds := [(Str.ofString "table", .ref x), (Str.ofString "code", .int (n : Int) t1)]) [] G hg (fun _ hp => nomatch hp) .nil ?ho ?hcd hroom ?hbind ?hloc ?h ?c1 ?c2 ?c3 ?c4
  walk_at "mSides"
  have hk0 := hk
  rw [List.map_nil, kOf_nil] at hk0
  obtain ⟨cd, hcd, hhd⟩ := cls125 w
  obtain ⟨dx, od, mA, da, o, kvs, a1, a2, a3, a4, a5, a6, a7, a8, a9, a10⟩ := T
  rw [← hk0] at a1 a2 a8
  repeat walk_at "m"
  refine obj_get (G.K.keeps S.gg) hcd hhd (by k_is) (by k_is) (S.kk _ _ a1) (S.kk _ _ a2) a3 a5 rfl ?_
  repeat walk_at "m"
  refine obj_get (G.K.keeps S.gg) hcd hhd (by k_is) (by k_is) (S.kk _ _ a1) (S.kk _ _ a2) a3 a4 rfl ?_
  refine gmGet (S.kk _ _ a8) a9 ?_
  repeat walk_at "m"
  refine getDI (S.kk _ _ a8) a9 a7 ?_
  refine hQ _ _ (hR _ _ _ (fun b o e => S.kk b o (hk ▸ e)) (fun e => ?_) fun u e => ?_)
  · rw [(a10 n).1 e]; exact ⟨_, rfl⟩
  · obtain ⟨t, q⟩ := (a10 n).2 u e
    rw [q]; exact ⟨t, rfl⟩
set_option maxHeartbeats 4000000 in
theorem run_ok {w : World} {A : Around} {s : Shared} {R : Result → Shared → Prop} {mg mb : Str → Option Value} {g : Heap} (G : Gl w mg mb g) (hg : ∀ b o, g.get? b = some o → s.heap.get? b = some o) (hroom : A.depth + 1 < recursionLimit) (hh : A.handled = none)
    (x : Addr) (cs bs : List Nat) (y : Str) (l : List Nat) (t1 : Tok) (T : Tab w s.heap x cs bs) (hcs : ∀ c ∈ cs, c < 512) (hbs : ∀ c ∈ bs, c < 512) (hy : y = tx l) (hl0 : l.length < 100000)
    (hR : ∀ h' tk a t u, Sub (kOf s.heap []) h' → s.heap.get? a = none → h'.get? a = some (tup [.str (tx (turnTx cs bs l)) t, .int ((turnN cs bs l : Nat) : Int) u]) → R (.ok (.ret (.ref a))) { s with heap := h', toks := tk }) :
    codeAny (model PR w) A (.call (.ref 199) ⟨[.ref x, .str y t1], []⟩) R s := by
  have hroom' : A.depth < recursionLimit := by omega
  refine' enter_ (binds := [(Str.ofString "table", .ref x), (Str.ofString "text", .str y t1)]) [] G hg (fun _ hp => nomatch hp) .nil ?ho ?hcd hroom' ?hbind ?hloc ?h ?c1 ?c2 ?c3 ?c4
  walk_at "mSides"
  have hk0 := hk
  rw [List.map_nil, kOf_nil] at hk0
  obtain ⟨cd, hcd, hhd⟩ := cls125 w
  obtain ⟨dx, od, mA, da, o, kvs, a1, a2, a3, a4, a5, a6, a7, a8, a9, a10⟩ := id T
  rw [← hk0] at a1 a2 a8
  repeat walk_at "m"
  refine newList_ S (fun oa h' S => ?_) (Nat.le_of_ble_eq_true rfl)
  repeat walk_at "m"
  refine xFor ?_ ?hfold
  case hfold => intro _; with_unfolding_all rfl
  repeat walk_at "m"
  refine iterS S fun it oi h' D S => ?_
  refine for_ (fun q s' => ∃ h tk m o vs n i, s' = ⟨h, s.gens, s.drawn, tk, s.os⟩ ∧ St g k r L [(it, o), (oa, lst vs n)] h m ∧ m (Str.ofString "table") = some (.ref x) ∧ m (Str.ofString "out") = some (.ref oa) ∧ IntAt m (Str.ofString "count") (turnN cs bs (l.take i) : Nat) ∧
    SIt o y t1 i ∧ OnesAre vs (turnTx cs bs (l.take i)) ∧ i ≤ l.length ∧ q = l.length - i) ?turn2 l.length ?start2 ?lt2
  case lt2 => intro _; with_unfolding_all rfl
  case start2 =>
    refine ⟨_, _, _, _, [], _, 0, rfl, S, by walk_at "mLook", by walk_at "mLook", ⟨_, by walk_at "mLook"⟩, D, OnesAre.nil, Nat.zero_le _, rfl⟩
  case turn2 =>
    clear S D
    rintro q2 s2 Qb2 Eb2 ⟨h, tk, m, o, vs, n, i, rfl, S, m1, m2, ⟨tc, m3⟩, D, ho, hiN, hq2⟩ hnext2 hcont2 hbrk2 hret2 hEb2
    have hvl : vs.length = i := by rw [ho.len]; unfold turnTx; rw [List.length_map, List.length_take]; omega
    by_cases hi : i < l.length
    · obtain ⟨c, hc⟩ : ∃ c, l[i]? = some c := ⟨_, List.getElem?_eq_getElem hi⟩
      have htk : l.take (i + 1) = l.take i ++ [c] := by rw [List.take_add_one, hc]; rfl
      refine nextS S D hy hc fun h' o' D S => ?_
      dsimp only
      refine assign_Name ?_
      repeat walk_at "m"
      refine ordS rfl ?_
      repeat walk_at "m"
      refine call_ fun R' hr' _ => code_ok (A := A.deeper env) (s := ⟨_, _, _, _, _⟩) G S.gg (by show A.depth + 1 < _; omega) x cs bs c _ (T.keep fun b o q => S.kk b o (by rw [hk0]; exact q)) (fun h2 tk2 v hs2 hv1 hv2 => hr' _ _ ?_)
      replace S := S.grow hs2.stays
      dsimp only
      cases htv : tval cs bs c with
      | none =>
        obtain ⟨tv, rfl⟩ := hv1 htv
        repeat walk_at "m"
        replace S := S.swap
        refine gmApp S ?_
        repeat walk_at "m"
        refine appL S (by rw [sizeLine_eq]; omega) fun h' S => ?_
        repeat walk_at "m"
        refine xCont ?_
        refine hcont2 _ (l.length - (i + 1)) (by omega) ⟨_, _, _, _, _, _, i + 1, rfl, S.swap, by walk_at "mLook", by walk_at "mLook", ⟨tc, ?_⟩, D, ?_, hi, rfl⟩
        · rw [htk, turnN_none _ htv]; walk_at "mLook"
        · rw [htk, turn_snoc, htv]; exact ho.snoc _ _
      | some u =>
        obtain ⟨tv, rfl⟩ := hv2 u htv
        have hu := tval_lt htv hcs hbs
        repeat walk_at "m"
        refine obj_get (G.K.keeps S.gg) hcd hhd (by k_is) (by k_is) (S.kk _ _ a1) (S.kk _ _ a2) a3 a6 rfl ?_
        repeat walk_at "m"
        replace S := S.swap
        refine gmApp S ?_
        repeat walk_at "m"
        refine chrI (n := u) rfl (by omega) ?_
        repeat walk_at "m"
        refine appL S (by rw [sizeLine_eq]; omega) fun h' S => ?_
        repeat walk_at "m"
        refine hnext2 _ (l.length - (i + 1)) (by omega) ⟨_, _, _, _, _, _, i + 1, rfl, S.swap, by walk_at "mLook", by walk_at "mLook", ⟨_, int_at (i := ((turnN cs bs (l.take i) : Nat) : Int) + 1) (by walk_at "mLook") ?_⟩, D, ?_, hi, rfl⟩
        · rw [htk, turnN_some _ htv]; omega
        · rw [htk, turn_snoc, htv]; exact ho.snoc _ _
    · refine endS S D hh hy (by omega) fun h' S => ?_
      dsimp only
      have hil : i = l.length := by omega
      rw [hil, List.take_of_length_le (Nat.le_refl _)] at ho m3
      repeat walk_at "m"
      refine joinOnes empty_is (S.at (.head _)) ho (by unfold turnTx; rw [List.length_map]; omega) fun t' tk' => ?_
      repeat walk_at "m"
      refine newTuple_ S (fun a h' S => ?_) (Nat.le_of_ble_eq_true rfl)
      have hf := (S.mu _ (.head _)).2.2.1
      rw [hk0] at hf
      exact hQ _ _ (hR _ _ a _ _ (fun b o e => S.kk b o (hk ▸ e)) hf (S.at (.head _)))
end

-- T13
section
open PySem PySem.W PyProof.Rows PySem.Calls
set_option maxHeartbeats 4000000 in
theorem text_go {w : World} {A : Around} {s : Shared} {R : Result → Shared → Prop} {mg mb : Str → Option Value} {g : Heap} {fl : List Env} (G : Gl w mg mb g) (hg : ∀ b o, g.get? b = some o → s.heap.get? b = some o) (hroom : A.depth + 11 < recursionLimit) (hun : A.units + 310 < cLine) (hh : A.handled = none) (K : Stk A fl s.heap) (hoff : ∀ a ∈ fa fl, g.get? a = none)
    (z x y : Str) (l l1 l2 : List Nat) (res1 res2 : Option (List Nat)) (t0 t1 t2 t3 t4 : Tok) (hz : z = tx l) (hl0 : l.length < 100000) (hx : x = tx l1) (hy : y = tx l2) (hs1 : Src l1 res1) (hs2_ : Src l2 res2) (f : Str) (hf : f = tx [])
    (hR : ∀ h' tk a t u cs bs, res1 = some cs → res2 = some bs → Sub (kOf s.heap []) h' → s.heap.get? a = none → h'.get? a = some (tup [.str (tx (turnTx cs bs l)) t, .int ((turnN cs bs l : Nat) : Int) u]) → R (.ok (.ret (.ref a))) { s with heap := h', toks := tk })
    (hRe : (res1 = none ∨ res2 = none) → ∀ e h' tk, Thrown 51 (bs s.heap fl) fl e .none h' → s.heap.UpToSlots h' → R (.error (.ref e)) { s with heap := h', toks := tk }) :
    codeAny (model PR w) A (.call (.ref 206) ⟨[.str z t0, .str x t1, .str y t2, .str f t3, .int 4000 t4], []⟩) R s := by
  have hroom' : A.depth < recursionLimit := by omega
  refine' enter_ (binds := [(Str.ofString "text", .str z t0), (Str.ofString "source", .str x t1), (Str.ofString "target", .str y t2), (Str.ofString "flags", .str f t3), (Str.ofString "most", .int 4000 t4)]) [] G hg (fun _ hp => nomatch hp) .nil ?ho ?hcd hroom' ?hbind ?hloc ?h ?c1 ?c2 ?c3 ?c4
  walk_at "mSides"
  have hfr : env.frame = some L := by rw [he]; rfl
  have hk0 := hk
  rw [List.map_nil, kOf_nil] at hk0
  repeat walk_at "m"
  refine call_ fun R' hr' he' => make_go (A := A.deeper env) (s := ⟨_, _, _, _, _⟩) (fl := env :: fl) G S.gg (by show A.depth + 1 + 10 < _; omega) (by show A.units + 3 + 300 < _; omega) hh (K.push hk S hfr (by rw [he]; intro z; cases z)) (off_push hoff S hfr) x y l1 l2 res1 res2 _ _ _ _ hx hy hs1 hs2_ _ hf
    (fun h2 tk2 a cs bs hr1 hr2 hs2 T => hr' _ _ ?_) (fun hres e h2 tk2 T2 U2 => he' _ _ (hE _ _ (raise_end K hk hL hfr S T2 (.inl rfl) U2 fun h' T U => hRe hres _ _ _ T U)))
  replace S := S.grow hs2.stays
  dsimp only
  have hl1 := (hr1 ▸ hs1 : Src l1 (some cs)).len
  have hl2 := (hr2 ▸ hs2_ : Src l2 (some bs)).len
  repeat walk_at "m"
  refine call_ fun R' hr' _ => run_ok (A := A.deeper env) (s := ⟨_, _, _, _, _⟩) G S.gg (by show A.depth + 1 + 1 < _; omega) hh a cs bs z l _ T hl1.2 hl2.2 hz hl0 (fun h3 tk3 b t u hs3 hnew hb => hr' _ _ ?_)
  have hn := (S.fresh hnew).2.1
  rw [hk0] at hn
  replace S := S.grow hs3.stays
  exact hQ _ _ (hR _ _ b t u cs bs hr1 hr2 (fun b o q => S.kk b o (hk ▸ q)) hn hb)
end

-- L7
section
open PySem PySem.W PyProof.Rows PySem.Calls PySem.Builtin PySem.Spec PySem.SeqAt
noncomputable def StrAt (m : Str → Option Value) (y : Str) (l : List Nat) : Prop := ∃ t, m y = some (.str (tx l) t)
theorem StrAt.of {m : Str → Option Value} {y x : Str} {l : List Nat} {t : Tok} (e : m y = some (.str x t)) (h : x = tx l) : StrAt m y l := ⟨t, h ▸ e⟩
theorem idxOf_cast (cs : List Nat) (c : Nat) : (cs.map fun n : Nat => (n : Int)).idxOf (c : Int) = cs.idxOf c := by
  induction cs with
  | nil => rfl
  | cons x r ih =>
    rw [List.map_cons, List.idxOf_cons, List.idxOf_cons, ih]
    by_cases h : x = c
    · subst h; simp
    · have h1 : ((x : Int) == (c : Int)) = false := by simp; omega
      have h2 : (x == c) = false := by simp [h]
      rw [h1, h2]
section
variable {w : World} {A : Around} {E : Value → Shared → Prop} {env : Env} {g h : Heap} {k r : PF} {L : Addr} {μ : List (Addr × Obj)} {m mg mb : Str → Option Value} {gn : Array GenState} {d : Drawn} {tk : Nat} {os : OsState}
theorem gmIndex {a : Addr} {vs : List Value} {n : Nat} {pl : Sem Bool} {Q : Value × List Value → Shared → Prop} (e : h.get? a = some (lst vs n)) (hq : Q (.builtin "list.index", [.ref a]) ⟨h, gn, d, tk, os⟩) :
    wpAny (model PR w) A (getMethod (.ref a) (Str.ofString "index") pl) Q E ⟨h, gn, d, tk, os⟩ :=
  getMethod_builtin (T := "list") ⟨_, e, rfl⟩ PySem.F.plainAttrs_list PySem.F.slot_list_index PySem.F.type_list_index (fun b q => by cases q; exact ⟨_, e, rfl⟩) hq
theorem idxL {a : Addr} {vs : List Value} {cs : List Nat} {n c : Nat} {t : Tok} {Q : Value → Shared → Prop} (e : h.get? a = some (lst vs n)) (hn : NatsAre vs cs) (hc : c ∈ cs) (hl : cs.length < 1000000)
    (hq : Q (.int ((cs.idxOf c : Nat) : Int) tk) ⟨h, gn, d, tk + 1, os⟩) : wpAny (model PR w) A (call (.builtin "list.index") [.ref a, .int (c : Int) t]) Q E ⟨h, gn, d, tk, os⟩ := by
  have hlen := IntsAre.length hn
  have hk : (c : Int) ∈ cs.map fun n : Nat => (n : Int) := List.mem_map.mpr ⟨c, hc, rfl⟩
  have hj := List.idxOf_lt_length_iff.mpr hk
  have hml : (cs.map fun n : Nat => (n : Int)).length = cs.length := by simp
  refine call_meets PySem.F.slot_list_index ⟨_, e, rfl⟩ PySem.F.entry_list_index (PySem.F.args_list_index_2 _ _)
    (MeetsSeq.list_index a vs.toArray n (.int (c : Int) t) (isInt (c : Int)) (fun y hy => eq_isInt (c : Int) t hn y (by simpa using hy)) ((cs.map fun n : Nat => (n : Int)).idxOf (c : Int)) (by simp only [List.size_toArray]; omega) (by omega) ?_ ?_) ⟨e, ?_⟩
  · show isInt (c : Int) vs[(cs.map fun n : Nat => (n : Int)).idxOf (c : Int)] = true
    rw [isInt_at (c : Int) hn _ (by omega) hj]
    simpa using List.getElem_idxOf hj
  · intro j hjs hlt
    show isInt (c : Int) vs[j] = false
    rw [isInt_at (c : Int) hn j (by simpa using hjs) (by omega)]
    exact ne_of_lt_idxOf hlt _
  · rw [idxOf_cast]; exact hq
end
end

-- T14
section
open PySem PySem.W PyProof.Rows PySem.Calls
set_option maxHeartbeats 4000000 in
theorem turned_ok {w : World} {A : Around} {s : Shared} {R : Result → Shared → Prop} {mg mb : Str → Option Value} {g : Heap} (G : Gl w mg mb g) (hg : ∀ b o, g.get? b = some o → s.heap.get? b = some o) (hroom : A.depth + 1 < recursionLimit) (hun : A.units + 100 < cLine) (hh : A.handled = none)
    (sa ba : Addr) (vs us : List Value) (n1 n2 : Nat) (cs bs : List Nat) (y : Str) (l : List Nat) (t1 : Tok) (hsa : s.heap.get? sa = some (lst vs n1)) (hba : s.heap.get? ba = some (lst us n2)) (hcs : NatsAre vs cs) (hbs : NatsAre us bs) (hcl : cs.length < 4000) (hbl : bs.length < 4000) (hb5 : ∀ c ∈ bs, c < 512) (hy : y = tx l) (hl0 : l.length < 100000)
    (hR : ∀ h' tk a t u, Sub (kOf s.heap []) h' → s.heap.get? a = none → h'.get? a = some (tup [.str (tx (turnTx cs bs l)) t, .int ((turnN cs bs l : Nat) : Int) u]) → R (.ok (.ret (.ref a))) { s with heap := h', toks := tk }) :
    codeAny (model PR w) A (.call (.ref 255) ⟨[.str y t1, .ref sa, .ref ba], []⟩) R s := by
  have hroom' : A.depth < recursionLimit := by omega
  refine' enter_ (binds := [(Str.ofString "text", .str y t1), (Str.ofString "sources", .ref sa), (Str.ofString "goals", .ref ba)]) [] G hg (fun _ hp => nomatch hp) .nil ?ho ?hcd hroom' ?hbind ?hloc ?h ?c1 ?c2 ?c3 ?c4
  walk_at "mSides"
  have hk0 := hk
  rw [List.map_nil, kOf_nil] at hk0
  have hvl := hcs.len
  have hul := hbs.len
  repeat walk_at "m"
  refine newTuple_ S (fun ta h' S => ?_) (Nat.le_of_ble_eq_true rfl)
  refine assignTup S hh (S.at (.head _)) rfl rfl (fun h' S => ?_)
  replace S := S.drop
  repeat walk_at "m"
  refine xFor ?_ ?hfold
  case hfold => intro _; with_unfolding_all rfl
  repeat walk_at "m"
  refine iterS S fun it oi h' D S => ?_
  refine for_ (fun q s' => ∃ h tk m o i, s' = ⟨h, s.gens, s.drawn, tk, s.os⟩ ∧ St g k r L [(it, o)] h m ∧ m (Str.ofString "sources") = some (.ref sa) ∧ m (Str.ofString "goals") = some (.ref ba) ∧ StrAt m (Str.ofString "found") (turnTx cs bs (l.take i)) ∧ IntAt m (Str.ofString "count") (turnN cs bs (l.take i) : Nat) ∧
    SIt o y t1 i ∧ i ≤ l.length ∧ q = l.length - i) ?turn2 l.length ?start2 ?lt2
  case lt2 => intro _; with_unfolding_all rfl
  case start2 =>
    refine ⟨_, _, _, _, 0, rfl, S, by walk_at "mLook", by walk_at "mLook", StrAt.of (by walk_at "mLook") empty_is, ⟨_, by walk_at "mLook"⟩, D, Nat.zero_le _, rfl⟩
  case turn2 =>
    clear S D
    rintro q2 s2 Qb2 Eb2 ⟨h, tk, m, o, i, rfl, S, m1, m2, ⟨tf, m3⟩, ⟨tc, m4⟩, D, hiN, hq2⟩ hnext2 hcont2 hbrk2 hret2 hEb2
    have hfl : (turnTx cs bs (l.take i)).length = i := by unfold turnTx; rw [List.length_map, List.length_take]; omega
    by_cases hi : i < l.length
    · obtain ⟨c, hc⟩ : ∃ c, l[i]? = some c := ⟨_, List.getElem?_eq_getElem hi⟩
      have htk : l.take (i + 1) = l.take i ++ [c] := by rw [List.take_add_one, hc]; rfl
      refine nextS S D hy hc fun h' o' D S => ?_
      dsimp only
      refine assign_Name ?_
      repeat walk_at "m"
      refine ordS rfl ?_
      repeat walk_at "m"
      refine notInN (S.kk sa _ (by rw [hk0]; exact hsa)) hcs ?_
      repeat walk_at "m"
      by_cases hm : c ∈ cs
      · refine ite_f (decide_eq_false (by simpa using hm)) ?_
        repeat walk_at "m"
        obtain ⟨ni, hni⟩ : ∃ u, tval cs bs c = some u := ⟨_, tval_some hm⟩
        refine gmIndex (S.kk sa _ (by rw [hk0]; exact hsa)) ?_
        repeat walk_at "m"
        refine ordS rfl ?_
        repeat walk_at "m"
        refine idxL (S.kk sa _ (by rw [hk0]; exact hsa)) hcs hm (by omega) ?_
        repeat walk_at "m"
        refine newList_ S (fun na h' S => ?_) (Nat.le_of_ble_eq_true rfl)
        refine eqNil (S.kk ba _ (by rw [hk0]; exact hba)) hbs (S.at (.head _)) (by show A.units + 3 + 64 < cLine; omega) ?_
        replace S := S.drop
        repeat walk_at "m"
        have hm2 := tval_some (bs := bs) hm
        by_cases hb0 : bs = []
        · refine ite_t (decide_eq_true hb0) ?_
          rw [if_pos hb0] at hm2
          repeat walk_at "m"
          refine addS rfl rfl (by simp; omega) fun t' tk' => ?_
          repeat walk_at "m"
          refine hnext2 _ (l.length - (i + 1)) (by omega) ⟨_, _, _, _, i + 1, rfl, S, by walk_at "mLook", by walk_at "mLook", ?_, ⟨_, int_at (i := ((turnN cs bs (l.take i) : Nat) : Int) + 1) (by walk_at "mLook") ?_⟩, D, hi, rfl⟩
          · rw [htk, turn_snoc, hm2]; exact StrAt.of (by walk_at "mLook") rfl
          · rw [htk, turnN_some _ hm2]; omega
        · refine ite_f (decide_eq_false hb0) ?_
          rw [if_neg hb0] at hm2
          have hbp : 0 < bs.length := List.length_pos_iff.mpr hb0
          obtain ⟨v, hv⟩ : ∃ v, bs[min (cs.idxOf c) (bs.length - 1)]? = some v := ⟨_, List.getElem?_eq_getElem (by omega)⟩
          have hgd : bs.getD (min (cs.idxOf c) (bs.length - 1)) 0 = v := by rw [List.getD_eq_getElem?_getD, hv]; rfl
          rw [hgd] at hm2
          have hv5 := hb5 v (List.mem_of_getElem? hv)
          obtain ⟨tv, hvv⟩ := hbs.get hv
          repeat walk_at "m"
          refine lenL (S.kk ba _ (by rw [hk0]; exact hba)) (by omega) ?_
          repeat walk_at "m"
          refine minI S hh fun h' tk' v0 S => ?_
          repeat walk_at "m"
          refine itemL (S.kk ba _ (by rw [hk0]; exact hba)) (i := min (cs.idxOf c) (bs.length - 1)) (by omega) hvv (by omega) ?_ ?hs
          walk_at "mH"
          repeat walk_at "m"
          refine chrI (n := v) rfl (by omega) ?_
          repeat walk_at "m"
          refine addS rfl rfl (by simp; omega) fun t' tk' => ?_
          repeat walk_at "m"
          refine hnext2 _ (l.length - (i + 1)) (by omega) ⟨_, _, _, _, i + 1, rfl, S, by walk_at "mLook", by walk_at "mLook", ?_, ⟨_, int_at (i := ((turnN cs bs (l.take i) : Nat) : Int) + 1) (by walk_at "mLook") ?_⟩, D, hi, rfl⟩
          · rw [htk, turn_snoc, hm2]; exact StrAt.of (by walk_at "mLook") rfl
          · rw [htk, turnN_some _ hm2]; omega
      · refine ite_t (decide_eq_true hm) ?_
        repeat walk_at "m"
        refine addS rfl rfl (by simp; omega) fun t' tk' => ?_
        repeat walk_at "m"
        refine xCont ?_
        have htv := tval_none (bs := bs) hm
        refine hcont2 _ (l.length - (i + 1)) (by omega) ⟨_, _, _, _, i + 1, rfl, S, by walk_at "mLook", by walk_at "mLook", ?_, ⟨tc, ?_⟩, D, hi, rfl⟩
        · rw [htk, turn_snoc, htv]; exact StrAt.of (by walk_at "mLook") rfl
        · rw [htk, turnN_none _ htv]; walk_at "mLook"
    · refine endS S D hh hy (by omega) fun h' S => ?_
      dsimp only
      have hil : i = l.length := by omega
      rw [hil, List.take_of_length_le (Nat.le_refl _)] at m3 m4
      repeat walk_at "m"
      refine newTuple_ S (fun a h' S => ?_) (Nat.le_of_ble_eq_true rfl)
      have hf := (S.mu _ (.head _)).2.2.1
      rw [hk0] at hf
      exact hQ _ _ (hR _ _ a _ _ (fun b o e => S.kk b o (hk ▸ e)) hf (S.at (.head _)))
end

-- L8
section
open PySem PySem.W PyProof.Rows PySem.Calls PySem.Builtin PySem.Spec PySem.SeqAt PyProof.V
/-- a list of distinct letters, in some order -/
noncomputable def lettersD : List (PyData × PyData) := [(.str (Str.ofString "n"), .int 10), (.str (Str.ofString "t"), .int 9), (.str (Str.ofString "r"), .int 13), (.str (Str.ofString "f"), .int 12), (.str (Str.ofString "b"), .int 8), (.str (Str.ofString "a"), .int 7), (.str (Str.ofString "e"), .int 27)]
theorem letters_kvs {kvs : List (Str × Value)} (p : FlatPairs PyData.str kvs lettersD) : ∃ t1 t2 t3 t4 t5 t6 t7, kvs = [(tx [110], .int 10 t1), (tx [116], .int 9 t2), (tx [114], .int 13 t3), (tx [102], .int 12 t4), (tx [98], .int 8 t5), (tx [97], .int 7 t6), (tx [101], .int 27 t7)] := by
  have e1 : Str.ofString "n" = tx [110] := by decide +kernel
  have e2 : Str.ofString "t" = tx [116] := by decide +kernel
  have e3 : Str.ofString "r" = tx [114] := by decide +kernel
  have e4 : Str.ofString "f" = tx [102] := by decide +kernel
  have e5 : Str.ofString "b" = tx [98] := by decide +kernel
  have e6 : Str.ofString "a" = tx [97] := by decide +kernel
  have e7 : Str.ofString "e" = tx [101] := by decide +kernel
  rw [← e1, ← e2, ← e3, ← e4, ← e5, ← e6, ← e7]
  unfold lettersD at p
  cases p with
  | cons f1 p => cases p with
    | cons f2 p => cases p with
      | cons f3 p => cases p with
        | cons f4 p => cases p with
          | cons f5 p => cases p with
            | cons f6 p => cases p with
              | cons f7 p =>
                cases p
                obtain ⟨t1, rfl⟩ := Flat.int_inv f1
                obtain ⟨t2, rfl⟩ := Flat.int_inv f2
                obtain ⟨t3, rfl⟩ := Flat.int_inv f3
                obtain ⟨t4, rfl⟩ := Flat.int_inv f4
                obtain ⟨t5, rfl⟩ := Flat.int_inv f5
                obtain ⟨t6, rfl⟩ := Flat.int_inv f6
                obtain ⟨t7, rfl⟩ := Flat.int_inv f7
                exact ⟨t1, t2, t3, t4, t5, t6, t7, rfl⟩
noncomputable def Letters (kvs : List (Str × Value)) : Prop := ∃ t1 t2 t3 t4 t5 t6 t7, kvs = [(tx [110], .int 10 t1), (tx [116], .int 9 t2), (tx [114], .int 13 t3), (tx [102], .int 12 t4), (tx [98], .int 8 t5), (tx [97], .int 7 t6), (tx [101], .int 27 t7)]
theorem Letters.at {kvs : List (Str × Value)} (h : Letters kvs) {e c : Nat} (hm : (e, c) ∈ shorts) : ∃ t, valueAt kvs (tx [e]) = some (.int (c : Int) t) := by
  obtain ⟨t1, t2, t3, t4, t5, t6, t7, rfl⟩ := h
  simp only [shorts, List.mem_cons, Prod.mk.injEq, List.not_mem_nil, or_false] at hm
  rcases hm with ⟨rfl, rfl⟩ | ⟨rfl, rfl⟩ | ⟨rfl, rfl⟩ | ⟨rfl, rfl⟩ | ⟨rfl, rfl⟩ | ⟨rfl, rfl⟩ | ⟨rfl, rfl⟩ 
  · exact ⟨t1, by simp [valueAt, one_eq]⟩
  · exact ⟨t2, by simp [valueAt, one_eq]⟩
  · exact ⟨t3, by simp [valueAt, one_eq]⟩
  · exact ⟨t4, by simp [valueAt, one_eq]⟩
  · exact ⟨t5, by simp [valueAt, one_eq]⟩
  · exact ⟨t6, by simp [valueAt, one_eq]⟩
  · exact ⟨t7, by simp [valueAt, one_eq]⟩
theorem Letters.keys {kvs : List (Str × Value)} (h : Letters kvs) : kvs.map (·.1) = shorts.map fun p => tx [p.1] := by
  obtain ⟨t1, t2, t3, t4, t5, t6, t7, rfl⟩ := h
  rfl
section
variable {w : World} {A : Around} {E : Value → Shared → Prop} {env : Env} {g h : Heap} {k r : PF} {L : Addr} {μ : List (Addr × Obj)} {m mg mb : Str → Option Value} {gn : Array GenState} {d : Drawn} {tk : Nat} {os : OsState}
theorem setDS {a : Addr} {o : Obj} {x : Str} {t : Tok} {v : Value} {kvs : List (Str × Value)} {Q : Unit → Shared → Prop} (S : St g k r L ((a, o) :: μ) h m) (D : o.IsDictOf (PySem.strKind PR w) kvs) (hsz : kvs.length ≤ sizeLine)
    (hq : ∀ h' o', o'.IsDictOf (PySem.strKind PR w) (stored kvs x v) → St g k r L ((a, o') :: μ) h' m → Q () ⟨h', gn, d, tk + 1, os⟩) :
    wpAny (model PR w) A (setItem (.ref a) (.str x t) v) Q E ⟨h, gn, d, tk, os⟩ := by
  refine wpAny_setItem_pairs (hsz := hsz) (knd := PySem.strKind PR w) (k := x) (strKind_is _ _ _ _) (Heap.dictOf_iff.mpr ⟨o, S.at (.head _), D⟩) fun h' D' hs => ?_
  obtain ⟨o', e, D'⟩ := Heap.dictOf_iff.mp D'
  exact hq h' o' D' (S.change hs e)
theorem getDS {value slice : Expr} {x : Str} {a : Addr} {o : Obj} {t : Tok} {v : Value} {kvs : List (Str × Value)} {Q : Value → Shared → Prop} (e : h.get? a = some o) (D : o.IsDictOf (PySem.strKind PR w) kvs) (hv : valueAt kvs x = some v) (hq : Q v ⟨h, gn, d, tk + 1, os⟩)
    (hs : subscripted slice false (.ref a) (.str x t) = operate [.ref a, .str x t] (getItem (.ref a) (.str x t))) :
    wpAny (model PR w) A (subscriptTail value slice (.ref a) (.str x t)) Q E ⟨h, gn, d, tk, os⟩ := by
  have hd : (⟨h, gn, d, tk, os⟩ : Shared).heap.DictOf (PySem.strKind PR w) a kvs := Heap.dictOf_iff.mpr ⟨o, e, D⟩
  exact tail_any (T := "dict") hd.typeIs slot_dict_getitem.lookup (wpAny_getItem_of (knd := PySem.strKind PR w) (strKind_is _ _ _ _) hd.mapOf hv hq) hs
/-- an object that turned while others came -/
theorem St.extTurn {a : Addr} {o o' : Obj} {h' : Heap} (S : St g k r L ((a, o) :: μ) h m) (hx : Heap.ExtBut a h h') (e : h'.get? a = some o') : St g k r L ((a, o') :: μ) h' m := by
  have x := S.mu _ (.head _)
  refine (S.ext hx).add e ⟨x.2.1, x.2.2.1, x.2.2.2, ?_⟩
  have := S.nd
  rw [List.map_cons, List.nodup_cons] at this
  exact this.1
end
end

-- L9
section
open PySem PySem.W PyProof.Rows PySem.Calls PySem.Builtin PySem.Spec PySem.SeqAt PyProof.V
theorem strsAre_of {P : Nat → Value → Prop} {kvs : List (Str × Value)} {prog : Program} {w : World} : ∀ {vs : List Value} (ks : List Str), vs.length = ks.length → (∀ (j : Nat) (v : Value), vs[j]? = some v → ∃ x, ks[j]? = some x ∧ (PySem.strKind prog w).is x v = true) → StrsAre vs ks
  | [], [], _, _ => .nil
  | v :: vs, x :: ks, hl, h => by
    obtain ⟨y, hy, hk⟩ := h 0 v (by simp)
    simp only [List.getElem?_cons_zero, Option.some.injEq] at hy
    subst hy
    obtain ⟨t, rfl⟩ : ∃ t, v = .str x t := by
      have hk' : PySem.Value.isStrOf x v = true := hk
      cases v with
      | str z t => exact ⟨t, by simp [PySem.Value.isStrOf] at hk'; rw [hk']⟩
      | _ => cases hk'
    exact .cons x t (strsAre_of (P := P) (kvs := kvs) ks (by simpa using hl) fun j u hu => h (j + 1) u (by simpa using hu))
section
variable {w : World} {A : Around} {E : Value → Shared → Prop} {env : Env} {g h : Heap} {k r : PF} {L : Addr} {μ : List (Addr × Obj)} {m mg mb : Str → Option Value} {gn : Array GenState} {d : Drawn} {tk : Nat} {os : OsState}
theorem sortedDS {a : Addr} {o : Obj} {kvs : List (Str × Value)} {Q : Value → Shared → Prop} (hh : A.handled = none) (S : St g k r L μ h m) (ha : h.get? a = some o) (D : o.IsDictOf (PySem.strKind PR w) kvs) (hs : (a == sysModules) = false) (hn : kvs.length < 64)
    (hq : ∀ b h' tk' vs n ks, StrsAre vs ks → ks.Perm (kvs.map (·.1)) → St g k r L ((b, lst vs n) :: μ) h' m → Q (.ref b) ⟨h', gn, d, tk', os⟩) :
    wpAny (model PR w) A (call (.builtin "sorted") [.ref a]) Q E ⟨h, gn, d, tk, os⟩ := by
  have hd : (⟨h, gn, d, tk, os⟩ : Shared).heap.DictOf (PySem.strKind PR w) a kvs := Heap.dictOf_iff.mpr ⟨o, ha, D⟩
  obtain ⟨ep, hat⟩ := hd.dictAt
  refine Calls.call_function_entry kind_sorted plain_sorted entry_sorted (args_sorted1 _) ?_
  unfold Builtin.«sorted»
  refine wpAny_bind (m := checkCount "sorted" 1 1 _) (wpAny_pure ?_)
  refine wpAny_bind (kdu_collect (A := A.in1) (kdl_dict (knd := PySem.strKind PR w) (kvs := kvs) (ep := ep) hs) hh hat (by rw [sizeLine_eq]; omega) fun h' tk' acc hk hacc => ?_)
  have hl : acc.toList.length = kvs.length := by rw [Array.length_toList]; exact hacc.1
  refine wpAny_bind (wpAny_newList ?_ (by rw [hl, sizeLine_eq]; omega))
  have S2 := (S.grow hk).push (lst acc.toList 0)
  have hS : StrsAre acc.toList (kvs.map (·.1)) := strsAre_of (P := fun _ _ => True) (kvs := kvs) (kvs.map (·.1)) (by rw [hl, List.length_map]) fun j v hv => by
    obtain ⟨x, y, h1, h2⟩ := hacc.2 j v (by rw [← Array.getElem?_toList]; exact hv)
    exact ⟨x, by rw [List.getElem?_map, h1]; rfl, h2⟩
  have hat2 := S2.at (.head _)
  refine wpAny_bind (wpAny_holding (wpAny_call_entry slot_list_sort ⟨_, hat2, rfl⟩ entry_list_sort (list_sort_treeK strKind_oneLt hat2 hS.keysOf (fun v₁ v₂ rest e => keyKind_strs (by rw [← e]; exact hS)) (by rw [hl]; exact hn) fun st' hp hs => ⟨_, rfl, ?_⟩) (args_list_sort _)))
  obtain ⟨ss', h1, h2, h3⟩ := sorted_out_str hS hp hs
  obtain ⟨e, he⟩ := sortedHeap_at (out := (arrOf st').map (·.2)) hat2
  refine wpAny_pure ⟨_, rfl, hq _ _ _ ((arrOf st').map (·.2)).toList e ss' h1 h2 (S2.extTurn (fun b o hb q => ?_) ?_)⟩
  · exact (sortedHeap_old hb (Heap.lt_size q)).trans q
  · exact he
theorem modL {n p : Nat} {i j : Int} {t u : Tok} {Q : Value → Shared → Prop} (hi : i = (n : Int)) (hj : j = (p : Int)) (hb : 0 < p) (hq : Q (.int ((n % p : Nat) : Int) tk) ⟨h, gn, d, tk + 1, os⟩) : wpAny (model PR w) A (binaryOp .Mod (.int i t) (.int j u)) Q E ⟨h, gn, d, tk, os⟩ := by
  subst hi hj
  exact modN hb hq
theorem strsAre_get : ∀ {vs : List Value} {ks : List Str}, StrsAre vs ks → ∀ {i : Nat}, i < ks.length → ∃ x t, vs[i]? = some (.str x t) ∧ x ∈ ks
  | _, _, .cons x t r, 0, _ => ⟨x, t, rfl, .head _⟩
  | _, _, .cons x t r, i + 1, h => by
    obtain ⟨y, u, a, b⟩ := strsAre_get r (i := i) (by simpa using h)
    exact ⟨y, u, by simpa using a, .tail _ b⟩
end
end

-- T15
section
open PySem PySem.W PyProof.Rows PySem.Calls PyProof.V
set_option maxHeartbeats 4000000 in
theorem short_ok {w : World} {A : Around} {s : Shared} {R : Result → Shared → Prop} {mg mb : Str → Option Value} {g : Heap} (G : Gl w mg mb g) (hg : ∀ b o, g.get? b = some o → s.heap.get? b = some o) (hroom : A.depth < recursionLimit)
    (hR : ∀ h' tk a o kvs, Sub (kOf s.heap []) h' → s.heap.get? a = none → (a == sysModules) = false → h'.get? a = some o → o.IsDictOf (PySem.strKind PR w) kvs → Letters kvs → R (.ok (.ret (.ref a))) { s with heap := h', toks := tk }) :
    codeAny (model PR w) A (.call (.ref 213) ⟨[], []⟩) R s := by
  refine' enter_ (binds := []) [] G hg (fun _ hp => nomatch hp) .nil ?ho ?hcd hroom ?hbind ?hloc ?h ?c1 ?c2 ?c3 ?c4
  walk_at "mSides"
  have hk0 := hk
  rw [List.map_nil, kOf_nil] at hk0
  repeat walk_at "m"
  refine Dict_lits_str (D := lettersD) (by rfl) (by rfl) (by decide +kernel) rfl rfl (by intro z; cases z) (by decide) fun a o h₁ tk hle ho hT hkeep => ?_
  obtain ⟨kvs, hD, hF⟩ := hT
  have hsn : s.heap.get? a = none := by
    cases q : s.heap.get? a with
    | none => rfl
    | some o2 => exact absurd (Heap.lt_size (S.kk a o2 (by rw [hk0]; exact q))) (Nat.not_lt.mpr hle)
  have hhn : (∀ o2, Heap.get? _ a = some o2 → False) := fun o2 q => absurd (Heap.lt_size q) (Nat.not_lt.mpr hle)
  exact hQ _ _ (hR _ _ a o kvs (fun b o2 q => hkeep _ _ (S.kk b o2 (hk ▸ q))) hsn (not_sys G S (by cases q : Heap.get? _ a with | none => rfl | some o2 => exact (hhn o2 q).elim) hle) ho hD (letters_kvs hF))
end

-- T16
section
open PySem PySem.W PyProof.Rows PySem.Calls PyProof.V
/-- the pen: a dict with the script's list and a count -/
noncomputable def PenO (w : World) (o : Obj) (la : Addr) (p : Nat) : Prop := ∃ kvs t, o.IsDictOf (PySem.strKind PR w) kvs ∧ kvs = [(Str.ofString "of", .ref la), (Str.ofString "at", .int (p : Int) t)]
theorem pen_of (la : Addr) (v : Value) : valueAt [(Str.ofString "of", Value.ref la), (Str.ofString "at", v)] (Str.ofString "of") = some (.ref la) := rfl
theorem pen_at (la : Addr) (v : Value) : valueAt [(Str.ofString "of", Value.ref la), (Str.ofString "at", v)] (Str.ofString "at") = some v := rfl
theorem pen_put (la : Addr) (v u : Value) : stored [(Str.ofString "of", Value.ref la), (Str.ofString "at", v)] (Str.ofString "at") u = [(Str.ofString "of", Value.ref la), (Str.ofString "at", u)] := rfl
set_option maxHeartbeats 4000000 in
theorem roll_ok {w : World} {A : Around} {s : Shared} {R : Result → Shared → Prop} {mg mb : Str → Option Value} {g : Heap} (G : Gl w mg mb g) (hg : ∀ b o, g.get? b = some o → s.heap.get? b = some o) (hroom : A.depth < recursionLimit)
    (pa la : Addr) (po : Obj) (vs : List Value) (ns : List Int) (n p many : Nat) (t1 : Tok) (hpa : s.heap.get? pa = some po) (hgp : g.get? pa = none) (hP : PenO w po la p) (hla : s.heap.get? la = some (lst vs n)) (hns : IntsAre vs ns) (hvl : vs.length < 1000) (hp : p < 1000) (hm : 0 < many) (hne : la ≠ pa)
    (hR : ∀ h' tk po' t (r : Nat), Sub (kOf s.heap [pa]) h' → h'.get? pa = some po' → PenO w po' la (p + 1) → r < many → R (.ok (.ret (.int (r : Int) t))) { s with heap := h', toks := tk }) :
    codeAny (model PR w) A (.call (.ref 220) ⟨[.ref pa, .int (many : Int) t1], []⟩) R s := by
  refine' enter_ (binds := [(Str.ofString "pen", .ref pa), (Str.ofString "many", .int (many : Int) t1)]) [(pa, po)] G hg ?hm ?hnd ?ho ?hcd hroom ?hbind ?hloc ?h ?c1 ?c2 ?c3 ?c4
  case hm => intro p hp; rcases List.mem_singleton.mp hp with rfl; exact ⟨hpa, hgp⟩
  case hnd => exact .cons (fun _ h => nomatch h) .nil
  walk_at "mSides"
  have hka : k la = some (lst vs n) := by rw [hk]; simp [kOf, hne, hla]
  obtain ⟨kvs, t0, D, rfl⟩ := hP
  have fin : ∀ (a : Int) h tk t t2 o, St g k r L [(pa, o)] h t → o.IsDictOf (PySem.strKind PR w) [(Str.ofString "of", .ref la), (Str.ofString "at", .int ((p + 1 : Nat) : Int) t2)] → ∀ tt, Q (.ret (.int (a % (many : Int)) tt)) ⟨h, s.gens, s.drawn, tk, s.os⟩ := by
    intro a h tk t t2 o S D tt
    have h0 := Int.emod_nonneg a (show (many : Int) ≠ 0 by omega)
    have h1 := Int.emod_lt_of_pos a (show (0 : Int) < many by omega)
    obtain ⟨r, hr⟩ := Int.eq_ofNat_of_zero_le h0
    rw [hr]
    exact hQ _ _ (hR _ _ o _ r (fun b o q => S.kk b o (hk ▸ q)) (S.at (.head _)) ⟨_, _, D, rfl⟩ (by omega))
  repeat walk_at "m"
  refine getDS (S.at (.head _)) D (pen_at _ _) ?_ ?hs
  walk_at "mH"
  repeat walk_at "m"
  refine setDS S D (by rw [sizeLine_eq]; exact Nat.le_of_ble_eq_true rfl) fun h' o' D S => ?_
  rw [pen_put] at D
  repeat walk_at "m"
  refine getDS (S.at (.head _)) D (pen_at _ _) ?_ ?hs
  walk_at "mH"
  repeat walk_at "m"
  refine getDS (S.at (.head _)) D (pen_of _ _) ?_ ?hs
  walk_at "mH"
  repeat walk_at "m"
  refine lenL (S.kk _ _ hka) (by omega) ?_
  repeat walk_at "m"
  by_cases hc : p + 1 ≤ vs.length
  · refine ite_t (decide_eq_true (by omega)) ?_
    repeat walk_at "m"
    refine getDS (S.at (.head _)) D (pen_of _ _) ?_ ?hs
    walk_at "mH"
    repeat walk_at "m"
    refine getDS (S.at (.head _)) D (pen_at _ _) ?_ ?hs
    walk_at "mH"
    repeat walk_at "m"
    have hnl := IntsAre.length hns
    obtain ⟨tz, hz⟩ := IntsAre.get hns p (ns[p]'(by omega)) (List.getElem?_eq_getElem _)
    refine itemL (S.kk _ _ hka) (i := p) (by omega) hz (by omega) ?_ ?hs
    walk_at "mH"
    repeat walk_at "m"
    refine modI (by omega) ?_
    exact fin _ _ _ _ _ _ S D _
  · refine ite_f (decide_eq_false (by omega)) ?_
    repeat walk_at "m"
    refine getDS (S.at (.head _)) D (pen_at _ _) ?_ ?hs
    walk_at "mH"
    refine mulI (IntMulOk.of_left (by decide)) ?_
    repeat walk_at "m"
    refine getDS (S.at (.head _)) D (pen_at _ _) ?_ ?hs
    walk_at "mH"
    repeat walk_at "m"
    refine divI (by decide) (by decide) ?_
    repeat walk_at "m"
    refine modI (by omega) ?_
    exact fin _ _ _ _ _ _ S D _
end

-- T17
section
open PySem PySem.W PyProof.Rows PySem.Calls PyProof.V
theorem lit_bx : Str.ofString "\\x" = tx [92, 120] := by decide +kernel
theorem lit_bxb : Str.ofString "\\x{" = tx [92, 120, 123] := by decide +kernel
theorem lit_bob : Str.ofString "\\o{" = tx [92, 111, 123] := by decide +kernel
theorem lit_bN : Str.ofString "\\N{U+" = tx [92, 78, 123, 85, 43] := by decide +kernel
theorem lit_bc : Str.ofString "\\c" = tx [92, 99] := by decide +kernel
theorem lit_rb : Str.ofString "}" = tx [125] := by decide +kernel
theorem St.off {g h : Heap} {k r : PF} {L : Addr} {μ : List (Addr × Obj)} {m : Str → Option Value} (S : St g k r L μ h m) {p : Addr × Obj} (hp : p ∈ μ) : g.get? p.1 = none := by
  have x := (S.mu p hp).2.2.1
  cases q : g.get? p.1 with
  | none => rfl
  | some o => rw [S.gk _ _ q] at x; cases x
set_option maxHeartbeats 8000000 in
theorem sign_ok {w : World} {A : Around} {s : Shared} {R : Result → Shared → Prop} {mg mb : Str → Option Value} {g : Heap} (G : Gl w mg mb g) (hg : ∀ b o, g.get? b = some o → s.heap.get? b = some o) (hroom : A.depth + 1 < recursionLimit) (hh : A.handled = none)
    (pa la : Addr) (po : Obj) (vs : List Value) (ns : List Int) (n p : Nat) (hpa : s.heap.get? pa = some po) (hgp : g.get? pa = none) (hP : PenO w po la p) (hla : s.heap.get? la = some (lst vs n)) (hns : IntsAre vs ns) (hvl : vs.length < 1000) (hp : p + 2 < 1000) (hne : la ≠ pa)
    (hR : ∀ h' tk po' a t u (i : It), OkIt i → Sub (kOf s.heap [pa]) h' → h'.get? pa = some po' → PenO w po' la (p + 2) → s.heap.get? a = none → h'.get? a = some (tup [.str (tx i.1) t, .int (i.2.1 : Int) u, .bool i.2.2]) → R (.ok (.ret (.ref a))) { s with heap := h', toks := tk }) :
    codeAny (model PR w) A (.call (.ref 234) ⟨[.ref pa], []⟩) R s := by
  have hroom' : A.depth < recursionLimit := by omega
  refine' enter_ (binds := [(Str.ofString "pen", .ref pa)]) [(pa, po)] G hg ?hm ?hnd ?ho ?hcd hroom' ?hbind ?hloc ?h ?c1 ?c2 ?c3 ?c4
  case hm => intro p hp; rcases List.mem_singleton.mp hp with rfl; exact ⟨hpa, hgp⟩
  case hnd => exact .cons (fun _ h => nomatch h) .nil
  walk_at "mSides"
  have hka : k la = some (lst vs n) := by rw [hk]; simp [kOf, hne, hla]
  repeat walk_at "m"
  refine call_ fun R' hr' _ => roll_ok (A := A.deeper env) (s := ⟨_, _, _, _, _⟩) G S.gg (by show A.depth + 1 < _; omega) pa la po vs ns n p 8 _ (S.at (.head _)) (S.off (.head _)) hP (S.kk _ _ hka) hns hvl (by omega) (by decide) hne (fun h2 tk2 po2 tr1 way hs2 hp2 hP2 hway => hr' _ _ ?_)
  replace S := S.back1 hs2 hp2
  dsimp only
  repeat walk_at "m"
  refine call_ fun R' hr' _ => roll_ok (A := A.deeper env) (s := ⟨_, _, _, _, _⟩) G S.gg (by show A.depth + 1 < _; omega) pa la po2 vs ns n (p + 1) 500 _ (S.at (.head _)) (S.off (.head _)) hP2 (S.kk _ _ hka) hns hvl (by omega) (by decide) hne (fun h3 tk3 po3 tr2 code hs3 hp3 hP3 hcode => hr' _ _ ?_)
  replace S := S.back1 hs3 hp3
  dsimp only
  repeat walk_at "m"
  refine newTuple_ S (fun ta h' S => ?_) (Nat.le_of_ble_eq_true rfl)
  refine unpackTup S hh (S.at (.head _)) (by with_unfolding_all rfl) (fun h' S => ?_)
  replace S := S.drop
  (with_unfolding_all show wpAny _ _ (assignInOrder [fun v => bindName env (Str.ofString "code") v, fun v => bindName env (Str.ofString "way") v] [.int (code : Int) tr2, .int (way : Int) tr1]) _ _ _)
  have fin : ∀ (i : It) h tk t m a t1 u1, OkIt i → St g k r L [(a, tup [.str (tx i.1) t1, .int (i.2.1 : Int) u1, .bool i.2.2]), (pa, po3)] h m → t = m → Q (.ret (.ref a)) ⟨h, s.gens, s.drawn, tk, s.os⟩ := by
    intro i h tk t m a t1 u1 ok S _
    have x := (S.mu _ (.head _)).2.2.1
    have y := S.nd
    simp only [List.map_cons, List.nodup_cons, List.mem_cons, not_or] at y
    rw [hk] at x
    have z : a ∉ [pa] := fun q => y.1.1 (List.mem_singleton.mp q)
    refine hQ _ _ (hR _ _ po3 a t1 u1 i ok (fun b o q => S.kk b o (hk ▸ q)) (S.at (.tail _ (.head _))) hP3 ?_ (S.at (.head _)))
    simpa [kOf, z] using x
  repeat walk_at "m"
  by_cases h0 : way = 0
  · refine ite_t (decide_eq_true (by omega)) ?_
    repeat walk_at "m"
    refine modL (p := 9) rfl rfl (by decide) ?_
    repeat walk_at "m"
    refine chrI (n := 97 + code % 9) (by omega) (by omega) ?_
    repeat walk_at "m"
    refine modL (p := 9) rfl rfl (by decide) ?_
    repeat walk_at "m"
    rw [show (97 : Int) + ((code % 9 : Nat) : Int) = ((97 + code % 9 : Nat) : Int) from by omega]
    refine newTuple_ S (fun a h' S => ?_) (Nat.le_of_ble_eq_true rfl)
    exact fin ([97 + code % 9], 97 + code % 9, false) _ _ _ _ a _ _ ⟨.plain _ (by omega) (by omega), fun z => by dsimp only at z; omega⟩ S rfl
  refine ite_f (decide_eq_false (by omega)) ?_
  repeat walk_at "m"
  by_cases h1 : way = 1
  · refine ite_t (decide_eq_true (by omega)) ?_
    repeat walk_at "m"
    refine modL (p := 256) rfl rfl (by decide) ?_
    repeat walk_at "m"
    refine call_ fun R' hr' _ => spelt_ok (A := A.deeper env) (s := ⟨_, _, _, _, _⟩) G S.gg (by show A.depth + 1 < _; omega) (code % 256) 16 2 _ _ _ (by omega) (by decide) (by decide) (by decide) (fun h4 tk4 ds t4 hs4 sp => hr' _ _ ?_)
    replace S := S.grow hs4.stays
    dsimp only
    have hdm := sp.most
    repeat walk_at "m"
    refine addS lit_bx rfl (by simp; omega) fun t5 tk5 => ?_
    repeat walk_at "m"
    refine modL (p := 256) rfl rfl (by decide) ?_
    repeat walk_at "m"
    refine newTuple_ S (fun a h' S => ?_) (Nat.le_of_ble_eq_true rfl)
    have hE := Esc.hex2 ds sp.digs (sp.exact (by have : 16 ^ 2 = 256 := rfl; omega))
    rw [sp.val] at hE
    exact fin (_, code % 256, true) _ _ _ _ a _ _ ⟨.esc hE, fun z => by cases z.2⟩ S rfl
  refine ite_f (decide_eq_false (by omega)) ?_
  repeat walk_at "m"
  by_cases h2 : way = 2
  · refine ite_t (decide_eq_true (by omega)) ?_
    repeat walk_at "m"
    refine call_ fun R' hr' _ => spelt_ok (A := A.deeper env) (s := ⟨_, _, _, _, _⟩) G S.gg (by show A.depth + 1 < _; omega) (code) 16 1 _ _ _ (by omega) (by decide) (by decide) (by decide) (fun h4 tk4 ds t4 hs4 sp => hr' _ _ ?_)
    replace S := S.grow hs4.stays
    dsimp only
    have hdm := sp.most
    repeat walk_at "m"
    refine addS lit_bxb rfl (by simp; omega) fun t5 tk5 => ?_
    repeat walk_at "m"
    refine addS rfl lit_rb (by simp; omega) fun t6 tk6 => ?_
    repeat walk_at "m"
    refine newTuple_ S (fun a h' S => ?_) (Nat.le_of_ble_eq_true rfl)
    have hE := Esc.hexb ds sp.digs (by rw [sp.val]; omega) (by omega)
    rw [sp.val] at hE
    exact fin (_, code, true) _ _ _ _ a _ _ ⟨.esc hE, fun z => by cases z.2⟩ S rfl
  refine ite_f (decide_eq_false (by omega)) ?_
  repeat walk_at "m"
  by_cases h3 : way = 3
  · refine ite_t (decide_eq_true (by omega)) ?_
    repeat walk_at "m"
    refine call_ fun R' hr' _ => spelt_ok (A := A.deeper env) (s := ⟨_, _, _, _, _⟩) G S.gg (by show A.depth + 1 < _; omega) (code) 8 1 _ _ _ (by omega) (by decide) (by decide) (by decide) (fun h4 tk4 ds t4 hs4 sp => hr' _ _ ?_)
    replace S := S.grow hs4.stays
    dsimp only
    have hdm := sp.most
    repeat walk_at "m"
    refine addS lit_bob rfl (by simp; omega) fun t5 tk5 => ?_
    repeat walk_at "m"
    refine addS rfl lit_rb (by simp; omega) fun t6 tk6 => ?_
    repeat walk_at "m"
    refine newTuple_ S (fun a h' S => ?_) (Nat.le_of_ble_eq_true rfl)
    have hE := Esc.octb ds sp.digs (by rw [sp.val]; omega) (by omega)
    rw [sp.val] at hE
    exact fin (_, code, true) _ _ _ _ a _ _ ⟨.esc hE, fun z => by cases z.2⟩ S rfl
  refine ite_f (decide_eq_false (by omega)) ?_
  repeat walk_at "m"
  by_cases h4 : way = 4
  · refine ite_t (decide_eq_true (by omega)) ?_
    repeat walk_at "m"
    refine call_ fun R' hr' _ => spelt_ok (A := A.deeper env) (s := ⟨_, _, _, _, _⟩) G S.gg (by show A.depth + 1 < _; omega) (code) 16 2 _ _ _ (by omega) (by decide) (by decide) (by decide) (fun h4 tk4 ds t4 hs4 sp => hr' _ _ ?_)
    replace S := S.grow hs4.stays
    dsimp only
    have hdm := sp.most
    repeat walk_at "m"
    refine addS lit_bN rfl (by simp; omega) fun t5 tk5 => ?_
    repeat walk_at "m"
    refine addS rfl lit_rb (by simp; omega) fun t6 tk6 => ?_
    repeat walk_at "m"
    refine newTuple_ S (fun a h' S => ?_) (Nat.le_of_ble_eq_true rfl)
    have hE := Esc.nam ds sp.digs (by rw [sp.val]; omega) (by omega)
    rw [sp.val] at hE
    exact fin (_, code, true) _ _ _ _ a _ _ ⟨.esc hE, fun z => by cases z.2⟩ S rfl
  refine ite_f (decide_eq_false (by omega)) ?_
  repeat walk_at "m"
  by_cases h5 : way = 5
  · refine ite_t (decide_eq_true (by omega)) ?_
    repeat walk_at "m"
    refine modL (p := 256) rfl rfl (by decide) ?_
    repeat walk_at "m"
    refine call_ fun R' hr' _ => spelt_ok (A := A.deeper env) (s := ⟨_, _, _, _, _⟩) G S.gg (by show A.depth + 1 < _; omega) (code % 256) 8 3 _ _ _ (by omega) (by decide) (by decide) (by decide) (fun h4 tk4 ds t4 hs4 sp => hr' _ _ ?_)
    replace S := S.grow hs4.stays
    dsimp only
    have hdm := sp.most
    repeat walk_at "m"
    refine addS lit_bar rfl (by simp; omega) fun t5 tk5 => ?_
    repeat walk_at "m"
    refine modL (p := 256) rfl rfl (by decide) ?_
    repeat walk_at "m"
    refine newTuple_ S (fun a h' S => ?_) (Nat.le_of_ble_eq_true rfl)
    have hE := Esc.oct3 ds sp.digs (sp.exact (by have : 8 ^ 3 = 512 := rfl; omega))
    rw [sp.val] at hE
    exact fin (_, code % 256, true) _ _ _ _ a _ _ ⟨.esc hE, fun z => by cases z.2⟩ S rfl
  refine ite_f (decide_eq_false (by omega)) ?_
  repeat walk_at "m"
  by_cases h6 : way = 6
  · refine ite_t (decide_eq_true (by omega)) ?_
    repeat walk_at "m"
    refine modL (p := 26) rfl rfl (by decide) ?_
    repeat walk_at "m"
    refine chrI (n := 97 + code % 26) (by omega) (by omega) ?_
    repeat walk_at "m"
    refine addS lit_bc rfl (by simp) fun t5 tk5 => ?_
    repeat walk_at "m"
    refine modL (p := 26) rfl rfl (by decide) ?_
    repeat walk_at "m"
    rw [show (1 : Int) + ((code % 26 : Nat) : Int) = ((1 + code % 26 : Nat) : Int) from by omega]
    refine newTuple_ S (fun a h' S => ?_) (Nat.le_of_ble_eq_true rfl)
    exact fin ([92, 99] ++ [97 + code % 26], 1 + code % 26, true) _ _ _ _ a _ _ ⟨.esc (Esc.ctl (code % 26) (by omega)), fun z => by cases z.2⟩ S rfl
  refine ite_f (decide_eq_false (by omega)) ?_
  repeat walk_at "m"
  refine call_ fun R' hr' _ => short_ok (A := A.deeper env) (s := ⟨_, _, _, _, _⟩) G S.gg (by show A.depth + 1 < _; omega) (fun h4 tk4 da o kvs hs4 hnew hsys hda D hL' => hr' _ _ ?_)
  have hfr2 := S.fresh hnew
  replace S := (S.grow hs4.stays).add hda hfr2
  dsimp only
  have hkl : kvs.length = 7 := by have := congrArg List.length hL'.keys; simpa [shorts] using this
  repeat walk_at "m"
  refine sortedDS hh S (S.at (.head _)) D hsys (by omega) fun b h' tk' vs2 n2 ks hks hperm S => ?_
  repeat walk_at "m"
  refine modL (p := 7) rfl rfl (by decide) ?_
  have hkl2 : ks.length = 7 := by rw [hperm.length_eq, List.length_map, hkl]
  obtain ⟨lx, ltk, hlx, hmem⟩ := strsAre_get hks (i := code % 7) (by omega)
  have hvl2 := strsAre_len hks
  refine itemL (S.at (.head _)) (i := code % 7) rfl hlx (by omega) ?_ ?hs
  walk_at "mH"
  replace S := S.drop.drop
  have hmem2 := hperm.mem_iff.mp hmem
  rw [hL'.keys] at hmem2
  obtain ⟨⟨e0, c0⟩, hsh, rfl⟩ := List.mem_map.mp hmem2
  repeat walk_at "m"
  refine addS lit_bar rfl (by simp) fun t5 tk5 => ?_
  repeat walk_at "m"
  refine call_ fun R' hr' _ => short_ok (A := A.deeper env) (s := ⟨_, _, _, _, _⟩) G S.gg (by show A.depth + 1 < _; omega) (fun h4 tk4 da2 o2 kvs2 hs4 hnew hsys hda2 D2 hL2 => hr' _ _ ?_)
  have hfr3 := S.fresh hnew
  replace S := (S.grow hs4.stays).add hda2 hfr3
  dsimp only
  repeat walk_at "m"
  obtain ⟨tv, hv⟩ := hL2.at hsh
  refine getDS (S.at (.head _)) D2 hv ?_ ?hs
  walk_at "mH"
  replace S := S.drop
  repeat walk_at "m"
  refine newTuple_ S (fun a h' S => ?_) (Nat.le_of_ble_eq_true rfl)
  exact fin ([92] ++ [e0], c0, true) _ _ _ _ a _ _ ⟨.esc (Esc.short e0 c0 hsh), fun z => by cases z.2⟩ S rfl
end

-- L10
section
open PySem PySem.W PyProof.Rows PySem.Calls PySem.Builtin PySem.Spec PySem.SeqAt PyProof.V
section
variable {w : World} {A : Around} {E : Value → Shared → Prop} {env : Env} {g h : Heap} {k r : PF} {L : Addr} {μ : List (Addr × Obj)} {m mg mb : Str → Option Value} {gn : Array GenState} {d : Drawn} {tk : Nat} {os : OsState}
theorem addLL {a b : Addr} {vs us : List Value} {n n' : Nat} {Q : Value → Shared → Prop} (S : St g k r L μ h m) (ha : h.get? a = some (lst vs n)) (hb : h.get? b = some (lst us n')) (hz : vs.length + us.length ≤ 100000)
    (hq : ∀ D h', St g k r L ((D, lst (vs ++ us) 0) :: μ) h' m → Q (.ref D) ⟨h', gn, d, tk, os⟩) :
    wpAny (model PR w) A (binaryOp .Add (.ref a) (.ref b)) Q E ⟨h, gn, d, tk, os⟩ := by
  have e : (vs.toArray ++ us.toArray) = (vs ++ us).toArray := by simp
  refine PySem.P.add_list (n := n) (n2 := n') ha hb ?_ (by simp only [List.size_toArray]; rw [sizeLine_eq]; omega)
  rw [e]
  exact hq _ _ (S.push (lst (vs ++ us) 0))
theorem isnotRef {a : Addr} {s : Shared} {Q : Value → Shared → Prop} (hq : Q (.bool true) s) : wpAny (model PR w) A (compareOp .IsNot (.ref a) .none) Q E s := isnot_none_ne (by intro x; cases x) hq
theorem isnotNone {s : Shared} {Q : Value → Shared → Prop} (hq : Q (.bool false) s) : wpAny (model PR w) A (compareOp .IsNot .none .none) Q E s := wpAny_isNot_self rfl hq
theorem isRef {a : Addr} {s : Shared} {Q : Value → Shared → Prop} (hq : Q (.bool false) s) : wpAny (model PR w) A (compareOp .Is (.ref a) .none) Q E s := is_none_ne (by intro x; cases x) hq
theorem isNone {s : Shared} {Q : Value → Shared → Prop} (hq : Q (.bool true) s) : wpAny (model PR w) A (compareOp .Is .none .none) Q E s := wpAny_is_self rfl hq
theorem nats_of_items : ∀ {vs : List Value} {c N : Nat}, vs.length = N → (∀ (j : Nat) (v : Value), vs[j]? = some v → ∃ t, v = .int ((c : Int) + (j : Nat) * 1) t) → NatsAre vs (List.range' c N)
  | [], c, 0, _, _ => NatsAre.nil
  | v :: vs, c, N + 1, hl, h => by
    obtain ⟨t, e⟩ := h 0 v (by simp)
    subst e
    have ih := nats_of_items (vs := vs) (c := c + 1) (N := N) (by simpa using hl) fun j u hu => by
      obtain ⟨t, e⟩ := h (j + 1) u (by simpa using hu)
      exact ⟨t, by rw [e]; congr 1; push_cast; omega⟩
    show IntsAre _ _
    rw [List.range'_succ, List.map_cons]
    have e2 : ((c : Int) + ((0 : Nat) : Int) * 1) = (c : Int) := by simp
    rw [e2]
    exact IntsAre.cons _ _ ih
theorem listR {x : Addr} {c b N : Nat} {t u v : Tok} {i j : Int} {Q : Value → Shared → Prop} (S : St g k r L ((x, rngO i j t u v) :: μ) h m) (hh : A.handled = none) (hi : i = (c : Int)) (hj : j = (b : Int)) (hb : b ≤ 100000) (hc : c ≤ 100000) (hN : N = b - c)
    (hq : ∀ D h' tk' vs n, NatsAre vs (List.range' c N) → St g k r L ((D, lst vs n) :: μ) h' m → Q (.ref D) ⟨h', gn, d, tk', os⟩) :
    wpAny (model PR w) A (call (.type "list") [.ref x]) Q E ⟨h, gn, d, tk, os⟩ := by
  subst hi hj
  refine call_list_range (n := N) hh (S.at (.head _)) (small_one (by omega) (by omega) (by omega) (by omega)) (by rw [rangeSize_one]; split <;> omega) (by omega) fun h' tk' acc c' hk hD hacc => ?_
  refine hq _ _ _ acc.toList c' (nats_of_items (by rw [Array.length_toList]; exact hacc.1) fun j v hv => ?_) ((S.drop.grow hk).add hD (S.drop.fresh (Heap.get?_none_of_le (Nat.le_refl _))))
  obtain ⟨t, e⟩ := hacc.2 j v (by rw [← Array.getElem?_toList]; exact hv)
  exact ⟨t, e⟩
end
end

-- T18
section
open PySem PySem.W PyProof.Rows PySem.Calls PyProof.V
theorem lit_dash : Str.ofString "-" = tx [45] := by decide +kernel
noncomputable def CodesV (r : PF) (cv : Value) : Option (List Nat) → Prop
  | none => cv = .none
  | some cs => ∃ ca us n, cv = .ref ca ∧ r ca = some (lst us n) ∧ NatsAre us cs
theorem CodesV.keep {r r' : PF} (k : ∀ b o, r b = some o → r' b = some o) {cv : Value} : ∀ {o}, CodesV r cv o → CodesV r' cv o
  | none, h => h
  | some _, ⟨ca, us, n, e, q, h⟩ => ⟨ca, us, n, e, k _ _ q, h⟩
noncomputable def txt (bs : List Blk) : List Nat := (itsOf bs).flatMap (·.1)
theorem itsOf_snoc (dn : List Blk) (b : Blk) : itsOf (dn ++ [b]) = itsOf dn ++ bits b := by unfold itsOf; rw [List.flatMap_append]; simp
theorem txt_one (dn : List Blk) (i : It) : txt (dn ++ [(i, none)]) = txt dn ++ i.1 := by unfold txt; rw [itsOf_snoc, List.flatMap_append]; simp [bits]
theorem txt_two (dn : List Blk) (i j : It) : txt (dn ++ [(i, some j)]) = txt dn ++ i.1 ++ [45] ++ j.1 := by unfold txt; rw [itsOf_snoc, List.flatMap_append]; simp [bits, dash]
theorem codes_one {dn : List Blk} (i : It) : codesOf (dn ++ [(i, none)]) = (codesOf dn).map (· ++ [i.2.1]) := by
  rw [codesOf_app]; cases codesOf dn <;> simp [codesOf, blkCodes]
theorem codes_two {dn : List Blk} (i j : It) : codesOf (dn ++ [(i, some j)]) = if i.2.1 ≤ j.2.1 then (codesOf dn).map (· ++ List.range' i.2.1 (j.2.1 + 1 - i.2.1)) else none := by
  rw [codesOf_app]
  by_cases h : i.2.1 ≤ j.2.1
  · rw [if_pos h]; cases codesOf dn <;> simp [codesOf, blkCodes, h]
  · rw [if_neg h]; cases codesOf dn <;> simp [codesOf, blkCodes, h]
set_option maxHeartbeats 8000000 in
theorem list_ok {w : World} {A : Around} {s : Shared} {R : Result → Shared → Prop} {mg mb : Str → Option Value} {g : Heap} (G : Gl w mg mb g) (hg : ∀ b o, g.get? b = some o → s.heap.get? b = some o) (hroom : A.depth + 2 < recursionLimit) (hh : A.handled = none)
    (pa la : Addr) (po : Obj) (vs0 : List Value) (ns : List Int) (n0 p : Nat) (hpa : s.heap.get? pa = some po) (hgp : g.get? pa = none) (hP : PenO w po la p) (hla : s.heap.get? la = some (lst vs0 n0)) (hns : IntsAre vs0 ns) (hvl : vs0.length < 1000) (hp : p + 31 < 900) (hne : la ≠ pa)
    (hR : ∀ h' tk po' p' a sa (r' : PF) bs vs n cv tt, (∀ b ∈ bs, OkBlk b) → bs.length ≤ 6 → Sub (kOf s.heap [pa]) h' → h'.get? pa = some po' → PenO w po' la p' → p' ≤ p + 31 → Sub r' h' → (∀ b o, r' b = some o → s.heap.get? b = none) →
      r' a = some (tup [.str (tx (txt bs)) tt, .ref sa, cv]) → r' sa = some (lst vs n) → Pairs2 r' vs ((itsOf bs).map (·.2)) → CodesV r' cv (codesOf bs) → R (.ok (.ret (.ref a))) { s with heap := h', toks := tk }) :
    codeAny (model PR w) A (.call (.ref 241) ⟨[.ref pa], []⟩) R s := by
  have hroom' : A.depth < recursionLimit := by omega
  refine' enter_ (binds := [(Str.ofString "pen", .ref pa)]) [(pa, po)] G hg ?hm ?hnd ?ho ?hcd hroom' ?hbind ?hloc ?h ?c1 ?c2 ?c3 ?c4
  case hm => intro p hp; rcases List.mem_singleton.mp hp with rfl; exact ⟨hpa, hgp⟩
  case hnd => exact .cons (fun _ h => nomatch h) .nil
  walk_at "mSides"
  have hka : k la = some (lst vs0 n0) := by rw [hk]; simp [kOf, hne, hla]
  repeat walk_at "m"
  refine newList_ S (fun sl h' S => ?_) (Nat.le_of_ble_eq_true rfl)
  repeat walk_at "m"
  refine newList_ S (fun cl h' S => ?_) (Nat.le_of_ble_eq_true rfl)
  repeat walk_at "m"
  refine newTuple_ S (fun ta h' S => ?_) (Nat.le_of_ble_eq_true rfl)
  refine unpackTup S hh (S.at (.head _)) (by with_unfolding_all rfl) (fun h' S => ?_)
  replace S := S.drop
  obtain ⟨r1, hr1, hcl, S⟩ := S.freeze
  (with_unfolding_all show wpAny _ _ (assignInOrder [fun v => bindName env (Str.ofString "codes") v, fun v => bindName env (Str.ofString "signs") v, fun v => bindName env (Str.ofString "text") v] [.ref cl, .ref sl, .str (Str.ofString "") tk₁]) _ _ _)
  repeat walk_at "m"
  refine xFor ?_ ?hfold
  case hfold => intro _; with_unfolding_all rfl
  repeat walk_at "m"
  replace S := S.swap
  refine call_ fun R' hr' _ => roll_ok (A := A.deeper env) (s := ⟨_, _, _, _, _⟩) G S.gg (by show A.depth + 1 < _; omega) pa la po vs0 ns n0 p 7 _ (S.at (.head _)) (S.off (.head _)) hP (S.kk _ _ hka) hns hvl (by omega) (by decide) hne (fun h2 tk2 po2 tr1 N hs2 hp2 hP2 hN => hr' _ _ ?_)
  replace S := S.back1 hs2 hp2
  dsimp only
  repeat walk_at "m"
  refine rng1 S fun rx h' t v S => ?_
  refine iterR S (n := N) (by split <;> omega) (by omega) (by omega) (by omega) (by omega) fun it h' S => ?_
  replace S := S.rot.swap
  refine for_ (fun q s' => ∃ h tk m r po p' sl vs n dn i cv, s' = ⟨h, s.gens, s.drawn, tk, s.os⟩ ∧ St g k r L [(it, ritO ((i : Nat) : Int) ((N - i : Nat) : Int)), (sl, lst vs n), (pa, po)] h m ∧ m (Str.ofString "pen") = some (.ref pa) ∧ StrAt m (Str.ofString "text") (txt dn) ∧ m (Str.ofString "signs") = some (.ref sl) ∧ m (Str.ofString "codes") = some cv ∧
    PenO w po la p' ∧ p' ≤ p + 1 + 5 * i ∧ (∀ b ∈ dn, OkBlk b) ∧ dn.length = i ∧ Pairs2 r vs ((itsOf dn).map (·.2)) ∧ CodesV r cv (codesOf dn) ∧ i ≤ N ∧ q = N - i) ?turn2 N ?start2 ?lt2
  case lt2 => intro _; with_unfolding_all rfl
  case start2 =>
    refine ⟨_, _, _, _, _, p + 1, sl, [], _, [], 0, .ref cl, rfl, S, by walk_at "mLook", StrAt.of (by walk_at "mLook") empty_is, by walk_at "mLook", by walk_at "mLook", hP2, Nat.le_refl _, (fun b hb => nomatch hb), rfl, trivial, ⟨cl, [], _, rfl, hcl, NatsAre.nil⟩, Nat.zero_le _, rfl⟩
  case turn2 =>
    clear S hP2 hcl
    rintro q2 s2 Qb2 Eb2 ⟨h, tk, m, r, po, p', sl, vs, n, dn, i, cv, rfl, S, m1, ⟨tt, m2⟩, m3, m4, hP, hpp, hok, hdl, hpr, hcv, hiN, hq2⟩ hnext2 hcont2 hbrk2 hret2 hEb2
    by_cases hi : i < N
    · have htl : (txt dn).length ≤ 24 * (itsOf dn).length := its_text_len hok
      have hil := itsOf_len dn
      have hvl2 := hpr.len
      rw [List.length_map] at hvl2
      refine nextR S (by omega) fun h' S => ?_
      dsimp only
      have e1 : ((i : Nat) : Int) + 1 = ((i + 1 : Nat) : Int) := by omega
      have e2 : ((N - i : Nat) : Int) - 1 = ((N - (i + 1) : Nat) : Int) := by omega
      rw [e1, e2] at S
      refine assign_Name ?_
      repeat walk_at "m"
      replace S := S.rot
      refine call_ fun R' hr' _ => sign_ok (A := A.deeper env) (s := ⟨_, _, _, _, _⟩) G S.gg (by show A.depth + 1 + 1 < _; omega) hh pa la po vs0 ns n0 p' (S.at (.head _)) (S.off (.head _)) hP (S.kk _ _ hka) hns hvl (by omega) hne (fun h2 tk2 po2 a t u i1 hok1 hs2 hp2 hP2 hnew hget => hr' _ _ ?_)
      replace S := S.back1 hs2 hp2
      dsimp only
      refine assignTup S hh hget rfl rfl (fun h3 S => ?_)
      have hl1 := hok1.1.len
      repeat walk_at "m"
      refine addS rfl rfl (by omega) fun t5 tk5 => ?_
      repeat walk_at "m"
      replace S := S.rot
      refine gmApp S ?_
      repeat walk_at "m"
      refine newTuple_ S (fun ua h' S => ?_) (Nat.le_of_ble_eq_true rfl)
      obtain ⟨r2, hr2, hua, S⟩ := S.freeze
      repeat walk_at "m"
      refine appL S (by rw [sizeLine_eq]; omega) fun h' S => ?_
      replace hpr := (hpr.keep hr2).snoc ⟨ua, _, rfl, hua⟩
      replace hcv := hcv.keep hr2
      repeat walk_at "m"
      replace S := S.swap
      refine call_ fun R' hr' _ => roll_ok (A := A.deeper env) (s := ⟨_, _, _, _, _⟩) G S.gg (by show A.depth + 1 < _; omega) pa la po2 vs0 ns n0 (p' + 2) 5 _ (S.at (.head _)) (S.off (.head _)) hP2 (S.kk _ _ hka) hns hvl (by omega) (by decide) hne (fun h4 tk4 po4 tr4 rr hs4 hp4 hP4 hrr => hr' _ _ ?_)
      replace S := S.back1 hs4 hp4
      dsimp only
      repeat walk_at "m"
      by_cases h4 : rr = 4
      · refine ite_t (decide_eq_true (by omega)) ?_
        repeat walk_at "m"
        refine call_ fun R' hr' _ => sign_ok (A := A.deeper env) (s := ⟨_, _, _, _, _⟩) G S.gg (by show A.depth + 1 + 1 < _; omega) hh pa la po4 vs0 ns n0 (p' + 3) (S.at (.head _)) (S.off (.head _)) hP4 (S.kk _ _ hka) hns hvl (by omega) hne (fun h2 tk2 po5 a t u i2 hok2 hs2 hp2 hP5 hnew hget => hr' _ _ ?_)
        replace S := S.back1 hs2 hp2
        dsimp only
        refine assignTup S hh hget rfl rfl (fun h3 S => ?_)
        have hl2 := hok2.1.len
        repeat walk_at "m"
        refine addS rfl lit_dash (by simp; omega) fun t6 tk6 => ?_
        repeat walk_at "m"
        refine addS rfl rfl (by simp; omega) fun t7 tk7 => ?_
        repeat walk_at "m"
        refine newTuple_ S (fun ub h' S => ?_) (Nat.le_of_ble_eq_true rfl)
        obtain ⟨r3, hr3, hub, S⟩ := S.freeze
        repeat walk_at "m"
        refine newTuple_ S (fun uc h' S => ?_) (Nat.le_of_ble_eq_true rfl)
        obtain ⟨r4, hr4, huc, S⟩ := S.freeze
        repeat walk_at "m"
        refine newList_ S (fun nl h' S => ?_) (Nat.le_of_ble_eq_true rfl)
        repeat walk_at "m"
        refine addLL S (S.at (.tail _ (.tail _ (.head _)))) (S.at (.head _)) (by simp; omega) fun D h' S => ?_
        replace S := S.swap.drop
        replace S := S.rot.drop
        repeat walk_at "m"
        have hpr2 : Pairs2 r4 ((vs ++ [.ref ua]) ++ [.ref ub, .ref uc]) ((itsOf (dn ++ [(i1, some i2)])).map (·.2)) := by
          have q := (((hpr.keep hr3).keep hr4).snoc (i := (45, false)) ⟨ub, _, rfl, hr4 _ _ hub⟩).snoc (i := i2.2) ⟨uc, _, rfl, huc⟩
          rw [itsOf_snoc, List.map_append]
          simpa [bits, dash] using q
        replace hcv := (hcv.keep hr3).keep hr4
        have hokn : ∀ b ∈ dn ++ [(i1, some i2)], OkBlk b := fun b hb => by
          rcases List.mem_append.mp hb with hb | hb
          · exact hok b hb
          · rw [List.mem_singleton.mp hb]; exact ⟨hok1, fun j e => by cases e; exact hok2⟩
        cases hcd : codesOf dn with
        | none =>
          rw [hcd] at hcv
          obtain rfl : cv = .none := hcv
          refine isnotNone ?_
          repeat walk_at "m"
          refine hnext2 _ (N - (i + 1)) (by omega) ⟨_, _, _, _, po5, p' + 3 + 2, D, _, _, dn ++ [(i1, some i2)], i + 1, .none, rfl, S.rot, by walk_at "mLook", ?_, by walk_at "mLook", by walk_at "mLook", hP5, by omega, hokn, by simp; omega, hpr2, ?_, hi, rfl⟩
          · rw [txt_two]; exact StrAt.of (by walk_at "mLook") rfl
          · rw [codes_two, hcd]; split <;> rfl
        | some cs =>
          rw [hcd] at hcv
          obtain ⟨ca, us, nc, rfl, hca, hna⟩ := hcv
          have hcl := (codes_len hok hcd).1
          have hul := hna.len
          refine isnotRef ?_
          repeat walk_at "m"
          by_cases hle : i1.2.1 ≤ i2.2.1
          · refine ite_t (decide_eq_true (by omega)) ?_
            repeat walk_at "m"
            have hlt2 := hok2.1.lt
            refine rng2 S fun rx h' v S => ?_
            repeat walk_at "m"
            refine listR S hh (c := i1.2.1) (b := i2.2.1 + 1) rfl (by omega) (by omega) (by omega) rfl fun D2 h' tk' vs2 n2 hna2 S => ?_
            have hvl3 := hna2.len
            rw [List.length_range'] at hvl3
            repeat walk_at "m"
            refine addLL S (S.rr _ _ hca) (S.at (.head _)) (by omega) fun D3 h' S => ?_
            obtain ⟨r5, hr5, hD3, S⟩ := S.freeze
            replace S := S.drop
            repeat walk_at "m"
            refine hnext2 _ (N - (i + 1)) (by omega) ⟨_, _, _, _, po5, p' + 3 + 2, D, _, _, dn ++ [(i1, some i2)], i + 1, .ref D3, rfl, S.rot, by walk_at "mLook", ?_, by walk_at "mLook", by walk_at "mLook", hP5, by omega, hokn, by simp; omega, hpr2.keep hr5, ?_, hi, rfl⟩
            · rw [txt_two]; exact StrAt.of (by walk_at "mLook") rfl
            · rw [codes_two, hcd, if_pos hle]
              refine ⟨D3, _, _, rfl, hD3, ?_⟩
              unfold NatsAre
              rw [List.map_append]
              exact IntsAre.append hna hna2
          · refine ite_f (decide_eq_false (by omega)) ?_
            repeat walk_at "m"
            refine hnext2 _ (N - (i + 1)) (by omega) ⟨_, _, _, _, po5, p' + 3 + 2, D, _, _, dn ++ [(i1, some i2)], i + 1, .none, rfl, S.rot, by walk_at "mLook", ?_, by walk_at "mLook", by walk_at "mLook", hP5, by omega, hokn, by simp; omega, hpr2, ?_, hi, rfl⟩
            · rw [txt_two]; exact StrAt.of (by walk_at "mLook") rfl
            · rw [codes_two, if_neg hle]; rfl
      · refine ite_f (decide_eq_false (by omega)) ?_
        repeat walk_at "m"
        have hpr2 : Pairs2 r2 (vs ++ [.ref ua]) ((itsOf (dn ++ [(i1, none)])).map (·.2)) := by
          rw [itsOf_snoc, List.map_append]; exact hpr
        have hokn : ∀ b ∈ dn ++ [(i1, (none : Option It))], OkBlk b := fun b hb => by
          rcases List.mem_append.mp hb with hb | hb
          · exact hok b hb
          · rw [List.mem_singleton.mp hb]; exact ⟨hok1, fun j e => by cases e⟩
        cases hcd : codesOf dn with
        | none =>
          rw [hcd] at hcv
          obtain rfl : cv = .none := hcv
          refine isnotNone ?_
          repeat walk_at "m"
          refine hnext2 _ (N - (i + 1)) (by omega) ⟨_, _, _, _, po4, p' + 2 + 1, sl, _, _, dn ++ [(i1, none)], i + 1, .none, rfl, S.swap.rot, by walk_at "mLook", ?_, by walk_at "mLook", by walk_at "mLook", hP4, by omega, hokn, by simp; omega, hpr2, ?_, hi, rfl⟩
          · rw [txt_one]; exact StrAt.of (by walk_at "mLook") rfl
          · rw [codes_one, hcd]; rfl
        | some cs =>
          rw [hcd] at hcv
          obtain ⟨ca, us, nc, rfl, hca, hna⟩ := hcv
          have hcl := (codes_len hok hcd).1
          have hul := hna.len
          refine isnotRef ?_
          repeat walk_at "m"
          refine newList_ S (fun nl h' S => ?_) (Nat.le_of_ble_eq_true rfl)
          repeat walk_at "m"
          refine addLL S (S.rr _ _ hca) (S.at (.head _)) (by simp; omega) fun D3 h' S => ?_
          obtain ⟨r5, hr5, hD3, S⟩ := S.freeze
          replace S := S.drop
          repeat walk_at "m"
          refine hnext2 _ (N - (i + 1)) (by omega) ⟨_, _, _, _, po4, p' + 2 + 1, sl, _, _, dn ++ [(i1, none)], i + 1, .ref D3, rfl, S.swap.rot, by walk_at "mLook", ?_, by walk_at "mLook", by walk_at "mLook", hP4, by omega, hokn, by simp; omega, hpr2.keep hr5, ?_, hi, rfl⟩
          · rw [txt_one]; exact StrAt.of (by walk_at "mLook") rfl
          · rw [codes_one, hcd]
            exact ⟨D3, _, _, rfl, hD3, hna.snoc _ _⟩
    · refine endR S hh (by omega) fun h' S => ?_
      dsimp only
      repeat walk_at "m"
      refine newTuple_ S (fun a h' S => ?_) (Nat.le_of_ble_eq_true rfl)
      obtain ⟨r3, hr3, ha3, S⟩ := S.freeze
      obtain ⟨r4, hr4, hs4, S⟩ := S.freeze
      have hfresh : ∀ b o, r4 b = some o → s.heap.get? b = none := fun b o q => by
        have x := S.rk b o q
        rw [hk] at x
        have z : b ∉ [pa] := fun z => by have := (S.mu _ (.head _)).2.2.2; rw [← List.mem_singleton.mp z, q] at this; cases this
        simpa [kOf, z] using x
      exact hQ _ _ (hR _ _ po p' a sl r4 dn vs n cv tt hok (by omega) (fun b o q => S.kk b o (hk ▸ q)) (S.at (.head _)) hP (by omega) S.rr hfresh (hr4 _ _ ha3) hs4 (hpr.keep fun b o q => hr4 b o (hr3 b o q)) (hcv.keep fun b o q => hr4 b o (hr3 b o q)))
end

-- T19
section
open PySem PySem.W PyProof.Rows PySem.Calls PyProof.V
/-- what a call of a work without arguments does, whatever frame it is called in -/
noncomputable def Work (w : World) (A : Around) (fl : List Env) (g : Heap) (s : Shared) (wv : Value) (P : Value → PF → Prop) (PE : Prop) : Prop :=
  ∀ (env : Env) (h1 : Heap) (tk1 : Nat) (R' : Result → Shared → Prop), (∀ b o, s.heap.get? b = some o → h1.get? b = some o) → Stk (A.deeper env) (env :: fl) h1 → (∀ a ∈ fa (env :: fl), g.get? a = none) →
    (∀ h' tk v (r' : PF), P v r' → Sub (kOf h1 []) h' → Sub r' h' → (∀ b o, r' b = some o → h1.get? b = none) → R' (.ok (.ret v)) ⟨h', s.gens, s.drawn, tk, s.os⟩) →
    (∀ e h' tk, PE → Thrown 51 (bs h1 (env :: fl)) (env :: fl) e .none h' → h1.UpToSlots h' → R' (.error (.ref e)) ⟨h', s.gens, s.drawn, tk, s.os⟩) →
    codeAny (model PR w) (A.deeper env) (.call wv ⟨[], []⟩) R' ⟨h1, s.gens, s.drawn, tk1, s.os⟩
set_option maxHeartbeats 4000000 in
theorem heard_ok {w : World} {A : Around} {s : Shared} {R : Result → Shared → Prop} {mg mb : Str → Option Value} {g : Heap} {fl : List Env} (G : Gl w mg mb g) (hg : ∀ b o, g.get? b = some o → s.heap.get? b = some o) (hroom : A.depth < recursionLimit) (hh : A.handled = none) (K : Stk A fl s.heap) (hoff : ∀ a ∈ fa fl, g.get? a = none)
    (fa0 : Addr) (P : Value → PF → Prop) (PE : Prop) (hW : Work w A fl g s (.ref fa0) P PE)
    (hkeep : ∀ h, (∀ b o, s.heap.get? b = some o → h.get? b = some o) → ∃ kp, (kp = Keeper.frame ∨ kp = Keeper.machine ∨ kp = Keeper.boundFrame) ∧ Looks (model PR w) h (keeperOf (.ref fa0)) kp)
    (hR : ∀ h' tk v (r' : PF), P v r' → Sub (kOf s.heap []) h' → Sub r' h' → (∀ b o, r' b = some o → s.heap.get? b = none) → R (.ok (.ret v)) { s with heap := h', toks := tk })
    (hRe : ∀ h' tk, PE → (bs s.heap fl).StaysIn h' → s.heap.UpToSlots h' → R (.ok (.ret .none)) { s with heap := h', toks := tk }) :
    codeAny (model PR w) A (.call (.ref 248) ⟨[.ref fa0], []⟩) R s := by
  refine' enter_ (binds := [(Str.ofString "work", .ref fa0)]) [] G hg (fun _ hp => nomatch hp) .nil ?ho ?hcd hroom ?hbind ?hloc ?h ?c1 ?c2 ?c3 ?c4
  walk_at "mSides"
  have hfr : env.frame = some L := by rw [he]; rfl
  have hk0 := hk
  rw [List.map_nil, kOf_nil] at hk0
  have hkb : ∀ b o, (bs s.heap fl).get? b = some o → k b = some o := fun b o q => by rw [hk0]; exact of_hideAll _ q
  have hfa : (A.deeper env).frames = some (env :: fl) := by show A.frames.map _ = _; rw [K.fr]; rfl
  have hup : ∀ b o, s.heap.get? b = some o → h₁.get? b = some o := fun b o q => S.kk b o (by rw [hk0]; exact q)
  refine xTry ?_
  repeat walk_at "m"
  refine callWith_of (P := fun h => ∀ b o, s.heap.get? b = some o → h.get? b = some o) rfl hkeep (evalArgs_nil3 ⟨hup, ?_⟩)
  refine call_ fun R' hr' he' => hW env h₁ _ R' hup (K.push hk S hfr (by rw [he]; intro z; cases z)) (off_push hoff S hfr) (fun h2 tk2 v r' hP hs2 hr2 hf2 => hr' _ _ ?_) (fun e h2 tk2 hPE T2 U2 => he' _ _ ?_)
  · replace S := S.grow hs2.stays
    refine hQ _ _ (hR _ _ v r' hP (fun b o q => S.kk b o (hk ▸ q)) hr2 fun b o q => none_of_sub hup (hf2 b o q))
  have S0 := S
  refine thrown_note hfa hfr T2 fun h3 T3 U3 => ?_
  refine thrown_set T3 fun h4 T4 U4 => ?_
  have U24 := U2.trans (U3.trans U4)
  refine handle_plain (own51 w) ?_
  clear S
  have S := S0.caught hkb hL hfr hoff hg T4.ex.choose_spec.choose_spec.1.stays U24
  repeat walk_at "m"
  obtain ⟨dx4, cx4, F4, D4⟩ := id T4.ex
  obtain ⟨oe4, vs4, a1, a2, -⟩ := F4.ob
  refine ⟨rfl, G.K.keeps S.gg, ⟨oe4, a1, a2⟩, ?_⟩
  refine thrown_set T4 fun h5 T5 U5 => ?_
  have U25 := U24.trans U5
  clear S
  have S := S0.caught hkb hL hfr hoff hg T5.ex.choose_spec.choose_spec.1.stays U25
  repeat walk_at "m"
  exact hQ _ _ (hRe _ _ hPE (fun b o q => S.kk b o q) ((up_of hk S0).trans U25))
end

-- H1
section
open PySem PySem.W PyProof.Rows PySem.Calls
noncomputable abbrev gho (h : Heap) : Heap := ghostOf h [(259, 257)]

/-- what the walk of the law has to show -/
noncomputable def LawP : Prop := ∀ (w : World) (mg mb : Str → Option Value) (s : Shared) (sa : Addr) (vs : List Value) (is : List Int) (R : Result → Shared → Prop),
  Gl w mg mb (gho s.heap) → (∃ bm ob, mg "__builtins__" = some (.ref bm) ∧ bm ≠ builtinsNs ∧ (gho s.heap).get? bm = some ob ∧ ob.cls = .type "module" ∧ ob.dict = some builtinsNs ∧ ob.data = .plain) →
  CodeHd (gho s.heap) 259 257 → s.heap.get? 257 = some (tabObj #[]) → s.gens = #[] → (gho s.heap).IsList sa vs.toArray → IntsAre vs is → is.length ≤ 63 →
  (∀ h' tk', (∀ b o, (gho s.heap).get? b = some o → h'.get? b = some o) → (∃ ps, h'.get? 257 = some (tabObj ps)) → R (.ok (.ret (.bool true))) ⟨h', s.gens, s.drawn, tk', s.os⟩) →
  codeAny (model PR w) callerA (.call (.ref 260) ⟨[.ref sa], []⟩) R s

set_option hygiene false in
local macro_rules | `(tactic| walk_at "myGo0") => `(tactic| (
  k_fill
  intro w s₀ s₁ mg mb G Y fa o pm cd doc dV kV ho hd' hcd hD hmg hg args vals as hpre hlay hrd hwl hlo
  have KX := km_in_of Y
  km_tabs Y
  have X := (Ground.X G).1
  have V := (Ground.X G).2
  refine Ground.open G ?_
  intro T B D TE TW
  km_lay T hmg ho hd' cd
  have hfa : mg "law" = some (.ref 260) := mg_of KX T.g (by k_is)
  have hfb : mg "law" = some (.ref fa) := hmg
  have hfc : fa = 260 := by
    rw [hfa] at hfb
    cases hfb; rfl
  clear hfa hfb
  subst hfc
  clear hmg
  wrow_args hpre hlay hrd hwl hlo
  all_goals (
    first | refine callC_kw (enter_call ?_) | refine enter_call ?_
    w_top on
    kn_posts)))
set_option maxHeartbeats 8000000 in
theorem holds_of (H : LawP) : PySem.Challenge.rw_qz0089_01.Holds := by
  w_on
  refine holds_law said_ok fun said => ?_
  refine holds_open (q := vq) (loose := lo) (Xt := xt) (XP := XL vq []) (Yf := hk.obs) (Ya := hk.val) (YP := hk.says)
    (N := 3000) left_ok hk.of hk.keeps (fun s e => xl_of s (Bool.and_eq_true_iff.mp e).1) XL.keeps (by rfl) (by rfl)
    (by rfl) (fun s e => recFacts_of (Bool.and_eq_true_iff.mp e).2) (by rfl)
    (by first | assumption | decide +kernel) (by decide +kernel) ⟨rfl, rfl, rfl, rfl, rfl, by decide +kernel⟩ ?hw ?hc
  case hw => w_witness2
  case hc =>
  unfold hk
  w_strict (walk_at "myGo0"
            rename_i is hs1 hl0 hL1 hrx hl2 as1 as2 sa vs as3 hL ra w1 r0 hI hra hc1 hc2
            refine H w mg mb _ sa vs is _ ⟨ghost_K hT9 KX (by kernel_rfl), (ghost_top hT9 T).g, (ghost_top hT9 T).b, (ghost_top hT9 T).nolimit, T.builtins⟩ (ghost_top hT9 T).bmain (ghost_code hT9).1 (hT8 257 (.head _)) hg (ghost_list hT9 hL) hI (by omega) ?_
            intro h' tk' hk hP
            refine ⟨⟨.inl ⟨.bool true, .bool true, [], rfl, ?_, ?_, ?_, ?_⟩, hk, rfl, hg⟩, ?_⟩
            · intro cls; rfl
            · exact readsW_of_reads (.bool true)
            · kc_post
            · exact unshared_nil
            · exact ⟨hP, trivial⟩)
end

-- L11
section
open PySem PySem.W PyProof.Rows PySem.Calls PyProof.V
section
variable {w : World} {M : Model} {A : Around} {E : Value → Shared → Prop} {s : Shared} {env : Env} {g h : Heap} {k r : PF} {L : Addr} {μ : List (Addr × Obj)} {m : Str → Option Value} {gn : Array GenState} {d : Drawn} {tk : Nat} {os : OsState} {x : Str} {c : Addr} {o : Obj} {v : Value}
/-- a cell of the frame's own is written; it turns no more -/
theorem stc_ {v₀ : Option Value} {Q : Unit → Shared → Prop} (S : St g k r L ((c, o) :: μ) h m) (hd : o.data = .cell v₀)
    (hq : ∀ h' o' (r2 : PF), o'.data = .cell (some v) → (∀ b o, r b = some o → r2 b = some o) → r2 c = some o' → St g k r2 L μ h' m → Q () ⟨h', gn, d, tk, os⟩) (hc : env.cells.lookup x = some c) (hk : env.scope.kind = .function) (hl : env.kindOf x = some .cell) :
    wpAny M A (storeName env x v) Q E ⟨h, gn, d, tk, os⟩ := by
  refine wpAny_storeName_cell hk hl hc ⟨o, S.at (.head _), hd⟩ fun h' hv hs => ?_
  obtain ⟨o', ho', hd'⟩ := hv
  obtain ⟨r2, h1, h2, S2⟩ := (S.change hs ho').freeze
  exact hq h' o' r2 hd' h1 h2 S2
theorem ldc_ {pos : Pos} {Q : Value → Shared → Prop} (ho : s.heap.get? c = some o) (hd : o.data = .cell (some v)) (h : Q v s) (hc : env.cells.lookup x = some c) (hk : env.scope.kind = .function) (hl : env.kindOf x = some .cell) (hb : (x == ("__debug__" : Str)) = false) :
    wpAny M A (eval (.Name x pos) env) Q E s := wpAny_Name (wpAny_loadName_cell hk hl hc ⟨o, ho, hd⟩ h) hb
theorem ldf_ {pos : Pos} {Q : Value → Shared → Prop} (ho : s.heap.get? c = some o) (hd : o.data = .cell (some v)) (h : Q v s) (hc : env.cells.lookup x = some c) (hk : env.scope.kind = .function) (hl : env.kindOf x = some .free) (hb : (x == ("__debug__" : Str)) = false) (hn : (x == ("__classdict__" : Str)) = false) :
    wpAny M A (eval (.Name x pos) env) Q E s := wpAny_Name (wpAny_loadName_free hk hl hc ⟨o, ho, hd⟩ h hn) hb
end
section
variable {w : World} {A : Around} {s : Shared}
/-- a def of the text with four cells is entered -/
theorem enterC_ {g : Heap} {R : Result → Shared → Prop} {name qual : Str} {params : Arguments} {body : List Stmt} {scope : Scope} {dV kV doc pm cdv ct oc : Value} {an od : Option Addr} {osl : Array (Option Value)} {f : Addr} {args : Args} {y : Str} {v : Value} {mg mb : Str → Option Value} {x1 x2 x3 x4 : Str}
    (μ : List (Addr × Obj)) (G : Gl w mg mb g) (hg : ∀ b o, g.get? b = some o → s.heap.get? b = some o) (hμ : ∀ p ∈ μ, s.heap.get? p.1 = some p.2 ∧ g.get? p.1 = none) (hnd : (μ.map (·.1)).Nodup)
    (ho : (hd.heap_1 w.params).lookup f = some ⟨oc, od, .func (fnOf name qual params body scope dV kV doc pm an cdv ct), osl⟩) (hcd : codeIn (hd.heap_1 w.params) cdv qual = true) (hroom : A.depth < recursionLimit)
    (hbind : BindsTo s (fnOf name qual params body scope dV kV doc pm an cdv ct) args [(y, v)]) (hcells : ∀ n, cellsFrom n scope.names [] = [(x4, n + 3), (x3, n + 2), (x2, n + 1), (x1, n)])
    (hloc : scope.names.lookup y = some .local) (hx : (x1 ≠ x2 ∧ x1 ≠ x3 ∧ x1 ≠ x4 ∧ x2 ≠ x3 ∧ x2 ≠ x4 ∧ x3 ≠ x4))
    (h : ∀ L h₁ tk env o1 o2 o3 o4 (k r : PF) (Q : Flow → Shared → Prop) (E : Value → Shared → Prop), k = kOf s.heap (μ.map (·.1)) → s.heap.get? L = none → env = envX qual scope L f cdv [(x4, L + 1 + 3), (x3, L + 1 + 2), (x2, L + 1 + 1), (x1, L + 1)] → env.locals = L → En env scope L →
      (∀ v s', R (.ok (.ret v)) s' → Q (.ret v) s') → (∀ s', R (.ok (.ret .none)) s' → Q .next s') →
      o1.data = .cell none → o2.data = .cell none → o3.data = .cell none → o4.data = .cell none →
      St g k r L ((L + 1, o1) :: (L + 1 + 1, o2) :: (L + 1 + 2, o3) :: (L + 1 + 3, o4) :: μ) h₁ (upd (fun _ => none) y v) →
      wpAny (model PR w) (A.deeper env) (execs body env) Q E { s with heap := h₁, toks := tk })
    (hco : scope.isCoroutine = false := by rfl) (hgen : scope.isGenerator = false := by rfl) (hk : scope.kind = .function := by rfl) :
    codeAny (model PR w) A (.call (.ref f) args) R s := by
  refine codeAny_call_function hroom (hg _ _ (G.K _ _ ho)) rfl hco hgen rfl ((codeRec_of G.K hcd).keeps hg) (hbind _ _ _ _ ?_)
  refine wpAny_newFunctionEnv_cells hk (fun z hz => ?_) fun env' he s' x => ?_
  · obtain rfl := List.mem_singleton.mp hz
    exact .inl hloc
  have heX : env' = envX qual scope s.heap.objs.size f cdv [(x4, s.heap.objs.size + 1 + 3), (x3, s.heap.objs.size + 1 + 2), (x2, s.heap.objs.size + 1 + 1), (x1, s.heap.objs.size + 1)] := by
    rw [he, hcells]
    rfl
  have hloc' : env'.kindOf y = some .local := by rw [heX]; exact hloc
  refine ⟨(G.lim.keeps hg).keeps x.toInCall.keep, codeAny_func ?_⟩
  obtain ⟨h₁, tk, rfl, _⟩ := x.done
  have hk₁ := x.toInCall.keep
  have hcm : bindC env'.kindOf [(y, v)] (fun _ => none) = fun _ => none := by unfold bindC; rw [if_pos hloc']; rfl
  have hlm : bindL env'.kindOf [(y, v)] (fun _ => none) = upd (fun _ => none) y v := by unfold bindL; rw [if_pos hloc']; rfl
  have hns := x.toInCall.ns
  rw [hlm] at hns
  have cellAt : ∀ n c, env'.cells.lookup n = some c → ∃ o, h₁.get? c = some o ∧ o.data = .cell none := fun n c e => by have := x.cell n c e; rwa [hcm] at this
  have hcl : env'.cells = [(x4, s.heap.objs.size + 1 + 3), (x3, s.heap.objs.size + 1 + 2), (x2, s.heap.objs.size + 1 + 1), (x1, s.heap.objs.size + 1)] := by rw [heX]
  have hLe : env'.locals = s.heap.objs.size := by rw [heX]
  obtain ⟨n12, n13, n14, n23, n24, n34⟩ := hx
  obtain ⟨o1, e1, d1⟩ := cellAt x1 (s.heap.objs.size + 1) (by rw [hcl]; simp [List.lookup_cons, beq_eq_false_iff_ne.mpr n12, beq_eq_false_iff_ne.mpr n13, beq_eq_false_iff_ne.mpr n14])
  obtain ⟨o2, e2, d2⟩ := cellAt x2 (s.heap.objs.size + 1 + 1) (by rw [hcl]; simp [List.lookup_cons, beq_eq_false_iff_ne.mpr n23, beq_eq_false_iff_ne.mpr n24])
  obtain ⟨o3, e3, d3⟩ := cellAt x3 (s.heap.objs.size + 1 + 2) (by rw [hcl]; simp [List.lookup_cons, beq_eq_false_iff_ne.mpr n34])
  obtain ⟨o4, e4, d4⟩ := cellAt x4 (s.heap.objs.size + 1 + 3) (by rw [hcl]; simp [List.lookup_cons])
  have hnone : ∀ b : Nat, s.heap.objs.size ≤ b → s.heap.get? b = none := fun b hb => Heap.get?_none_of_le hb
  have hkn : ∀ b : Nat, s.heap.objs.size ≤ b → kOf s.heap (μ.map (·.1)) b = none := fun b hb => by
    unfold kOf; split
    · rfl
    · exact hnone b hb
  have hlt : ∀ p ∈ μ, p.1 < s.heap.objs.size := fun p hp => Heap.lt_size (hμ p hp).1
  have S0 : St g (kOf s.heap (μ.map (·.1))) (fun _ => none) s.heap.objs.size μ h₁ (upd (fun _ => none) y v) := by
    refine ⟨hLe ▸ hns, fun b o e => ?_, fun b o e => ?_, fun _ _ e => (nomatch e), hkn _ (Nat.le_refl _), rfl, fun _ _ e => (nomatch e), fun p hp => ⟨hk₁ _ _ (hμ p hp).1, Nat.ne_of_lt (hlt p hp), ?_, rfl⟩, hnd⟩
    · have : b ∉ μ.map (·.1) := fun q => by
        obtain ⟨p, hp, rfl⟩ := List.mem_map.mp q
        rw [(hμ p hp).2] at e; cases e
      simp only [kOf, this, if_false]; exact hg b o e
    · unfold kOf at e
      split at e
      · cases e
      · exact hk₁ b o e
    · unfold kOf; rw [if_pos (List.mem_map_of_mem hp)]
  have hμn : ∀ b : Nat, s.heap.objs.size ≤ b → b ∉ μ.map (·.1) := fun b hb q => by
    obtain ⟨p, hp, rfl⟩ := List.mem_map.mp q
    exact absurd (hlt p hp) (Nat.not_lt.mpr hb)
  have l1 : s.heap.objs.size ≤ s.heap.objs.size + 1 := by omega
  have l2 : s.heap.objs.size ≤ s.heap.objs.size + 1 + 1 := by omega
  have l3 : s.heap.objs.size ≤ s.heap.objs.size + 1 + 2 := by omega
  have l4 : s.heap.objs.size ≤ s.heap.objs.size + 1 + 3 := by omega
  have S4 := S0.add e4 ⟨Nat.ne_of_gt (by omega), hkn _ l4, rfl, hμn _ l4⟩
  have S3 := S4.add e3 ⟨Nat.ne_of_gt (by omega), hkn _ l3, rfl, by
    rw [List.map_cons, List.mem_cons, not_or]; exact ⟨Nat.ne_of_lt (by omega), hμn _ l3⟩⟩
  have S2 := S3.add e2 ⟨Nat.ne_of_gt (by omega), hkn _ l2, rfl, by
    rw [List.map_cons, List.map_cons, List.mem_cons, List.mem_cons, not_or, not_or]; exact ⟨Nat.ne_of_lt (by omega), Nat.ne_of_lt (by omega), hμn _ l2⟩⟩
  have S1 := S2.add e1 ⟨Nat.ne_of_gt (by omega), hkn _ l1, rfl, by
    rw [List.map_cons, List.map_cons, List.map_cons, List.mem_cons, List.mem_cons, List.mem_cons, not_or, not_or, not_or]; exact ⟨Nat.ne_of_lt (by omega), Nat.ne_of_lt (by omega), Nat.ne_of_lt (by omega), hμn _ l1⟩⟩
  exact h s.heap.objs.size h₁ tk env' o1 o2 o3 o4 _ _ _ _ rfl (hnone _ (Nat.le_refl _)) heX hLe ⟨by rw [heX]; exact hk, by rw [heX], by rw [heX], by rw [heX], fun _ => by rw [heX]; rfl⟩ (fun _ _ x => x) (fun _ x => x) d1 d2 d3 d4 S1

/-- a lambda without arguments is entered -/
theorem enterL_ {g : Heap} {R : Result → Shared → Prop} {name qual : Str} {params : Arguments} {body : Expr} {scope : Scope} {cl : List (Str × Addr)} {pm ctv : Value} {c' f : Addr} {mg mb : Str → Option Value}
    (G : Gl w mg mb g) (hg : ∀ b o, g.get? b = some o → s.heap.get? b = some o)
    (ho : s.heap.get? f = some (kla_obj name qual params body scope cl pm c' ctv)) (hcd : s.heap.CodeRec (.ref c') qual) (hroom : A.depth < recursionLimit)
    (hbind : bindArgs (kla_fn name qual params body scope cl pm (.ref c') ctv) ⟨[], []⟩ = pure [])
    (h : ∀ L h₁ tk env (k r : PF) (Q : Value → Shared → Prop) (E : Value → Shared → Prop), k = kOf s.heap [] → s.heap.get? L = none → env = envX qual scope L f (.ref c') cl → env.locals = L → En env scope L →
      (∀ v s', R (.ok (.ret v)) s' → Q v s') →
      (∀ e s', wpAny (model PR w) (A.deeper env) (leaving env e) (fun _ s'' => R (.error e) s'') (fun e' s'' => R (.error e') s'') s' → E e s') →
      St g k r L [] h₁ (fun _ => none) →
      wpAny (model PR w) (A.deeper env) (eval body env) Q E { s with heap := h₁, toks := tk })
    (hcell : ∀ x ∈ scope.names, x.2 ≠ .cell := by decide) (hco : scope.isCoroutine = false := by rfl) (hgen : scope.isGenerator = false := by rfl) (hk : scope.kind = .function := by rfl) :
    codeAny (model PR w) A (.call (.ref f) ⟨[], []⟩) R s := by
  refine kla_callFunE hroom ho rfl hco hgen rfl hcd ?_
  rw [hbind]
  refine wpAny_pure (wpAny_newFunctionEnv hcell (by intro y hy; cases hy) (fun h₁ hns hsb => ⟨(G.lim.keeps hg).fresh _ hsb, ?_⟩) hk)
  have hk₁ : ∀ b o, s.heap.get? b = some o → h₁.get? b = some o := fun b o e => hsb.extBut b o (Nat.ne_of_lt (Heap.lt_size e)) (Heap.get?_push_of_some _ e)
  have hnone : s.heap.get? s.heap.objs.size = none := Heap.get?_none_of_le (Nat.le_refl _)
  show codeAny _ _ (.expr body (envX qual scope s.heap.objs.size f (.ref c') cl)) _ _
  refine kla_codeExpr (h s.heap.objs.size h₁ _ _ (kOf s.heap []) (fun _ => none) _ _ rfl hnone rfl rfl ⟨hk, rfl, rfl, rfl, fun _ => rfl⟩ (fun _ _ x => x) (fun _ _ x => x) ⟨hns, fun b o e => ?_, fun b o e => ?_, fun _ _ e => (nomatch e), ?_, rfl, fun _ _ e => (nomatch e), fun _ hp => (nomatch hp), .nil⟩)
  · rw [kOf_nil]; exact hg b o e
  · rw [kOf_nil] at e; exact hk₁ b o e
  · rw [kOf_nil]; exact hnone
end

section
variable {w : World} {M : Model} {A : Around} {E : Value → Shared → Prop} {env : Env} {g h : Heap} {k r : PF} {L : Addr} {μ : List (Addr × Obj)} {m : Str → Option Value} {gn : Array GenState} {d : Drawn} {tk : Nat} {os : OsState}
noncomputable abbrev BMain (mg : Str → Option Value) (g : Heap) : Prop := ∃ bm ob, mg "__builtins__" = some (.ref bm) ∧ bm ≠ builtinsNs ∧ g.get? bm = some ob ∧ ob.cls = .type "module" ∧ ob.dict = some builtinsNs ∧ ob.data = .plain
/-- a lambda is made for the first time -/
theorem mkLam {mg mb : Str → Option Value} {qual cn : Str} {params : Arguments} {body : Expr} {scope : Scope} {clos : List (Str × Addr)} {P c : Addr} {ps : Array Value} {pos : Pos} {Q : Value → Shared → Prop} (G : Gl w mg mb g) (B : BMain mg g) (C : CodeHd g c P) (hgP : g.get? P = none)
    (S : St g k r L ((P, tabObj ps) :: μ) h m) (hdef : defaultsOf params env = ([], [])) (hcl : closureFor scope env = pure clos) (hge0 : env.globals = mainGlobals) (hcode : env.code = .ref c) (hcn : env.qual = cn) (ht : TriplesOk ps.toList) (hnf : codeAmong pos ps.toList = none)
    (hq : ∀ f c' ctv h' tk' (r2 : PF), (∀ b o, r b = some o → r2 b = some o) → St g k r2 L ((P, tabObj (ps ++ #[rawInt pos.line, rawInt pos.col, .ref c'])) :: μ) h' m →
      r2 f = some (kla_obj "<lambda>" (cn ++ "<lambda>") params body scope clos ((mg "__name__").getD .none) c' ctv) → h'.CodeRec (.ref c') (cn ++ "<lambda>") → (∃ oc, r2 c' = some oc ∧ h'.get? c' = some oc) → h.get? f = none → Q (.ref f) ⟨h', gn, d, tk', os⟩) :
    wpAny M A (eval (.Lambda params body scope pos) env) Q E ⟨h, gn, d, tk, os⟩ := by
  subst hcn
  have hgs := G.g.keeps S.gg
  obtain ⟨bm, ob, b1, b2, b3, b4, b5, b6⟩ := B
  have hm := S.at (.head _)
  have hgP' : mainGlobals ≠ P := fun q => by
    obtain ⟨o, es, ep, e, hd, _⟩ := G.g
    rw [q, hgP] at e; cases e
  have hbP : bm ≠ P := fun q => by rw [q, hgP] at b3; cases b3
  have hbG : bm ≠ mainGlobals := fun q => by
    obtain ⟨o, es, ep, e, hd, _⟩ := G.g
    rw [q, e] at b3; cases b3; rw [hd] at b6; cases b6
  refine kla_eval hdef (kla_makeFunction (mg := mg) hcl hge0 hgs hcode (C.keeps S.gg) hm ht hnf hgP' ⟨bm, ob, b1, b2, hbG, hbP, S.gg _ _ b3, b4, b5, b6⟩ fun c' ctv h' tk' hx hge hlt hrec htb => ?_)
  have S1 := S.extTurn hx htb
  have hc0 : h.get? c' = none := Heap.get?_none_of_le hge
  obtain ⟨c₂, oc, vs, t, e2, hoc, hrest⟩ := id hrec
  cases e2
  have hcS := S.fresh hc0
  have S2 := S1.add hoc hcS
  obtain ⟨r1, h1, hc1, S3⟩ := S2.freeze
  have S4 := S3.push (kla_obj "<lambda>" (env.qual ++ "<lambda>") params body scope clos ((mg "__name__").getD .none) c' ctv)
  obtain ⟨r2, h2, hf2, S5⟩ := S4.freeze
  refine hq _ c' ctv _ tk' r2 (fun b o e => h2 _ _ (h1 _ _ e)) S5 hf2 (hrec.keeps fun b o e => Heap.get?_push_of_some _ e) ⟨oc, h2 _ _ hc1, Heap.get?_push_of_some _ hoc⟩ (Heap.get?_none_of_le (Nat.le_of_lt (Nat.lt_of_le_of_lt hge hlt)))
end
end

-- L12
section
open PySem PySem.W PyProof.Rows PySem.Calls PyProof.V
section
variable {w : World} {M : Model} {A : Around} {E : Value → Shared → Prop} {env : Env} {g h : Heap} {k r : PF} {L : Addr} {μ : List (Addr × Obj)} {m : Str → Option Value} {gn : Array GenState} {d : Drawn} {tk : Nat} {os : OsState}
noncomputable def NsO (o : Obj) (m : Str → Option Value) : Prop := ∃ es ep, o.data = .dict es ep ∧ StrKeys es ∧ ∀ name, nsFind es name = m name
theorem St.into {C : Addr} {oC : Obj} {mc : Str → Option Value} (S : St g k r L ((C, oC) :: μ) h m) (hn : h.Ns C mc) : ∃ oL, NsO oL m ∧ St g k r C ((L, oL) :: μ) h mc := by
  obtain ⟨oL, es, ep, e1, e2⟩ := S.ns
  have x := S.mu _ (.head _)
  have nd := S.nd
  rw [List.map_cons, List.nodup_cons] at nd
  refine ⟨oL, ⟨es, ep, e2⟩, hn, S.gk, S.kk, S.rr, x.2.2.1, x.2.2.2, S.rk, fun p hp => ?_, ?_⟩
  · rcases List.mem_cons.mp hp with rfl | hp
    · exact ⟨e1, Ne.symm x.2.1, S.kL, S.rL⟩
    · have y := S.mu p (.tail _ hp)
      exact ⟨y.1, fun q => nd.1 (List.mem_map.mpr ⟨p, hp, q⟩), y.2.2.1, y.2.2.2⟩
  · rw [List.map_cons, List.nodup_cons]
    refine ⟨fun hm => ?_, nd.2⟩
    obtain ⟨p, hp, q⟩ := List.mem_map.mp hm
    exact (S.mu p (.tail _ hp)).2.1 q
theorem St.outOf {C : Addr} {oL : Obj} {mc : Str → Option Value} {h' : Heap} (S : St g k r C ((L, oL) :: μ) h mc) (hL : NsO oL m) (hs : Heap.SameBut C h h') : St g k r L μ h' m := by
  obtain ⟨es, ep, e2⟩ := hL
  have x := S.mu _ (.head _)
  have nd := S.nd
  rw [List.map_cons, List.nodup_cons] at nd
  refine ⟨⟨oL, es, ep, (hs.2 L (Ne.symm (Ne.symm x.2.1))).trans x.1, e2⟩, S.gk, fun b o e => (hs.2 b fun q => by rw [q, S.kL] at e; cases e).trans (S.kk b o e), fun b o e => (hs.2 b fun q => by rw [q, S.rL] at e; cases e).trans (S.rr b o e), x.2.2.1, x.2.2.2, S.rk, fun p hp => ?_, nd.2⟩
  have y := S.mu p (.tail _ hp)
  exact ⟨(hs.2 p.1 y.2.1).trans y.1, fun q => nd.1 (List.mem_map.mpr ⟨p, hp, q⟩), y.2.2.1, y.2.2.2⟩
/-- a comprehension's own names -/
theorem inner_ {scope : Scope} {globals : Addr} {qual : Str} {Q : Env → Shared → Prop} (S : St g k r L μ h m) (hc : ∀ x ∈ scope.names, x.2 ≠ .cell) (hk : scope.kind = .function)
    (hq : ∀ C oL h' tk', NsO oL m → St g k r C ((L, oL) :: μ) h' (fun _ => none) → Q (newEnv scope C globals [] qual none .none (some env) mainGlobals) ⟨h', gn, d, tk', os⟩) :
    wpAny M A (newFunctionEnv scope globals [] [] qual none .none (some env)) Q E ⟨h, gn, d, tk, os⟩ := by
  refine wpAny_newFunctionEnv hc (by intro y hy; cases hy) (fun h' hns hsb => ?_) hk
  have S1 := S.push { cls := .type "dict", data := .dict #[] }
  obtain ⟨oC, es, ep, e1, e2⟩ := id hns
  obtain ⟨oL, hL, S2⟩ := (S1.change hsb e1).into hns
  exact hq _ oL h' _ hL S2
end
end

-- L13
section
open PySem PySem.W PyProof.Rows PySem.Calls PyProof.V
noncomputable abbrev scA : Scope := { kind := .function, names := [(Str.ofString ".0", .local), (Str.ofString "at", .local), (Str.ofString "chr", .globalImplicit)], isGenerator := false, isCoroutine := false }
noncomputable abbrev scB : Scope := { kind := .function, names := [(Str.ofString ".0", .local), (Str.ofString "code", .local), (Str.ofString "is_guarded", .local), (Str.ofString "chr", .globalImplicit)], isGenerator := false, isCoroutine := false }
section
variable {w : World} {A : Around} {E : Value → Shared → Prop} {g h : Heap} {k r : PF} {L : Addr} {μ : List (Addr × Obj)} {m : Str → Option Value} {gn : Array GenState} {d : Drawn} {tk : Nat} {os : OsState} {mg mb : Str → Option Value}
theorem range_snoc (a n : Nat) : List.range' a (n + 1) = List.range' a n ++ [a + n] := by
  rw [List.range'_concat]; simp
set_option maxHeartbeats 2000000 in
theorem compA {p1 p2 p3 p4 p5 p6 p7 p8 p9 pos : Pos} {env0 : Env} {Q : Value → Shared → Prop} (G : Gl w mg mb g) (hh : A.handled = none) (S : St g k r L μ h m) (hsk : env0.scope.kind = .function) (hg0 : env0.globals = mainGlobals) (hb0 : env0.builtins = builtinsNs) (hkr : env0.kindOf (Str.ofString "range") = some .globalImplicit)
    (hq : ∀ D h' tk' vs n, OnesAre vs (List.range' 97 9) → St g k r L ((D, lst vs n) :: μ) h' m → Q (.ref D) ⟨h', gn, d, tk', os⟩) :
    wpAny (model PR w) A (eval (.ListComp (.Call (.Name (Str.ofString "chr") p1) [.BinOp (.Constant (.int 97) 0 p2) .Add (.Name (Str.ofString "at") p3) p4] [] p5) [⟨.Name (Str.ofString "at") p6, .Call (.Name (Str.ofString "range") p7) [.Constant (.int 9) 0 p8] [] p9, [], 0⟩] scA pos) env0) Q E ⟨h, gn, d, tk, os⟩ := by
  refine wpAny_ListComp (by decide) rfl (by decide) ?_ (by intro _; rfl)
  refine Call_ ?_ rfl
  refine blt_ G S (by k_is) (v := .type "range") (by boot_by_name) ?_ (by decide) hsk hkr hg0 hb0 (by decide)
  refine PyProof.Rows.callWith_type1 ?_ rfl rfl
  repeat walk_at "m"
  refine rng1 S fun rx h' t v S => ?_
  refine iterR S (n := 9) (by decide) (by decide) (by decide) (by decide) (by decide) fun it h' S => ?_
  refine newList_ S (fun D h' S => ?_) (Nat.le_of_ble_eq_true rfl)
  refine inner_ S (by decide) rfl fun C oL h' tk' hoL S => ?_
  refine (fun H => codeAny_compStart_list H (wpAny_pyIter_rangeiter (S.at (.tail _ (.tail _ (.head _)))) H)) ?_
  obtain ⟨env, he⟩ : ∃ e : Env, e = { newEnv scA C env0.globals [] env0.qual none .none (some env0) mainGlobals with scope := scA } := ⟨_, rfl⟩
  have hl : env.locals = C := by rw [he]; rfl
  have hgl : env.globals = mainGlobals := by rw [he]; exact hg0
  have hbl : env.builtins = builtinsNs := by rw [he]; exact hb0
  have hsc : env.scope = scA := by rw [he]
  have hsk : env.scope.kind = .function := by rw [hsc]
  have hbi := hbl
  have hkd : ∀ x, env.kindOf x = scA.names.lookup x := fun x => by unfold Env.kindOf; rw [hsc]
  show codeAny _ _ (.compLoop _ 0 _ _ { newEnv scA C env0.globals [] env0.qual none .none (some env0) mainGlobals with scope := scA }) _ _
  rw [← he]
  replace S := S.rot
  refine codeAny_compLoop_list (fun q s' => ∃ h tk mc vs n i, s' = ⟨h, gn, d, tk, os⟩ ∧ St g k r C ((it, ritO (((97 + i : Nat) : Int) - 97) ((9 - i : Nat) : Int)) :: (L, oL) :: (D, lst vs n) :: μ) h mc ∧ OnesAre vs (List.range' 97 i) ∧ i ≤ 9 ∧ q = 9 - i) ?turn 9 ⟨_, _, _, [], _, 0, rfl, S, OnesAre.nil, Nat.zero_le _, rfl⟩
  clear S
  rintro q s' ⟨h, tk, mc, vs, n, i, rfl, S, hO, hi9, rfl⟩
  have hln := hO.len
  rw [List.length_range'] at hln
  by_cases hi : i < 9
  · refine nextR S (by omega) fun h' S => ?_
    dsimp only
    have e1 : ((97 + i : Nat) : Int) - 97 + 1 = ((97 + (i + 1) : Nat) : Int) - 97 := by omega
    have e2 : ((9 - i : Nat) : Int) - 1 = ((9 - (i + 1) : Nat) : Int) := by omega
    rw [e1, e2] at S
    refine assign_Name ?_
    repeat walk_at "m"
    repeat walk_at "m"
    refine chrI (n := 97 + i) (by omega) (by omega) ?_
    repeat walk_at "m"
    replace S := S.rot
    refine appL S (by rw [sizeLine_eq]; omega) fun h' S => ?_
    refine ⟨9 - (i + 1), by omega, _, _, _, _, _, i + 1, rfl, S.rot.rot, ?_, by omega, rfl⟩
    rw [range_snoc]
    exact hO.snoc _ _
  · obtain rfl : i = 9 := by omega
    refine endR S hh (by omega) fun h' S => ?_
    dsimp only
    exact ⟨_, S.ns, fun h'' hs => hq D h'' _ vs n hO (S.outOf hoL hs)⟩
end
end

-- L14
section
open PySem PySem.W PyProof.Rows PySem.Calls PyProof.V
section
variable {w : World} {A : Around} {E : Value → Shared → Prop} {g h : Heap} {k r : PF} {L : Addr} {μ : List (Addr × Obj)} {m : Str → Option Value} {gn : Array GenState} {d : Drawn} {tk : Nat} {os : OsState} {mg mb : Str → Option Value}
theorem take_snoc {α : Type} {l : List α} {i : Nat} {x : α} (h : l[i]? = some x) : l.take (i + 1) = l.take i ++ [x] := by
  rw [List.take_add_one, h]; rfl
set_option maxHeartbeats 4000000 in
theorem compB {p1 p2 p5 p6 p7 p8 pos : Pos} {q0 : Nat} {iter : Expr} {env0 : Env} {s : Shared} {Q : Value → Shared → Prop} (G : Gl w mg mb g) (hh : A.handled = none) (hg0 : env0.globals = mainGlobals) (hb0 : env0.builtins = builtinsNs)
    (hq : wpAny (model PR w) A (eval iter env0) (fun v s1 => ∃ ax h1 tk1 vs n is, v = .ref ax ∧ s1 = ⟨h1, gn, d, tk1, os⟩ ∧ St g k r L ((ax, lst vs n) :: μ) h1 m ∧ Pairs2 r vs is ∧ (∀ i ∈ is, i.1 ≤ 1114111) ∧ is.length ≤ 1000 ∧
      (∀ D h' tk' us n', OnesAre us (is.map (·.1)) → St g k r L ((D, lst us n') :: (ax, lst vs n) :: μ) h' m → Q (.ref D) ⟨h', gn, d, tk', os⟩)) E s)
    (hs : ∀ x, foldedSetIterable iter env0 x = pure x) :
    wpAny (model PR w) A (eval (.ListComp (.Call (.Name (Str.ofString "chr") p1) [.Name (Str.ofString "code") p2] [] p5) [⟨.Tuple [.Name (Str.ofString "code") p6, .Name (Str.ofString "is_guarded") p7] q0 p8, iter, [], 0⟩] scB pos) env0) Q E s := by
  refine wpAny_ListComp (by decide) rfl (by decide) (wpAny_mono hq (fun v s1 hq1 => ?_) fun _ _ e => e) hs
  obtain ⟨ax, h1, tk1, vs, n, is, rfl, rfl, S, hpr, hch, hlen, hfin⟩ := hq1
  have hvl := hpr.len
  refine wpAny_pyIter_list (isList_of (S.at (.head _))) ?_
  replace S := S.push { cls := .type "list_iterator", data := .fields #[.ref ax, .int 0 0] }
  dsimp only
  generalize h1.objs.size = it at S ⊢
  generalize h1.push { cls := .type "list_iterator", data := .fields #[.ref ax, .int 0 0] } = h2 at S ⊢
  refine newList_ S (fun D h' S => ?_) (Nat.le_of_ble_eq_true rfl)
  refine inner_ S (by decide) rfl fun C oL h' tk' hoL S => ?_
  refine (fun H => codeAny_compStart_list H (wpAny_pyIter_listiter (l := ax) (i := 0) ⟨_, S.at (.tail _ (.tail _ (.head _))), rfl, rfl⟩ H)) ?_
  obtain ⟨env, he⟩ : ∃ e : Env, e = { newEnv scB C env0.globals [] env0.qual none .none (some env0) mainGlobals with scope := scB } := ⟨_, rfl⟩
  have hl : env.locals = C := by rw [he]; rfl
  have hgl : env.globals = mainGlobals := by rw [he]; exact hg0
  have hbl : env.builtins = builtinsNs := by rw [he]; exact hb0
  have hsc : env.scope = scB := by rw [he]
  have hsk : env.scope.kind = .function := by rw [hsc]
  have hbi := hbl
  have hkd : ∀ x, env.kindOf x = scB.names.lookup x := fun x => by unfold Env.kindOf; rw [hsc]
  show codeAny _ _ (.compLoop _ 0 _ _ { newEnv scB C env0.globals [] env0.qual none .none (some env0) mainGlobals with scope := scB }) _ _
  rw [← he]
  replace S := S.rot
  refine LCp.codeAny_compLoop_pair (fun q s' => ∃ (h : Heap) (tk : Tok) (mc : Str → Option Value) (us : List Value) (n' i : Nat) (oi : Obj), s' = ⟨h, gn, d, tk, os⟩ ∧ St g k r C ((it, oi) :: (L, oL) :: (D, lst us n') :: (ax, lst vs n) :: μ) h mc ∧ oi.cls = .type "list_iterator" ∧ oi.data = .fields #[.ref ax, .int i 0] ∧ OnesAre us ((is.take i).map (·.1)) ∧ i ≤ is.length ∧ q = is.length - i) ?turn is.length ⟨_, _, _, [], _, 0, _, rfl, S, rfl, rfl, OnesAre.nil, Nat.zero_le _, rfl⟩
  clear S
  rintro q s' ⟨h, tk, mc, us, n', i, oi, rfl, S, hoc, hod, hO, hiN, rfl⟩
  have hln := hO.len
  rw [List.length_map, List.length_take] at hln
  have hit : h.IsListIter it ax i := ⟨oi, S.at (.head _), hoc, hod⟩
  have hls : h.IsList ax vs.toArray := isList_of (S.at (.tail _ (.tail _ (.tail _ (.head _)))))
  by_cases hi : i < is.length
  · obtain ⟨c, hc⟩ : ∃ c, is[i]? = some c := ⟨_, List.getElem?_eq_getElem hi⟩
    obtain ⟨v, hv, b, t, rfl, hb⟩ := hpr.get hc
    refine wpAny_pyNext_list_item hit hls (x := .ref b) (by simpa using hv) fun h' hit' hs' => ?_
    obtain ⟨oi', eo', hoc', hod'⟩ := id hit'
    replace S := S.change hs' eo'
    dsimp only
    refine wpAny_letOwnedTupleGo_listiter hit' ?_
    refine assignTup S hh (S.rr _ _ hb) rfl rfl (fun h3 S => ?_)
    repeat walk_at "m"
    repeat walk_at "m"
    refine chrI (n := c.1) rfl (hch _ (List.mem_of_getElem? hc)) ?_
    replace S := S.rot
    refine appL S (by rw [sizeLine_eq]; omega) fun h' S => ?_
    refine ⟨is.length - (i + 1), by omega, _, _, _, _, _, i + 1, oi', rfl, S.rot.rot, hoc', hod', ?_, by omega, rfl⟩
    rw [take_snoc hc, List.map_append]
    exact hO.snoc _ _
  · obtain rfl : i = is.length := by omega
    refine wpAny_pyNext_list_end hh hit hls (by simp [hvl]) fun h' hx => ?_
    replace S := S.ext hx
    rw [List.take_length] at hO
    dsimp only
    exact ⟨_, S.ns, fun h'' hs => hfin D h'' _ us n' hO (S.outOf hoL hs)⟩
end
end

-- L15
section
open PySem PySem.W PyProof.Rows PySem.Calls PyProof.V PySem.SeqAt
section
variable {w : World} {A : Around} {E : Value → Shared → Prop} {env : Env} {g h : Heap} {k r : PF} {L : Addr} {μ : List (Addr × Obj)} {m : Str → Option Value} {gn : Array GenState} {d : Drawn} {tk : Nat} {os : OsState} {mg mb : Str → Option Value}
theorem sliceL {value slice : Expr} {l : Addr} {vs : List Value} {n b : Nat} {ns : List Int} {j : Int} {v : Tok} {Q : Value → Shared → Prop} (S : St g k r L μ h m) (hl : h.IsList l vs.toArray) (hi : IntsAre vs ns) (hj : j = (b : Int)) (hz : vs.length ≤ 1000)
    (hq : ∀ h' D us, IntsAre us (ns.take b) → St g k r L ((D, lst us 0) :: μ) h' m → Q (.ref D) ⟨h', gn, d, tk, os⟩)
    (hs : subscripted slice false (.ref l) (.ref h.objs.size) = operate [.ref h.objs.size, .ref l] (getItem (.ref l) (.ref h.objs.size)))
    (ht : ∀ r, letTemporaryGo value (.ref l) r = pure ()) :
    wpAny (model PR w) A (subscriptTail value slice (.ref l) (.ref h.objs.size)) Q E ⟨h.push { cls := .type "slice", data := .fields #[.none, .int j v, .none] }, gn, d, tk, os⟩ := by
  subst hj
  refine subscriptTail_ops (Heap.IsList.typeIs (s := ⟨h.push _, gn, d, tk, os⟩) (hl.push _)) list_getitem_lookup
    (wpAny_getItem_list_slice (hl.push _) (Heap.IsSliceOf.new ..) .none (.int _ _) .none (by simp) ?_ (by rw [List.size_toArray, sizeLine_eq]; omega)) hs ht
  have h1 := slice_ints_uptoW hi (y := (b : Int)) (by omega)
  rw [Int.toNat_natCast] at h1
  have S2 := (S.push { cls := .type "slice", data := .fields #[.none, .int (b : Int) v, .none] }).drop.push (lst (slicePick vs.toArray none (some (b : Int)) none).toList 0)
  refine hq _ _ _ h1 ?_
  simpa using S2
/-- the dict of the pen, told by its pairs -/
theorem dictFin {a la : Addr} {o : Obj} {t1 t2 t3 : Tok} {P : Heap → Prop} (S : St g k r L ((a, o) :: μ) h m) (D : o.IsDictOf (strKind PR w) [])
    (hq : ∀ h' o', PenO w o' la 0 → St g k r L ((a, o') :: μ) h' m → P h') :
    ∃ kvs, Carries (strKind PR w) [(.str (Str.ofString "of") t1, .ref la), (.str (Str.ofString "at") t2, .int 0 t3)] kvs ∧ h.DictOf (strKind PR w) a [] ∧ ∀ h', h'.DictOf (strKind PR w) a (merged [] kvs) → Heap.SameBut a h h' → P h' := by
  refine display_done_str rfl ?_ (Heap.dictOf_iff.mpr ⟨_, S.at (.head _), D⟩) fun h' hm hsb => ?_
  · show ([Str.ofString "of", Str.ofString "at"] : List Str).Nodup
    decide
  obtain ⟨o', e, D'⟩ := Heap.dictOf_iff.mp hm
  exact hq h' o' ⟨_, t3, D', rfl⟩ (S.change hsb e)
theorem dict0 (w : World) (h : Heap) : ({ cls := .type "dict", data := .dict #[] } : Obj).IsDictOf (strKind PR w) [] := by
  obtain ⟨o, e, D⟩ := Heap.dictOf_iff.mp (Heap.DictOf.new (knd := strKind PR w) h)
  rw [Heap.get?_push_size _ rfl] at e
  cases e
  exact D
theorem neSame {a b : Value} {da : PyData} {as bs : List Addr} {s : Shared} {Q : Value → Shared → Prop} (ra : Reads s.heap a da as) (rb : Reads s.heap b da bs) (hd : shaped da = true) (hu : A.units + 64 < cLine) (hq : Q (.bool false) s) :
    wpAny (model PR w) A (compareOp .NotEq a b) Q E s := by
  refine ne_dataH ra rb hd hd hu ?_
  rw [PySem.SeqAt.eqv_refl da (canLay_of_shaped hd)]
  exact hq
/-- the law's own frame after a catch below it -/
theorem St.caughtL {h2 : Heap} (S : St g k r L μ h m) (hf : env.frame = some L) (hst : (bs h [env]).StaysIn h2) (U : h.UpToSlots h2) : St g k r L μ h2 m := by
  have key : ∀ b o, h.get? b = some o → b ≠ L → h2.get? b = some o := fun b o q n => hst b o (hideAll_get _ q fun hm => n (by simpa [fa, hf] using hm))
  exact { S with
    ns := U.ns S.ns
    kk := fun b o q => key b o (S.kk b o q) fun z => by rw [z, S.kL] at q; cases q
    rr := fun b o q => key b o (S.rr b o q) fun z => by rw [z, S.rL] at q; cases q
    mu := fun p hp => let x := S.mu p hp; ⟨key _ _ x.1 x.2.1, x.2⟩ }
end
/-- the data of a list of pairs -/
noncomputable def pd (i : Nat × Bool) : PyData := .tuple [.int (i.1 : Int), .bool i.2]
theorem reads_pairsAll {h : Heap} {r : PF} (hr : Sub r h) : ∀ {vs : List Value} {is : List (Nat × Bool)}, Pairs2 r vs is → ReadsAll h vs (is.map pd) []
  | [], [], _ => .nil
  | v :: vs, i :: is, p => by
    obtain ⟨⟨b, t, rfl, hb⟩, p2⟩ := p
    have rb : Reads h (.ref b) (pd i) [] := Reads.tuple (hr _ _ hb) rfl rfl (.cons (as := []) (.int _ _) (.cons (as := []) (.bool _) .nil))
    exact .cons (as := []) rb (reads_pairsAll hr p2)
  | [], _ :: _, p => nomatch p
  | _ :: _, [], p => nomatch p
theorem reads_pairs {h : Heap} {r : PF} {a : Addr} {n : Nat} (hr : Sub r h) {vs : List Value} {is : List (Nat × Bool)} (e : h.get? a = some (lst vs n)) (p : Pairs2 r vs is) : Reads h (.ref a) (.list (is.map pd)) [a] :=
  Reads.list e rfl rfl (by simpa using reads_pairsAll hr p)
theorem shaped_pairs (is : List (Nat × Bool)) : shaped (.list (is.map pd)) = true := by
  have h1 : ∀ is : List (Nat × Bool), PyData.canLayAll0 (is.map pd) = true := by
    intro is
    induction is with
    | nil => simp [PyData.canLayAll0]
    | cons i r ih => simp [PyData.canLayAll0, PyData.canLay0, ih, pd]
  have h2 : ∀ is : List (Nat × Bool), PyData.depthAll (is.map pd) ≤ 3 := by
    intro is
    induction is with
    | nil => simp [PyData.depthAll]
    | cons i r ih => simp only [List.map_cons, PyData.depthAll, PyData.depth, pd]; omega
  have h3 := h2 is
  show (PyData.canLay0 (.list (is.map pd)) && decide (PyData.depth (.list (is.map pd)) ≤ 64)) = true
  rw [Bool.and_eq_true]
  exact ⟨by simp only [PyData.canLay0]; exact h1 is, decide_eq_true (by simp only [PyData.depth]; omega)⟩
noncomputable def cd : Option (List Nat) → PyData
  | none => .none
  | some cs => .list ((cs.map fun n : Nat => (n : Int)).map PyData.int)
theorem reads_codes {h : Heap} {r : PF} {v : Value} : ∀ {o : Option (List Nat)}, Sub r h → CodesV r v o → ∃ as, Reads h v (cd o) as
  | none, _, e => ⟨[], by rw [show v = .none from e]; exact .none⟩
  | some _, hr, ⟨ca, us, n, e, hc, hn⟩ => ⟨[ca], by rw [e]; exact reads_of_ints (isList_of (hr _ _ hc)) hn⟩
theorem shaped_codes : ∀ o, shaped (cd o) = true
  | none => by decide
  | some cs => shaped_ints _
noncomputable def td (p : Option (List Nat × Nat)) : PyData := match p with | none => .none | some (l, n) => .tuple [.str (tx l), .int (n : Int)]
/-- what a heard text gives -/
noncomputable def HeardV (r : PF) (v : Value) : Option (List Nat × Nat) → Prop
  | none => v = .none
  | some (l, n) => ∃ a t u, v = .ref a ∧ r a = some (tup [.str (tx l) t, .int (n : Int) u])
theorem HeardV.keep {r r' : PF} (k : ∀ b o, r b = some o → r' b = some o) {v : Value} : ∀ {o}, HeardV r v o → HeardV r' v o
  | none, h => h
  | some (_, _), ⟨a, t, u, e, q⟩ => ⟨a, t, u, e, k _ _ q⟩
theorem reads_heard {h : Heap} {r : PF} {v : Value} : ∀ {o}, Sub r h → HeardV r v o → Reads h v (td o) []
  | none, _, e => by rw [show v = .none from e]; exact .none
  | some (_, _), hr, ⟨a, t, u, e, q⟩ => by rw [e]; exact Reads.tuple (hr _ _ q) rfl rfl (.cons (as := []) (.str _ _) (.cons (as := []) (.int _ _) .nil))
theorem shaped_td : ∀ {o : Option (List Nat × Nat)}, (∀ p, o = some p → ∀ c ∈ p.1, c < 512) → shaped (td o) = true
  | none, _ => by decide
  | some (l, n), hb => by
    have h1 : PyData.strOk (tx l) = true := by
      unfold PyData.strOk tx
      rw [Array.all_eq_true]
      intro i hi
      have := hb _ rfl l[i] (List.getElem_mem (by simpa using hi))
      simp only [List.getElem_toArray]
      exact decide_eq_true (by omega)
    simp [shaped, td, PyData.canLay0, PyData.canLayAll0, PyData.depth, PyData.depthAll, h1]
theorem turn_lt {cs bs l : List Nat} (h1 : ∀ c ∈ cs, c < 512) (h2 : ∀ c ∈ bs, c < 512) (h3 : ∀ c ∈ l, c < 512) : ∀ c ∈ turnTx cs bs l, c < 512 := by
  intro c hc
  obtain ⟨x, hx, rfl⟩ := List.mem_map.mp hc
  cases q : tval cs bs x with
  | none => exact h3 x hx
  | some v => exact tval_lt q h1 h2
end

-- L16
section
open PySem PySem.W PyProof.Rows PySem.Calls PyProof.V
section
variable {w : World} {A : Around} {E : Value → Shared → Prop} {env : Env} {g h : Heap} {k r : PF} {L : Addr} {μ : List (Addr × Obj)} {m : Str → Option Value} {gn : Array GenState} {d : Drawn} {tk : Nat} {os : OsState} {mg mb : Str → Option Value}
theorem perm_front {α : Type} : ∀ {l : List α} {i : Nat} {x : α}, l[i]? = some x → (x :: l.eraseIdx i).Perm l
  | a :: l, 0, x, h => by
    rw [List.getElem?_cons_zero] at h
    cases h
    exact .refl _
  | a :: l, i + 1, x, h => by
    rw [List.getElem?_cons_succ] at h
    rw [List.eraseIdx_cons_succ]
    exact (List.Perm.swap a x _).trans ((perm_front h).cons a)
  | [], _, _, h => by simp at h
theorem St.front (S : St g k r L μ h m) (i : Nat) {x : Addr × Obj} (hx : μ[i]? = some x) : St g k r L (x :: μ.eraseIdx i) h m := by
  have p := perm_front hx
  exact S.pick (fun q hq => p.mem_iff.mp hq) ((p.map (·.1)).nodup_iff.mpr S.nd)
theorem St.rot4 {a b c e : Addr × Obj} (S : St g k r L (a :: b :: c :: e :: μ) h m) : St g k r L (e :: a :: b :: c :: μ) h m := S.front 3 rfl
theorem St.rot5 {a b c e f : Addr × Obj} (S : St g k r L (a :: b :: c :: e :: f :: μ) h m) : St g k r L (f :: a :: b :: c :: e :: μ) h m := S.front 4 rfl
theorem St.rot6 {a b c e f p : Addr × Obj} (S : St g k r L (a :: b :: c :: e :: f :: p :: μ) h m) : St g k r L (p :: a :: b :: c :: e :: f :: μ) h m := S.front 5 rfl
theorem Stk.law (S : St g k r L μ h m) (hA : A.frames = some [env]) (hf : env.frame = some L) (hm : env.scope.kind ≠ .module) : Stk A [env] h := by
  refine ⟨hA, fun e he => ?_⟩
  obtain rfl := List.mem_singleton.mp he
  obtain ⟨o, es, ep, e1, e2, _⟩ := S.ns
  exact ⟨hm, L, o, hf, e1, fun vs q => by rw [e2] at q; cases q⟩
theorem off_law (S : St g k r L μ h m) (hf : env.frame = some L) : ∀ a ∈ fa [env], g.get? a = none := off_push (fl := []) (fun _ x => nomatch x) S hf
/-- what a called def made joins, while the object at the head turned -/
theorem St.back1join {h' : Heap} {e : Addr} {o o' : Obj} {r' : PF} (S : St g k r L ((e, o) :: μ) h m) (hs : Sub (kOf h [e]) h') (he : h'.get? e = some o') (hr : Sub r' h') (hf : ∀ b o, r' b = some o → h.get? b = none) :
    ∃ r2 : PF, (∀ b o, r b = some o → r2 b = some o) ∧ (∀ b o, r' b = some o → r2 b = some o) ∧ St g k r2 L ((e, o') :: μ) h' m := by
  have S' := S.back1 hs he
  have fr : ∀ b o, r' b = some o → b ≠ L ∧ k b = none ∧ r b = none ∧ b ∉ ((e, o') :: μ).map (·.1) := fun b o q => S.fresh (hf b o q)
  have sp : ∀ b o, (r b).or (r' b) = some o → r b = some o ∨ r' b = some o := fun b o e => by
    cases q : r b with
    | none => rw [q] at e; exact .inr e
    | some x => rw [q] at e; exact .inl e
  refine ⟨fun b => (r b).or (r' b), fun b o q => by simp [q], fun b o q => by simp [q, (fr b o q).2.2.1], ?_⟩
  refine { S' with rr := fun b o q => ?_, rL := ?_, rk := fun b o q => ?_, mu := fun p hp => ?_ }
  · exact (sp b o q).elim (S'.rr b o) (hr b o)
  · cases q : r' L with
    | none => simp [S'.rL, q]
    | some o => exact absurd rfl (fr L o q).1
  · exact (sp b o q).elim (S'.rk b o) fun z => (fr b o z).2.1
  · have x := S'.mu p hp
    refine ⟨x.1, x.2.1, x.2.2.1, ?_⟩
    cases q : r' p.1 with
    | none => simp [x.2.2.2, q]
    | some o => exact absurd (List.mem_map_of_mem hp) (fr _ o q).2.2.2
end
theorem Pairs2.app {r : PF} : ∀ {vs us is js}, Pairs2 r vs is → Pairs2 r us js → Pairs2 r (vs ++ us) (is ++ js)
  | [], _, [], _, _, h => h
  | v :: vs, _, i :: is, _, h, h' => ⟨h.1, Pairs2.app (vs := vs) (is := is) h.2 h'⟩
  | [], _, _ :: _, _, h, _ => nomatch h
  | _ :: _, _, [], _, h, _ => nomatch h
theorem strsAre_app : ∀ {vs us : List Value} {xs ys : List Str}, StrsAre vs xs → StrsAre us ys → StrsAre (vs ++ us) (xs ++ ys)
  | _, _, _, _, .nil, h => h
  | _, _, _, _, .cons x t r, h => .cons x t (strsAre_app r h)
theorem OnesAre.app {vs us : List Value} {xs ys : List Nat} (h : OnesAre vs xs) (h' : OnesAre us ys) : OnesAre (vs ++ us) (xs ++ ys) := by
  unfold OnesAre
  rw [List.map_append]
  exact strsAre_app h h'
end

-- T20
section
open PySem PySem.W PyProof.Rows PySem.Calls PyProof.V
noncomputable abbrev noPar : Arguments := { posonlyargs := [], args := [], vararg := none, kwonlyargs := [], kw_defaults := [], kwarg := none, defaults := [] }
noncomputable abbrev scL_one : Scope := { kind := .function, names := [(Str.ofString "one", .free), (Str.ofString "trans_codes", .globalImplicit)], isGenerator := false, isCoroutine := false }
noncomputable abbrev scL_other : Scope := { kind := .function, names := [(Str.ofString "other", .free), (Str.ofString "trans_codes", .globalImplicit)], isGenerator := false, isCoroutine := false }
noncomputable abbrev scT_one : Scope := { kind := .function, names := [(Str.ofString "one", .free), (Str.ofString "other", .free), (Str.ofString "text", .free), (Str.ofString "trans_text", .globalImplicit)], isGenerator := false, isCoroutine := false }
noncomputable abbrev scT_bad : Scope := { kind := .function, names := [(Str.ofString "bad", .free), (Str.ofString "other", .free), (Str.ofString "text", .free), (Str.ofString "trans_text", .globalImplicit)], isGenerator := false, isCoroutine := false }
noncomputable def heardOf (res1 res2 : Option (List Nat)) (l : List Nat) : Option (List Nat × Nat) := match res1, res2 with | some cs, some bs => some (turnTx cs bs l, turnN cs bs l) | _, _ => none
theorem keeps_fn {w : World} {h : Heap} {f : Addr} {o : Obj} {fd : FuncData} (e : h.get? f = some o) (hd : o.data = .func fd) : ∃ kp, (kp = Keeper.frame ∨ kp = Keeper.machine ∨ kp = Keeper.boundFrame) ∧ Looks (model PR w) h (keeperOf (.ref f)) kp := by
  obtain ⟨c, dct, dt, sl⟩ := o
  obtain rfl : dt = .func fd := hd
  exact keeps_F h ⟨c, dct, fd, sl, e⟩

set_option maxHeartbeats 2000000 in
theorem lam_codes_one {w : World} {A : Around} {s : Shared} {R : Result → Shared → Prop} {mg mb : Str → Option Value} {g : Heap} {fl : List Env} (G : Gl w mg mb g) (hg : ∀ b o, g.get? b = some o → s.heap.get? b = some o) (hroom : A.depth + 10 < recursionLimit) (hun : A.units + 210 < cLine) (hh : A.handled = none) (K : Stk A fl s.heap) (hoff : ∀ a ∈ fa fl, g.get? a = none)
    {f c' ca : Addr} {qual : Str} {pm ctv : Value} {oc : Obj} {l : List Nat} {res : Option (List Nat)} {t : Tok} {p1 p2 p3 p4 : Pos}
    (hf : s.heap.get? f = some (kla_obj "<lambda>" qual noPar (.Call (.Name (Str.ofString "trans_codes") p1) [.Name (Str.ofString "one") p2, .Constant (.int 4000) 0 p3] [] p4) scL_one [(Str.ofString "one", ca)] pm c' ctv)) (hcd : s.heap.CodeRec (.ref c') qual)
    (hca : s.heap.get? ca = some oc) (hoc : oc.data = .cell (some (.str (tx l) t))) (hsrc : Src l res)
    (hR : ∀ h' tk v (r' : PF), CodesV r' v res → Sub (kOf s.heap []) h' → Sub r' h' → (∀ b o, r' b = some o → s.heap.get? b = none) → R (.ok (.ret v)) { s with heap := h', toks := tk })
    (hRe : ∀ e h' tk, res = none → Thrown 51 (bs s.heap fl) fl e .none h' → s.heap.UpToSlots h' → R (.error (.ref e)) { s with heap := h', toks := tk }) :
    codeAny (model PR w) A (.call (.ref f) ⟨[], []⟩) R s := by
  refine enterL_ G hg hf hcd (by omega) rfl ?_
  intro L h₁ tk₁ env k r Q E hk hL he hl en hQ hE S
  obtain ⟨hsk, hgl, hbi, hfr, hkd⟩ := en
  have hk0 := hk
  rw [kOf_nil] at hk0
  repeat walk_at "m"
  refine ldf_ (c := ca) (S.kk _ _ (by rw [hk0]; exact hca)) hoc ?_ (by rw [he]; rfl) hsk (hkd _) (by decide) (by decide)
  repeat walk_at "m"
  refine call_ fun R' hr' he' => codes_any (A := A.deeper env) (s := ⟨_, _, _, _, _⟩) (fl := env :: fl) G S.gg (by show A.depth + 1 + 9 < _; omega) (by show A.units + 3 + 200 < _; omega) hh (K.push hk S hfr (by rw [he]; intro z; cases z)) (off_push hoff S hfr) _ l res _ _ rfl hsrc
    (fun h2 tk2 a r' vs n cs hcs hs2 hr2 hnew ha hna => hr' _ _ (hQ _ _ (hR _ _ _ r' (by rw [hcs]; exact ⟨a, vs, n, rfl, ha, hna⟩) (fun b o q => hs2.stays b o (S.kk b o (hk ▸ q))) hr2 fun b o q => ?_)))
    (fun hres e h2 tk2 T2 U2 => he' _ _ (hE _ _ (raise_end K hk hL hfr S T2 (.inl rfl) U2 fun h' T U => hRe e _ _ hres T U)))
  have := none_of_sub S.kk (hnew b o q)
  rwa [hk0] at this

set_option maxHeartbeats 2000000 in
theorem lam_codes_other {w : World} {A : Around} {s : Shared} {R : Result → Shared → Prop} {mg mb : Str → Option Value} {g : Heap} {fl : List Env} (G : Gl w mg mb g) (hg : ∀ b o, g.get? b = some o → s.heap.get? b = some o) (hroom : A.depth + 10 < recursionLimit) (hun : A.units + 210 < cLine) (hh : A.handled = none) (K : Stk A fl s.heap) (hoff : ∀ a ∈ fa fl, g.get? a = none)
    {f c' ca : Addr} {qual : Str} {pm ctv : Value} {oc : Obj} {l : List Nat} {res : Option (List Nat)} {t : Tok} {p1 p2 p3 p4 : Pos}
    (hf : s.heap.get? f = some (kla_obj "<lambda>" qual noPar (.Call (.Name (Str.ofString "trans_codes") p1) [.Name (Str.ofString "other") p2, .Constant (.int 4000) 0 p3] [] p4) scL_other [(Str.ofString "other", ca)] pm c' ctv)) (hcd : s.heap.CodeRec (.ref c') qual)
    (hca : s.heap.get? ca = some oc) (hoc : oc.data = .cell (some (.str (tx l) t))) (hsrc : Src l res)
    (hR : ∀ h' tk v (r' : PF), CodesV r' v res → Sub (kOf s.heap []) h' → Sub r' h' → (∀ b o, r' b = some o → s.heap.get? b = none) → R (.ok (.ret v)) { s with heap := h', toks := tk })
    (hRe : ∀ e h' tk, res = none → Thrown 51 (bs s.heap fl) fl e .none h' → s.heap.UpToSlots h' → R (.error (.ref e)) { s with heap := h', toks := tk }) :
    codeAny (model PR w) A (.call (.ref f) ⟨[], []⟩) R s := by
  refine enterL_ G hg hf hcd (by omega) rfl ?_
  intro L h₁ tk₁ env k r Q E hk hL he hl en hQ hE S
  obtain ⟨hsk, hgl, hbi, hfr, hkd⟩ := en
  have hk0 := hk
  rw [kOf_nil] at hk0
  repeat walk_at "m"
  refine ldf_ (c := ca) (S.kk _ _ (by rw [hk0]; exact hca)) hoc ?_ (by rw [he]; rfl) hsk (hkd _) (by decide) (by decide)
  repeat walk_at "m"
  refine call_ fun R' hr' he' => codes_any (A := A.deeper env) (s := ⟨_, _, _, _, _⟩) (fl := env :: fl) G S.gg (by show A.depth + 1 + 9 < _; omega) (by show A.units + 3 + 200 < _; omega) hh (K.push hk S hfr (by rw [he]; intro z; cases z)) (off_push hoff S hfr) _ l res _ _ rfl hsrc
    (fun h2 tk2 a r' vs n cs hcs hs2 hr2 hnew ha hna => hr' _ _ (hQ _ _ (hR _ _ _ r' (by rw [hcs]; exact ⟨a, vs, n, rfl, ha, hna⟩) (fun b o q => hs2.stays b o (S.kk b o (hk ▸ q))) hr2 fun b o q => ?_)))
    (fun hres e h2 tk2 T2 U2 => he' _ _ (hE _ _ (raise_end K hk hL hfr S T2 (.inl rfl) U2 fun h' T U => hRe e _ _ hres T U)))
  have := none_of_sub S.kk (hnew b o q)
  rwa [hk0] at this

set_option maxHeartbeats 2000000 in
theorem lam_text_one {w : World} {A : Around} {s : Shared} {R : Result → Shared → Prop} {mg mb : Str → Option Value} {g : Heap} {fl : List Env} (G : Gl w mg mb g) (hg : ∀ b o, g.get? b = some o → s.heap.get? b = some o) (hroom : A.depth + 12 < recursionLimit) (hun : A.units + 320 < cLine) (hh : A.handled = none) (K : Stk A fl s.heap) (hoff : ∀ a ∈ fa fl, g.get? a = none)
    {f c' ca cb cc : Addr} {qual : Str} {pm ctv : Value} {oa ob oc : Obj} {l l1 l2 : List Nat} {res1 res2 : Option (List Nat)} {t t1 t2 : Tok} {p1 p2 p3 p4 p5 p6 p7 : Pos}
    (hf : s.heap.get? f = some (kla_obj "<lambda>" qual noPar (.Call (.Name (Str.ofString "trans_text") p1) [.Name (Str.ofString "text") p2, .Name (Str.ofString "one") p3, .Name (Str.ofString "other") p4, .Constant (.str (Str.ofString "")) 0 p5, .Constant (.int 4000) 0 p6] [] p7) scT_one [(Str.ofString "text", cc), (Str.ofString "other", cb), (Str.ofString "one", ca)] pm c' ctv)) (hcd : s.heap.CodeRec (.ref c') qual)
    (hca : s.heap.get? ca = some oa) (hoa : oa.data = .cell (some (.str (tx l1) t1))) (hcb : s.heap.get? cb = some ob) (hob : ob.data = .cell (some (.str (tx l2) t2))) (hcc : s.heap.get? cc = some oc) (hoc : oc.data = .cell (some (.str (tx l) t))) (hs1 : Src l1 res1) (hs2_ : Src l2 res2) (hlen : l.length < 100000)
    (hR : ∀ h' tk v (r' : PF), HeardV r' v (heardOf res1 res2 l) → Sub (kOf s.heap []) h' → Sub r' h' → (∀ b o, r' b = some o → s.heap.get? b = none) → R (.ok (.ret v)) { s with heap := h', toks := tk })
    (hRe : ∀ e h' tk, heardOf res1 res2 l = none → Thrown 51 (bs s.heap fl) fl e .none h' → s.heap.UpToSlots h' → R (.error (.ref e)) { s with heap := h', toks := tk }) :
    codeAny (model PR w) A (.call (.ref f) ⟨[], []⟩) R s := by
  refine enterL_ G hg hf hcd (by omega) rfl ?_
  intro L h₁ tk₁ env k r Q E hk hL he hl en hQ hE S
  obtain ⟨hsk, hgl, hbi, hfr, hkd⟩ := en
  have hk0 := hk
  rw [kOf_nil] at hk0
  repeat walk_at "m"
  refine ldf_ (c := cc) (S.kk _ _ (by rw [hk0]; exact hcc)) hoc ?_ (by rw [he]; rfl) hsk (hkd _) (by decide) (by decide)
  repeat walk_at "m"
  refine ldf_ (c := ca) (S.kk _ _ (by rw [hk0]; exact hca)) hoa ?_ (by rw [he]; rfl) hsk (hkd _) (by decide) (by decide)
  repeat walk_at "m"
  refine ldf_ (c := cb) (S.kk _ _ (by rw [hk0]; exact hcb)) hob ?_ (by rw [he]; rfl) hsk (hkd _) (by decide) (by decide)
  repeat walk_at "m"
  refine call_ fun R' hr' he' => text_go (A := A.deeper env) (s := ⟨_, _, _, _, _⟩) (fl := env :: fl) G S.gg (by show A.depth + 1 + 11 < _; omega) (by show A.units + 3 + 310 < _; omega) hh (K.push hk S hfr (by rw [he]; intro z; cases z)) (off_push hoff S hfr) _ _ _ l l1 l2 res1 res2 _ _ _ _ _ rfl hlen rfl rfl hs1 hs2_ _ empty_is
    (fun h2 tk2 a t u cs bs hr1 hr2 hs2 hnew ha => hr' _ _ (hQ _ _ (hR _ _ _ (fun b => if b = a then some (tup [.str (tx (turnTx cs bs l)) t, .int ((turnN cs bs l : Nat) : Int) u]) else none) (by rw [hr1, hr2]; exact ⟨a, t, u, rfl, if_pos rfl⟩) (fun b o q => hs2.stays b o (S.kk b o (hk ▸ q))) (fun b o q => ?_) fun b o q => ?_)))
    (fun hres e h2 tk2 T2 U2 => he' _ _ (hE _ _ (raise_end K hk hL hfr S T2 (.inl rfl) U2 fun h' T U => hRe e _ _ (by rcases hres with z | z <;> rw [z] <;> cases res1 <;> rfl) T U)))
  · by_cases z : b = a
    · rw [z]; simp only [z, if_true] at q; rw [← q]; exact ha
    · simp only [z, if_false] at q; cases q
  · by_cases z : b = a
    · have := none_of_sub S.kk hnew
      rw [z]; rwa [hk0] at this
    · simp only [z, if_false] at q; cases q

set_option maxHeartbeats 2000000 in
theorem lam_text_bad {w : World} {A : Around} {s : Shared} {R : Result → Shared → Prop} {mg mb : Str → Option Value} {g : Heap} {fl : List Env} (G : Gl w mg mb g) (hg : ∀ b o, g.get? b = some o → s.heap.get? b = some o) (hroom : A.depth + 12 < recursionLimit) (hun : A.units + 320 < cLine) (hh : A.handled = none) (K : Stk A fl s.heap) (hoff : ∀ a ∈ fa fl, g.get? a = none)
    {f c' ca cb cc : Addr} {qual : Str} {pm ctv : Value} {oa ob oc : Obj} {l l1 l2 : List Nat} {res1 res2 : Option (List Nat)} {t t1 t2 : Tok} {p1 p2 p3 p4 p5 p6 p7 : Pos}
    (hf : s.heap.get? f = some (kla_obj "<lambda>" qual noPar (.Call (.Name (Str.ofString "trans_text") p1) [.Name (Str.ofString "text") p2, .Name (Str.ofString "bad") p3, .Name (Str.ofString "other") p4, .Constant (.str (Str.ofString "")) 0 p5, .Constant (.int 4000) 0 p6] [] p7) scT_bad [(Str.ofString "text", cc), (Str.ofString "other", cb), (Str.ofString "bad", ca)] pm c' ctv)) (hcd : s.heap.CodeRec (.ref c') qual)
    (hca : s.heap.get? ca = some oa) (hoa : oa.data = .cell (some (.str (tx l1) t1))) (hcb : s.heap.get? cb = some ob) (hob : ob.data = .cell (some (.str (tx l2) t2))) (hcc : s.heap.get? cc = some oc) (hoc : oc.data = .cell (some (.str (tx l) t))) (hs1 : Src l1 res1) (hs2_ : Src l2 res2) (hlen : l.length < 100000)
    (hR : ∀ h' tk v (r' : PF), HeardV r' v (heardOf res1 res2 l) → Sub (kOf s.heap []) h' → Sub r' h' → (∀ b o, r' b = some o → s.heap.get? b = none) → R (.ok (.ret v)) { s with heap := h', toks := tk })
    (hRe : ∀ e h' tk, heardOf res1 res2 l = none → Thrown 51 (bs s.heap fl) fl e .none h' → s.heap.UpToSlots h' → R (.error (.ref e)) { s with heap := h', toks := tk }) :
    codeAny (model PR w) A (.call (.ref f) ⟨[], []⟩) R s := by
  refine enterL_ G hg hf hcd (by omega) rfl ?_
  intro L h₁ tk₁ env k r Q E hk hL he hl en hQ hE S
  obtain ⟨hsk, hgl, hbi, hfr, hkd⟩ := en
  have hk0 := hk
  rw [kOf_nil] at hk0
  repeat walk_at "m"
  refine ldf_ (c := cc) (S.kk _ _ (by rw [hk0]; exact hcc)) hoc ?_ (by rw [he]; rfl) hsk (hkd _) (by decide) (by decide)
  repeat walk_at "m"
  refine ldf_ (c := ca) (S.kk _ _ (by rw [hk0]; exact hca)) hoa ?_ (by rw [he]; rfl) hsk (hkd _) (by decide) (by decide)
  repeat walk_at "m"
  refine ldf_ (c := cb) (S.kk _ _ (by rw [hk0]; exact hcb)) hob ?_ (by rw [he]; rfl) hsk (hkd _) (by decide) (by decide)
  repeat walk_at "m"
  refine call_ fun R' hr' he' => text_go (A := A.deeper env) (s := ⟨_, _, _, _, _⟩) (fl := env :: fl) G S.gg (by show A.depth + 1 + 11 < _; omega) (by show A.units + 3 + 310 < _; omega) hh (K.push hk S hfr (by rw [he]; intro z; cases z)) (off_push hoff S hfr) _ _ _ l l1 l2 res1 res2 _ _ _ _ _ rfl hlen rfl rfl hs1 hs2_ _ empty_is
    (fun h2 tk2 a t u cs bs hr1 hr2 hs2 hnew ha => hr' _ _ (hQ _ _ (hR _ _ _ (fun b => if b = a then some (tup [.str (tx (turnTx cs bs l)) t, .int ((turnN cs bs l : Nat) : Int) u]) else none) (by rw [hr1, hr2]; exact ⟨a, t, u, rfl, if_pos rfl⟩) (fun b o q => hs2.stays b o (S.kk b o (hk ▸ q))) (fun b o q => ?_) fun b o q => ?_)))
    (fun hres e h2 tk2 T2 U2 => he' _ _ (hE _ _ (raise_end K hk hL hfr S T2 (.inl rfl) U2 fun h' T U => hRe e _ _ (by rcases hres with z | z <;> rw [z] <;> cases res1 <;> rfl) T U)))
  · by_cases z : b = a
    · rw [z]; simp only [z, if_true] at q; rw [← q]; exact ha
    · simp only [z, if_false] at q; cases q
  · by_cases z : b = a
    · have := none_of_sub S.kk hnew
      rw [z]; rwa [hk0] at this
    · simp only [z, if_false] at q; cases q
end

-- T21
section
open PySem PySem.W PyProof.Rows PySem.Calls PyProof.V

set_option maxHeartbeats 2000000 in
theorem hear_codes_one {w : World} {A : Around} {E : Value → Shared → Prop} {env : Env} {g h : Heap} {k r : PF} {L P : Addr} {μ : List (Addr × Obj)} {m mg mb : Str → Option Value} {gn : Array GenState} {d : Drawn} {tk : Nat} {os : OsState} {ps : Array Value} {Q : Value → Shared → Prop} {ca : Addr} {oc : Obj} {l : List Nat} {res : Option (List Nat)} {t : Tok} {p1 p2 p3 p4 p5 p6 pos : Pos}
    (G : Gl w mg mb g) (B : BMain mg g) (C : CodeHd g 259 P) (hgP : g.get? P = none) (S : St g k r L ((P, tabObj ps) :: μ) h m) (hh : A.handled = none) (hroom : A.depth + 14 < recursionLimit) (hun : A.units + 330 < cLine) (hfs : A.frames = some [env]) (hfr : env.frame = some L) (hsk : env.scope.kind = .function)
    (hkh : env.kindOf (Str.ofString "_law_heard") = some .globalImplicit) (hg0 : env.globals = mainGlobals) (hcode : env.code = .ref 259) (hcl : closureFor scL_one env = pure [(Str.ofString "one", ca)]) (ht : TriplesOk ps.toList) (hnf : codeAmong pos ps.toList = none)
    (hca : r ca = some oc) (hoc : oc.data = .cell (some (.str (tx l) t))) (hsrc : Src l res)
    (hq : ∀ v h' tk' c' (r2 : PF), (∀ b o, r b = some o → r2 b = some o) → CodesV r2 v res → St g k r2 L ((P, tabObj (ps ++ #[rawInt pos.line, rawInt pos.col, .ref c'])) :: μ) h' m → Q v ⟨h', gn, d, tk', os⟩) :
    wpAny (model PR w) A (eval (.Call (.Name (Str.ofString "_law_heard") p5) [.Lambda noPar (.Call (.Name (Str.ofString "trans_codes") p1) [.Name (Str.ofString "one") p2, .Constant (.int 4000) 0 p3] [] p4) scL_one pos] [] p6) env) Q E ⟨h, gn, d, tk, os⟩ := by
  refine Call_ ?_ rfl
  refine glb_ G S (v := .ref 248) (by k_is) ?_ hsk hkh hg0 (by decide)
  repeat walk_at "m"
  refine mkLam (qual := env.qual) G B C hgP S rfl hcl hg0 hcode rfl ht hnf fun f c' ctv h' tk' r1 hr1 S hf hrec hoc' hfn => ?_
  repeat walk_at "m"
  refine call_ fun R' hr' he' => heard_ok (A := A) (s := ⟨_, _, _, _, _⟩) (fl := [env]) G S.gg (by omega) hh (Stk.law S hfs hfr (by rw [hsk]; intro z; cases z)) (off_law S hfr) f (fun v r' => CodesV r' v res) (res = none) (fun env' h1 tk1 R' hup K hoff hR hRe => lam_codes_one (A := A.deeper env') (s := ⟨h1, _, _, tk1, _⟩) (fl := env' :: [env]) G (fun b o q => hup b o (S.gg b o q)) (by show A.depth + 1 + 10 < _; omega) (by show A.units + 3 + 210 < _; omega) hh K hoff (hup _ _ (S.rr _ _ hf)) (hrec.keeps hup) (hup _ _ (S.rr _ _ (hr1 _ _ hca))) hoc hsrc hR hRe)
    (fun h1 hup => keeps_fn (hup _ _ (S.rr _ _ hf)) rfl) (fun h2 tk2 v r' hP hs2 hr2 hnew => hr' _ _ ?_) (fun h2 tk2 hpe hst hU => hr' _ _ ?_)
  · obtain ⟨r2, h1, h2', S2⟩ := S.join hs2.stays hr2 hnew
    exact hq v _ _ c' r2 (fun b o q => h1 b o (hr1 b o q)) (CodesV.keep h2' hP) S2
  · exact hq .none _ _ c' r1 hr1 (by show CodesV _ _ res; rw [hpe]; rfl) (S.caughtL hfr hst hU)

set_option maxHeartbeats 2000000 in
theorem hear_codes_other {w : World} {A : Around} {E : Value → Shared → Prop} {env : Env} {g h : Heap} {k r : PF} {L P : Addr} {μ : List (Addr × Obj)} {m mg mb : Str → Option Value} {gn : Array GenState} {d : Drawn} {tk : Nat} {os : OsState} {ps : Array Value} {Q : Value → Shared → Prop} {ca : Addr} {oc : Obj} {l : List Nat} {res : Option (List Nat)} {t : Tok} {p1 p2 p3 p4 p5 p6 pos : Pos}
    (G : Gl w mg mb g) (B : BMain mg g) (C : CodeHd g 259 P) (hgP : g.get? P = none) (S : St g k r L ((P, tabObj ps) :: μ) h m) (hh : A.handled = none) (hroom : A.depth + 14 < recursionLimit) (hun : A.units + 330 < cLine) (hfs : A.frames = some [env]) (hfr : env.frame = some L) (hsk : env.scope.kind = .function)
    (hkh : env.kindOf (Str.ofString "_law_heard") = some .globalImplicit) (hg0 : env.globals = mainGlobals) (hcode : env.code = .ref 259) (hcl : closureFor scL_other env = pure [(Str.ofString "other", ca)]) (ht : TriplesOk ps.toList) (hnf : codeAmong pos ps.toList = none)
    (hca : r ca = some oc) (hoc : oc.data = .cell (some (.str (tx l) t))) (hsrc : Src l res)
    (hq : ∀ v h' tk' c' (r2 : PF), (∀ b o, r b = some o → r2 b = some o) → CodesV r2 v res → St g k r2 L ((P, tabObj (ps ++ #[rawInt pos.line, rawInt pos.col, .ref c'])) :: μ) h' m → Q v ⟨h', gn, d, tk', os⟩) :
    wpAny (model PR w) A (eval (.Call (.Name (Str.ofString "_law_heard") p5) [.Lambda noPar (.Call (.Name (Str.ofString "trans_codes") p1) [.Name (Str.ofString "other") p2, .Constant (.int 4000) 0 p3] [] p4) scL_other pos] [] p6) env) Q E ⟨h, gn, d, tk, os⟩ := by
  refine Call_ ?_ rfl
  refine glb_ G S (v := .ref 248) (by k_is) ?_ hsk hkh hg0 (by decide)
  repeat walk_at "m"
  refine mkLam (qual := env.qual) G B C hgP S rfl hcl hg0 hcode rfl ht hnf fun f c' ctv h' tk' r1 hr1 S hf hrec hoc' hfn => ?_
  repeat walk_at "m"
  refine call_ fun R' hr' he' => heard_ok (A := A) (s := ⟨_, _, _, _, _⟩) (fl := [env]) G S.gg (by omega) hh (Stk.law S hfs hfr (by rw [hsk]; intro z; cases z)) (off_law S hfr) f (fun v r' => CodesV r' v res) (res = none) (fun env' h1 tk1 R' hup K hoff hR hRe => lam_codes_other (A := A.deeper env') (s := ⟨h1, _, _, tk1, _⟩) (fl := env' :: [env]) G (fun b o q => hup b o (S.gg b o q)) (by show A.depth + 1 + 10 < _; omega) (by show A.units + 3 + 210 < _; omega) hh K hoff (hup _ _ (S.rr _ _ hf)) (hrec.keeps hup) (hup _ _ (S.rr _ _ (hr1 _ _ hca))) hoc hsrc hR hRe)
    (fun h1 hup => keeps_fn (hup _ _ (S.rr _ _ hf)) rfl) (fun h2 tk2 v r' hP hs2 hr2 hnew => hr' _ _ ?_) (fun h2 tk2 hpe hst hU => hr' _ _ ?_)
  · obtain ⟨r2, h1, h2', S2⟩ := S.join hs2.stays hr2 hnew
    exact hq v _ _ c' r2 (fun b o q => h1 b o (hr1 b o q)) (CodesV.keep h2' hP) S2
  · exact hq .none _ _ c' r1 hr1 (by show CodesV _ _ res; rw [hpe]; rfl) (S.caughtL hfr hst hU)

set_option maxHeartbeats 2000000 in
theorem hear_text_one {w : World} {A : Around} {E : Value → Shared → Prop} {env : Env} {g h : Heap} {k r : PF} {L P : Addr} {μ : List (Addr × Obj)} {m mg mb : Str → Option Value} {gn : Array GenState} {d : Drawn} {tk : Nat} {os : OsState} {ps : Array Value} {Q : Value → Shared → Prop} {ca cb cc : Addr} {oa ob oc : Obj} {l l1 l2 : List Nat} {res1 res2 : Option (List Nat)} {t t1 t2 : Tok} {p1 p2 p3 p4 p5 p6 p7 p8 p9 pos : Pos}
    (G : Gl w mg mb g) (B : BMain mg g) (C : CodeHd g 259 P) (hgP : g.get? P = none) (S : St g k r L ((P, tabObj ps) :: μ) h m) (hh : A.handled = none) (hroom : A.depth + 14 < recursionLimit) (hun : A.units + 330 < cLine) (hfs : A.frames = some [env]) (hfr : env.frame = some L) (hsk : env.scope.kind = .function)
    (hkh : env.kindOf (Str.ofString "_law_heard") = some .globalImplicit) (hg0 : env.globals = mainGlobals) (hcode : env.code = .ref 259) (hcl : closureFor scT_one env = pure [(Str.ofString "text", cc), (Str.ofString "other", cb), (Str.ofString "one", ca)]) (ht : TriplesOk ps.toList) (hnf : codeAmong pos ps.toList = none)
    (hca : r ca = some oa) (hoa : oa.data = .cell (some (.str (tx l1) t1))) (hcb : r cb = some ob) (hob : ob.data = .cell (some (.str (tx l2) t2))) (hcc : r cc = some oc) (hoc : oc.data = .cell (some (.str (tx l) t))) (hs1 : Src l1 res1) (hs2_ : Src l2 res2) (hlen : l.length < 100000)
    (hq : ∀ v h' tk' c' (r2 : PF), (∀ b o, r b = some o → r2 b = some o) → HeardV r2 v (heardOf res1 res2 l) → St g k r2 L ((P, tabObj (ps ++ #[rawInt pos.line, rawInt pos.col, .ref c'])) :: μ) h' m → Q v ⟨h', gn, d, tk', os⟩) :
    wpAny (model PR w) A (eval (.Call (.Name (Str.ofString "_law_heard") p5) [.Lambda noPar (.Call (.Name (Str.ofString "trans_text") p1) [.Name (Str.ofString "text") p2, .Name (Str.ofString "one") p3, .Name (Str.ofString "other") p4, .Constant (.str (Str.ofString "")) 0 p7, .Constant (.int 4000) 0 p8] [] p9) scT_one pos] [] p6) env) Q E ⟨h, gn, d, tk, os⟩ := by
  refine Call_ ?_ rfl
  refine glb_ G S (v := .ref 248) (by k_is) ?_ hsk hkh hg0 (by decide)
  repeat walk_at "m"
  refine mkLam (qual := env.qual) G B C hgP S rfl hcl hg0 hcode rfl ht hnf fun f c' ctv h' tk' r1 hr1 S hf hrec hoc' hfn => ?_
  repeat walk_at "m"
  refine call_ fun R' hr' he' => heard_ok (A := A) (s := ⟨_, _, _, _, _⟩) (fl := [env]) G S.gg (by omega) hh (Stk.law S hfs hfr (by rw [hsk]; intro z; cases z)) (off_law S hfr) f (fun v r' => HeardV r' v (heardOf res1 res2 l)) (heardOf res1 res2 l = none) (fun env' h1 tk1 R' hup K hoff hR hRe => lam_text_one (A := A.deeper env') (s := ⟨h1, _, _, tk1, _⟩) (fl := env' :: [env]) G (fun b o q => hup b o (S.gg b o q)) (by show A.depth + 1 + 12 < _; omega) (by show A.units + 3 + 320 < _; omega) hh K hoff (hup _ _ (S.rr _ _ hf)) (hrec.keeps hup) (hup _ _ (S.rr _ _ (hr1 _ _ hca))) hoa (hup _ _ (S.rr _ _ (hr1 _ _ hcb))) hob (hup _ _ (S.rr _ _ (hr1 _ _ hcc))) hoc hs1 hs2_ hlen hR hRe)
    (fun h1 hup => keeps_fn (hup _ _ (S.rr _ _ hf)) rfl) (fun h2 tk2 v r' hP hs2 hr2 hnew => hr' _ _ ?_) (fun h2 tk2 hpe hst hU => hr' _ _ ?_)
  · obtain ⟨r2, h1, h2', S2⟩ := S.join hs2.stays hr2 hnew
    exact hq v _ _ c' r2 (fun b o q => h1 b o (hr1 b o q)) (HeardV.keep h2' hP) S2
  · exact hq .none _ _ c' r1 hr1 (by show HeardV _ _ (heardOf res1 res2 l); rw [hpe]; rfl) (S.caughtL hfr hst hU)

set_option maxHeartbeats 2000000 in
theorem hear_text_bad {w : World} {A : Around} {E : Value → Shared → Prop} {env : Env} {g h : Heap} {k r : PF} {L P : Addr} {μ : List (Addr × Obj)} {m mg mb : Str → Option Value} {gn : Array GenState} {d : Drawn} {tk : Nat} {os : OsState} {ps : Array Value} {Q : Value → Shared → Prop} {ca cb cc : Addr} {oa ob oc : Obj} {l l1 l2 : List Nat} {res1 res2 : Option (List Nat)} {t t1 t2 : Tok} {p1 p2 p3 p4 p5 p6 p7 p8 p9 pos : Pos}
    (G : Gl w mg mb g) (B : BMain mg g) (C : CodeHd g 259 P) (hgP : g.get? P = none) (S : St g k r L ((P, tabObj ps) :: μ) h m) (hh : A.handled = none) (hroom : A.depth + 14 < recursionLimit) (hun : A.units + 330 < cLine) (hfs : A.frames = some [env]) (hfr : env.frame = some L) (hsk : env.scope.kind = .function)
    (hkh : env.kindOf (Str.ofString "_law_heard") = some .globalImplicit) (hg0 : env.globals = mainGlobals) (hcode : env.code = .ref 259) (hcl : closureFor scT_bad env = pure [(Str.ofString "text", cc), (Str.ofString "other", cb), (Str.ofString "bad", ca)]) (ht : TriplesOk ps.toList) (hnf : codeAmong pos ps.toList = none)
    (hca : r ca = some oa) (hoa : oa.data = .cell (some (.str (tx l1) t1))) (hcb : r cb = some ob) (hob : ob.data = .cell (some (.str (tx l2) t2))) (hcc : r cc = some oc) (hoc : oc.data = .cell (some (.str (tx l) t))) (hs1 : Src l1 res1) (hs2_ : Src l2 res2) (hlen : l.length < 100000)
    (hq : ∀ v h' tk' c' (r2 : PF), (∀ b o, r b = some o → r2 b = some o) → HeardV r2 v (heardOf res1 res2 l) → St g k r2 L ((P, tabObj (ps ++ #[rawInt pos.line, rawInt pos.col, .ref c'])) :: μ) h' m → Q v ⟨h', gn, d, tk', os⟩) :
    wpAny (model PR w) A (eval (.Call (.Name (Str.ofString "_law_heard") p5) [.Lambda noPar (.Call (.Name (Str.ofString "trans_text") p1) [.Name (Str.ofString "text") p2, .Name (Str.ofString "bad") p3, .Name (Str.ofString "other") p4, .Constant (.str (Str.ofString "")) 0 p7, .Constant (.int 4000) 0 p8] [] p9) scT_bad pos] [] p6) env) Q E ⟨h, gn, d, tk, os⟩ := by
  refine Call_ ?_ rfl
  refine glb_ G S (v := .ref 248) (by k_is) ?_ hsk hkh hg0 (by decide)
  repeat walk_at "m"
  refine mkLam (qual := env.qual) G B C hgP S rfl hcl hg0 hcode rfl ht hnf fun f c' ctv h' tk' r1 hr1 S hf hrec hoc' hfn => ?_
  repeat walk_at "m"
  refine call_ fun R' hr' he' => heard_ok (A := A) (s := ⟨_, _, _, _, _⟩) (fl := [env]) G S.gg (by omega) hh (Stk.law S hfs hfr (by rw [hsk]; intro z; cases z)) (off_law S hfr) f (fun v r' => HeardV r' v (heardOf res1 res2 l)) (heardOf res1 res2 l = none) (fun env' h1 tk1 R' hup K hoff hR hRe => lam_text_bad (A := A.deeper env') (s := ⟨h1, _, _, tk1, _⟩) (fl := env' :: [env]) G (fun b o q => hup b o (S.gg b o q)) (by show A.depth + 1 + 12 < _; omega) (by show A.units + 3 + 320 < _; omega) hh K hoff (hup _ _ (S.rr _ _ hf)) (hrec.keeps hup) (hup _ _ (S.rr _ _ (hr1 _ _ hca))) hoa (hup _ _ (S.rr _ _ (hr1 _ _ hcb))) hob (hup _ _ (S.rr _ _ (hr1 _ _ hcc))) hoc hs1 hs2_ hlen hR hRe)
    (fun h1 hup => keeps_fn (hup _ _ (S.rr _ _ hf)) rfl) (fun h2 tk2 v r' hP hs2 hr2 hnew => hr' _ _ ?_) (fun h2 tk2 hpe hst hU => hr' _ _ ?_)
  · obtain ⟨r2, h1, h2', S2⟩ := S.join hs2.stays hr2 hnew
    exact hq v _ _ c' r2 (fun b o q => h1 b o (hr1 b o q)) (HeardV.keep h2' hP) S2
  · exact hq .none _ _ c' r1 hr1 (by show HeardV _ _ (heardOf res1 res2 l); rw [hpe]; rfl) (S.caughtL hfr hst hU)
end

-- T22
section
open PySem PySem.W PyProof.Rows PySem.Calls PyProof.V
/-- what stands after the two lists -/
structure Lw (r : PF) (L la sg1 sg2 : Addr) (us sv1 sv2 : List Value) (sn1 sn2 : Nat) (bs1 bs2 : List Blk) (cv1 cv2 : Value) (tt1 tt2 : Tok) : Prop where
  la : r la = some (lst us 0)
  sg1 : r sg1 = some (lst sv1 sn1)
  sg2 : r sg2 = some (lst sv2 sn2)
  pr1 : Pairs2 r sv1 ((itsOf bs1).map (·.2))
  pr2 : Pairs2 r sv2 ((itsOf bs2).map (·.2))
  cv1 : CodesV r cv1 (codesOf bs1)
  cv2 : CodesV r cv2 (codesOf bs2)
  c1 : ∃ o, r (L + 1 + 1) = some o ∧ o.data = .cell (some (.str (tx (txt bs1)) tt1))
  c2 : ∃ o, r (L + 1 + 2) = some o ∧ o.data = .cell (some (.str (tx (txt bs2)) tt2))
theorem Lw.keep {r r' : PF} {L la sg1 sg2 : Addr} {us sv1 sv2 : List Value} {sn1 sn2 : Nat} {bs1 bs2 : List Blk} {cv1 cv2 : Value} {tt1 tt2 : Tok} (H : Lw r L la sg1 sg2 us sv1 sv2 sn1 sn2 bs1 bs2 cv1 cv2 tt1 tt2) (k : ∀ b o, r b = some o → r' b = some o) : Lw r' L la sg1 sg2 us sv1 sv2 sn1 sn2 bs1 bs2 cv1 cv2 tt1 tt2 where
  la := k _ _ H.la
  sg1 := k _ _ H.sg1
  sg2 := k _ _ H.sg2
  pr1 := H.pr1.keep k
  pr2 := H.pr2.keep k
  cv1 := H.cv1.keep k
  cv2 := H.cv2.keep k
  c1 := let ⟨o, a, b⟩ := H.c1; ⟨o, k _ _ a, b⟩
  c2 := let ⟨o, a, b⟩ := H.c2; ⟨o, k _ _ a, b⟩
theorem bad_a : Str.ofString "\\x{41" = tx [92, 120, 123, 52, 49] := by decide +kernel
theorem bad_b : Str.ofString "\\x{110000}" = tx [92, 120, 123, 49, 49, 48, 48, 48, 48, 125] := by decide +kernel
theorem bad_c : Str.ofString "\\o{4200000}" = tx [92, 111, 123, 52, 50, 48, 48, 48, 48, 48, 125] := by decide +kernel
theorem bad_d : Str.ofString "\\N{U+" = tx [92, 78, 123, 85, 43] := by decide +kernel
theorem bad_e : Str.ofString "z-\\x41" = tx [122, 45, 92, 120, 52, 49] := by decide +kernel
theorem esc_x41 : Esc [92, 120, 52, 49] 65 := .hex2 [52, 49] (by intro c hc; simp only [List.mem_cons, List.not_mem_nil, or_false] at hc; rcases hc with rfl | rfl <;> exact ⟨rfl, by decide⟩) rfl
theorem src_e : Src [122, 45, 92, 120, 52, 49] none := by
  have h := Src.blks [(([122], 122, false), some ([92, 120, 52, 49], 65, true))] (fun b hb => by
    rw [List.mem_singleton.mp hb]
    refine ⟨⟨.plain 122 (by decide) (by decide), by simp⟩, fun j q => ?_⟩
    cases q
    exact ⟨.esc esc_x41, by simp⟩) (by decide)
  exact h
theorem bads {t0 t1 t2 t3 t4 : Tok} {q : Nat} (hq : q < 5) : ∃ l t, ([.str (Str.ofString "\\x{41") t0, .str (Str.ofString "\\x{110000}") t1, .str (Str.ofString "\\o{4200000}") t2, .str (Str.ofString "\\N{U+") t3, .str (Str.ofString "z-\\x41") t4] : List Value)[q]? = some (.str (tx l) t) ∧ Src l none := by
  rw [bad_a, bad_b, bad_c, bad_d, bad_e]
  match q, hq with
  | 0, _ => exact ⟨_, _, rfl, .bad _ .a⟩
  | 1, _ => exact ⟨_, _, rfl, .bad _ .b⟩
  | 2, _ => exact ⟨_, _, rfl, .bad _ .c⟩
  | 3, _ => exact ⟨_, _, rfl, .bad _ .d⟩
  | 4, _ => exact ⟨_, _, rfl, src_e⟩
theorem heard_none {v : Value} {r : PF} {o : Option (List Nat)} {l : List Nat} (h : HeardV r v (heardOf none o l)) : v = .none := by
  cases o <;> exact h
theorem heard_lt {bs1 bs2 : List Blk} {l : List Nat} (h1 : ∀ b ∈ bs1, OkBlk b) (h2 : ∀ b ∈ bs2, OkBlk b) (hl : ∀ c ∈ l, c < 512) : ∀ p, heardOf (codesOf bs1) (codesOf bs2) l = some p → ∀ c ∈ p.1, c < 512 := by
  intro p hp
  cases q1 : codesOf bs1 with
  | none => rw [q1] at hp; cases codesOf bs2 <;> cases hp
  | some cs =>
    cases q2 : codesOf bs2 with
    | none => rw [q1, q2] at hp; cases hp
    | some bs =>
      rw [q1, q2] at hp
      cases hp
      exact turn_lt (codes_len h1 q1).2 (codes_len h2 q2).2 hl
theorem St.nm {g h : Heap} {k r : PF} {L : Addr} {μ : List (Addr × Obj)} {m : Str → Option Value} (S : St g k r L μ h m) : ∃ μ' m', μ' = μ ∧ m' = m ∧ St g k r L μ' h m' := ⟨_, _, rfl, rfl, S⟩
set_option maxHeartbeats 8000000 in
theorem law_ok : LawP := by
  intro w mg mb s sa vs is R G B C h257 hgens hlist hints hlen hR
  have hg : ∀ b o, (gho s.heap).get? b = some o → s.heap.get? b = some o := fun b o e => of_hideAll _ e
  have hgP : (gho s.heap).get? 257 = none := hideAll_none _ (.head _)
  have hvl : vs.length ≤ 63 := by have := IntsAre.length hints; omega
  refine' enterC_ (y := Str.ofString "script") (v := .ref sa) (x1 := Str.ofString "bad") (x2 := Str.ofString "one") (x3 := Str.ofString "other") (x4 := Str.ofString "text") [(257, tabObj #[])] G hg ?hm ?hnd ?ho ?hcd ?hroom ?hbind ?hcells ?hloc ?hx ?h ?c2 ?c3 ?c4
  case hm => intro p hp; rcases List.mem_singleton.mp hp with rfl; exact ⟨h257, hgP⟩
  case hnd => exact .cons (fun _ h => nomatch h) .nil
  case ho => k_is
  case hcd => k_is
  case c2 => rfl
  case c3 => rfl
  case c4 => rfl
  case hroom => decide
  case hbind => exact BindsTo.of_eq rfl
  case hcells => intro n; rfl
  case hloc => rfl
  case hx => decide
  intro L h₁ tk₁ env o1 o2 o3 o4 k r Q E hk hL he hl en hQ hQn d1 d2 d3 d4 S
  obtain ⟨hsk, hgl, hbi, hfr, hkd⟩ := en
  have hcode : env.code = .ref 259 := by rw [he]
  have hkh : env.kindOf (Str.ofString "_law_heard") = some .globalImplicit := hkd _
  have hc1 : env.cells.lookup (Str.ofString "bad") = some (L + 1) ∧ env.kindOf (Str.ofString "bad") = some .cell := ⟨by rw [he]; rfl, hkd _⟩
  have hc2 : env.cells.lookup (Str.ofString "one") = some (L + 1 + 1) ∧ env.kindOf (Str.ofString "one") = some .cell := ⟨by rw [he]; rfl, hkd _⟩
  have hc3 : env.cells.lookup (Str.ofString "other") = some (L + 1 + 2) ∧ env.kindOf (Str.ofString "other") = some .cell := ⟨by rw [he]; rfl, hkd _⟩
  have hc4 : env.cells.lookup (Str.ofString "text") = some (L + 1 + 3) ∧ env.kindOf (Str.ofString "text") = some .cell := ⟨by rw [he]; rfl, hkd _⟩
  have hh : (callerA.deeper env).handled = none := rfl
  have hdp : (callerA.deeper env).depth + 20 < recursionLimit := by show callerA.depth + 1 + 20 < _; decide
  have hun : (callerA.deeper env).units + 400 < cLine := by show callerA.units + 3 + 400 < _; decide
  have hfs : (callerA.deeper env).frames = some [env] := rfl
  generalize callerA.deeper env = A at hh hdp hun hfs ⊢
  repeat walk_at "m"
  refine wpAny_Dict_walk (knd := PySem.strKind PR w) rfl rfl (by intro z; cases z) (by decide) ?_
  replace S := S.push { cls := .type "dict", data := .dict #[] }
  dsimp only
  generalize h₁.objs.size = pa at S ⊢
  generalize h₁.push { cls := .type "dict", data := .dict #[] } = h2 at S ⊢
  refine pairTrees_cons_walk ?_
  repeat walk_at "m"
  refine sliceL (n := 0) S (isList_stays (fun b o e => S.gg b o e) hlist) hints (b := 50) rfl (by omega) (fun h' la us hus S => ?_) ?hs ?ht
  walk_at "mHT"
  obtain ⟨r1, hr1, hla, S⟩ := S.freeze
  have hlp : la ≠ pa := fun q => by have := (S.mu _ (.head _)).2.2.2; rw [← q, hla] at this; cases this
  have hul : us.length ≤ 50 := by have := IntsAre.length hus; rw [this, List.length_take]; omega
  refine pairTrees_cons_walk ?_
  repeat walk_at "m"
  refine pairTrees_nil_walk ?_
  refine dictFin (w := w) (la := la) S (dict0 w h₁) fun h' po hP S => ?_
  repeat walk_at "m"
  refine call_ fun R' hr' _ => list_ok (A := A) (s := ⟨_, _, _, _, _⟩) G S.gg (by omega) hh pa la po us (is.take 50) 0 0 (S.at (.head _)) (S.off (.head _)) hP (S.rr _ _ hla) hus (by omega) (by omega) hlp (fun h2 tk2 po2 p2 ta sg1 r' bs1 sv1 sn1 cv1 tt1 hok1 hbl1 hs2 hp2 hP2 hpp hr2 hnew hta hsg1 hpr1 hcv1 => hr' _ _ ?_)
  obtain ⟨r2, e1, e2, S⟩ := S.back1join hs2 hp2 hr2 hnew
  replace hla := e1 _ _ hla
  replace hsg1 := e2 _ _ hsg1
  replace hpr1 := hpr1.keep e2
  replace hcv1 := hcv1.keep e2
  dsimp only
  refine assignTup S hh (S.rr _ _ (e2 _ _ hta)) rfl rfl (fun h3 S => ?_)
  repeat walk_at "m"
  refine stc_ S.rot d2 (fun h' oc1 r3 hoc1 e3 hcell1 S => ?_) hc2.1 hsk hc2.2
  replace hla := e3 _ _ hla
  replace hsg1 := e3 _ _ hsg1
  replace hpr1 := hpr1.keep e3
  replace hcv1 := hcv1.keep e3
  clear hta hnew hr2 hs2 e1 e2 e3
  repeat walk_at "m"
  refine call_ fun R' hr' _ => list_ok (A := A) (s := ⟨_, _, _, _, _⟩) G S.gg (by omega) hh pa la po2 us (is.take 50) 0 p2 (S.at (.head _)) (S.off (.head _)) hP2 (S.rr _ _ hla) hus (by omega) (by omega) hlp (fun h2 tk2 po3 p3 ta sg2 r' bs2 sv2 sn2 cv2 tt2 hok2 hbl2 hs2 hp3 hP3 hpp3 hr2 hnew hta hsg2 hpr2 hcv2 => hr' _ _ ?_)
  obtain ⟨r2, e1, e2, S⟩ := S.back1join hs2 hp3 hr2 hnew
  replace hla := e1 _ _ hla
  replace hsg1 := e1 _ _ hsg1
  replace hpr1 := hpr1.keep e1
  replace hcv1 := hcv1.keep e1
  replace hcell1 := e1 _ _ hcell1
  replace hsg2 := e2 _ _ hsg2
  replace hpr2 := hpr2.keep e2
  replace hcv2 := hcv2.keep e2
  dsimp only
  refine assignTup S hh (S.rr _ _ (e2 _ _ hta)) rfl rfl (fun h3 S => ?_)
  repeat walk_at "m"
  refine stc_ S.rot d3 (fun h' oc2 r3 hoc2 e3 hcell2 S => ?_) hc3.1 hsk hc3.2
  replace hla := e3 _ _ hla
  replace hsg1 := e3 _ _ hsg1
  replace hpr1 := hpr1.keep e3
  replace hcv1 := hcv1.keep e3
  replace hcell1 := e3 _ _ hcell1
  replace hsg2 := e3 _ _ hsg2
  replace hpr2 := hpr2.keep e3
  replace hcv2 := hcv2.keep e3
  clear hta hnew hr2 hs2 e1 e2 e3
  repeat walk_at "m"
  have H : Lw r3 L la sg1 sg2 us sv1 sv2 sn1 sn2 bs1 bs2 cv1 cv2 tt1 tt2 := ⟨hla, hsg1, hsg2, hpr1, hpr2, hcv1, hcv2, ⟨_, hcell1, hoc1⟩, ⟨_, hcell2, hoc2⟩⟩
  clear hla hsg1 hsg2 hpr1 hpr2 hcv1 hcv2 hcell1 hoc1 hcell2 hoc2
  have hi1 := itsOf_ok hok1
  have hi2 := itsOf_ok hok2
  have hil1 := itsOf_len bs1
  have hil2 := itsOf_len bs2
  have htl1 : (txt bs1).length ≤ 24 * (itsOf bs1).length := its_text_len hok1
  have htl2 : (txt bs2).length ≤ 24 * (itsOf bs2).length := its_text_len hok2
  obtain ⟨oc1, hcell1, hoc1⟩ := H.c1
  refine ldc_ (S.rr _ _ hcell1) hoc1 ?_ hc2.1 hsk hc2.2 (by decide)
  repeat walk_at "m"
  refine call_ fun R' hr' _ => signs_ok (A := A) (s := ⟨_, _, _, _, _⟩) G S.gg (by omega) hh _ (itsOf bs1) _ hi1 rfl (by show (txt bs1).length < _; omega) (by omega) (fun h4 tk4 a4 r' vs4 n4 hs4 hr4 hnew4 ha4 hp4 => hr' _ _ ?_)
  obtain ⟨r4, e1, e2, S⟩ := S.join hs4.stays hr4 hnew4
  replace H := H.keep e1
  replace ha4 := e2 _ _ ha4
  replace hp4 := hp4.keep e2
  clear hs4 hr4 hnew4 hcell1
  dsimp only
  repeat walk_at "m"
  refine neSame (reads_pairs S.rr (S.rr _ _ ha4) hp4) (reads_pairs S.rr (S.rr _ _ H.sg1) H.pr1) (shaped_pairs _) (by omega) ?_
  repeat walk_at "m"
  obtain ⟨oc2, hcell2, hoc2⟩ := H.c2
  refine ldc_ (S.rr _ _ hcell2) hoc2 ?_ hc3.1 hsk hc3.2 (by decide)
  repeat walk_at "m"
  refine call_ fun R' hr' _ => signs_ok (A := A) (s := ⟨_, _, _, _, _⟩) G S.gg (by omega) hh _ (itsOf bs2) _ hi2 rfl (by show (txt bs2).length < _; omega) (by omega) (fun h5 tk5 a5 r' vs5 n5 hs5 hr5 hnew5 ha5 hp5 => hr' _ _ ?_)
  obtain ⟨r5, e1, e2, S⟩ := S.join hs5.stays hr5 hnew5
  replace H := H.keep e1
  replace ha5 := e2 _ _ ha5
  replace hp5 := hp5.keep e2
  clear hs5 hr5 hnew5 hcell2 ha4 hp4 e1 e2
  dsimp only
  repeat walk_at "m"
  refine neSame (reads_pairs S.rr (S.rr _ _ ha5) hp5) (reads_pairs S.rr (S.rr _ _ H.sg2) H.pr2) (shaped_pairs _) (by omega) ?_
  clear ha5 hp5
  iterate 8 walk_at "m"
  replace S := S.rot4
  obtain ⟨oc1, hcell1, hoc1⟩ := H.c1
  refine hear_codes_one (res := codesOf bs1) (ca := L + 1 + 1) G B C hgP S hh (by omega) (by omega) hfs hfr hsk hkh hgl hcode (by rw [he]; rfl) (by kn_triples) (by kn_among) hcell1 hoc1 (.blks bs1 hok1 hbl1) fun v h' tk' c1' r6 e1 hv S => ?_
  replace H := H.keep e1
  clear hcell1 hoc1 oc1 e1
  repeat walk_at "m"
  obtain ⟨as1, ra1⟩ := reads_codes S.rr hv
  obtain ⟨as2, ra2⟩ := reads_codes S.rr H.cv1
  refine neSame ra1 ra2 (shaped_codes _) (by omega) ?_
  clear ra1 ra2 hv
  iterate 4 walk_at "m"
  obtain ⟨oc2, hcell2, hoc2⟩ := H.c2
  refine hear_codes_other (res := codesOf bs2) (ca := L + 1 + 2) G B C hgP S hh (by omega) (by omega) hfs hfr hsk hkh hgl hcode (by rw [he]; rfl) (by kn_triples) (by kn_among) hcell2 hoc2 (.blks bs2 hok2 hbl2) fun v h' tk' c2' r7 e1 hv S => ?_
  replace H := H.keep e1
  clear hcell2 hoc2 oc2 e1
  repeat walk_at "m"
  obtain ⟨as1, ra1⟩ := reads_codes S.rr hv
  obtain ⟨as2, ra2⟩ := reads_codes S.rr H.cv2
  refine neSame ra1 ra2 (shaped_codes _) (by omega) ?_
  clear ra1 ra2 hv
  repeat walk_at "m"
  refine compA G hh S hsk hgl hbi (hkd _) fun D1 h' tk' ov1 on1 hO1 S => ?_
  have hpl1 := H.pr1.len
  have hpl2 := H.pr2.len
  rw [List.length_map] at hpl1 hpl2
  have hcode1 : ∀ i ∈ ((itsOf bs1).map (·.2) ++ (itsOf bs2).map (·.2)), i.1 < 512 := fun i hi => by
    rcases List.mem_append.mp hi with hi | hi
    · obtain ⟨j, hj, rfl⟩ := List.mem_map.mp hi
      exact (hi1 j hj).lt
    · obtain ⟨j, hj, rfl⟩ := List.mem_map.mp hi
      exact (hi2 j hj).lt
  generalize hjs : ((itsOf bs1).map (·.2) ++ (itsOf bs2).map (·.2)) = js at hcode1
  have hjl : js.length ≤ 36 := by rw [← hjs, List.length_append, List.length_map, List.length_map]; omega
  obtain ⟨mu, mm, hmu, hmm, S⟩ := S.nm
  refine compB (g := gho s.heap) (k := k) (r := r7) (L := L) (μ := mu) (m := mm) (gn := s.gens) (d := s.drawn) (os := s.os) G hh hgl hbi ?iter (by intro x; with_unfolding_all rfl)
  case iter =>
    subst hmu
    subst hmm
    repeat walk_at "m"
    refine addLL S (S.rr _ _ H.sg1) (S.rr _ _ H.sg2) (by omega) fun D2 h' S => ?_
    refine ⟨D2, h', _, _, _, js, rfl, rfl, S, ?_, fun i hi => ?_, by omega, fun D3 h' tk' ov2 on2 hO2 S => ?_⟩
    · rw [← hjs]; exact H.pr1.app H.pr2
    · have := hcode1 i hi; omega
    have hol1 := hO1.len
    have hol2 := hO2.len
    rw [List.length_range'] at hol1
    rw [List.length_map] at hol2
    repeat walk_at "m"
    refine addLL S (S.at (.tail _ (.tail _ (.head _)))) (S.at (.head _)) (by omega) fun D4 h' S => ?_
    repeat walk_at "m"
    have hlt0 : ∀ c ∈ List.range' 97 9 ++ js.map (·.1), c < 512 := fun c hc => by
      rcases List.mem_append.mp hc with hc | hc
      · rw [List.mem_range'_1] at hc; omega
      · obtain ⟨j, hj, rfl⟩ := List.mem_map.mp hc
        exact hcode1 j hj
    have hll0 : (List.range' 97 9 ++ js.map (·.1)).length < 1000 := by rw [List.length_append, List.length_range', List.length_map]; omega
    have hO := hO1.app hO2
    generalize (List.range' 97 9 ++ js.map (·.1)) = l0 at hlt0 hll0 hO
    refine joinOnes empty_is (S.at (.head _)) hO (by omega) fun t0 tk' => ?_
    clear hO hO1 hO2 hcode1
    replace S := S.drop.drop.drop.drop.rot4
    refine stc_ S d4 (fun h' oc4 r8 hoc4 e1 hcell4 S => ?_) hc4.1 hsk hc4.2
    replace H := H.keep e1
    clear e1
    walk_at "m"
    obtain ⟨mu, mm, hmu, hmm, S⟩ := S.nm
    refine cut_ (P := fun v s' => ∃ h' tk' r9, s' = ⟨h', s.gens, s.drawn, tk', s.os⟩ ∧ (∀ b o, r8 b = some o → r9 b = some o) ∧ HeardV r9 v (heardOf (codesOf bs1) (codesOf bs2) l0) ∧ St (gho s.heap) k r9 L mu h' mm) ?due ?rest
    case due =>
      subst hmu
      subst hmm
      have v1 := H.cv1
      have v2 := H.cv2
      cases hcd1 : codesOf bs1 with
      | none =>
        rw [hcd1] at v1
        have z1 : cv1 = .none := v1
        rw [z1] at S ⊢
        repeat walk_at "m"
        refine isNone ?_
        repeat walk_at "m"
        exact ⟨_, _, r8, rfl, fun _ _ q => q, by show HeardV _ _ (heardOf none _ _); cases codesOf bs2 <;> rfl, S⟩
      | some cs =>
        rw [hcd1] at v1
        obtain ⟨ca, xs, xn, z1, hca, hna⟩ := v1
        cases hcd2 : codesOf bs2 with
        | none =>
          rw [hcd2] at v2
          have z2 : cv2 = .none := v2
          rw [z1, z2] at S ⊢
          repeat walk_at "m"
          refine isRef ?_
          repeat walk_at "m"
          refine isNone ?_
          repeat walk_at "m"
          exact ⟨_, _, r8, rfl, fun _ _ q => q, rfl, S⟩
        | some bs =>
          rw [hcd2] at v2
          obtain ⟨cb, ys, yn, z2, hcb, hnb⟩ := v2
          have k1 := codes_len hok1 hcd1
          have k2 := codes_len hok2 hcd2
          rw [z1, z2] at S ⊢
          repeat walk_at "m"
          refine isRef ?_
          repeat walk_at "m"
          refine isRef ?_
          repeat walk_at "m"
          refine ldc_ (S.rr _ _ hcell4) hoc4 ?_ hc4.1 hsk hc4.2 (by decide)
          repeat walk_at "m"
          refine call_ fun R' hr' _ => turned_ok (A := A) (s := ⟨_, _, _, _, _⟩) G S.gg (by omega) (by omega) hh ca cb xs ys xn yn cs bs _ l0 _ (S.rr _ _ hca) (S.rr _ _ hcb) hna hnb (by omega) (by omega) k2.2 rfl (by omega) (fun h9 tk9 a9 t9 u9 hs9 hnew9 ha9 => hr' _ _ ?_)
          obtain ⟨r9, e1, e2, S⟩ := ((S.grow hs9.stays).add ha9 (S.fresh hnew9)).freeze
          exact ⟨_, _, r9, rfl, e1, ⟨a9, t9, u9, rfl, e2⟩, S⟩
    case rest =>
      rintro dv s' ⟨h', tk', r9, rfl, e1, hdv, S⟩
      subst hmu
      subst hmm
      replace H := H.keep e1
      replace hcell4 := e1 _ _ hcell4
      iterate 3 walk_at "m"
      refine hear_text_one (res1 := codesOf bs1) (res2 := codesOf bs2) (ca := L + 1 + 1) (cb := L + 1 + 2) (cc := L + 1 + 3) G B C hgP S hh (by omega) (by omega) hfs hfr hsk hkh hgl hcode (by rw [he]; rfl) (by kn_triples) (by kn_among) H.c1.choose_spec.1 H.c1.choose_spec.2 H.c2.choose_spec.1 H.c2.choose_spec.2 hcell4 hoc4 (.blks bs1 hok1 hbl1) (.blks bs2 hok2 hbl2) (by omega) fun v h' tk' c3' r10 e1 hv S => ?_
      replace H := H.keep e1
      replace hcell4 := e1 _ _ hcell4
      replace hdv := hdv.keep e1
      clear e1
      repeat walk_at "m"
      refine neSame (reads_heard S.rr hv) (reads_heard S.rr hdv) (shaped_td (heard_lt hok1 hok2 hlt0)) (by omega) ?_
      clear hv hdv
      repeat walk_at "m"
      refine newList_ S (fun ba h' S => ?_) (Nat.le_of_ble_eq_true rfl)
      repeat walk_at "m"
      replace S := S.rot
      refine call_ fun R' hr' _ => roll_ok (A := A) (s := ⟨_, _, _, _, _⟩) G S.gg (by omega) pa la po3 us (is.take 50) 0 p3 5 _ (S.at (.head _)) (S.off (.head _)) hP3 (S.rr _ _ H.la) hus (by omega) (by omega) (by decide) hlp (fun h11 tk11 po4 tr4 rr hs11 hp4 hP4 hrr => hr' _ _ ?_)
      replace S := S.back1 hs11 hp4
      dsimp only
      obtain ⟨lb, tb, hbx, hsb⟩ := bads hrr
      refine itemL (S.at (.tail _ (.head _))) (i := rr) rfl hbx (by show 5 < 2 ^ 40; decide) ?_ ?hs
      walk_at "mH"
      clear hbx hs11 hp4 hrr
      repeat walk_at "m"
      refine stc_ S.rot4 d1 (fun h' ocb r11 hocb e1 hcellb S => ?_) hc1.1 hsk hc1.2
      replace H := H.keep e1
      replace hcell4 := e1 _ _ hcell4
      clear e1
      replace S := S.rot
      iterate 2 walk_at "m"
      refine hear_text_bad (res1 := none) (res2 := codesOf bs2) (ca := L + 1) (cb := L + 1 + 2) (cc := L + 1 + 3) G B C hgP S hh (by omega) (by omega) hfs hfr hsk hkh hgl hcode (by rw [he]; rfl) (by kn_triples) (by kn_among) hcellb hocb H.c2.choose_spec.1 H.c2.choose_spec.2 hcell4 hoc4 hsb (.blks bs2 hok2 hbl2) (by omega) fun v h' tk' c4' r12 e1 hv S => ?_
      rw [heard_none hv]
      repeat walk_at "m"
      refine isNone ?_
      exact hQ _ _ (hR _ _ (fun b o e => S.gg b o e) ⟨_, S.at (.head _)⟩)
theorem holds : PySem.Challenge.rw_qz0089_01.Holds := holds_of law_ok
end

end Mine
theorem PySem.Challenge.cw_qz0089_01_holds : PySem.Challenge.rw_qz0089_01.Holds :=
  Mine.holds_of Mine.law_ok
