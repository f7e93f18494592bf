import PyProof.Rows.All
import Wide.All
import OpenK.AllK
import Wide.FinOn
import Lean
import PySem.Challenge.RW_nt0537_01
set_option Elab.async false
set_option maxRecDepth 100000
set_option maxHeartbeats 8000000
namespace Mine
noncomputable def stm (k : Nat) : PySem.Stmt := (PySem.W.OpenRow.toRowW (PySem.W.OpenLaw.row PySem.Challenge.rw_nt0537_01)).prog.main.body.getD k (PySem.Stmt.Pass ⟨0, 0, 0, 0⟩)
noncomputable def psOf (k : Nat) : PySem.Arguments := match stm k with
  | .FunctionDef _ ps _ _ _ _ _ _ _ _ => ps
  | _ => ⟨[], [], none, [], [], none, []⟩
noncomputable def bodyOf (k : Nat) : List PySem.Stmt := match stm k with
  | .FunctionDef _ _ b _ _ _ _ _ _ _ => b
  | _ => []
noncomputable def scOf (k : Nat) : PySem.Scope := match stm k with
  | .FunctionDef _ _ _ _ _ _ s _ _ _ => s
  | _ => (PySem.W.OpenRow.toRowW (PySem.W.OpenLaw.row PySem.Challenge.rw_nt0537_01)).prog.main.scope
noncomputable def vw : PySem.Program := let p := (PySem.W.OpenRow.toRowW (PySem.W.OpenLaw.row PySem.Challenge.rw_nt0537_01)).prog; { p with main := { p.main with body := [stm 1, stm 2, stm 3, stm 4, stm 5, stm 6, stm 7, stm 8, stm 9, stm 11, stm 12, stm 13, stm 14, stm 15, stm 16] } }
noncomputable def env0 : PySem.Env := (@PySem.Env.mk (@PySem.Module.scope (@PySem.Program.main ((@PySem.W.OpenRow.toRowW (@PySem.W.OpenLaw.row @PySem.Challenge.rw_nt0537_01))).1)) @PySem.mainNs @PySem.mainNs (@List.nil (@Prod @PySem.Str @PySem.Addr)) @PySem.Str.empty (@Option.none @PySem.Addr) (@PySem.Value.ref 13) (@Option.some @PySem.Addr (@OfNat.ofNat @PySem.Addr (nat_lit 14) (@instOfNatNat (nat_lit 14)))) (@OfNat.ofNat @PySem.Addr (nat_lit 0) (@instOfNatNat (nat_lit 0))))
noncomputable def sts49 : List PySem.Stmt := [stm 0, stm 1]
noncomputable def sts58 : List PySem.Stmt := [stm 2]
noncomputable def sts279 : List PySem.Stmt := [stm 3, stm 4, stm 5, stm 6, stm 7, stm 8, stm 9, stm 10, stm 11, stm 12, stm 13, stm 14, stm 15]
noncomputable def sts359 : List PySem.Stmt := [stm 16]
noncomputable def o43 (P : PySem.Params) : PySem.Obj := (@PySem.Obj.mk (@PySem.Value.type "tuple") (@Option.none @Nat) (@PySem.Data.seq (@List.toArray @PySem.Value (@List.nil @PySem.Value)) 0) (@List.toArray (@Option @PySem.Value) (@List.nil (@Option @PySem.Value))))
noncomputable def o44 (P : PySem.Params) : PySem.Obj := (@PySem.Obj.mk @PySem.Value.none (@Option.none @Nat) (@PySem.Data.fields (@List.toArray @PySem.Value (@List.nil @PySem.Value))) (@List.toArray (@Option @PySem.Value) (@List.nil (@Option @PySem.Value))))
noncomputable def o45 (P : PySem.Params) : PySem.Obj := (@PySem.Obj.mk (@PySem.Value.type "code") (@Option.none @Nat) (@PySem.Data.fields (@List.toArray @PySem.Value (@List.cons @PySem.Value (@PySem.Value.str (PySem.Str.ofString "<module>") 182) (@List.cons @PySem.Value (@PySem.Value.str (PySem.Str.ofString "<module>") 183) (@List.cons @PySem.Value (@PySem.Value.str (PySem.Str.ofString "/claim/cut.py") 184) (@List.cons @PySem.Value (@PySem.Value.int (@OfNat.ofNat @Int (nat_lit 1) (@instOfNat (nat_lit 1))) 0) (@List.cons @PySem.Value (@PySem.Value.int (@OfNat.ofNat @Int (nat_lit 0) (@instOfNat (nat_lit 0))) 0) (@List.cons @PySem.Value (@PySem.Value.int (@OfNat.ofNat @Int (nat_lit 0) (@instOfNat (nat_lit 0))) 0) (@List.cons @PySem.Value (@PySem.Value.int (@OfNat.ofNat @Int (nat_lit 0) (@instOfNat (nat_lit 0))) 0) (@List.cons @PySem.Value (@PySem.Value.int (@OfNat.ofNat @Int (nat_lit 0) (@instOfNat (nat_lit 0))) 0) (@List.cons @PySem.Value (@PySem.Value.ref 11) (@List.cons @PySem.Value (@PySem.Value.bool @Bool.false) (@List.cons @PySem.Value (@PySem.Value.int (@OfNat.ofNat @Int (nat_lit 181) (@instOfNat (nat_lit 181))) 0) (@List.cons @PySem.Value (@PySem.Value.ref 12) (@List.cons @PySem.Value @PySem.Value.none (@List.cons @PySem.Value @PySem.Value.none (@List.cons @PySem.Value @PySem.Value.none (@List.cons @PySem.Value @PySem.Value.none (@List.cons @PySem.Value (@PySem.Value.int (@OfNat.ofNat @Int (nat_lit 185) (@instOfNat (nat_lit 185))) 0) (@List.cons @PySem.Value (@PySem.Value.int (@OfNat.ofNat @Int (nat_lit 1) (@instOfNat (nat_lit 1))) 0) (@List.cons @PySem.Value (@PySem.Value.str (PySem.Str.ofString "/claim/cut.py") 186) (@List.nil @PySem.Value)))))))))))))))))))))) (@List.toArray (@Option @PySem.Value) (@List.nil (@Option @PySem.Value))))
noncomputable def o46 (P : PySem.Params) : PySem.Obj := (@PySem.Obj.mk (@PySem.Value.type "frame") (@Option.none @Nat) @PySem.Data.plain (@List.toArray (@Option @PySem.Value) (@List.cons (@Option @PySem.Value) (@Option.some @PySem.Value (@PySem.Value.ref 13)) (@List.cons (@Option @PySem.Value) (@Option.some @PySem.Value (@PySem.Value.ref 3)) (@List.cons (@Option @PySem.Value) (@Option.some @PySem.Value (@PySem.Value.ref 3)) (@List.cons (@Option @PySem.Value) (@Option.none @PySem.Value) (@List.cons (@Option @PySem.Value) (@Option.some @PySem.Value (@PySem.Value.str (PySem.Str.ofString "__main__") 164)) (@List.cons (@Option @PySem.Value) (@Option.none @PySem.Value) (@List.cons (@Option @PySem.Value) (@Option.some @PySem.Value (@PySem.Value.ref 0)) (@List.nil (@Option @PySem.Value)))))))))))
noncomputable def o49 (P : PySem.Params) : PySem.Obj := (@PySem.Obj.mk (@PySem.Value.type "dict") (@Option.none @Nat) (@PySem.Data.dict (@List.toArray @PySem.DictEntry (@List.cons @PySem.DictEntry (@PySem.DictEntry.mk (@PySem.PyData.keyHash P (PySem.Str.ofString "__name__")) (@PySem.Value.str (PySem.Str.ofString "__name__") 165) (@PySem.Value.str (PySem.Str.ofString "pixelpress.zigzag") 187)) (@List.cons @PySem.DictEntry (@PySem.DictEntry.mk (@PySem.PyData.keyHash P (PySem.Str.ofString "__doc__")) (@PySem.Value.str (PySem.Str.ofString "__doc__") 166) @PySem.Value.none) (@List.cons @PySem.DictEntry (@PySem.DictEntry.mk (@PySem.PyData.keyHash P (PySem.Str.ofString "__package__")) (@PySem.Value.str (PySem.Str.ofString "__package__") 167) @PySem.Value.none) (@List.cons @PySem.DictEntry (@PySem.DictEntry.mk (@PySem.PyData.keyHash P (PySem.Str.ofString "__loader__")) (@PySem.Value.str (PySem.Str.ofString "__loader__") 168) (@PySem.Value.builtin "__main__.__loader__#opaque")) (@List.cons @PySem.DictEntry (@PySem.DictEntry.mk (@PySem.PyData.keyHash P (PySem.Str.ofString "__spec__")) (@PySem.Value.str (PySem.Str.ofString "__spec__") 169) @PySem.Value.none) (@List.cons @PySem.DictEntry (@PySem.DictEntry.mk (@PySem.PyData.keyHash P (PySem.Str.ofString "__annotations__")) (@PySem.Value.str (PySem.Str.ofString "__annotations__") 170) (@PySem.Value.ref 6)) (@List.cons @PySem.DictEntry (@PySem.DictEntry.mk (@PySem.PyData.keyHash P (PySem.Str.ofString "__builtins__")) (@PySem.Value.str (PySem.Str.ofString "__builtins__") 171) (@PySem.Value.ref 4)) (@List.cons @PySem.DictEntry (@PySem.DictEntry.mk (@PySem.PyData.keyHash P (PySem.Str.ofString "__file__")) (@PySem.Value.str (PySem.Str.ofString "__file__") 173) (@PySem.Value.str (PySem.Str.ofString "/claim/cut.py") 172)) (@List.cons @PySem.DictEntry (@PySem.DictEntry.mk (@PySem.PyData.keyHash P (PySem.Str.ofString "__cached__")) (@PySem.Value.str (PySem.Str.ofString "__cached__") 174) @PySem.Value.none) (@List.cons @PySem.DictEntry (@PySem.DictEntry.mk (@PySem.PyData.keyHash P (PySem.Str.ofString "zigzag_places")) (@PySem.Value.str (PySem.Str.ofString "zigzag_places") 201) (@PySem.Value.ref 21)) (@List.nil @PySem.DictEntry)))))))))))) 10) (@List.toArray (@Option @PySem.Value) (@List.nil (@Option @PySem.Value))))
noncomputable def o50 (P : PySem.Params) : PySem.Obj := (@PySem.Obj.mk @PySem.Value.none (@Option.none @Nat) (@PySem.Data.fields (@List.toArray @PySem.Value (@List.cons @PySem.Value (@PySem.Value.int (@OfNat.ofNat @Int (nat_lit 2) (@instOfNat (nat_lit 2))) 0) (@List.cons @PySem.Value (@PySem.Value.int (@OfNat.ofNat @Int (nat_lit 0) (@instOfNat (nat_lit 0))) 0) (@List.cons @PySem.Value (@PySem.Value.ref 20) (@List.nil @PySem.Value)))))) (@List.toArray (@Option @PySem.Value) (@List.nil (@Option @PySem.Value))))
noncomputable def o51 (P : PySem.Params) : PySem.Obj := (@PySem.Obj.mk (@PySem.Value.type "tuple") (@Option.none @Nat) (@PySem.Data.seq (@List.toArray @PySem.Value (@List.nil @PySem.Value)) 0) (@List.toArray (@Option @PySem.Value) (@List.nil (@Option @PySem.Value))))
noncomputable def o52 (P : PySem.Params) : PySem.Obj := (@PySem.Obj.mk @PySem.Value.none (@Option.none @Nat) (@PySem.Data.fields (@List.toArray @PySem.Value (@List.nil @PySem.Value))) (@List.toArray (@Option @PySem.Value) (@List.nil (@Option @PySem.Value))))
noncomputable def o53 (P : PySem.Params) : PySem.Obj := (@PySem.Obj.mk (@PySem.Value.type "tuple") (@Option.none @Nat) (@PySem.Data.seq (@List.toArray @PySem.Value (@List.cons @PySem.Value (@PySem.Value.str (PySem.Str.ofString "n") 192) (@List.cons @PySem.Value (@PySem.Value.str (PySem.Str.ofString "found") 193) (@List.cons @PySem.Value (@PySem.Value.str (PySem.Str.ofString "total") 194) (@List.cons @PySem.Value (@PySem.Value.str (PySem.Str.ofString "low") 195) (@List.cons @PySem.Value (@PySem.Value.str (PySem.Str.ofString "high") 196) (@List.cons @PySem.Value (@PySem.Value.str (PySem.Str.ofString "rows") 197) (@List.cons @PySem.Value (@PySem.Value.str (PySem.Str.ofString "y") 198) (@List.nil @PySem.Value))))))))) 0) (@List.toArray (@Option @PySem.Value) (@List.nil (@Option @PySem.Value))))
noncomputable def o54 (P : PySem.Params) : PySem.Obj := (@PySem.Obj.mk (@PySem.Value.type "tuple") (@Option.none @Nat) (@PySem.Data.seq (@List.toArray @PySem.Value (@List.nil @PySem.Value)) 0) (@List.toArray (@Option @PySem.Value) (@List.nil (@Option @PySem.Value))))
noncomputable def o55 (P : PySem.Params) : PySem.Obj := (@PySem.Obj.mk @PySem.Value.none (@Option.none @Nat) (@PySem.Data.func (@PySem.FuncData.mk (PySem.Str.ofString "zigzag_places") (PySem.Str.ofString "zigzag_places") (Mine.psOf 1) (@PySem.FuncBody.stmts (Mine.bodyOf 1)) (Mine.scOf 1) 0 (@List.nil (@Prod @PySem.Str @Nat)) @PySem.Value.none @PySem.Value.none @PySem.Value.none @PySem.Value.none (@Option.none @Nat) @PySem.Value.none @PySem.Value.none 0)) (@List.toArray (@Option @PySem.Value) (@List.nil (@Option @PySem.Value))))
noncomputable def o56 (P : PySem.Params) : PySem.Obj := (@PySem.Obj.mk (@PySem.Value.type "code") (@Option.none @Nat) (@PySem.Data.fields (@List.toArray @PySem.Value (@List.cons @PySem.Value (@PySem.Value.str (PySem.Str.ofString "zigzag_places") 189) (@List.cons @PySem.Value (@PySem.Value.str (PySem.Str.ofString "zigzag_places") 190) (@List.cons @PySem.Value (@PySem.Value.str (PySem.Str.ofString "/claim/cut.py") 191) (@List.cons @PySem.Value (@PySem.Value.int (@OfNat.ofNat @Int (nat_lit 2) (@instOfNat (nat_lit 2))) 0) (@List.cons @PySem.Value (@PySem.Value.int (@OfNat.ofNat @Int (nat_lit 1) (@instOfNat (nat_lit 1))) 0) (@List.cons @PySem.Value (@PySem.Value.int (@OfNat.ofNat @Int (nat_lit 0) (@instOfNat (nat_lit 0))) 0) (@List.cons @PySem.Value (@PySem.Value.int (@OfNat.ofNat @Int (nat_lit 0) (@instOfNat (nat_lit 0))) 0) (@List.cons @PySem.Value (@PySem.Value.int (@OfNat.ofNat @Int (nat_lit 3) (@instOfNat (nat_lit 3))) 0) (@List.cons @PySem.Value (@PySem.Value.ref 15) (@List.cons @PySem.Value (@PySem.Value.bool @Bool.true) (@List.cons @PySem.Value (@PySem.Value.int (@OfNat.ofNat @Int (nat_lit 181) (@instOfNat (nat_lit 181))) 0) (@List.cons @PySem.Value (@PySem.Value.ref 16) (@List.cons @PySem.Value @PySem.Value.none (@List.cons @PySem.Value (@PySem.Value.ref 17) (@List.cons @PySem.Value (@PySem.Value.ref 18) (@List.cons @PySem.Value (@PySem.Value.ref 19) (@List.cons @PySem.Value (@PySem.Value.int (@OfNat.ofNat @Int (nat_lit 199) (@instOfNat (nat_lit 199))) 0) (@List.cons @PySem.Value (@PySem.Value.int (@OfNat.ofNat @Int (nat_lit 2) (@instOfNat (nat_lit 2))) 0) (@List.cons @PySem.Value (@PySem.Value.str (PySem.Str.ofString "/claim/cut.py") 200) (@List.nil @PySem.Value)))))))))))))))))))))) (@List.toArray (@Option @PySem.Value) (@List.nil (@Option @PySem.Value))))
noncomputable def o57 (P : PySem.Params) : PySem.Obj := (@PySem.Obj.mk (@PySem.Value.type "function") (@Option.none @Nat) (@PySem.Data.func (@PySem.FuncData.mk (PySem.Str.ofString "zigzag_places") (PySem.Str.ofString "zigzag_places") (Mine.psOf 1) (@PySem.FuncBody.stmts (Mine.bodyOf 1)) (Mine.scOf 1) 3 (@List.nil (@Prod @PySem.Str @Nat)) @PySem.Value.none @PySem.Value.none @PySem.Value.none (@PySem.Value.str (PySem.Str.ofString "pixelpress.zigzag") 187) (@Option.none @Nat) (@PySem.Value.ref 20) @PySem.Value.none 0)) (@List.toArray (@Option @PySem.Value) (@List.nil (@Option @PySem.Value))))
noncomputable def o58 (P : PySem.Params) : PySem.Obj := (@PySem.Obj.mk (@PySem.Value.type "dict") (@Option.none @Nat) (@PySem.Data.dict (@List.toArray @PySem.DictEntry (@List.cons @PySem.DictEntry (@PySem.DictEntry.mk (@PySem.PyData.keyHash P (PySem.Str.ofString "__name__")) (@PySem.Value.str (PySem.Str.ofString "__name__") 165) (@PySem.Value.str (PySem.Str.ofString "pixelpress.zigzag") 187)) (@List.cons @PySem.DictEntry (@PySem.DictEntry.mk (@PySem.PyData.keyHash P (PySem.Str.ofString "__doc__")) (@PySem.Value.str (PySem.Str.ofString "__doc__") 166) @PySem.Value.none) (@List.cons @PySem.DictEntry (@PySem.DictEntry.mk (@PySem.PyData.keyHash P (PySem.Str.ofString "__package__")) (@PySem.Value.str (PySem.Str.ofString "__package__") 167) @PySem.Value.none) (@List.cons @PySem.DictEntry (@PySem.DictEntry.mk (@PySem.PyData.keyHash P (PySem.Str.ofString "__loader__")) (@PySem.Value.str (PySem.Str.ofString "__loader__") 168) (@PySem.Value.builtin "__main__.__loader__#opaque")) (@List.cons @PySem.DictEntry (@PySem.DictEntry.mk (@PySem.PyData.keyHash P (PySem.Str.ofString "__spec__")) (@PySem.Value.str (PySem.Str.ofString "__spec__") 169) @PySem.Value.none) (@List.cons @PySem.DictEntry (@PySem.DictEntry.mk (@PySem.PyData.keyHash P (PySem.Str.ofString "__annotations__")) (@PySem.Value.str (PySem.Str.ofString "__annotations__") 170) (@PySem.Value.ref 6)) (@List.cons @PySem.DictEntry (@PySem.DictEntry.mk (@PySem.PyData.keyHash P (PySem.Str.ofString "__builtins__")) (@PySem.Value.str (PySem.Str.ofString "__builtins__") 171) (@PySem.Value.ref 4)) (@List.cons @PySem.DictEntry (@PySem.DictEntry.mk (@PySem.PyData.keyHash P (PySem.Str.ofString "__file__")) (@PySem.Value.str (PySem.Str.ofString "__file__") 173) (@PySem.Value.str (PySem.Str.ofString "/claim/cut.py") 172)) (@List.cons @PySem.DictEntry (@PySem.DictEntry.mk (@PySem.PyData.keyHash P (PySem.Str.ofString "__cached__")) (@PySem.Value.str (PySem.Str.ofString "__cached__") 174) @PySem.Value.none) (@List.cons @PySem.DictEntry (@PySem.DictEntry.mk (@PySem.PyData.keyHash P (PySem.Str.ofString "zigzag_places")) (@PySem.Value.str (PySem.Str.ofString "zigzag_places") 201) (@PySem.Value.ref 21)) (@List.cons @PySem.DictEntry (@PySem.DictEntry.mk (@PySem.PyData.keyHash P (PySem.Str.ofString "ORDER_8")) (@PySem.Value.str (PySem.Str.ofString "ORDER_8") 794) (@PySem.Value.ref 239)) (@List.nil @PySem.DictEntry))))))))))))) 11) (@List.toArray (@Option @PySem.Value) (@List.nil (@Option @PySem.Value))))
noncomputable def o59 (P : PySem.Params) : PySem.Obj := (@PySem.Obj.mk (@PySem.Value.type "frame") (@Option.none @Nat) (@PySem.Data.dict (@List.toArray @PySem.DictEntry (@List.cons @PySem.DictEntry (@PySem.DictEntry.mk (@PySem.PyData.keyHash P (PySem.Str.ofString "n")) (@PySem.Value.str (PySem.Str.ofString "n") 203) (@PySem.Value.int (@OfNat.ofNat @Int (nat_lit 8) (@instOfNat (nat_lit 8))) 202)) (@List.cons @PySem.DictEntry (@PySem.DictEntry.mk (@PySem.PyData.keyHash P (PySem.Str.ofString "found")) (@PySem.Value.str (PySem.Str.ofString "found") 204) (@PySem.Value.ref 23)) (@List.cons @PySem.DictEntry (@PySem.DictEntry.mk (@PySem.PyData.keyHash P (PySem.Str.ofString "total")) (@PySem.Value.str (PySem.Str.ofString "total") 212) (@PySem.Value.int (@OfNat.ofNat @Int (nat_lit 14) (@instOfNat (nat_lit 14))) 771)) (@List.cons @PySem.DictEntry (@PySem.DictEntry.mk (@PySem.PyData.keyHash P (PySem.Str.ofString "low")) (@PySem.Value.str (PySem.Str.ofString "low") 217) (@PySem.Value.int (@OfNat.ofNat @Int (nat_lit 7) (@instOfNat (nat_lit 7))) 776)) (@List.cons @PySem.DictEntry (@PySem.DictEntry.mk (@PySem.PyData.keyHash P (PySem.Str.ofString "high")) (@PySem.Value.str (PySem.Str.ofString "high") 220) (@PySem.Value.int (@OfNat.ofNat @Int (nat_lit 7) (@instOfNat (nat_lit 7))) 779)) (@List.cons @PySem.DictEntry (@PySem.DictEntry.mk (@PySem.PyData.keyHash P (PySem.Str.ofString "rows")) (@PySem.Value.str (PySem.Str.ofString "rows") 228) (@PySem.Value.ref 232)) (@List.cons @PySem.DictEntry (@PySem.DictEntry.mk (@PySem.PyData.keyHash P (PySem.Str.ofString "y")) (@PySem.Value.str (PySem.Str.ofString "y") 230) (@PySem.Value.int (@OfNat.ofNat @Int (nat_lit 7) (@instOfNat (nat_lit 7))) 789)) (@List.nil @PySem.DictEntry))))))))) 7) (@List.toArray (@Option @PySem.Value) (@List.nil (@Option @PySem.Value))))
noncomputable def o60 (P : PySem.Params) : PySem.Obj := (@PySem.Obj.mk (@PySem.Value.type "list") (@Option.none @Nat) (@PySem.Data.seq (@List.toArray @PySem.Value (@List.cons @PySem.Value (@PySem.Value.int (@OfNat.ofNat @Int (nat_lit 0) (@instOfNat (nat_lit 0))) 233) (@List.cons @PySem.Value (@PySem.Value.int (@OfNat.ofNat @Int (nat_lit 1) (@instOfNat (nat_lit 1))) 255) (@List.cons @PySem.Value (@PySem.Value.int (@OfNat.ofNat @Int (nat_lit 8) (@instOfNat (nat_lit 8))) 260) (@List.cons @PySem.Value (@PySem.Value.int (@OfNat.ofNat @Int (nat_lit 16) (@instOfNat (nat_lit 16))) 283) (@List.cons @PySem.Value (@PySem.Value.int (@OfNat.ofNat @Int (nat_lit 9) (@instOfNat (nat_lit 9))) 288) (@List.cons @PySem.Value (@PySem.Value.int (@OfNat.ofNat @Int (nat_lit 2) (@instOfNat (nat_lit 2))) 293) (@List.cons @PySem.Value (@PySem.Value.int (@OfNat.ofNat @Int (nat_lit 3) (@instOfNat (nat_lit 3))) 315) (@List.cons @PySem.Value (@PySem.Value.int (@OfNat.ofNat @Int (nat_lit 10) (@instOfNat (nat_lit 10))) 320) (@List.cons @PySem.Value (@PySem.Value.int (@OfNat.ofNat @Int (nat_lit 17) (@instOfNat (nat_lit 17))) 325) (@List.cons @PySem.Value (@PySem.Value.int (@OfNat.ofNat @Int (nat_lit 24) (@instOfNat (nat_lit 24))) 330) (@List.cons @PySem.Value (@PySem.Value.int (@OfNat.ofNat @Int (nat_lit 32) (@instOfNat (nat_lit 32))) 353) (@List.cons @PySem.Value (@PySem.Value.int (@OfNat.ofNat @Int (nat_lit 25) (@instOfNat (nat_lit 25))) 358) (@List.cons @PySem.Value (@PySem.Value.int (@OfNat.ofNat @Int (nat_lit 18) (@instOfNat (nat_lit 18))) 363) (@List.cons @PySem.Value (@PySem.Value.int (@OfNat.ofNat @Int (nat_lit 11) (@instOfNat (nat_lit 11))) 368) (@List.cons @PySem.Value (@PySem.Value.int (@OfNat.ofNat @Int (nat_lit 4) (@instOfNat (nat_lit 4))) 373) (@List.cons @PySem.Value (@PySem.Value.int (@OfNat.ofNat @Int (nat_lit 5) (@instOfNat (nat_lit 5))) 395) (@List.cons @PySem.Value (@PySem.Value.int (@OfNat.ofNat @Int (nat_lit 12) (@instOfNat (nat_lit 12))) 400) (@List.cons @PySem.Value (@PySem.Value.int (@OfNat.ofNat @Int (nat_lit 19) (@instOfNat (nat_lit 19))) 405) (@List.cons @PySem.Value (@PySem.Value.int (@OfNat.ofNat @Int (nat_lit 26) (@instOfNat (nat_lit 26))) 410) (@List.cons @PySem.Value (@PySem.Value.int (@OfNat.ofNat @Int (nat_lit 33) (@instOfNat (nat_lit 33))) 415) (@List.cons @PySem.Value (@PySem.Value.int (@OfNat.ofNat @Int (nat_lit 40) (@instOfNat (nat_lit 40))) 420) (@List.cons @PySem.Value (@PySem.Value.int (@OfNat.ofNat @Int (nat_lit 48) (@instOfNat (nat_lit 48))) 443) (@List.cons @PySem.Value (@PySem.Value.int (@OfNat.ofNat @Int (nat_lit 41) (@instOfNat (nat_lit 41))) 448) (@List.cons @PySem.Value (@PySem.Value.int (@OfNat.ofNat @Int (nat_lit 34) (@instOfNat (nat_lit 34))) 453) (@List.cons @PySem.Value (@PySem.Value.int (@OfNat.ofNat @Int (nat_lit 27) (@instOfNat (nat_lit 27))) 458) (@List.cons @PySem.Value (@PySem.Value.int (@OfNat.ofNat @Int (nat_lit 20) (@instOfNat (nat_lit 20))) 463) (@List.cons @PySem.Value (@PySem.Value.int (@OfNat.ofNat @Int (nat_lit 13) (@instOfNat (nat_lit 13))) 468) (@List.cons @PySem.Value (@PySem.Value.int (@OfNat.ofNat @Int (nat_lit 6) (@instOfNat (nat_lit 6))) 473) (@List.cons @PySem.Value (@PySem.Value.int (@OfNat.ofNat @Int (nat_lit 7) (@instOfNat (nat_lit 7))) 495) (@List.cons @PySem.Value (@PySem.Value.int (@OfNat.ofNat @Int (nat_lit 14) (@instOfNat (nat_lit 14))) 500) (@List.cons @PySem.Value (@PySem.Value.int (@OfNat.ofNat @Int (nat_lit 21) (@instOfNat (nat_lit 21))) 505) (@List.cons @PySem.Value (@PySem.Value.int (@OfNat.ofNat @Int (nat_lit 28) (@instOfNat (nat_lit 28))) 510) (@List.cons @PySem.Value (@PySem.Value.int (@OfNat.ofNat @Int (nat_lit 35) (@instOfNat (nat_lit 35))) 515) (@List.cons @PySem.Value (@PySem.Value.int (@OfNat.ofNat @Int (nat_lit 42) (@instOfNat (nat_lit 42))) 520) (@List.cons @PySem.Value (@PySem.Value.int (@OfNat.ofNat @Int (nat_lit 49) (@instOfNat (nat_lit 49))) 525) (@List.cons @PySem.Value (@PySem.Value.int (@OfNat.ofNat @Int (nat_lit 56) (@instOfNat (nat_lit 56))) 530) (@List.cons @PySem.Value (@PySem.Value.int (@OfNat.ofNat @Int (nat_lit 57) (@instOfNat (nat_lit 57))) 553) (@List.cons @PySem.Value (@PySem.Value.int (@OfNat.ofNat @Int (nat_lit 50) (@instOfNat (nat_lit 50))) 558) (@List.cons @PySem.Value (@PySem.Value.int (@OfNat.ofNat @Int (nat_lit 43) (@instOfNat (nat_lit 43))) 563) (@List.cons @PySem.Value (@PySem.Value.int (@OfNat.ofNat @Int (nat_lit 36) (@instOfNat (nat_lit 36))) 568) (@List.cons @PySem.Value (@PySem.Value.int (@OfNat.ofNat @Int (nat_lit 29) (@instOfNat (nat_lit 29))) 573) (@List.cons @PySem.Value (@PySem.Value.int (@OfNat.ofNat @Int (nat_lit 22) (@instOfNat (nat_lit 22))) 578) (@List.cons @PySem.Value (@PySem.Value.int (@OfNat.ofNat @Int (nat_lit 15) (@instOfNat (nat_lit 15))) 583) (@List.cons @PySem.Value (@PySem.Value.int (@OfNat.ofNat @Int (nat_lit 23) (@instOfNat (nat_lit 23))) 605) (@List.cons @PySem.Value (@PySem.Value.int (@OfNat.ofNat @Int (nat_lit 30) (@instOfNat (nat_lit 30))) 610) (@List.cons @PySem.Value (@PySem.Value.int (@OfNat.ofNat @Int (nat_lit 37) (@instOfNat (nat_lit 37))) 615) (@List.cons @PySem.Value (@PySem.Value.int (@OfNat.ofNat @Int (nat_lit 44) (@instOfNat (nat_lit 44))) 620) (@List.cons @PySem.Value (@PySem.Value.int (@OfNat.ofNat @Int (nat_lit 51) (@instOfNat (nat_lit 51))) 625) (@List.cons @PySem.Value (@PySem.Value.int (@OfNat.ofNat @Int (nat_lit 58) (@instOfNat (nat_lit 58))) 630) (@List.cons @PySem.Value (@PySem.Value.int (@OfNat.ofNat @Int (nat_lit 59) (@instOfNat (nat_lit 59))) 653) (@List.cons @PySem.Value (@PySem.Value.int (@OfNat.ofNat @Int (nat_lit 52) (@instOfNat (nat_lit 52))) 658) (@List.cons @PySem.Value (@PySem.Value.int (@OfNat.ofNat @Int (nat_lit 45) (@instOfNat (nat_lit 45))) 663) (@List.cons @PySem.Value (@PySem.Value.int (@OfNat.ofNat @Int (nat_lit 38) (@instOfNat (nat_lit 38))) 668) (@List.cons @PySem.Value (@PySem.Value.int (@OfNat.ofNat @Int (nat_lit 31) (@instOfNat (nat_lit 31))) 673) (@List.cons @PySem.Value (@PySem.Value.int (@OfNat.ofNat @Int (nat_lit 39) (@instOfNat (nat_lit 39))) 695) (@List.cons @PySem.Value (@PySem.Value.int (@OfNat.ofNat @Int (nat_lit 46) (@instOfNat (nat_lit 46))) 700) (@List.cons @PySem.Value (@PySem.Value.int (@OfNat.ofNat @Int (nat_lit 53) (@instOfNat (nat_lit 53))) 705) (@List.cons @PySem.Value (@PySem.Value.int (@OfNat.ofNat @Int (nat_lit 60) (@instOfNat (nat_lit 60))) 710) (@List.cons @PySem.Value (@PySem.Value.int (@OfNat.ofNat @Int (nat_lit 61) (@instOfNat (nat_lit 61))) 733) (@List.cons @PySem.Value (@PySem.Value.int (@OfNat.ofNat @Int (nat_lit 54) (@instOfNat (nat_lit 54))) 738) (@List.cons @PySem.Value (@PySem.Value.int (@OfNat.ofNat @Int (nat_lit 47) (@instOfNat (nat_lit 47))) 743) (@List.cons @PySem.Value (@PySem.Value.int (@OfNat.ofNat @Int (nat_lit 55) (@instOfNat (nat_lit 55))) 765) (@List.cons @PySem.Value (@PySem.Value.int (@OfNat.ofNat @Int (nat_lit 62) (@instOfNat (nat_lit 62))) 770) (@List.cons @PySem.Value (@PySem.Value.int (@OfNat.ofNat @Int (nat_lit 63) (@instOfNat (nat_lit 63))) 793) (@List.nil @PySem.Value)))))))))))))))))))))))))))))))))))))))))))))))))))))))))))))))))) 64) (@List.toArray (@Option @PySem.Value) (@List.nil (@Option @PySem.Value))))
noncomputable def o61 (P : PySem.Params) : PySem.Obj := (@PySem.Obj.mk (@PySem.Value.type "range") (@Option.none @Nat) (@PySem.Data.fields (@List.toArray @PySem.Value (@List.cons @PySem.Value (@PySem.Value.int (@OfNat.ofNat @Int (nat_lit 0) (@instOfNat (nat_lit 0))) 209) (@List.cons @PySem.Value (@PySem.Value.int (@OfNat.ofNat @Int (nat_lit 15) (@instOfNat (nat_lit 15))) 208) (@List.cons @PySem.Value (@PySem.Value.int (@OfNat.ofNat @Int (nat_lit 1) (@instOfNat (nat_lit 1))) 210) (@List.nil @PySem.Value)))))) (@List.toArray (@Option @PySem.Value) (@List.nil (@Option @PySem.Value))))
noncomputable def o62 (P : PySem.Params) : PySem.Obj := (@PySem.Obj.mk (@PySem.Value.type "range_iterator") (@Option.none @Nat) (@PySem.Data.fields (@List.toArray @PySem.Value (@List.cons @PySem.Value (@PySem.Value.int (@OfNat.ofNat @Int (nat_lit 15) (@instOfNat (nat_lit 15))) 0) (@List.cons @PySem.Value (@PySem.Value.int (@OfNat.ofNat @Int (nat_lit 0) (@instOfNat (nat_lit 0))) 0) (@List.cons @PySem.Value (@PySem.Value.int (@OfNat.ofNat @Int (nat_lit 1) (@instOfNat (nat_lit 1))) 0) (@List.nil @PySem.Value)))))) (@List.toArray (@Option @PySem.Value) (@List.nil (@Option @PySem.Value))))
noncomputable def o63 (P : PySem.Params) : PySem.Obj := (@PySem.Obj.mk (@PySem.Value.type "tuple") (@Option.none @Nat) (@PySem.Data.seq (@List.toArray @PySem.Value (@List.cons @PySem.Value (@PySem.Value.int (@OfNat.ofNat @Int (nat_lit 0) (@instOfNat (nat_lit 0))) 213) (@List.cons @PySem.Value (@PySem.Value.int (@Neg.neg @Int @Int.instNegInt (@OfNat.ofNat @Int (nat_lit 7) (@instOfNat (nat_lit 7)))) 216) (@List.nil @PySem.Value)))) 0) (@List.toArray (@Option @PySem.Value) (@List.nil (@Option @PySem.Value))))
noncomputable def o64 (P : PySem.Params) : PySem.Obj := (@PySem.Obj.mk (@PySem.Value.type "tuple_iterator") (@Option.none @Nat) (@PySem.Data.fields (@List.toArray @PySem.Value (@List.cons @PySem.Value @PySem.Value.none (@List.cons @PySem.Value (@PySem.Value.int (@OfNat.ofNat @Int (nat_lit 2) (@instOfNat (nat_lit 2))) 0) (@List.nil @PySem.Value))))) (@List.toArray (@Option @PySem.Value) (@List.nil (@Option @PySem.Value))))
noncomputable def o65 (P : PySem.Params) : PySem.Obj := (@PySem.Obj.mk (@PySem.Value.type "list") (@Option.none @Nat) (@PySem.Data.seq (@List.toArray @PySem.Value (@List.nil @PySem.Value)) 2) (@List.toArray (@Option @PySem.Value) (@List.nil (@Option @PySem.Value))))
noncomputable def o66 (P : PySem.Params) : PySem.Obj := (@PySem.Obj.mk (@PySem.Value.type "tuple") (@Option.none @Nat) (@PySem.Data.seq (@List.toArray @PySem.Value (@List.nil @PySem.Value)) 0) (@List.toArray (@Option @PySem.Value) (@List.nil (@Option @PySem.Value))))
noncomputable def o67 (P : PySem.Params) : PySem.Obj := (@PySem.Obj.mk (@PySem.Value.type "StopIteration") (@Option.none @Nat) (@PySem.Data.fields (@List.toArray @PySem.Value (@List.cons @PySem.Value (@PySem.Value.ref 29) (@List.cons @PySem.Value @PySem.Value.none (@List.cons @PySem.Value @PySem.Value.none (@List.cons @PySem.Value @PySem.Value.none (@List.cons @PySem.Value (@PySem.Value.bool @Bool.false) (@List.cons @PySem.Value @PySem.Value.none (@List.nil @PySem.Value))))))))) (@List.toArray (@Option @PySem.Value) (@List.nil (@Option @PySem.Value))))
noncomputable def o68 (P : PySem.Params) : PySem.Obj := (@PySem.Obj.mk (@PySem.Value.type "tuple") (@Option.none @Nat) (@PySem.Data.seq (@List.toArray @PySem.Value (@List.cons @PySem.Value (@PySem.Value.int (@OfNat.ofNat @Int (nat_lit 0) (@instOfNat (nat_lit 0))) 211) (@List.cons @PySem.Value (@PySem.Value.int (@OfNat.ofNat @Int (nat_lit 7) (@instOfNat (nat_lit 7))) 219) (@List.nil @PySem.Value)))) 0) (@List.toArray (@Option @PySem.Value) (@List.nil (@Option @PySem.Value))))
noncomputable def o69 (P : PySem.Params) : PySem.Obj := (@PySem.Obj.mk (@PySem.Value.type "tuple_iterator") (@Option.none @Nat) (@PySem.Data.fields (@List.toArray @PySem.Value (@List.cons @PySem.Value @PySem.Value.none (@List.cons @PySem.Value (@PySem.Value.int (@OfNat.ofNat @Int (nat_lit 2) (@instOfNat (nat_lit 2))) 0) (@List.nil @PySem.Value))))) (@List.toArray (@Option @PySem.Value) (@List.nil (@Option @PySem.Value))))
noncomputable def o70 (P : PySem.Params) : PySem.Obj := (@PySem.Obj.mk (@PySem.Value.type "list") (@Option.none @Nat) (@PySem.Data.seq (@List.toArray @PySem.Value (@List.nil @PySem.Value)) 2) (@List.toArray (@Option @PySem.Value) (@List.nil (@Option @PySem.Value))))
noncomputable def o71 (P : PySem.Params) : PySem.Obj := (@PySem.Obj.mk (@PySem.Value.type "tuple") (@Option.none @Nat) (@PySem.Data.seq (@List.toArray @PySem.Value (@List.nil @PySem.Value)) 0) (@List.toArray (@Option @PySem.Value) (@List.nil (@Option @PySem.Value))))
noncomputable def o72 (P : PySem.Params) : PySem.Obj := (@PySem.Obj.mk (@PySem.Value.type "StopIteration") (@Option.none @Nat) (@PySem.Data.fields (@List.toArray @PySem.Value (@List.cons @PySem.Value (@PySem.Value.ref 34) (@List.cons @PySem.Value @PySem.Value.none (@List.cons @PySem.Value @PySem.Value.none (@List.cons @PySem.Value @PySem.Value.none (@List.cons @PySem.Value (@PySem.Value.bool @Bool.false) (@List.cons @PySem.Value @PySem.Value.none (@List.nil @PySem.Value))))))))) (@List.toArray (@Option @PySem.Value) (@List.nil (@Option @PySem.Value))))
noncomputable def o73 (P : PySem.Params) : PySem.Obj := (@PySem.Obj.mk (@PySem.Value.type "range") (@Option.none @Nat) (@PySem.Data.fields (@List.toArray @PySem.Value (@List.cons @PySem.Value (@PySem.Value.int (@OfNat.ofNat @Int (nat_lit 0) (@instOfNat (nat_lit 0))) 211) (@List.cons @PySem.Value (@PySem.Value.int (@Neg.neg @Int @Int.instNegInt (@OfNat.ofNat @Int (nat_lit 1) (@instOfNat (nat_lit 1)))) 225) (@List.cons @PySem.Value (@PySem.Value.int (@Neg.neg @Int @Int.instNegInt (@OfNat.ofNat @Int (nat_lit 1) (@instOfNat (nat_lit 1)))) 227) (@List.nil @PySem.Value)))))) (@List.toArray (@Option @PySem.Value) (@List.nil (@Option @PySem.Value))))
noncomputable def o74 (P : PySem.Params) : PySem.Obj := (@PySem.Obj.mk (@PySem.Value.type "range_iterator") (@Option.none @Nat) (@PySem.Data.fields (@List.toArray @PySem.Value (@List.cons @PySem.Value (@PySem.Value.int (@Neg.neg @Int @Int.instNegInt (@OfNat.ofNat @Int (nat_lit 1) (@instOfNat (nat_lit 1)))) 0) (@List.cons @PySem.Value (@PySem.Value.int (@OfNat.ofNat @Int (nat_lit 0) (@instOfNat (nat_lit 0))) 0) (@List.cons @PySem.Value (@PySem.Value.int (@Neg.neg @Int @Int.instNegInt (@OfNat.ofNat @Int (nat_lit 1) (@instOfNat (nat_lit 1)))) 0) (@List.nil @PySem.Value)))))) (@List.toArray (@Option @PySem.Value) (@List.nil (@Option @PySem.Value))))
noncomputable def o75 (P : PySem.Params) : PySem.Obj := (@PySem.Obj.mk (@PySem.Value.type "tuple") (@Option.none @Nat) (@PySem.Data.seq (@List.toArray @PySem.Value (@List.nil @PySem.Value)) 0) (@List.toArray (@Option @PySem.Value) (@List.nil (@Option @PySem.Value))))
noncomputable def o76 (P : PySem.Params) : PySem.Obj := (@PySem.Obj.mk (@PySem.Value.type "StopIteration") (@Option.none @Nat) (@PySem.Data.fields (@List.toArray @PySem.Value (@List.cons @PySem.Value (@PySem.Value.ref 38) (@List.cons @PySem.Value @PySem.Value.none (@List.cons @PySem.Value @PySem.Value.none (@List.cons @PySem.Value @PySem.Value.none (@List.cons @PySem.Value (@PySem.Value.bool @Bool.false) (@List.cons @PySem.Value @PySem.Value.none (@List.nil @PySem.Value))))))))) (@List.toArray (@Option @PySem.Value) (@List.nil (@Option @PySem.Value))))
noncomputable def o77 (P : PySem.Params) : PySem.Obj := (@PySem.Obj.mk (@PySem.Value.type "tuple") (@Option.none @Nat) (@PySem.Data.seq (@List.toArray @PySem.Value (@List.cons @PySem.Value (@PySem.Value.int (@OfNat.ofNat @Int (nat_lit 0) (@instOfNat (nat_lit 0))) 236) (@List.cons @PySem.Value (@PySem.Value.int (@Neg.neg @Int @Int.instNegInt (@OfNat.ofNat @Int (nat_lit 6) (@instOfNat (nat_lit 6)))) 239) (@List.nil @PySem.Value)))) 0) (@List.toArray (@Option @PySem.Value) (@List.nil (@Option @PySem.Value))))
noncomputable def o78 (P : PySem.Params) : PySem.Obj := (@PySem.Obj.mk (@PySem.Value.type "tuple_iterator") (@Option.none @Nat) (@PySem.Data.fields (@List.toArray @PySem.Value (@List.cons @PySem.Value @PySem.Value.none (@List.cons @PySem.Value (@PySem.Value.int (@OfNat.ofNat @Int (nat_lit 2) (@instOfNat (nat_lit 2))) 0) (@List.nil @PySem.Value))))) (@List.toArray (@Option @PySem.Value) (@List.nil (@Option @PySem.Value))))
noncomputable def o79 (P : PySem.Params) : PySem.Obj := (@PySem.Obj.mk (@PySem.Value.type "list") (@Option.none @Nat) (@PySem.Data.seq (@List.toArray @PySem.Value (@List.nil @PySem.Value)) 2) (@List.toArray (@Option @PySem.Value) (@List.nil (@Option @PySem.Value))))
noncomputable def o80 (P : PySem.Params) : PySem.Obj := (@PySem.Obj.mk (@PySem.Value.type "tuple") (@Option.none @Nat) (@PySem.Data.seq (@List.toArray @PySem.Value (@List.nil @PySem.Value)) 0) (@List.toArray (@Option @PySem.Value) (@List.nil (@Option @PySem.Value))))
noncomputable def o81 (P : PySem.Params) : PySem.Obj := (@PySem.Obj.mk (@PySem.Value.type "StopIteration") (@Option.none @Nat) (@PySem.Data.fields (@List.toArray @PySem.Value (@List.cons @PySem.Value (@PySem.Value.ref 43) (@List.cons @PySem.Value @PySem.Value.none (@List.cons @PySem.Value @PySem.Value.none (@List.cons @PySem.Value @PySem.Value.none (@List.cons @PySem.Value (@PySem.Value.bool @Bool.false) (@List.cons @PySem.Value @PySem.Value.none (@List.nil @PySem.Value))))))))) (@List.toArray (@Option @PySem.Value) (@List.nil (@Option @PySem.Value))))
noncomputable def o82 (P : PySem.Params) : PySem.Obj := (@PySem.Obj.mk (@PySem.Value.type "tuple") (@Option.none @Nat) (@PySem.Data.seq (@List.toArray @PySem.Value (@List.cons @PySem.Value (@PySem.Value.int (@OfNat.ofNat @Int (nat_lit 1) (@instOfNat (nat_lit 1))) 234) (@List.cons @PySem.Value (@PySem.Value.int (@OfNat.ofNat @Int (nat_lit 7) (@instOfNat (nat_lit 7))) 242) (@List.nil @PySem.Value)))) 0) (@List.toArray (@Option @PySem.Value) (@List.nil (@Option @PySem.Value))))
noncomputable def o83 (P : PySem.Params) : PySem.Obj := (@PySem.Obj.mk (@PySem.Value.type "tuple_iterator") (@Option.none @Nat) (@PySem.Data.fields (@List.toArray @PySem.Value (@List.cons @PySem.Value @PySem.Value.none (@List.cons @PySem.Value (@PySem.Value.int (@OfNat.ofNat @Int (nat_lit 2) (@instOfNat (nat_lit 2))) 0) (@List.nil @PySem.Value))))) (@List.toArray (@Option @PySem.Value) (@List.nil (@Option @PySem.Value))))
noncomputable def o84 (P : PySem.Params) : PySem.Obj := (@PySem.Obj.mk (@PySem.Value.type "list") (@Option.none @Nat) (@PySem.Data.seq (@List.toArray @PySem.Value (@List.nil @PySem.Value)) 2) (@List.toArray (@Option @PySem.Value) (@List.nil (@Option @PySem.Value))))
noncomputable def o85 (P : PySem.Params) : PySem.Obj := (@PySem.Obj.mk (@PySem.Value.type "tuple") (@Option.none @Nat) (@PySem.Data.seq (@List.toArray @PySem.Value (@List.nil @PySem.Value)) 0) (@List.toArray (@Option @PySem.Value) (@List.nil (@Option @PySem.Value))))
noncomputable def o86 (P : PySem.Params) : PySem.Obj := (@PySem.Obj.mk (@PySem.Value.type "StopIteration") (@Option.none @Nat) (@PySem.Data.fields (@List.toArray @PySem.Value (@List.cons @PySem.Value (@PySem.Value.ref 48) (@List.cons @PySem.Value @PySem.Value.none (@List.cons @PySem.Value @PySem.Value.none (@List.cons @PySem.Value @PySem.Value.none (@List.cons @PySem.Value (@PySem.Value.bool @Bool.false) (@List.cons @PySem.Value @PySem.Value.none (@List.nil @PySem.Value))))))))) (@List.toArray (@Option @PySem.Value) (@List.nil (@Option @PySem.Value))))
noncomputable def o87 (P : PySem.Params) : PySem.Obj := (@PySem.Obj.mk (@PySem.Value.type "range") (@Option.none @Nat) (@PySem.Data.fields (@List.toArray @PySem.Value (@List.cons @PySem.Value (@PySem.Value.int (@OfNat.ofNat @Int (nat_lit 0) (@instOfNat (nat_lit 0))) 236) (@List.cons @PySem.Value (@PySem.Value.int (@OfNat.ofNat @Int (nat_lit 2) (@instOfNat (nat_lit 2))) 248) (@List.cons @PySem.Value (@PySem.Value.int (@OfNat.ofNat @Int (nat_lit 1) (@instOfNat (nat_lit 1))) 249) (@List.nil @PySem.Value)))))) (@List.toArray (@Option @PySem.Value) (@List.nil (@Option @PySem.Value))))
noncomputable def o88 (P : PySem.Params) : PySem.Obj := (@PySem.Obj.mk (@PySem.Value.type "range_iterator") (@Option.none @Nat) (@PySem.Data.fields (@List.toArray @PySem.Value (@List.cons @PySem.Value (@PySem.Value.int (@OfNat.ofNat @Int (nat_lit 2) (@instOfNat (nat_lit 2))) 0) (@List.cons @PySem.Value (@PySem.Value.int (@OfNat.ofNat @Int (nat_lit 0) (@instOfNat (nat_lit 0))) 0) (@List.cons @PySem.Value (@PySem.Value.int (@OfNat.ofNat @Int (nat_lit 1) (@instOfNat (nat_lit 1))) 0) (@List.nil @PySem.Value)))))) (@List.toArray (@Option @PySem.Value) (@List.nil (@Option @PySem.Value))))
noncomputable def o89 (P : PySem.Params) : PySem.Obj := (@PySem.Obj.mk (@PySem.Value.type "tuple") (@Option.none @Nat) (@PySem.Data.seq (@List.toArray @PySem.Value (@List.nil @PySem.Value)) 0) (@List.toArray (@Option @PySem.Value) (@List.nil (@Option @PySem.Value))))
noncomputable def o90 (P : PySem.Params) : PySem.Obj := (@PySem.Obj.mk (@PySem.Value.type "StopIteration") (@Option.none @Nat) (@PySem.Data.fields (@List.toArray @PySem.Value (@List.cons @PySem.Value (@PySem.Value.ref 52) (@List.cons @PySem.Value @PySem.Value.none (@List.cons @PySem.Value @PySem.Value.none (@List.cons @PySem.Value @PySem.Value.none (@List.cons @PySem.Value (@PySem.Value.bool @Bool.false) (@List.cons @PySem.Value @PySem.Value.none (@List.nil @PySem.Value))))))))) (@List.toArray (@Option @PySem.Value) (@List.nil (@Option @PySem.Value))))
noncomputable def o91 (P : PySem.Params) : PySem.Obj := (@PySem.Obj.mk (@PySem.Value.type "tuple") (@Option.none @Nat) (@PySem.Data.seq (@List.toArray @PySem.Value (@List.cons @PySem.Value (@PySem.Value.int (@OfNat.ofNat @Int (nat_lit 0) (@instOfNat (nat_lit 0))) 263) (@List.cons @PySem.Value (@PySem.Value.int (@Neg.neg @Int @Int.instNegInt (@OfNat.ofNat @Int (nat_lit 5) (@instOfNat (nat_lit 5)))) 266) (@List.nil @PySem.Value)))) 0) (@List.toArray (@Option @PySem.Value) (@List.nil (@Option @PySem.Value))))
noncomputable def o92 (P : PySem.Params) : PySem.Obj := (@PySem.Obj.mk (@PySem.Value.type "tuple_iterator") (@Option.none @Nat) (@PySem.Data.fields (@List.toArray @PySem.Value (@List.cons @PySem.Value @PySem.Value.none (@List.cons @PySem.Value (@PySem.Value.int (@OfNat.ofNat @Int (nat_lit 2) (@instOfNat (nat_lit 2))) 0) (@List.nil @PySem.Value))))) (@List.toArray (@Option @PySem.Value) (@List.nil (@Option @PySem.Value))))
noncomputable def o93 (P : PySem.Params) : PySem.Obj := (@PySem.Obj.mk (@PySem.Value.type "list") (@Option.none @Nat) (@PySem.Data.seq (@List.toArray @PySem.Value (@List.nil @PySem.Value)) 2) (@List.toArray (@Option @PySem.Value) (@List.nil (@Option @PySem.Value))))
noncomputable def o94 (P : PySem.Params) : PySem.Obj := (@PySem.Obj.mk (@PySem.Value.type "tuple") (@Option.none @Nat) (@PySem.Data.seq (@List.toArray @PySem.Value (@List.nil @PySem.Value)) 0) (@List.toArray (@Option @PySem.Value) (@List.nil (@Option @PySem.Value))))
noncomputable def o95 (P : PySem.Params) : PySem.Obj := (@PySem.Obj.mk (@PySem.Value.type "StopIteration") (@Option.none @Nat) (@PySem.Data.fields (@List.toArray @PySem.Value (@List.cons @PySem.Value (@PySem.Value.ref 57) (@List.cons @PySem.Value @PySem.Value.none (@List.cons @PySem.Value @PySem.Value.none (@List.cons @PySem.Value @PySem.Value.none (@List.cons @PySem.Value (@PySem.Value.bool @Bool.false) (@List.cons @PySem.Value @PySem.Value.none (@List.nil @PySem.Value))))))))) (@List.toArray (@Option @PySem.Value) (@List.nil (@Option @PySem.Value))))
noncomputable def o96 (P : PySem.Params) : PySem.Obj := (@PySem.Obj.mk (@PySem.Value.type "tuple") (@Option.none @Nat) (@PySem.Data.seq (@List.toArray @PySem.Value (@List.cons @PySem.Value (@PySem.Value.int (@OfNat.ofNat @Int (nat_lit 2) (@instOfNat (nat_lit 2))) 261) (@List.cons @PySem.Value (@PySem.Value.int (@OfNat.ofNat @Int (nat_lit 7) (@instOfNat (nat_lit 7))) 269) (@List.nil @PySem.Value)))) 0) (@List.toArray (@Option @PySem.Value) (@List.nil (@Option @PySem.Value))))
noncomputable def o97 (P : PySem.Params) : PySem.Obj := (@PySem.Obj.mk (@PySem.Value.type "tuple_iterator") (@Option.none @Nat) (@PySem.Data.fields (@List.toArray @PySem.Value (@List.cons @PySem.Value @PySem.Value.none (@List.cons @PySem.Value (@PySem.Value.int (@OfNat.ofNat @Int (nat_lit 2) (@instOfNat (nat_lit 2))) 0) (@List.nil @PySem.Value))))) (@List.toArray (@Option @PySem.Value) (@List.nil (@Option @PySem.Value))))
noncomputable def o98 (P : PySem.Params) : PySem.Obj := (@PySem.Obj.mk (@PySem.Value.type "list") (@Option.none @Nat) (@PySem.Data.seq (@List.toArray @PySem.Value (@List.nil @PySem.Value)) 2) (@List.toArray (@Option @PySem.Value) (@List.nil (@Option @PySem.Value))))
noncomputable def o99 (P : PySem.Params) : PySem.Obj := (@PySem.Obj.mk (@PySem.Value.type "tuple") (@Option.none @Nat) (@PySem.Data.seq (@List.toArray @PySem.Value (@List.nil @PySem.Value)) 0) (@List.toArray (@Option @PySem.Value) (@List.nil (@Option @PySem.Value))))
noncomputable def o100 (P : PySem.Params) : PySem.Obj := (@PySem.Obj.mk (@PySem.Value.type "StopIteration") (@Option.none @Nat) (@PySem.Data.fields (@List.toArray @PySem.Value (@List.cons @PySem.Value (@PySem.Value.ref 62) (@List.cons @PySem.Value @PySem.Value.none (@List.cons @PySem.Value @PySem.Value.none (@List.cons @PySem.Value @PySem.Value.none (@List.cons @PySem.Value (@PySem.Value.bool @Bool.false) (@List.cons @PySem.Value @PySem.Value.none (@List.nil @PySem.Value))))))))) (@List.toArray (@Option @PySem.Value) (@List.nil (@Option @PySem.Value))))
noncomputable def o101 (P : PySem.Params) : PySem.Obj := (@PySem.Obj.mk (@PySem.Value.type "range") (@Option.none @Nat) (@PySem.Data.fields (@List.toArray @PySem.Value (@List.cons @PySem.Value (@PySem.Value.int (@OfNat.ofNat @Int (nat_lit 2) (@instOfNat (nat_lit 2))) 261) (@List.cons @PySem.Value (@PySem.Value.int (@Neg.neg @Int @Int.instNegInt (@OfNat.ofNat @Int (nat_lit 1) (@instOfNat (nat_lit 1)))) 275) (@List.cons @PySem.Value (@PySem.Value.int (@Neg.neg @Int @Int.instNegInt (@OfNat.ofNat @Int (nat_lit 1) (@instOfNat (nat_lit 1)))) 277) (@List.nil @PySem.Value)))))) (@List.toArray (@Option @PySem.Value) (@List.nil (@Option @PySem.Value))))
noncomputable def o102 (P : PySem.Params) : PySem.Obj := (@PySem.Obj.mk (@PySem.Value.type "range_iterator") (@Option.none @Nat) (@PySem.Data.fields (@List.toArray @PySem.Value (@List.cons @PySem.Value (@PySem.Value.int (@Neg.neg @Int @Int.instNegInt (@OfNat.ofNat @Int (nat_lit 1) (@instOfNat (nat_lit 1)))) 0) (@List.cons @PySem.Value (@PySem.Value.int (@OfNat.ofNat @Int (nat_lit 0) (@instOfNat (nat_lit 0))) 0) (@List.cons @PySem.Value (@PySem.Value.int (@Neg.neg @Int @Int.instNegInt (@OfNat.ofNat @Int (nat_lit 1) (@instOfNat (nat_lit 1)))) 0) (@List.nil @PySem.Value)))))) (@List.toArray (@Option @PySem.Value) (@List.nil (@Option @PySem.Value))))
noncomputable def o103 (P : PySem.Params) : PySem.Obj := (@PySem.Obj.mk (@PySem.Value.type "tuple") (@Option.none @Nat) (@PySem.Data.seq (@List.toArray @PySem.Value (@List.nil @PySem.Value)) 0) (@List.toArray (@Option @PySem.Value) (@List.nil (@Option @PySem.Value))))
noncomputable def o104 (P : PySem.Params) : PySem.Obj := (@PySem.Obj.mk (@PySem.Value.type "StopIteration") (@Option.none @Nat) (@PySem.Data.fields (@List.toArray @PySem.Value (@List.cons @PySem.Value (@PySem.Value.ref 66) (@List.cons @PySem.Value @PySem.Value.none (@List.cons @PySem.Value @PySem.Value.none (@List.cons @PySem.Value @PySem.Value.none (@List.cons @PySem.Value (@PySem.Value.bool @Bool.false) (@List.cons @PySem.Value @PySem.Value.none (@List.nil @PySem.Value))))))))) (@List.toArray (@Option @PySem.Value) (@List.nil (@Option @PySem.Value))))
noncomputable def o105 (P : PySem.Params) : PySem.Obj := (@PySem.Obj.mk (@PySem.Value.type "tuple") (@Option.none @Nat) (@PySem.Data.seq (@List.toArray @PySem.Value (@List.cons @PySem.Value (@PySem.Value.int (@OfNat.ofNat @Int (nat_lit 0) (@instOfNat (nat_lit 0))) 296) (@List.cons @PySem.Value (@PySem.Value.int (@Neg.neg @Int @Int.instNegInt (@OfNat.ofNat @Int (nat_lit 4) (@instOfNat (nat_lit 4)))) 299) (@List.nil @PySem.Value)))) 0) (@List.toArray (@Option @PySem.Value) (@List.nil (@Option @PySem.Value))))
noncomputable def o106 (P : PySem.Params) : PySem.Obj := (@PySem.Obj.mk (@PySem.Value.type "tuple_iterator") (@Option.none @Nat) (@PySem.Data.fields (@List.toArray @PySem.Value (@List.cons @PySem.Value @PySem.Value.none (@List.cons @PySem.Value (@PySem.Value.int (@OfNat.ofNat @Int (nat_lit 2) (@instOfNat (nat_lit 2))) 0) (@List.nil @PySem.Value))))) (@List.toArray (@Option @PySem.Value) (@List.nil (@Option @PySem.Value))))
noncomputable def o107 (P : PySem.Params) : PySem.Obj := (@PySem.Obj.mk (@PySem.Value.type "list") (@Option.none @Nat) (@PySem.Data.seq (@List.toArray @PySem.Value (@List.nil @PySem.Value)) 2) (@List.toArray (@Option @PySem.Value) (@List.nil (@Option @PySem.Value))))
noncomputable def o108 (P : PySem.Params) : PySem.Obj := (@PySem.Obj.mk (@PySem.Value.type "tuple") (@Option.none @Nat) (@PySem.Data.seq (@List.toArray @PySem.Value (@List.nil @PySem.Value)) 0) (@List.toArray (@Option @PySem.Value) (@List.nil (@Option @PySem.Value))))
noncomputable def o109 (P : PySem.Params) : PySem.Obj := (@PySem.Obj.mk (@PySem.Value.type "StopIteration") (@Option.none @Nat) (@PySem.Data.fields (@List.toArray @PySem.Value (@List.cons @PySem.Value (@PySem.Value.ref 71) (@List.cons @PySem.Value @PySem.Value.none (@List.cons @PySem.Value @PySem.Value.none (@List.cons @PySem.Value @PySem.Value.none (@List.cons @PySem.Value (@PySem.Value.bool @Bool.false) (@List.cons @PySem.Value @PySem.Value.none (@List.nil @PySem.Value))))))))) (@List.toArray (@Option @PySem.Value) (@List.nil (@Option @PySem.Value))))
noncomputable def o110 (P : PySem.Params) : PySem.Obj := (@PySem.Obj.mk (@PySem.Value.type "tuple") (@Option.none @Nat) (@PySem.Data.seq (@List.toArray @PySem.Value (@List.cons @PySem.Value (@PySem.Value.int (@OfNat.ofNat @Int (nat_lit 3) (@instOfNat (nat_lit 3))) 294) (@List.cons @PySem.Value (@PySem.Value.int (@OfNat.ofNat @Int (nat_lit 7) (@instOfNat (nat_lit 7))) 302) (@List.nil @PySem.Value)))) 0) (@List.toArray (@Option @PySem.Value) (@List.nil (@Option @PySem.Value))))
noncomputable def o111 (P : PySem.Params) : PySem.Obj := (@PySem.Obj.mk (@PySem.Value.type "tuple_iterator") (@Option.none @Nat) (@PySem.Data.fields (@List.toArray @PySem.Value (@List.cons @PySem.Value @PySem.Value.none (@List.cons @PySem.Value (@PySem.Value.int (@OfNat.ofNat @Int (nat_lit 2) (@instOfNat (nat_lit 2))) 0) (@List.nil @PySem.Value))))) (@List.toArray (@Option @PySem.Value) (@List.nil (@Option @PySem.Value))))
noncomputable def o112 (P : PySem.Params) : PySem.Obj := (@PySem.Obj.mk (@PySem.Value.type "list") (@Option.none @Nat) (@PySem.Data.seq (@List.toArray @PySem.Value (@List.nil @PySem.Value)) 2) (@List.toArray (@Option @PySem.Value) (@List.nil (@Option @PySem.Value))))
noncomputable def o113 (P : PySem.Params) : PySem.Obj := (@PySem.Obj.mk (@PySem.Value.type "tuple") (@Option.none @Nat) (@PySem.Data.seq (@List.toArray @PySem.Value (@List.nil @PySem.Value)) 0) (@List.toArray (@Option @PySem.Value) (@List.nil (@Option @PySem.Value))))
noncomputable def o114 (P : PySem.Params) : PySem.Obj := (@PySem.Obj.mk (@PySem.Value.type "StopIteration") (@Option.none @Nat) (@PySem.Data.fields (@List.toArray @PySem.Value (@List.cons @PySem.Value (@PySem.Value.ref 76) (@List.cons @PySem.Value @PySem.Value.none (@List.cons @PySem.Value @PySem.Value.none (@List.cons @PySem.Value @PySem.Value.none (@List.cons @PySem.Value (@PySem.Value.bool @Bool.false) (@List.cons @PySem.Value @PySem.Value.none (@List.nil @PySem.Value))))))))) (@List.toArray (@Option @PySem.Value) (@List.nil (@Option @PySem.Value))))
noncomputable def o115 (P : PySem.Params) : PySem.Obj := (@PySem.Obj.mk (@PySem.Value.type "range") (@Option.none @Nat) (@PySem.Data.fields (@List.toArray @PySem.Value (@List.cons @PySem.Value (@PySem.Value.int (@OfNat.ofNat @Int (nat_lit 0) (@instOfNat (nat_lit 0))) 296) (@List.cons @PySem.Value (@PySem.Value.int (@OfNat.ofNat @Int (nat_lit 4) (@instOfNat (nat_lit 4))) 308) (@List.cons @PySem.Value (@PySem.Value.int (@OfNat.ofNat @Int (nat_lit 1) (@instOfNat (nat_lit 1))) 309) (@List.nil @PySem.Value)))))) (@List.toArray (@Option @PySem.Value) (@List.nil (@Option @PySem.Value))))
noncomputable def o116 (P : PySem.Params) : PySem.Obj := (@PySem.Obj.mk (@PySem.Value.type "range_iterator") (@Option.none @Nat) (@PySem.Data.fields (@List.toArray @PySem.Value (@List.cons @PySem.Value (@PySem.Value.int (@OfNat.ofNat @Int (nat_lit 4) (@instOfNat (nat_lit 4))) 0) (@List.cons @PySem.Value (@PySem.Value.int (@OfNat.ofNat @Int (nat_lit 0) (@instOfNat (nat_lit 0))) 0) (@List.cons @PySem.Value (@PySem.Value.int (@OfNat.ofNat @Int (nat_lit 1) (@instOfNat (nat_lit 1))) 0) (@List.nil @PySem.Value)))))) (@List.toArray (@Option @PySem.Value) (@List.nil (@Option @PySem.Value))))
noncomputable def o117 (P : PySem.Params) : PySem.Obj := (@PySem.Obj.mk (@PySem.Value.type "tuple") (@Option.none @Nat) (@PySem.Data.seq (@List.toArray @PySem.Value (@List.nil @PySem.Value)) 0) (@List.toArray (@Option @PySem.Value) (@List.nil (@Option @PySem.Value))))
noncomputable def o118 (P : PySem.Params) : PySem.Obj := (@PySem.Obj.mk (@PySem.Value.type "StopIteration") (@Option.none @Nat) (@PySem.Data.fields (@List.toArray @PySem.Value (@List.cons @PySem.Value (@PySem.Value.ref 80) (@List.cons @PySem.Value @PySem.Value.none (@List.cons @PySem.Value @PySem.Value.none (@List.cons @PySem.Value @PySem.Value.none (@List.cons @PySem.Value (@PySem.Value.bool @Bool.false) (@List.cons @PySem.Value @PySem.Value.none (@List.nil @PySem.Value))))))))) (@List.toArray (@Option @PySem.Value) (@List.nil (@Option @PySem.Value))))
noncomputable def o119 (P : PySem.Params) : PySem.Obj := (@PySem.Obj.mk (@PySem.Value.type "tuple") (@Option.none @Nat) (@PySem.Data.seq (@List.toArray @PySem.Value (@List.cons @PySem.Value (@PySem.Value.int (@OfNat.ofNat @Int (nat_lit 0) (@instOfNat (nat_lit 0))) 333) (@List.cons @PySem.Value (@PySem.Value.int (@Neg.neg @Int @Int.instNegInt (@OfNat.ofNat @Int (nat_lit 3) (@instOfNat (nat_lit 3)))) 336) (@List.nil @PySem.Value)))) 0) (@List.toArray (@Option @PySem.Value) (@List.nil (@Option @PySem.Value))))
noncomputable def o120 (P : PySem.Params) : PySem.Obj := (@PySem.Obj.mk (@PySem.Value.type "tuple_iterator") (@Option.none @Nat) (@PySem.Data.fields (@List.toArray @PySem.Value (@List.cons @PySem.Value @PySem.Value.none (@List.cons @PySem.Value (@PySem.Value.int (@OfNat.ofNat @Int (nat_lit 2) (@instOfNat (nat_lit 2))) 0) (@List.nil @PySem.Value))))) (@List.toArray (@Option @PySem.Value) (@List.nil (@Option @PySem.Value))))
noncomputable def o121 (P : PySem.Params) : PySem.Obj := (@PySem.Obj.mk (@PySem.Value.type "list") (@Option.none @Nat) (@PySem.Data.seq (@List.toArray @PySem.Value (@List.nil @PySem.Value)) 2) (@List.toArray (@Option @PySem.Value) (@List.nil (@Option @PySem.Value))))
noncomputable def o122 (P : PySem.Params) : PySem.Obj := (@PySem.Obj.mk (@PySem.Value.type "tuple") (@Option.none @Nat) (@PySem.Data.seq (@List.toArray @PySem.Value (@List.nil @PySem.Value)) 0) (@List.toArray (@Option @PySem.Value) (@List.nil (@Option @PySem.Value))))
noncomputable def o123 (P : PySem.Params) : PySem.Obj := (@PySem.Obj.mk (@PySem.Value.type "StopIteration") (@Option.none @Nat) (@PySem.Data.fields (@List.toArray @PySem.Value (@List.cons @PySem.Value (@PySem.Value.ref 85) (@List.cons @PySem.Value @PySem.Value.none (@List.cons @PySem.Value @PySem.Value.none (@List.cons @PySem.Value @PySem.Value.none (@List.cons @PySem.Value (@PySem.Value.bool @Bool.false) (@List.cons @PySem.Value @PySem.Value.none (@List.nil @PySem.Value))))))))) (@List.toArray (@Option @PySem.Value) (@List.nil (@Option @PySem.Value))))
noncomputable def o124 (P : PySem.Params) : PySem.Obj := (@PySem.Obj.mk (@PySem.Value.type "tuple") (@Option.none @Nat) (@PySem.Data.seq (@List.toArray @PySem.Value (@List.cons @PySem.Value (@PySem.Value.int (@OfNat.ofNat @Int (nat_lit 4) (@instOfNat (nat_lit 4))) 331) (@List.cons @PySem.Value (@PySem.Value.int (@OfNat.ofNat @Int (nat_lit 7) (@instOfNat (nat_lit 7))) 339) (@List.nil @PySem.Value)))) 0) (@List.toArray (@Option @PySem.Value) (@List.nil (@Option @PySem.Value))))
noncomputable def o125 (P : PySem.Params) : PySem.Obj := (@PySem.Obj.mk (@PySem.Value.type "tuple_iterator") (@Option.none @Nat) (@PySem.Data.fields (@List.toArray @PySem.Value (@List.cons @PySem.Value @PySem.Value.none (@List.cons @PySem.Value (@PySem.Value.int (@OfNat.ofNat @Int (nat_lit 2) (@instOfNat (nat_lit 2))) 0) (@List.nil @PySem.Value))))) (@List.toArray (@Option @PySem.Value) (@List.nil (@Option @PySem.Value))))
noncomputable def o126 (P : PySem.Params) : PySem.Obj := (@PySem.Obj.mk (@PySem.Value.type "list") (@Option.none @Nat) (@PySem.Data.seq (@List.toArray @PySem.Value (@List.nil @PySem.Value)) 2) (@List.toArray (@Option @PySem.Value) (@List.nil (@Option @PySem.Value))))
noncomputable def o127 (P : PySem.Params) : PySem.Obj := (@PySem.Obj.mk (@PySem.Value.type "tuple") (@Option.none @Nat) (@PySem.Data.seq (@List.toArray @PySem.Value (@List.nil @PySem.Value)) 0) (@List.toArray (@Option @PySem.Value) (@List.nil (@Option @PySem.Value))))
noncomputable def o128 (P : PySem.Params) : PySem.Obj := (@PySem.Obj.mk (@PySem.Value.type "StopIteration") (@Option.none @Nat) (@PySem.Data.fields (@List.toArray @PySem.Value (@List.cons @PySem.Value (@PySem.Value.ref 90) (@List.cons @PySem.Value @PySem.Value.none (@List.cons @PySem.Value @PySem.Value.none (@List.cons @PySem.Value @PySem.Value.none (@List.cons @PySem.Value (@PySem.Value.bool @Bool.false) (@List.cons @PySem.Value @PySem.Value.none (@List.nil @PySem.Value))))))))) (@List.toArray (@Option @PySem.Value) (@List.nil (@Option @PySem.Value))))
noncomputable def o129 (P : PySem.Params) : PySem.Obj := (@PySem.Obj.mk (@PySem.Value.type "range") (@Option.none @Nat) (@PySem.Data.fields (@List.toArray @PySem.Value (@List.cons @PySem.Value (@PySem.Value.int (@OfNat.ofNat @Int (nat_lit 4) (@instOfNat (nat_lit 4))) 331) (@List.cons @PySem.Value (@PySem.Value.int (@Neg.neg @Int @Int.instNegInt (@OfNat.ofNat @Int (nat_lit 1) (@instOfNat (nat_lit 1)))) 345) (@List.cons @PySem.Value (@PySem.Value.int (@Neg.neg @Int @Int.instNegInt (@OfNat.ofNat @Int (nat_lit 1) (@instOfNat (nat_lit 1)))) 347) (@List.nil @PySem.Value)))))) (@List.toArray (@Option @PySem.Value) (@List.nil (@Option @PySem.Value))))
noncomputable def o130 (P : PySem.Params) : PySem.Obj := (@PySem.Obj.mk (@PySem.Value.type "range_iterator") (@Option.none @Nat) (@PySem.Data.fields (@List.toArray @PySem.Value (@List.cons @PySem.Value (@PySem.Value.int (@Neg.neg @Int @Int.instNegInt (@OfNat.ofNat @Int (nat_lit 1) (@instOfNat (nat_lit 1)))) 0) (@List.cons @PySem.Value (@PySem.Value.int (@OfNat.ofNat @Int (nat_lit 0) (@instOfNat (nat_lit 0))) 0) (@List.cons @PySem.Value (@PySem.Value.int (@Neg.neg @Int @Int.instNegInt (@OfNat.ofNat @Int (nat_lit 1) (@instOfNat (nat_lit 1)))) 0) (@List.nil @PySem.Value)))))) (@List.toArray (@Option @PySem.Value) (@List.nil (@Option @PySem.Value))))
noncomputable def o131 (P : PySem.Params) : PySem.Obj := (@PySem.Obj.mk (@PySem.Value.type "tuple") (@Option.none @Nat) (@PySem.Data.seq (@List.toArray @PySem.Value (@List.nil @PySem.Value)) 0) (@List.toArray (@Option @PySem.Value) (@List.nil (@Option @PySem.Value))))
noncomputable def o132 (P : PySem.Params) : PySem.Obj := (@PySem.Obj.mk (@PySem.Value.type "StopIteration") (@Option.none @Nat) (@PySem.Data.fields (@List.toArray @PySem.Value (@List.cons @PySem.Value (@PySem.Value.ref 94) (@List.cons @PySem.Value @PySem.Value.none (@List.cons @PySem.Value @PySem.Value.none (@List.cons @PySem.Value @PySem.Value.none (@List.cons @PySem.Value (@PySem.Value.bool @Bool.false) (@List.cons @PySem.Value @PySem.Value.none (@List.nil @PySem.Value))))))))) (@List.toArray (@Option @PySem.Value) (@List.nil (@Option @PySem.Value))))
noncomputable def o133 (P : PySem.Params) : PySem.Obj := (@PySem.Obj.mk (@PySem.Value.type "tuple") (@Option.none @Nat) (@PySem.Data.seq (@List.toArray @PySem.Value (@List.cons @PySem.Value (@PySem.Value.int (@OfNat.ofNat @Int (nat_lit 0) (@instOfNat (nat_lit 0))) 376) (@List.cons @PySem.Value (@PySem.Value.int (@Neg.neg @Int @Int.instNegInt (@OfNat.ofNat @Int (nat_lit 2) (@instOfNat (nat_lit 2)))) 379) (@List.nil @PySem.Value)))) 0) (@List.toArray (@Option @PySem.Value) (@List.nil (@Option @PySem.Value))))
noncomputable def o134 (P : PySem.Params) : PySem.Obj := (@PySem.Obj.mk (@PySem.Value.type "tuple_iterator") (@Option.none @Nat) (@PySem.Data.fields (@List.toArray @PySem.Value (@List.cons @PySem.Value @PySem.Value.none (@List.cons @PySem.Value (@PySem.Value.int (@OfNat.ofNat @Int (nat_lit 2) (@instOfNat (nat_lit 2))) 0) (@List.nil @PySem.Value))))) (@List.toArray (@Option @PySem.Value) (@List.nil (@Option @PySem.Value))))
noncomputable def o135 (P : PySem.Params) : PySem.Obj := (@PySem.Obj.mk (@PySem.Value.type "list") (@Option.none @Nat) (@PySem.Data.seq (@List.toArray @PySem.Value (@List.nil @PySem.Value)) 2) (@List.toArray (@Option @PySem.Value) (@List.nil (@Option @PySem.Value))))
noncomputable def o136 (P : PySem.Params) : PySem.Obj := (@PySem.Obj.mk (@PySem.Value.type "tuple") (@Option.none @Nat) (@PySem.Data.seq (@List.toArray @PySem.Value (@List.nil @PySem.Value)) 0) (@List.toArray (@Option @PySem.Value) (@List.nil (@Option @PySem.Value))))
noncomputable def o137 (P : PySem.Params) : PySem.Obj := (@PySem.Obj.mk (@PySem.Value.type "StopIteration") (@Option.none @Nat) (@PySem.Data.fields (@List.toArray @PySem.Value (@List.cons @PySem.Value (@PySem.Value.ref 99) (@List.cons @PySem.Value @PySem.Value.none (@List.cons @PySem.Value @PySem.Value.none (@List.cons @PySem.Value @PySem.Value.none (@List.cons @PySem.Value (@PySem.Value.bool @Bool.false) (@List.cons @PySem.Value @PySem.Value.none (@List.nil @PySem.Value))))))))) (@List.toArray (@Option @PySem.Value) (@List.nil (@Option @PySem.Value))))
noncomputable def o138 (P : PySem.Params) : PySem.Obj := (@PySem.Obj.mk (@PySem.Value.type "tuple") (@Option.none @Nat) (@PySem.Data.seq (@List.toArray @PySem.Value (@List.cons @PySem.Value (@PySem.Value.int (@OfNat.ofNat @Int (nat_lit 5) (@instOfNat (nat_lit 5))) 374) (@List.cons @PySem.Value (@PySem.Value.int (@OfNat.ofNat @Int (nat_lit 7) (@instOfNat (nat_lit 7))) 382) (@List.nil @PySem.Value)))) 0) (@List.toArray (@Option @PySem.Value) (@List.nil (@Option @PySem.Value))))
noncomputable def o139 (P : PySem.Params) : PySem.Obj := (@PySem.Obj.mk (@PySem.Value.type "tuple_iterator") (@Option.none @Nat) (@PySem.Data.fields (@List.toArray @PySem.Value (@List.cons @PySem.Value @PySem.Value.none (@List.cons @PySem.Value (@PySem.Value.int (@OfNat.ofNat @Int (nat_lit 2) (@instOfNat (nat_lit 2))) 0) (@List.nil @PySem.Value))))) (@List.toArray (@Option @PySem.Value) (@List.nil (@Option @PySem.Value))))
noncomputable def o140 (P : PySem.Params) : PySem.Obj := (@PySem.Obj.mk (@PySem.Value.type "list") (@Option.none @Nat) (@PySem.Data.seq (@List.toArray @PySem.Value (@List.nil @PySem.Value)) 2) (@List.toArray (@Option @PySem.Value) (@List.nil (@Option @PySem.Value))))
noncomputable def o141 (P : PySem.Params) : PySem.Obj := (@PySem.Obj.mk (@PySem.Value.type "tuple") (@Option.none @Nat) (@PySem.Data.seq (@List.toArray @PySem.Value (@List.nil @PySem.Value)) 0) (@List.toArray (@Option @PySem.Value) (@List.nil (@Option @PySem.Value))))
noncomputable def o142 (P : PySem.Params) : PySem.Obj := (@PySem.Obj.mk (@PySem.Value.type "StopIteration") (@Option.none @Nat) (@PySem.Data.fields (@List.toArray @PySem.Value (@List.cons @PySem.Value (@PySem.Value.ref 104) (@List.cons @PySem.Value @PySem.Value.none (@List.cons @PySem.Value @PySem.Value.none (@List.cons @PySem.Value @PySem.Value.none (@List.cons @PySem.Value (@PySem.Value.bool @Bool.false) (@List.cons @PySem.Value @PySem.Value.none (@List.nil @PySem.Value))))))))) (@List.toArray (@Option @PySem.Value) (@List.nil (@Option @PySem.Value))))
noncomputable def o143 (P : PySem.Params) : PySem.Obj := (@PySem.Obj.mk (@PySem.Value.type "range") (@Option.none @Nat) (@PySem.Data.fields (@List.toArray @PySem.Value (@List.cons @PySem.Value (@PySem.Value.int (@OfNat.ofNat @Int (nat_lit 0) (@instOfNat (nat_lit 0))) 376) (@List.cons @PySem.Value (@PySem.Value.int (@OfNat.ofNat @Int (nat_lit 6) (@instOfNat (nat_lit 6))) 388) (@List.cons @PySem.Value (@PySem.Value.int (@OfNat.ofNat @Int (nat_lit 1) (@instOfNat (nat_lit 1))) 389) (@List.nil @PySem.Value)))))) (@List.toArray (@Option @PySem.Value) (@List.nil (@Option @PySem.Value))))
noncomputable def o144 (P : PySem.Params) : PySem.Obj := (@PySem.Obj.mk (@PySem.Value.type "range_iterator") (@Option.none @Nat) (@PySem.Data.fields (@List.toArray @PySem.Value (@List.cons @PySem.Value (@PySem.Value.int (@OfNat.ofNat @Int (nat_lit 6) (@instOfNat (nat_lit 6))) 0) (@List.cons @PySem.Value (@PySem.Value.int (@OfNat.ofNat @Int (nat_lit 0) (@instOfNat (nat_lit 0))) 0) (@List.cons @PySem.Value (@PySem.Value.int (@OfNat.ofNat @Int (nat_lit 1) (@instOfNat (nat_lit 1))) 0) (@List.nil @PySem.Value)))))) (@List.toArray (@Option @PySem.Value) (@List.nil (@Option @PySem.Value))))
noncomputable def o145 (P : PySem.Params) : PySem.Obj := (@PySem.Obj.mk (@PySem.Value.type "tuple") (@Option.none @Nat) (@PySem.Data.seq (@List.toArray @PySem.Value (@List.nil @PySem.Value)) 0) (@List.toArray (@Option @PySem.Value) (@List.nil (@Option @PySem.Value))))
noncomputable def o146 (P : PySem.Params) : PySem.Obj := (@PySem.Obj.mk (@PySem.Value.type "StopIteration") (@Option.none @Nat) (@PySem.Data.fields (@List.toArray @PySem.Value (@List.cons @PySem.Value (@PySem.Value.ref 108) (@List.cons @PySem.Value @PySem.Value.none (@List.cons @PySem.Value @PySem.Value.none (@List.cons @PySem.Value @PySem.Value.none (@List.cons @PySem.Value (@PySem.Value.bool @Bool.false) (@List.cons @PySem.Value @PySem.Value.none (@List.nil @PySem.Value))))))))) (@List.toArray (@Option @PySem.Value) (@List.nil (@Option @PySem.Value))))
noncomputable def o147 (P : PySem.Params) : PySem.Obj := (@PySem.Obj.mk (@PySem.Value.type "tuple") (@Option.none @Nat) (@PySem.Data.seq (@List.toArray @PySem.Value (@List.cons @PySem.Value (@PySem.Value.int (@OfNat.ofNat @Int (nat_lit 0) (@instOfNat (nat_lit 0))) 423) (@List.cons @PySem.Value (@PySem.Value.int (@Neg.neg @Int @Int.instNegInt (@OfNat.ofNat @Int (nat_lit 1) (@instOfNat (nat_lit 1)))) 426) (@List.nil @PySem.Value)))) 0) (@List.toArray (@Option @PySem.Value) (@List.nil (@Option @PySem.Value))))
noncomputable def o148 (P : PySem.Params) : PySem.Obj := (@PySem.Obj.mk (@PySem.Value.type "tuple_iterator") (@Option.none @Nat) (@PySem.Data.fields (@List.toArray @PySem.Value (@List.cons @PySem.Value @PySem.Value.none (@List.cons @PySem.Value (@PySem.Value.int (@OfNat.ofNat @Int (nat_lit 2) (@instOfNat (nat_lit 2))) 0) (@List.nil @PySem.Value))))) (@List.toArray (@Option @PySem.Value) (@List.nil (@Option @PySem.Value))))
noncomputable def o149 (P : PySem.Params) : PySem.Obj := (@PySem.Obj.mk (@PySem.Value.type "list") (@Option.none @Nat) (@PySem.Data.seq (@List.toArray @PySem.Value (@List.nil @PySem.Value)) 2) (@List.toArray (@Option @PySem.Value) (@List.nil (@Option @PySem.Value))))
noncomputable def o150 (P : PySem.Params) : PySem.Obj := (@PySem.Obj.mk (@PySem.Value.type "tuple") (@Option.none @Nat) (@PySem.Data.seq (@List.toArray @PySem.Value (@List.nil @PySem.Value)) 0) (@List.toArray (@Option @PySem.Value) (@List.nil (@Option @PySem.Value))))
noncomputable def o151 (P : PySem.Params) : PySem.Obj := (@PySem.Obj.mk (@PySem.Value.type "StopIteration") (@Option.none @Nat) (@PySem.Data.fields (@List.toArray @PySem.Value (@List.cons @PySem.Value (@PySem.Value.ref 113) (@List.cons @PySem.Value @PySem.Value.none (@List.cons @PySem.Value @PySem.Value.none (@List.cons @PySem.Value @PySem.Value.none (@List.cons @PySem.Value (@PySem.Value.bool @Bool.false) (@List.cons @PySem.Value @PySem.Value.none (@List.nil @PySem.Value))))))))) (@List.toArray (@Option @PySem.Value) (@List.nil (@Option @PySem.Value))))
noncomputable def o152 (P : PySem.Params) : PySem.Obj := (@PySem.Obj.mk (@PySem.Value.type "tuple") (@Option.none @Nat) (@PySem.Data.seq (@List.toArray @PySem.Value (@List.cons @PySem.Value (@PySem.Value.int (@OfNat.ofNat @Int (nat_lit 6) (@instOfNat (nat_lit 6))) 421) (@List.cons @PySem.Value (@PySem.Value.int (@OfNat.ofNat @Int (nat_lit 7) (@instOfNat (nat_lit 7))) 429) (@List.nil @PySem.Value)))) 0) (@List.toArray (@Option @PySem.Value) (@List.nil (@Option @PySem.Value))))
noncomputable def o153 (P : PySem.Params) : PySem.Obj := (@PySem.Obj.mk (@PySem.Value.type "tuple_iterator") (@Option.none @Nat) (@PySem.Data.fields (@List.toArray @PySem.Value (@List.cons @PySem.Value @PySem.Value.none (@List.cons @PySem.Value (@PySem.Value.int (@OfNat.ofNat @Int (nat_lit 2) (@instOfNat (nat_lit 2))) 0) (@List.nil @PySem.Value))))) (@List.toArray (@Option @PySem.Value) (@List.nil (@Option @PySem.Value))))
noncomputable def o154 (P : PySem.Params) : PySem.Obj := (@PySem.Obj.mk (@PySem.Value.type "list") (@Option.none @Nat) (@PySem.Data.seq (@List.toArray @PySem.Value (@List.nil @PySem.Value)) 2) (@List.toArray (@Option @PySem.Value) (@List.nil (@Option @PySem.Value))))
noncomputable def o155 (P : PySem.Params) : PySem.Obj := (@PySem.Obj.mk (@PySem.Value.type "tuple") (@Option.none @Nat) (@PySem.Data.seq (@List.toArray @PySem.Value (@List.nil @PySem.Value)) 0) (@List.toArray (@Option @PySem.Value) (@List.nil (@Option @PySem.Value))))
noncomputable def o156 (P : PySem.Params) : PySem.Obj := (@PySem.Obj.mk (@PySem.Value.type "StopIteration") (@Option.none @Nat) (@PySem.Data.fields (@List.toArray @PySem.Value (@List.cons @PySem.Value (@PySem.Value.ref 118) (@List.cons @PySem.Value @PySem.Value.none (@List.cons @PySem.Value @PySem.Value.none (@List.cons @PySem.Value @PySem.Value.none (@List.cons @PySem.Value (@PySem.Value.bool @Bool.false) (@List.cons @PySem.Value @PySem.Value.none (@List.nil @PySem.Value))))))))) (@List.toArray (@Option @PySem.Value) (@List.nil (@Option @PySem.Value))))
noncomputable def o157 (P : PySem.Params) : PySem.Obj := (@PySem.Obj.mk (@PySem.Value.type "range") (@Option.none @Nat) (@PySem.Data.fields (@List.toArray @PySem.Value (@List.cons @PySem.Value (@PySem.Value.int (@OfNat.ofNat @Int (nat_lit 6) (@instOfNat (nat_lit 6))) 421) (@List.cons @PySem.Value (@PySem.Value.int (@Neg.neg @Int @Int.instNegInt (@OfNat.ofNat @Int (nat_lit 1) (@instOfNat (nat_lit 1)))) 435) (@List.cons @PySem.Value (@PySem.Value.int (@Neg.neg @Int @Int.instNegInt (@OfNat.ofNat @Int (nat_lit 1) (@instOfNat (nat_lit 1)))) 437) (@List.nil @PySem.Value)))))) (@List.toArray (@Option @PySem.Value) (@List.nil (@Option @PySem.Value))))
noncomputable def o158 (P : PySem.Params) : PySem.Obj := (@PySem.Obj.mk (@PySem.Value.type "range_iterator") (@Option.none @Nat) (@PySem.Data.fields (@List.toArray @PySem.Value (@List.cons @PySem.Value (@PySem.Value.int (@Neg.neg @Int @Int.instNegInt (@OfNat.ofNat @Int (nat_lit 1) (@instOfNat (nat_lit 1)))) 0) (@List.cons @PySem.Value (@PySem.Value.int (@OfNat.ofNat @Int (nat_lit 0) (@instOfNat (nat_lit 0))) 0) (@List.cons @PySem.Value (@PySem.Value.int (@Neg.neg @Int @Int.instNegInt (@OfNat.ofNat @Int (nat_lit 1) (@instOfNat (nat_lit 1)))) 0) (@List.nil @PySem.Value)))))) (@List.toArray (@Option @PySem.Value) (@List.nil (@Option @PySem.Value))))
noncomputable def o159 (P : PySem.Params) : PySem.Obj := (@PySem.Obj.mk (@PySem.Value.type "tuple") (@Option.none @Nat) (@PySem.Data.seq (@List.toArray @PySem.Value (@List.nil @PySem.Value)) 0) (@List.toArray (@Option @PySem.Value) (@List.nil (@Option @PySem.Value))))
noncomputable def o160 (P : PySem.Params) : PySem.Obj := (@PySem.Obj.mk (@PySem.Value.type "StopIteration") (@Option.none @Nat) (@PySem.Data.fields (@List.toArray @PySem.Value (@List.cons @PySem.Value (@PySem.Value.ref 122) (@List.cons @PySem.Value @PySem.Value.none (@List.cons @PySem.Value @PySem.Value.none (@List.cons @PySem.Value @PySem.Value.none (@List.cons @PySem.Value (@PySem.Value.bool @Bool.false) (@List.cons @PySem.Value @PySem.Value.none (@List.nil @PySem.Value))))))))) (@List.toArray (@Option @PySem.Value) (@List.nil (@Option @PySem.Value))))
noncomputable def o161 (P : PySem.Params) : PySem.Obj := (@PySem.Obj.mk (@PySem.Value.type "tuple") (@Option.none @Nat) (@PySem.Data.seq (@List.toArray @PySem.Value (@List.cons @PySem.Value (@PySem.Value.int (@OfNat.ofNat @Int (nat_lit 0) (@instOfNat (nat_lit 0))) 476) (@List.cons @PySem.Value (@PySem.Value.int (@OfNat.ofNat @Int (nat_lit 0) (@instOfNat (nat_lit 0))) 479) (@List.nil @PySem.Value)))) 0) (@List.toArray (@Option @PySem.Value) (@List.nil (@Option @PySem.Value))))
noncomputable def o162 (P : PySem.Params) : PySem.Obj := (@PySem.Obj.mk (@PySem.Value.type "tuple_iterator") (@Option.none @Nat) (@PySem.Data.fields (@List.toArray @PySem.Value (@List.cons @PySem.Value @PySem.Value.none (@List.cons @PySem.Value (@PySem.Value.int (@OfNat.ofNat @Int (nat_lit 2) (@instOfNat (nat_lit 2))) 0) (@List.nil @PySem.Value))))) (@List.toArray (@Option @PySem.Value) (@List.nil (@Option @PySem.Value))))
noncomputable def o163 (P : PySem.Params) : PySem.Obj := (@PySem.Obj.mk (@PySem.Value.type "list") (@Option.none @Nat) (@PySem.Data.seq (@List.toArray @PySem.Value (@List.nil @PySem.Value)) 2) (@List.toArray (@Option @PySem.Value) (@List.nil (@Option @PySem.Value))))
noncomputable def o164 (P : PySem.Params) : PySem.Obj := (@PySem.Obj.mk (@PySem.Value.type "tuple") (@Option.none @Nat) (@PySem.Data.seq (@List.toArray @PySem.Value (@List.nil @PySem.Value)) 0) (@List.toArray (@Option @PySem.Value) (@List.nil (@Option @PySem.Value))))
noncomputable def o165 (P : PySem.Params) : PySem.Obj := (@PySem.Obj.mk (@PySem.Value.type "StopIteration") (@Option.none @Nat) (@PySem.Data.fields (@List.toArray @PySem.Value (@List.cons @PySem.Value (@PySem.Value.ref 127) (@List.cons @PySem.Value @PySem.Value.none (@List.cons @PySem.Value @PySem.Value.none (@List.cons @PySem.Value @PySem.Value.none (@List.cons @PySem.Value (@PySem.Value.bool @Bool.false) (@List.cons @PySem.Value @PySem.Value.none (@List.nil @PySem.Value))))))))) (@List.toArray (@Option @PySem.Value) (@List.nil (@Option @PySem.Value))))
noncomputable def o166 (P : PySem.Params) : PySem.Obj := (@PySem.Obj.mk (@PySem.Value.type "tuple") (@Option.none @Nat) (@PySem.Data.seq (@List.toArray @PySem.Value (@List.cons @PySem.Value (@PySem.Value.int (@OfNat.ofNat @Int (nat_lit 7) (@instOfNat (nat_lit 7))) 474) (@List.cons @PySem.Value (@PySem.Value.int (@OfNat.ofNat @Int (nat_lit 7) (@instOfNat (nat_lit 7))) 482) (@List.nil @PySem.Value)))) 0) (@List.toArray (@Option @PySem.Value) (@List.nil (@Option @PySem.Value))))
noncomputable def o167 (P : PySem.Params) : PySem.Obj := (@PySem.Obj.mk (@PySem.Value.type "tuple_iterator") (@Option.none @Nat) (@PySem.Data.fields (@List.toArray @PySem.Value (@List.cons @PySem.Value @PySem.Value.none (@List.cons @PySem.Value (@PySem.Value.int (@OfNat.ofNat @Int (nat_lit 2) (@instOfNat (nat_lit 2))) 0) (@List.nil @PySem.Value))))) (@List.toArray (@Option @PySem.Value) (@List.nil (@Option @PySem.Value))))
noncomputable def o168 (P : PySem.Params) : PySem.Obj := (@PySem.Obj.mk (@PySem.Value.type "list") (@Option.none @Nat) (@PySem.Data.seq (@List.toArray @PySem.Value (@List.nil @PySem.Value)) 2) (@List.toArray (@Option @PySem.Value) (@List.nil (@Option @PySem.Value))))
noncomputable def o169 (P : PySem.Params) : PySem.Obj := (@PySem.Obj.mk (@PySem.Value.type "tuple") (@Option.none @Nat) (@PySem.Data.seq (@List.toArray @PySem.Value (@List.nil @PySem.Value)) 0) (@List.toArray (@Option @PySem.Value) (@List.nil (@Option @PySem.Value))))
noncomputable def o170 (P : PySem.Params) : PySem.Obj := (@PySem.Obj.mk (@PySem.Value.type "StopIteration") (@Option.none @Nat) (@PySem.Data.fields (@List.toArray @PySem.Value (@List.cons @PySem.Value (@PySem.Value.ref 132) (@List.cons @PySem.Value @PySem.Value.none (@List.cons @PySem.Value @PySem.Value.none (@List.cons @PySem.Value @PySem.Value.none (@List.cons @PySem.Value (@PySem.Value.bool @Bool.false) (@List.cons @PySem.Value @PySem.Value.none (@List.nil @PySem.Value))))))))) (@List.toArray (@Option @PySem.Value) (@List.nil (@Option @PySem.Value))))
noncomputable def o171 (P : PySem.Params) : PySem.Obj := (@PySem.Obj.mk (@PySem.Value.type "range") (@Option.none @Nat) (@PySem.Data.fields (@List.toArray @PySem.Value (@List.cons @PySem.Value (@PySem.Value.int (@OfNat.ofNat @Int (nat_lit 0) (@instOfNat (nat_lit 0))) 476) (@List.cons @PySem.Value (@PySem.Value.int (@OfNat.ofNat @Int (nat_lit 8) (@instOfNat (nat_lit 8))) 488) (@List.cons @PySem.Value (@PySem.Value.int (@OfNat.ofNat @Int (nat_lit 1) (@instOfNat (nat_lit 1))) 489) (@List.nil @PySem.Value)))))) (@List.toArray (@Option @PySem.Value) (@List.nil (@Option @PySem.Value))))
noncomputable def o172 (P : PySem.Params) : PySem.Obj := (@PySem.Obj.mk (@PySem.Value.type "range_iterator") (@Option.none @Nat) (@PySem.Data.fields (@List.toArray @PySem.Value (@List.cons @PySem.Value (@PySem.Value.int (@OfNat.ofNat @Int (nat_lit 8) (@instOfNat (nat_lit 8))) 0) (@List.cons @PySem.Value (@PySem.Value.int (@OfNat.ofNat @Int (nat_lit 0) (@instOfNat (nat_lit 0))) 0) (@List.cons @PySem.Value (@PySem.Value.int (@OfNat.ofNat @Int (nat_lit 1) (@instOfNat (nat_lit 1))) 0) (@List.nil @PySem.Value)))))) (@List.toArray (@Option @PySem.Value) (@List.nil (@Option @PySem.Value))))
noncomputable def o173 (P : PySem.Params) : PySem.Obj := (@PySem.Obj.mk (@PySem.Value.type "tuple") (@Option.none @Nat) (@PySem.Data.seq (@List.toArray @PySem.Value (@List.nil @PySem.Value)) 0) (@List.toArray (@Option @PySem.Value) (@List.nil (@Option @PySem.Value))))
noncomputable def o174 (P : PySem.Params) : PySem.Obj := (@PySem.Obj.mk (@PySem.Value.type "StopIteration") (@Option.none @Nat) (@PySem.Data.fields (@List.toArray @PySem.Value (@List.cons @PySem.Value (@PySem.Value.ref 136) (@List.cons @PySem.Value @PySem.Value.none (@List.cons @PySem.Value @PySem.Value.none (@List.cons @PySem.Value @PySem.Value.none (@List.cons @PySem.Value (@PySem.Value.bool @Bool.false) (@List.cons @PySem.Value @PySem.Value.none (@List.nil @PySem.Value))))))))) (@List.toArray (@Option @PySem.Value) (@List.nil (@Option @PySem.Value))))
noncomputable def o175 (P : PySem.Params) : PySem.Obj := (@PySem.Obj.mk (@PySem.Value.type "tuple") (@Option.none @Nat) (@PySem.Data.seq (@List.toArray @PySem.Value (@List.cons @PySem.Value (@PySem.Value.int (@OfNat.ofNat @Int (nat_lit 0) (@instOfNat (nat_lit 0))) 533) (@List.cons @PySem.Value (@PySem.Value.int (@OfNat.ofNat @Int (nat_lit 1) (@instOfNat (nat_lit 1))) 536) (@List.nil @PySem.Value)))) 0) (@List.toArray (@Option @PySem.Value) (@List.nil (@Option @PySem.Value))))
noncomputable def o176 (P : PySem.Params) : PySem.Obj := (@PySem.Obj.mk (@PySem.Value.type "tuple_iterator") (@Option.none @Nat) (@PySem.Data.fields (@List.toArray @PySem.Value (@List.cons @PySem.Value @PySem.Value.none (@List.cons @PySem.Value (@PySem.Value.int (@OfNat.ofNat @Int (nat_lit 2) (@instOfNat (nat_lit 2))) 0) (@List.nil @PySem.Value))))) (@List.toArray (@Option @PySem.Value) (@List.nil (@Option @PySem.Value))))
noncomputable def o177 (P : PySem.Params) : PySem.Obj := (@PySem.Obj.mk (@PySem.Value.type "list") (@Option.none @Nat) (@PySem.Data.seq (@List.toArray @PySem.Value (@List.nil @PySem.Value)) 2) (@List.toArray (@Option @PySem.Value) (@List.nil (@Option @PySem.Value))))
noncomputable def o178 (P : PySem.Params) : PySem.Obj := (@PySem.Obj.mk (@PySem.Value.type "tuple") (@Option.none @Nat) (@PySem.Data.seq (@List.toArray @PySem.Value (@List.nil @PySem.Value)) 0) (@List.toArray (@Option @PySem.Value) (@List.nil (@Option @PySem.Value))))
noncomputable def o179 (P : PySem.Params) : PySem.Obj := (@PySem.Obj.mk (@PySem.Value.type "StopIteration") (@Option.none @Nat) (@PySem.Data.fields (@List.toArray @PySem.Value (@List.cons @PySem.Value (@PySem.Value.ref 141) (@List.cons @PySem.Value @PySem.Value.none (@List.cons @PySem.Value @PySem.Value.none (@List.cons @PySem.Value @PySem.Value.none (@List.cons @PySem.Value (@PySem.Value.bool @Bool.false) (@List.cons @PySem.Value @PySem.Value.none (@List.nil @PySem.Value))))))))) (@List.toArray (@Option @PySem.Value) (@List.nil (@Option @PySem.Value))))
noncomputable def o180 (P : PySem.Params) : PySem.Obj := (@PySem.Obj.mk (@PySem.Value.type "tuple") (@Option.none @Nat) (@PySem.Data.seq (@List.toArray @PySem.Value (@List.cons @PySem.Value (@PySem.Value.int (@OfNat.ofNat @Int (nat_lit 8) (@instOfNat (nat_lit 8))) 531) (@List.cons @PySem.Value (@PySem.Value.int (@OfNat.ofNat @Int (nat_lit 7) (@instOfNat (nat_lit 7))) 539) (@List.nil @PySem.Value)))) 0) (@List.toArray (@Option @PySem.Value) (@List.nil (@Option @PySem.Value))))
noncomputable def o181 (P : PySem.Params) : PySem.Obj := (@PySem.Obj.mk (@PySem.Value.type "tuple_iterator") (@Option.none @Nat) (@PySem.Data.fields (@List.toArray @PySem.Value (@List.cons @PySem.Value @PySem.Value.none (@List.cons @PySem.Value (@PySem.Value.int (@OfNat.ofNat @Int (nat_lit 2) (@instOfNat (nat_lit 2))) 0) (@List.nil @PySem.Value))))) (@List.toArray (@Option @PySem.Value) (@List.nil (@Option @PySem.Value))))
noncomputable def o182 (P : PySem.Params) : PySem.Obj := (@PySem.Obj.mk (@PySem.Value.type "list") (@Option.none @Nat) (@PySem.Data.seq (@List.toArray @PySem.Value (@List.nil @PySem.Value)) 2) (@List.toArray (@Option @PySem.Value) (@List.nil (@Option @PySem.Value))))
noncomputable def o183 (P : PySem.Params) : PySem.Obj := (@PySem.Obj.mk (@PySem.Value.type "tuple") (@Option.none @Nat) (@PySem.Data.seq (@List.toArray @PySem.Value (@List.nil @PySem.Value)) 0) (@List.toArray (@Option @PySem.Value) (@List.nil (@Option @PySem.Value))))
noncomputable def o184 (P : PySem.Params) : PySem.Obj := (@PySem.Obj.mk (@PySem.Value.type "StopIteration") (@Option.none @Nat) (@PySem.Data.fields (@List.toArray @PySem.Value (@List.cons @PySem.Value (@PySem.Value.ref 146) (@List.cons @PySem.Value @PySem.Value.none (@List.cons @PySem.Value @PySem.Value.none (@List.cons @PySem.Value @PySem.Value.none (@List.cons @PySem.Value (@PySem.Value.bool @Bool.false) (@List.cons @PySem.Value @PySem.Value.none (@List.nil @PySem.Value))))))))) (@List.toArray (@Option @PySem.Value) (@List.nil (@Option @PySem.Value))))
noncomputable def o185 (P : PySem.Params) : PySem.Obj := (@PySem.Obj.mk (@PySem.Value.type "range") (@Option.none @Nat) (@PySem.Data.fields (@List.toArray @PySem.Value (@List.cons @PySem.Value (@PySem.Value.int (@OfNat.ofNat @Int (nat_lit 7) (@instOfNat (nat_lit 7))) 539) (@List.cons @PySem.Value (@PySem.Value.int (@OfNat.ofNat @Int (nat_lit 0) (@instOfNat (nat_lit 0))) 545) (@List.cons @PySem.Value (@PySem.Value.int (@Neg.neg @Int @Int.instNegInt (@OfNat.ofNat @Int (nat_lit 1) (@instOfNat (nat_lit 1)))) 547) (@List.nil @PySem.Value)))))) (@List.toArray (@Option @PySem.Value) (@List.nil (@Option @PySem.Value))))
noncomputable def o186 (P : PySem.Params) : PySem.Obj := (@PySem.Obj.mk (@PySem.Value.type "range_iterator") (@Option.none @Nat) (@PySem.Data.fields (@List.toArray @PySem.Value (@List.cons @PySem.Value (@PySem.Value.int (@OfNat.ofNat @Int (nat_lit 0) (@instOfNat (nat_lit 0))) 0) (@List.cons @PySem.Value (@PySem.Value.int (@OfNat.ofNat @Int (nat_lit 0) (@instOfNat (nat_lit 0))) 0) (@List.cons @PySem.Value (@PySem.Value.int (@Neg.neg @Int @Int.instNegInt (@OfNat.ofNat @Int (nat_lit 1) (@instOfNat (nat_lit 1)))) 0) (@List.nil @PySem.Value)))))) (@List.toArray (@Option @PySem.Value) (@List.nil (@Option @PySem.Value))))
noncomputable def o187 (P : PySem.Params) : PySem.Obj := (@PySem.Obj.mk (@PySem.Value.type "tuple") (@Option.none @Nat) (@PySem.Data.seq (@List.toArray @PySem.Value (@List.nil @PySem.Value)) 0) (@List.toArray (@Option @PySem.Value) (@List.nil (@Option @PySem.Value))))
noncomputable def o188 (P : PySem.Params) : PySem.Obj := (@PySem.Obj.mk (@PySem.Value.type "StopIteration") (@Option.none @Nat) (@PySem.Data.fields (@List.toArray @PySem.Value (@List.cons @PySem.Value (@PySem.Value.ref 150) (@List.cons @PySem.Value @PySem.Value.none (@List.cons @PySem.Value @PySem.Value.none (@List.cons @PySem.Value @PySem.Value.none (@List.cons @PySem.Value (@PySem.Value.bool @Bool.false) (@List.cons @PySem.Value @PySem.Value.none (@List.nil @PySem.Value))))))))) (@List.toArray (@Option @PySem.Value) (@List.nil (@Option @PySem.Value))))
noncomputable def o189 (P : PySem.Params) : PySem.Obj := (@PySem.Obj.mk (@PySem.Value.type "tuple") (@Option.none @Nat) (@PySem.Data.seq (@List.toArray @PySem.Value (@List.cons @PySem.Value (@PySem.Value.int (@OfNat.ofNat @Int (nat_lit 0) (@instOfNat (nat_lit 0))) 586) (@List.cons @PySem.Value (@PySem.Value.int (@OfNat.ofNat @Int (nat_lit 2) (@instOfNat (nat_lit 2))) 589) (@List.nil @PySem.Value)))) 0) (@List.toArray (@Option @PySem.Value) (@List.nil (@Option @PySem.Value))))
noncomputable def o190 (P : PySem.Params) : PySem.Obj := (@PySem.Obj.mk (@PySem.Value.type "tuple_iterator") (@Option.none @Nat) (@PySem.Data.fields (@List.toArray @PySem.Value (@List.cons @PySem.Value @PySem.Value.none (@List.cons @PySem.Value (@PySem.Value.int (@OfNat.ofNat @Int (nat_lit 2) (@instOfNat (nat_lit 2))) 0) (@List.nil @PySem.Value))))) (@List.toArray (@Option @PySem.Value) (@List.nil (@Option @PySem.Value))))
noncomputable def o191 (P : PySem.Params) : PySem.Obj := (@PySem.Obj.mk (@PySem.Value.type "list") (@Option.none @Nat) (@PySem.Data.seq (@List.toArray @PySem.Value (@List.nil @PySem.Value)) 2) (@List.toArray (@Option @PySem.Value) (@List.nil (@Option @PySem.Value))))
noncomputable def o192 (P : PySem.Params) : PySem.Obj := (@PySem.Obj.mk (@PySem.Value.type "tuple") (@Option.none @Nat) (@PySem.Data.seq (@List.toArray @PySem.Value (@List.nil @PySem.Value)) 0) (@List.toArray (@Option @PySem.Value) (@List.nil (@Option @PySem.Value))))
noncomputable def o193 (P : PySem.Params) : PySem.Obj := (@PySem.Obj.mk (@PySem.Value.type "StopIteration") (@Option.none @Nat) (@PySem.Data.fields (@List.toArray @PySem.Value (@List.cons @PySem.Value (@PySem.Value.ref 155) (@List.cons @PySem.Value @PySem.Value.none (@List.cons @PySem.Value @PySem.Value.none (@List.cons @PySem.Value @PySem.Value.none (@List.cons @PySem.Value (@PySem.Value.bool @Bool.false) (@List.cons @PySem.Value @PySem.Value.none (@List.nil @PySem.Value))))))))) (@List.toArray (@Option @PySem.Value) (@List.nil (@Option @PySem.Value))))
noncomputable def o194 (P : PySem.Params) : PySem.Obj := (@PySem.Obj.mk (@PySem.Value.type "tuple") (@Option.none @Nat) (@PySem.Data.seq (@List.toArray @PySem.Value (@List.cons @PySem.Value (@PySem.Value.int (@OfNat.ofNat @Int (nat_lit 9) (@instOfNat (nat_lit 9))) 584) (@List.cons @PySem.Value (@PySem.Value.int (@OfNat.ofNat @Int (nat_lit 7) (@instOfNat (nat_lit 7))) 592) (@List.nil @PySem.Value)))) 0) (@List.toArray (@Option @PySem.Value) (@List.nil (@Option @PySem.Value))))
noncomputable def o195 (P : PySem.Params) : PySem.Obj := (@PySem.Obj.mk (@PySem.Value.type "tuple_iterator") (@Option.none @Nat) (@PySem.Data.fields (@List.toArray @PySem.Value (@List.cons @PySem.Value @PySem.Value.none (@List.cons @PySem.Value (@PySem.Value.int (@OfNat.ofNat @Int (nat_lit 2) (@instOfNat (nat_lit 2))) 0) (@List.nil @PySem.Value))))) (@List.toArray (@Option @PySem.Value) (@List.nil (@Option @PySem.Value))))
noncomputable def o196 (P : PySem.Params) : PySem.Obj := (@PySem.Obj.mk (@PySem.Value.type "list") (@Option.none @Nat) (@PySem.Data.seq (@List.toArray @PySem.Value (@List.nil @PySem.Value)) 2) (@List.toArray (@Option @PySem.Value) (@List.nil (@Option @PySem.Value))))
noncomputable def o197 (P : PySem.Params) : PySem.Obj := (@PySem.Obj.mk (@PySem.Value.type "tuple") (@Option.none @Nat) (@PySem.Data.seq (@List.toArray @PySem.Value (@List.nil @PySem.Value)) 0) (@List.toArray (@Option @PySem.Value) (@List.nil (@Option @PySem.Value))))
noncomputable def o198 (P : PySem.Params) : PySem.Obj := (@PySem.Obj.mk (@PySem.Value.type "StopIteration") (@Option.none @Nat) (@PySem.Data.fields (@List.toArray @PySem.Value (@List.cons @PySem.Value (@PySem.Value.ref 160) (@List.cons @PySem.Value @PySem.Value.none (@List.cons @PySem.Value @PySem.Value.none (@List.cons @PySem.Value @PySem.Value.none (@List.cons @PySem.Value (@PySem.Value.bool @Bool.false) (@List.cons @PySem.Value @PySem.Value.none (@List.nil @PySem.Value))))))))) (@List.toArray (@Option @PySem.Value) (@List.nil (@Option @PySem.Value))))
noncomputable def o199 (P : PySem.Params) : PySem.Obj := (@PySem.Obj.mk (@PySem.Value.type "range") (@Option.none @Nat) (@PySem.Data.fields (@List.toArray @PySem.Value (@List.cons @PySem.Value (@PySem.Value.int (@OfNat.ofNat @Int (nat_lit 2) (@instOfNat (nat_lit 2))) 589) (@List.cons @PySem.Value (@PySem.Value.int (@OfNat.ofNat @Int (nat_lit 8) (@instOfNat (nat_lit 8))) 598) (@List.cons @PySem.Value (@PySem.Value.int (@OfNat.ofNat @Int (nat_lit 1) (@instOfNat (nat_lit 1))) 599) (@List.nil @PySem.Value)))))) (@List.toArray (@Option @PySem.Value) (@List.nil (@Option @PySem.Value))))
noncomputable def o200 (P : PySem.Params) : PySem.Obj := (@PySem.Obj.mk (@PySem.Value.type "range_iterator") (@Option.none @Nat) (@PySem.Data.fields (@List.toArray @PySem.Value (@List.cons @PySem.Value (@PySem.Value.int (@OfNat.ofNat @Int (nat_lit 8) (@instOfNat (nat_lit 8))) 0) (@List.cons @PySem.Value (@PySem.Value.int (@OfNat.ofNat @Int (nat_lit 0) (@instOfNat (nat_lit 0))) 0) (@List.cons @PySem.Value (@PySem.Value.int (@OfNat.ofNat @Int (nat_lit 1) (@instOfNat (nat_lit 1))) 0) (@List.nil @PySem.Value)))))) (@List.toArray (@Option @PySem.Value) (@List.nil (@Option @PySem.Value))))
noncomputable def o201 (P : PySem.Params) : PySem.Obj := (@PySem.Obj.mk (@PySem.Value.type "tuple") (@Option.none @Nat) (@PySem.Data.seq (@List.toArray @PySem.Value (@List.nil @PySem.Value)) 0) (@List.toArray (@Option @PySem.Value) (@List.nil (@Option @PySem.Value))))
noncomputable def o202 (P : PySem.Params) : PySem.Obj := (@PySem.Obj.mk (@PySem.Value.type "StopIteration") (@Option.none @Nat) (@PySem.Data.fields (@List.toArray @PySem.Value (@List.cons @PySem.Value (@PySem.Value.ref 164) (@List.cons @PySem.Value @PySem.Value.none (@List.cons @PySem.Value @PySem.Value.none (@List.cons @PySem.Value @PySem.Value.none (@List.cons @PySem.Value (@PySem.Value.bool @Bool.false) (@List.cons @PySem.Value @PySem.Value.none (@List.nil @PySem.Value))))))))) (@List.toArray (@Option @PySem.Value) (@List.nil (@Option @PySem.Value))))
noncomputable def o203 (P : PySem.Params) : PySem.Obj := (@PySem.Obj.mk (@PySem.Value.type "tuple") (@Option.none @Nat) (@PySem.Data.seq (@List.toArray @PySem.Value (@List.cons @PySem.Value (@PySem.Value.int (@OfNat.ofNat @Int (nat_lit 0) (@instOfNat (nat_lit 0))) 633) (@List.cons @PySem.Value (@PySem.Value.int (@OfNat.ofNat @Int (nat_lit 3) (@instOfNat (nat_lit 3))) 636) (@List.nil @PySem.Value)))) 0) (@List.toArray (@Option @PySem.Value) (@List.nil (@Option @PySem.Value))))
noncomputable def o204 (P : PySem.Params) : PySem.Obj := (@PySem.Obj.mk (@PySem.Value.type "tuple_iterator") (@Option.none @Nat) (@PySem.Data.fields (@List.toArray @PySem.Value (@List.cons @PySem.Value @PySem.Value.none (@List.cons @PySem.Value (@PySem.Value.int (@OfNat.ofNat @Int (nat_lit 2) (@instOfNat (nat_lit 2))) 0) (@List.nil @PySem.Value))))) (@List.toArray (@Option @PySem.Value) (@List.nil (@Option @PySem.Value))))
noncomputable def o205 (P : PySem.Params) : PySem.Obj := (@PySem.Obj.mk (@PySem.Value.type "list") (@Option.none @Nat) (@PySem.Data.seq (@List.toArray @PySem.Value (@List.nil @PySem.Value)) 2) (@List.toArray (@Option @PySem.Value) (@List.nil (@Option @PySem.Value))))
noncomputable def o206 (P : PySem.Params) : PySem.Obj := (@PySem.Obj.mk (@PySem.Value.type "tuple") (@Option.none @Nat) (@PySem.Data.seq (@List.toArray @PySem.Value (@List.nil @PySem.Value)) 0) (@List.toArray (@Option @PySem.Value) (@List.nil (@Option @PySem.Value))))
noncomputable def o207 (P : PySem.Params) : PySem.Obj := (@PySem.Obj.mk (@PySem.Value.type "StopIteration") (@Option.none @Nat) (@PySem.Data.fields (@List.toArray @PySem.Value (@List.cons @PySem.Value (@PySem.Value.ref 169) (@List.cons @PySem.Value @PySem.Value.none (@List.cons @PySem.Value @PySem.Value.none (@List.cons @PySem.Value @PySem.Value.none (@List.cons @PySem.Value (@PySem.Value.bool @Bool.false) (@List.cons @PySem.Value @PySem.Value.none (@List.nil @PySem.Value))))))))) (@List.toArray (@Option @PySem.Value) (@List.nil (@Option @PySem.Value))))
noncomputable def o208 (P : PySem.Params) : PySem.Obj := (@PySem.Obj.mk (@PySem.Value.type "tuple") (@Option.none @Nat) (@PySem.Data.seq (@List.toArray @PySem.Value (@List.cons @PySem.Value (@PySem.Value.int (@OfNat.ofNat @Int (nat_lit 10) (@instOfNat (nat_lit 10))) 631) (@List.cons @PySem.Value (@PySem.Value.int (@OfNat.ofNat @Int (nat_lit 7) (@instOfNat (nat_lit 7))) 639) (@List.nil @PySem.Value)))) 0) (@List.toArray (@Option @PySem.Value) (@List.nil (@Option @PySem.Value))))
noncomputable def o209 (P : PySem.Params) : PySem.Obj := (@PySem.Obj.mk (@PySem.Value.type "tuple_iterator") (@Option.none @Nat) (@PySem.Data.fields (@List.toArray @PySem.Value (@List.cons @PySem.Value @PySem.Value.none (@List.cons @PySem.Value (@PySem.Value.int (@OfNat.ofNat @Int (nat_lit 2) (@instOfNat (nat_lit 2))) 0) (@List.nil @PySem.Value))))) (@List.toArray (@Option @PySem.Value) (@List.nil (@Option @PySem.Value))))
noncomputable def o210 (P : PySem.Params) : PySem.Obj := (@PySem.Obj.mk (@PySem.Value.type "list") (@Option.none @Nat) (@PySem.Data.seq (@List.toArray @PySem.Value (@List.nil @PySem.Value)) 2) (@List.toArray (@Option @PySem.Value) (@List.nil (@Option @PySem.Value))))
noncomputable def o211 (P : PySem.Params) : PySem.Obj := (@PySem.Obj.mk (@PySem.Value.type "tuple") (@Option.none @Nat) (@PySem.Data.seq (@List.toArray @PySem.Value (@List.nil @PySem.Value)) 0) (@List.toArray (@Option @PySem.Value) (@List.nil (@Option @PySem.Value))))
noncomputable def o212 (P : PySem.Params) : PySem.Obj := (@PySem.Obj.mk (@PySem.Value.type "StopIteration") (@Option.none @Nat) (@PySem.Data.fields (@List.toArray @PySem.Value (@List.cons @PySem.Value (@PySem.Value.ref 174) (@List.cons @PySem.Value @PySem.Value.none (@List.cons @PySem.Value @PySem.Value.none (@List.cons @PySem.Value @PySem.Value.none (@List.cons @PySem.Value (@PySem.Value.bool @Bool.false) (@List.cons @PySem.Value @PySem.Value.none (@List.nil @PySem.Value))))))))) (@List.toArray (@Option @PySem.Value) (@List.nil (@Option @PySem.Value))))
noncomputable def o213 (P : PySem.Params) : PySem.Obj := (@PySem.Obj.mk (@PySem.Value.type "range") (@Option.none @Nat) (@PySem.Data.fields (@List.toArray @PySem.Value (@List.cons @PySem.Value (@PySem.Value.int (@OfNat.ofNat @Int (nat_lit 7) (@instOfNat (nat_lit 7))) 639) (@List.cons @PySem.Value (@PySem.Value.int (@OfNat.ofNat @Int (nat_lit 2) (@instOfNat (nat_lit 2))) 645) (@List.cons @PySem.Value (@PySem.Value.int (@Neg.neg @Int @Int.instNegInt (@OfNat.ofNat @Int (nat_lit 1) (@instOfNat (nat_lit 1)))) 647) (@List.nil @PySem.Value)))))) (@List.toArray (@Option @PySem.Value) (@List.nil (@Option @PySem.Value))))
noncomputable def o214 (P : PySem.Params) : PySem.Obj := (@PySem.Obj.mk (@PySem.Value.type "range_iterator") (@Option.none @Nat) (@PySem.Data.fields (@List.toArray @PySem.Value (@List.cons @PySem.Value (@PySem.Value.int (@OfNat.ofNat @Int (nat_lit 2) (@instOfNat (nat_lit 2))) 0) (@List.cons @PySem.Value (@PySem.Value.int (@OfNat.ofNat @Int (nat_lit 0) (@instOfNat (nat_lit 0))) 0) (@List.cons @PySem.Value (@PySem.Value.int (@Neg.neg @Int @Int.instNegInt (@OfNat.ofNat @Int (nat_lit 1) (@instOfNat (nat_lit 1)))) 0) (@List.nil @PySem.Value)))))) (@List.toArray (@Option @PySem.Value) (@List.nil (@Option @PySem.Value))))
noncomputable def o215 (P : PySem.Params) : PySem.Obj := (@PySem.Obj.mk (@PySem.Value.type "tuple") (@Option.none @Nat) (@PySem.Data.seq (@List.toArray @PySem.Value (@List.nil @PySem.Value)) 0) (@List.toArray (@Option @PySem.Value) (@List.nil (@Option @PySem.Value))))
noncomputable def o216 (P : PySem.Params) : PySem.Obj := (@PySem.Obj.mk (@PySem.Value.type "StopIteration") (@Option.none @Nat) (@PySem.Data.fields (@List.toArray @PySem.Value (@List.cons @PySem.Value (@PySem.Value.ref 178) (@List.cons @PySem.Value @PySem.Value.none (@List.cons @PySem.Value @PySem.Value.none (@List.cons @PySem.Value @PySem.Value.none (@List.cons @PySem.Value (@PySem.Value.bool @Bool.false) (@List.cons @PySem.Value @PySem.Value.none (@List.nil @PySem.Value))))))))) (@List.toArray (@Option @PySem.Value) (@List.nil (@Option @PySem.Value))))
noncomputable def o217 (P : PySem.Params) : PySem.Obj := (@PySem.Obj.mk (@PySem.Value.type "tuple") (@Option.none @Nat) (@PySem.Data.seq (@List.toArray @PySem.Value (@List.cons @PySem.Value (@PySem.Value.int (@OfNat.ofNat @Int (nat_lit 0) (@instOfNat (nat_lit 0))) 676) (@List.cons @PySem.Value (@PySem.Value.int (@OfNat.ofNat @Int (nat_lit 4) (@instOfNat (nat_lit 4))) 679) (@List.nil @PySem.Value)))) 0) (@List.toArray (@Option @PySem.Value) (@List.nil (@Option @PySem.Value))))
noncomputable def o218 (P : PySem.Params) : PySem.Obj := (@PySem.Obj.mk (@PySem.Value.type "tuple_iterator") (@Option.none @Nat) (@PySem.Data.fields (@List.toArray @PySem.Value (@List.cons @PySem.Value @PySem.Value.none (@List.cons @PySem.Value (@PySem.Value.int (@OfNat.ofNat @Int (nat_lit 2) (@instOfNat (nat_lit 2))) 0) (@List.nil @PySem.Value))))) (@List.toArray (@Option @PySem.Value) (@List.nil (@Option @PySem.Value))))
noncomputable def o219 (P : PySem.Params) : PySem.Obj := (@PySem.Obj.mk (@PySem.Value.type "list") (@Option.none @Nat) (@PySem.Data.seq (@List.toArray @PySem.Value (@List.nil @PySem.Value)) 2) (@List.toArray (@Option @PySem.Value) (@List.nil (@Option @PySem.Value))))
noncomputable def o220 (P : PySem.Params) : PySem.Obj := (@PySem.Obj.mk (@PySem.Value.type "tuple") (@Option.none @Nat) (@PySem.Data.seq (@List.toArray @PySem.Value (@List.nil @PySem.Value)) 0) (@List.toArray (@Option @PySem.Value) (@List.nil (@Option @PySem.Value))))
noncomputable def o221 (P : PySem.Params) : PySem.Obj := (@PySem.Obj.mk (@PySem.Value.type "StopIteration") (@Option.none @Nat) (@PySem.Data.fields (@List.toArray @PySem.Value (@List.cons @PySem.Value (@PySem.Value.ref 183) (@List.cons @PySem.Value @PySem.Value.none (@List.cons @PySem.Value @PySem.Value.none (@List.cons @PySem.Value @PySem.Value.none (@List.cons @PySem.Value (@PySem.Value.bool @Bool.false) (@List.cons @PySem.Value @PySem.Value.none (@List.nil @PySem.Value))))))))) (@List.toArray (@Option @PySem.Value) (@List.nil (@Option @PySem.Value))))
noncomputable def o222 (P : PySem.Params) : PySem.Obj := (@PySem.Obj.mk (@PySem.Value.type "tuple") (@Option.none @Nat) (@PySem.Data.seq (@List.toArray @PySem.Value (@List.cons @PySem.Value (@PySem.Value.int (@OfNat.ofNat @Int (nat_lit 11) (@instOfNat (nat_lit 11))) 674) (@List.cons @PySem.Value (@PySem.Value.int (@OfNat.ofNat @Int (nat_lit 7) (@instOfNat (nat_lit 7))) 682) (@List.nil @PySem.Value)))) 0) (@List.toArray (@Option @PySem.Value) (@List.nil (@Option @PySem.Value))))
noncomputable def o223 (P : PySem.Params) : PySem.Obj := (@PySem.Obj.mk (@PySem.Value.type "tuple_iterator") (@Option.none @Nat) (@PySem.Data.fields (@List.toArray @PySem.Value (@List.cons @PySem.Value @PySem.Value.none (@List.cons @PySem.Value (@PySem.Value.int (@OfNat.ofNat @Int (nat_lit 2) (@instOfNat (nat_lit 2))) 0) (@List.nil @PySem.Value))))) (@List.toArray (@Option @PySem.Value) (@List.nil (@Option @PySem.Value))))
noncomputable def o224 (P : PySem.Params) : PySem.Obj := (@PySem.Obj.mk (@PySem.Value.type "list") (@Option.none @Nat) (@PySem.Data.seq (@List.toArray @PySem.Value (@List.nil @PySem.Value)) 2) (@List.toArray (@Option @PySem.Value) (@List.nil (@Option @PySem.Value))))
noncomputable def o225 (P : PySem.Params) : PySem.Obj := (@PySem.Obj.mk (@PySem.Value.type "tuple") (@Option.none @Nat) (@PySem.Data.seq (@List.toArray @PySem.Value (@List.nil @PySem.Value)) 0) (@List.toArray (@Option @PySem.Value) (@List.nil (@Option @PySem.Value))))
noncomputable def o226 (P : PySem.Params) : PySem.Obj := (@PySem.Obj.mk (@PySem.Value.type "StopIteration") (@Option.none @Nat) (@PySem.Data.fields (@List.toArray @PySem.Value (@List.cons @PySem.Value (@PySem.Value.ref 188) (@List.cons @PySem.Value @PySem.Value.none (@List.cons @PySem.Value @PySem.Value.none (@List.cons @PySem.Value @PySem.Value.none (@List.cons @PySem.Value (@PySem.Value.bool @Bool.false) (@List.cons @PySem.Value @PySem.Value.none (@List.nil @PySem.Value))))))))) (@List.toArray (@Option @PySem.Value) (@List.nil (@Option @PySem.Value))))
noncomputable def o227 (P : PySem.Params) : PySem.Obj := (@PySem.Obj.mk (@PySem.Value.type "range") (@Option.none @Nat) (@PySem.Data.fields (@List.toArray @PySem.Value (@List.cons @PySem.Value (@PySem.Value.int (@OfNat.ofNat @Int (nat_lit 4) (@instOfNat (nat_lit 4))) 679) (@List.cons @PySem.Value (@PySem.Value.int (@OfNat.ofNat @Int (nat_lit 8) (@instOfNat (nat_lit 8))) 688) (@List.cons @PySem.Value (@PySem.Value.int (@OfNat.ofNat @Int (nat_lit 1) (@instOfNat (nat_lit 1))) 689) (@List.nil @PySem.Value)))))) (@List.toArray (@Option @PySem.Value) (@List.nil (@Option @PySem.Value))))
noncomputable def o228 (P : PySem.Params) : PySem.Obj := (@PySem.Obj.mk (@PySem.Value.type "range_iterator") (@Option.none @Nat) (@PySem.Data.fields (@List.toArray @PySem.Value (@List.cons @PySem.Value (@PySem.Value.int (@OfNat.ofNat @Int (nat_lit 8) (@instOfNat (nat_lit 8))) 0) (@List.cons @PySem.Value (@PySem.Value.int (@OfNat.ofNat @Int (nat_lit 0) (@instOfNat (nat_lit 0))) 0) (@List.cons @PySem.Value (@PySem.Value.int (@OfNat.ofNat @Int (nat_lit 1) (@instOfNat (nat_lit 1))) 0) (@List.nil @PySem.Value)))))) (@List.toArray (@Option @PySem.Value) (@List.nil (@Option @PySem.Value))))
noncomputable def o229 (P : PySem.Params) : PySem.Obj := (@PySem.Obj.mk (@PySem.Value.type "tuple") (@Option.none @Nat) (@PySem.Data.seq (@List.toArray @PySem.Value (@List.nil @PySem.Value)) 0) (@List.toArray (@Option @PySem.Value) (@List.nil (@Option @PySem.Value))))
noncomputable def o230 (P : PySem.Params) : PySem.Obj := (@PySem.Obj.mk (@PySem.Value.type "StopIteration") (@Option.none @Nat) (@PySem.Data.fields (@List.toArray @PySem.Value (@List.cons @PySem.Value (@PySem.Value.ref 192) (@List.cons @PySem.Value @PySem.Value.none (@List.cons @PySem.Value @PySem.Value.none (@List.cons @PySem.Value @PySem.Value.none (@List.cons @PySem.Value (@PySem.Value.bool @Bool.false) (@List.cons @PySem.Value @PySem.Value.none (@List.nil @PySem.Value))))))))) (@List.toArray (@Option @PySem.Value) (@List.nil (@Option @PySem.Value))))
noncomputable def o231 (P : PySem.Params) : PySem.Obj := (@PySem.Obj.mk (@PySem.Value.type "tuple") (@Option.none @Nat) (@PySem.Data.seq (@List.toArray @PySem.Value (@List.cons @PySem.Value (@PySem.Value.int (@OfNat.ofNat @Int (nat_lit 0) (@instOfNat (nat_lit 0))) 713) (@List.cons @PySem.Value (@PySem.Value.int (@OfNat.ofNat @Int (nat_lit 5) (@instOfNat (nat_lit 5))) 716) (@List.nil @PySem.Value)))) 0) (@List.toArray (@Option @PySem.Value) (@List.nil (@Option @PySem.Value))))
noncomputable def o232 (P : PySem.Params) : PySem.Obj := (@PySem.Obj.mk (@PySem.Value.type "tuple_iterator") (@Option.none @Nat) (@PySem.Data.fields (@List.toArray @PySem.Value (@List.cons @PySem.Value @PySem.Value.none (@List.cons @PySem.Value (@PySem.Value.int (@OfNat.ofNat @Int (nat_lit 2) (@instOfNat (nat_lit 2))) 0) (@List.nil @PySem.Value))))) (@List.toArray (@Option @PySem.Value) (@List.nil (@Option @PySem.Value))))
noncomputable def o233 (P : PySem.Params) : PySem.Obj := (@PySem.Obj.mk (@PySem.Value.type "list") (@Option.none @Nat) (@PySem.Data.seq (@List.toArray @PySem.Value (@List.nil @PySem.Value)) 2) (@List.toArray (@Option @PySem.Value) (@List.nil (@Option @PySem.Value))))
noncomputable def o234 (P : PySem.Params) : PySem.Obj := (@PySem.Obj.mk (@PySem.Value.type "tuple") (@Option.none @Nat) (@PySem.Data.seq (@List.toArray @PySem.Value (@List.nil @PySem.Value)) 0) (@List.toArray (@Option @PySem.Value) (@List.nil (@Option @PySem.Value))))
noncomputable def o235 (P : PySem.Params) : PySem.Obj := (@PySem.Obj.mk (@PySem.Value.type "StopIteration") (@Option.none @Nat) (@PySem.Data.fields (@List.toArray @PySem.Value (@List.cons @PySem.Value (@PySem.Value.ref 197) (@List.cons @PySem.Value @PySem.Value.none (@List.cons @PySem.Value @PySem.Value.none (@List.cons @PySem.Value @PySem.Value.none (@List.cons @PySem.Value (@PySem.Value.bool @Bool.false) (@List.cons @PySem.Value @PySem.Value.none (@List.nil @PySem.Value))))))))) (@List.toArray (@Option @PySem.Value) (@List.nil (@Option @PySem.Value))))
noncomputable def o236 (P : PySem.Params) : PySem.Obj := (@PySem.Obj.mk (@PySem.Value.type "tuple") (@Option.none @Nat) (@PySem.Data.seq (@List.toArray @PySem.Value (@List.cons @PySem.Value (@PySem.Value.int (@OfNat.ofNat @Int (nat_lit 12) (@instOfNat (nat_lit 12))) 711) (@List.cons @PySem.Value (@PySem.Value.int (@OfNat.ofNat @Int (nat_lit 7) (@instOfNat (nat_lit 7))) 719) (@List.nil @PySem.Value)))) 0) (@List.toArray (@Option @PySem.Value) (@List.nil (@Option @PySem.Value))))
noncomputable def o237 (P : PySem.Params) : PySem.Obj := (@PySem.Obj.mk (@PySem.Value.type "tuple_iterator") (@Option.none @Nat) (@PySem.Data.fields (@List.toArray @PySem.Value (@List.cons @PySem.Value @PySem.Value.none (@List.cons @PySem.Value (@PySem.Value.int (@OfNat.ofNat @Int (nat_lit 2) (@instOfNat (nat_lit 2))) 0) (@List.nil @PySem.Value))))) (@List.toArray (@Option @PySem.Value) (@List.nil (@Option @PySem.Value))))
noncomputable def o238 (P : PySem.Params) : PySem.Obj := (@PySem.Obj.mk (@PySem.Value.type "list") (@Option.none @Nat) (@PySem.Data.seq (@List.toArray @PySem.Value (@List.nil @PySem.Value)) 2) (@List.toArray (@Option @PySem.Value) (@List.nil (@Option @PySem.Value))))
noncomputable def o239 (P : PySem.Params) : PySem.Obj := (@PySem.Obj.mk (@PySem.Value.type "tuple") (@Option.none @Nat) (@PySem.Data.seq (@List.toArray @PySem.Value (@List.nil @PySem.Value)) 0) (@List.toArray (@Option @PySem.Value) (@List.nil (@Option @PySem.Value))))
noncomputable def o240 (P : PySem.Params) : PySem.Obj := (@PySem.Obj.mk (@PySem.Value.type "StopIteration") (@Option.none @Nat) (@PySem.Data.fields (@List.toArray @PySem.Value (@List.cons @PySem.Value (@PySem.Value.ref 202) (@List.cons @PySem.Value @PySem.Value.none (@List.cons @PySem.Value @PySem.Value.none (@List.cons @PySem.Value @PySem.Value.none (@List.cons @PySem.Value (@PySem.Value.bool @Bool.false) (@List.cons @PySem.Value @PySem.Value.none (@List.nil @PySem.Value))))))))) (@List.toArray (@Option @PySem.Value) (@List.nil (@Option @PySem.Value))))
noncomputable def o241 (P : PySem.Params) : PySem.Obj := (@PySem.Obj.mk (@PySem.Value.type "range") (@Option.none @Nat) (@PySem.Data.fields (@List.toArray @PySem.Value (@List.cons @PySem.Value (@PySem.Value.int (@OfNat.ofNat @Int (nat_lit 7) (@instOfNat (nat_lit 7))) 719) (@List.cons @PySem.Value (@PySem.Value.int (@OfNat.ofNat @Int (nat_lit 4) (@instOfNat (nat_lit 4))) 725) (@List.cons @PySem.Value (@PySem.Value.int (@Neg.neg @Int @Int.instNegInt (@OfNat.ofNat @Int (nat_lit 1) (@instOfNat (nat_lit 1)))) 727) (@List.nil @PySem.Value)))))) (@List.toArray (@Option @PySem.Value) (@List.nil (@Option @PySem.Value))))
noncomputable def o242 (P : PySem.Params) : PySem.Obj := (@PySem.Obj.mk (@PySem.Value.type "range_iterator") (@Option.none @Nat) (@PySem.Data.fields (@List.toArray @PySem.Value (@List.cons @PySem.Value (@PySem.Value.int (@OfNat.ofNat @Int (nat_lit 4) (@instOfNat (nat_lit 4))) 0) (@List.cons @PySem.Value (@PySem.Value.int (@OfNat.ofNat @Int (nat_lit 0) (@instOfNat (nat_lit 0))) 0) (@List.cons @PySem.Value (@PySem.Value.int (@Neg.neg @Int @Int.instNegInt (@OfNat.ofNat @Int (nat_lit 1) (@instOfNat (nat_lit 1)))) 0) (@List.nil @PySem.Value)))))) (@List.toArray (@Option @PySem.Value) (@List.nil (@Option @PySem.Value))))
noncomputable def o243 (P : PySem.Params) : PySem.Obj := (@PySem.Obj.mk (@PySem.Value.type "tuple") (@Option.none @Nat) (@PySem.Data.seq (@List.toArray @PySem.Value (@List.nil @PySem.Value)) 0) (@List.toArray (@Option @PySem.Value) (@List.nil (@Option @PySem.Value))))
noncomputable def o244 (P : PySem.Params) : PySem.Obj := (@PySem.Obj.mk (@PySem.Value.type "StopIteration") (@Option.none @Nat) (@PySem.Data.fields (@List.toArray @PySem.Value (@List.cons @PySem.Value (@PySem.Value.ref 206) (@List.cons @PySem.Value @PySem.Value.none (@List.cons @PySem.Value @PySem.Value.none (@List.cons @PySem.Value @PySem.Value.none (@List.cons @PySem.Value (@PySem.Value.bool @Bool.false) (@List.cons @PySem.Value @PySem.Value.none (@List.nil @PySem.Value))))))))) (@List.toArray (@Option @PySem.Value) (@List.nil (@Option @PySem.Value))))
noncomputable def o245 (P : PySem.Params) : PySem.Obj := (@PySem.Obj.mk (@PySem.Value.type "tuple") (@Option.none @Nat) (@PySem.Data.seq (@List.toArray @PySem.Value (@List.cons @PySem.Value (@PySem.Value.int (@OfNat.ofNat @Int (nat_lit 0) (@instOfNat (nat_lit 0))) 746) (@List.cons @PySem.Value (@PySem.Value.int (@OfNat.ofNat @Int (nat_lit 6) (@instOfNat (nat_lit 6))) 749) (@List.nil @PySem.Value)))) 0) (@List.toArray (@Option @PySem.Value) (@List.nil (@Option @PySem.Value))))
noncomputable def o246 (P : PySem.Params) : PySem.Obj := (@PySem.Obj.mk (@PySem.Value.type "tuple_iterator") (@Option.none @Nat) (@PySem.Data.fields (@List.toArray @PySem.Value (@List.cons @PySem.Value @PySem.Value.none (@List.cons @PySem.Value (@PySem.Value.int (@OfNat.ofNat @Int (nat_lit 2) (@instOfNat (nat_lit 2))) 0) (@List.nil @PySem.Value))))) (@List.toArray (@Option @PySem.Value) (@List.nil (@Option @PySem.Value))))
noncomputable def o247 (P : PySem.Params) : PySem.Obj := (@PySem.Obj.mk (@PySem.Value.type "list") (@Option.none @Nat) (@PySem.Data.seq (@List.toArray @PySem.Value (@List.nil @PySem.Value)) 2) (@List.toArray (@Option @PySem.Value) (@List.nil (@Option @PySem.Value))))
noncomputable def o248 (P : PySem.Params) : PySem.Obj := (@PySem.Obj.mk (@PySem.Value.type "tuple") (@Option.none @Nat) (@PySem.Data.seq (@List.toArray @PySem.Value (@List.nil @PySem.Value)) 0) (@List.toArray (@Option @PySem.Value) (@List.nil (@Option @PySem.Value))))
noncomputable def o249 (P : PySem.Params) : PySem.Obj := (@PySem.Obj.mk (@PySem.Value.type "StopIteration") (@Option.none @Nat) (@PySem.Data.fields (@List.toArray @PySem.Value (@List.cons @PySem.Value (@PySem.Value.ref 211) (@List.cons @PySem.Value @PySem.Value.none (@List.cons @PySem.Value @PySem.Value.none (@List.cons @PySem.Value @PySem.Value.none (@List.cons @PySem.Value (@PySem.Value.bool @Bool.false) (@List.cons @PySem.Value @PySem.Value.none (@List.nil @PySem.Value))))))))) (@List.toArray (@Option @PySem.Value) (@List.nil (@Option @PySem.Value))))
noncomputable def o250 (P : PySem.Params) : PySem.Obj := (@PySem.Obj.mk (@PySem.Value.type "tuple") (@Option.none @Nat) (@PySem.Data.seq (@List.toArray @PySem.Value (@List.cons @PySem.Value (@PySem.Value.int (@OfNat.ofNat @Int (nat_lit 13) (@instOfNat (nat_lit 13))) 744) (@List.cons @PySem.Value (@PySem.Value.int (@OfNat.ofNat @Int (nat_lit 7) (@instOfNat (nat_lit 7))) 752) (@List.nil @PySem.Value)))) 0) (@List.toArray (@Option @PySem.Value) (@List.nil (@Option @PySem.Value))))
noncomputable def o251 (P : PySem.Params) : PySem.Obj := (@PySem.Obj.mk (@PySem.Value.type "tuple_iterator") (@Option.none @Nat) (@PySem.Data.fields (@List.toArray @PySem.Value (@List.cons @PySem.Value @PySem.Value.none (@List.cons @PySem.Value (@PySem.Value.int (@OfNat.ofNat @Int (nat_lit 2) (@instOfNat (nat_lit 2))) 0) (@List.nil @PySem.Value))))) (@List.toArray (@Option @PySem.Value) (@List.nil (@Option @PySem.Value))))
noncomputable def o252 (P : PySem.Params) : PySem.Obj := (@PySem.Obj.mk (@PySem.Value.type "list") (@Option.none @Nat) (@PySem.Data.seq (@List.toArray @PySem.Value (@List.nil @PySem.Value)) 2) (@List.toArray (@Option @PySem.Value) (@List.nil (@Option @PySem.Value))))
noncomputable def o253 (P : PySem.Params) : PySem.Obj := (@PySem.Obj.mk (@PySem.Value.type "tuple") (@Option.none @Nat) (@PySem.Data.seq (@List.toArray @PySem.Value (@List.nil @PySem.Value)) 0) (@List.toArray (@Option @PySem.Value) (@List.nil (@Option @PySem.Value))))
noncomputable def o254 (P : PySem.Params) : PySem.Obj := (@PySem.Obj.mk (@PySem.Value.type "StopIteration") (@Option.none @Nat) (@PySem.Data.fields (@List.toArray @PySem.Value (@List.cons @PySem.Value (@PySem.Value.ref 216) (@List.cons @PySem.Value @PySem.Value.none (@List.cons @PySem.Value @PySem.Value.none (@List.cons @PySem.Value @PySem.Value.none (@List.cons @PySem.Value (@PySem.Value.bool @Bool.false) (@List.cons @PySem.Value @PySem.Value.none (@List.nil @PySem.Value))))))))) (@List.toArray (@Option @PySem.Value) (@List.nil (@Option @PySem.Value))))
noncomputable def o255 (P : PySem.Params) : PySem.Obj := (@PySem.Obj.mk (@PySem.Value.type "range") (@Option.none @Nat) (@PySem.Data.fields (@List.toArray @PySem.Value (@List.cons @PySem.Value (@PySem.Value.int (@OfNat.ofNat @Int (nat_lit 6) (@instOfNat (nat_lit 6))) 749) (@List.cons @PySem.Value (@PySem.Value.int (@OfNat.ofNat @Int (nat_lit 8) (@instOfNat (nat_lit 8))) 758) (@List.cons @PySem.Value (@PySem.Value.int (@OfNat.ofNat @Int (nat_lit 1) (@instOfNat (nat_lit 1))) 759) (@List.nil @PySem.Value)))))) (@List.toArray (@Option @PySem.Value) (@List.nil (@Option @PySem.Value))))
noncomputable def o256 (P : PySem.Params) : PySem.Obj := (@PySem.Obj.mk (@PySem.Value.type "range_iterator") (@Option.none @Nat) (@PySem.Data.fields (@List.toArray @PySem.Value (@List.cons @PySem.Value (@PySem.Value.int (@OfNat.ofNat @Int (nat_lit 8) (@instOfNat (nat_lit 8))) 0) (@List.cons @PySem.Value (@PySem.Value.int (@OfNat.ofNat @Int (nat_lit 0) (@instOfNat (nat_lit 0))) 0) (@List.cons @PySem.Value (@PySem.Value.int (@OfNat.ofNat @Int (nat_lit 1) (@instOfNat (nat_lit 1))) 0) (@List.nil @PySem.Value)))))) (@List.toArray (@Option @PySem.Value) (@List.nil (@Option @PySem.Value))))
noncomputable def o257 (P : PySem.Params) : PySem.Obj := (@PySem.Obj.mk (@PySem.Value.type "tuple") (@Option.none @Nat) (@PySem.Data.seq (@List.toArray @PySem.Value (@List.nil @PySem.Value)) 0) (@List.toArray (@Option @PySem.Value) (@List.nil (@Option @PySem.Value))))
noncomputable def o258 (P : PySem.Params) : PySem.Obj := (@PySem.Obj.mk (@PySem.Value.type "StopIteration") (@Option.none @Nat) (@PySem.Data.fields (@List.toArray @PySem.Value (@List.cons @PySem.Value (@PySem.Value.ref 220) (@List.cons @PySem.Value @PySem.Value.none (@List.cons @PySem.Value @PySem.Value.none (@List.cons @PySem.Value @PySem.Value.none (@List.cons @PySem.Value (@PySem.Value.bool @Bool.false) (@List.cons @PySem.Value @PySem.Value.none (@List.nil @PySem.Value))))))))) (@List.toArray (@Option @PySem.Value) (@List.nil (@Option @PySem.Value))))
noncomputable def o259 (P : PySem.Params) : PySem.Obj := (@PySem.Obj.mk (@PySem.Value.type "tuple") (@Option.none @Nat) (@PySem.Data.seq (@List.toArray @PySem.Value (@List.cons @PySem.Value (@PySem.Value.int (@OfNat.ofNat @Int (nat_lit 0) (@instOfNat (nat_lit 0))) 773) (@List.cons @PySem.Value (@PySem.Value.int (@OfNat.ofNat @Int (nat_lit 7) (@instOfNat (nat_lit 7))) 776) (@List.nil @PySem.Value)))) 0) (@List.toArray (@Option @PySem.Value) (@List.nil (@Option @PySem.Value))))
noncomputable def o260 (P : PySem.Params) : PySem.Obj := (@PySem.Obj.mk (@PySem.Value.type "tuple_iterator") (@Option.none @Nat) (@PySem.Data.fields (@List.toArray @PySem.Value (@List.cons @PySem.Value @PySem.Value.none (@List.cons @PySem.Value (@PySem.Value.int (@OfNat.ofNat @Int (nat_lit 2) (@instOfNat (nat_lit 2))) 0) (@List.nil @PySem.Value))))) (@List.toArray (@Option @PySem.Value) (@List.nil (@Option @PySem.Value))))
noncomputable def o261 (P : PySem.Params) : PySem.Obj := (@PySem.Obj.mk (@PySem.Value.type "list") (@Option.none @Nat) (@PySem.Data.seq (@List.toArray @PySem.Value (@List.nil @PySem.Value)) 2) (@List.toArray (@Option @PySem.Value) (@List.nil (@Option @PySem.Value))))
noncomputable def o262 (P : PySem.Params) : PySem.Obj := (@PySem.Obj.mk (@PySem.Value.type "tuple") (@Option.none @Nat) (@PySem.Data.seq (@List.toArray @PySem.Value (@List.nil @PySem.Value)) 0) (@List.toArray (@Option @PySem.Value) (@List.nil (@Option @PySem.Value))))
noncomputable def o263 (P : PySem.Params) : PySem.Obj := (@PySem.Obj.mk (@PySem.Value.type "StopIteration") (@Option.none @Nat) (@PySem.Data.fields (@List.toArray @PySem.Value (@List.cons @PySem.Value (@PySem.Value.ref 225) (@List.cons @PySem.Value @PySem.Value.none (@List.cons @PySem.Value @PySem.Value.none (@List.cons @PySem.Value @PySem.Value.none (@List.cons @PySem.Value (@PySem.Value.bool @Bool.false) (@List.cons @PySem.Value @PySem.Value.none (@List.nil @PySem.Value))))))))) (@List.toArray (@Option @PySem.Value) (@List.nil (@Option @PySem.Value))))
noncomputable def o264 (P : PySem.Params) : PySem.Obj := (@PySem.Obj.mk (@PySem.Value.type "tuple") (@Option.none @Nat) (@PySem.Data.seq (@List.toArray @PySem.Value (@List.cons @PySem.Value (@PySem.Value.int (@OfNat.ofNat @Int (nat_lit 14) (@instOfNat (nat_lit 14))) 771) (@List.cons @PySem.Value (@PySem.Value.int (@OfNat.ofNat @Int (nat_lit 7) (@instOfNat (nat_lit 7))) 779) (@List.nil @PySem.Value)))) 0) (@List.toArray (@Option @PySem.Value) (@List.nil (@Option @PySem.Value))))
noncomputable def o265 (P : PySem.Params) : PySem.Obj := (@PySem.Obj.mk (@PySem.Value.type "tuple_iterator") (@Option.none @Nat) (@PySem.Data.fields (@List.toArray @PySem.Value (@List.cons @PySem.Value @PySem.Value.none (@List.cons @PySem.Value (@PySem.Value.int (@OfNat.ofNat @Int (nat_lit 2) (@instOfNat (nat_lit 2))) 0) (@List.nil @PySem.Value))))) (@List.toArray (@Option @PySem.Value) (@List.nil (@Option @PySem.Value))))
noncomputable def o266 (P : PySem.Params) : PySem.Obj := (@PySem.Obj.mk (@PySem.Value.type "list") (@Option.none @Nat) (@PySem.Data.seq (@List.toArray @PySem.Value (@List.nil @PySem.Value)) 2) (@List.toArray (@Option @PySem.Value) (@List.nil (@Option @PySem.Value))))
noncomputable def o267 (P : PySem.Params) : PySem.Obj := (@PySem.Obj.mk (@PySem.Value.type "tuple") (@Option.none @Nat) (@PySem.Data.seq (@List.toArray @PySem.Value (@List.nil @PySem.Value)) 0) (@List.toArray (@Option @PySem.Value) (@List.nil (@Option @PySem.Value))))
noncomputable def o268 (P : PySem.Params) : PySem.Obj := (@PySem.Obj.mk (@PySem.Value.type "StopIteration") (@Option.none @Nat) (@PySem.Data.fields (@List.toArray @PySem.Value (@List.cons @PySem.Value (@PySem.Value.ref 230) (@List.cons @PySem.Value @PySem.Value.none (@List.cons @PySem.Value @PySem.Value.none (@List.cons @PySem.Value @PySem.Value.none (@List.cons @PySem.Value (@PySem.Value.bool @Bool.false) (@List.cons @PySem.Value @PySem.Value.none (@List.nil @PySem.Value))))))))) (@List.toArray (@Option @PySem.Value) (@List.nil (@Option @PySem.Value))))
noncomputable def o269 (P : PySem.Params) : PySem.Obj := (@PySem.Obj.mk (@PySem.Value.type "range") (@Option.none @Nat) (@PySem.Data.fields (@List.toArray @PySem.Value (@List.cons @PySem.Value (@PySem.Value.int (@OfNat.ofNat @Int (nat_lit 7) (@instOfNat (nat_lit 7))) 779) (@List.cons @PySem.Value (@PySem.Value.int (@OfNat.ofNat @Int (nat_lit 6) (@instOfNat (nat_lit 6))) 785) (@List.cons @PySem.Value (@PySem.Value.int (@Neg.neg @Int @Int.instNegInt (@OfNat.ofNat @Int (nat_lit 1) (@instOfNat (nat_lit 1)))) 787) (@List.nil @PySem.Value)))))) (@List.toArray (@Option @PySem.Value) (@List.nil (@Option @PySem.Value))))
noncomputable def o270 (P : PySem.Params) : PySem.Obj := (@PySem.Obj.mk (@PySem.Value.type "range_iterator") (@Option.none @Nat) (@PySem.Data.fields (@List.toArray @PySem.Value (@List.cons @PySem.Value (@PySem.Value.int (@OfNat.ofNat @Int (nat_lit 6) (@instOfNat (nat_lit 6))) 0) (@List.cons @PySem.Value (@PySem.Value.int (@OfNat.ofNat @Int (nat_lit 0) (@instOfNat (nat_lit 0))) 0) (@List.cons @PySem.Value (@PySem.Value.int (@Neg.neg @Int @Int.instNegInt (@OfNat.ofNat @Int (nat_lit 1) (@instOfNat (nat_lit 1)))) 0) (@List.nil @PySem.Value)))))) (@List.toArray (@Option @PySem.Value) (@List.nil (@Option @PySem.Value))))
noncomputable def o271 (P : PySem.Params) : PySem.Obj := (@PySem.Obj.mk (@PySem.Value.type "tuple") (@Option.none @Nat) (@PySem.Data.seq (@List.toArray @PySem.Value (@List.nil @PySem.Value)) 0) (@List.toArray (@Option @PySem.Value) (@List.nil (@Option @PySem.Value))))
noncomputable def o272 (P : PySem.Params) : PySem.Obj := (@PySem.Obj.mk (@PySem.Value.type "StopIteration") (@Option.none @Nat) (@PySem.Data.fields (@List.toArray @PySem.Value (@List.cons @PySem.Value (@PySem.Value.ref 234) (@List.cons @PySem.Value @PySem.Value.none (@List.cons @PySem.Value @PySem.Value.none (@List.cons @PySem.Value @PySem.Value.none (@List.cons @PySem.Value (@PySem.Value.bool @Bool.false) (@List.cons @PySem.Value @PySem.Value.none (@List.nil @PySem.Value))))))))) (@List.toArray (@Option @PySem.Value) (@List.nil (@Option @PySem.Value))))
noncomputable def o273 (P : PySem.Params) : PySem.Obj := (@PySem.Obj.mk (@PySem.Value.type "tuple") (@Option.none @Nat) (@PySem.Data.seq (@List.toArray @PySem.Value (@List.nil @PySem.Value)) 0) (@List.toArray (@Option @PySem.Value) (@List.nil (@Option @PySem.Value))))
noncomputable def o274 (P : PySem.Params) : PySem.Obj := (@PySem.Obj.mk (@PySem.Value.type "StopIteration") (@Option.none @Nat) (@PySem.Data.fields (@List.toArray @PySem.Value (@List.cons @PySem.Value (@PySem.Value.ref 236) (@List.cons @PySem.Value @PySem.Value.none (@List.cons @PySem.Value @PySem.Value.none (@List.cons @PySem.Value @PySem.Value.none (@List.cons @PySem.Value (@PySem.Value.bool @Bool.false) (@List.cons @PySem.Value @PySem.Value.none (@List.nil @PySem.Value))))))))) (@List.toArray (@Option @PySem.Value) (@List.nil (@Option @PySem.Value))))
noncomputable def o275 (P : PySem.Params) : PySem.Obj := (@PySem.Obj.mk (@PySem.Value.type "list") (@Option.none @Nat) (@PySem.Data.seq (@List.toArray @PySem.Value (@List.cons @PySem.Value (@PySem.Value.int (@OfNat.ofNat @Int (nat_lit 0) (@instOfNat (nat_lit 0))) 233) (@List.cons @PySem.Value (@PySem.Value.int (@OfNat.ofNat @Int (nat_lit 1) (@instOfNat (nat_lit 1))) 255) (@List.cons @PySem.Value (@PySem.Value.int (@OfNat.ofNat @Int (nat_lit 8) (@instOfNat (nat_lit 8))) 260) (@List.cons @PySem.Value (@PySem.Value.int (@OfNat.ofNat @Int (nat_lit 16) (@instOfNat (nat_lit 16))) 283) (@List.cons @PySem.Value (@PySem.Value.int (@OfNat.ofNat @Int (nat_lit 9) (@instOfNat (nat_lit 9))) 288) (@List.cons @PySem.Value (@PySem.Value.int (@OfNat.ofNat @Int (nat_lit 2) (@instOfNat (nat_lit 2))) 293) (@List.cons @PySem.Value (@PySem.Value.int (@OfNat.ofNat @Int (nat_lit 3) (@instOfNat (nat_lit 3))) 315) (@List.cons @PySem.Value (@PySem.Value.int (@OfNat.ofNat @Int (nat_lit 10) (@instOfNat (nat_lit 10))) 320) (@List.cons @PySem.Value (@PySem.Value.int (@OfNat.ofNat @Int (nat_lit 17) (@instOfNat (nat_lit 17))) 325) (@List.cons @PySem.Value (@PySem.Value.int (@OfNat.ofNat @Int (nat_lit 24) (@instOfNat (nat_lit 24))) 330) (@List.cons @PySem.Value (@PySem.Value.int (@OfNat.ofNat @Int (nat_lit 32) (@instOfNat (nat_lit 32))) 353) (@List.cons @PySem.Value (@PySem.Value.int (@OfNat.ofNat @Int (nat_lit 25) (@instOfNat (nat_lit 25))) 358) (@List.cons @PySem.Value (@PySem.Value.int (@OfNat.ofNat @Int (nat_lit 18) (@instOfNat (nat_lit 18))) 363) (@List.cons @PySem.Value (@PySem.Value.int (@OfNat.ofNat @Int (nat_lit 11) (@instOfNat (nat_lit 11))) 368) (@List.cons @PySem.Value (@PySem.Value.int (@OfNat.ofNat @Int (nat_lit 4) (@instOfNat (nat_lit 4))) 373) (@List.cons @PySem.Value (@PySem.Value.int (@OfNat.ofNat @Int (nat_lit 5) (@instOfNat (nat_lit 5))) 395) (@List.cons @PySem.Value (@PySem.Value.int (@OfNat.ofNat @Int (nat_lit 12) (@instOfNat (nat_lit 12))) 400) (@List.cons @PySem.Value (@PySem.Value.int (@OfNat.ofNat @Int (nat_lit 19) (@instOfNat (nat_lit 19))) 405) (@List.cons @PySem.Value (@PySem.Value.int (@OfNat.ofNat @Int (nat_lit 26) (@instOfNat (nat_lit 26))) 410) (@List.cons @PySem.Value (@PySem.Value.int (@OfNat.ofNat @Int (nat_lit 33) (@instOfNat (nat_lit 33))) 415) (@List.cons @PySem.Value (@PySem.Value.int (@OfNat.ofNat @Int (nat_lit 40) (@instOfNat (nat_lit 40))) 420) (@List.cons @PySem.Value (@PySem.Value.int (@OfNat.ofNat @Int (nat_lit 48) (@instOfNat (nat_lit 48))) 443) (@List.cons @PySem.Value (@PySem.Value.int (@OfNat.ofNat @Int (nat_lit 41) (@instOfNat (nat_lit 41))) 448) (@List.cons @PySem.Value (@PySem.Value.int (@OfNat.ofNat @Int (nat_lit 34) (@instOfNat (nat_lit 34))) 453) (@List.cons @PySem.Value (@PySem.Value.int (@OfNat.ofNat @Int (nat_lit 27) (@instOfNat (nat_lit 27))) 458) (@List.cons @PySem.Value (@PySem.Value.int (@OfNat.ofNat @Int (nat_lit 20) (@instOfNat (nat_lit 20))) 463) (@List.cons @PySem.Value (@PySem.Value.int (@OfNat.ofNat @Int (nat_lit 13) (@instOfNat (nat_lit 13))) 468) (@List.cons @PySem.Value (@PySem.Value.int (@OfNat.ofNat @Int (nat_lit 6) (@instOfNat (nat_lit 6))) 473) (@List.cons @PySem.Value (@PySem.Value.int (@OfNat.ofNat @Int (nat_lit 7) (@instOfNat (nat_lit 7))) 495) (@List.cons @PySem.Value (@PySem.Value.int (@OfNat.ofNat @Int (nat_lit 14) (@instOfNat (nat_lit 14))) 500) (@List.cons @PySem.Value (@PySem.Value.int (@OfNat.ofNat @Int (nat_lit 21) (@instOfNat (nat_lit 21))) 505) (@List.cons @PySem.Value (@PySem.Value.int (@OfNat.ofNat @Int (nat_lit 28) (@instOfNat (nat_lit 28))) 510) (@List.cons @PySem.Value (@PySem.Value.int (@OfNat.ofNat @Int (nat_lit 35) (@instOfNat (nat_lit 35))) 515) (@List.cons @PySem.Value (@PySem.Value.int (@OfNat.ofNat @Int (nat_lit 42) (@instOfNat (nat_lit 42))) 520) (@List.cons @PySem.Value (@PySem.Value.int (@OfNat.ofNat @Int (nat_lit 49) (@instOfNat (nat_lit 49))) 525) (@List.cons @PySem.Value (@PySem.Value.int (@OfNat.ofNat @Int (nat_lit 56) (@instOfNat (nat_lit 56))) 530) (@List.cons @PySem.Value (@PySem.Value.int (@OfNat.ofNat @Int (nat_lit 57) (@instOfNat (nat_lit 57))) 553) (@List.cons @PySem.Value (@PySem.Value.int (@OfNat.ofNat @Int (nat_lit 50) (@instOfNat (nat_lit 50))) 558) (@List.cons @PySem.Value (@PySem.Value.int (@OfNat.ofNat @Int (nat_lit 43) (@instOfNat (nat_lit 43))) 563) (@List.cons @PySem.Value (@PySem.Value.int (@OfNat.ofNat @Int (nat_lit 36) (@instOfNat (nat_lit 36))) 568) (@List.cons @PySem.Value (@PySem.Value.int (@OfNat.ofNat @Int (nat_lit 29) (@instOfNat (nat_lit 29))) 573) (@List.cons @PySem.Value (@PySem.Value.int (@OfNat.ofNat @Int (nat_lit 22) (@instOfNat (nat_lit 22))) 578) (@List.cons @PySem.Value (@PySem.Value.int (@OfNat.ofNat @Int (nat_lit 15) (@instOfNat (nat_lit 15))) 583) (@List.cons @PySem.Value (@PySem.Value.int (@OfNat.ofNat @Int (nat_lit 23) (@instOfNat (nat_lit 23))) 605) (@List.cons @PySem.Value (@PySem.Value.int (@OfNat.ofNat @Int (nat_lit 30) (@instOfNat (nat_lit 30))) 610) (@List.cons @PySem.Value (@PySem.Value.int (@OfNat.ofNat @Int (nat_lit 37) (@instOfNat (nat_lit 37))) 615) (@List.cons @PySem.Value (@PySem.Value.int (@OfNat.ofNat @Int (nat_lit 44) (@instOfNat (nat_lit 44))) 620) (@List.cons @PySem.Value (@PySem.Value.int (@OfNat.ofNat @Int (nat_lit 51) (@instOfNat (nat_lit 51))) 625) (@List.cons @PySem.Value (@PySem.Value.int (@OfNat.ofNat @Int (nat_lit 58) (@instOfNat (nat_lit 58))) 630) (@List.cons @PySem.Value (@PySem.Value.int (@OfNat.ofNat @Int (nat_lit 59) (@instOfNat (nat_lit 59))) 653) (@List.cons @PySem.Value (@PySem.Value.int (@OfNat.ofNat @Int (nat_lit 52) (@instOfNat (nat_lit 52))) 658) (@List.cons @PySem.Value (@PySem.Value.int (@OfNat.ofNat @Int (nat_lit 45) (@instOfNat (nat_lit 45))) 663) (@List.cons @PySem.Value (@PySem.Value.int (@OfNat.ofNat @Int (nat_lit 38) (@instOfNat (nat_lit 38))) 668) (@List.cons @PySem.Value (@PySem.Value.int (@OfNat.ofNat @Int (nat_lit 31) (@instOfNat (nat_lit 31))) 673) (@List.cons @PySem.Value (@PySem.Value.int (@OfNat.ofNat @Int (nat_lit 39) (@instOfNat (nat_lit 39))) 695) (@List.cons @PySem.Value (@PySem.Value.int (@OfNat.ofNat @Int (nat_lit 46) (@instOfNat (nat_lit 46))) 700) (@List.cons @PySem.Value (@PySem.Value.int (@OfNat.ofNat @Int (nat_lit 53) (@instOfNat (nat_lit 53))) 705) (@List.cons @PySem.Value (@PySem.Value.int (@OfNat.ofNat @Int (nat_lit 60) (@instOfNat (nat_lit 60))) 710) (@List.cons @PySem.Value (@PySem.Value.int (@OfNat.ofNat @Int (nat_lit 61) (@instOfNat (nat_lit 61))) 733) (@List.cons @PySem.Value (@PySem.Value.int (@OfNat.ofNat @Int (nat_lit 54) (@instOfNat (nat_lit 54))) 738) (@List.cons @PySem.Value (@PySem.Value.int (@OfNat.ofNat @Int (nat_lit 47) (@instOfNat (nat_lit 47))) 743) (@List.cons @PySem.Value (@PySem.Value.int (@OfNat.ofNat @Int (nat_lit 55) (@instOfNat (nat_lit 55))) 765) (@List.cons @PySem.Value (@PySem.Value.int (@OfNat.ofNat @Int (nat_lit 62) (@instOfNat (nat_lit 62))) 770) (@List.cons @PySem.Value (@PySem.Value.int (@OfNat.ofNat @Int (nat_lit 63) (@instOfNat (nat_lit 63))) 793) (@List.nil @PySem.Value)))))))))))))))))))))))))))))))))))))))))))))))))))))))))))))))))) 1) (@List.toArray (@Option @PySem.Value) (@List.nil (@Option @PySem.Value))))
noncomputable def o276 (P : PySem.Params) : PySem.Obj := (@PySem.Obj.mk (@PySem.Value.type "tuple") (@Option.none @Nat) (@PySem.Data.seq (@List.toArray @PySem.Value (@List.cons @PySem.Value (@PySem.Value.int (@OfNat.ofNat @Int (nat_lit 0) (@instOfNat (nat_lit 0))) 233) (@List.cons @PySem.Value (@PySem.Value.int (@OfNat.ofNat @Int (nat_lit 1) (@instOfNat (nat_lit 1))) 255) (@List.cons @PySem.Value (@PySem.Value.int (@OfNat.ofNat @Int (nat_lit 8) (@instOfNat (nat_lit 8))) 260) (@List.cons @PySem.Value (@PySem.Value.int (@OfNat.ofNat @Int (nat_lit 16) (@instOfNat (nat_lit 16))) 283) (@List.cons @PySem.Value (@PySem.Value.int (@OfNat.ofNat @Int (nat_lit 9) (@instOfNat (nat_lit 9))) 288) (@List.cons @PySem.Value (@PySem.Value.int (@OfNat.ofNat @Int (nat_lit 2) (@instOfNat (nat_lit 2))) 293) (@List.cons @PySem.Value (@PySem.Value.int (@OfNat.ofNat @Int (nat_lit 3) (@instOfNat (nat_lit 3))) 315) (@List.cons @PySem.Value (@PySem.Value.int (@OfNat.ofNat @Int (nat_lit 10) (@instOfNat (nat_lit 10))) 320) (@List.cons @PySem.Value (@PySem.Value.int (@OfNat.ofNat @Int (nat_lit 17) (@instOfNat (nat_lit 17))) 325) (@List.cons @PySem.Value (@PySem.Value.int (@OfNat.ofNat @Int (nat_lit 24) (@instOfNat (nat_lit 24))) 330) (@List.cons @PySem.Value (@PySem.Value.int (@OfNat.ofNat @Int (nat_lit 32) (@instOfNat (nat_lit 32))) 353) (@List.cons @PySem.Value (@PySem.Value.int (@OfNat.ofNat @Int (nat_lit 25) (@instOfNat (nat_lit 25))) 358) (@List.cons @PySem.Value (@PySem.Value.int (@OfNat.ofNat @Int (nat_lit 18) (@instOfNat (nat_lit 18))) 363) (@List.cons @PySem.Value (@PySem.Value.int (@OfNat.ofNat @Int (nat_lit 11) (@instOfNat (nat_lit 11))) 368) (@List.cons @PySem.Value (@PySem.Value.int (@OfNat.ofNat @Int (nat_lit 4) (@instOfNat (nat_lit 4))) 373) (@List.cons @PySem.Value (@PySem.Value.int (@OfNat.ofNat @Int (nat_lit 5) (@instOfNat (nat_lit 5))) 395) (@List.cons @PySem.Value (@PySem.Value.int (@OfNat.ofNat @Int (nat_lit 12) (@instOfNat (nat_lit 12))) 400) (@List.cons @PySem.Value (@PySem.Value.int (@OfNat.ofNat @Int (nat_lit 19) (@instOfNat (nat_lit 19))) 405) (@List.cons @PySem.Value (@PySem.Value.int (@OfNat.ofNat @Int (nat_lit 26) (@instOfNat (nat_lit 26))) 410) (@List.cons @PySem.Value (@PySem.Value.int (@OfNat.ofNat @Int (nat_lit 33) (@instOfNat (nat_lit 33))) 415) (@List.cons @PySem.Value (@PySem.Value.int (@OfNat.ofNat @Int (nat_lit 40) (@instOfNat (nat_lit 40))) 420) (@List.cons @PySem.Value (@PySem.Value.int (@OfNat.ofNat @Int (nat_lit 48) (@instOfNat (nat_lit 48))) 443) (@List.cons @PySem.Value (@PySem.Value.int (@OfNat.ofNat @Int (nat_lit 41) (@instOfNat (nat_lit 41))) 448) (@List.cons @PySem.Value (@PySem.Value.int (@OfNat.ofNat @Int (nat_lit 34) (@instOfNat (nat_lit 34))) 453) (@List.cons @PySem.Value (@PySem.Value.int (@OfNat.ofNat @Int (nat_lit 27) (@instOfNat (nat_lit 27))) 458) (@List.cons @PySem.Value (@PySem.Value.int (@OfNat.ofNat @Int (nat_lit 20) (@instOfNat (nat_lit 20))) 463) (@List.cons @PySem.Value (@PySem.Value.int (@OfNat.ofNat @Int (nat_lit 13) (@instOfNat (nat_lit 13))) 468) (@List.cons @PySem.Value (@PySem.Value.int (@OfNat.ofNat @Int (nat_lit 6) (@instOfNat (nat_lit 6))) 473) (@List.cons @PySem.Value (@PySem.Value.int (@OfNat.ofNat @Int (nat_lit 7) (@instOfNat (nat_lit 7))) 495) (@List.cons @PySem.Value (@PySem.Value.int (@OfNat.ofNat @Int (nat_lit 14) (@instOfNat (nat_lit 14))) 500) (@List.cons @PySem.Value (@PySem.Value.int (@OfNat.ofNat @Int (nat_lit 21) (@instOfNat (nat_lit 21))) 505) (@List.cons @PySem.Value (@PySem.Value.int (@OfNat.ofNat @Int (nat_lit 28) (@instOfNat (nat_lit 28))) 510) (@List.cons @PySem.Value (@PySem.Value.int (@OfNat.ofNat @Int (nat_lit 35) (@instOfNat (nat_lit 35))) 515) (@List.cons @PySem.Value (@PySem.Value.int (@OfNat.ofNat @Int (nat_lit 42) (@instOfNat (nat_lit 42))) 520) (@List.cons @PySem.Value (@PySem.Value.int (@OfNat.ofNat @Int (nat_lit 49) (@instOfNat (nat_lit 49))) 525) (@List.cons @PySem.Value (@PySem.Value.int (@OfNat.ofNat @Int (nat_lit 56) (@instOfNat (nat_lit 56))) 530) (@List.cons @PySem.Value (@PySem.Value.int (@OfNat.ofNat @Int (nat_lit 57) (@instOfNat (nat_lit 57))) 553) (@List.cons @PySem.Value (@PySem.Value.int (@OfNat.ofNat @Int (nat_lit 50) (@instOfNat (nat_lit 50))) 558) (@List.cons @PySem.Value (@PySem.Value.int (@OfNat.ofNat @Int (nat_lit 43) (@instOfNat (nat_lit 43))) 563) (@List.cons @PySem.Value (@PySem.Value.int (@OfNat.ofNat @Int (nat_lit 36) (@instOfNat (nat_lit 36))) 568) (@List.cons @PySem.Value (@PySem.Value.int (@OfNat.ofNat @Int (nat_lit 29) (@instOfNat (nat_lit 29))) 573) (@List.cons @PySem.Value (@PySem.Value.int (@OfNat.ofNat @Int (nat_lit 22) (@instOfNat (nat_lit 22))) 578) (@List.cons @PySem.Value (@PySem.Value.int (@OfNat.ofNat @Int (nat_lit 15) (@instOfNat (nat_lit 15))) 583) (@List.cons @PySem.Value (@PySem.Value.int (@OfNat.ofNat @Int (nat_lit 23) (@instOfNat (nat_lit 23))) 605) (@List.cons @PySem.Value (@PySem.Value.int (@OfNat.ofNat @Int (nat_lit 30) (@instOfNat (nat_lit 30))) 610) (@List.cons @PySem.Value (@PySem.Value.int (@OfNat.ofNat @Int (nat_lit 37) (@instOfNat (nat_lit 37))) 615) (@List.cons @PySem.Value (@PySem.Value.int (@OfNat.ofNat @Int (nat_lit 44) (@instOfNat (nat_lit 44))) 620) (@List.cons @PySem.Value (@PySem.Value.int (@OfNat.ofNat @Int (nat_lit 51) (@instOfNat (nat_lit 51))) 625) (@List.cons @PySem.Value (@PySem.Value.int (@OfNat.ofNat @Int (nat_lit 58) (@instOfNat (nat_lit 58))) 630) (@List.cons @PySem.Value (@PySem.Value.int (@OfNat.ofNat @Int (nat_lit 59) (@instOfNat (nat_lit 59))) 653) (@List.cons @PySem.Value (@PySem.Value.int (@OfNat.ofNat @Int (nat_lit 52) (@instOfNat (nat_lit 52))) 658) (@List.cons @PySem.Value (@PySem.Value.int (@OfNat.ofNat @Int (nat_lit 45) (@instOfNat (nat_lit 45))) 663) (@List.cons @PySem.Value (@PySem.Value.int (@OfNat.ofNat @Int (nat_lit 38) (@instOfNat (nat_lit 38))) 668) (@List.cons @PySem.Value (@PySem.Value.int (@OfNat.ofNat @Int (nat_lit 31) (@instOfNat (nat_lit 31))) 673) (@List.cons @PySem.Value (@PySem.Value.int (@OfNat.ofNat @Int (nat_lit 39) (@instOfNat (nat_lit 39))) 695) (@List.cons @PySem.Value (@PySem.Value.int (@OfNat.ofNat @Int (nat_lit 46) (@instOfNat (nat_lit 46))) 700) (@List.cons @PySem.Value (@PySem.Value.int (@OfNat.ofNat @Int (nat_lit 53) (@instOfNat (nat_lit 53))) 705) (@List.cons @PySem.Value (@PySem.Value.int (@OfNat.ofNat @Int (nat_lit 60) (@instOfNat (nat_lit 60))) 710) (@List.cons @PySem.Value (@PySem.Value.int (@OfNat.ofNat @Int (nat_lit 61) (@instOfNat (nat_lit 61))) 733) (@List.cons @PySem.Value (@PySem.Value.int (@OfNat.ofNat @Int (nat_lit 54) (@instOfNat (nat_lit 54))) 738) (@List.cons @PySem.Value (@PySem.Value.int (@OfNat.ofNat @Int (nat_lit 47) (@instOfNat (nat_lit 47))) 743) (@List.cons @PySem.Value (@PySem.Value.int (@OfNat.ofNat @Int (nat_lit 55) (@instOfNat (nat_lit 55))) 765) (@List.cons @PySem.Value (@PySem.Value.int (@OfNat.ofNat @Int (nat_lit 62) (@instOfNat (nat_lit 62))) 770) (@List.cons @PySem.Value (@PySem.Value.int (@OfNat.ofNat @Int (nat_lit 63) (@instOfNat (nat_lit 63))) 793) (@List.nil @PySem.Value)))))))))))))))))))))))))))))))))))))))))))))))))))))))))))))))))) 0) (@List.toArray (@Option @PySem.Value) (@List.nil (@Option @PySem.Value))))
noncomputable def o279 (P : PySem.Params) : PySem.Obj := (@PySem.Obj.mk (@PySem.Value.type "dict") (@Option.none @Nat) (@PySem.Data.dict (@List.toArray @PySem.DictEntry (@List.cons @PySem.DictEntry (@PySem.DictEntry.mk (@PySem.PyData.keyHash P (PySem.Str.ofString "__name__")) (@PySem.Value.str (PySem.Str.ofString "__name__") 165) (@PySem.Value.str (PySem.Str.ofString "law_nt0537_01") 861)) (@List.cons @PySem.DictEntry (@PySem.DictEntry.mk (@PySem.PyData.keyHash P (PySem.Str.ofString "__doc__")) (@PySem.Value.str (PySem.Str.ofString "__doc__") 166) @PySem.Value.none) (@List.cons @PySem.DictEntry (@PySem.DictEntry.mk (@PySem.PyData.keyHash P (PySem.Str.ofString "__package__")) (@PySem.Value.str (PySem.Str.ofString "__package__") 167) @PySem.Value.none) (@List.cons @PySem.DictEntry (@PySem.DictEntry.mk (@PySem.PyData.keyHash P (PySem.Str.ofString "__loader__")) (@PySem.Value.str (PySem.Str.ofString "__loader__") 168) (@PySem.Value.builtin "__main__.__loader__#opaque")) (@List.cons @PySem.DictEntry (@PySem.DictEntry.mk (@PySem.PyData.keyHash P (PySem.Str.ofString "__spec__")) (@PySem.Value.str (PySem.Str.ofString "__spec__") 169) @PySem.Value.none) (@List.cons @PySem.DictEntry (@PySem.DictEntry.mk (@PySem.PyData.keyHash P (PySem.Str.ofString "__annotations__")) (@PySem.Value.str (PySem.Str.ofString "__annotations__") 170) (@PySem.Value.ref 6)) (@List.cons @PySem.DictEntry (@PySem.DictEntry.mk (@PySem.PyData.keyHash P (PySem.Str.ofString "__builtins__")) (@PySem.Value.str (PySem.Str.ofString "__builtins__") 171) (@PySem.Value.ref 4)) (@List.cons @PySem.DictEntry (@PySem.DictEntry.mk (@PySem.PyData.keyHash P (PySem.Str.ofString "__file__")) (@PySem.Value.str (PySem.Str.ofString "__file__") 173) (@PySem.Value.str (PySem.Str.ofString "/claim/cut.py") 172)) (@List.cons @PySem.DictEntry (@PySem.DictEntry.mk (@PySem.PyData.keyHash P (PySem.Str.ofString "__cached__")) (@PySem.Value.str (PySem.Str.ofString "__cached__") 174) @PySem.Value.none) (@List.cons @PySem.DictEntry (@PySem.DictEntry.mk (@PySem.PyData.keyHash P (PySem.Str.ofString "zigzag_places")) (@PySem.Value.str (PySem.Str.ofString "zigzag_places") 201) (@PySem.Value.ref 21)) (@List.cons @PySem.DictEntry (@PySem.DictEntry.mk (@PySem.PyData.keyHash P (PySem.Str.ofString "ORDER_8")) (@PySem.Value.str (PySem.Str.ofString "ORDER_8") 794) (@PySem.Value.ref 239)) (@List.cons @PySem.DictEntry (@PySem.DictEntry.mk (@PySem.PyData.keyHash P (PySem.Str.ofString "order")) (@PySem.Value.str (PySem.Str.ofString "order") 801) (@PySem.Value.ref 246)) (@List.cons @PySem.DictEntry (@PySem.DictEntry.mk (@PySem.PyData.keyHash P (PySem.Str.ofString "ranks")) (@PySem.Value.str (PySem.Str.ofString "ranks") 811) (@PySem.Value.ref 253)) (@List.cons @PySem.DictEntry (@PySem.DictEntry.mk (@PySem.PyData.keyHash P (PySem.Str.ofString "to_row")) (@PySem.Value.str (PySem.Str.ofString "to_row") 817) (@PySem.Value.ref 258)) (@List.cons @PySem.DictEntry (@PySem.DictEntry.mk (@PySem.PyData.keyHash P (PySem.Str.ofString "to_block")) (@PySem.Value.str (PySem.Str.ofString "to_block") 828) (@PySem.Value.ref 265)) (@List.cons @PySem.DictEntry (@PySem.DictEntry.mk (@PySem.PyData.keyHash P (PySem.Str.ofString "last_used")) (@PySem.Value.str (PySem.Str.ofString "last_used") 836) (@PySem.Value.ref 272)) (@List.cons @PySem.DictEntry (@PySem.DictEntry.mk (@PySem.PyData.keyHash P (PySem.Str.ofString "corner")) (@PySem.Value.str (PySem.Str.ofString "corner") 848) (@PySem.Value.ref 279)) (@List.cons @PySem.DictEntry (@PySem.DictEntry.mk (@PySem.PyData.keyHash P (PySem.Str.ofString "widened")) (@PySem.Value.str (PySem.Str.ofString "widened") 860) (@PySem.Value.ref 286)) (@List.cons @PySem.DictEntry (@PySem.DictEntry.mk (@PySem.PyData.keyHash P (PySem.Str.ofString "_law_pool")) (@PySem.Value.str (PySem.Str.ofString "_law_pool") 873) (@PySem.Value.ref 293)) (@List.cons @PySem.DictEntry (@PySem.DictEntry.mk (@PySem.PyData.keyHash P (PySem.Str.ofString "_law_take")) (@PySem.Value.str (PySem.Str.ofString "_law_take") 882) (@PySem.Value.ref 300)) (@List.cons @PySem.DictEntry (@PySem.DictEntry.mk (@PySem.PyData.keyHash P (PySem.Str.ofString "_law_walk")) (@PySem.Value.str (PySem.Str.ofString "_law_walk") 893) (@PySem.Value.ref 307)) (@List.cons @PySem.DictEntry (@PySem.DictEntry.mk (@PySem.PyData.keyHash P (PySem.Str.ofString "_law_numbers")) (@PySem.Value.str (PySem.Str.ofString "_law_numbers") 899) (@PySem.Value.ref 312)) (@List.cons @PySem.DictEntry (@PySem.DictEntry.mk (@PySem.PyData.keyHash P (PySem.Str.ofString "_law_row_right")) (@PySem.Value.str (PySem.Str.ofString "_law_row_right") 905) (@PySem.Value.ref 317)) (@List.nil @PySem.DictEntry))))))))))))))))))))))))) 23) (@List.toArray (@Option @PySem.Value) (@List.nil (@Option @PySem.Value))))
noncomputable def o280 (P : PySem.Params) : PySem.Obj := (@PySem.Obj.mk @PySem.Value.none (@Option.none @Nat) (@PySem.Data.fields (@List.toArray @PySem.Value (@List.cons @PySem.Value (@PySem.Value.int (@OfNat.ofNat @Int (nat_lit 2) (@instOfNat (nat_lit 2))) 0) (@List.cons @PySem.Value (@PySem.Value.int (@OfNat.ofNat @Int (nat_lit 0) (@instOfNat (nat_lit 0))) 0) (@List.cons @PySem.Value (@PySem.Value.ref 20) (@List.cons @PySem.Value (@PySem.Value.int (@OfNat.ofNat @Int (nat_lit 12) (@instOfNat (nat_lit 12))) 0) (@List.cons @PySem.Value (@PySem.Value.int (@OfNat.ofNat @Int (nat_lit 0) (@instOfNat (nat_lit 0))) 0) (@List.cons @PySem.Value (@PySem.Value.ref 245) (@List.cons @PySem.Value (@PySem.Value.int (@OfNat.ofNat @Int (nat_lit 14) (@instOfNat (nat_lit 14))) 0) (@List.cons @PySem.Value (@PySem.Value.int (@OfNat.ofNat @Int (nat_lit 0) (@instOfNat (nat_lit 0))) 0) (@List.cons @PySem.Value (@PySem.Value.ref 252) (@List.cons @PySem.Value (@PySem.Value.int (@OfNat.ofNat @Int (nat_lit 21) (@instOfNat (nat_lit 21))) 0) (@List.cons @PySem.Value (@PySem.Value.int (@OfNat.ofNat @Int (nat_lit 0) (@instOfNat (nat_lit 0))) 0) (@List.cons @PySem.Value (@PySem.Value.ref 257) (@List.cons @PySem.Value (@PySem.Value.int (@OfNat.ofNat @Int (nat_lit 23) (@instOfNat (nat_lit 23))) 0) (@List.cons @PySem.Value (@PySem.Value.int (@OfNat.ofNat @Int (nat_lit 0) (@instOfNat (nat_lit 0))) 0) (@List.cons @PySem.Value (@PySem.Value.ref 264) (@List.cons @PySem.Value (@PySem.Value.int (@OfNat.ofNat @Int (nat_lit 30) (@instOfNat (nat_lit 30))) 0) (@List.cons @PySem.Value (@PySem.Value.int (@OfNat.ofNat @Int (nat_lit 0) (@instOfNat (nat_lit 0))) 0) (@List.cons @PySem.Value (@PySem.Value.ref 271) (@List.cons @PySem.Value (@PySem.Value.int (@OfNat.ofNat @Int (nat_lit 35) (@instOfNat (nat_lit 35))) 0) (@List.cons @PySem.Value (@PySem.Value.int (@OfNat.ofNat @Int (nat_lit 0) (@instOfNat (nat_lit 0))) 0) (@List.cons @PySem.Value (@PySem.Value.ref 278) (@List.cons @PySem.Value (@PySem.Value.int (@OfNat.ofNat @Int (nat_lit 41) (@instOfNat (nat_lit 41))) 0) (@List.cons @PySem.Value (@PySem.Value.int (@OfNat.ofNat @Int (nat_lit 0) (@instOfNat (nat_lit 0))) 0) (@List.cons @PySem.Value (@PySem.Value.ref 285) (@List.cons @PySem.Value (@PySem.Value.int (@OfNat.ofNat @Int (nat_lit 48) (@instOfNat (nat_lit 48))) 0) (@List.cons @PySem.Value (@PySem.Value.int (@OfNat.ofNat @Int (nat_lit 0) (@instOfNat (nat_lit 0))) 0) (@List.cons @PySem.Value (@PySem.Value.ref 292) (@List.cons @PySem.Value (@PySem.Value.int (@OfNat.ofNat @Int (nat_lit 53) (@instOfNat (nat_lit 53))) 0) (@List.cons @PySem.Value (@PySem.Value.int (@OfNat.ofNat @Int (nat_lit 0) (@instOfNat (nat_lit 0))) 0) (@List.cons @PySem.Value (@PySem.Value.ref 299) (@List.cons @PySem.Value (@PySem.Value.int (@OfNat.ofNat @Int (nat_lit 60) (@instOfNat (nat_lit 60))) 0) (@List.cons @PySem.Value (@PySem.Value.int (@OfNat.ofNat @Int (nat_lit 0) (@instOfNat (nat_lit 0))) 0) (@List.cons @PySem.Value (@PySem.Value.ref 306) (@List.cons @PySem.Value (@PySem.Value.int (@OfNat.ofNat @Int (nat_lit 73) (@instOfNat (nat_lit 73))) 0) (@List.cons @PySem.Value (@PySem.Value.int (@OfNat.ofNat @Int (nat_lit 0) (@instOfNat (nat_lit 0))) 0) (@List.cons @PySem.Value (@PySem.Value.ref 311) (@List.cons @PySem.Value (@PySem.Value.int (@OfNat.ofNat @Int (nat_lit 76) (@instOfNat (nat_lit 76))) 0) (@List.cons @PySem.Value (@PySem.Value.int (@OfNat.ofNat @Int (nat_lit 0) (@instOfNat (nat_lit 0))) 0) (@List.cons @PySem.Value (@PySem.Value.ref 316) (@List.nil @PySem.Value)))))))))))))))))))))))))))))))))))))))))) (@List.toArray (@Option @PySem.Value) (@List.nil (@Option @PySem.Value))))
noncomputable def o281 (P : PySem.Params) : PySem.Obj := (@PySem.Obj.mk (@PySem.Value.type "tuple") (@Option.none @Nat) (@PySem.Data.seq (@List.toArray @PySem.Value (@List.nil @PySem.Value)) 0) (@List.toArray (@Option @PySem.Value) (@List.nil (@Option @PySem.Value))))
noncomputable def o282 (P : PySem.Params) : PySem.Obj := (@PySem.Obj.mk @PySem.Value.none (@Option.none @Nat) (@PySem.Data.fields (@List.toArray @PySem.Value (@List.nil @PySem.Value))) (@List.toArray (@Option @PySem.Value) (@List.nil (@Option @PySem.Value))))
noncomputable def o283 (P : PySem.Params) : PySem.Obj := (@PySem.Obj.mk (@PySem.Value.type "tuple") (@Option.none @Nat) (@PySem.Data.seq (@List.toArray @PySem.Value (@List.cons @PySem.Value (@PySem.Value.str (PySem.Str.ofString "n") 798) (@List.nil @PySem.Value))) 0) (@List.toArray (@Option @PySem.Value) (@List.nil (@Option @PySem.Value))))
noncomputable def o284 (P : PySem.Params) : PySem.Obj := (@PySem.Obj.mk (@PySem.Value.type "tuple") (@Option.none @Nat) (@PySem.Data.seq (@List.toArray @PySem.Value (@List.nil @PySem.Value)) 0) (@List.toArray (@Option @PySem.Value) (@List.nil (@Option @PySem.Value))))
noncomputable def o285 (P : PySem.Params) : PySem.Obj := (@PySem.Obj.mk @PySem.Value.none (@Option.none @Nat) (@PySem.Data.func (@PySem.FuncData.mk (PySem.Str.ofString "order") (PySem.Str.ofString "order") (Mine.psOf 3) (@PySem.FuncBody.stmts (Mine.bodyOf 3)) (Mine.scOf 3) 0 (@List.nil (@Prod @PySem.Str @Nat)) @PySem.Value.none @PySem.Value.none @PySem.Value.none @PySem.Value.none (@Option.none @Nat) @PySem.Value.none @PySem.Value.none 0)) (@List.toArray (@Option @PySem.Value) (@List.nil (@Option @PySem.Value))))
noncomputable def o286 (P : PySem.Params) : PySem.Obj := (@PySem.Obj.mk (@PySem.Value.type "code") (@Option.none @Nat) (@PySem.Data.fields (@List.toArray @PySem.Value (@List.cons @PySem.Value (@PySem.Value.str (PySem.Str.ofString "order") 795) (@List.cons @PySem.Value (@PySem.Value.str (PySem.Str.ofString "order") 796) (@List.cons @PySem.Value (@PySem.Value.str (PySem.Str.ofString "/claim/cut.py") 797) (@List.cons @PySem.Value (@PySem.Value.int (@OfNat.ofNat @Int (nat_lit 12) (@instOfNat (nat_lit 12))) 0) (@List.cons @PySem.Value (@PySem.Value.int (@OfNat.ofNat @Int (nat_lit 1) (@instOfNat (nat_lit 1))) 0) (@List.cons @PySem.Value (@PySem.Value.int (@OfNat.ofNat @Int (nat_lit 0) (@instOfNat (nat_lit 0))) 0) (@List.cons @PySem.Value (@PySem.Value.int (@OfNat.ofNat @Int (nat_lit 0) (@instOfNat (nat_lit 0))) 0) (@List.cons @PySem.Value (@PySem.Value.int (@OfNat.ofNat @Int (nat_lit 3) (@instOfNat (nat_lit 3))) 0) (@List.cons @PySem.Value (@PySem.Value.ref 240) (@List.cons @PySem.Value (@PySem.Value.bool @Bool.true) (@List.cons @PySem.Value (@PySem.Value.int (@OfNat.ofNat @Int (nat_lit 181) (@instOfNat (nat_lit 181))) 0) (@List.cons @PySem.Value (@PySem.Value.ref 241) (@List.cons @PySem.Value @PySem.Value.none (@List.cons @PySem.Value (@PySem.Value.ref 242) (@List.cons @PySem.Value (@PySem.Value.ref 243) (@List.cons @PySem.Value (@PySem.Value.ref 244) (@List.cons @PySem.Value (@PySem.Value.int (@OfNat.ofNat @Int (nat_lit 799) (@instOfNat (nat_lit 799))) 0) (@List.cons @PySem.Value (@PySem.Value.int (@OfNat.ofNat @Int (nat_lit 12) (@instOfNat (nat_lit 12))) 0) (@List.cons @PySem.Value (@PySem.Value.str (PySem.Str.ofString "/claim/cut.py") 800) (@List.nil @PySem.Value)))))))))))))))))))))) (@List.toArray (@Option @PySem.Value) (@List.nil (@Option @PySem.Value))))
noncomputable def o287 (P : PySem.Params) : PySem.Obj := (@PySem.Obj.mk (@PySem.Value.type "function") (@Option.none @Nat) (@PySem.Data.func (@PySem.FuncData.mk (PySem.Str.ofString "order") (PySem.Str.ofString "order") (Mine.psOf 3) (@PySem.FuncBody.stmts (Mine.bodyOf 3)) (Mine.scOf 3) 3 (@List.nil (@Prod @PySem.Str @Nat)) @PySem.Value.none @PySem.Value.none @PySem.Value.none (@PySem.Value.str (PySem.Str.ofString "pixelpress.zigzag") 187) (@Option.none @Nat) (@PySem.Value.ref 245) @PySem.Value.none 0)) (@List.toArray (@Option @PySem.Value) (@List.nil (@Option @PySem.Value))))
noncomputable def o288 (P : PySem.Params) : PySem.Obj := (@PySem.Obj.mk (@PySem.Value.type "tuple") (@Option.none @Nat) (@PySem.Data.seq (@List.toArray @PySem.Value (@List.nil @PySem.Value)) 0) (@List.toArray (@Option @PySem.Value) (@List.nil (@Option @PySem.Value))))
noncomputable def o289 (P : PySem.Params) : PySem.Obj := (@PySem.Obj.mk @PySem.Value.none (@Option.none @Nat) (@PySem.Data.fields (@List.toArray @PySem.Value (@List.nil @PySem.Value))) (@List.toArray (@Option @PySem.Value) (@List.nil (@Option @PySem.Value))))
noncomputable def o290 (P : PySem.Params) : PySem.Obj := (@PySem.Obj.mk (@PySem.Value.type "tuple") (@Option.none @Nat) (@PySem.Data.seq (@List.toArray @PySem.Value (@List.cons @PySem.Value (@PySem.Value.str (PySem.Str.ofString "n") 805) (@List.cons @PySem.Value (@PySem.Value.str (PySem.Str.ofString "found") 806) (@List.cons @PySem.Value (@PySem.Value.str (PySem.Str.ofString "rank") 807) (@List.cons @PySem.Value (@PySem.Value.str (PySem.Str.ofString "place") 808) (@List.nil @PySem.Value)))))) 0) (@List.toArray (@Option @PySem.Value) (@List.nil (@Option @PySem.Value))))
noncomputable def o291 (P : PySem.Params) : PySem.Obj := (@PySem.Obj.mk (@PySem.Value.type "tuple") (@Option.none @Nat) (@PySem.Data.seq (@List.toArray @PySem.Value (@List.nil @PySem.Value)) 0) (@List.toArray (@Option @PySem.Value) (@List.nil (@Option @PySem.Value))))
noncomputable def o292 (P : PySem.Params) : PySem.Obj := (@PySem.Obj.mk @PySem.Value.none (@Option.none @Nat) (@PySem.Data.func (@PySem.FuncData.mk (PySem.Str.ofString "ranks") (PySem.Str.ofString "ranks") (Mine.psOf 4) (@PySem.FuncBody.stmts (Mine.bodyOf 4)) (Mine.scOf 4) 0 (@List.nil (@Prod @PySem.Str @Nat)) @PySem.Value.none @PySem.Value.none @PySem.Value.none @PySem.Value.none (@Option.none @Nat) @PySem.Value.none @PySem.Value.none 0)) (@List.toArray (@Option @PySem.Value) (@List.nil (@Option @PySem.Value))))
noncomputable def o293 (P : PySem.Params) : PySem.Obj := (@PySem.Obj.mk (@PySem.Value.type "code") (@Option.none @Nat) (@PySem.Data.fields (@List.toArray @PySem.Value (@List.cons @PySem.Value (@PySem.Value.str (PySem.Str.ofString "ranks") 802) (@List.cons @PySem.Value (@PySem.Value.str (PySem.Str.ofString "ranks") 803) (@List.cons @PySem.Value (@PySem.Value.str (PySem.Str.ofString "/claim/cut.py") 804) (@List.cons @PySem.Value (@PySem.Value.int (@OfNat.ofNat @Int (nat_lit 14) (@instOfNat (nat_lit 14))) 0) (@List.cons @PySem.Value (@PySem.Value.int (@OfNat.ofNat @Int (nat_lit 1) (@instOfNat (nat_lit 1))) 0) (@List.cons @PySem.Value (@PySem.Value.int (@OfNat.ofNat @Int (nat_lit 0) (@instOfNat (nat_lit 0))) 0) (@List.cons @PySem.Value (@PySem.Value.int (@OfNat.ofNat @Int (nat_lit 0) (@instOfNat (nat_lit 0))) 0) (@List.cons @PySem.Value (@PySem.Value.int (@OfNat.ofNat @Int (nat_lit 3) (@instOfNat (nat_lit 3))) 0) (@List.cons @PySem.Value (@PySem.Value.ref 247) (@List.cons @PySem.Value (@PySem.Value.bool @Bool.true) (@List.cons @PySem.Value (@PySem.Value.int (@OfNat.ofNat @Int (nat_lit 181) (@instOfNat (nat_lit 181))) 0) (@List.cons @PySem.Value (@PySem.Value.ref 248) (@List.cons @PySem.Value @PySem.Value.none (@List.cons @PySem.Value (@PySem.Value.ref 249) (@List.cons @PySem.Value (@PySem.Value.ref 250) (@List.cons @PySem.Value (@PySem.Value.ref 251) (@List.cons @PySem.Value (@PySem.Value.int (@OfNat.ofNat @Int (nat_lit 809) (@instOfNat (nat_lit 809))) 0) (@List.cons @PySem.Value (@PySem.Value.int (@OfNat.ofNat @Int (nat_lit 14) (@instOfNat (nat_lit 14))) 0) (@List.cons @PySem.Value (@PySem.Value.str (PySem.Str.ofString "/claim/cut.py") 810) (@List.nil @PySem.Value)))))))))))))))))))))) (@List.toArray (@Option @PySem.Value) (@List.nil (@Option @PySem.Value))))
noncomputable def o294 (P : PySem.Params) : PySem.Obj := (@PySem.Obj.mk (@PySem.Value.type "function") (@Option.none @Nat) (@PySem.Data.func (@PySem.FuncData.mk (PySem.Str.ofString "ranks") (PySem.Str.ofString "ranks") (Mine.psOf 4) (@PySem.FuncBody.stmts (Mine.bodyOf 4)) (Mine.scOf 4) 3 (@List.nil (@Prod @PySem.Str @Nat)) @PySem.Value.none @PySem.Value.none @PySem.Value.none (@PySem.Value.str (PySem.Str.ofString "pixelpress.zigzag") 187) (@Option.none @Nat) (@PySem.Value.ref 252) @PySem.Value.none 0)) (@List.toArray (@Option @PySem.Value) (@List.nil (@Option @PySem.Value))))
noncomputable def o295 (P : PySem.Params) : PySem.Obj := (@PySem.Obj.mk (@PySem.Value.type "tuple") (@Option.none @Nat) (@PySem.Data.seq (@List.toArray @PySem.Value (@List.nil @PySem.Value)) 0) (@List.toArray (@Option @PySem.Value) (@List.nil (@Option @PySem.Value))))
noncomputable def o296 (P : PySem.Params) : PySem.Obj := (@PySem.Obj.mk @PySem.Value.none (@Option.none @Nat) (@PySem.Data.fields (@List.toArray @PySem.Value (@List.nil @PySem.Value))) (@List.toArray (@Option @PySem.Value) (@List.nil (@Option @PySem.Value))))
noncomputable def o297 (P : PySem.Params) : PySem.Obj := (@PySem.Obj.mk @PySem.Value.none (@Option.none @Nat) (@PySem.Data.func (@PySem.FuncData.mk (PySem.Str.ofString "to_row") (PySem.Str.ofString "to_row") (Mine.psOf 5) (@PySem.FuncBody.stmts (Mine.bodyOf 5)) (Mine.scOf 5) 0 (@List.nil (@Prod @PySem.Str @Nat)) @PySem.Value.none @PySem.Value.none @PySem.Value.none @PySem.Value.none (@Option.none @Nat) @PySem.Value.none @PySem.Value.none 0)) (@List.toArray (@Option @PySem.Value) (@List.nil (@Option @PySem.Value))))
noncomputable def o298 (P : PySem.Params) : PySem.Obj := (@PySem.Obj.mk (@PySem.Value.type "code") (@Option.none @Nat) (@PySem.Data.fields (@List.toArray @PySem.Value (@List.cons @PySem.Value (@PySem.Value.str (PySem.Str.ofString "to_row") 812) (@List.cons @PySem.Value (@PySem.Value.str (PySem.Str.ofString "to_row") 813) (@List.cons @PySem.Value (@PySem.Value.str (PySem.Str.ofString "/claim/cut.py") 814) (@List.cons @PySem.Value (@PySem.Value.int (@OfNat.ofNat @Int (nat_lit 21) (@instOfNat (nat_lit 21))) 0) (@List.cons @PySem.Value (@PySem.Value.int (@OfNat.ofNat @Int (nat_lit 2) (@instOfNat (nat_lit 2))) 0) (@List.cons @PySem.Value (@PySem.Value.int (@OfNat.ofNat @Int (nat_lit 0) (@instOfNat (nat_lit 0))) 0) (@List.cons @PySem.Value (@PySem.Value.int (@OfNat.ofNat @Int (nat_lit 0) (@instOfNat (nat_lit 0))) 0) (@List.cons @PySem.Value (@PySem.Value.int (@OfNat.ofNat @Int (nat_lit 3) (@instOfNat (nat_lit 3))) 0) (@List.cons @PySem.Value (@PySem.Value.ref 254) (@List.cons @PySem.Value (@PySem.Value.bool @Bool.true) (@List.cons @PySem.Value (@PySem.Value.int (@OfNat.ofNat @Int (nat_lit 181) (@instOfNat (nat_lit 181))) 0) (@List.cons @PySem.Value (@PySem.Value.ref 255) (@List.cons @PySem.Value @PySem.Value.none (@List.cons @PySem.Value @PySem.Value.none (@List.cons @PySem.Value @PySem.Value.none (@List.cons @PySem.Value (@PySem.Value.ref 256) (@List.cons @PySem.Value (@PySem.Value.int (@OfNat.ofNat @Int (nat_lit 815) (@instOfNat (nat_lit 815))) 0) (@List.cons @PySem.Value (@PySem.Value.int (@OfNat.ofNat @Int (nat_lit 21) (@instOfNat (nat_lit 21))) 0) (@List.cons @PySem.Value (@PySem.Value.str (PySem.Str.ofString "/claim/cut.py") 816) (@List.nil @PySem.Value)))))))))))))))))))))) (@List.toArray (@Option @PySem.Value) (@List.nil (@Option @PySem.Value))))
noncomputable def o299 (P : PySem.Params) : PySem.Obj := (@PySem.Obj.mk (@PySem.Value.type "function") (@Option.none @Nat) (@PySem.Data.func (@PySem.FuncData.mk (PySem.Str.ofString "to_row") (PySem.Str.ofString "to_row") (Mine.psOf 5) (@PySem.FuncBody.stmts (Mine.bodyOf 5)) (Mine.scOf 5) 3 (@List.nil (@Prod @PySem.Str @Nat)) @PySem.Value.none @PySem.Value.none @PySem.Value.none (@PySem.Value.str (PySem.Str.ofString "pixelpress.zigzag") 187) (@Option.none @Nat) (@PySem.Value.ref 257) @PySem.Value.none 0)) (@List.toArray (@Option @PySem.Value) (@List.nil (@Option @PySem.Value))))
noncomputable def o300 (P : PySem.Params) : PySem.Obj := (@PySem.Obj.mk (@PySem.Value.type "tuple") (@Option.none @Nat) (@PySem.Data.seq (@List.toArray @PySem.Value (@List.nil @PySem.Value)) 0) (@List.toArray (@Option @PySem.Value) (@List.nil (@Option @PySem.Value))))
noncomputable def o301 (P : PySem.Params) : PySem.Obj := (@PySem.Obj.mk @PySem.Value.none (@Option.none @Nat) (@PySem.Data.fields (@List.toArray @PySem.Value (@List.nil @PySem.Value))) (@List.toArray (@Option @PySem.Value) (@List.nil (@Option @PySem.Value))))
noncomputable def o302 (P : PySem.Params) : PySem.Obj := (@PySem.Obj.mk (@PySem.Value.type "tuple") (@Option.none @Nat) (@PySem.Data.seq (@List.toArray @PySem.Value (@List.cons @PySem.Value (@PySem.Value.str (PySem.Str.ofString "row") 821) (@List.cons @PySem.Value (@PySem.Value.str (PySem.Str.ofString "n") 822) (@List.cons @PySem.Value (@PySem.Value.str (PySem.Str.ofString "found") 823) (@List.cons @PySem.Value (@PySem.Value.str (PySem.Str.ofString "rank") 824) (@List.cons @PySem.Value (@PySem.Value.str (PySem.Str.ofString "place") 825) (@List.nil @PySem.Value))))))) 0) (@List.toArray (@Option @PySem.Value) (@List.nil (@Option @PySem.Value))))
noncomputable def o303 (P : PySem.Params) : PySem.Obj := (@PySem.Obj.mk (@PySem.Value.type "tuple") (@Option.none @Nat) (@PySem.Data.seq (@List.toArray @PySem.Value (@List.nil @PySem.Value)) 0) (@List.toArray (@Option @PySem.Value) (@List.nil (@Option @PySem.Value))))
noncomputable def o304 (P : PySem.Params) : PySem.Obj := (@PySem.Obj.mk @PySem.Value.none (@Option.none @Nat) (@PySem.Data.func (@PySem.FuncData.mk (PySem.Str.ofString "to_block") (PySem.Str.ofString "to_block") (Mine.psOf 6) (@PySem.FuncBody.stmts (Mine.bodyOf 6)) (Mine.scOf 6) 0 (@List.nil (@Prod @PySem.Str @Nat)) @PySem.Value.none @PySem.Value.none @PySem.Value.none @PySem.Value.none (@Option.none @Nat) @PySem.Value.none @PySem.Value.none 0)) (@List.toArray (@Option @PySem.Value) (@List.nil (@Option @PySem.Value))))
noncomputable def o305 (P : PySem.Params) : PySem.Obj := (@PySem.Obj.mk (@PySem.Value.type "code") (@Option.none @Nat) (@PySem.Data.fields (@List.toArray @PySem.Value (@List.cons @PySem.Value (@PySem.Value.str (PySem.Str.ofString "to_block") 818) (@List.cons @PySem.Value (@PySem.Value.str (PySem.Str.ofString "to_block") 819) (@List.cons @PySem.Value (@PySem.Value.str (PySem.Str.ofString "/claim/cut.py") 820) (@List.cons @PySem.Value (@PySem.Value.int (@OfNat.ofNat @Int (nat_lit 23) (@instOfNat (nat_lit 23))) 0) (@List.cons @PySem.Value (@PySem.Value.int (@OfNat.ofNat @Int (nat_lit 2) (@instOfNat (nat_lit 2))) 0) (@List.cons @PySem.Value (@PySem.Value.int (@OfNat.ofNat @Int (nat_lit 0) (@instOfNat (nat_lit 0))) 0) (@List.cons @PySem.Value (@PySem.Value.int (@OfNat.ofNat @Int (nat_lit 0) (@instOfNat (nat_lit 0))) 0) (@List.cons @PySem.Value (@PySem.Value.int (@OfNat.ofNat @Int (nat_lit 3) (@instOfNat (nat_lit 3))) 0) (@List.cons @PySem.Value (@PySem.Value.ref 259) (@List.cons @PySem.Value (@PySem.Value.bool @Bool.true) (@List.cons @PySem.Value (@PySem.Value.int (@OfNat.ofNat @Int (nat_lit 181) (@instOfNat (nat_lit 181))) 0) (@List.cons @PySem.Value (@PySem.Value.ref 260) (@List.cons @PySem.Value @PySem.Value.none (@List.cons @PySem.Value (@PySem.Value.ref 261) (@List.cons @PySem.Value (@PySem.Value.ref 262) (@List.cons @PySem.Value (@PySem.Value.ref 263) (@List.cons @PySem.Value (@PySem.Value.int (@OfNat.ofNat @Int (nat_lit 826) (@instOfNat (nat_lit 826))) 0) (@List.cons @PySem.Value (@PySem.Value.int (@OfNat.ofNat @Int (nat_lit 23) (@instOfNat (nat_lit 23))) 0) (@List.cons @PySem.Value (@PySem.Value.str (PySem.Str.ofString "/claim/cut.py") 827) (@List.nil @PySem.Value)))))))))))))))))))))) (@List.toArray (@Option @PySem.Value) (@List.nil (@Option @PySem.Value))))
noncomputable def o306 (P : PySem.Params) : PySem.Obj := (@PySem.Obj.mk (@PySem.Value.type "function") (@Option.none @Nat) (@PySem.Data.func (@PySem.FuncData.mk (PySem.Str.ofString "to_block") (PySem.Str.ofString "to_block") (Mine.psOf 6) (@PySem.FuncBody.stmts (Mine.bodyOf 6)) (Mine.scOf 6) 3 (@List.nil (@Prod @PySem.Str @Nat)) @PySem.Value.none @PySem.Value.none @PySem.Value.none (@PySem.Value.str (PySem.Str.ofString "pixelpress.zigzag") 187) (@Option.none @Nat) (@PySem.Value.ref 264) @PySem.Value.none 0)) (@List.toArray (@Option @PySem.Value) (@List.nil (@Option @PySem.Value))))
noncomputable def o307 (P : PySem.Params) : PySem.Obj := (@PySem.Obj.mk (@PySem.Value.type "tuple") (@Option.none @Nat) (@PySem.Data.seq (@List.toArray @PySem.Value (@List.nil @PySem.Value)) 0) (@List.toArray (@Option @PySem.Value) (@List.nil (@Option @PySem.Value))))
noncomputable def o308 (P : PySem.Params) : PySem.Obj := (@PySem.Obj.mk @PySem.Value.none (@Option.none @Nat) (@PySem.Data.fields (@List.toArray @PySem.Value (@List.nil @PySem.Value))) (@List.toArray (@Option @PySem.Value) (@List.nil (@Option @PySem.Value))))
noncomputable def o309 (P : PySem.Params) : PySem.Obj := (@PySem.Obj.mk (@PySem.Value.type "tuple") (@Option.none @Nat) (@PySem.Data.seq (@List.toArray @PySem.Value (@List.cons @PySem.Value (@PySem.Value.str (PySem.Str.ofString "row") 832) (@List.cons @PySem.Value (@PySem.Value.str (PySem.Str.ofString "rank") 833) (@List.nil @PySem.Value)))) 0) (@List.toArray (@Option @PySem.Value) (@List.nil (@Option @PySem.Value))))
noncomputable def o310 (P : PySem.Params) : PySem.Obj := (@PySem.Obj.mk (@PySem.Value.type "tuple") (@Option.none @Nat) (@PySem.Data.seq (@List.toArray @PySem.Value (@List.nil @PySem.Value)) 0) (@List.toArray (@Option @PySem.Value) (@List.nil (@Option @PySem.Value))))
noncomputable def o311 (P : PySem.Params) : PySem.Obj := (@PySem.Obj.mk @PySem.Value.none (@Option.none @Nat) (@PySem.Data.func (@PySem.FuncData.mk (PySem.Str.ofString "last_used") (PySem.Str.ofString "last_used") (Mine.psOf 7) (@PySem.FuncBody.stmts (Mine.bodyOf 7)) (Mine.scOf 7) 0 (@List.nil (@Prod @PySem.Str @Nat)) @PySem.Value.none @PySem.Value.none @PySem.Value.none @PySem.Value.none (@Option.none @Nat) @PySem.Value.none @PySem.Value.none 0)) (@List.toArray (@Option @PySem.Value) (@List.nil (@Option @PySem.Value))))
noncomputable def o312 (P : PySem.Params) : PySem.Obj := (@PySem.Obj.mk (@PySem.Value.type "code") (@Option.none @Nat) (@PySem.Data.fields (@List.toArray @PySem.Value (@List.cons @PySem.Value (@PySem.Value.str (PySem.Str.ofString "last_used") 829) (@List.cons @PySem.Value (@PySem.Value.str (PySem.Str.ofString "last_used") 830) (@List.cons @PySem.Value (@PySem.Value.str (PySem.Str.ofString "/claim/cut.py") 831) (@List.cons @PySem.Value (@PySem.Value.int (@OfNat.ofNat @Int (nat_lit 30) (@instOfNat (nat_lit 30))) 0) (@List.cons @PySem.Value (@PySem.Value.int (@OfNat.ofNat @Int (nat_lit 1) (@instOfNat (nat_lit 1))) 0) (@List.cons @PySem.Value (@PySem.Value.int (@OfNat.ofNat @Int (nat_lit 0) (@instOfNat (nat_lit 0))) 0) (@List.cons @PySem.Value (@PySem.Value.int (@OfNat.ofNat @Int (nat_lit 0) (@instOfNat (nat_lit 0))) 0) (@List.cons @PySem.Value (@PySem.Value.int (@OfNat.ofNat @Int (nat_lit 3) (@instOfNat (nat_lit 3))) 0) (@List.cons @PySem.Value (@PySem.Value.ref 266) (@List.cons @PySem.Value (@PySem.Value.bool @Bool.true) (@List.cons @PySem.Value (@PySem.Value.int (@OfNat.ofNat @Int (nat_lit 181) (@instOfNat (nat_lit 181))) 0) (@List.cons @PySem.Value (@PySem.Value.ref 267) (@List.cons @PySem.Value @PySem.Value.none (@List.cons @PySem.Value (@PySem.Value.ref 268) (@List.cons @PySem.Value (@PySem.Value.ref 269) (@List.cons @PySem.Value (@PySem.Value.ref 270) (@List.cons @PySem.Value (@PySem.Value.int (@OfNat.ofNat @Int (nat_lit 834) (@instOfNat (nat_lit 834))) 0) (@List.cons @PySem.Value (@PySem.Value.int (@OfNat.ofNat @Int (nat_lit 30) (@instOfNat (nat_lit 30))) 0) (@List.cons @PySem.Value (@PySem.Value.str (PySem.Str.ofString "/claim/cut.py") 835) (@List.nil @PySem.Value)))))))))))))))))))))) (@List.toArray (@Option @PySem.Value) (@List.nil (@Option @PySem.Value))))
noncomputable def o313 (P : PySem.Params) : PySem.Obj := (@PySem.Obj.mk (@PySem.Value.type "function") (@Option.none @Nat) (@PySem.Data.func (@PySem.FuncData.mk (PySem.Str.ofString "last_used") (PySem.Str.ofString "last_used") (Mine.psOf 7) (@PySem.FuncBody.stmts (Mine.bodyOf 7)) (Mine.scOf 7) 3 (@List.nil (@Prod @PySem.Str @Nat)) @PySem.Value.none @PySem.Value.none @PySem.Value.none (@PySem.Value.str (PySem.Str.ofString "pixelpress.zigzag") 187) (@Option.none @Nat) (@PySem.Value.ref 271) @PySem.Value.none 0)) (@List.toArray (@Option @PySem.Value) (@List.nil (@Option @PySem.Value))))
noncomputable def o314 (P : PySem.Params) : PySem.Obj := (@PySem.Obj.mk (@PySem.Value.type "tuple") (@Option.none @Nat) (@PySem.Data.seq (@List.toArray @PySem.Value (@List.nil @PySem.Value)) 0) (@List.toArray (@Option @PySem.Value) (@List.nil (@Option @PySem.Value))))
noncomputable def o315 (P : PySem.Params) : PySem.Obj := (@PySem.Obj.mk @PySem.Value.none (@Option.none @Nat) (@PySem.Data.fields (@List.toArray @PySem.Value (@List.nil @PySem.Value))) (@List.toArray (@Option @PySem.Value) (@List.nil (@Option @PySem.Value))))
noncomputable def o316 (P : PySem.Params) : PySem.Obj := (@PySem.Obj.mk (@PySem.Value.type "tuple") (@Option.none @Nat) (@PySem.Data.seq (@List.toArray @PySem.Value (@List.cons @PySem.Value (@PySem.Value.str (PySem.Str.ofString "row") 840) (@List.cons @PySem.Value (@PySem.Value.str (PySem.Str.ofString "n") 841) (@List.cons @PySem.Value (@PySem.Value.str (PySem.Str.ofString "less") 842) (@List.cons @PySem.Value (@PySem.Value.str (PySem.Str.ofString "block") 843) (@List.cons @PySem.Value (@PySem.Value.str (PySem.Str.ofString "small") 844) (@List.cons @PySem.Value (@PySem.Value.str (PySem.Str.ofString "y") 845) (@List.nil @PySem.Value)))))))) 0) (@List.toArray (@Option @PySem.Value) (@List.nil (@Option @PySem.Value))))
noncomputable def o317 (P : PySem.Params) : PySem.Obj := (@PySem.Obj.mk (@PySem.Value.type "tuple") (@Option.none @Nat) (@PySem.Data.seq (@List.toArray @PySem.Value (@List.nil @PySem.Value)) 0) (@List.toArray (@Option @PySem.Value) (@List.nil (@Option @PySem.Value))))
noncomputable def o318 (P : PySem.Params) : PySem.Obj := (@PySem.Obj.mk @PySem.Value.none (@Option.none @Nat) (@PySem.Data.func (@PySem.FuncData.mk (PySem.Str.ofString "corner") (PySem.Str.ofString "corner") (Mine.psOf 8) (@PySem.FuncBody.stmts (Mine.bodyOf 8)) (Mine.scOf 8) 0 (@List.nil (@Prod @PySem.Str @Nat)) @PySem.Value.none @PySem.Value.none @PySem.Value.none @PySem.Value.none (@Option.none @Nat) @PySem.Value.none @PySem.Value.none 0)) (@List.toArray (@Option @PySem.Value) (@List.nil (@Option @PySem.Value))))
noncomputable def o319 (P : PySem.Params) : PySem.Obj := (@PySem.Obj.mk (@PySem.Value.type "code") (@Option.none @Nat) (@PySem.Data.fields (@List.toArray @PySem.Value (@List.cons @PySem.Value (@PySem.Value.str (PySem.Str.ofString "corner") 837) (@List.cons @PySem.Value (@PySem.Value.str (PySem.Str.ofString "corner") 838) (@List.cons @PySem.Value (@PySem.Value.str (PySem.Str.ofString "/claim/cut.py") 839) (@List.cons @PySem.Value (@PySem.Value.int (@OfNat.ofNat @Int (nat_lit 35) (@instOfNat (nat_lit 35))) 0) (@List.cons @PySem.Value (@PySem.Value.int (@OfNat.ofNat @Int (nat_lit 3) (@instOfNat (nat_lit 3))) 0) (@List.cons @PySem.Value (@PySem.Value.int (@OfNat.ofNat @Int (nat_lit 0) (@instOfNat (nat_lit 0))) 0) (@List.cons @PySem.Value (@PySem.Value.int (@OfNat.ofNat @Int (nat_lit 0) (@instOfNat (nat_lit 0))) 0) (@List.cons @PySem.Value (@PySem.Value.int (@OfNat.ofNat @Int (nat_lit 3) (@instOfNat (nat_lit 3))) 0) (@List.cons @PySem.Value (@PySem.Value.ref 273) (@List.cons @PySem.Value (@PySem.Value.bool @Bool.true) (@List.cons @PySem.Value (@PySem.Value.int (@OfNat.ofNat @Int (nat_lit 181) (@instOfNat (nat_lit 181))) 0) (@List.cons @PySem.Value (@PySem.Value.ref 274) (@List.cons @PySem.Value @PySem.Value.none (@List.cons @PySem.Value (@PySem.Value.ref 275) (@List.cons @PySem.Value (@PySem.Value.ref 276) (@List.cons @PySem.Value (@PySem.Value.ref 277) (@List.cons @PySem.Value (@PySem.Value.int (@OfNat.ofNat @Int (nat_lit 846) (@instOfNat (nat_lit 846))) 0) (@List.cons @PySem.Value (@PySem.Value.int (@OfNat.ofNat @Int (nat_lit 35) (@instOfNat (nat_lit 35))) 0) (@List.cons @PySem.Value (@PySem.Value.str (PySem.Str.ofString "/claim/cut.py") 847) (@List.nil @PySem.Value)))))))))))))))))))))) (@List.toArray (@Option @PySem.Value) (@List.nil (@Option @PySem.Value))))
noncomputable def o320 (P : PySem.Params) : PySem.Obj := (@PySem.Obj.mk (@PySem.Value.type "function") (@Option.none @Nat) (@PySem.Data.func (@PySem.FuncData.mk (PySem.Str.ofString "corner") (PySem.Str.ofString "corner") (Mine.psOf 8) (@PySem.FuncBody.stmts (Mine.bodyOf 8)) (Mine.scOf 8) 3 (@List.nil (@Prod @PySem.Str @Nat)) @PySem.Value.none @PySem.Value.none @PySem.Value.none (@PySem.Value.str (PySem.Str.ofString "pixelpress.zigzag") 187) (@Option.none @Nat) (@PySem.Value.ref 278) @PySem.Value.none 0)) (@List.toArray (@Option @PySem.Value) (@List.nil (@Option @PySem.Value))))
noncomputable def o321 (P : PySem.Params) : PySem.Obj := (@PySem.Obj.mk (@PySem.Value.type "tuple") (@Option.none @Nat) (@PySem.Data.seq (@List.toArray @PySem.Value (@List.nil @PySem.Value)) 0) (@List.toArray (@Option @PySem.Value) (@List.nil (@Option @PySem.Value))))
noncomputable def o322 (P : PySem.Params) : PySem.Obj := (@PySem.Obj.mk @PySem.Value.none (@Option.none @Nat) (@PySem.Data.fields (@List.toArray @PySem.Value (@List.nil @PySem.Value))) (@List.toArray (@Option @PySem.Value) (@List.nil (@Option @PySem.Value))))
noncomputable def o323 (P : PySem.Params) : PySem.Obj := (@PySem.Obj.mk (@PySem.Value.type "tuple") (@Option.none @Nat) (@PySem.Data.seq (@List.toArray @PySem.Value (@List.cons @PySem.Value (@PySem.Value.str (PySem.Str.ofString "row") 852) (@List.cons @PySem.Value (@PySem.Value.str (PySem.Str.ofString "less") 853) (@List.cons @PySem.Value (@PySem.Value.str (PySem.Str.ofString "n") 854) (@List.cons @PySem.Value (@PySem.Value.str (PySem.Str.ofString "small") 855) (@List.cons @PySem.Value (@PySem.Value.str (PySem.Str.ofString "block") 856) (@List.cons @PySem.Value (@PySem.Value.str (PySem.Str.ofString "y") 857) (@List.nil @PySem.Value)))))))) 0) (@List.toArray (@Option @PySem.Value) (@List.nil (@Option @PySem.Value))))
noncomputable def o324 (P : PySem.Params) : PySem.Obj := (@PySem.Obj.mk (@PySem.Value.type "tuple") (@Option.none @Nat) (@PySem.Data.seq (@List.toArray @PySem.Value (@List.nil @PySem.Value)) 0) (@List.toArray (@Option @PySem.Value) (@List.nil (@Option @PySem.Value))))
noncomputable def o325 (P : PySem.Params) : PySem.Obj := (@PySem.Obj.mk @PySem.Value.none (@Option.none @Nat) (@PySem.Data.func (@PySem.FuncData.mk (PySem.Str.ofString "widened") (PySem.Str.ofString "widened") (Mine.psOf 9) (@PySem.FuncBody.stmts (Mine.bodyOf 9)) (Mine.scOf 9) 0 (@List.nil (@Prod @PySem.Str @Nat)) @PySem.Value.none @PySem.Value.none @PySem.Value.none @PySem.Value.none (@Option.none @Nat) @PySem.Value.none @PySem.Value.none 0)) (@List.toArray (@Option @PySem.Value) (@List.nil (@Option @PySem.Value))))
noncomputable def o326 (P : PySem.Params) : PySem.Obj := (@PySem.Obj.mk (@PySem.Value.type "code") (@Option.none @Nat) (@PySem.Data.fields (@List.toArray @PySem.Value (@List.cons @PySem.Value (@PySem.Value.str (PySem.Str.ofString "widened") 849) (@List.cons @PySem.Value (@PySem.Value.str (PySem.Str.ofString "widened") 850) (@List.cons @PySem.Value (@PySem.Value.str (PySem.Str.ofString "/claim/cut.py") 851) (@List.cons @PySem.Value (@PySem.Value.int (@OfNat.ofNat @Int (nat_lit 41) (@instOfNat (nat_lit 41))) 0) (@List.cons @PySem.Value (@PySem.Value.int (@OfNat.ofNat @Int (nat_lit 3) (@instOfNat (nat_lit 3))) 0) (@List.cons @PySem.Value (@PySem.Value.int (@OfNat.ofNat @Int (nat_lit 0) (@instOfNat (nat_lit 0))) 0) (@List.cons @PySem.Value (@PySem.Value.int (@OfNat.ofNat @Int (nat_lit 0) (@instOfNat (nat_lit 0))) 0) (@List.cons @PySem.Value (@PySem.Value.int (@OfNat.ofNat @Int (nat_lit 3) (@instOfNat (nat_lit 3))) 0) (@List.cons @PySem.Value (@PySem.Value.ref 280) (@List.cons @PySem.Value (@PySem.Value.bool @Bool.true) (@List.cons @PySem.Value (@PySem.Value.int (@OfNat.ofNat @Int (nat_lit 181) (@instOfNat (nat_lit 181))) 0) (@List.cons @PySem.Value (@PySem.Value.ref 281) (@List.cons @PySem.Value @PySem.Value.none (@List.cons @PySem.Value (@PySem.Value.ref 282) (@List.cons @PySem.Value (@PySem.Value.ref 283) (@List.cons @PySem.Value (@PySem.Value.ref 284) (@List.cons @PySem.Value (@PySem.Value.int (@OfNat.ofNat @Int (nat_lit 858) (@instOfNat (nat_lit 858))) 0) (@List.cons @PySem.Value (@PySem.Value.int (@OfNat.ofNat @Int (nat_lit 41) (@instOfNat (nat_lit 41))) 0) (@List.cons @PySem.Value (@PySem.Value.str (PySem.Str.ofString "/claim/cut.py") 859) (@List.nil @PySem.Value)))))))))))))))))))))) (@List.toArray (@Option @PySem.Value) (@List.nil (@Option @PySem.Value))))
noncomputable def o327 (P : PySem.Params) : PySem.Obj := (@PySem.Obj.mk (@PySem.Value.type "function") (@Option.none @Nat) (@PySem.Data.func (@PySem.FuncData.mk (PySem.Str.ofString "widened") (PySem.Str.ofString "widened") (Mine.psOf 9) (@PySem.FuncBody.stmts (Mine.bodyOf 9)) (Mine.scOf 9) 3 (@List.nil (@Prod @PySem.Str @Nat)) @PySem.Value.none @PySem.Value.none @PySem.Value.none (@PySem.Value.str (PySem.Str.ofString "pixelpress.zigzag") 187) (@Option.none @Nat) (@PySem.Value.ref 285) @PySem.Value.none 0)) (@List.toArray (@Option @PySem.Value) (@List.nil (@Option @PySem.Value))))
noncomputable def o328 (P : PySem.Params) : PySem.Obj := (@PySem.Obj.mk (@PySem.Value.type "tuple") (@Option.none @Nat) (@PySem.Data.seq (@List.toArray @PySem.Value (@List.nil @PySem.Value)) 0) (@List.toArray (@Option @PySem.Value) (@List.nil (@Option @PySem.Value))))
noncomputable def o329 (P : PySem.Params) : PySem.Obj := (@PySem.Obj.mk @PySem.Value.none (@Option.none @Nat) (@PySem.Data.fields (@List.toArray @PySem.Value (@List.nil @PySem.Value))) (@List.toArray (@Option @PySem.Value) (@List.nil (@Option @PySem.Value))))
noncomputable def o330 (P : PySem.Params) : PySem.Obj := (@PySem.Obj.mk (@PySem.Value.type "tuple") (@Option.none @Nat) (@PySem.Data.seq (@List.toArray @PySem.Value (@List.cons @PySem.Value (@PySem.Value.str (PySem.Str.ofString "script") 866) (@List.cons @PySem.Value (@PySem.Value.str (PySem.Str.ofString "k") 867) (@List.cons @PySem.Value (@PySem.Value.str (PySem.Str.ofString "cell") 868) (@List.cons @PySem.Value (@PySem.Value.str (PySem.Str.ofString "big") 869) (@List.cons @PySem.Value (@PySem.Value.str (PySem.Str.ofString "mixed") 870) (@List.nil @PySem.Value))))))) 0) (@List.toArray (@Option @PySem.Value) (@List.nil (@Option @PySem.Value))))
noncomputable def o331 (P : PySem.Params) : PySem.Obj := (@PySem.Obj.mk (@PySem.Value.type "tuple") (@Option.none @Nat) (@PySem.Data.seq (@List.toArray @PySem.Value (@List.nil @PySem.Value)) 0) (@List.toArray (@Option @PySem.Value) (@List.nil (@Option @PySem.Value))))
noncomputable def o332 (P : PySem.Params) : PySem.Obj := (@PySem.Obj.mk @PySem.Value.none (@Option.none @Nat) (@PySem.Data.func (@PySem.FuncData.mk (PySem.Str.ofString "_law_pool") (PySem.Str.ofString "_law_pool") (Mine.psOf 11) (@PySem.FuncBody.stmts (Mine.bodyOf 11)) (Mine.scOf 11) 0 (@List.nil (@Prod @PySem.Str @Nat)) @PySem.Value.none @PySem.Value.none @PySem.Value.none @PySem.Value.none (@Option.none @Nat) @PySem.Value.none @PySem.Value.none 0)) (@List.toArray (@Option @PySem.Value) (@List.nil (@Option @PySem.Value))))
noncomputable def o333 (P : PySem.Params) : PySem.Obj := (@PySem.Obj.mk (@PySem.Value.type "code") (@Option.none @Nat) (@PySem.Data.fields (@List.toArray @PySem.Value (@List.cons @PySem.Value (@PySem.Value.str (PySem.Str.ofString "_law_pool") 863) (@List.cons @PySem.Value (@PySem.Value.str (PySem.Str.ofString "_law_pool") 864) (@List.cons @PySem.Value (@PySem.Value.str (PySem.Str.ofString "/claim/cut.py") 865) (@List.cons @PySem.Value (@PySem.Value.int (@OfNat.ofNat @Int (nat_lit 48) (@instOfNat (nat_lit 48))) 0) (@List.cons @PySem.Value (@PySem.Value.int (@OfNat.ofNat @Int (nat_lit 2) (@instOfNat (nat_lit 2))) 0) (@List.cons @PySem.Value (@PySem.Value.int (@OfNat.ofNat @Int (nat_lit 0) (@instOfNat (nat_lit 0))) 0) (@List.cons @PySem.Value (@PySem.Value.int (@OfNat.ofNat @Int (nat_lit 0) (@instOfNat (nat_lit 0))) 0) (@List.cons @PySem.Value (@PySem.Value.int (@OfNat.ofNat @Int (nat_lit 3) (@instOfNat (nat_lit 3))) 0) (@List.cons @PySem.Value (@PySem.Value.ref 287) (@List.cons @PySem.Value (@PySem.Value.bool @Bool.true) (@List.cons @PySem.Value (@PySem.Value.int (@OfNat.ofNat @Int (nat_lit 181) (@instOfNat (nat_lit 181))) 0) (@List.cons @PySem.Value (@PySem.Value.ref 288) (@List.cons @PySem.Value @PySem.Value.none (@List.cons @PySem.Value (@PySem.Value.ref 289) (@List.cons @PySem.Value (@PySem.Value.ref 290) (@List.cons @PySem.Value (@PySem.Value.ref 291) (@List.cons @PySem.Value (@PySem.Value.int (@OfNat.ofNat @Int (nat_lit 871) (@instOfNat (nat_lit 871))) 0) (@List.cons @PySem.Value (@PySem.Value.int (@OfNat.ofNat @Int (nat_lit 48) (@instOfNat (nat_lit 48))) 0) (@List.cons @PySem.Value (@PySem.Value.str (PySem.Str.ofString "/claim/cut.py") 872) (@List.nil @PySem.Value)))))))))))))))))))))) (@List.toArray (@Option @PySem.Value) (@List.nil (@Option @PySem.Value))))
noncomputable def o334 (P : PySem.Params) : PySem.Obj := (@PySem.Obj.mk (@PySem.Value.type "function") (@Option.none @Nat) (@PySem.Data.func (@PySem.FuncData.mk (PySem.Str.ofString "_law_pool") (PySem.Str.ofString "_law_pool") (Mine.psOf 11) (@PySem.FuncBody.stmts (Mine.bodyOf 11)) (Mine.scOf 11) 3 (@List.nil (@Prod @PySem.Str @Nat)) @PySem.Value.none @PySem.Value.none @PySem.Value.none (@PySem.Value.str (PySem.Str.ofString "law_nt0537_01") 861) (@Option.none @Nat) (@PySem.Value.ref 292) @PySem.Value.none 0)) (@List.toArray (@Option @PySem.Value) (@List.nil (@Option @PySem.Value))))
noncomputable def o335 (P : PySem.Params) : PySem.Obj := (@PySem.Obj.mk (@PySem.Value.type "tuple") (@Option.none @Nat) (@PySem.Data.seq (@List.toArray @PySem.Value (@List.nil @PySem.Value)) 0) (@List.toArray (@Option @PySem.Value) (@List.nil (@Option @PySem.Value))))
noncomputable def o336 (P : PySem.Params) : PySem.Obj := (@PySem.Obj.mk @PySem.Value.none (@Option.none @Nat) (@PySem.Data.fields (@List.toArray @PySem.Value (@List.nil @PySem.Value))) (@List.toArray (@Option @PySem.Value) (@List.nil (@Option @PySem.Value))))
noncomputable def o337 (P : PySem.Params) : PySem.Obj := (@PySem.Obj.mk (@PySem.Value.type "tuple") (@Option.none @Nat) (@PySem.Data.seq (@List.toArray @PySem.Value (@List.cons @PySem.Value (@PySem.Value.str (PySem.Str.ofString "source") 877) (@List.cons @PySem.Value (@PySem.Value.str (PySem.Str.ofString "top") 878) (@List.cons @PySem.Value (@PySem.Value.str (PySem.Str.ofString "drawn") 879) (@List.nil @PySem.Value))))) 0) (@List.toArray (@Option @PySem.Value) (@List.nil (@Option @PySem.Value))))
noncomputable def o338 (P : PySem.Params) : PySem.Obj := (@PySem.Obj.mk (@PySem.Value.type "tuple") (@Option.none @Nat) (@PySem.Data.seq (@List.toArray @PySem.Value (@List.nil @PySem.Value)) 0) (@List.toArray (@Option @PySem.Value) (@List.nil (@Option @PySem.Value))))
noncomputable def o339 (P : PySem.Params) : PySem.Obj := (@PySem.Obj.mk @PySem.Value.none (@Option.none @Nat) (@PySem.Data.func (@PySem.FuncData.mk (PySem.Str.ofString "_law_take") (PySem.Str.ofString "_law_take") (Mine.psOf 12) (@PySem.FuncBody.stmts (Mine.bodyOf 12)) (Mine.scOf 12) 0 (@List.nil (@Prod @PySem.Str @Nat)) @PySem.Value.none @PySem.Value.none @PySem.Value.none @PySem.Value.none (@Option.none @Nat) @PySem.Value.none @PySem.Value.none 0)) (@List.toArray (@Option @PySem.Value) (@List.nil (@Option @PySem.Value))))
noncomputable def o340 (P : PySem.Params) : PySem.Obj := (@PySem.Obj.mk (@PySem.Value.type "code") (@Option.none @Nat) (@PySem.Data.fields (@List.toArray @PySem.Value (@List.cons @PySem.Value (@PySem.Value.str (PySem.Str.ofString "_law_take") 874) (@List.cons @PySem.Value (@PySem.Value.str (PySem.Str.ofString "_law_take") 875) (@List.cons @PySem.Value (@PySem.Value.str (PySem.Str.ofString "/claim/cut.py") 876) (@List.cons @PySem.Value (@PySem.Value.int (@OfNat.ofNat @Int (nat_lit 53) (@instOfNat (nat_lit 53))) 0) (@List.cons @PySem.Value (@PySem.Value.int (@OfNat.ofNat @Int (nat_lit 2) (@instOfNat (nat_lit 2))) 0) (@List.cons @PySem.Value (@PySem.Value.int (@OfNat.ofNat @Int (nat_lit 0) (@instOfNat (nat_lit 0))) 0) (@List.cons @PySem.Value (@PySem.Value.int (@OfNat.ofNat @Int (nat_lit 0) (@instOfNat (nat_lit 0))) 0) (@List.cons @PySem.Value (@PySem.Value.int (@OfNat.ofNat @Int (nat_lit 3) (@instOfNat (nat_lit 3))) 0) (@List.cons @PySem.Value (@PySem.Value.ref 294) (@List.cons @PySem.Value (@PySem.Value.bool @Bool.true) (@List.cons @PySem.Value (@PySem.Value.int (@OfNat.ofNat @Int (nat_lit 181) (@instOfNat (nat_lit 181))) 0) (@List.cons @PySem.Value (@PySem.Value.ref 295) (@List.cons @PySem.Value @PySem.Value.none (@List.cons @PySem.Value (@PySem.Value.ref 296) (@List.cons @PySem.Value (@PySem.Value.ref 297) (@List.cons @PySem.Value (@PySem.Value.ref 298) (@List.cons @PySem.Value (@PySem.Value.int (@OfNat.ofNat @Int (nat_lit 880) (@instOfNat (nat_lit 880))) 0) (@List.cons @PySem.Value (@PySem.Value.int (@OfNat.ofNat @Int (nat_lit 53) (@instOfNat (nat_lit 53))) 0) (@List.cons @PySem.Value (@PySem.Value.str (PySem.Str.ofString "/claim/cut.py") 881) (@List.nil @PySem.Value)))))))))))))))))))))) (@List.toArray (@Option @PySem.Value) (@List.nil (@Option @PySem.Value))))
noncomputable def o341 (P : PySem.Params) : PySem.Obj := (@PySem.Obj.mk (@PySem.Value.type "function") (@Option.none @Nat) (@PySem.Data.func (@PySem.FuncData.mk (PySem.Str.ofString "_law_take") (PySem.Str.ofString "_law_take") (Mine.psOf 12) (@PySem.FuncBody.stmts (Mine.bodyOf 12)) (Mine.scOf 12) 3 (@List.nil (@Prod @PySem.Str @Nat)) @PySem.Value.none @PySem.Value.none @PySem.Value.none (@PySem.Value.str (PySem.Str.ofString "law_nt0537_01") 861) (@Option.none @Nat) (@PySem.Value.ref 299) @PySem.Value.none 0)) (@List.toArray (@Option @PySem.Value) (@List.nil (@Option @PySem.Value))))
noncomputable def o342 (P : PySem.Params) : PySem.Obj := (@PySem.Obj.mk (@PySem.Value.type "tuple") (@Option.none @Nat) (@PySem.Data.seq (@List.toArray @PySem.Value (@List.nil @PySem.Value)) 0) (@List.toArray (@Option @PySem.Value) (@List.nil (@Option @PySem.Value))))
noncomputable def o343 (P : PySem.Params) : PySem.Obj := (@PySem.Obj.mk @PySem.Value.none (@Option.none @Nat) (@PySem.Data.fields (@List.toArray @PySem.Value (@List.nil @PySem.Value))) (@List.toArray (@Option @PySem.Value) (@List.nil (@Option @PySem.Value))))
noncomputable def o344 (P : PySem.Params) : PySem.Obj := (@PySem.Obj.mk (@PySem.Value.type "tuple") (@Option.none @Nat) (@PySem.Data.seq (@List.toArray @PySem.Value (@List.cons @PySem.Value (@PySem.Value.str (PySem.Str.ofString "n") 886) (@List.cons @PySem.Value (@PySem.Value.str (PySem.Str.ofString "x") 887) (@List.cons @PySem.Value (@PySem.Value.str (PySem.Str.ofString "y") 888) (@List.cons @PySem.Value (@PySem.Value.str (PySem.Str.ofString "is_up") 889) (@List.cons @PySem.Value (@PySem.Value.str (PySem.Str.ofString "found") 890) (@List.nil @PySem.Value))))))) 0) (@List.toArray (@Option @PySem.Value) (@List.nil (@Option @PySem.Value))))
noncomputable def o345 (P : PySem.Params) : PySem.Obj := (@PySem.Obj.mk (@PySem.Value.type "tuple") (@Option.none @Nat) (@PySem.Data.seq (@List.toArray @PySem.Value (@List.nil @PySem.Value)) 0) (@List.toArray (@Option @PySem.Value) (@List.nil (@Option @PySem.Value))))
noncomputable def o346 (P : PySem.Params) : PySem.Obj := (@PySem.Obj.mk @PySem.Value.none (@Option.none @Nat) (@PySem.Data.func (@PySem.FuncData.mk (PySem.Str.ofString "_law_walk") (PySem.Str.ofString "_law_walk") (Mine.psOf 13) (@PySem.FuncBody.stmts (Mine.bodyOf 13)) (Mine.scOf 13) 0 (@List.nil (@Prod @PySem.Str @Nat)) @PySem.Value.none @PySem.Value.none @PySem.Value.none @PySem.Value.none (@Option.none @Nat) @PySem.Value.none @PySem.Value.none 0)) (@List.toArray (@Option @PySem.Value) (@List.nil (@Option @PySem.Value))))
noncomputable def o347 (P : PySem.Params) : PySem.Obj := (@PySem.Obj.mk (@PySem.Value.type "code") (@Option.none @Nat) (@PySem.Data.fields (@List.toArray @PySem.Value (@List.cons @PySem.Value (@PySem.Value.str (PySem.Str.ofString "_law_walk") 883) (@List.cons @PySem.Value (@PySem.Value.str (PySem.Str.ofString "_law_walk") 884) (@List.cons @PySem.Value (@PySem.Value.str (PySem.Str.ofString "/claim/cut.py") 885) (@List.cons @PySem.Value (@PySem.Value.int (@OfNat.ofNat @Int (nat_lit 60) (@instOfNat (nat_lit 60))) 0) (@List.cons @PySem.Value (@PySem.Value.int (@OfNat.ofNat @Int (nat_lit 1) (@instOfNat (nat_lit 1))) 0) (@List.cons @PySem.Value (@PySem.Value.int (@OfNat.ofNat @Int (nat_lit 0) (@instOfNat (nat_lit 0))) 0) (@List.cons @PySem.Value (@PySem.Value.int (@OfNat.ofNat @Int (nat_lit 0) (@instOfNat (nat_lit 0))) 0) (@List.cons @PySem.Value (@PySem.Value.int (@OfNat.ofNat @Int (nat_lit 3) (@instOfNat (nat_lit 3))) 0) (@List.cons @PySem.Value (@PySem.Value.ref 301) (@List.cons @PySem.Value (@PySem.Value.bool @Bool.true) (@List.cons @PySem.Value (@PySem.Value.int (@OfNat.ofNat @Int (nat_lit 181) (@instOfNat (nat_lit 181))) 0) (@List.cons @PySem.Value (@PySem.Value.ref 302) (@List.cons @PySem.Value @PySem.Value.none (@List.cons @PySem.Value (@PySem.Value.ref 303) (@List.cons @PySem.Value (@PySem.Value.ref 304) (@List.cons @PySem.Value (@PySem.Value.ref 305) (@List.cons @PySem.Value (@PySem.Value.int (@OfNat.ofNat @Int (nat_lit 891) (@instOfNat (nat_lit 891))) 0) (@List.cons @PySem.Value (@PySem.Value.int (@OfNat.ofNat @Int (nat_lit 60) (@instOfNat (nat_lit 60))) 0) (@List.cons @PySem.Value (@PySem.Value.str (PySem.Str.ofString "/claim/cut.py") 892) (@List.nil @PySem.Value)))))))))))))))))))))) (@List.toArray (@Option @PySem.Value) (@List.nil (@Option @PySem.Value))))
noncomputable def o348 (P : PySem.Params) : PySem.Obj := (@PySem.Obj.mk (@PySem.Value.type "function") (@Option.none @Nat) (@PySem.Data.func (@PySem.FuncData.mk (PySem.Str.ofString "_law_walk") (PySem.Str.ofString "_law_walk") (Mine.psOf 13) (@PySem.FuncBody.stmts (Mine.bodyOf 13)) (Mine.scOf 13) 3 (@List.nil (@Prod @PySem.Str @Nat)) @PySem.Value.none @PySem.Value.none @PySem.Value.none (@PySem.Value.str (PySem.Str.ofString "law_nt0537_01") 861) (@Option.none @Nat) (@PySem.Value.ref 306) @PySem.Value.none 0)) (@List.toArray (@Option @PySem.Value) (@List.nil (@Option @PySem.Value))))
noncomputable def o349 (P : PySem.Params) : PySem.Obj := (@PySem.Obj.mk (@PySem.Value.type "tuple") (@Option.none @Nat) (@PySem.Data.seq (@List.toArray @PySem.Value (@List.nil @PySem.Value)) 0) (@List.toArray (@Option @PySem.Value) (@List.nil (@Option @PySem.Value))))
noncomputable def o350 (P : PySem.Params) : PySem.Obj := (@PySem.Obj.mk @PySem.Value.none (@Option.none @Nat) (@PySem.Data.fields (@List.toArray @PySem.Value (@List.nil @PySem.Value))) (@List.toArray (@Option @PySem.Value) (@List.nil (@Option @PySem.Value))))
noncomputable def o351 (P : PySem.Params) : PySem.Obj := (@PySem.Obj.mk @PySem.Value.none (@Option.none @Nat) (@PySem.Data.func (@PySem.FuncData.mk (PySem.Str.ofString "_law_numbers") (PySem.Str.ofString "_law_numbers") (Mine.psOf 14) (@PySem.FuncBody.stmts (Mine.bodyOf 14)) (Mine.scOf 14) 0 (@List.nil (@Prod @PySem.Str @Nat)) @PySem.Value.none @PySem.Value.none @PySem.Value.none @PySem.Value.none (@Option.none @Nat) @PySem.Value.none @PySem.Value.none 0)) (@List.toArray (@Option @PySem.Value) (@List.nil (@Option @PySem.Value))))
noncomputable def o352 (P : PySem.Params) : PySem.Obj := (@PySem.Obj.mk (@PySem.Value.type "code") (@Option.none @Nat) (@PySem.Data.fields (@List.toArray @PySem.Value (@List.cons @PySem.Value (@PySem.Value.str (PySem.Str.ofString "_law_numbers") 894) (@List.cons @PySem.Value (@PySem.Value.str (PySem.Str.ofString "_law_numbers") 895) (@List.cons @PySem.Value (@PySem.Value.str (PySem.Str.ofString "/claim/cut.py") 896) (@List.cons @PySem.Value (@PySem.Value.int (@OfNat.ofNat @Int (nat_lit 73) (@instOfNat (nat_lit 73))) 0) (@List.cons @PySem.Value (@PySem.Value.int (@OfNat.ofNat @Int (nat_lit 2) (@instOfNat (nat_lit 2))) 0) (@List.cons @PySem.Value (@PySem.Value.int (@OfNat.ofNat @Int (nat_lit 0) (@instOfNat (nat_lit 0))) 0) (@List.cons @PySem.Value (@PySem.Value.int (@OfNat.ofNat @Int (nat_lit 0) (@instOfNat (nat_lit 0))) 0) (@List.cons @PySem.Value (@PySem.Value.int (@OfNat.ofNat @Int (nat_lit 3) (@instOfNat (nat_lit 3))) 0) (@List.cons @PySem.Value (@PySem.Value.ref 308) (@List.cons @PySem.Value (@PySem.Value.bool @Bool.true) (@List.cons @PySem.Value (@PySem.Value.int (@OfNat.ofNat @Int (nat_lit 181) (@instOfNat (nat_lit 181))) 0) (@List.cons @PySem.Value (@PySem.Value.ref 309) (@List.cons @PySem.Value @PySem.Value.none (@List.cons @PySem.Value @PySem.Value.none (@List.cons @PySem.Value @PySem.Value.none (@List.cons @PySem.Value (@PySem.Value.ref 310) (@List.cons @PySem.Value (@PySem.Value.int (@OfNat.ofNat @Int (nat_lit 897) (@instOfNat (nat_lit 897))) 0) (@List.cons @PySem.Value (@PySem.Value.int (@OfNat.ofNat @Int (nat_lit 73) (@instOfNat (nat_lit 73))) 0) (@List.cons @PySem.Value (@PySem.Value.str (PySem.Str.ofString "/claim/cut.py") 898) (@List.nil @PySem.Value)))))))))))))))))))))) (@List.toArray (@Option @PySem.Value) (@List.nil (@Option @PySem.Value))))
noncomputable def o353 (P : PySem.Params) : PySem.Obj := (@PySem.Obj.mk (@PySem.Value.type "function") (@Option.none @Nat) (@PySem.Data.func (@PySem.FuncData.mk (PySem.Str.ofString "_law_numbers") (PySem.Str.ofString "_law_numbers") (Mine.psOf 14) (@PySem.FuncBody.stmts (Mine.bodyOf 14)) (Mine.scOf 14) 3 (@List.nil (@Prod @PySem.Str @Nat)) @PySem.Value.none @PySem.Value.none @PySem.Value.none (@PySem.Value.str (PySem.Str.ofString "law_nt0537_01") 861) (@Option.none @Nat) (@PySem.Value.ref 311) @PySem.Value.none 0)) (@List.toArray (@Option @PySem.Value) (@List.nil (@Option @PySem.Value))))
noncomputable def o354 (P : PySem.Params) : PySem.Obj := (@PySem.Obj.mk (@PySem.Value.type "tuple") (@Option.none @Nat) (@PySem.Data.seq (@List.toArray @PySem.Value (@List.nil @PySem.Value)) 0) (@List.toArray (@Option @PySem.Value) (@List.nil (@Option @PySem.Value))))
noncomputable def o355 (P : PySem.Params) : PySem.Obj := (@PySem.Obj.mk @PySem.Value.none (@Option.none @Nat) (@PySem.Data.fields (@List.toArray @PySem.Value (@List.nil @PySem.Value))) (@List.toArray (@Option @PySem.Value) (@List.nil (@Option @PySem.Value))))
noncomputable def o356 (P : PySem.Params) : PySem.Obj := (@PySem.Obj.mk @PySem.Value.none (@Option.none @Nat) (@PySem.Data.func (@PySem.FuncData.mk (PySem.Str.ofString "_law_row_right") (PySem.Str.ofString "_law_row_right") (Mine.psOf 15) (@PySem.FuncBody.stmts (Mine.bodyOf 15)) (Mine.scOf 15) 0 (@List.nil (@Prod @PySem.Str @Nat)) @PySem.Value.none @PySem.Value.none @PySem.Value.none @PySem.Value.none (@Option.none @Nat) @PySem.Value.none @PySem.Value.none 0)) (@List.toArray (@Option @PySem.Value) (@List.nil (@Option @PySem.Value))))
noncomputable def o357 (P : PySem.Params) : PySem.Obj := (@PySem.Obj.mk (@PySem.Value.type "code") (@Option.none @Nat) (@PySem.Data.fields (@List.toArray @PySem.Value (@List.cons @PySem.Value (@PySem.Value.str (PySem.Str.ofString "_law_row_right") 900) (@List.cons @PySem.Value (@PySem.Value.str (PySem.Str.ofString "_law_row_right") 901) (@List.cons @PySem.Value (@PySem.Value.str (PySem.Str.ofString "/claim/cut.py") 902) (@List.cons @PySem.Value (@PySem.Value.int (@OfNat.ofNat @Int (nat_lit 76) (@instOfNat (nat_lit 76))) 0) (@List.cons @PySem.Value (@PySem.Value.int (@OfNat.ofNat @Int (nat_lit 3) (@instOfNat (nat_lit 3))) 0) (@List.cons @PySem.Value (@PySem.Value.int (@OfNat.ofNat @Int (nat_lit 0) (@instOfNat (nat_lit 0))) 0) (@List.cons @PySem.Value (@PySem.Value.int (@OfNat.ofNat @Int (nat_lit 0) (@instOfNat (nat_lit 0))) 0) (@List.cons @PySem.Value (@PySem.Value.int (@OfNat.ofNat @Int (nat_lit 3) (@instOfNat (nat_lit 3))) 0) (@List.cons @PySem.Value (@PySem.Value.ref 313) (@List.cons @PySem.Value (@PySem.Value.bool @Bool.true) (@List.cons @PySem.Value (@PySem.Value.int (@OfNat.ofNat @Int (nat_lit 181) (@instOfNat (nat_lit 181))) 0) (@List.cons @PySem.Value (@PySem.Value.ref 314) (@List.cons @PySem.Value @PySem.Value.none (@List.cons @PySem.Value @PySem.Value.none (@List.cons @PySem.Value @PySem.Value.none (@List.cons @PySem.Value (@PySem.Value.ref 315) (@List.cons @PySem.Value (@PySem.Value.int (@OfNat.ofNat @Int (nat_lit 903) (@instOfNat (nat_lit 903))) 0) (@List.cons @PySem.Value (@PySem.Value.int (@OfNat.ofNat @Int (nat_lit 76) (@instOfNat (nat_lit 76))) 0) (@List.cons @PySem.Value (@PySem.Value.str (PySem.Str.ofString "/claim/cut.py") 904) (@List.nil @PySem.Value)))))))))))))))))))))) (@List.toArray (@Option @PySem.Value) (@List.nil (@Option @PySem.Value))))
noncomputable def o358 (P : PySem.Params) : PySem.Obj := (@PySem.Obj.mk (@PySem.Value.type "function") (@Option.none @Nat) (@PySem.Data.func (@PySem.FuncData.mk (PySem.Str.ofString "_law_row_right") (PySem.Str.ofString "_law_row_right") (Mine.psOf 15) (@PySem.FuncBody.stmts (Mine.bodyOf 15)) (Mine.scOf 15) 3 (@List.nil (@Prod @PySem.Str @Nat)) @PySem.Value.none @PySem.Value.none @PySem.Value.none (@PySem.Value.str (PySem.Str.ofString "law_nt0537_01") 861) (@Option.none @Nat) (@PySem.Value.ref 316) @PySem.Value.none 0)) (@List.toArray (@Option @PySem.Value) (@List.nil (@Option @PySem.Value))))
noncomputable def o359 (P : PySem.Params) : PySem.Obj := (@PySem.Obj.mk (@PySem.Value.type "dict") (@Option.none @Nat) (@PySem.Data.dict (@List.toArray @PySem.DictEntry (@List.cons @PySem.DictEntry (@PySem.DictEntry.mk (@PySem.PyData.keyHash P (PySem.Str.ofString "__name__")) (@PySem.Value.str (PySem.Str.ofString "__name__") 165) (@PySem.Value.str (PySem.Str.ofString "law_nt0537_01") 861)) (@List.cons @PySem.DictEntry (@PySem.DictEntry.mk (@PySem.PyData.keyHash P (PySem.Str.ofString "__doc__")) (@PySem.Value.str (PySem.Str.ofString "__doc__") 166) @PySem.Value.none) (@List.cons @PySem.DictEntry (@PySem.DictEntry.mk (@PySem.PyData.keyHash P (PySem.Str.ofString "__package__")) (@PySem.Value.str (PySem.Str.ofString "__package__") 167) @PySem.Value.none) (@List.cons @PySem.DictEntry (@PySem.DictEntry.mk (@PySem.PyData.keyHash P (PySem.Str.ofString "__loader__")) (@PySem.Value.str (PySem.Str.ofString "__loader__") 168) (@PySem.Value.builtin "__main__.__loader__#opaque")) (@List.cons @PySem.DictEntry (@PySem.DictEntry.mk (@PySem.PyData.keyHash P (PySem.Str.ofString "__spec__")) (@PySem.Value.str (PySem.Str.ofString "__spec__") 169) @PySem.Value.none) (@List.cons @PySem.DictEntry (@PySem.DictEntry.mk (@PySem.PyData.keyHash P (PySem.Str.ofString "__annotations__")) (@PySem.Value.str (PySem.Str.ofString "__annotations__") 170) (@PySem.Value.ref 6)) (@List.cons @PySem.DictEntry (@PySem.DictEntry.mk (@PySem.PyData.keyHash P (PySem.Str.ofString "__builtins__")) (@PySem.Value.str (PySem.Str.ofString "__builtins__") 171) (@PySem.Value.ref 4)) (@List.cons @PySem.DictEntry (@PySem.DictEntry.mk (@PySem.PyData.keyHash P (PySem.Str.ofString "__file__")) (@PySem.Value.str (PySem.Str.ofString "__file__") 173) (@PySem.Value.str (PySem.Str.ofString "/claim/cut.py") 172)) (@List.cons @PySem.DictEntry (@PySem.DictEntry.mk (@PySem.PyData.keyHash P (PySem.Str.ofString "__cached__")) (@PySem.Value.str (PySem.Str.ofString "__cached__") 174) @PySem.Value.none) (@List.cons @PySem.DictEntry (@PySem.DictEntry.mk (@PySem.PyData.keyHash P (PySem.Str.ofString "zigzag_places")) (@PySem.Value.str (PySem.Str.ofString "zigzag_places") 201) (@PySem.Value.ref 21)) (@List.cons @PySem.DictEntry (@PySem.DictEntry.mk (@PySem.PyData.keyHash P (PySem.Str.ofString "ORDER_8")) (@PySem.Value.str (PySem.Str.ofString "ORDER_8") 794) (@PySem.Value.ref 239)) (@List.cons @PySem.DictEntry (@PySem.DictEntry.mk (@PySem.PyData.keyHash P (PySem.Str.ofString "order")) (@PySem.Value.str (PySem.Str.ofString "order") 801) (@PySem.Value.ref 246)) (@List.cons @PySem.DictEntry (@PySem.DictEntry.mk (@PySem.PyData.keyHash P (PySem.Str.ofString "ranks")) (@PySem.Value.str (PySem.Str.ofString "ranks") 811) (@PySem.Value.ref 253)) (@List.cons @PySem.DictEntry (@PySem.DictEntry.mk (@PySem.PyData.keyHash P (PySem.Str.ofString "to_row")) (@PySem.Value.str (PySem.Str.ofString "to_row") 817) (@PySem.Value.ref 258)) (@List.cons @PySem.DictEntry (@PySem.DictEntry.mk (@PySem.PyData.keyHash P (PySem.Str.ofString "to_block")) (@PySem.Value.str (PySem.Str.ofString "to_block") 828) (@PySem.Value.ref 265)) (@List.cons @PySem.DictEntry (@PySem.DictEntry.mk (@PySem.PyData.keyHash P (PySem.Str.ofString "last_used")) (@PySem.Value.str (PySem.Str.ofString "last_used") 836) (@PySem.Value.ref 272)) (@List.cons @PySem.DictEntry (@PySem.DictEntry.mk (@PySem.PyData.keyHash P (PySem.Str.ofString "corner")) (@PySem.Value.str (PySem.Str.ofString "corner") 848) (@PySem.Value.ref 279)) (@List.cons @PySem.DictEntry (@PySem.DictEntry.mk (@PySem.PyData.keyHash P (PySem.Str.ofString "widened")) (@PySem.Value.str (PySem.Str.ofString "widened") 860) (@PySem.Value.ref 286)) (@List.cons @PySem.DictEntry (@PySem.DictEntry.mk (@PySem.PyData.keyHash P (PySem.Str.ofString "_law_pool")) (@PySem.Value.str (PySem.Str.ofString "_law_pool") 873) (@PySem.Value.ref 293)) (@List.cons @PySem.DictEntry (@PySem.DictEntry.mk (@PySem.PyData.keyHash P (PySem.Str.ofString "_law_take")) (@PySem.Value.str (PySem.Str.ofString "_law_take") 882) (@PySem.Value.ref 300)) (@List.cons @PySem.DictEntry (@PySem.DictEntry.mk (@PySem.PyData.keyHash P (PySem.Str.ofString "_law_walk")) (@PySem.Value.str (PySem.Str.ofString "_law_walk") 893) (@PySem.Value.ref 307)) (@List.cons @PySem.DictEntry (@PySem.DictEntry.mk (@PySem.PyData.keyHash P (PySem.Str.ofString "_law_numbers")) (@PySem.Value.str (PySem.Str.ofString "_law_numbers") 899) (@PySem.Value.ref 312)) (@List.cons @PySem.DictEntry (@PySem.DictEntry.mk (@PySem.PyData.keyHash P (PySem.Str.ofString "_law_row_right")) (@PySem.Value.str (PySem.Str.ofString "_law_row_right") 905) (@PySem.Value.ref 317)) (@List.cons @PySem.DictEntry (@PySem.DictEntry.mk (@PySem.PyData.keyHash P (PySem.Str.ofString "law")) (@PySem.Value.str (PySem.Str.ofString "law") 911) (@PySem.Value.ref 322)) (@List.nil @PySem.DictEntry)))))))))))))))))))))))))) 24) (@List.toArray (@Option @PySem.Value) (@List.nil (@Option @PySem.Value))))
noncomputable def o360 (P : PySem.Params) : PySem.Obj := (@PySem.Obj.mk @PySem.Value.none (@Option.none @Nat) (@PySem.Data.fields (@List.toArray @PySem.Value (@List.cons @PySem.Value (@PySem.Value.int (@OfNat.ofNat @Int (nat_lit 2) (@instOfNat (nat_lit 2))) 0) (@List.cons @PySem.Value (@PySem.Value.int (@OfNat.ofNat @Int (nat_lit 0) (@instOfNat (nat_lit 0))) 0) (@List.cons @PySem.Value (@PySem.Value.ref 20) (@List.cons @PySem.Value (@PySem.Value.int (@OfNat.ofNat @Int (nat_lit 12) (@instOfNat (nat_lit 12))) 0) (@List.cons @PySem.Value (@PySem.Value.int (@OfNat.ofNat @Int (nat_lit 0) (@instOfNat (nat_lit 0))) 0) (@List.cons @PySem.Value (@PySem.Value.ref 245) (@List.cons @PySem.Value (@PySem.Value.int (@OfNat.ofNat @Int (nat_lit 14) (@instOfNat (nat_lit 14))) 0) (@List.cons @PySem.Value (@PySem.Value.int (@OfNat.ofNat @Int (nat_lit 0) (@instOfNat (nat_lit 0))) 0) (@List.cons @PySem.Value (@PySem.Value.ref 252) (@List.cons @PySem.Value (@PySem.Value.int (@OfNat.ofNat @Int (nat_lit 21) (@instOfNat (nat_lit 21))) 0) (@List.cons @PySem.Value (@PySem.Value.int (@OfNat.ofNat @Int (nat_lit 0) (@instOfNat (nat_lit 0))) 0) (@List.cons @PySem.Value (@PySem.Value.ref 257) (@List.cons @PySem.Value (@PySem.Value.int (@OfNat.ofNat @Int (nat_lit 23) (@instOfNat (nat_lit 23))) 0) (@List.cons @PySem.Value (@PySem.Value.int (@OfNat.ofNat @Int (nat_lit 0) (@instOfNat (nat_lit 0))) 0) (@List.cons @PySem.Value (@PySem.Value.ref 264) (@List.cons @PySem.Value (@PySem.Value.int (@OfNat.ofNat @Int (nat_lit 30) (@instOfNat (nat_lit 30))) 0) (@List.cons @PySem.Value (@PySem.Value.int (@OfNat.ofNat @Int (nat_lit 0) (@instOfNat (nat_lit 0))) 0) (@List.cons @PySem.Value (@PySem.Value.ref 271) (@List.cons @PySem.Value (@PySem.Value.int (@OfNat.ofNat @Int (nat_lit 35) (@instOfNat (nat_lit 35))) 0) (@List.cons @PySem.Value (@PySem.Value.int (@OfNat.ofNat @Int (nat_lit 0) (@instOfNat (nat_lit 0))) 0) (@List.cons @PySem.Value (@PySem.Value.ref 278) (@List.cons @PySem.Value (@PySem.Value.int (@OfNat.ofNat @Int (nat_lit 41) (@instOfNat (nat_lit 41))) 0) (@List.cons @PySem.Value (@PySem.Value.int (@OfNat.ofNat @Int (nat_lit 0) (@instOfNat (nat_lit 0))) 0) (@List.cons @PySem.Value (@PySem.Value.ref 285) (@List.cons @PySem.Value (@PySem.Value.int (@OfNat.ofNat @Int (nat_lit 48) (@instOfNat (nat_lit 48))) 0) (@List.cons @PySem.Value (@PySem.Value.int (@OfNat.ofNat @Int (nat_lit 0) (@instOfNat (nat_lit 0))) 0) (@List.cons @PySem.Value (@PySem.Value.ref 292) (@List.cons @PySem.Value (@PySem.Value.int (@OfNat.ofNat @Int (nat_lit 53) (@instOfNat (nat_lit 53))) 0) (@List.cons @PySem.Value (@PySem.Value.int (@OfNat.ofNat @Int (nat_lit 0) (@instOfNat (nat_lit 0))) 0) (@List.cons @PySem.Value (@PySem.Value.ref 299) (@List.cons @PySem.Value (@PySem.Value.int (@OfNat.ofNat @Int (nat_lit 60) (@instOfNat (nat_lit 60))) 0) (@List.cons @PySem.Value (@PySem.Value.int (@OfNat.ofNat @Int (nat_lit 0) (@instOfNat (nat_lit 0))) 0) (@List.cons @PySem.Value (@PySem.Value.ref 306) (@List.cons @PySem.Value (@PySem.Value.int (@OfNat.ofNat @Int (nat_lit 73) (@instOfNat (nat_lit 73))) 0) (@List.cons @PySem.Value (@PySem.Value.int (@OfNat.ofNat @Int (nat_lit 0) (@instOfNat (nat_lit 0))) 0) (@List.cons @PySem.Value (@PySem.Value.ref 311) (@List.cons @PySem.Value (@PySem.Value.int (@OfNat.ofNat @Int (nat_lit 76) (@instOfNat (nat_lit 76))) 0) (@List.cons @PySem.Value (@PySem.Value.int (@OfNat.ofNat @Int (nat_lit 0) (@instOfNat (nat_lit 0))) 0) (@List.cons @PySem.Value (@PySem.Value.ref 316) (@List.cons @PySem.Value (@PySem.Value.int (@OfNat.ofNat @Int (nat_lit 98) (@instOfNat (nat_lit 98))) 0) (@List.cons @PySem.Value (@PySem.Value.int (@OfNat.ofNat @Int (nat_lit 0) (@instOfNat (nat_lit 0))) 0) (@List.cons @PySem.Value (@PySem.Value.ref 321) (@List.nil @PySem.Value))))))))))))))))))))))))))))))))))))))))))))) (@List.toArray (@Option @PySem.Value) (@List.nil (@Option @PySem.Value))))
noncomputable def o361 (P : PySem.Params) : PySem.Obj := (@PySem.Obj.mk (@PySem.Value.type "tuple") (@Option.none @Nat) (@PySem.Data.seq (@List.toArray @PySem.Value (@List.nil @PySem.Value)) 0) (@List.toArray (@Option @PySem.Value) (@List.nil (@Option @PySem.Value))))
noncomputable def o362 (P : PySem.Params) : PySem.Obj := (@PySem.Obj.mk @PySem.Value.none (@Option.none @Nat) (@PySem.Data.fields (@List.toArray @PySem.Value (@List.nil @PySem.Value))) (@List.toArray (@Option @PySem.Value) (@List.nil (@Option @PySem.Value))))
noncomputable def o363 (P : PySem.Params) : PySem.Obj := (@PySem.Obj.mk @PySem.Value.none (@Option.none @Nat) (@PySem.Data.func (@PySem.FuncData.mk (PySem.Str.ofString "law") (PySem.Str.ofString "law") (Mine.psOf 16) (@PySem.FuncBody.stmts (Mine.bodyOf 16)) (Mine.scOf 16) 0 (@List.nil (@Prod @PySem.Str @Nat)) @PySem.Value.none @PySem.Value.none @PySem.Value.none @PySem.Value.none (@Option.none @Nat) @PySem.Value.none @PySem.Value.none 0)) (@List.toArray (@Option @PySem.Value) (@List.nil (@Option @PySem.Value))))
noncomputable def o364 (P : PySem.Params) : PySem.Obj := (@PySem.Obj.mk (@PySem.Value.type "code") (@Option.none @Nat) (@PySem.Data.fields (@List.toArray @PySem.Value (@List.cons @PySem.Value (@PySem.Value.str (PySem.Str.ofString "law") 906) (@List.cons @PySem.Value (@PySem.Value.str (PySem.Str.ofString "law") 907) (@List.cons @PySem.Value (@PySem.Value.str (PySem.Str.ofString "/claim/cut.py") 908) (@List.cons @PySem.Value (@PySem.Value.int (@OfNat.ofNat @Int (nat_lit 98) (@instOfNat (nat_lit 98))) 0) (@List.cons @PySem.Value (@PySem.Value.int (@OfNat.ofNat @Int (nat_lit 1) (@instOfNat (nat_lit 1))) 0) (@List.cons @PySem.Value (@PySem.Value.int (@OfNat.ofNat @Int (nat_lit 0) (@instOfNat (nat_lit 0))) 0) (@List.cons @PySem.Value (@PySem.Value.int (@OfNat.ofNat @Int (nat_lit 0) (@instOfNat (nat_lit 0))) 0) (@List.cons @PySem.Value (@PySem.Value.int (@OfNat.ofNat @Int (nat_lit 3) (@instOfNat (nat_lit 3))) 0) (@List.cons @PySem.Value (@PySem.Value.ref 318) (@List.cons @PySem.Value (@PySem.Value.bool @Bool.true) (@List.cons @PySem.Value (@PySem.Value.int (@OfNat.ofNat @Int (nat_lit 181) (@instOfNat (nat_lit 181))) 0) (@List.cons @PySem.Value (@PySem.Value.ref 319) (@List.cons @PySem.Value @PySem.Value.none (@List.cons @PySem.Value @PySem.Value.none (@List.cons @PySem.Value @PySem.Value.none (@List.cons @PySem.Value (@PySem.Value.ref 320) (@List.cons @PySem.Value (@PySem.Value.int (@OfNat.ofNat @Int (nat_lit 909) (@instOfNat (nat_lit 909))) 0) (@List.cons @PySem.Value (@PySem.Value.int (@OfNat.ofNat @Int (nat_lit 98) (@instOfNat (nat_lit 98))) 0) (@List.cons @PySem.Value (@PySem.Value.str (PySem.Str.ofString "/claim/cut.py") 910) (@List.nil @PySem.Value)))))))))))))))))))))) (@List.toArray (@Option @PySem.Value) (@List.nil (@Option @PySem.Value))))
noncomputable def o365 (P : PySem.Params) : PySem.Obj := (@PySem.Obj.mk (@PySem.Value.type "function") (@Option.none @Nat) (@PySem.Data.func (@PySem.FuncData.mk (PySem.Str.ofString "law") (PySem.Str.ofString "law") (Mine.psOf 16) (@PySem.FuncBody.stmts (Mine.bodyOf 16)) (Mine.scOf 16) 3 (@List.nil (@Prod @PySem.Str @Nat)) @PySem.Value.none @PySem.Value.none @PySem.Value.none (@PySem.Value.str (PySem.Str.ofString "law_nt0537_01") 861) (@Option.none @Nat) (@PySem.Value.ref 321) @PySem.Value.none 0)) (@List.toArray (@Option @PySem.Value) (@List.nil (@Option @PySem.Value))))
noncomputable def bt0 (P : PySem.Params) : PySem.W.BT := (PySem.W.BT.node (@PySem.W.boot_o_7 P) PySem.W.BT.nil PySem.W.BT.nil)
noncomputable def bt1 (P : PySem.Params) : PySem.W.BT := (PySem.W.BT.node (@Mine.o43 P) PySem.W.BT.nil PySem.W.BT.nil)
noncomputable def bt2 (P : PySem.Params) : PySem.W.BT := (PySem.W.BT.node (@PySem.W.boot_o_9 P) PySem.W.BT.nil PySem.W.BT.nil)
noncomputable def bt3 (P : PySem.Params) : PySem.W.BT := (PySem.W.BT.node (@Mine.o45 P) PySem.W.BT.nil PySem.W.BT.nil)
noncomputable def bt4 (P : PySem.Params) : PySem.W.BT := (PySem.W.BT.node (@PySem.W.boot_o_8 P) PySem.W.BT.nil PySem.W.BT.nil)
noncomputable def bt5 (P : PySem.Params) : PySem.W.BT := (PySem.W.BT.node (@Mine.o44 P) PySem.W.BT.nil PySem.W.BT.nil)
noncomputable def bt6 (P : PySem.Params) : PySem.W.BT := (PySem.W.BT.node (@PySem.W.boot_o_10 P) PySem.W.BT.nil PySem.W.BT.nil)
noncomputable def bt7 (P : PySem.Params) : PySem.W.BT := (PySem.W.BT.node (@Mine.o46 P) PySem.W.BT.nil PySem.W.BT.nil)
noncomputable def bt8 (P : PySem.Params) : PySem.W.BT := (PySem.W.BT.node (@PySem.W.boot_o_0 P) (PySem.W.BT.node (@PySem.W.boot_o_1 P) (PySem.W.BT.node (@PySem.W.boot_o_3 P) (bt0 P) (bt1 P)) (PySem.W.BT.node (@PySem.W.boot_o_5 P) (bt2 P) (bt3 P))) (PySem.W.BT.node (@PySem.W.boot_o_2 P) (PySem.W.BT.node (@PySem.W.boot_o_4 P) (bt4 P) (bt5 P)) (PySem.W.BT.node (@PySem.W.boot_o_6 P) (bt6 P) (bt7 P))))
noncomputable def tr47 (P : PySem.Params) : PySem.W.BT := (bt8 P)
noncomputable def bt9 (P : PySem.Params) : PySem.W.BT := (PySem.W.BT.node (@PySem.W.boot_o_7 P) (PySem.W.BT.node (@Mine.o51 P) PySem.W.BT.nil PySem.W.BT.nil) PySem.W.BT.nil)
noncomputable def bt10 (P : PySem.Params) : PySem.W.BT := (PySem.W.BT.node (@Mine.o43 P) (PySem.W.BT.node (@Mine.o55 P) PySem.W.BT.nil PySem.W.BT.nil) PySem.W.BT.nil)
noncomputable def bt11 (P : PySem.Params) : PySem.W.BT := (PySem.W.BT.node (@PySem.W.boot_o_9 P) (PySem.W.BT.node (@Mine.o53 P) PySem.W.BT.nil PySem.W.BT.nil) PySem.W.BT.nil)
noncomputable def bt12 (P : PySem.Params) : PySem.W.BT := (PySem.W.BT.node (@Mine.o45 P) (PySem.W.BT.node (@Mine.o57 P) PySem.W.BT.nil PySem.W.BT.nil) PySem.W.BT.nil)
noncomputable def bt13 (P : PySem.Params) : PySem.W.BT := (PySem.W.BT.node (@PySem.W.boot_o_8 P) (PySem.W.BT.node (@Mine.o52 P) PySem.W.BT.nil PySem.W.BT.nil) PySem.W.BT.nil)
noncomputable def bt14 (P : PySem.Params) : PySem.W.BT := (PySem.W.BT.node (@Mine.o50 P) (PySem.W.BT.node (@Mine.o56 P) PySem.W.BT.nil PySem.W.BT.nil) PySem.W.BT.nil)
noncomputable def bt15 (P : PySem.Params) : PySem.W.BT := (PySem.W.BT.node (@PySem.W.boot_o_10 P) (PySem.W.BT.node (@Mine.o54 P) PySem.W.BT.nil PySem.W.BT.nil) PySem.W.BT.nil)
noncomputable def bt16 (P : PySem.Params) : PySem.W.BT := (PySem.W.BT.node (@PySem.W.boot_o_0 P) (PySem.W.BT.node (@PySem.W.boot_o_1 P) (PySem.W.BT.node (@Mine.o49 P) (bt9 P) (bt10 P)) (PySem.W.BT.node (@PySem.W.boot_o_5 P) (bt11 P) (bt12 P))) (PySem.W.BT.node (@PySem.W.boot_o_2 P) (PySem.W.BT.node (@PySem.W.boot_o_4 P) (bt13 P) (bt14 P)) (PySem.W.BT.node (@PySem.W.boot_o_6 P) (bt15 P) (bt7 P))))
noncomputable def tr57 (P : PySem.Params) : PySem.W.BT := (bt16 P)
noncomputable def bt17 (P : PySem.Params) : PySem.W.BT := (PySem.W.BT.node (@Mine.o100 P) (PySem.W.BT.node (@Mine.o164 P) PySem.W.BT.nil PySem.W.BT.nil) (PySem.W.BT.node (@Mine.o228 P) PySem.W.BT.nil PySem.W.BT.nil))
noncomputable def bt18 (P : PySem.Params) : PySem.W.BT := (PySem.W.BT.node (@Mine.o132 P) (PySem.W.BT.node (@Mine.o196 P) PySem.W.BT.nil PySem.W.BT.nil) (PySem.W.BT.node (@Mine.o260 P) PySem.W.BT.nil PySem.W.BT.nil))
noncomputable def bt19 (P : PySem.Params) : PySem.W.BT := (PySem.W.BT.node (@Mine.o116 P) (PySem.W.BT.node (@Mine.o180 P) PySem.W.BT.nil PySem.W.BT.nil) (PySem.W.BT.node (@Mine.o244 P) PySem.W.BT.nil PySem.W.BT.nil))
noncomputable def bt20 (P : PySem.Params) : PySem.W.BT := (PySem.W.BT.node (@Mine.o148 P) (PySem.W.BT.node (@Mine.o212 P) PySem.W.BT.nil PySem.W.BT.nil) (PySem.W.BT.node (@Mine.o276 P) PySem.W.BT.nil PySem.W.BT.nil))
noncomputable def bt21 (P : PySem.Params) : PySem.W.BT := (PySem.W.BT.node (@Mine.o108 P) (PySem.W.BT.node (@Mine.o172 P) PySem.W.BT.nil PySem.W.BT.nil) (PySem.W.BT.node (@Mine.o236 P) PySem.W.BT.nil PySem.W.BT.nil))
noncomputable def bt22 (P : PySem.Params) : PySem.W.BT := (PySem.W.BT.node (@Mine.o140 P) (PySem.W.BT.node (@Mine.o204 P) PySem.W.BT.nil PySem.W.BT.nil) (PySem.W.BT.node (@Mine.o268 P) PySem.W.BT.nil PySem.W.BT.nil))
noncomputable def bt23 (P : PySem.Params) : PySem.W.BT := (PySem.W.BT.node (@Mine.o124 P) (PySem.W.BT.node (@Mine.o188 P) PySem.W.BT.nil PySem.W.BT.nil) (PySem.W.BT.node (@Mine.o252 P) PySem.W.BT.nil PySem.W.BT.nil))
noncomputable def bt24 (P : PySem.Params) : PySem.W.BT := (PySem.W.BT.node (@Mine.o156 P) (PySem.W.BT.node (@Mine.o220 P) PySem.W.BT.nil PySem.W.BT.nil) PySem.W.BT.nil)
noncomputable def bt25 (P : PySem.Params) : PySem.W.BT := (PySem.W.BT.node (@PySem.W.boot_o_7 P) (PySem.W.BT.node (@Mine.o51 P) (PySem.W.BT.node (@Mine.o68 P) (bt17 P) (bt18 P)) (PySem.W.BT.node (@Mine.o84 P) (bt19 P) (bt20 P))) (PySem.W.BT.node (@Mine.o60 P) (PySem.W.BT.node (@Mine.o76 P) (bt21 P) (bt22 P)) (PySem.W.BT.node (@Mine.o92 P) (bt23 P) (bt24 P))))
noncomputable def bt26 (P : PySem.Params) : PySem.W.BT := (PySem.W.BT.node (@Mine.o104 P) (PySem.W.BT.node (@Mine.o168 P) PySem.W.BT.nil PySem.W.BT.nil) (PySem.W.BT.node (@Mine.o232 P) PySem.W.BT.nil PySem.W.BT.nil))
noncomputable def bt27 (P : PySem.Params) : PySem.W.BT := (PySem.W.BT.node (@Mine.o136 P) (PySem.W.BT.node (@Mine.o200 P) PySem.W.BT.nil PySem.W.BT.nil) (PySem.W.BT.node (@Mine.o264 P) PySem.W.BT.nil PySem.W.BT.nil))
noncomputable def bt28 (P : PySem.Params) : PySem.W.BT := (PySem.W.BT.node (@Mine.o120 P) (PySem.W.BT.node (@Mine.o184 P) PySem.W.BT.nil PySem.W.BT.nil) (PySem.W.BT.node (@Mine.o248 P) PySem.W.BT.nil PySem.W.BT.nil))
noncomputable def bt29 (P : PySem.Params) : PySem.W.BT := (PySem.W.BT.node (@Mine.o152 P) (PySem.W.BT.node (@Mine.o216 P) PySem.W.BT.nil PySem.W.BT.nil) PySem.W.BT.nil)
noncomputable def bt30 (P : PySem.Params) : PySem.W.BT := (PySem.W.BT.node (@Mine.o112 P) (PySem.W.BT.node (@Mine.o176 P) PySem.W.BT.nil PySem.W.BT.nil) (PySem.W.BT.node (@Mine.o240 P) PySem.W.BT.nil PySem.W.BT.nil))
noncomputable def bt31 (P : PySem.Params) : PySem.W.BT := (PySem.W.BT.node (@Mine.o144 P) (PySem.W.BT.node (@Mine.o208 P) PySem.W.BT.nil PySem.W.BT.nil) (PySem.W.BT.node (@Mine.o272 P) PySem.W.BT.nil PySem.W.BT.nil))
noncomputable def bt32 (P : PySem.Params) : PySem.W.BT := (PySem.W.BT.node (@Mine.o128 P) (PySem.W.BT.node (@Mine.o192 P) PySem.W.BT.nil PySem.W.BT.nil) (PySem.W.BT.node (@Mine.o256 P) PySem.W.BT.nil PySem.W.BT.nil))
noncomputable def bt33 (P : PySem.Params) : PySem.W.BT := (PySem.W.BT.node (@Mine.o160 P) (PySem.W.BT.node (@Mine.o224 P) PySem.W.BT.nil PySem.W.BT.nil) PySem.W.BT.nil)
noncomputable def bt34 (P : PySem.Params) : PySem.W.BT := (PySem.W.BT.node (@Mine.o43 P) (PySem.W.BT.node (@Mine.o55 P) (PySem.W.BT.node (@Mine.o72 P) (bt26 P) (bt27 P)) (PySem.W.BT.node (@Mine.o88 P) (bt28 P) (bt29 P))) (PySem.W.BT.node (@Mine.o64 P) (PySem.W.BT.node (@Mine.o80 P) (bt30 P) (bt31 P)) (PySem.W.BT.node (@Mine.o96 P) (bt32 P) (bt33 P))))
noncomputable def bt35 (P : PySem.Params) : PySem.W.BT := (PySem.W.BT.node (@Mine.o102 P) (PySem.W.BT.node (@Mine.o166 P) PySem.W.BT.nil PySem.W.BT.nil) (PySem.W.BT.node (@Mine.o230 P) PySem.W.BT.nil PySem.W.BT.nil))
noncomputable def bt36 (P : PySem.Params) : PySem.W.BT := (PySem.W.BT.node (@Mine.o134 P) (PySem.W.BT.node (@Mine.o198 P) PySem.W.BT.nil PySem.W.BT.nil) (PySem.W.BT.node (@Mine.o262 P) PySem.W.BT.nil PySem.W.BT.nil))
noncomputable def bt37 (P : PySem.Params) : PySem.W.BT := (PySem.W.BT.node (@Mine.o118 P) (PySem.W.BT.node (@Mine.o182 P) PySem.W.BT.nil PySem.W.BT.nil) (PySem.W.BT.node (@Mine.o246 P) PySem.W.BT.nil PySem.W.BT.nil))
noncomputable def bt38 (P : PySem.Params) : PySem.W.BT := (PySem.W.BT.node (@Mine.o150 P) (PySem.W.BT.node (@Mine.o214 P) PySem.W.BT.nil PySem.W.BT.nil) PySem.W.BT.nil)
noncomputable def bt39 (P : PySem.Params) : PySem.W.BT := (PySem.W.BT.node (@Mine.o110 P) (PySem.W.BT.node (@Mine.o174 P) PySem.W.BT.nil PySem.W.BT.nil) (PySem.W.BT.node (@Mine.o238 P) PySem.W.BT.nil PySem.W.BT.nil))
noncomputable def bt40 (P : PySem.Params) : PySem.W.BT := (PySem.W.BT.node (@Mine.o142 P) (PySem.W.BT.node (@Mine.o206 P) PySem.W.BT.nil PySem.W.BT.nil) (PySem.W.BT.node (@Mine.o270 P) PySem.W.BT.nil PySem.W.BT.nil))
noncomputable def bt41 (P : PySem.Params) : PySem.W.BT := (PySem.W.BT.node (@Mine.o126 P) (PySem.W.BT.node (@Mine.o190 P) PySem.W.BT.nil PySem.W.BT.nil) (PySem.W.BT.node (@Mine.o254 P) PySem.W.BT.nil PySem.W.BT.nil))
noncomputable def bt42 (P : PySem.Params) : PySem.W.BT := (PySem.W.BT.node (@Mine.o158 P) (PySem.W.BT.node (@Mine.o222 P) PySem.W.BT.nil PySem.W.BT.nil) PySem.W.BT.nil)
noncomputable def bt43 (P : PySem.Params) : PySem.W.BT := (PySem.W.BT.node (@PySem.W.boot_o_9 P) (PySem.W.BT.node (@Mine.o53 P) (PySem.W.BT.node (@Mine.o70 P) (bt35 P) (bt36 P)) (PySem.W.BT.node (@Mine.o86 P) (bt37 P) (bt38 P))) (PySem.W.BT.node (@Mine.o62 P) (PySem.W.BT.node (@Mine.o78 P) (bt39 P) (bt40 P)) (PySem.W.BT.node (@Mine.o94 P) (bt41 P) (bt42 P))))
noncomputable def bt44 (P : PySem.Params) : PySem.W.BT := (PySem.W.BT.node (@Mine.o106 P) (PySem.W.BT.node (@Mine.o170 P) PySem.W.BT.nil PySem.W.BT.nil) (PySem.W.BT.node (@Mine.o234 P) PySem.W.BT.nil PySem.W.BT.nil))
noncomputable def bt45 (P : PySem.Params) : PySem.W.BT := (PySem.W.BT.node (@Mine.o138 P) (PySem.W.BT.node (@Mine.o202 P) PySem.W.BT.nil PySem.W.BT.nil) (PySem.W.BT.node (@Mine.o266 P) PySem.W.BT.nil PySem.W.BT.nil))
noncomputable def bt46 (P : PySem.Params) : PySem.W.BT := (PySem.W.BT.node (@Mine.o122 P) (PySem.W.BT.node (@Mine.o186 P) PySem.W.BT.nil PySem.W.BT.nil) (PySem.W.BT.node (@Mine.o250 P) PySem.W.BT.nil PySem.W.BT.nil))
noncomputable def bt47 (P : PySem.Params) : PySem.W.BT := (PySem.W.BT.node (@Mine.o154 P) (PySem.W.BT.node (@Mine.o218 P) PySem.W.BT.nil PySem.W.BT.nil) PySem.W.BT.nil)
noncomputable def bt48 (P : PySem.Params) : PySem.W.BT := (PySem.W.BT.node (@Mine.o114 P) (PySem.W.BT.node (@Mine.o178 P) PySem.W.BT.nil PySem.W.BT.nil) (PySem.W.BT.node (@Mine.o242 P) PySem.W.BT.nil PySem.W.BT.nil))
noncomputable def bt49 (P : PySem.Params) : PySem.W.BT := (PySem.W.BT.node (@Mine.o146 P) (PySem.W.BT.node (@Mine.o210 P) PySem.W.BT.nil PySem.W.BT.nil) (PySem.W.BT.node (@Mine.o274 P) PySem.W.BT.nil PySem.W.BT.nil))
noncomputable def bt50 (P : PySem.Params) : PySem.W.BT := (PySem.W.BT.node (@Mine.o130 P) (PySem.W.BT.node (@Mine.o194 P) PySem.W.BT.nil PySem.W.BT.nil) (PySem.W.BT.node (@Mine.o258 P) PySem.W.BT.nil PySem.W.BT.nil))
noncomputable def bt51 (P : PySem.Params) : PySem.W.BT := (PySem.W.BT.node (@Mine.o162 P) (PySem.W.BT.node (@Mine.o226 P) PySem.W.BT.nil PySem.W.BT.nil) PySem.W.BT.nil)
noncomputable def bt52 (P : PySem.Params) : PySem.W.BT := (PySem.W.BT.node (@Mine.o45 P) (PySem.W.BT.node (@Mine.o57 P) (PySem.W.BT.node (@Mine.o74 P) (bt44 P) (bt45 P)) (PySem.W.BT.node (@Mine.o90 P) (bt46 P) (bt47 P))) (PySem.W.BT.node (@Mine.o66 P) (PySem.W.BT.node (@Mine.o82 P) (bt48 P) (bt49 P)) (PySem.W.BT.node (@Mine.o98 P) (bt50 P) (bt51 P))))
noncomputable def bt53 (P : PySem.Params) : PySem.W.BT := (PySem.W.BT.node (@Mine.o101 P) (PySem.W.BT.node (@Mine.o165 P) PySem.W.BT.nil PySem.W.BT.nil) (PySem.W.BT.node (@Mine.o229 P) PySem.W.BT.nil PySem.W.BT.nil))
noncomputable def bt54 (P : PySem.Params) : PySem.W.BT := (PySem.W.BT.node (@Mine.o133 P) (PySem.W.BT.node (@Mine.o197 P) PySem.W.BT.nil PySem.W.BT.nil) (PySem.W.BT.node (@Mine.o261 P) PySem.W.BT.nil PySem.W.BT.nil))
noncomputable def bt55 (P : PySem.Params) : PySem.W.BT := (PySem.W.BT.node (@Mine.o117 P) (PySem.W.BT.node (@Mine.o181 P) PySem.W.BT.nil PySem.W.BT.nil) (PySem.W.BT.node (@Mine.o245 P) PySem.W.BT.nil PySem.W.BT.nil))
noncomputable def bt56 (P : PySem.Params) : PySem.W.BT := (PySem.W.BT.node (@Mine.o149 P) (PySem.W.BT.node (@Mine.o213 P) PySem.W.BT.nil PySem.W.BT.nil) PySem.W.BT.nil)
noncomputable def bt57 (P : PySem.Params) : PySem.W.BT := (PySem.W.BT.node (@Mine.o109 P) (PySem.W.BT.node (@Mine.o173 P) PySem.W.BT.nil PySem.W.BT.nil) (PySem.W.BT.node (@Mine.o237 P) PySem.W.BT.nil PySem.W.BT.nil))
noncomputable def bt58 (P : PySem.Params) : PySem.W.BT := (PySem.W.BT.node (@Mine.o141 P) (PySem.W.BT.node (@Mine.o205 P) PySem.W.BT.nil PySem.W.BT.nil) (PySem.W.BT.node (@Mine.o269 P) PySem.W.BT.nil PySem.W.BT.nil))
noncomputable def bt59 (P : PySem.Params) : PySem.W.BT := (PySem.W.BT.node (@Mine.o125 P) (PySem.W.BT.node (@Mine.o189 P) PySem.W.BT.nil PySem.W.BT.nil) (PySem.W.BT.node (@Mine.o253 P) PySem.W.BT.nil PySem.W.BT.nil))
noncomputable def bt60 (P : PySem.Params) : PySem.W.BT := (PySem.W.BT.node (@Mine.o157 P) (PySem.W.BT.node (@Mine.o221 P) PySem.W.BT.nil PySem.W.BT.nil) PySem.W.BT.nil)
noncomputable def bt61 (P : PySem.Params) : PySem.W.BT := (PySem.W.BT.node (@PySem.W.boot_o_8 P) (PySem.W.BT.node (@Mine.o52 P) (PySem.W.BT.node (@Mine.o69 P) (bt53 P) (bt54 P)) (PySem.W.BT.node (@Mine.o85 P) (bt55 P) (bt56 P))) (PySem.W.BT.node (@Mine.o61 P) (PySem.W.BT.node (@Mine.o77 P) (bt57 P) (bt58 P)) (PySem.W.BT.node (@Mine.o93 P) (bt59 P) (bt60 P))))
noncomputable def bt62 (P : PySem.Params) : PySem.W.BT := (PySem.W.BT.node (@Mine.o105 P) (PySem.W.BT.node (@Mine.o169 P) PySem.W.BT.nil PySem.W.BT.nil) (PySem.W.BT.node (@Mine.o233 P) PySem.W.BT.nil PySem.W.BT.nil))
noncomputable def bt63 (P : PySem.Params) : PySem.W.BT := (PySem.W.BT.node (@Mine.o137 P) (PySem.W.BT.node (@Mine.o201 P) PySem.W.BT.nil PySem.W.BT.nil) (PySem.W.BT.node (@Mine.o265 P) PySem.W.BT.nil PySem.W.BT.nil))
noncomputable def bt64 (P : PySem.Params) : PySem.W.BT := (PySem.W.BT.node (@Mine.o121 P) (PySem.W.BT.node (@Mine.o185 P) PySem.W.BT.nil PySem.W.BT.nil) (PySem.W.BT.node (@Mine.o249 P) PySem.W.BT.nil PySem.W.BT.nil))
noncomputable def bt65 (P : PySem.Params) : PySem.W.BT := (PySem.W.BT.node (@Mine.o153 P) (PySem.W.BT.node (@Mine.o217 P) PySem.W.BT.nil PySem.W.BT.nil) PySem.W.BT.nil)
noncomputable def bt66 (P : PySem.Params) : PySem.W.BT := (PySem.W.BT.node (@Mine.o113 P) (PySem.W.BT.node (@Mine.o177 P) PySem.W.BT.nil PySem.W.BT.nil) (PySem.W.BT.node (@Mine.o241 P) PySem.W.BT.nil PySem.W.BT.nil))
noncomputable def bt67 (P : PySem.Params) : PySem.W.BT := (PySem.W.BT.node (@Mine.o145 P) (PySem.W.BT.node (@Mine.o209 P) PySem.W.BT.nil PySem.W.BT.nil) (PySem.W.BT.node (@Mine.o273 P) PySem.W.BT.nil PySem.W.BT.nil))
noncomputable def bt68 (P : PySem.Params) : PySem.W.BT := (PySem.W.BT.node (@Mine.o129 P) (PySem.W.BT.node (@Mine.o193 P) PySem.W.BT.nil PySem.W.BT.nil) (PySem.W.BT.node (@Mine.o257 P) PySem.W.BT.nil PySem.W.BT.nil))
noncomputable def bt69 (P : PySem.Params) : PySem.W.BT := (PySem.W.BT.node (@Mine.o161 P) (PySem.W.BT.node (@Mine.o225 P) PySem.W.BT.nil PySem.W.BT.nil) PySem.W.BT.nil)
noncomputable def bt70 (P : PySem.Params) : PySem.W.BT := (PySem.W.BT.node (@Mine.o50 P) (PySem.W.BT.node (@Mine.o56 P) (PySem.W.BT.node (@Mine.o73 P) (bt62 P) (bt63 P)) (PySem.W.BT.node (@Mine.o89 P) (bt64 P) (bt65 P))) (PySem.W.BT.node (@Mine.o65 P) (PySem.W.BT.node (@Mine.o81 P) (bt66 P) (bt67 P)) (PySem.W.BT.node (@Mine.o97 P) (bt68 P) (bt69 P))))
noncomputable def bt71 (P : PySem.Params) : PySem.W.BT := (PySem.W.BT.node (@Mine.o103 P) (PySem.W.BT.node (@Mine.o167 P) PySem.W.BT.nil PySem.W.BT.nil) (PySem.W.BT.node (@Mine.o231 P) PySem.W.BT.nil PySem.W.BT.nil))
noncomputable def bt72 (P : PySem.Params) : PySem.W.BT := (PySem.W.BT.node (@Mine.o135 P) (PySem.W.BT.node (@Mine.o199 P) PySem.W.BT.nil PySem.W.BT.nil) (PySem.W.BT.node (@Mine.o263 P) PySem.W.BT.nil PySem.W.BT.nil))
noncomputable def bt73 (P : PySem.Params) : PySem.W.BT := (PySem.W.BT.node (@Mine.o119 P) (PySem.W.BT.node (@Mine.o183 P) PySem.W.BT.nil PySem.W.BT.nil) (PySem.W.BT.node (@Mine.o247 P) PySem.W.BT.nil PySem.W.BT.nil))
noncomputable def bt74 (P : PySem.Params) : PySem.W.BT := (PySem.W.BT.node (@Mine.o151 P) (PySem.W.BT.node (@Mine.o215 P) PySem.W.BT.nil PySem.W.BT.nil) PySem.W.BT.nil)
noncomputable def bt75 (P : PySem.Params) : PySem.W.BT := (PySem.W.BT.node (@Mine.o111 P) (PySem.W.BT.node (@Mine.o175 P) PySem.W.BT.nil PySem.W.BT.nil) (PySem.W.BT.node (@Mine.o239 P) PySem.W.BT.nil PySem.W.BT.nil))
noncomputable def bt76 (P : PySem.Params) : PySem.W.BT := (PySem.W.BT.node (@Mine.o143 P) (PySem.W.BT.node (@Mine.o207 P) PySem.W.BT.nil PySem.W.BT.nil) (PySem.W.BT.node (@Mine.o271 P) PySem.W.BT.nil PySem.W.BT.nil))
noncomputable def bt77 (P : PySem.Params) : PySem.W.BT := (PySem.W.BT.node (@Mine.o127 P) (PySem.W.BT.node (@Mine.o191 P) PySem.W.BT.nil PySem.W.BT.nil) (PySem.W.BT.node (@Mine.o255 P) PySem.W.BT.nil PySem.W.BT.nil))
noncomputable def bt78 (P : PySem.Params) : PySem.W.BT := (PySem.W.BT.node (@Mine.o159 P) (PySem.W.BT.node (@Mine.o223 P) PySem.W.BT.nil PySem.W.BT.nil) PySem.W.BT.nil)
noncomputable def bt79 (P : PySem.Params) : PySem.W.BT := (PySem.W.BT.node (@PySem.W.boot_o_10 P) (PySem.W.BT.node (@Mine.o54 P) (PySem.W.BT.node (@Mine.o71 P) (bt71 P) (bt72 P)) (PySem.W.BT.node (@Mine.o87 P) (bt73 P) (bt74 P))) (PySem.W.BT.node (@Mine.o63 P) (PySem.W.BT.node (@Mine.o79 P) (bt75 P) (bt76 P)) (PySem.W.BT.node (@Mine.o95 P) (bt77 P) (bt78 P))))
noncomputable def bt80 (P : PySem.Params) : PySem.W.BT := (PySem.W.BT.node (@Mine.o107 P) (PySem.W.BT.node (@Mine.o171 P) PySem.W.BT.nil PySem.W.BT.nil) (PySem.W.BT.node (@Mine.o235 P) PySem.W.BT.nil PySem.W.BT.nil))
noncomputable def bt81 (P : PySem.Params) : PySem.W.BT := (PySem.W.BT.node (@Mine.o139 P) (PySem.W.BT.node (@Mine.o203 P) PySem.W.BT.nil PySem.W.BT.nil) (PySem.W.BT.node (@Mine.o267 P) PySem.W.BT.nil PySem.W.BT.nil))
noncomputable def bt82 (P : PySem.Params) : PySem.W.BT := (PySem.W.BT.node (@Mine.o123 P) (PySem.W.BT.node (@Mine.o187 P) PySem.W.BT.nil PySem.W.BT.nil) (PySem.W.BT.node (@Mine.o251 P) PySem.W.BT.nil PySem.W.BT.nil))
noncomputable def bt83 (P : PySem.Params) : PySem.W.BT := (PySem.W.BT.node (@Mine.o155 P) (PySem.W.BT.node (@Mine.o219 P) PySem.W.BT.nil PySem.W.BT.nil) PySem.W.BT.nil)
noncomputable def bt84 (P : PySem.Params) : PySem.W.BT := (PySem.W.BT.node (@Mine.o115 P) (PySem.W.BT.node (@Mine.o179 P) PySem.W.BT.nil PySem.W.BT.nil) (PySem.W.BT.node (@Mine.o243 P) PySem.W.BT.nil PySem.W.BT.nil))
noncomputable def bt85 (P : PySem.Params) : PySem.W.BT := (PySem.W.BT.node (@Mine.o147 P) (PySem.W.BT.node (@Mine.o211 P) PySem.W.BT.nil PySem.W.BT.nil) (PySem.W.BT.node (@Mine.o275 P) PySem.W.BT.nil PySem.W.BT.nil))
noncomputable def bt86 (P : PySem.Params) : PySem.W.BT := (PySem.W.BT.node (@Mine.o131 P) (PySem.W.BT.node (@Mine.o195 P) PySem.W.BT.nil PySem.W.BT.nil) (PySem.W.BT.node (@Mine.o259 P) PySem.W.BT.nil PySem.W.BT.nil))
noncomputable def bt87 (P : PySem.Params) : PySem.W.BT := (PySem.W.BT.node (@Mine.o163 P) (PySem.W.BT.node (@Mine.o227 P) PySem.W.BT.nil PySem.W.BT.nil) PySem.W.BT.nil)
noncomputable def bt88 (P : PySem.Params) : PySem.W.BT := (PySem.W.BT.node (@Mine.o46 P) (PySem.W.BT.node (@Mine.o59 P) (PySem.W.BT.node (@Mine.o75 P) (bt80 P) (bt81 P)) (PySem.W.BT.node (@Mine.o91 P) (bt82 P) (bt83 P))) (PySem.W.BT.node (@Mine.o67 P) (PySem.W.BT.node (@Mine.o83 P) (bt84 P) (bt85 P)) (PySem.W.BT.node (@Mine.o99 P) (bt86 P) (bt87 P))))
noncomputable def bt89 (P : PySem.Params) : PySem.W.BT := (PySem.W.BT.node (@PySem.W.boot_o_0 P) (PySem.W.BT.node (@PySem.W.boot_o_1 P) (PySem.W.BT.node (@Mine.o58 P) (bt25 P) (bt34 P)) (PySem.W.BT.node (@PySem.W.boot_o_5 P) (bt43 P) (bt52 P))) (PySem.W.BT.node (@PySem.W.boot_o_2 P) (PySem.W.BT.node (@PySem.W.boot_o_4 P) (bt61 P) (bt70 P)) (PySem.W.BT.node (@PySem.W.boot_o_6 P) (bt79 P) (bt88 P))))
noncomputable def tr276 (P : PySem.Params) : PySem.W.BT := (bt89 P)
noncomputable def bt90 (P : PySem.Params) : PySem.W.BT := (PySem.W.BT.node (@Mine.o100 P) (PySem.W.BT.node (@Mine.o164 P) (PySem.W.BT.node (@Mine.o296 P) PySem.W.BT.nil PySem.W.BT.nil) PySem.W.BT.nil) (PySem.W.BT.node (@Mine.o228 P) PySem.W.BT.nil PySem.W.BT.nil))
noncomputable def bt91 (P : PySem.Params) : PySem.W.BT := (PySem.W.BT.node (@Mine.o132 P) (PySem.W.BT.node (@Mine.o196 P) (PySem.W.BT.node (@Mine.o328 P) PySem.W.BT.nil PySem.W.BT.nil) PySem.W.BT.nil) (PySem.W.BT.node (@Mine.o260 P) PySem.W.BT.nil PySem.W.BT.nil))
noncomputable def bt92 (P : PySem.Params) : PySem.W.BT := (PySem.W.BT.node (@Mine.o116 P) (PySem.W.BT.node (@Mine.o180 P) (PySem.W.BT.node (@Mine.o312 P) PySem.W.BT.nil PySem.W.BT.nil) PySem.W.BT.nil) (PySem.W.BT.node (@Mine.o244 P) PySem.W.BT.nil PySem.W.BT.nil))
noncomputable def bt93 (P : PySem.Params) : PySem.W.BT := (PySem.W.BT.node (@Mine.o148 P) (PySem.W.BT.node (@Mine.o212 P) (PySem.W.BT.node (@Mine.o344 P) PySem.W.BT.nil PySem.W.BT.nil) PySem.W.BT.nil) (PySem.W.BT.node (@Mine.o276 P) PySem.W.BT.nil PySem.W.BT.nil))
noncomputable def bt94 (P : PySem.Params) : PySem.W.BT := (PySem.W.BT.node (@Mine.o108 P) (PySem.W.BT.node (@Mine.o172 P) (PySem.W.BT.node (@Mine.o304 P) PySem.W.BT.nil PySem.W.BT.nil) PySem.W.BT.nil) (PySem.W.BT.node (@Mine.o236 P) PySem.W.BT.nil PySem.W.BT.nil))
noncomputable def bt95 (P : PySem.Params) : PySem.W.BT := (PySem.W.BT.node (@Mine.o140 P) (PySem.W.BT.node (@Mine.o204 P) (PySem.W.BT.node (@Mine.o336 P) PySem.W.BT.nil PySem.W.BT.nil) PySem.W.BT.nil) (PySem.W.BT.node (@Mine.o268 P) PySem.W.BT.nil PySem.W.BT.nil))
noncomputable def bt96 (P : PySem.Params) : PySem.W.BT := (PySem.W.BT.node (@Mine.o124 P) (PySem.W.BT.node (@Mine.o188 P) (PySem.W.BT.node (@Mine.o320 P) PySem.W.BT.nil PySem.W.BT.nil) PySem.W.BT.nil) (PySem.W.BT.node (@Mine.o252 P) PySem.W.BT.nil PySem.W.BT.nil))
noncomputable def bt97 (P : PySem.Params) : PySem.W.BT := (PySem.W.BT.node (@Mine.o156 P) (PySem.W.BT.node (@Mine.o220 P) (PySem.W.BT.node (@Mine.o352 P) PySem.W.BT.nil PySem.W.BT.nil) PySem.W.BT.nil) (PySem.W.BT.node (@Mine.o288 P) PySem.W.BT.nil PySem.W.BT.nil))
noncomputable def bt98 (P : PySem.Params) : PySem.W.BT := (PySem.W.BT.node (@PySem.W.boot_o_7 P) (PySem.W.BT.node (@Mine.o51 P) (PySem.W.BT.node (@Mine.o68 P) (bt90 P) (bt91 P)) (PySem.W.BT.node (@Mine.o84 P) (bt92 P) (bt93 P))) (PySem.W.BT.node (@Mine.o60 P) (PySem.W.BT.node (@Mine.o76 P) (bt94 P) (bt95 P)) (PySem.W.BT.node (@Mine.o92 P) (bt96 P) (bt97 P))))
noncomputable def bt99 (P : PySem.Params) : PySem.W.BT := (PySem.W.BT.node (@Mine.o104 P) (PySem.W.BT.node (@Mine.o168 P) (PySem.W.BT.node (@Mine.o300 P) PySem.W.BT.nil PySem.W.BT.nil) PySem.W.BT.nil) (PySem.W.BT.node (@Mine.o232 P) PySem.W.BT.nil PySem.W.BT.nil))
noncomputable def bt100 (P : PySem.Params) : PySem.W.BT := (PySem.W.BT.node (@Mine.o136 P) (PySem.W.BT.node (@Mine.o200 P) (PySem.W.BT.node (@Mine.o332 P) PySem.W.BT.nil PySem.W.BT.nil) PySem.W.BT.nil) (PySem.W.BT.node (@Mine.o264 P) PySem.W.BT.nil PySem.W.BT.nil))
noncomputable def bt101 (P : PySem.Params) : PySem.W.BT := (PySem.W.BT.node (@Mine.o120 P) (PySem.W.BT.node (@Mine.o184 P) (PySem.W.BT.node (@Mine.o316 P) PySem.W.BT.nil PySem.W.BT.nil) PySem.W.BT.nil) (PySem.W.BT.node (@Mine.o248 P) PySem.W.BT.nil PySem.W.BT.nil))
noncomputable def bt102 (P : PySem.Params) : PySem.W.BT := (PySem.W.BT.node (@Mine.o152 P) (PySem.W.BT.node (@Mine.o216 P) (PySem.W.BT.node (@Mine.o348 P) PySem.W.BT.nil PySem.W.BT.nil) PySem.W.BT.nil) (PySem.W.BT.node (@Mine.o284 P) PySem.W.BT.nil PySem.W.BT.nil))
noncomputable def bt103 (P : PySem.Params) : PySem.W.BT := (PySem.W.BT.node (@Mine.o112 P) (PySem.W.BT.node (@Mine.o176 P) (PySem.W.BT.node (@Mine.o308 P) PySem.W.BT.nil PySem.W.BT.nil) PySem.W.BT.nil) (PySem.W.BT.node (@Mine.o240 P) PySem.W.BT.nil PySem.W.BT.nil))
noncomputable def bt104 (P : PySem.Params) : PySem.W.BT := (PySem.W.BT.node (@Mine.o144 P) (PySem.W.BT.node (@Mine.o208 P) (PySem.W.BT.node (@Mine.o340 P) PySem.W.BT.nil PySem.W.BT.nil) PySem.W.BT.nil) (PySem.W.BT.node (@Mine.o272 P) PySem.W.BT.nil PySem.W.BT.nil))
noncomputable def bt105 (P : PySem.Params) : PySem.W.BT := (PySem.W.BT.node (@Mine.o128 P) (PySem.W.BT.node (@Mine.o192 P) (PySem.W.BT.node (@Mine.o324 P) PySem.W.BT.nil PySem.W.BT.nil) PySem.W.BT.nil) (PySem.W.BT.node (@Mine.o256 P) PySem.W.BT.nil PySem.W.BT.nil))
noncomputable def bt106 (P : PySem.Params) : PySem.W.BT := (PySem.W.BT.node (@Mine.o160 P) (PySem.W.BT.node (@Mine.o224 P) (PySem.W.BT.node (@Mine.o356 P) PySem.W.BT.nil PySem.W.BT.nil) PySem.W.BT.nil) (PySem.W.BT.node (@Mine.o292 P) PySem.W.BT.nil PySem.W.BT.nil))
noncomputable def bt107 (P : PySem.Params) : PySem.W.BT := (PySem.W.BT.node (@Mine.o43 P) (PySem.W.BT.node (@Mine.o55 P) (PySem.W.BT.node (@Mine.o72 P) (bt99 P) (bt100 P)) (PySem.W.BT.node (@Mine.o88 P) (bt101 P) (bt102 P))) (PySem.W.BT.node (@Mine.o64 P) (PySem.W.BT.node (@Mine.o80 P) (bt103 P) (bt104 P)) (PySem.W.BT.node (@Mine.o96 P) (bt105 P) (bt106 P))))
noncomputable def bt108 (P : PySem.Params) : PySem.W.BT := (PySem.W.BT.node (@Mine.o102 P) (PySem.W.BT.node (@Mine.o166 P) (PySem.W.BT.node (@Mine.o298 P) PySem.W.BT.nil PySem.W.BT.nil) PySem.W.BT.nil) (PySem.W.BT.node (@Mine.o230 P) PySem.W.BT.nil PySem.W.BT.nil))
noncomputable def bt109 (P : PySem.Params) : PySem.W.BT := (PySem.W.BT.node (@Mine.o134 P) (PySem.W.BT.node (@Mine.o198 P) (PySem.W.BT.node (@Mine.o330 P) PySem.W.BT.nil PySem.W.BT.nil) PySem.W.BT.nil) (PySem.W.BT.node (@Mine.o262 P) PySem.W.BT.nil PySem.W.BT.nil))
noncomputable def bt110 (P : PySem.Params) : PySem.W.BT := (PySem.W.BT.node (@Mine.o118 P) (PySem.W.BT.node (@Mine.o182 P) (PySem.W.BT.node (@Mine.o314 P) PySem.W.BT.nil PySem.W.BT.nil) PySem.W.BT.nil) (PySem.W.BT.node (@Mine.o246 P) PySem.W.BT.nil PySem.W.BT.nil))
noncomputable def bt111 (P : PySem.Params) : PySem.W.BT := (PySem.W.BT.node (@Mine.o150 P) (PySem.W.BT.node (@Mine.o214 P) (PySem.W.BT.node (@Mine.o346 P) PySem.W.BT.nil PySem.W.BT.nil) PySem.W.BT.nil) (PySem.W.BT.node (@Mine.o282 P) PySem.W.BT.nil PySem.W.BT.nil))
noncomputable def bt112 (P : PySem.Params) : PySem.W.BT := (PySem.W.BT.node (@Mine.o110 P) (PySem.W.BT.node (@Mine.o174 P) (PySem.W.BT.node (@Mine.o306 P) PySem.W.BT.nil PySem.W.BT.nil) PySem.W.BT.nil) (PySem.W.BT.node (@Mine.o238 P) PySem.W.BT.nil PySem.W.BT.nil))
noncomputable def bt113 (P : PySem.Params) : PySem.W.BT := (PySem.W.BT.node (@Mine.o142 P) (PySem.W.BT.node (@Mine.o206 P) (PySem.W.BT.node (@Mine.o338 P) PySem.W.BT.nil PySem.W.BT.nil) PySem.W.BT.nil) (PySem.W.BT.node (@Mine.o270 P) PySem.W.BT.nil PySem.W.BT.nil))
noncomputable def bt114 (P : PySem.Params) : PySem.W.BT := (PySem.W.BT.node (@Mine.o126 P) (PySem.W.BT.node (@Mine.o190 P) (PySem.W.BT.node (@Mine.o322 P) PySem.W.BT.nil PySem.W.BT.nil) PySem.W.BT.nil) (PySem.W.BT.node (@Mine.o254 P) PySem.W.BT.nil PySem.W.BT.nil))
noncomputable def bt115 (P : PySem.Params) : PySem.W.BT := (PySem.W.BT.node (@Mine.o158 P) (PySem.W.BT.node (@Mine.o222 P) (PySem.W.BT.node (@Mine.o354 P) PySem.W.BT.nil PySem.W.BT.nil) PySem.W.BT.nil) (PySem.W.BT.node (@Mine.o290 P) PySem.W.BT.nil PySem.W.BT.nil))
noncomputable def bt116 (P : PySem.Params) : PySem.W.BT := (PySem.W.BT.node (@PySem.W.boot_o_9 P) (PySem.W.BT.node (@Mine.o53 P) (PySem.W.BT.node (@Mine.o70 P) (bt108 P) (bt109 P)) (PySem.W.BT.node (@Mine.o86 P) (bt110 P) (bt111 P))) (PySem.W.BT.node (@Mine.o62 P) (PySem.W.BT.node (@Mine.o78 P) (bt112 P) (bt113 P)) (PySem.W.BT.node (@Mine.o94 P) (bt114 P) (bt115 P))))
noncomputable def bt117 (P : PySem.Params) : PySem.W.BT := (PySem.W.BT.node (@Mine.o106 P) (PySem.W.BT.node (@Mine.o170 P) (PySem.W.BT.node (@Mine.o302 P) PySem.W.BT.nil PySem.W.BT.nil) PySem.W.BT.nil) (PySem.W.BT.node (@Mine.o234 P) PySem.W.BT.nil PySem.W.BT.nil))
noncomputable def bt118 (P : PySem.Params) : PySem.W.BT := (PySem.W.BT.node (@Mine.o138 P) (PySem.W.BT.node (@Mine.o202 P) (PySem.W.BT.node (@Mine.o334 P) PySem.W.BT.nil PySem.W.BT.nil) PySem.W.BT.nil) (PySem.W.BT.node (@Mine.o266 P) PySem.W.BT.nil PySem.W.BT.nil))
noncomputable def bt119 (P : PySem.Params) : PySem.W.BT := (PySem.W.BT.node (@Mine.o122 P) (PySem.W.BT.node (@Mine.o186 P) (PySem.W.BT.node (@Mine.o318 P) PySem.W.BT.nil PySem.W.BT.nil) PySem.W.BT.nil) (PySem.W.BT.node (@Mine.o250 P) PySem.W.BT.nil PySem.W.BT.nil))
noncomputable def bt120 (P : PySem.Params) : PySem.W.BT := (PySem.W.BT.node (@Mine.o154 P) (PySem.W.BT.node (@Mine.o218 P) (PySem.W.BT.node (@Mine.o350 P) PySem.W.BT.nil PySem.W.BT.nil) PySem.W.BT.nil) (PySem.W.BT.node (@Mine.o286 P) PySem.W.BT.nil PySem.W.BT.nil))
noncomputable def bt121 (P : PySem.Params) : PySem.W.BT := (PySem.W.BT.node (@Mine.o114 P) (PySem.W.BT.node (@Mine.o178 P) (PySem.W.BT.node (@Mine.o310 P) PySem.W.BT.nil PySem.W.BT.nil) PySem.W.BT.nil) (PySem.W.BT.node (@Mine.o242 P) PySem.W.BT.nil PySem.W.BT.nil))
noncomputable def bt122 (P : PySem.Params) : PySem.W.BT := (PySem.W.BT.node (@Mine.o146 P) (PySem.W.BT.node (@Mine.o210 P) (PySem.W.BT.node (@Mine.o342 P) PySem.W.BT.nil PySem.W.BT.nil) PySem.W.BT.nil) (PySem.W.BT.node (@Mine.o274 P) PySem.W.BT.nil PySem.W.BT.nil))
noncomputable def bt123 (P : PySem.Params) : PySem.W.BT := (PySem.W.BT.node (@Mine.o130 P) (PySem.W.BT.node (@Mine.o194 P) (PySem.W.BT.node (@Mine.o326 P) PySem.W.BT.nil PySem.W.BT.nil) PySem.W.BT.nil) (PySem.W.BT.node (@Mine.o258 P) PySem.W.BT.nil PySem.W.BT.nil))
noncomputable def bt124 (P : PySem.Params) : PySem.W.BT := (PySem.W.BT.node (@Mine.o162 P) (PySem.W.BT.node (@Mine.o226 P) (PySem.W.BT.node (@Mine.o358 P) PySem.W.BT.nil PySem.W.BT.nil) PySem.W.BT.nil) (PySem.W.BT.node (@Mine.o294 P) PySem.W.BT.nil PySem.W.BT.nil))
noncomputable def bt125 (P : PySem.Params) : PySem.W.BT := (PySem.W.BT.node (@Mine.o45 P) (PySem.W.BT.node (@Mine.o57 P) (PySem.W.BT.node (@Mine.o74 P) (bt117 P) (bt118 P)) (PySem.W.BT.node (@Mine.o90 P) (bt119 P) (bt120 P))) (PySem.W.BT.node (@Mine.o66 P) (PySem.W.BT.node (@Mine.o82 P) (bt121 P) (bt122 P)) (PySem.W.BT.node (@Mine.o98 P) (bt123 P) (bt124 P))))
noncomputable def bt126 (P : PySem.Params) : PySem.W.BT := (PySem.W.BT.node (@Mine.o101 P) (PySem.W.BT.node (@Mine.o165 P) (PySem.W.BT.node (@Mine.o297 P) PySem.W.BT.nil PySem.W.BT.nil) PySem.W.BT.nil) (PySem.W.BT.node (@Mine.o229 P) PySem.W.BT.nil PySem.W.BT.nil))
noncomputable def bt127 (P : PySem.Params) : PySem.W.BT := (PySem.W.BT.node (@Mine.o133 P) (PySem.W.BT.node (@Mine.o197 P) (PySem.W.BT.node (@Mine.o329 P) PySem.W.BT.nil PySem.W.BT.nil) PySem.W.BT.nil) (PySem.W.BT.node (@Mine.o261 P) PySem.W.BT.nil PySem.W.BT.nil))
noncomputable def bt128 (P : PySem.Params) : PySem.W.BT := (PySem.W.BT.node (@Mine.o117 P) (PySem.W.BT.node (@Mine.o181 P) (PySem.W.BT.node (@Mine.o313 P) PySem.W.BT.nil PySem.W.BT.nil) PySem.W.BT.nil) (PySem.W.BT.node (@Mine.o245 P) PySem.W.BT.nil PySem.W.BT.nil))
noncomputable def bt129 (P : PySem.Params) : PySem.W.BT := (PySem.W.BT.node (@Mine.o149 P) (PySem.W.BT.node (@Mine.o213 P) (PySem.W.BT.node (@Mine.o345 P) PySem.W.BT.nil PySem.W.BT.nil) PySem.W.BT.nil) (PySem.W.BT.node (@Mine.o281 P) PySem.W.BT.nil PySem.W.BT.nil))
noncomputable def bt130 (P : PySem.Params) : PySem.W.BT := (PySem.W.BT.node (@Mine.o109 P) (PySem.W.BT.node (@Mine.o173 P) (PySem.W.BT.node (@Mine.o305 P) PySem.W.BT.nil PySem.W.BT.nil) PySem.W.BT.nil) (PySem.W.BT.node (@Mine.o237 P) PySem.W.BT.nil PySem.W.BT.nil))
noncomputable def bt131 (P : PySem.Params) : PySem.W.BT := (PySem.W.BT.node (@Mine.o141 P) (PySem.W.BT.node (@Mine.o205 P) (PySem.W.BT.node (@Mine.o337 P) PySem.W.BT.nil PySem.W.BT.nil) PySem.W.BT.nil) (PySem.W.BT.node (@Mine.o269 P) PySem.W.BT.nil PySem.W.BT.nil))
noncomputable def bt132 (P : PySem.Params) : PySem.W.BT := (PySem.W.BT.node (@Mine.o125 P) (PySem.W.BT.node (@Mine.o189 P) (PySem.W.BT.node (@Mine.o321 P) PySem.W.BT.nil PySem.W.BT.nil) PySem.W.BT.nil) (PySem.W.BT.node (@Mine.o253 P) PySem.W.BT.nil PySem.W.BT.nil))
noncomputable def bt133 (P : PySem.Params) : PySem.W.BT := (PySem.W.BT.node (@Mine.o157 P) (PySem.W.BT.node (@Mine.o221 P) (PySem.W.BT.node (@Mine.o353 P) PySem.W.BT.nil PySem.W.BT.nil) PySem.W.BT.nil) (PySem.W.BT.node (@Mine.o289 P) PySem.W.BT.nil PySem.W.BT.nil))
noncomputable def bt134 (P : PySem.Params) : PySem.W.BT := (PySem.W.BT.node (@PySem.W.boot_o_8 P) (PySem.W.BT.node (@Mine.o52 P) (PySem.W.BT.node (@Mine.o69 P) (bt126 P) (bt127 P)) (PySem.W.BT.node (@Mine.o85 P) (bt128 P) (bt129 P))) (PySem.W.BT.node (@Mine.o61 P) (PySem.W.BT.node (@Mine.o77 P) (bt130 P) (bt131 P)) (PySem.W.BT.node (@Mine.o93 P) (bt132 P) (bt133 P))))
noncomputable def bt135 (P : PySem.Params) : PySem.W.BT := (PySem.W.BT.node (@Mine.o105 P) (PySem.W.BT.node (@Mine.o169 P) (PySem.W.BT.node (@Mine.o301 P) PySem.W.BT.nil PySem.W.BT.nil) PySem.W.BT.nil) (PySem.W.BT.node (@Mine.o233 P) PySem.W.BT.nil PySem.W.BT.nil))
noncomputable def bt136 (P : PySem.Params) : PySem.W.BT := (PySem.W.BT.node (@Mine.o137 P) (PySem.W.BT.node (@Mine.o201 P) (PySem.W.BT.node (@Mine.o333 P) PySem.W.BT.nil PySem.W.BT.nil) PySem.W.BT.nil) (PySem.W.BT.node (@Mine.o265 P) PySem.W.BT.nil PySem.W.BT.nil))
noncomputable def bt137 (P : PySem.Params) : PySem.W.BT := (PySem.W.BT.node (@Mine.o121 P) (PySem.W.BT.node (@Mine.o185 P) (PySem.W.BT.node (@Mine.o317 P) PySem.W.BT.nil PySem.W.BT.nil) PySem.W.BT.nil) (PySem.W.BT.node (@Mine.o249 P) PySem.W.BT.nil PySem.W.BT.nil))
noncomputable def bt138 (P : PySem.Params) : PySem.W.BT := (PySem.W.BT.node (@Mine.o153 P) (PySem.W.BT.node (@Mine.o217 P) (PySem.W.BT.node (@Mine.o349 P) PySem.W.BT.nil PySem.W.BT.nil) PySem.W.BT.nil) (PySem.W.BT.node (@Mine.o285 P) PySem.W.BT.nil PySem.W.BT.nil))
noncomputable def bt139 (P : PySem.Params) : PySem.W.BT := (PySem.W.BT.node (@Mine.o113 P) (PySem.W.BT.node (@Mine.o177 P) (PySem.W.BT.node (@Mine.o309 P) PySem.W.BT.nil PySem.W.BT.nil) PySem.W.BT.nil) (PySem.W.BT.node (@Mine.o241 P) PySem.W.BT.nil PySem.W.BT.nil))
noncomputable def bt140 (P : PySem.Params) : PySem.W.BT := (PySem.W.BT.node (@Mine.o145 P) (PySem.W.BT.node (@Mine.o209 P) (PySem.W.BT.node (@Mine.o341 P) PySem.W.BT.nil PySem.W.BT.nil) PySem.W.BT.nil) (PySem.W.BT.node (@Mine.o273 P) PySem.W.BT.nil PySem.W.BT.nil))
noncomputable def bt141 (P : PySem.Params) : PySem.W.BT := (PySem.W.BT.node (@Mine.o129 P) (PySem.W.BT.node (@Mine.o193 P) (PySem.W.BT.node (@Mine.o325 P) PySem.W.BT.nil PySem.W.BT.nil) PySem.W.BT.nil) (PySem.W.BT.node (@Mine.o257 P) PySem.W.BT.nil PySem.W.BT.nil))
noncomputable def bt142 (P : PySem.Params) : PySem.W.BT := (PySem.W.BT.node (@Mine.o161 P) (PySem.W.BT.node (@Mine.o225 P) (PySem.W.BT.node (@Mine.o357 P) PySem.W.BT.nil PySem.W.BT.nil) PySem.W.BT.nil) (PySem.W.BT.node (@Mine.o293 P) PySem.W.BT.nil PySem.W.BT.nil))
noncomputable def bt143 (P : PySem.Params) : PySem.W.BT := (PySem.W.BT.node (@Mine.o280 P) (PySem.W.BT.node (@Mine.o56 P) (PySem.W.BT.node (@Mine.o73 P) (bt135 P) (bt136 P)) (PySem.W.BT.node (@Mine.o89 P) (bt137 P) (bt138 P))) (PySem.W.BT.node (@Mine.o65 P) (PySem.W.BT.node (@Mine.o81 P) (bt139 P) (bt140 P)) (PySem.W.BT.node (@Mine.o97 P) (bt141 P) (bt142 P))))
noncomputable def bt144 (P : PySem.Params) : PySem.W.BT := (PySem.W.BT.node (@Mine.o103 P) (PySem.W.BT.node (@Mine.o167 P) (PySem.W.BT.node (@Mine.o299 P) PySem.W.BT.nil PySem.W.BT.nil) PySem.W.BT.nil) (PySem.W.BT.node (@Mine.o231 P) PySem.W.BT.nil PySem.W.BT.nil))
noncomputable def bt145 (P : PySem.Params) : PySem.W.BT := (PySem.W.BT.node (@Mine.o135 P) (PySem.W.BT.node (@Mine.o199 P) (PySem.W.BT.node (@Mine.o331 P) PySem.W.BT.nil PySem.W.BT.nil) PySem.W.BT.nil) (PySem.W.BT.node (@Mine.o263 P) PySem.W.BT.nil PySem.W.BT.nil))
noncomputable def bt146 (P : PySem.Params) : PySem.W.BT := (PySem.W.BT.node (@Mine.o119 P) (PySem.W.BT.node (@Mine.o183 P) (PySem.W.BT.node (@Mine.o315 P) PySem.W.BT.nil PySem.W.BT.nil) PySem.W.BT.nil) (PySem.W.BT.node (@Mine.o247 P) PySem.W.BT.nil PySem.W.BT.nil))
noncomputable def bt147 (P : PySem.Params) : PySem.W.BT := (PySem.W.BT.node (@Mine.o151 P) (PySem.W.BT.node (@Mine.o215 P) (PySem.W.BT.node (@Mine.o347 P) PySem.W.BT.nil PySem.W.BT.nil) PySem.W.BT.nil) (PySem.W.BT.node (@Mine.o283 P) PySem.W.BT.nil PySem.W.BT.nil))
noncomputable def bt148 (P : PySem.Params) : PySem.W.BT := (PySem.W.BT.node (@Mine.o111 P) (PySem.W.BT.node (@Mine.o175 P) (PySem.W.BT.node (@Mine.o307 P) PySem.W.BT.nil PySem.W.BT.nil) PySem.W.BT.nil) (PySem.W.BT.node (@Mine.o239 P) PySem.W.BT.nil PySem.W.BT.nil))
noncomputable def bt149 (P : PySem.Params) : PySem.W.BT := (PySem.W.BT.node (@Mine.o143 P) (PySem.W.BT.node (@Mine.o207 P) (PySem.W.BT.node (@Mine.o339 P) PySem.W.BT.nil PySem.W.BT.nil) PySem.W.BT.nil) (PySem.W.BT.node (@Mine.o271 P) PySem.W.BT.nil PySem.W.BT.nil))
noncomputable def bt150 (P : PySem.Params) : PySem.W.BT := (PySem.W.BT.node (@Mine.o127 P) (PySem.W.BT.node (@Mine.o191 P) (PySem.W.BT.node (@Mine.o323 P) PySem.W.BT.nil PySem.W.BT.nil) PySem.W.BT.nil) (PySem.W.BT.node (@Mine.o255 P) PySem.W.BT.nil PySem.W.BT.nil))
noncomputable def bt151 (P : PySem.Params) : PySem.W.BT := (PySem.W.BT.node (@Mine.o159 P) (PySem.W.BT.node (@Mine.o223 P) (PySem.W.BT.node (@Mine.o355 P) PySem.W.BT.nil PySem.W.BT.nil) PySem.W.BT.nil) (PySem.W.BT.node (@Mine.o291 P) PySem.W.BT.nil PySem.W.BT.nil))
noncomputable def bt152 (P : PySem.Params) : PySem.W.BT := (PySem.W.BT.node (@PySem.W.boot_o_10 P) (PySem.W.BT.node (@Mine.o54 P) (PySem.W.BT.node (@Mine.o71 P) (bt144 P) (bt145 P)) (PySem.W.BT.node (@Mine.o87 P) (bt146 P) (bt147 P))) (PySem.W.BT.node (@Mine.o63 P) (PySem.W.BT.node (@Mine.o79 P) (bt148 P) (bt149 P)) (PySem.W.BT.node (@Mine.o95 P) (bt150 P) (bt151 P))))
noncomputable def bt153 (P : PySem.Params) : PySem.W.BT := (PySem.W.BT.node (@Mine.o107 P) (PySem.W.BT.node (@Mine.o171 P) (PySem.W.BT.node (@Mine.o303 P) PySem.W.BT.nil PySem.W.BT.nil) PySem.W.BT.nil) (PySem.W.BT.node (@Mine.o235 P) PySem.W.BT.nil PySem.W.BT.nil))
noncomputable def bt154 (P : PySem.Params) : PySem.W.BT := (PySem.W.BT.node (@Mine.o139 P) (PySem.W.BT.node (@Mine.o203 P) (PySem.W.BT.node (@Mine.o335 P) PySem.W.BT.nil PySem.W.BT.nil) PySem.W.BT.nil) (PySem.W.BT.node (@Mine.o267 P) PySem.W.BT.nil PySem.W.BT.nil))
noncomputable def bt155 (P : PySem.Params) : PySem.W.BT := (PySem.W.BT.node (@Mine.o123 P) (PySem.W.BT.node (@Mine.o187 P) (PySem.W.BT.node (@Mine.o319 P) PySem.W.BT.nil PySem.W.BT.nil) PySem.W.BT.nil) (PySem.W.BT.node (@Mine.o251 P) PySem.W.BT.nil PySem.W.BT.nil))
noncomputable def bt156 (P : PySem.Params) : PySem.W.BT := (PySem.W.BT.node (@Mine.o155 P) (PySem.W.BT.node (@Mine.o219 P) (PySem.W.BT.node (@Mine.o351 P) PySem.W.BT.nil PySem.W.BT.nil) PySem.W.BT.nil) (PySem.W.BT.node (@Mine.o287 P) PySem.W.BT.nil PySem.W.BT.nil))
noncomputable def bt157 (P : PySem.Params) : PySem.W.BT := (PySem.W.BT.node (@Mine.o115 P) (PySem.W.BT.node (@Mine.o179 P) (PySem.W.BT.node (@Mine.o311 P) PySem.W.BT.nil PySem.W.BT.nil) PySem.W.BT.nil) (PySem.W.BT.node (@Mine.o243 P) PySem.W.BT.nil PySem.W.BT.nil))
noncomputable def bt158 (P : PySem.Params) : PySem.W.BT := (PySem.W.BT.node (@Mine.o147 P) (PySem.W.BT.node (@Mine.o211 P) (PySem.W.BT.node (@Mine.o343 P) PySem.W.BT.nil PySem.W.BT.nil) PySem.W.BT.nil) (PySem.W.BT.node (@Mine.o275 P) PySem.W.BT.nil PySem.W.BT.nil))
noncomputable def bt159 (P : PySem.Params) : PySem.W.BT := (PySem.W.BT.node (@Mine.o131 P) (PySem.W.BT.node (@Mine.o195 P) (PySem.W.BT.node (@Mine.o327 P) PySem.W.BT.nil PySem.W.BT.nil) PySem.W.BT.nil) (PySem.W.BT.node (@Mine.o259 P) PySem.W.BT.nil PySem.W.BT.nil))
noncomputable def bt160 (P : PySem.Params) : PySem.W.BT := (PySem.W.BT.node (@Mine.o163 P) (PySem.W.BT.node (@Mine.o227 P) PySem.W.BT.nil PySem.W.BT.nil) (PySem.W.BT.node (@Mine.o295 P) PySem.W.BT.nil PySem.W.BT.nil))
noncomputable def bt161 (P : PySem.Params) : PySem.W.BT := (PySem.W.BT.node (@Mine.o46 P) (PySem.W.BT.node (@Mine.o59 P) (PySem.W.BT.node (@Mine.o75 P) (bt153 P) (bt154 P)) (PySem.W.BT.node (@Mine.o91 P) (bt155 P) (bt156 P))) (PySem.W.BT.node (@Mine.o67 P) (PySem.W.BT.node (@Mine.o83 P) (bt157 P) (bt158 P)) (PySem.W.BT.node (@Mine.o99 P) (bt159 P) (bt160 P))))
noncomputable def bt162 (P : PySem.Params) : PySem.W.BT := (PySem.W.BT.node (@PySem.W.boot_o_0 P) (PySem.W.BT.node (@PySem.W.boot_o_1 P) (PySem.W.BT.node (@Mine.o279 P) (bt98 P) (bt107 P)) (PySem.W.BT.node (@PySem.W.boot_o_5 P) (bt116 P) (bt125 P))) (PySem.W.BT.node (@PySem.W.boot_o_2 P) (PySem.W.BT.node (@PySem.W.boot_o_4 P) (bt134 P) (bt143 P)) (PySem.W.BT.node (@PySem.W.boot_o_6 P) (bt152 P) (bt161 P))))
noncomputable def tr358 (P : PySem.Params) : PySem.W.BT := (bt162 P)
noncomputable def bt163 (P : PySem.Params) : PySem.W.BT := (PySem.W.BT.node (@Mine.o100 P) (PySem.W.BT.node (@Mine.o164 P) (PySem.W.BT.node (@Mine.o296 P) PySem.W.BT.nil PySem.W.BT.nil) PySem.W.BT.nil) (PySem.W.BT.node (@Mine.o228 P) (PySem.W.BT.node (@Mine.o362 P) PySem.W.BT.nil PySem.W.BT.nil) PySem.W.BT.nil))
noncomputable def bt164 (P : PySem.Params) : PySem.W.BT := (PySem.W.BT.node (@PySem.W.boot_o_7 P) (PySem.W.BT.node (@Mine.o51 P) (PySem.W.BT.node (@Mine.o68 P) (bt163 P) (bt91 P)) (PySem.W.BT.node (@Mine.o84 P) (bt92 P) (bt93 P))) (PySem.W.BT.node (@Mine.o60 P) (PySem.W.BT.node (@Mine.o76 P) (bt94 P) (bt95 P)) (PySem.W.BT.node (@Mine.o92 P) (bt96 P) (bt97 P))))
noncomputable def bt165 (P : PySem.Params) : PySem.W.BT := (PySem.W.BT.node (@Mine.o102 P) (PySem.W.BT.node (@Mine.o166 P) (PySem.W.BT.node (@Mine.o298 P) PySem.W.BT.nil PySem.W.BT.nil) PySem.W.BT.nil) (PySem.W.BT.node (@Mine.o230 P) (PySem.W.BT.node (@Mine.o364 P) PySem.W.BT.nil PySem.W.BT.nil) PySem.W.BT.nil))
noncomputable def bt166 (P : PySem.Params) : PySem.W.BT := (PySem.W.BT.node (@PySem.W.boot_o_9 P) (PySem.W.BT.node (@Mine.o53 P) (PySem.W.BT.node (@Mine.o70 P) (bt165 P) (bt109 P)) (PySem.W.BT.node (@Mine.o86 P) (bt110 P) (bt111 P))) (PySem.W.BT.node (@Mine.o62 P) (PySem.W.BT.node (@Mine.o78 P) (bt112 P) (bt113 P)) (PySem.W.BT.node (@Mine.o94 P) (bt114 P) (bt115 P))))
noncomputable def bt167 (P : PySem.Params) : PySem.W.BT := (PySem.W.BT.node (@Mine.o101 P) (PySem.W.BT.node (@Mine.o165 P) (PySem.W.BT.node (@Mine.o297 P) PySem.W.BT.nil PySem.W.BT.nil) PySem.W.BT.nil) (PySem.W.BT.node (@Mine.o229 P) (PySem.W.BT.node (@Mine.o363 P) PySem.W.BT.nil PySem.W.BT.nil) PySem.W.BT.nil))
noncomputable def bt168 (P : PySem.Params) : PySem.W.BT := (PySem.W.BT.node (@PySem.W.boot_o_8 P) (PySem.W.BT.node (@Mine.o52 P) (PySem.W.BT.node (@Mine.o69 P) (bt167 P) (bt127 P)) (PySem.W.BT.node (@Mine.o85 P) (bt128 P) (bt129 P))) (PySem.W.BT.node (@Mine.o61 P) (PySem.W.BT.node (@Mine.o77 P) (bt130 P) (bt131 P)) (PySem.W.BT.node (@Mine.o93 P) (bt132 P) (bt133 P))))
noncomputable def bt169 (P : PySem.Params) : PySem.W.BT := (PySem.W.BT.node (@Mine.o360 P) (PySem.W.BT.node (@Mine.o56 P) (PySem.W.BT.node (@Mine.o73 P) (bt135 P) (bt136 P)) (PySem.W.BT.node (@Mine.o89 P) (bt137 P) (bt138 P))) (PySem.W.BT.node (@Mine.o65 P) (PySem.W.BT.node (@Mine.o81 P) (bt139 P) (bt140 P)) (PySem.W.BT.node (@Mine.o97 P) (bt141 P) (bt142 P))))
noncomputable def bt170 (P : PySem.Params) : PySem.W.BT := (PySem.W.BT.node (@Mine.o103 P) (PySem.W.BT.node (@Mine.o167 P) (PySem.W.BT.node (@Mine.o299 P) PySem.W.BT.nil PySem.W.BT.nil) PySem.W.BT.nil) (PySem.W.BT.node (@Mine.o231 P) (PySem.W.BT.node (@Mine.o365 P) PySem.W.BT.nil PySem.W.BT.nil) PySem.W.BT.nil))
noncomputable def bt171 (P : PySem.Params) : PySem.W.BT := (PySem.W.BT.node (@PySem.W.boot_o_10 P) (PySem.W.BT.node (@Mine.o54 P) (PySem.W.BT.node (@Mine.o71 P) (bt170 P) (bt145 P)) (PySem.W.BT.node (@Mine.o87 P) (bt146 P) (bt147 P))) (PySem.W.BT.node (@Mine.o63 P) (PySem.W.BT.node (@Mine.o79 P) (bt148 P) (bt149 P)) (PySem.W.BT.node (@Mine.o95 P) (bt150 P) (bt151 P))))
noncomputable def bt172 (P : PySem.Params) : PySem.W.BT := (PySem.W.BT.node (@Mine.o163 P) (PySem.W.BT.node (@Mine.o227 P) (PySem.W.BT.node (@Mine.o361 P) PySem.W.BT.nil PySem.W.BT.nil) PySem.W.BT.nil) (PySem.W.BT.node (@Mine.o295 P) PySem.W.BT.nil PySem.W.BT.nil))
noncomputable def bt173 (P : PySem.Params) : PySem.W.BT := (PySem.W.BT.node (@Mine.o46 P) (PySem.W.BT.node (@Mine.o59 P) (PySem.W.BT.node (@Mine.o75 P) (bt153 P) (bt154 P)) (PySem.W.BT.node (@Mine.o91 P) (bt155 P) (bt156 P))) (PySem.W.BT.node (@Mine.o67 P) (PySem.W.BT.node (@Mine.o83 P) (bt157 P) (bt158 P)) (PySem.W.BT.node (@Mine.o99 P) (bt159 P) (bt172 P))))
noncomputable def bt174 (P : PySem.Params) : PySem.W.BT := (PySem.W.BT.node (@PySem.W.boot_o_0 P) (PySem.W.BT.node (@PySem.W.boot_o_1 P) (PySem.W.BT.node (@Mine.o359 P) (bt164 P) (bt107 P)) (PySem.W.BT.node (@PySem.W.boot_o_5 P) (bt166 P) (bt125 P))) (PySem.W.BT.node (@PySem.W.boot_o_2 P) (PySem.W.BT.node (@PySem.W.boot_o_4 P) (bt168 P) (bt169 P)) (PySem.W.BT.node (@PySem.W.boot_o_6 P) (bt171 P) (bt173 P))))
noncomputable def tr365 (P : PySem.Params) : PySem.W.BT := (bt174 P)
noncomputable def hl46p1 (P : PySem.Params) : List PySem.Obj := ((@PySem.W.boot_o_8 P) :: ((@PySem.W.boot_o_9 P) :: ((@PySem.W.boot_o_10 P) :: ((@Mine.o43 P) :: ((@Mine.o44 P) :: ((@Mine.o45 P) :: ((@Mine.o46 P) :: [])))))))
noncomputable def hl46p0 (P : PySem.Params) : List PySem.Obj := ((@PySem.W.boot_o_0 P) :: ((@PySem.W.boot_o_1 P) :: ((@PySem.W.boot_o_2 P) :: ((@PySem.W.boot_o_3 P) :: ((@PySem.W.boot_o_4 P) :: ((@PySem.W.boot_o_5 P) :: ((@PySem.W.boot_o_6 P) :: ((@PySem.W.boot_o_7 P) :: (hl46p1 P)))))))))
noncomputable def hp46 (P : PySem.Params) : PySem.Heap := PySem.Heap.mk (Array.mk (hl46p0 P)) (@PySem.Life.mk (@List.nil @Nat) (@List.nil @Nat) (@List.nil @Nat) 0 (@List.nil (@Prod @Nat @Nat)) (@List.nil @Nat) @Bool.false (@List.toArray @Nat (@List.nil @Nat)) (@List.nil @Nat) 0 @Bool.false @Bool.false @Bool.false (@OfNat.ofNat @Int (nat_lit 0) (@instOfNat (nat_lit 0))) (@List.cons @Int (@OfNat.ofNat @Int (nat_lit 2000) (@instOfNat (nat_lit 2000))) (@List.cons @Int (@OfNat.ofNat @Int (nat_lit 10) (@instOfNat (nat_lit 10))) (@List.cons @Int (@OfNat.ofNat @Int (nat_lit 10) (@instOfNat (nat_lit 10))) (@List.nil @Int)))) @Bool.false 0 @Bool.true (@List.nil @Nat) (@List.nil @Nat) 0 @Bool.false)
noncomputable def hl366p40 (P : PySem.Params) : List PySem.Obj := ((@Mine.o363 P) :: ((@Mine.o364 P) :: ((@Mine.o365 P) :: [])))
noncomputable def hl366p39 (P : PySem.Params) : List PySem.Obj := ((@Mine.o353 P) :: ((@Mine.o354 P) :: ((@Mine.o355 P) :: ((@Mine.o356 P) :: ((@Mine.o357 P) :: ((@Mine.o358 P) :: ((@Mine.o361 P) :: ((@Mine.o362 P) :: (hl366p40 P)))))))))
noncomputable def hl366p38 (P : PySem.Params) : List PySem.Obj := ((@Mine.o345 P) :: ((@Mine.o346 P) :: ((@Mine.o347 P) :: ((@Mine.o348 P) :: ((@Mine.o349 P) :: ((@Mine.o350 P) :: ((@Mine.o351 P) :: ((@Mine.o352 P) :: (hl366p39 P)))))))))
noncomputable def hl366p37 (P : PySem.Params) : List PySem.Obj := ((@Mine.o337 P) :: ((@Mine.o338 P) :: ((@Mine.o339 P) :: ((@Mine.o340 P) :: ((@Mine.o341 P) :: ((@Mine.o342 P) :: ((@Mine.o343 P) :: ((@Mine.o344 P) :: (hl366p38 P)))))))))
noncomputable def hl366p36 (P : PySem.Params) : List PySem.Obj := ((@Mine.o329 P) :: ((@Mine.o330 P) :: ((@Mine.o331 P) :: ((@Mine.o332 P) :: ((@Mine.o333 P) :: ((@Mine.o334 P) :: ((@Mine.o335 P) :: ((@Mine.o336 P) :: (hl366p37 P)))))))))
noncomputable def hl366p35 (P : PySem.Params) : List PySem.Obj := ((@Mine.o321 P) :: ((@Mine.o322 P) :: ((@Mine.o323 P) :: ((@Mine.o324 P) :: ((@Mine.o325 P) :: ((@Mine.o326 P) :: ((@Mine.o327 P) :: ((@Mine.o328 P) :: (hl366p36 P)))))))))
noncomputable def hl366p34 (P : PySem.Params) : List PySem.Obj := ((@Mine.o313 P) :: ((@Mine.o314 P) :: ((@Mine.o315 P) :: ((@Mine.o316 P) :: ((@Mine.o317 P) :: ((@Mine.o318 P) :: ((@Mine.o319 P) :: ((@Mine.o320 P) :: (hl366p35 P)))))))))
noncomputable def hl366p33 (P : PySem.Params) : List PySem.Obj := ((@Mine.o305 P) :: ((@Mine.o306 P) :: ((@Mine.o307 P) :: ((@Mine.o308 P) :: ((@Mine.o309 P) :: ((@Mine.o310 P) :: ((@Mine.o311 P) :: ((@Mine.o312 P) :: (hl366p34 P)))))))))
noncomputable def hl366p32 (P : PySem.Params) : List PySem.Obj := ((@Mine.o297 P) :: ((@Mine.o298 P) :: ((@Mine.o299 P) :: ((@Mine.o300 P) :: ((@Mine.o301 P) :: ((@Mine.o302 P) :: ((@Mine.o303 P) :: ((@Mine.o304 P) :: (hl366p33 P)))))))))
noncomputable def hl366p31 (P : PySem.Params) : List PySem.Obj := ((@Mine.o289 P) :: ((@Mine.o290 P) :: ((@Mine.o291 P) :: ((@Mine.o292 P) :: ((@Mine.o293 P) :: ((@Mine.o294 P) :: ((@Mine.o295 P) :: ((@Mine.o296 P) :: (hl366p32 P)))))))))
noncomputable def hl366p30 (P : PySem.Params) : List PySem.Obj := ((@Mine.o281 P) :: ((@Mine.o282 P) :: ((@Mine.o283 P) :: ((@Mine.o284 P) :: ((@Mine.o285 P) :: ((@Mine.o286 P) :: ((@Mine.o287 P) :: ((@Mine.o288 P) :: (hl366p31 P)))))))))
noncomputable def hl366p29 (P : PySem.Params) : List PySem.Obj := ((@Mine.o269 P) :: ((@Mine.o270 P) :: ((@Mine.o271 P) :: ((@Mine.o272 P) :: ((@Mine.o273 P) :: ((@Mine.o274 P) :: ((@Mine.o275 P) :: ((@Mine.o276 P) :: (hl366p30 P)))))))))
noncomputable def hl366p28 (P : PySem.Params) : List PySem.Obj := ((@Mine.o261 P) :: ((@Mine.o262 P) :: ((@Mine.o263 P) :: ((@Mine.o264 P) :: ((@Mine.o265 P) :: ((@Mine.o266 P) :: ((@Mine.o267 P) :: ((@Mine.o268 P) :: (hl366p29 P)))))))))
noncomputable def hl366p27 (P : PySem.Params) : List PySem.Obj := ((@Mine.o253 P) :: ((@Mine.o254 P) :: ((@Mine.o255 P) :: ((@Mine.o256 P) :: ((@Mine.o257 P) :: ((@Mine.o258 P) :: ((@Mine.o259 P) :: ((@Mine.o260 P) :: (hl366p28 P)))))))))
noncomputable def hl366p26 (P : PySem.Params) : List PySem.Obj := ((@Mine.o245 P) :: ((@Mine.o246 P) :: ((@Mine.o247 P) :: ((@Mine.o248 P) :: ((@Mine.o249 P) :: ((@Mine.o250 P) :: ((@Mine.o251 P) :: ((@Mine.o252 P) :: (hl366p27 P)))))))))
noncomputable def hl366p25 (P : PySem.Params) : List PySem.Obj := ((@Mine.o237 P) :: ((@Mine.o238 P) :: ((@Mine.o239 P) :: ((@Mine.o240 P) :: ((@Mine.o241 P) :: ((@Mine.o242 P) :: ((@Mine.o243 P) :: ((@Mine.o244 P) :: (hl366p26 P)))))))))
noncomputable def hl366p24 (P : PySem.Params) : List PySem.Obj := ((@Mine.o229 P) :: ((@Mine.o230 P) :: ((@Mine.o231 P) :: ((@Mine.o232 P) :: ((@Mine.o233 P) :: ((@Mine.o234 P) :: ((@Mine.o235 P) :: ((@Mine.o236 P) :: (hl366p25 P)))))))))
noncomputable def hl366p23 (P : PySem.Params) : List PySem.Obj := ((@Mine.o221 P) :: ((@Mine.o222 P) :: ((@Mine.o223 P) :: ((@Mine.o224 P) :: ((@Mine.o225 P) :: ((@Mine.o226 P) :: ((@Mine.o227 P) :: ((@Mine.o228 P) :: (hl366p24 P)))))))))
noncomputable def hl366p22 (P : PySem.Params) : List PySem.Obj := ((@Mine.o213 P) :: ((@Mine.o214 P) :: ((@Mine.o215 P) :: ((@Mine.o216 P) :: ((@Mine.o217 P) :: ((@Mine.o218 P) :: ((@Mine.o219 P) :: ((@Mine.o220 P) :: (hl366p23 P)))))))))
noncomputable def hl366p21 (P : PySem.Params) : List PySem.Obj := ((@Mine.o205 P) :: ((@Mine.o206 P) :: ((@Mine.o207 P) :: ((@Mine.o208 P) :: ((@Mine.o209 P) :: ((@Mine.o210 P) :: ((@Mine.o211 P) :: ((@Mine.o212 P) :: (hl366p22 P)))))))))
noncomputable def hl366p20 (P : PySem.Params) : List PySem.Obj := ((@Mine.o197 P) :: ((@Mine.o198 P) :: ((@Mine.o199 P) :: ((@Mine.o200 P) :: ((@Mine.o201 P) :: ((@Mine.o202 P) :: ((@Mine.o203 P) :: ((@Mine.o204 P) :: (hl366p21 P)))))))))
noncomputable def hl366p19 (P : PySem.Params) : List PySem.Obj := ((@Mine.o189 P) :: ((@Mine.o190 P) :: ((@Mine.o191 P) :: ((@Mine.o192 P) :: ((@Mine.o193 P) :: ((@Mine.o194 P) :: ((@Mine.o195 P) :: ((@Mine.o196 P) :: (hl366p20 P)))))))))
noncomputable def hl366p18 (P : PySem.Params) : List PySem.Obj := ((@Mine.o181 P) :: ((@Mine.o182 P) :: ((@Mine.o183 P) :: ((@Mine.o184 P) :: ((@Mine.o185 P) :: ((@Mine.o186 P) :: ((@Mine.o187 P) :: ((@Mine.o188 P) :: (hl366p19 P)))))))))
noncomputable def hl366p17 (P : PySem.Params) : List PySem.Obj := ((@Mine.o173 P) :: ((@Mine.o174 P) :: ((@Mine.o175 P) :: ((@Mine.o176 P) :: ((@Mine.o177 P) :: ((@Mine.o178 P) :: ((@Mine.o179 P) :: ((@Mine.o180 P) :: (hl366p18 P)))))))))
noncomputable def hl366p16 (P : PySem.Params) : List PySem.Obj := ((@Mine.o165 P) :: ((@Mine.o166 P) :: ((@Mine.o167 P) :: ((@Mine.o168 P) :: ((@Mine.o169 P) :: ((@Mine.o170 P) :: ((@Mine.o171 P) :: ((@Mine.o172 P) :: (hl366p17 P)))))))))
noncomputable def hl366p15 (P : PySem.Params) : List PySem.Obj := ((@Mine.o157 P) :: ((@Mine.o158 P) :: ((@Mine.o159 P) :: ((@Mine.o160 P) :: ((@Mine.o161 P) :: ((@Mine.o162 P) :: ((@Mine.o163 P) :: ((@Mine.o164 P) :: (hl366p16 P)))))))))
noncomputable def hl366p14 (P : PySem.Params) : List PySem.Obj := ((@Mine.o149 P) :: ((@Mine.o150 P) :: ((@Mine.o151 P) :: ((@Mine.o152 P) :: ((@Mine.o153 P) :: ((@Mine.o154 P) :: ((@Mine.o155 P) :: ((@Mine.o156 P) :: (hl366p15 P)))))))))
noncomputable def hl366p13 (P : PySem.Params) : List PySem.Obj := ((@Mine.o141 P) :: ((@Mine.o142 P) :: ((@Mine.o143 P) :: ((@Mine.o144 P) :: ((@Mine.o145 P) :: ((@Mine.o146 P) :: ((@Mine.o147 P) :: ((@Mine.o148 P) :: (hl366p14 P)))))))))
noncomputable def hl366p12 (P : PySem.Params) : List PySem.Obj := ((@Mine.o133 P) :: ((@Mine.o134 P) :: ((@Mine.o135 P) :: ((@Mine.o136 P) :: ((@Mine.o137 P) :: ((@Mine.o138 P) :: ((@Mine.o139 P) :: ((@Mine.o140 P) :: (hl366p13 P)))))))))
noncomputable def hl366p11 (P : PySem.Params) : List PySem.Obj := ((@Mine.o125 P) :: ((@Mine.o126 P) :: ((@Mine.o127 P) :: ((@Mine.o128 P) :: ((@Mine.o129 P) :: ((@Mine.o130 P) :: ((@Mine.o131 P) :: ((@Mine.o132 P) :: (hl366p12 P)))))))))
noncomputable def hl366p10 (P : PySem.Params) : List PySem.Obj := ((@Mine.o117 P) :: ((@Mine.o118 P) :: ((@Mine.o119 P) :: ((@Mine.o120 P) :: ((@Mine.o121 P) :: ((@Mine.o122 P) :: ((@Mine.o123 P) :: ((@Mine.o124 P) :: (hl366p11 P)))))))))
noncomputable def hl366p9 (P : PySem.Params) : List PySem.Obj := ((@Mine.o109 P) :: ((@Mine.o110 P) :: ((@Mine.o111 P) :: ((@Mine.o112 P) :: ((@Mine.o113 P) :: ((@Mine.o114 P) :: ((@Mine.o115 P) :: ((@Mine.o116 P) :: (hl366p10 P)))))))))
noncomputable def hl366p8 (P : PySem.Params) : List PySem.Obj := ((@Mine.o101 P) :: ((@Mine.o102 P) :: ((@Mine.o103 P) :: ((@Mine.o104 P) :: ((@Mine.o105 P) :: ((@Mine.o106 P) :: ((@Mine.o107 P) :: ((@Mine.o108 P) :: (hl366p9 P)))))))))
noncomputable def hl366p7 (P : PySem.Params) : List PySem.Obj := ((@Mine.o93 P) :: ((@Mine.o94 P) :: ((@Mine.o95 P) :: ((@Mine.o96 P) :: ((@Mine.o97 P) :: ((@Mine.o98 P) :: ((@Mine.o99 P) :: ((@Mine.o100 P) :: (hl366p8 P)))))))))
noncomputable def hl366p6 (P : PySem.Params) : List PySem.Obj := ((@Mine.o85 P) :: ((@Mine.o86 P) :: ((@Mine.o87 P) :: ((@Mine.o88 P) :: ((@Mine.o89 P) :: ((@Mine.o90 P) :: ((@Mine.o91 P) :: ((@Mine.o92 P) :: (hl366p7 P)))))))))
noncomputable def hl366p5 (P : PySem.Params) : List PySem.Obj := ((@Mine.o77 P) :: ((@Mine.o78 P) :: ((@Mine.o79 P) :: ((@Mine.o80 P) :: ((@Mine.o81 P) :: ((@Mine.o82 P) :: ((@Mine.o83 P) :: ((@Mine.o84 P) :: (hl366p6 P)))))))))
noncomputable def hl366p4 (P : PySem.Params) : List PySem.Obj := ((@Mine.o69 P) :: ((@Mine.o70 P) :: ((@Mine.o71 P) :: ((@Mine.o72 P) :: ((@Mine.o73 P) :: ((@Mine.o74 P) :: ((@Mine.o75 P) :: ((@Mine.o76 P) :: (hl366p5 P)))))))))
noncomputable def hl366p3 (P : PySem.Params) : List PySem.Obj := ((@Mine.o61 P) :: ((@Mine.o62 P) :: ((@Mine.o63 P) :: ((@Mine.o64 P) :: ((@Mine.o65 P) :: ((@Mine.o66 P) :: ((@Mine.o67 P) :: ((@Mine.o68 P) :: (hl366p4 P)))))))))
noncomputable def hl366p2 (P : PySem.Params) : List PySem.Obj := ((@Mine.o52 P) :: ((@Mine.o53 P) :: ((@Mine.o54 P) :: ((@Mine.o55 P) :: ((@Mine.o56 P) :: ((@Mine.o57 P) :: ((@Mine.o59 P) :: ((@Mine.o60 P) :: (hl366p3 P)))))))))
noncomputable def hl366p1 (P : PySem.Params) : List PySem.Obj := ((@PySem.W.boot_o_8 P) :: ((@PySem.W.boot_o_9 P) :: ((@PySem.W.boot_o_10 P) :: ((@Mine.o43 P) :: ((@Mine.o360 P) :: ((@Mine.o45 P) :: ((@Mine.o46 P) :: ((@Mine.o51 P) :: (hl366p2 P)))))))))
noncomputable def hl366p0 (P : PySem.Params) : List PySem.Obj := ((@PySem.W.boot_o_0 P) :: ((@PySem.W.boot_o_1 P) :: ((@PySem.W.boot_o_2 P) :: ((@Mine.o359 P) :: ((@PySem.W.boot_o_4 P) :: ((@PySem.W.boot_o_5 P) :: ((@PySem.W.boot_o_6 P) :: ((@PySem.W.boot_o_7 P) :: (hl366p1 P)))))))))
noncomputable def hp366 (P : PySem.Params) : PySem.Heap := PySem.Heap.mk (Array.mk (hl366p0 P)) (@PySem.Life.mk (@List.nil @Nat) (@List.nil @Nat) (@List.nil @Nat) 0 (@List.nil (@Prod @Nat @Nat)) (@List.nil @Nat) @Bool.false (@List.toArray @Nat (@List.nil @Nat)) (@List.nil @Nat) 0 @Bool.false @Bool.false @Bool.false (@OfNat.ofNat @Int (nat_lit 0) (@instOfNat (nat_lit 0))) (@List.cons @Int (@OfNat.ofNat @Int (nat_lit 2000) (@instOfNat (nat_lit 2000))) (@List.cons @Int (@OfNat.ofNat @Int (nat_lit 10) (@instOfNat (nat_lit 10))) (@List.cons @Int (@OfNat.ofNat @Int (nat_lit 10) (@instOfNat (nat_lit 10))) (@List.nil @Int)))) @Bool.false 0 @Bool.true (@List.nil @Nat) (@List.nil @Nat) 0 @Bool.false)
abbrev fobj (f : PySem.Arguments → List PySem.Stmt → PySem.Scope → PySem.Obj) {s : PySem.Stmt} {n : PySem.Str} {ps : PySem.Arguments} {b : List PySem.Stmt} {d : List PySem.Expr} {r : Option PySem.Expr} {t : List PySem.TypeParam} {sc : PySem.Scope} {ts : Option PySem.Scope} {bd : PySem.Str} {pos : PySem.Pos} (_ : s = PySem.Stmt.FunctionDef n ps b d r t sc ts bd pos) : PySem.Obj := f ps b sc
noncomputable def hK : PySem.Params → PySem.W.Frag := fun P =>
  (Prod.mk (nat_lit 2) (@PySem.W.boot_o_2 P)) ::
  (Prod.mk (nat_lit 3) (@Mine.o359 P)) ::
  (Prod.mk (nat_lit 6) (@PySem.W.boot_o_6 P)) ::
  (Prod.mk (nat_lit 15) (@Mine.o51 P)) ::
  (Prod.mk (nat_lit 17) (@Mine.o53 P)) ::
  (Prod.mk (nat_lit 18) (@Mine.o54 P)) ::
  (Prod.mk (nat_lit 20) (@Mine.o56 P)) ::
  (Prod.mk (nat_lit 21) (fobj (fun ps b sc => (@PySem.Obj.mk (@PySem.Value.type "function") (@Option.none @Nat) (@PySem.Data.func (@PySem.FuncData.mk (PySem.Str.ofString "zigzag_places") (PySem.Str.ofString "zigzag_places") ps (@PySem.FuncBody.stmts b) sc 3 (@List.nil (@Prod @PySem.Str @Nat)) @PySem.Value.none @PySem.Value.none @PySem.Value.none (@PySem.Value.str (PySem.Str.ofString "pixelpress.zigzag") 187) (@Option.none @Nat) (@PySem.Value.ref 20) @PySem.Value.none 0)) (@List.toArray (@Option @PySem.Value) (@List.nil (@Option @PySem.Value))))) (s := stm 1) rfl)) ::
  (Prod.mk (nat_lit 239) (@Mine.o276 P)) ::
  (Prod.mk (nat_lit 240) (@Mine.o281 P)) ::
  (Prod.mk (nat_lit 242) (@Mine.o283 P)) ::
  (Prod.mk (nat_lit 243) (@Mine.o284 P)) ::
  (Prod.mk (nat_lit 245) (@Mine.o286 P)) ::
  (Prod.mk (nat_lit 246) (fobj (fun ps b sc => (@PySem.Obj.mk (@PySem.Value.type "function") (@Option.none @Nat) (@PySem.Data.func (@PySem.FuncData.mk (PySem.Str.ofString "order") (PySem.Str.ofString "order") ps (@PySem.FuncBody.stmts b) sc 3 (@List.nil (@Prod @PySem.Str @Nat)) @PySem.Value.none @PySem.Value.none @PySem.Value.none (@PySem.Value.str (PySem.Str.ofString "pixelpress.zigzag") 187) (@Option.none @Nat) (@PySem.Value.ref 245) @PySem.Value.none 0)) (@List.toArray (@Option @PySem.Value) (@List.nil (@Option @PySem.Value))))) (s := stm 3) rfl)) ::
  (Prod.mk (nat_lit 247) (@Mine.o288 P)) ::
  (Prod.mk (nat_lit 249) (@Mine.o290 P)) ::
  (Prod.mk (nat_lit 250) (@Mine.o291 P)) ::
  (Prod.mk (nat_lit 252) (@Mine.o293 P)) ::
  (Prod.mk (nat_lit 253) (fobj (fun ps b sc => (@PySem.Obj.mk (@PySem.Value.type "function") (@Option.none @Nat) (@PySem.Data.func (@PySem.FuncData.mk (PySem.Str.ofString "ranks") (PySem.Str.ofString "ranks") ps (@PySem.FuncBody.stmts b) sc 3 (@List.nil (@Prod @PySem.Str @Nat)) @PySem.Value.none @PySem.Value.none @PySem.Value.none (@PySem.Value.str (PySem.Str.ofString "pixelpress.zigzag") 187) (@Option.none @Nat) (@PySem.Value.ref 252) @PySem.Value.none 0)) (@List.toArray (@Option @PySem.Value) (@List.nil (@Option @PySem.Value))))) (s := stm 4) rfl)) ::
  (Prod.mk (nat_lit 254) (@Mine.o295 P)) ::
  (Prod.mk (nat_lit 257) (@Mine.o298 P)) ::
  (Prod.mk (nat_lit 258) (fobj (fun ps b sc => (@PySem.Obj.mk (@PySem.Value.type "function") (@Option.none @Nat) (@PySem.Data.func (@PySem.FuncData.mk (PySem.Str.ofString "to_row") (PySem.Str.ofString "to_row") ps (@PySem.FuncBody.stmts b) sc 3 (@List.nil (@Prod @PySem.Str @Nat)) @PySem.Value.none @PySem.Value.none @PySem.Value.none (@PySem.Value.str (PySem.Str.ofString "pixelpress.zigzag") 187) (@Option.none @Nat) (@PySem.Value.ref 257) @PySem.Value.none 0)) (@List.toArray (@Option @PySem.Value) (@List.nil (@Option @PySem.Value))))) (s := stm 5) rfl)) ::
  (Prod.mk (nat_lit 259) (@Mine.o300 P)) ::
  (Prod.mk (nat_lit 261) (@Mine.o302 P)) ::
  (Prod.mk (nat_lit 262) (@Mine.o303 P)) ::
  (Prod.mk (nat_lit 264) (@Mine.o305 P)) ::
  (Prod.mk (nat_lit 265) (fobj (fun ps b sc => (@PySem.Obj.mk (@PySem.Value.type "function") (@Option.none @Nat) (@PySem.Data.func (@PySem.FuncData.mk (PySem.Str.ofString "to_block") (PySem.Str.ofString "to_block") ps (@PySem.FuncBody.stmts b) sc 3 (@List.nil (@Prod @PySem.Str @Nat)) @PySem.Value.none @PySem.Value.none @PySem.Value.none (@PySem.Value.str (PySem.Str.ofString "pixelpress.zigzag") 187) (@Option.none @Nat) (@PySem.Value.ref 264) @PySem.Value.none 0)) (@List.toArray (@Option @PySem.Value) (@List.nil (@Option @PySem.Value))))) (s := stm 6) rfl)) ::
  (Prod.mk (nat_lit 266) (@Mine.o307 P)) ::
  (Prod.mk (nat_lit 268) (@Mine.o309 P)) ::
  (Prod.mk (nat_lit 269) (@Mine.o310 P)) ::
  (Prod.mk (nat_lit 271) (@Mine.o312 P)) ::
  (Prod.mk (nat_lit 272) (fobj (fun ps b sc => (@PySem.Obj.mk (@PySem.Value.type "function") (@Option.none @Nat) (@PySem.Data.func (@PySem.FuncData.mk (PySem.Str.ofString "last_used") (PySem.Str.ofString "last_used") ps (@PySem.FuncBody.stmts b) sc 3 (@List.nil (@Prod @PySem.Str @Nat)) @PySem.Value.none @PySem.Value.none @PySem.Value.none (@PySem.Value.str (PySem.Str.ofString "pixelpress.zigzag") 187) (@Option.none @Nat) (@PySem.Value.ref 271) @PySem.Value.none 0)) (@List.toArray (@Option @PySem.Value) (@List.nil (@Option @PySem.Value))))) (s := stm 7) rfl)) ::
  (Prod.mk (nat_lit 273) (@Mine.o314 P)) ::
  (Prod.mk (nat_lit 275) (@Mine.o316 P)) ::
  (Prod.mk (nat_lit 276) (@Mine.o317 P)) ::
  (Prod.mk (nat_lit 278) (@Mine.o319 P)) ::
  (Prod.mk (nat_lit 279) (fobj (fun ps b sc => (@PySem.Obj.mk (@PySem.Value.type "function") (@Option.none @Nat) (@PySem.Data.func (@PySem.FuncData.mk (PySem.Str.ofString "corner") (PySem.Str.ofString "corner") ps (@PySem.FuncBody.stmts b) sc 3 (@List.nil (@Prod @PySem.Str @Nat)) @PySem.Value.none @PySem.Value.none @PySem.Value.none (@PySem.Value.str (PySem.Str.ofString "pixelpress.zigzag") 187) (@Option.none @Nat) (@PySem.Value.ref 278) @PySem.Value.none 0)) (@List.toArray (@Option @PySem.Value) (@List.nil (@Option @PySem.Value))))) (s := stm 8) rfl)) ::
  (Prod.mk (nat_lit 280) (@Mine.o321 P)) ::
  (Prod.mk (nat_lit 282) (@Mine.o323 P)) ::
  (Prod.mk (nat_lit 283) (@Mine.o324 P)) ::
  (Prod.mk (nat_lit 285) (@Mine.o326 P)) ::
  (Prod.mk (nat_lit 286) (fobj (fun ps b sc => (@PySem.Obj.mk (@PySem.Value.type "function") (@Option.none @Nat) (@PySem.Data.func (@PySem.FuncData.mk (PySem.Str.ofString "widened") (PySem.Str.ofString "widened") ps (@PySem.FuncBody.stmts b) sc 3 (@List.nil (@Prod @PySem.Str @Nat)) @PySem.Value.none @PySem.Value.none @PySem.Value.none (@PySem.Value.str (PySem.Str.ofString "pixelpress.zigzag") 187) (@Option.none @Nat) (@PySem.Value.ref 285) @PySem.Value.none 0)) (@List.toArray (@Option @PySem.Value) (@List.nil (@Option @PySem.Value))))) (s := stm 9) rfl)) ::
  (Prod.mk (nat_lit 287) (@Mine.o328 P)) ::
  (Prod.mk (nat_lit 289) (@Mine.o330 P)) ::
  (Prod.mk (nat_lit 290) (@Mine.o331 P)) ::
  (Prod.mk (nat_lit 292) (@Mine.o333 P)) ::
  (Prod.mk (nat_lit 293) (fobj (fun ps b sc => (@PySem.Obj.mk (@PySem.Value.type "function") (@Option.none @Nat) (@PySem.Data.func (@PySem.FuncData.mk (PySem.Str.ofString "_law_pool") (PySem.Str.ofString "_law_pool") ps (@PySem.FuncBody.stmts b) sc 3 (@List.nil (@Prod @PySem.Str @Nat)) @PySem.Value.none @PySem.Value.none @PySem.Value.none (@PySem.Value.str (PySem.Str.ofString "law_nt0537_01") 861) (@Option.none @Nat) (@PySem.Value.ref 292) @PySem.Value.none 0)) (@List.toArray (@Option @PySem.Value) (@List.nil (@Option @PySem.Value))))) (s := stm 11) rfl)) ::
  (Prod.mk (nat_lit 294) (@Mine.o335 P)) ::
  (Prod.mk (nat_lit 296) (@Mine.o337 P)) ::
  (Prod.mk (nat_lit 297) (@Mine.o338 P)) ::
  (Prod.mk (nat_lit 299) (@Mine.o340 P)) ::
  (Prod.mk (nat_lit 300) (fobj (fun ps b sc => (@PySem.Obj.mk (@PySem.Value.type "function") (@Option.none @Nat) (@PySem.Data.func (@PySem.FuncData.mk (PySem.Str.ofString "_law_take") (PySem.Str.ofString "_law_take") ps (@PySem.FuncBody.stmts b) sc 3 (@List.nil (@Prod @PySem.Str @Nat)) @PySem.Value.none @PySem.Value.none @PySem.Value.none (@PySem.Value.str (PySem.Str.ofString "law_nt0537_01") 861) (@Option.none @Nat) (@PySem.Value.ref 299) @PySem.Value.none 0)) (@List.toArray (@Option @PySem.Value) (@List.nil (@Option @PySem.Value))))) (s := stm 12) rfl)) ::
  (Prod.mk (nat_lit 301) (@Mine.o342 P)) ::
  (Prod.mk (nat_lit 303) (@Mine.o344 P)) ::
  (Prod.mk (nat_lit 304) (@Mine.o345 P)) ::
  (Prod.mk (nat_lit 306) (@Mine.o347 P)) ::
  (Prod.mk (nat_lit 307) (fobj (fun ps b sc => (@PySem.Obj.mk (@PySem.Value.type "function") (@Option.none @Nat) (@PySem.Data.func (@PySem.FuncData.mk (PySem.Str.ofString "_law_walk") (PySem.Str.ofString "_law_walk") ps (@PySem.FuncBody.stmts b) sc 3 (@List.nil (@Prod @PySem.Str @Nat)) @PySem.Value.none @PySem.Value.none @PySem.Value.none (@PySem.Value.str (PySem.Str.ofString "law_nt0537_01") 861) (@Option.none @Nat) (@PySem.Value.ref 306) @PySem.Value.none 0)) (@List.toArray (@Option @PySem.Value) (@List.nil (@Option @PySem.Value))))) (s := stm 13) rfl)) ::
  (Prod.mk (nat_lit 308) (@Mine.o349 P)) ::
  (Prod.mk (nat_lit 311) (@Mine.o352 P)) ::
  (Prod.mk (nat_lit 312) (fobj (fun ps b sc => (@PySem.Obj.mk (@PySem.Value.type "function") (@Option.none @Nat) (@PySem.Data.func (@PySem.FuncData.mk (PySem.Str.ofString "_law_numbers") (PySem.Str.ofString "_law_numbers") ps (@PySem.FuncBody.stmts b) sc 3 (@List.nil (@Prod @PySem.Str @Nat)) @PySem.Value.none @PySem.Value.none @PySem.Value.none (@PySem.Value.str (PySem.Str.ofString "law_nt0537_01") 861) (@Option.none @Nat) (@PySem.Value.ref 311) @PySem.Value.none 0)) (@List.toArray (@Option @PySem.Value) (@List.nil (@Option @PySem.Value))))) (s := stm 14) rfl)) ::
  (Prod.mk (nat_lit 313) (@Mine.o354 P)) ::
  (Prod.mk (nat_lit 316) (@Mine.o357 P)) ::
  (Prod.mk (nat_lit 317) (fobj (fun ps b sc => (@PySem.Obj.mk (@PySem.Value.type "function") (@Option.none @Nat) (@PySem.Data.func (@PySem.FuncData.mk (PySem.Str.ofString "_law_row_right") (PySem.Str.ofString "_law_row_right") ps (@PySem.FuncBody.stmts b) sc 3 (@List.nil (@Prod @PySem.Str @Nat)) @PySem.Value.none @PySem.Value.none @PySem.Value.none (@PySem.Value.str (PySem.Str.ofString "law_nt0537_01") 861) (@Option.none @Nat) (@PySem.Value.ref 316) @PySem.Value.none 0)) (@List.toArray (@Option @PySem.Value) (@List.nil (@Option @PySem.Value))))) (s := stm 15) rfl)) ::
  (Prod.mk (nat_lit 318) (@Mine.o361 P)) ::
  (Prod.mk (nat_lit 321) (@Mine.o364 P)) ::
  (Prod.mk (nat_lit 322) (fobj (fun ps b sc => (@PySem.Obj.mk (@PySem.Value.type "function") (@Option.none @Nat) (@PySem.Data.func (@PySem.FuncData.mk (PySem.Str.ofString "law") (PySem.Str.ofString "law") ps (@PySem.FuncBody.stmts b) sc 3 (@List.nil (@Prod @PySem.Str @Nat)) @PySem.Value.none @PySem.Value.none @PySem.Value.none (@PySem.Value.str (PySem.Str.ofString "law_nt0537_01") 861) (@Option.none @Nat) (@PySem.Value.ref 321) @PySem.Value.none 0)) (@List.toArray (@Option @PySem.Value) (@List.nil (@Option @PySem.Value))))) (s := stm 16) rfl)) :: []
noncomputable abbrev hkH : PySem.W.Hook := PySem.W.kHook hK ((nat_lit 2) :: (nat_lit 3) :: (nat_lit 6) :: (nat_lit 15) :: (nat_lit 17) :: (nat_lit 18) :: (nat_lit 20) :: (nat_lit 21) :: (nat_lit 239) :: (nat_lit 240) :: (nat_lit 242) :: (nat_lit 243) :: (nat_lit 245) :: (nat_lit 246) :: (nat_lit 247) :: (nat_lit 249) :: (nat_lit 250) :: (nat_lit 252) :: (nat_lit 253) :: (nat_lit 254) :: (nat_lit 257) :: (nat_lit 258) :: (nat_lit 259) :: (nat_lit 261) :: (nat_lit 262) :: (nat_lit 264) :: (nat_lit 265) :: (nat_lit 266) :: (nat_lit 268) :: (nat_lit 269) :: (nat_lit 271) :: (nat_lit 272) :: (nat_lit 273) :: (nat_lit 275) :: (nat_lit 276) :: (nat_lit 278) :: (nat_lit 279) :: (nat_lit 280) :: (nat_lit 282) :: (nat_lit 283) :: (nat_lit 285) :: (nat_lit 286) :: (nat_lit 287) :: (nat_lit 289) :: (nat_lit 290) :: (nat_lit 292) :: (nat_lit 293) :: (nat_lit 294) :: (nat_lit 296) :: (nat_lit 297) :: (nat_lit 299) :: (nat_lit 300) :: (nat_lit 301) :: (nat_lit 303) :: (nat_lit 304) :: (nat_lit 306) :: (nat_lit 307) :: (nat_lit 308) :: (nat_lit 311) :: (nat_lit 312) :: (nat_lit 313) :: (nat_lit 316) :: (nat_lit 317) :: (nat_lit 318) :: (nat_lit 321) :: (nat_lit 322) :: []) (fun _ => by kernel_rfl)
def yes (_ : Prop) : Bool := true
noncomputable def st47 : Prop := (∀ (x0 : @PySem.World), (@Eq (∀ (x1 : @PySem.OsState), (@Option (@Prod @PySem.Shared @PySem.Thread))) (fun (x1 : @PySem.OsState) => (@PySem.W.topGo @PySem.treeTable ((@PySem.W.OpenRow.toRowW (@PySem.W.OpenLaw.row @PySem.Challenge.rw_nt0537_01))).1 x0 (nat_lit 11) (@Option.some @PySem.Value (@PySem.Value.ref 6)) (nat_lit 12) (@PySem.Shared.mk (@PySem.W.boot_heap (@PySem.World.params x0)) (@Array.mk @PySem.GenState (@List.nil @PySem.GenState)) @PySem.W.boot_drawn @PySem.W.boot_toks x1) (@PySem.W.topStub ((@PySem.W.OpenRow.toRowW (@PySem.W.OpenLaw.row @PySem.Challenge.rw_nt0537_01))).1))) (fun (x1 : @PySem.OsState) => (@Option.some (@Prod @PySem.Shared @PySem.Thread) (@Prod.mk @PySem.Shared @PySem.Thread (@PySem.Shared.mk (@Mine.hp46 (@PySem.World.params x0)) (@Array.mk @PySem.GenState (@List.nil @PySem.GenState)) (@PySem.Drawn.mk 0 0 0 0) (nat_lit 187) x1) (@PySem.Thread.mk (@PySem.denote @PySem.treeTable (@PySem.Code.body (@PySem.W.behindTheImports ((@PySem.W.OpenRow.toRowW (@PySem.W.OpenLaw.row @PySem.Challenge.rw_nt0537_01))).1) @Mine.env0)) (@PySem.Code.body (@PySem.W.behindTheImports ((@PySem.W.OpenRow.toRowW (@PySem.W.OpenLaw.row @PySem.Challenge.rw_nt0537_01))).1) @Mine.env0) (@PySem.Pos.mk 0 0 0 0) (@List.cons @PySem.Frame (@PySem.W.topFrame (@PySem.Pos.mk 0 0 0 0)) (@List.nil @PySem.Frame))))))))
theorem q47 : yes st47 = true := by k_qdec
theorem p47 : st47 := Eq.mpr PySem.W.Fast.te13114977260107808909 (by intro w; kernel_rfl)
noncomputable def st49 : Prop := (∀ (x0 : @PySem.World), (@Eq (∀ (x1 : @PySem.OsState), (@Option (@Prod @PySem.Flow (@Prod @PySem.Shared (@Prod @PySem.Code @PySem.Pos))))) (fun (x1 : @PySem.OsState) => (@PySem.W.segRun @PySem.treeTable ((@PySem.W.OpenRow.toRowW (@PySem.W.OpenLaw.row @PySem.Challenge.rw_nt0537_01))).1 x0 (nat_lit 11) (@Option.some @PySem.Value (@PySem.Value.ref 6)) (nat_lit 1) (nat_lit 1) (@PySem.Shared.mk (@Mine.hp46 (@PySem.World.params x0)) (@Array.mk @PySem.GenState (@List.nil @PySem.GenState)) (@PySem.Drawn.mk 0 0 0 0) (nat_lit 187) x1) (@PySem.W.blockOf (@PySem.W.behindTheImports ((@PySem.W.OpenRow.toRowW (@PySem.W.OpenLaw.row @PySem.Challenge.rw_nt0537_01))).1) @Mine.env0 (@PySem.Code.body (@PySem.W.behindTheImports ((@PySem.W.OpenRow.toRowW (@PySem.W.OpenLaw.row @PySem.Challenge.rw_nt0537_01))).1) @Mine.env0) (@PySem.Pos.mk 0 0 0 0) (@List.cons @PySem.Frame (@PySem.W.topFrame (@PySem.Pos.mk 0 0 0 0)) (@List.nil @PySem.Frame))))) (fun (x1 : @PySem.OsState) => (@Option.some (@Prod @PySem.Flow (@Prod @PySem.Shared (@Prod @PySem.Code @PySem.Pos))) (@Prod.mk @PySem.Flow (@Prod @PySem.Shared (@Prod @PySem.Code @PySem.Pos)) @PySem.Flow.next (@Prod.mk @PySem.Shared (@Prod @PySem.Code @PySem.Pos) (@PySem.W.SharedT.abs (@PySem.W.SharedT.mk (@Mine.tr47 (@PySem.World.params x0)) (nat_lit 15) (@PySem.Life.mk (@List.nil @Nat) (@List.nil @Nat) (@List.nil @Nat) 0 (@List.nil (@Prod @Nat @Nat)) (@List.nil @Nat) @Bool.false (@List.toArray @Nat (@List.nil @Nat)) (@List.nil @Nat) 0 @Bool.false @Bool.false @Bool.false (@OfNat.ofNat @Int (nat_lit 0) (@instOfNat (nat_lit 0))) (@List.cons @Int (@OfNat.ofNat @Int (nat_lit 2000) (@instOfNat (nat_lit 2000))) (@List.cons @Int (@OfNat.ofNat @Int (nat_lit 10) (@instOfNat (nat_lit 10))) (@List.cons @Int (@OfNat.ofNat @Int (nat_lit 10) (@instOfNat (nat_lit 10))) (@List.nil @Int)))) @Bool.false 0 @Bool.true (@List.nil @Nat) (@List.nil @Nat) 0 @Bool.false) (@Array.mk @PySem.GenState (@List.nil @PySem.GenState)) (@PySem.Drawn.mk 0 0 0 0) (nat_lit 187) x1)) (@Prod.mk @PySem.Code @PySem.Pos (@PySem.Code.body (@PySem.W.behindTheImports ((@PySem.W.OpenRow.toRowW (@PySem.W.OpenLaw.row @PySem.Challenge.rw_nt0537_01))).1) @Mine.env0) (@PySem.Pos.mk 0 0 0 0))))))))
theorem q49 : yes st49 = true := by k_qdec
theorem p49 : st49 := Eq.mpr PySem.W.Fast.te9130029458089388872 (by intro w; kernel_rfl)
noncomputable def st58 : Prop := (∀ (x0 : @PySem.World), (@Eq (∀ (x1 : @PySem.OsState), (@Option (@Prod @PySem.Flow (@Prod @PySem.W.SharedT (@Prod @PySem.Code @PySem.Pos))))) (fun (x1 : @PySem.OsState) => (@PySem.W.segRunT @PySem.treeTable ((@PySem.W.OpenRow.toRowW (@PySem.W.OpenLaw.row @PySem.Challenge.rw_nt0537_01))).1 x0 (nat_lit 11) (@Option.some @PySem.Value (@PySem.Value.ref 6)) (nat_lit 1) (nat_lit 45) (@PySem.W.SharedT.mk (@Mine.tr47 (@PySem.World.params x0)) (nat_lit 15) (@PySem.Life.mk (@List.nil @Nat) (@List.nil @Nat) (@List.nil @Nat) 0 (@List.nil (@Prod @Nat @Nat)) (@List.nil @Nat) @Bool.false (@List.toArray @Nat (@List.nil @Nat)) (@List.nil @Nat) 0 @Bool.false @Bool.false @Bool.false (@OfNat.ofNat @Int (nat_lit 0) (@instOfNat (nat_lit 0))) (@List.cons @Int (@OfNat.ofNat @Int (nat_lit 2000) (@instOfNat (nat_lit 2000))) (@List.cons @Int (@OfNat.ofNat @Int (nat_lit 10) (@instOfNat (nat_lit 10))) (@List.cons @Int (@OfNat.ofNat @Int (nat_lit 10) (@instOfNat (nat_lit 10))) (@List.nil @Int)))) @Bool.false 0 @Bool.true (@List.nil @Nat) (@List.nil @Nat) 0 @Bool.false) (@Array.mk @PySem.GenState (@List.nil @PySem.GenState)) (@PySem.Drawn.mk 0 0 0 0) (nat_lit 187) x1) (@PySem.W.piecesOf @Mine.sts49 @Mine.env0 (@PySem.Code.body (@PySem.W.behindTheImports ((@PySem.W.OpenRow.toRowW (@PySem.W.OpenLaw.row @PySem.Challenge.rw_nt0537_01))).1) @Mine.env0) (@PySem.Pos.mk 0 0 0 0) (@List.cons @PySem.Frame (@PySem.W.topFrame (@PySem.Pos.mk 0 0 0 0)) (@List.nil @PySem.Frame))))) (fun (x1 : @PySem.OsState) => (@Option.some (@Prod @PySem.Flow (@Prod @PySem.W.SharedT (@Prod @PySem.Code @PySem.Pos))) (@Prod.mk @PySem.Flow (@Prod @PySem.W.SharedT (@Prod @PySem.Code @PySem.Pos)) @PySem.Flow.next (@Prod.mk @PySem.W.SharedT (@Prod @PySem.Code @PySem.Pos) (@PySem.W.SharedT.mk (@Mine.tr57 (@PySem.World.params x0)) (nat_lit 22) (@PySem.Life.mk (@List.nil @Nat) (@List.nil @Nat) (@List.nil @Nat) 0 (@List.nil (@Prod @Nat @Nat)) (@List.nil @Nat) @Bool.false (@List.toArray @Nat (@List.nil @Nat)) (@List.nil @Nat) 0 @Bool.false @Bool.false @Bool.false (@OfNat.ofNat @Int (nat_lit 0) (@instOfNat (nat_lit 0))) (@List.cons @Int (@OfNat.ofNat @Int (nat_lit 2000) (@instOfNat (nat_lit 2000))) (@List.cons @Int (@OfNat.ofNat @Int (nat_lit 10) (@instOfNat (nat_lit 10))) (@List.cons @Int (@OfNat.ofNat @Int (nat_lit 10) (@instOfNat (nat_lit 10))) (@List.nil @Int)))) @Bool.false 0 @Bool.true (@List.nil @Nat) (@List.nil @Nat) 0 @Bool.false) (@Array.mk @PySem.GenState (@List.nil @PySem.GenState)) (@PySem.Drawn.mk 0 0 0 0) (nat_lit 202) x1) (@Prod.mk @PySem.Code @PySem.Pos (@PySem.Code.body (@PySem.W.behindTheImports ((@PySem.W.OpenRow.toRowW (@PySem.W.OpenLaw.row @PySem.Challenge.rw_nt0537_01))).1) @Mine.env0) (@PySem.Pos.mk 2 0 10 23))))))))
theorem q58 : yes st58 = true := by k_qdec
theorem p58 : st58 := Eq.mpr PySem.W.Fast.te15411625468540937240 (by intro w; kernel_rfl)
noncomputable def st277 : Prop := (∀ (x0 : @PySem.World), (@Eq (∀ (x1 : @PySem.OsState), (@Option (@Prod @PySem.Flow (@Prod @PySem.W.SharedT (@Prod @PySem.Code @PySem.Pos))))) (fun (x1 : @PySem.OsState) => (@PySem.W.segRunT @PySem.treeTable ((@PySem.W.OpenRow.toRowW (@PySem.W.OpenLaw.row @PySem.Challenge.rw_nt0537_01))).1 (@PySem.World.withFollow x0 "special-get-raises" @Bool.false) (nat_lit 11) (@Option.some @PySem.Value (@PySem.Value.ref 6)) (nat_lit 1) (nat_lit 8708) (@PySem.W.SharedT.mk (@Mine.tr57 (@PySem.World.params (@PySem.World.withFollow x0 "special-get-raises" @Bool.false))) (nat_lit 22) (@PySem.Life.mk (@List.nil @Nat) (@List.nil @Nat) (@List.nil @Nat) 0 (@List.nil (@Prod @Nat @Nat)) (@List.nil @Nat) @Bool.false (@List.toArray @Nat (@List.nil @Nat)) (@List.nil @Nat) 0 @Bool.false @Bool.false @Bool.false (@OfNat.ofNat @Int (nat_lit 0) (@instOfNat (nat_lit 0))) (@List.cons @Int (@OfNat.ofNat @Int (nat_lit 2000) (@instOfNat (nat_lit 2000))) (@List.cons @Int (@OfNat.ofNat @Int (nat_lit 10) (@instOfNat (nat_lit 10))) (@List.cons @Int (@OfNat.ofNat @Int (nat_lit 10) (@instOfNat (nat_lit 10))) (@List.nil @Int)))) @Bool.false 0 @Bool.true (@List.nil @Nat) (@List.nil @Nat) 0 @Bool.false) (@Array.mk @PySem.GenState (@List.nil @PySem.GenState)) (@PySem.Drawn.mk 0 0 0 0) (nat_lit 202) x1) (@PySem.W.piecesOf @Mine.sts58 @Mine.env0 (@PySem.Code.body (@PySem.W.behindTheImports ((@PySem.W.OpenRow.toRowW (@PySem.W.OpenLaw.row @PySem.Challenge.rw_nt0537_01))).1) @Mine.env0) (@PySem.Pos.mk 2 0 10 23) (@List.cons @PySem.Frame (@PySem.W.topFrame (@PySem.Pos.mk 0 0 0 0)) (@List.nil @PySem.Frame))))) (fun (x1 : @PySem.OsState) => (@Option.some (@Prod @PySem.Flow (@Prod @PySem.W.SharedT (@Prod @PySem.Code @PySem.Pos))) (@Prod.mk @PySem.Flow (@Prod @PySem.W.SharedT (@Prod @PySem.Code @PySem.Pos)) @PySem.Flow.next (@Prod.mk @PySem.W.SharedT (@Prod @PySem.Code @PySem.Pos) (@PySem.W.SharedT.mk (@Mine.tr276 (@PySem.World.params (@PySem.World.withFollow x0 "special-get-raises" @Bool.false))) (nat_lit 240) (@PySem.Life.mk (@List.nil @Nat) (@List.nil @Nat) (@List.nil @Nat) 0 (@List.nil (@Prod @Nat @Nat)) (@List.nil @Nat) @Bool.false (@List.toArray @Nat (@List.nil @Nat)) (@List.nil @Nat) 0 @Bool.false @Bool.false @Bool.false (@OfNat.ofNat @Int (nat_lit 0) (@instOfNat (nat_lit 0))) (@List.cons @Int (@OfNat.ofNat @Int (nat_lit 2000) (@instOfNat (nat_lit 2000))) (@List.cons @Int (@OfNat.ofNat @Int (nat_lit 10) (@instOfNat (nat_lit 10))) (@List.cons @Int (@OfNat.ofNat @Int (nat_lit 10) (@instOfNat (nat_lit 10))) (@List.nil @Int)))) @Bool.false 0 @Bool.true (@List.nil @Nat) (@List.nil @Nat) 0 @Bool.false) (@Array.mk @PySem.GenState (@List.nil @PySem.GenState)) (@PySem.Drawn.mk 0 0 0 0) (nat_lit 795) x1) (@Prod.mk @PySem.Code @PySem.Pos (@PySem.Code.body (@PySem.W.behindTheImports ((@PySem.W.OpenRow.toRowW (@PySem.W.OpenLaw.row @PySem.Challenge.rw_nt0537_01))).1) @Mine.env0) (@PySem.Pos.mk 11 0 11 7))))))))
theorem q277 : yes st277 = true := by k_qdec
theorem p277 : st277 := Eq.mpr PySem.W.Fast.te14340130229297919969 (by intro w; kernel_rfl)
noncomputable def st279 : Prop := (∀ (x0 : @PySem.World), (@Eq (∀ (x1 : @PySem.OsState), (@Option (@Prod @PySem.Flow (@Prod @PySem.W.SharedT (@Prod @PySem.Code @PySem.Pos))))) (fun (x1 : @PySem.OsState) => (@PySem.W.segRunT @PySem.treeTable ((@PySem.W.OpenRow.toRowW (@PySem.W.OpenLaw.row @PySem.Challenge.rw_nt0537_01))).1 (@PySem.World.withFollow x0 "special-get-raises" @Bool.true) (nat_lit 11) (@Option.some @PySem.Value (@PySem.Value.ref 6)) (nat_lit 1) (nat_lit 8708) (@PySem.W.SharedT.mk (@Mine.tr57 (@PySem.World.params (@PySem.World.withFollow x0 "special-get-raises" @Bool.true))) (nat_lit 22) (@PySem.Life.mk (@List.nil @Nat) (@List.nil @Nat) (@List.nil @Nat) 0 (@List.nil (@Prod @Nat @Nat)) (@List.nil @Nat) @Bool.false (@List.toArray @Nat (@List.nil @Nat)) (@List.nil @Nat) 0 @Bool.false @Bool.false @Bool.false (@OfNat.ofNat @Int (nat_lit 0) (@instOfNat (nat_lit 0))) (@List.cons @Int (@OfNat.ofNat @Int (nat_lit 2000) (@instOfNat (nat_lit 2000))) (@List.cons @Int (@OfNat.ofNat @Int (nat_lit 10) (@instOfNat (nat_lit 10))) (@List.cons @Int (@OfNat.ofNat @Int (nat_lit 10) (@instOfNat (nat_lit 10))) (@List.nil @Int)))) @Bool.false 0 @Bool.true (@List.nil @Nat) (@List.nil @Nat) 0 @Bool.false) (@Array.mk @PySem.GenState (@List.nil @PySem.GenState)) (@PySem.Drawn.mk 0 0 0 0) (nat_lit 202) x1) (@PySem.W.piecesOf @Mine.sts58 @Mine.env0 (@PySem.Code.body (@PySem.W.behindTheImports ((@PySem.W.OpenRow.toRowW (@PySem.W.OpenLaw.row @PySem.Challenge.rw_nt0537_01))).1) @Mine.env0) (@PySem.Pos.mk 2 0 10 23) (@List.cons @PySem.Frame (@PySem.W.topFrame (@PySem.Pos.mk 0 0 0 0)) (@List.nil @PySem.Frame))))) (fun (x1 : @PySem.OsState) => (@Option.some (@Prod @PySem.Flow (@Prod @PySem.W.SharedT (@Prod @PySem.Code @PySem.Pos))) (@Prod.mk @PySem.Flow (@Prod @PySem.W.SharedT (@Prod @PySem.Code @PySem.Pos)) @PySem.Flow.next (@Prod.mk @PySem.W.SharedT (@Prod @PySem.Code @PySem.Pos) (@PySem.W.SharedT.mk (@Mine.tr276 (@PySem.World.params (@PySem.World.withFollow x0 "special-get-raises" @Bool.true))) (nat_lit 240) (@PySem.Life.mk (@List.nil @Nat) (@List.nil @Nat) (@List.nil @Nat) 0 (@List.nil (@Prod @Nat @Nat)) (@List.nil @Nat) @Bool.false (@List.toArray @Nat (@List.nil @Nat)) (@List.nil @Nat) 0 @Bool.false @Bool.false @Bool.false (@OfNat.ofNat @Int (nat_lit 0) (@instOfNat (nat_lit 0))) (@List.cons @Int (@OfNat.ofNat @Int (nat_lit 2000) (@instOfNat (nat_lit 2000))) (@List.cons @Int (@OfNat.ofNat @Int (nat_lit 10) (@instOfNat (nat_lit 10))) (@List.cons @Int (@OfNat.ofNat @Int (nat_lit 10) (@instOfNat (nat_lit 10))) (@List.nil @Int)))) @Bool.false 0 @Bool.true (@List.nil @Nat) (@List.nil @Nat) 0 @Bool.false) (@Array.mk @PySem.GenState (@List.nil @PySem.GenState)) (@PySem.Drawn.mk 0 0 0 0) (nat_lit 795) x1) (@Prod.mk @PySem.Code @PySem.Pos (@PySem.Code.body (@PySem.W.behindTheImports ((@PySem.W.OpenRow.toRowW (@PySem.W.OpenLaw.row @PySem.Challenge.rw_nt0537_01))).1) @Mine.env0) (@PySem.Pos.mk 11 0 11 7))))))))
theorem q279 : yes st279 = true := by k_qdec
theorem p279 : st279 := Eq.mpr PySem.W.Fast.te854660569172411202 (by intro w; kernel_rfl)
noncomputable def st359 : Prop := (∀ (x0 : @PySem.World), (@Eq (∀ (x1 : @PySem.OsState), (@Option (@Prod @PySem.Flow (@Prod @PySem.W.SharedT (@Prod @PySem.Code @PySem.Pos))))) (fun (x1 : @PySem.OsState) => (@PySem.W.segRunT @PySem.treeTable ((@PySem.W.OpenRow.toRowW (@PySem.W.OpenLaw.row @PySem.Challenge.rw_nt0537_01))).1 x0 (nat_lit 11) (@Option.some @PySem.Value (@PySem.Value.ref 6)) (nat_lit 1) (nat_lit 377) (@PySem.W.SharedT.mk (@Mine.tr276 (@PySem.World.params x0)) (nat_lit 240) (@PySem.Life.mk (@List.nil @Nat) (@List.nil @Nat) (@List.nil @Nat) 0 (@List.nil (@Prod @Nat @Nat)) (@List.nil @Nat) @Bool.false (@List.toArray @Nat (@List.nil @Nat)) (@List.nil @Nat) 0 @Bool.false @Bool.false @Bool.false (@OfNat.ofNat @Int (nat_lit 0) (@instOfNat (nat_lit 0))) (@List.cons @Int (@OfNat.ofNat @Int (nat_lit 2000) (@instOfNat (nat_lit 2000))) (@List.cons @Int (@OfNat.ofNat @Int (nat_lit 10) (@instOfNat (nat_lit 10))) (@List.cons @Int (@OfNat.ofNat @Int (nat_lit 10) (@instOfNat (nat_lit 10))) (@List.nil @Int)))) @Bool.false 0 @Bool.true (@List.nil @Nat) (@List.nil @Nat) 0 @Bool.false) (@Array.mk @PySem.GenState (@List.nil @PySem.GenState)) (@PySem.Drawn.mk 0 0 0 0) (nat_lit 795) x1) (@PySem.W.piecesOf @Mine.sts279 @Mine.env0 (@PySem.Code.body (@PySem.W.behindTheImports ((@PySem.W.OpenRow.toRowW (@PySem.W.OpenLaw.row @PySem.Challenge.rw_nt0537_01))).1) @Mine.env0) (@PySem.Pos.mk 11 0 11 7) (@List.cons @PySem.Frame (@PySem.W.topFrame (@PySem.Pos.mk 0 0 0 0)) (@List.nil @PySem.Frame))))) (fun (x1 : @PySem.OsState) => (@Option.some (@Prod @PySem.Flow (@Prod @PySem.W.SharedT (@Prod @PySem.Code @PySem.Pos))) (@Prod.mk @PySem.Flow (@Prod @PySem.W.SharedT (@Prod @PySem.Code @PySem.Pos)) @PySem.Flow.next (@Prod.mk @PySem.W.SharedT (@Prod @PySem.Code @PySem.Pos) (@PySem.W.SharedT.mk (@Mine.tr358 (@PySem.World.params x0)) (nat_lit 318) (@PySem.Life.mk (@List.nil @Nat) (@List.nil @Nat) (@List.nil @Nat) 0 (@List.nil (@Prod @Nat @Nat)) (@List.nil @Nat) @Bool.false (@List.toArray @Nat (@List.nil @Nat)) (@List.nil @Nat) 0 @Bool.false @Bool.false @Bool.false (@OfNat.ofNat @Int (nat_lit 0) (@instOfNat (nat_lit 0))) (@List.cons @Int (@OfNat.ofNat @Int (nat_lit 2000) (@instOfNat (nat_lit 2000))) (@List.cons @Int (@OfNat.ofNat @Int (nat_lit 10) (@instOfNat (nat_lit 10))) (@List.cons @Int (@OfNat.ofNat @Int (nat_lit 10) (@instOfNat (nat_lit 10))) (@List.nil @Int)))) @Bool.false 0 @Bool.true (@List.nil @Nat) (@List.nil @Nat) 0 @Bool.false) (@Array.mk @PySem.GenState (@List.nil @PySem.GenState)) (@PySem.Drawn.mk 0 0 0 0) (nat_lit 906) x1) (@Prod.mk @PySem.Code @PySem.Pos (@PySem.Code.body (@PySem.W.behindTheImports ((@PySem.W.OpenRow.toRowW (@PySem.W.OpenLaw.row @PySem.Challenge.rw_nt0537_01))).1) @Mine.env0) (@PySem.Pos.mk 76 0 97 15))))))))
theorem q359 : yes st359 = true := by k_qdec
theorem p359 : st359 := Eq.mpr PySem.W.Fast.te2585685402429936228 (by intro w; kernel_rfl)
noncomputable def st366 : Prop := (∀ (x0 : @PySem.World), (@Eq (∀ (x1 : @PySem.OsState), (@Option (@Prod @PySem.Flow (@Prod @PySem.W.SharedT (@Prod @PySem.Code @PySem.Pos))))) (fun (x1 : @PySem.OsState) => (@PySem.W.segRunT @PySem.treeTable ((@PySem.W.OpenRow.toRowW (@PySem.W.OpenLaw.row @PySem.Challenge.rw_nt0537_01))).1 x0 (nat_lit 11) (@Option.some @PySem.Value (@PySem.Value.ref 6)) (nat_lit 1) (nat_lit 27) (@PySem.W.SharedT.mk (@Mine.tr358 (@PySem.World.params x0)) (nat_lit 318) (@PySem.Life.mk (@List.nil @Nat) (@List.nil @Nat) (@List.nil @Nat) 0 (@List.nil (@Prod @Nat @Nat)) (@List.nil @Nat) @Bool.false (@List.toArray @Nat (@List.nil @Nat)) (@List.nil @Nat) 0 @Bool.false @Bool.false @Bool.false (@OfNat.ofNat @Int (nat_lit 0) (@instOfNat (nat_lit 0))) (@List.cons @Int (@OfNat.ofNat @Int (nat_lit 2000) (@instOfNat (nat_lit 2000))) (@List.cons @Int (@OfNat.ofNat @Int (nat_lit 10) (@instOfNat (nat_lit 10))) (@List.cons @Int (@OfNat.ofNat @Int (nat_lit 10) (@instOfNat (nat_lit 10))) (@List.nil @Int)))) @Bool.false 0 @Bool.true (@List.nil @Nat) (@List.nil @Nat) 0 @Bool.false) (@Array.mk @PySem.GenState (@List.nil @PySem.GenState)) (@PySem.Drawn.mk 0 0 0 0) (nat_lit 906) x1) (@PySem.W.piecesOf @Mine.sts359 @Mine.env0 (@PySem.Code.body (@PySem.W.behindTheImports ((@PySem.W.OpenRow.toRowW (@PySem.W.OpenLaw.row @PySem.Challenge.rw_nt0537_01))).1) @Mine.env0) (@PySem.Pos.mk 76 0 97 15) (@List.cons @PySem.Frame (@PySem.W.topFrame (@PySem.Pos.mk 0 0 0 0)) (@List.nil @PySem.Frame))))) (fun (x1 : @PySem.OsState) => (@Option.some (@Prod @PySem.Flow (@Prod @PySem.W.SharedT (@Prod @PySem.Code @PySem.Pos))) (@Prod.mk @PySem.Flow (@Prod @PySem.W.SharedT (@Prod @PySem.Code @PySem.Pos)) @PySem.Flow.next (@Prod.mk @PySem.W.SharedT (@Prod @PySem.Code @PySem.Pos) (@PySem.W.SharedT.mk (@Mine.tr365 (@PySem.World.params x0)) (nat_lit 323) (@PySem.Life.mk (@List.nil @Nat) (@List.nil @Nat) (@List.nil @Nat) 0 (@List.nil (@Prod @Nat @Nat)) (@List.nil @Nat) @Bool.false (@List.toArray @Nat (@List.nil @Nat)) (@List.nil @Nat) 0 @Bool.false @Bool.false @Bool.false (@OfNat.ofNat @Int (nat_lit 0) (@instOfNat (nat_lit 0))) (@List.cons @Int (@OfNat.ofNat @Int (nat_lit 2000) (@instOfNat (nat_lit 2000))) (@List.cons @Int (@OfNat.ofNat @Int (nat_lit 10) (@instOfNat (nat_lit 10))) (@List.cons @Int (@OfNat.ofNat @Int (nat_lit 10) (@instOfNat (nat_lit 10))) (@List.nil @Int)))) @Bool.false 0 @Bool.true (@List.nil @Nat) (@List.nil @Nat) 0 @Bool.false) (@Array.mk @PySem.GenState (@List.nil @PySem.GenState)) (@PySem.Drawn.mk 0 0 0 0) (nat_lit 912) x1) (@Prod.mk @PySem.Code @PySem.Pos (@PySem.Code.body (@PySem.W.behindTheImports ((@PySem.W.OpenRow.toRowW (@PySem.W.OpenLaw.row @PySem.Challenge.rw_nt0537_01))).1) @Mine.env0) (@PySem.Pos.mk 98 0 108 62))))))))
theorem q366 : yes st366 = true := by k_qdec
theorem p366 : st366 := Eq.mpr PySem.W.Fast.te7102303424957047182 (by intro w; kernel_rfl)
noncomputable def st368 : Prop := (∀ (x0 : @PySem.World), (@Eq (∀ (x1 : @PySem.OsState), (@Option @PySem.Shared)) (fun (x1 : @PySem.OsState) => (@PySem.W.topRun @PySem.treeTable ((@PySem.W.OpenRow.toRowW (@PySem.W.OpenLaw.row @PySem.Challenge.rw_nt0537_01))).1 x0 (nat_lit 11) (@Option.some @PySem.Value (@PySem.Value.ref 6)) (nat_lit 2) (@PySem.W.SharedT.abs (@PySem.W.SharedT.mk (@Mine.tr365 (@PySem.World.params x0)) (nat_lit 323) (@PySem.Life.mk (@List.nil @Nat) (@List.nil @Nat) (@List.nil @Nat) 0 (@List.nil (@Prod @Nat @Nat)) (@List.nil @Nat) @Bool.false (@List.toArray @Nat (@List.nil @Nat)) (@List.nil @Nat) 0 @Bool.false @Bool.false @Bool.false (@OfNat.ofNat @Int (nat_lit 0) (@instOfNat (nat_lit 0))) (@List.cons @Int (@OfNat.ofNat @Int (nat_lit 2000) (@instOfNat (nat_lit 2000))) (@List.cons @Int (@OfNat.ofNat @Int (nat_lit 10) (@instOfNat (nat_lit 10))) (@List.cons @Int (@OfNat.ofNat @Int (nat_lit 10) (@instOfNat (nat_lit 10))) (@List.nil @Int)))) @Bool.false 0 @Bool.true (@List.nil @Nat) (@List.nil @Nat) 0 @Bool.false) (@Array.mk @PySem.GenState (@List.nil @PySem.GenState)) (@PySem.Drawn.mk 0 0 0 0) (nat_lit 912) x1)) (@PySem.Thread.mk (@PySem.W.doneF @PySem.Flow.next) (@PySem.Code.body (@PySem.W.behindTheImports ((@PySem.W.OpenRow.toRowW (@PySem.W.OpenLaw.row @PySem.Challenge.rw_nt0537_01))).1) @Mine.env0) (@PySem.Pos.mk 98 0 108 62) (@List.cons @PySem.Frame (@PySem.W.topFrame (@PySem.Pos.mk 0 0 0 0)) (@List.nil @PySem.Frame))))) (fun (x1 : @PySem.OsState) => (@Option.some @PySem.Shared (@PySem.Shared.mk (@Mine.hp366 (@PySem.World.params x0)) (@Array.mk @PySem.GenState (@List.nil @PySem.GenState)) (@PySem.Drawn.mk 0 0 0 0) (nat_lit 912) x1)))))
theorem q368 : yes st368 = true := by k_qdec
theorem p368 : st368 := Eq.mpr PySem.W.Fast.te15711578143141548743 (by intro w; kernel_rfl)
noncomputable def st371 : Prop := (∀ (x0 : @PySem.World), (@Eq (@Prod @Bool (@Prod @Nat (@Option @PySem.Value))) (@Prod.mk @Bool (@Prod @Nat (@Option @PySem.Value)) (@Bool.and (@PySem.Heap.isNs (@PySem.W.boot_heap (@PySem.World.params x0)) @PySem.mainGlobals) (@BEq.beq @Nat (@instBEqOfDecidableEq @Nat @instDecidableEqNat) (@Array.size @PySem.GenState (@Array.mk @PySem.GenState (@List.nil @PySem.GenState))) 0)) (@Prod.mk @Nat (@Option @PySem.Value) (@Array.size @PySem.Obj (@PySem.Heap.objs (@PySem.W.boot_heap (@PySem.World.params x0)))) (@PySem.Heap.nsMap (@PySem.W.boot_heap (@PySem.World.params x0)) @PySem.mainGlobals (PySem.Str.ofString "__annotations__")))) (@Prod.mk @Bool (@Prod @Nat (@Option @PySem.Value)) @Bool.true (@Prod.mk @Nat (@Option @PySem.Value) (nat_lit 11) (@Option.some @PySem.Value (@PySem.Value.ref 6))))))
theorem q371 : yes st371 = true := by k_qdec
theorem p371 : st371 := Eq.mpr PySem.W.Fast.te136800314764834926 (by intro w; kernel_rfl)
noncomputable def st373 : Prop := (∀ (x0 : @PySem.World), (@Eq (∀ (x1 : @PySem.OsState), @Bool) (fun (x1 : @PySem.OsState) => (@Bool.and (@Bool.and (@Bool.and (@PySem.W.staticsOk (@PySem.importedModules (@PySem.Module.body (@PySem.Program.main ((@PySem.W.OpenRow.toRowW (@PySem.W.OpenLaw.row @PySem.Challenge.rw_nt0537_01))).1))) (@PySem.W.boot_heap (@PySem.World.params x0)) (@Mine.hp366 (@PySem.World.params x0))) (@PySem.W.namesBound ((@PySem.W.OpenRow.toRowW (@PySem.W.OpenLaw.row @PySem.Challenge.rw_nt0537_01))).1 (@Mine.hp366 (@PySem.World.params x0)))) (@PySem.W.gensDone (@PySem.Shared.mk (@Mine.hp366 (@PySem.World.params x0)) (@Array.mk @PySem.GenState (@List.nil @PySem.GenState)) (@PySem.Drawn.mk 0 0 0 0) (nat_lit 912) x1))) (@PySem.W.laidKept (@PySem.W.boot_heap (@PySem.World.params x0)) (@Mine.hp366 (@PySem.World.params x0))))) (fun (x1 : @PySem.OsState) => @Bool.true)))
theorem q373 : yes st373 = true := by k_qdec
theorem p373 : st373 := Eq.mpr PySem.W.Fast.te15528696289082255787 (by intro w; kernel_rfl)
noncomputable def st375 : Prop := (∀ (x0 : @PySem.World), (@Eq (∀ (x1 : @PySem.OsState), @PyProof.Rows.Seen) (fun (x1 : @PySem.OsState) => (@PyProof.Rows.seen (@List.map @PySem.DefRec @PySem.Str (fun (x2 : @PySem.DefRec) => (@PySem.DefRec.name x2)) (@PyProof.Rows.recsOf @Mine.vw)) (@PyProof.Rows.ownsOf @Mine.vw) (@List.nil @PySem.Str) (@PySem.Shared.mk (@PySem.Shared.heap (@PySem.Shared.mk (@Mine.hp366 (@PySem.World.params x0)) (@Array.mk @PySem.GenState (@List.nil @PySem.GenState)) (@PySem.Drawn.mk 0 0 0 0) (nat_lit 912) x1)) (@List.toArray @PySem.GenState (@List.nil @PySem.GenState)) (@PySem.Shared.drawn (@PySem.Shared.mk (@Mine.hp366 (@PySem.World.params x0)) (@Array.mk @PySem.GenState (@List.nil @PySem.GenState)) (@PySem.Drawn.mk 0 0 0 0) (nat_lit 912) x1)) (@PySem.Shared.toks (@PySem.Shared.mk (@Mine.hp366 (@PySem.World.params x0)) (@Array.mk @PySem.GenState (@List.nil @PySem.GenState)) (@PySem.Drawn.mk 0 0 0 0) (nat_lit 912) x1)) (@PySem.Shared.os (@PySem.Shared.mk (@Mine.hp366 (@PySem.World.params x0)) (@Array.mk @PySem.GenState (@List.nil @PySem.GenState)) (@PySem.Drawn.mk 0 0 0 0) (nat_lit 912) x1))))) (fun (x1 : @PySem.OsState) => (@PyProof.Rows.expectedOf @Mine.vw))))
theorem q375 : yes st375 = true := by k_qdec
theorem p375 : st375 := Eq.mpr PySem.W.Fast.te16335108096920355064 (by intro w; kernel_rfl)
noncomputable def st377 : Prop := (∀ (x0 : @PySem.World), (@Eq (∀ (x1 : @PySem.OsState), (@Prod (@Option @PySem.Str) (@List (@Prod @PySem.Str @PySem.Value)))) (fun (x1 : @PySem.OsState) => (@PySem.Heap.bltView (@PySem.Shared.heap (@PySem.Shared.mk (@Mine.hp366 (@PySem.World.params x0)) (@Array.mk @PySem.GenState (@List.nil @PySem.GenState)) (@PySem.Drawn.mk 0 0 0 0) (nat_lit 912) x1)))) (fun (x1 : @PySem.OsState) => @PySem.bltViewBooted)))
theorem q377 : yes st377 = true := by k_qdec
theorem p377 : st377 := Eq.mpr PySem.W.Fast.te17008059175489993816 (by intro w; kernel_rfl)
noncomputable def st379 : Prop := (∀ (x0 : @PySem.World), (@Eq (∀ (x1 : @PySem.OsState), @Bool) (fun (x1 : @PySem.OsState) => (@Bool.and (@Bool.and (@Bool.and (@Bool.and (@Bool.and (@Bool.and (@PySem.Heap.keysOk (@PySem.Shared.heap (@PySem.Shared.mk (@Mine.hp366 (@PySem.World.params x0)) (@Array.mk @PySem.GenState (@List.nil @PySem.GenState)) (@PySem.Drawn.mk 0 0 0 0) (nat_lit 912) x1)) (@PySem.W.looseW @Mine.vw (@List.cons @PySem.Str (PySem.Str.ofString "ORDER_8") (@List.nil @PySem.Str))) (@List.map @PySem.DefRec @PySem.Str (fun (x2 : @PySem.DefRec) => (@PySem.DefRec.name x2)) (@PyProof.Rows.recsOf @Mine.vw)) (@List.map (@Prod @PySem.Str @PySem.PyData) @PySem.Str (fun (x2 : (@Prod @PySem.Str @PySem.PyData)) => (@Prod.fst @PySem.Str @PySem.PyData x2)) (@PyProof.Rows.litsOf @Mine.vw)) (@List.map @PySem.ClsRec @PySem.Str (fun (x2 : @PySem.ClsRec) => (@PySem.ClsRec.name x2)) (@PyProof.Rows.clssOf @Mine.vw (@PySem.W.looseW @Mine.vw (@List.cons @PySem.Str (PySem.Str.ofString "ORDER_8") (@List.nil @PySem.Str)))))) (@PySem.Heap.accountedOkI (@PySem.Shared.heap (@PySem.Shared.mk (@Mine.hp366 (@PySem.World.params x0)) (@Array.mk @PySem.GenState (@List.nil @PySem.GenState)) (@PySem.Drawn.mk 0 0 0 0) (nat_lit 912) x1)) (@PySem.importedModules (@PySem.Module.body (@PySem.Program.main ((@PySem.W.OpenRow.toRowW (@PySem.W.OpenLaw.row @PySem.Challenge.rw_nt0537_01))).1))))) (@PySem.Heap.isNs (@PySem.Shared.heap (@PySem.Shared.mk (@Mine.hp366 (@PySem.World.params x0)) (@Array.mk @PySem.GenState (@List.nil @PySem.GenState)) (@PySem.Drawn.mk 0 0 0 0) (nat_lit 912) x1)) @PySem.mainGlobals)) (@PySem.Heap.isNs (@PySem.Shared.heap (@PySem.Shared.mk (@Mine.hp366 (@PySem.World.params x0)) (@Array.mk @PySem.GenState (@List.nil @PySem.GenState)) (@PySem.Drawn.mk 0 0 0 0) (nat_lit 912) x1)) @PySem.builtinsNs)) (@PyProof.Rows.tablesOk @Mine.vw (@PySem.Shared.heap (@PySem.Shared.mk (@Mine.hp366 (@PySem.World.params x0)) (@Array.mk @PySem.GenState (@List.nil @PySem.GenState)) (@PySem.Drawn.mk 0 0 0 0) (nat_lit 912) x1)))) ((fun (x2 : @PySem.Shared) => (@Bool.and (@PySem.W.xlAt @Mine.vw (@List.cons (@Prod @PySem.Str @PySem.W.WData) (@Prod.mk @PySem.Str @PySem.W.WData (PySem.Str.ofString "ORDER_8") (@PySem.W.WData.tuple (@List.cons @PySem.W.WData (@PySem.W.WData.int (@OfNat.ofNat @Int (nat_lit 0) (@instOfNat (nat_lit 0)))) (@List.cons @PySem.W.WData (@PySem.W.WData.int (@OfNat.ofNat @Int (nat_lit 1) (@instOfNat (nat_lit 1)))) (@List.cons @PySem.W.WData (@PySem.W.WData.int (@OfNat.ofNat @Int (nat_lit 8) (@instOfNat (nat_lit 8)))) (@List.cons @PySem.W.WData (@PySem.W.WData.int (@OfNat.ofNat @Int (nat_lit 16) (@instOfNat (nat_lit 16)))) (@List.cons @PySem.W.WData (@PySem.W.WData.int (@OfNat.ofNat @Int (nat_lit 9) (@instOfNat (nat_lit 9)))) (@List.cons @PySem.W.WData (@PySem.W.WData.int (@OfNat.ofNat @Int (nat_lit 2) (@instOfNat (nat_lit 2)))) (@List.cons @PySem.W.WData (@PySem.W.WData.int (@OfNat.ofNat @Int (nat_lit 3) (@instOfNat (nat_lit 3)))) (@List.cons @PySem.W.WData (@PySem.W.WData.int (@OfNat.ofNat @Int (nat_lit 10) (@instOfNat (nat_lit 10)))) (@List.cons @PySem.W.WData (@PySem.W.WData.int (@OfNat.ofNat @Int (nat_lit 17) (@instOfNat (nat_lit 17)))) (@List.cons @PySem.W.WData (@PySem.W.WData.int (@OfNat.ofNat @Int (nat_lit 24) (@instOfNat (nat_lit 24)))) (@List.cons @PySem.W.WData (@PySem.W.WData.int (@OfNat.ofNat @Int (nat_lit 32) (@instOfNat (nat_lit 32)))) (@List.cons @PySem.W.WData (@PySem.W.WData.int (@OfNat.ofNat @Int (nat_lit 25) (@instOfNat (nat_lit 25)))) (@List.cons @PySem.W.WData (@PySem.W.WData.int (@OfNat.ofNat @Int (nat_lit 18) (@instOfNat (nat_lit 18)))) (@List.cons @PySem.W.WData (@PySem.W.WData.int (@OfNat.ofNat @Int (nat_lit 11) (@instOfNat (nat_lit 11)))) (@List.cons @PySem.W.WData (@PySem.W.WData.int (@OfNat.ofNat @Int (nat_lit 4) (@instOfNat (nat_lit 4)))) (@List.cons @PySem.W.WData (@PySem.W.WData.int (@OfNat.ofNat @Int (nat_lit 5) (@instOfNat (nat_lit 5)))) (@List.cons @PySem.W.WData (@PySem.W.WData.int (@OfNat.ofNat @Int (nat_lit 12) (@instOfNat (nat_lit 12)))) (@List.cons @PySem.W.WData (@PySem.W.WData.int (@OfNat.ofNat @Int (nat_lit 19) (@instOfNat (nat_lit 19)))) (@List.cons @PySem.W.WData (@PySem.W.WData.int (@OfNat.ofNat @Int (nat_lit 26) (@instOfNat (nat_lit 26)))) (@List.cons @PySem.W.WData (@PySem.W.WData.int (@OfNat.ofNat @Int (nat_lit 33) (@instOfNat (nat_lit 33)))) (@List.cons @PySem.W.WData (@PySem.W.WData.int (@OfNat.ofNat @Int (nat_lit 40) (@instOfNat (nat_lit 40)))) (@List.cons @PySem.W.WData (@PySem.W.WData.int (@OfNat.ofNat @Int (nat_lit 48) (@instOfNat (nat_lit 48)))) (@List.cons @PySem.W.WData (@PySem.W.WData.int (@OfNat.ofNat @Int (nat_lit 41) (@instOfNat (nat_lit 41)))) (@List.cons @PySem.W.WData (@PySem.W.WData.int (@OfNat.ofNat @Int (nat_lit 34) (@instOfNat (nat_lit 34)))) (@List.cons @PySem.W.WData (@PySem.W.WData.int (@OfNat.ofNat @Int (nat_lit 27) (@instOfNat (nat_lit 27)))) (@List.cons @PySem.W.WData (@PySem.W.WData.int (@OfNat.ofNat @Int (nat_lit 20) (@instOfNat (nat_lit 20)))) (@List.cons @PySem.W.WData (@PySem.W.WData.int (@OfNat.ofNat @Int (nat_lit 13) (@instOfNat (nat_lit 13)))) (@List.cons @PySem.W.WData (@PySem.W.WData.int (@OfNat.ofNat @Int (nat_lit 6) (@instOfNat (nat_lit 6)))) (@List.cons @PySem.W.WData (@PySem.W.WData.int (@OfNat.ofNat @Int (nat_lit 7) (@instOfNat (nat_lit 7)))) (@List.cons @PySem.W.WData (@PySem.W.WData.int (@OfNat.ofNat @Int (nat_lit 14) (@instOfNat (nat_lit 14)))) (@List.cons @PySem.W.WData (@PySem.W.WData.int (@OfNat.ofNat @Int (nat_lit 21) (@instOfNat (nat_lit 21)))) (@List.cons @PySem.W.WData (@PySem.W.WData.int (@OfNat.ofNat @Int (nat_lit 28) (@instOfNat (nat_lit 28)))) (@List.cons @PySem.W.WData (@PySem.W.WData.int (@OfNat.ofNat @Int (nat_lit 35) (@instOfNat (nat_lit 35)))) (@List.cons @PySem.W.WData (@PySem.W.WData.int (@OfNat.ofNat @Int (nat_lit 42) (@instOfNat (nat_lit 42)))) (@List.cons @PySem.W.WData (@PySem.W.WData.int (@OfNat.ofNat @Int (nat_lit 49) (@instOfNat (nat_lit 49)))) (@List.cons @PySem.W.WData (@PySem.W.WData.int (@OfNat.ofNat @Int (nat_lit 56) (@instOfNat (nat_lit 56)))) (@List.cons @PySem.W.WData (@PySem.W.WData.int (@OfNat.ofNat @Int (nat_lit 57) (@instOfNat (nat_lit 57)))) (@List.cons @PySem.W.WData (@PySem.W.WData.int (@OfNat.ofNat @Int (nat_lit 50) (@instOfNat (nat_lit 50)))) (@List.cons @PySem.W.WData (@PySem.W.WData.int (@OfNat.ofNat @Int (nat_lit 43) (@instOfNat (nat_lit 43)))) (@List.cons @PySem.W.WData (@PySem.W.WData.int (@OfNat.ofNat @Int (nat_lit 36) (@instOfNat (nat_lit 36)))) (@List.cons @PySem.W.WData (@PySem.W.WData.int (@OfNat.ofNat @Int (nat_lit 29) (@instOfNat (nat_lit 29)))) (@List.cons @PySem.W.WData (@PySem.W.WData.int (@OfNat.ofNat @Int (nat_lit 22) (@instOfNat (nat_lit 22)))) (@List.cons @PySem.W.WData (@PySem.W.WData.int (@OfNat.ofNat @Int (nat_lit 15) (@instOfNat (nat_lit 15)))) (@List.cons @PySem.W.WData (@PySem.W.WData.int (@OfNat.ofNat @Int (nat_lit 23) (@instOfNat (nat_lit 23)))) (@List.cons @PySem.W.WData (@PySem.W.WData.int (@OfNat.ofNat @Int (nat_lit 30) (@instOfNat (nat_lit 30)))) (@List.cons @PySem.W.WData (@PySem.W.WData.int (@OfNat.ofNat @Int (nat_lit 37) (@instOfNat (nat_lit 37)))) (@List.cons @PySem.W.WData (@PySem.W.WData.int (@OfNat.ofNat @Int (nat_lit 44) (@instOfNat (nat_lit 44)))) (@List.cons @PySem.W.WData (@PySem.W.WData.int (@OfNat.ofNat @Int (nat_lit 51) (@instOfNat (nat_lit 51)))) (@List.cons @PySem.W.WData (@PySem.W.WData.int (@OfNat.ofNat @Int (nat_lit 58) (@instOfNat (nat_lit 58)))) (@List.cons @PySem.W.WData (@PySem.W.WData.int (@OfNat.ofNat @Int (nat_lit 59) (@instOfNat (nat_lit 59)))) (@List.cons @PySem.W.WData (@PySem.W.WData.int (@OfNat.ofNat @Int (nat_lit 52) (@instOfNat (nat_lit 52)))) (@List.cons @PySem.W.WData (@PySem.W.WData.int (@OfNat.ofNat @Int (nat_lit 45) (@instOfNat (nat_lit 45)))) (@List.cons @PySem.W.WData (@PySem.W.WData.int (@OfNat.ofNat @Int (nat_lit 38) (@instOfNat (nat_lit 38)))) (@List.cons @PySem.W.WData (@PySem.W.WData.int (@OfNat.ofNat @Int (nat_lit 31) (@instOfNat (nat_lit 31)))) (@List.cons @PySem.W.WData (@PySem.W.WData.int (@OfNat.ofNat @Int (nat_lit 39) (@instOfNat (nat_lit 39)))) (@List.cons @PySem.W.WData (@PySem.W.WData.int (@OfNat.ofNat @Int (nat_lit 46) (@instOfNat (nat_lit 46)))) (@List.cons @PySem.W.WData (@PySem.W.WData.int (@OfNat.ofNat @Int (nat_lit 53) (@instOfNat (nat_lit 53)))) (@List.cons @PySem.W.WData (@PySem.W.WData.int (@OfNat.ofNat @Int (nat_lit 60) (@instOfNat (nat_lit 60)))) (@List.cons @PySem.W.WData (@PySem.W.WData.int (@OfNat.ofNat @Int (nat_lit 61) (@instOfNat (nat_lit 61)))) (@List.cons @PySem.W.WData (@PySem.W.WData.int (@OfNat.ofNat @Int (nat_lit 54) (@instOfNat (nat_lit 54)))) (@List.cons @PySem.W.WData (@PySem.W.WData.int (@OfNat.ofNat @Int (nat_lit 47) (@instOfNat (nat_lit 47)))) (@List.cons @PySem.W.WData (@PySem.W.WData.int (@OfNat.ofNat @Int (nat_lit 55) (@instOfNat (nat_lit 55)))) (@List.cons @PySem.W.WData (@PySem.W.WData.int (@OfNat.ofNat @Int (nat_lit 62) (@instOfNat (nat_lit 62)))) (@List.cons @PySem.W.WData (@PySem.W.WData.int (@OfNat.ofNat @Int (nat_lit 63) (@instOfNat (nat_lit 63)))) (@List.nil @PySem.W.WData))))))))))))))))))))))))))))))))))))))))))))))))))))))))))))))))))) (@List.nil (@Prod @PySem.Str @PySem.W.WData))) x2) (@PySem.W.recOk (@PySem.W.RowW.records (@PySem.W.OpenRow.toRowW (@PySem.W.OpenLaw.row @PySem.Challenge.rw_nt0537_01))) x2))) (@PySem.Shared.mk (@Mine.hp366 (@PySem.World.params x0)) (@Array.mk @PySem.GenState (@List.nil @PySem.GenState)) (@PySem.Drawn.mk 0 0 0 0) (nat_lit 912) x1))) (@ite @Bool (@Eq @Bool @Bool.true @Bool.true) (@instDecidableEqBool @Bool.true @Bool.true) (@BEq.beq @Nat (@instBEqOfDecidableEq @Nat @instDecidableEqNat) (@Array.size @PySem.GenState (@PySem.Shared.gens (@PySem.Shared.mk (@Mine.hp366 (@PySem.World.params x0)) (@Array.mk @PySem.GenState (@List.nil @PySem.GenState)) (@PySem.Drawn.mk 0 0 0 0) (nat_lit 912) x1))) 0) (@Bool.not (@PySem.leftWithCleanup (@PySem.Shared.gens (@PySem.Shared.mk (@Mine.hp366 (@PySem.World.params x0)) (@Array.mk @PySem.GenState (@List.nil @PySem.GenState)) (@PySem.Drawn.mk 0 0 0 0) (nat_lit 912) x1))))))) (fun (x1 : @PySem.OsState) => @Bool.true)))
theorem q379 : yes st379 = true := by k_qdec
theorem p379 : st379 := Eq.mpr PySem.W.Fast.te3883915231298613331 (by intro w; kernel_rfl)
noncomputable def st381 : Prop := (∀ (x0 : @PySem.World), (@Eq (∀ (x1 : @PySem.OsState), @Bool) (fun (x1 : @PySem.OsState) => (@PyProof.Rows.tabsOk @Mine.vw (@PySem.Shared.mk (@Mine.hp366 (@PySem.World.params x0)) (@Array.mk @PySem.GenState (@List.nil @PySem.GenState)) (@PySem.Drawn.mk 0 0 0 0) (nat_lit 912) x1))) (fun (x1 : @PySem.OsState) => @Bool.true)))
theorem q381 : yes st381 = true := by k_qdec
theorem p381 : st381 := Eq.mpr PySem.W.Fast.te13493725499673366921 (by intro w; kernel_rfl)
noncomputable def st383 : Prop := (∀ (x0 : @PySem.World), (@Eq (∀ (x1 : @PySem.OsState), (@Prod (@List (@Option @PySem.FnShape)) @Bool)) (fun (x1 : @PySem.OsState) => (@PySem.pinSeenD @Mine.vw (@PyProof.Rows.drecsOf @Mine.vw) (@PySem.Shared.mk (@Mine.hp366 (@PySem.World.params x0)) (@Array.mk @PySem.GenState (@List.nil @PySem.GenState)) (@PySem.Drawn.mk 0 0 0 0) (nat_lit 912) x1))) (fun (x1 : @PySem.OsState) => (@PySem.pinGoodD (@PyProof.Rows.drecsOf @Mine.vw)))))
theorem q383 : yes st383 = true := by k_qdec
theorem p383 : st383 := Eq.mpr PySem.W.Fast.te8714142078514507702 (by intro w; kernel_rfl)
noncomputable def st385 : Prop := (∀ (x0 : @PySem.World), (@Eq (∀ (x1 : @PySem.OsState), (@List (@Option @PyProof.Rows.PlainShape))) (fun (x1 : @PySem.OsState) => (@PyProof.Rows.plainSeenE @Mine.vw (@PySem.W.looseW @Mine.vw (@List.cons @PySem.Str (PySem.Str.ofString "ORDER_8") (@List.nil @PySem.Str))) (@PySem.Shared.mk (@Mine.hp366 (@PySem.World.params x0)) (@Array.mk @PySem.GenState (@List.nil @PySem.GenState)) (@PySem.Drawn.mk 0 0 0 0) (nat_lit 912) x1))) (fun (x1 : @PySem.OsState) => (@PyProof.Rows.plainGoodE @Mine.vw (@PySem.W.looseW @Mine.vw (@List.cons @PySem.Str (PySem.Str.ofString "ORDER_8") (@List.nil @PySem.Str)))))))
theorem q385 : yes st385 = true := by k_qdec
theorem p385 : st385 := Eq.mpr PySem.W.Fast.te16036369846338508137 (by intro w; kernel_rfl)
noncomputable def st387 : Prop := (∀ (x0 : @PySem.World), (@Eq (∀ (x1 : @PySem.OsState), (@List (@Option (@Prod @PyProof.Rows.PlainShape @Bool)))) (fun (x1 : @PySem.OsState) => (@PyProof.Rows.plainSeenD @Mine.vw (@List.cons @PySem.Str (PySem.Str.ofString "ORDER_8") (@List.nil @PySem.Str)) (@PySem.Shared.mk (@Mine.hp366 (@PySem.World.params x0)) (@Array.mk @PySem.GenState (@List.nil @PySem.GenState)) (@PySem.Drawn.mk 0 0 0 0) (nat_lit 912) x1))) (fun (x1 : @PySem.OsState) => (@PyProof.Rows.plainGoodD @Mine.vw (@List.cons @PySem.Str (PySem.Str.ofString "ORDER_8") (@List.nil @PySem.Str))))))
theorem q387 : yes st387 = true := by k_qdec
theorem p387 : st387 := Eq.mpr PySem.W.Fast.te17595019841398897752 (by intro w; kernel_rfl)
noncomputable def st389 : Prop := (∀ (x0 : @PySem.World), (@Eq (∀ (x1 : @PySem.OsState), (@Prod (@List (@Option @PySem.FnShape)) @Bool)) (fun (x1 : @PySem.OsState) => (@PySem.W.wideSeen @Mine.vw (@PySem.Shared.mk (@Mine.hp366 (@PySem.World.params x0)) (@Array.mk @PySem.GenState (@List.nil @PySem.GenState)) (@PySem.Drawn.mk 0 0 0 0) (nat_lit 912) x1))) (fun (x1 : @PySem.OsState) => (@PySem.W.wideGood @Mine.vw))))
theorem q389 : yes st389 = true := by k_qdec
theorem p389 : st389 := Eq.mpr PySem.W.Fast.te4578871411122985558 (by intro w; kernel_rfl)
noncomputable def st391 : Prop := (∀ (x0 : @PySem.World), (@Eq (∀ (x1 : @PySem.OsState), (@List (@Prod (@Option (@Prod (@List (@Option @PySem.FnShape)) @Bool)) (@Option (@Prod @PyProof.Rows.PlainShape @Bool))))) (fun (x1 : @PySem.OsState) => (@PySem.W.clsSeenW @Mine.vw (@List.cons @PySem.Str (PySem.Str.ofString "ORDER_8") (@List.nil @PySem.Str)) (@PySem.Shared.mk (@Mine.hp366 (@PySem.World.params x0)) (@Array.mk @PySem.GenState (@List.nil @PySem.GenState)) (@PySem.Drawn.mk 0 0 0 0) (nat_lit 912) x1))) (fun (x1 : @PySem.OsState) => (@PySem.W.clsGoodW @Mine.vw (@List.cons @PySem.Str (PySem.Str.ofString "ORDER_8") (@List.nil @PySem.Str))))))
theorem q391 : yes st391 = true := by k_qdec
theorem p391 : st391 := Eq.mpr PySem.W.Fast.te9926276190541303546 (by intro w; kernel_rfl)
theorem p401 : ∀ w : PySem.World, (fun os : PySem.OsState => hkH.obs (PySem.Shared.mk (hp366 w.params) (Array.mk []) (PySem.Drawn.mk 0 0 0 0) (nat_lit 912) os)) = fun _ => hkH.val w := fun w => by kernel_rfl
theorem p280 : (∀ (x0 : @PySem.World), (@Eq (∀ (x1 : @PySem.OsState), (@Option (@Prod @PySem.Flow (@Prod @PySem.W.SharedT (@Prod @PySem.Code @PySem.Pos))))) (fun (x1 : @PySem.OsState) => (@PySem.W.segRunT @PySem.treeTable ((@PySem.W.OpenRow.toRowW (@PySem.W.OpenLaw.row @PySem.Challenge.rw_nt0537_01))).1 x0 (nat_lit 11) (@Option.some @PySem.Value (@PySem.Value.ref 6)) (nat_lit 1) (nat_lit 8708) (@PySem.W.SharedT.mk (@Mine.tr57 (@PySem.World.params x0)) (nat_lit 22) (@PySem.Life.mk (@List.nil @Nat) (@List.nil @Nat) (@List.nil @Nat) 0 (@List.nil (@Prod @Nat @Nat)) (@List.nil @Nat) @Bool.false (@List.toArray @Nat (@List.nil @Nat)) (@List.nil @Nat) 0 @Bool.false @Bool.false @Bool.false (@OfNat.ofNat @Int (nat_lit 0) (@instOfNat (nat_lit 0))) (@List.cons @Int (@OfNat.ofNat @Int (nat_lit 2000) (@instOfNat (nat_lit 2000))) (@List.cons @Int (@OfNat.ofNat @Int (nat_lit 10) (@instOfNat (nat_lit 10))) (@List.cons @Int (@OfNat.ofNat @Int (nat_lit 10) (@instOfNat (nat_lit 10))) (@List.nil @Int)))) @Bool.false 0 @Bool.true (@List.nil @Nat) (@List.nil @Nat) 0 @Bool.false) (@Array.mk @PySem.GenState (@List.nil @PySem.GenState)) (@PySem.Drawn.mk 0 0 0 0) (nat_lit 202) x1) (@PySem.W.piecesOf @Mine.sts58 @Mine.env0 (@PySem.Code.body (@PySem.W.behindTheImports ((@PySem.W.OpenRow.toRowW (@PySem.W.OpenLaw.row @PySem.Challenge.rw_nt0537_01))).1) @Mine.env0) (@PySem.Pos.mk 2 0 10 23) (@List.cons @PySem.Frame (@PySem.W.topFrame (@PySem.Pos.mk 0 0 0 0)) (@List.nil @PySem.Frame))))) (fun (x1 : @PySem.OsState) => (@Option.some (@Prod @PySem.Flow (@Prod @PySem.W.SharedT (@Prod @PySem.Code @PySem.Pos))) (@Prod.mk @PySem.Flow (@Prod @PySem.W.SharedT (@Prod @PySem.Code @PySem.Pos)) @PySem.Flow.next (@Prod.mk @PySem.W.SharedT (@Prod @PySem.Code @PySem.Pos) (@PySem.W.SharedT.mk (@Mine.tr276 (@PySem.World.params x0)) (nat_lit 240) (@PySem.Life.mk (@List.nil @Nat) (@List.nil @Nat) (@List.nil @Nat) 0 (@List.nil (@Prod @Nat @Nat)) (@List.nil @Nat) @Bool.false (@List.toArray @Nat (@List.nil @Nat)) (@List.nil @Nat) 0 @Bool.false @Bool.false @Bool.false (@OfNat.ofNat @Int (nat_lit 0) (@instOfNat (nat_lit 0))) (@List.cons @Int (@OfNat.ofNat @Int (nat_lit 2000) (@instOfNat (nat_lit 2000))) (@List.cons @Int (@OfNat.ofNat @Int (nat_lit 10) (@instOfNat (nat_lit 10))) (@List.cons @Int (@OfNat.ofNat @Int (nat_lit 10) (@instOfNat (nat_lit 10))) (@List.nil @Int)))) @Bool.false 0 @Bool.true (@List.nil @Nat) (@List.nil @Nat) 0 @Bool.false) (@Array.mk @PySem.GenState (@List.nil @PySem.GenState)) (@PySem.Drawn.mk 0 0 0 0) (nat_lit 795) x1) (@Prod.mk @PySem.Code @PySem.Pos (@PySem.Code.body (@PySem.W.behindTheImports ((@PySem.W.OpenRow.toRowW (@PySem.W.OpenLaw.row @PySem.Challenge.rw_nt0537_01))).1) @Mine.env0) (@PySem.Pos.mk 11 0 11 7)))))))) := PySem.W.byRow2 "special-get-raises" p277 p279
theorem run_all : (∀ (x0 : @PySem.World), (∀ (x1 : @PySem.OsState), (@Eq (@Option @PySem.Shared) (@PySem.W.topRun @PySem.treeTable ((@PySem.W.OpenRow.toRowW (@PySem.W.OpenLaw.row @PySem.Challenge.rw_nt0537_01))).1 x0 (nat_lit 11) (@Option.some @PySem.Value (@PySem.Value.ref 6)) (@Nat.add (nat_lit 12) (@Nat.add (nat_lit 1) (@Nat.add (nat_lit 45) (@Nat.add (nat_lit 8708) (@Nat.add (nat_lit 377) (@Nat.add (nat_lit 27) (nat_lit 2))))))) (@PySem.Shared.mk (@PySem.W.boot_heap (@PySem.World.params x0)) (@Array.mk @PySem.GenState (@List.nil @PySem.GenState)) @PySem.W.boot_drawn @PySem.W.boot_toks x1) (@PySem.W.topStub ((@PySem.W.OpenRow.toRowW (@PySem.W.OpenLaw.row @PySem.Challenge.rw_nt0537_01))).1)) (@Option.some @PySem.Shared (@PySem.Shared.mk (@Mine.hp366 (@PySem.World.params x0)) (@Array.mk @PySem.GenState (@List.nil @PySem.GenState)) (@PySem.Drawn.mk 0 0 0 0) (nat_lit 912) x1))))) := fun w os =>
  PySem.W.go_top (congrFun (p47 w) os)
    (PySem.W.piece_block (congrFun (p49 w) os)
      (PySem.W.piece_app (PySem.W.segRun_of (congrFun (p58 w) os))
        (PySem.W.piece_app (PySem.W.segRun_of (congrFun (p280 w) os))
          (PySem.W.piece_app (PySem.W.segRun_of (congrFun (p359 w) os))
            (PySem.W.piece_app (PySem.W.segRun_of (congrFun (p366 w) os)) (congrFun (p368 w) os))))))
noncomputable abbrev lv : List (PySem.Str × PySem.W.WData) := [(PySem.Str.ofString "ORDER_8", PySem.W.WData.tuple [PySem.W.WData.int 0, PySem.W.WData.int 1, PySem.W.WData.int 8, PySem.W.WData.int 16, PySem.W.WData.int 9, PySem.W.WData.int 2, PySem.W.WData.int 3, PySem.W.WData.int 10, PySem.W.WData.int 17, PySem.W.WData.int 24, PySem.W.WData.int 32, PySem.W.WData.int 25, PySem.W.WData.int 18, PySem.W.WData.int 11, PySem.W.WData.int 4, PySem.W.WData.int 5, PySem.W.WData.int 12, PySem.W.WData.int 19, PySem.W.WData.int 26, PySem.W.WData.int 33, PySem.W.WData.int 40, PySem.W.WData.int 48, PySem.W.WData.int 41, PySem.W.WData.int 34, PySem.W.WData.int 27, PySem.W.WData.int 20, PySem.W.WData.int 13, PySem.W.WData.int 6, PySem.W.WData.int 7, PySem.W.WData.int 14, PySem.W.WData.int 21, PySem.W.WData.int 28, PySem.W.WData.int 35, PySem.W.WData.int 42, PySem.W.WData.int 49, PySem.W.WData.int 56, PySem.W.WData.int 57, PySem.W.WData.int 50, PySem.W.WData.int 43, PySem.W.WData.int 36, PySem.W.WData.int 29, PySem.W.WData.int 22, PySem.W.WData.int 15, PySem.W.WData.int 23, PySem.W.WData.int 30, PySem.W.WData.int 37, PySem.W.WData.int 44, PySem.W.WData.int 51, PySem.W.WData.int 58, PySem.W.WData.int 59, PySem.W.WData.int 52, PySem.W.WData.int 45, PySem.W.WData.int 38, PySem.W.WData.int 31, PySem.W.WData.int 39, PySem.W.WData.int 46, PySem.W.WData.int 53, PySem.W.WData.int 60, PySem.W.WData.int 61, PySem.W.WData.int 54, PySem.W.WData.int 47, PySem.W.WData.int 55, PySem.W.WData.int 62, PySem.W.WData.int 63])]
noncomputable abbrev xT : PySem.Shared → Bool := fun s => PySem.W.xlAt vw lv s && PySem.W.recOk (PySem.W.RowW.records (PySem.W.OpenRow.toRowW (PySem.W.OpenLaw.row PySem.Challenge.rw_nt0537_01))) s
theorem hl : PySem.W.LeftO (PySem.W.OpenRow.toRowW (PySem.W.OpenLaw.row PySem.Challenge.rw_nt0537_01)).prog vw [PySem.Str.ofString "ORDER_8"] xT hkH.obs hkH.val 18432 :=
  PySem.W.LeftO.of_pieces (PySem.W.boot_open rfl (by decide) (fun _ => rfl)) p371 run_all (by decide) fun w => funext fun os =>
    PySem.W.looks_pair (congrFun (p373 w) os) (PySem.W.looks_pair (PySem.W.looks_pair (congrFun (p375 w) os) (PySem.W.looks_pair (congrFun (p377 w) os) (PySem.W.looks_pair (congrFun (p379 w) os) (PySem.W.looks_pair (congrFun (p381 w) os) (PySem.W.looks_pair (congrFun (p383 w) os) (PySem.W.looks_pair (congrFun (p385 w) os) (PySem.W.looks_pair (congrFun (p387 w) os) (PySem.W.looks_pair (congrFun (p389 w) os) (congrFun (p391 w) os))))))))) (congrFun (p401 w) os))
end Mine
section
open PySem PySem.W PyProof.Rows
namespace Mine
abbrev Lst (vs : List Value) (n : Nat) : Obj := W.listOf vs.toArray n
abbrev Tup (vs : List Value) (n : Nat) : Obj := { cls := .type "tuple", data := .seq vs.toArray n }
/-- all entries of a ledger lie elsewhere -/
def AllOff (l : Addr) (news : List (Addr × Obj)) : Prop := ∀ e ∈ news, e.1 ≠ l

/-- the walk stops here -/
def Stop (P : Prop) : Prop := P
theorem stop {P : Prop} (h : Stop P) : P := h

section
variable {prog : Program} {w : World} {A : Around} {E : Value → Shared → Prop} {s : Shared} {env : Env} {h₀ : Heap} {x : Str} {body : List Stmt} {Q : Flow → Shared → Prop}

/-- a loop over a tuple of ints that the ledger holds, by an invariant -/
theorem iter_tup {l : Addr} {vs : List Value} {ns : List Int} {nn : Nat} {m₀ : Str → Option Value} {news : List (Addr × Obj)} (J : Nat → (Str → Option Value) → List (Addr × Obj) → Prop)
    (hh : A.handled = none) (hl : (l, Tup vs nn) ∈ news) (hi : IntsAre vs ns) (F : Fr h₀ env.locals s.heap m₀) (N : News h₀ env.locals s.heap news) (hj : J 0 m₀ news)
    (turn : ∀ i n t m₁ news₁ h tk own, ns[i]? = some n → news₁.map (·.1) = news.map (·.1) → OwnOff own (news.map (·.1)) → (l, Tup vs nn) ∈ news₁ → J i m₁ news₁ → Fr h₀ env.locals h (fun y => if y = x then some (.int n t) else m₁ y) → News h₀ env.locals h (news₁ ++ own) →
      wpAny (model prog w) A (execs body env) (InvPostN h₀ env.locals (fun m' nx => (l, Tup vs nn) ∈ nx ∧ J (i + 1) m' nx) own (news.map (·.1)) { s with heap := h, toks := tk } Q) E { s with heap := h, toks := tk })
    (done : ∀ m₁ news₁ h tk, (l, Tup vs nn) ∈ news₁ → J ns.length m₁ news₁ → Fr h₀ env.locals h m₁ → News h₀ env.locals h news₁ → Q .next { s with heap := h, toks := tk }) :
    wpAny (model prog w) A (pyIter (.ref l)) (fun it s₂ => LoopAtV prog w A h₀ env x body Q E it s₂) E s := by
  have hol : s.heap.get? l = some (Tup vs nn) := (N _ hl).1
  have hls : s.heap.IsTuple l vs.toArray := ⟨_, hol, rfl, nn, rfl⟩
  have hne : l ≠ s.heap.objs.size := Nat.ne_of_lt (Heap.lt_size hol)
  refine wpAny_pyIter_tuple hls ?_
  have W := Walks.tuple (prog := prog) (w := w) hh s.heap.objs.size l hne vs.toArray
  have hlen : vs.toArray.size = ns.length := by simp [hi.length]
  rw [hlen] at W
  refine ⟨_, _, _, ns.length, _, _, m₀, news, (fun i m nx => nx.map (·.1) = news.map (·.1) ∧ (l, Tup vs nn) ∈ nx ∧ J i m nx), rfl, W, ?_, ?_, ?_, ⟨⟨_, Heap.get?_push_size _ rfl, rfl, rfl⟩, hls.push _⟩, F.push _, (fun p hp => ⟨Heap.get?_push_of_some _ (N p hp).1, (N p hp).2⟩), ⟨rfl, hl, hj⟩, ?_, ?_⟩
  · intro hm
    rcases List.mem_cons.mp hm with e | hm
    · exact absurd F.ns.lt (e ▸ Nat.lt_irrefl _)
    · exact (N _ hl).2.1 ((List.mem_singleton.mp hm).symm)
  · intro b hb
    rw [List.mem_singleton.mp hb]
    exact next_is_new F
  · intro p hp hI
    exact absurd (Heap.lt_size (N p hp).1) ((List.mem_singleton.mp hI) ▸ Nat.lt_irrefl _)
  · rintro i v m₁ news₁ s₁ own ⟨hh', tk', rfl⟩ hin hP ⟨hadr, hl₁, hJ⟩ hoff hown hget hfp _ F₁ N₁
    have hsep : OwnOff (own.filter fun p => decide (p.1 = s.heap.objs.size)) (news.map (·.1)) := by
      intro p hp b hb e
      obtain ⟨q, hq, rfl⟩ := List.mem_map.mp hb
      have h1 : p.1 = s.heap.objs.size := by simpa using (List.mem_filter.mp hp).2
      exact absurd (Heap.lt_size (N q hq).1) (by rw [← e, h1]; exact Nat.lt_irrefl _)
    have hlt' : i < ns.length := hin
    obtain ⟨t, hx⟩ := hi.get i ns[i] (by simp [hlt'])
    have hv : v = .int ns[i] t := by
      have hP' : vs[i]? = some v := by simpa using hP
      rw [hx] at hP'; exact (Option.some.inj hP').symm
    subst hv
    have N₂ : News h₀ env.locals hh' (news₁ ++ own.filter fun p => decide (p.1 = s.heap.objs.size)) := fun p hp => N₁ p ((List.mem_append.mp hp).elim (fun h => List.mem_append.mpr (.inr h)) fun h => List.mem_append.mpr (.inl ((List.mem_filter.mp h).1)))
    have hlo : hh'.get? l = some (Tup vs nn) := (N₁ _ (List.mem_append.mpr (.inr hl₁))).1
    refine wpAny_mono (turn i ns[i] t m₁ news₁ hh' tk' _ (by simp [hlt']) hadr hsep hl₁ hJ F₁ N₂) (fun f s₂ p => ?_) fun _ _ e => e
    have fin : InvEndN h₀ env.locals (fun m' nx => (l, Tup vs nn) ∈ nx ∧ J (i + 1) m' nx) (own.filter fun p => decide (p.1 = s.heap.objs.size)) (news.map (·.1)) { s with heap := hh', toks := tk' } s₂ →
        LoopStepU h₀ env.locals [s.heap.objs.size] own (fun m nx => nx.map (·.1) = news.map (·.1) ∧ (l, Tup vs nn) ∈ nx ∧ J (i + 1) m nx) { s with heap := hh', toks := tk' } .next s₂ := by
      rintro ⟨h', tk, m', news', nx, e, F', N', hn, ho, ha, hm⟩
      refine ⟨rfl, h', tk, m', nx, e, F', fun p hp => ?_, fun p hp => ?_, ha, hm⟩
      · rcases List.mem_append.mp hp with h | h
        · by_cases hI : p.1 = s.heap.objs.size
          · exact N' p (ho p (List.mem_filter.mpr ⟨h, by simpa using hI⟩))
          · have h1 : p.1 = l := by
              rcases List.mem_cons.mp (hown p h) with h2 | h2
              · exact absurd h2 hI
              · exact List.mem_singleton.mp h2
            have h2 : hh'.get? p.1 = some p.2 := hget p h
            rw [h1, hlo] at h2
            have h3 : p = (l, Tup vs nn) := Prod.ext h1 (Option.some.inj h2).symm
            rw [h3]
            exact N' _ (hn _ hm.1)
        · exact N' p (hn p h)
      · have h1 : p.1 ∈ nx.map (·.1) := List.mem_map.mpr ⟨p, hp, rfl⟩
        rw [ha] at h1
        obtain ⟨q, hq, e⟩ := List.mem_map.mp h1
        intro hI
        exact absurd (Heap.lt_size (N q hq).1) (by rw [e, List.mem_singleton.mp hI]; exact Nat.lt_irrefl _)
    cases f with
    | ret v => exact .ret p
    | brk => exact .brk p
    | next => exact .next (fin p)
    | cont => exact .cont (fin p)
  · rintro h' tk m' news' F' N' _ ⟨_, hl', hJ⟩
    exact done m' news' h' tk hl' hJ F' N'

/-- a loop over a tuple of ints that stood before the frame -/
theorem iter_tup0 {l : Addr} {vs : List Value} {ns : List Int} {m₀ : Str → Option Value} {news : List (Addr × Obj)} (J : Nat → (Str → Option Value) → List (Addr × Obj) → Prop)
    (hh : A.handled = none) (hl : h₀.IsTuple l vs.toArray) (hi : IntsAre vs ns) (F : Fr h₀ env.locals s.heap m₀) (N : News h₀ env.locals s.heap news) (hj : J 0 m₀ news)
    (turn : ∀ i n t m₁ news₁ h tk own, ns[i]? = some n → news₁.map (·.1) = news.map (·.1) → OwnOff own (news.map (·.1)) → J i m₁ news₁ → Fr h₀ env.locals h (fun y => if y = x then some (.int n t) else m₁ y) → News h₀ env.locals h (news₁ ++ own) →
      wpAny (model prog w) A (execs body env) (InvPostN h₀ env.locals (J (i + 1)) own (news.map (·.1)) { s with heap := h, toks := tk } Q) E { s with heap := h, toks := tk })
    (done : ∀ m₁ news₁ h tk, J ns.length m₁ news₁ → Fr h₀ env.locals h m₁ → News h₀ env.locals h news₁ → Q .next { s with heap := h, toks := tk }) :
    wpAny (model prog w) A (pyIter (.ref l)) (fun it s₂ => LoopAtV prog w A h₀ env x body Q E it s₂) E s := by
  obtain ⟨ol, hol, hcl, k, hd⟩ := hl
  have hls : s.heap.IsTuple l vs.toArray := ⟨ol, F.keep _ _ hol, hcl, k, hd⟩
  have hlt : l < h₀.objs.size := Heap.lt_size hol
  have hne : l ≠ s.heap.objs.size := Nat.ne_of_lt (Nat.lt_trans (Nat.lt_of_lt_of_le hlt F.above) F.ns.lt)
  refine wpAny_pyIter_tuple hls ?_
  have W := Walks.tuple (prog := prog) (w := w) hh s.heap.objs.size l hne vs.toArray
  have hlen : vs.toArray.size = ns.length := by simp [hi.length]
  rw [hlen] at W
  refine loop_invN J W ?_ ?_ ?_ ?_ ⟨⟨_, Heap.get?_push_size _ rfl, rfl, rfl⟩, hls.push _⟩ (F.push _) (fun p hp => ⟨Heap.get?_push_of_some _ (N p hp).1, (N p hp).2⟩) hj ?_ done
  · intro hm
    rcases List.mem_cons.mp hm with e | hm
    · exact absurd F.ns.lt (e ▸ Nat.lt_irrefl _)
    · exact absurd (Nat.lt_of_lt_of_le hlt F.above) ((List.mem_singleton.mp hm) ▸ Nat.lt_irrefl _)
  · intro b hb
    rw [List.mem_singleton.mp hb]
    exact next_is_new F
  · intro p hp hI
    exact absurd (Heap.lt_size (N p hp).1) ((List.mem_singleton.mp hI) ▸ Nat.lt_irrefl _)
  · intro p hp hI
    rcases List.mem_cons.mp hI with e | hI
    · exact absurd (Heap.lt_size (N p hp).1) (e ▸ Nat.lt_irrefl _)
    · have h3 := (N p hp).2.2
      rw [List.mem_singleton.mp hI, hol] at h3
      cases h3
  · intro i v m₁ news₁ h tk own hlt' hP hadr hoff hJ F₁ N₁
    obtain ⟨t, hx⟩ := hi.get i ns[i] (by simp [hlt'])
    have hv : v = .int ns[i] t := by
      have hP' : vs[i]? = some v := by simpa using hP
      rw [hx] at hP'; exact (Option.some.inj hP').symm
    subst hv
    exact turn i ns[i] t m₁ news₁ h tk own (by simp [hlt']) hadr hoff hJ F₁ N₁

/-- the same with letters -/
theorem tup_loop {σ : Type} {l : Addr} {vs : List Value} {ns : List Int} {nn : Nat} {m₀ : Str → Option Value} (Led : σ → List (Addr × Obj)) (ps : σ → List (Str × Value)) (Facts : σ → Prop) (stored : List Str) (P : List Int → σ → Prop) (c₀ : σ)
    (hh : A.handled = none) (hl : ∀ c : σ, (l, Tup vs nn) ∈ Led c) (hi : IntsAre vs ns) (F : Fr h₀ env.locals s.heap m₀) (N : News h₀ env.locals s.heap (Led c₀)) (hf : Facts c₀) (hk : ∀ p ∈ ps c₀, m₀ p.1 = some p.2) (hp : P [] c₀)
    (turn : ∀ (c : σ) pre post n t (u : Str → Option Value) h tk own, ns = pre ++ n :: post → n ∈ ns → OwnOff own ((Led c₀).map (·.1)) → Facts c → P pre c →
      Fr h₀ env.locals h (fun y => if y = x then some (.int n t) else kstB (fun z => if stored.contains z then u z else m₀ z) (ps c) y) → News h₀ env.locals h (Led c ++ own) →
      wpAny (model prog w) A (execs body env) (InvPostN h₀ env.locals (KstS Led ps Facts x stored m₀ P (pre ++ [n])) own ((Led c₀).map (·.1)) { s with heap := h, toks := tk } Q) E { s with heap := h, toks := tk })
    (done : ∀ (c : σ) (u : Str → Option Value) h tk, Facts c → P ns c → Fr h₀ env.locals h (fun y => if y = x then u y else kstB (fun z => if stored.contains z then u z else m₀ z) (ps c) y) → News h₀ env.locals h (Led c) → Q .next { s with heap := h, toks := tk }) :
    wpAny (model prog w) A (pyIter (.ref l)) (fun it s₂ => LoopAtV prog w A h₀ env x body Q E it s₂) E s := by
  refine iter_tup (fun i m nx => KstS Led ps Facts x stored m₀ P (ns.take i) m nx) hh (hl c₀) hi F N ⟨c₀, rfl, hf, hk, fun _ _ _ _ => rfl, by simpa using hp⟩ ?_ ?_
  · rintro i n t m₁ nx h tk own hn _ hoff _ ⟨c, rfl, hf', h1, h2, hp'⟩ F₁ N₁
    have hs : ns.take (i + 1) = ns.take i ++ [n] := by simp [List.take_add_one, hn]
    have e : ns = ns.take i ++ n :: ns.drop (i + 1) := by
      have ht := List.take_append_drop (i + 1) ns
      rw [hs, List.append_assoc] at ht
      exact ht.symm
    rw [hs]
    refine wpAny_mono (turn c _ _ n t m₁ h tk own e (List.mem_of_getElem? hn) hoff hf' hp' (kst_fr h1 h2 F₁) N₁) (fun f s₂ p => ?_) fun _ _ x => x
    have up : InvEndN h₀ env.locals (KstS Led ps Facts x stored m₀ P (ns.take i ++ [n])) own ((Led c₀).map (·.1)) { s with heap := h, toks := tk } s₂ →
        InvEndN h₀ env.locals (fun m' nx => (l, Tup vs nn) ∈ nx ∧ KstS Led ps Facts x stored m₀ P (ns.take i ++ [n]) m' nx) own ((Led c₀).map (·.1)) { s with heap := h, toks := tk } s₂ := by
      rintro ⟨h', tk', m', news', nx', e', F', N', hn', ho', ha, hS⟩
      refine ⟨h', tk', m', news', nx', e', F', N', hn', ho', ha, ?_, hS⟩
      obtain ⟨c', rfl, _⟩ := hS
      exact hl c'
    cases f with
    | ret v => exact p
    | brk => exact p
    | next => exact up p
    | cont => exact up p
  · rintro m₁ nx h tk _ ⟨c, rfl, hf', h1, h2, hp'⟩ F₁ N₁
    rw [List.take_length] at hp'
    exact done c m₁ h tk hf' hp' (kst_frOut h1 h2 F₁) N₁

theorem off_app {l : Addr} {post own : List (Addr × Obj)} (ho : AllOff l post) (off : OwnOff own (l :: post.map (·.1))) : AllOff l (post ++ own) := fun p hp => by
  rcases List.mem_append.mp hp with hp | hp
  · exact ho p hp
  · exact off p hp l (.head _)
/-- a loop over a range by ones, one list of ints (the ledger's head) turns -/
theorem rngL {r : Addr} {a₀ b₀ : Int} {t₀ u₀ v₀ : Tok} {n : Nat} {m₀ : Str → Option Value} {l : Addr} {post : List (Addr × Obj)} {vs₀ : List Value} {ns₀ : List Int} {n₀ : Nat} (stored : List Str) (P : List Int → List Int → Prop)
    (hh : A.handled = none) (hr : IsRange s.heap r a₀ b₀ 1 t₀ u₀ v₀) (hsmall : Builtin.Range.small a₀ b₀ 1 = true) (hn : Builtin.Range.rangeSize a₀ b₀ 1 = (n : Int)) (F : Fr h₀ env.locals s.heap m₀) (N : News h₀ env.locals s.heap ((l, Lst vs₀ n₀) :: post)) (ho : AllOff l post) (hf : IntsAre vs₀ ns₀) (hp : P [] ns₀)
    (turn : ∀ vs ns c pre (k : Int) t (u : Str → Option Value) h tk own, k = a₀ + (pre.length : Int) → pre.length < n → AllOff l (post ++ own) → IntsAre vs ns → P pre ns →
      Fr h₀ env.locals h (fun y => if y = x then some (.int k t) else if stored.contains y then u y else m₀ y) → News h₀ env.locals h ((l, Lst vs c) :: (post ++ own)) →
      wpAny (model prog w) A (execs body env) (InvPostN h₀ env.locals (KstS (σ := List Value × List Int × Nat) (fun c => (l, Lst c.1 c.2.2) :: post) (fun _ => []) (fun c => IntsAre c.1 c.2.1) x stored m₀ (fun pre c => P pre c.2.1) (pre ++ [k])) own (l :: post.map (·.1)) { s with heap := h, toks := tk } Q) E { s with heap := h, toks := tk })
    (done : ∀ vs ns c (u : Str → Option Value) h tk, IntsAre vs ns → P (rangeKs a₀ n) ns → Fr h₀ env.locals h (fun y => if y = x then u y else if stored.contains y then u y else m₀ y) → News h₀ env.locals h ((l, Lst vs c) :: post) → Q .next { s with heap := h, toks := tk }) :
    wpAny (model prog w) A (pyIter (.ref r)) (fun it s₂ => LoopAtV prog w A h₀ env x body Q E it s₂) E s :=
  kst_range (σ := List Value × List Int × Nat) (fun c => (l, Lst c.1 c.2.2) :: post) (fun _ => []) (fun c => IntsAre c.1 c.2.1) stored (fun pre c => P pre c.2.1) (vs₀, ns₀, n₀) hh hr hsmall hn F N hf (List.forall_mem_nil _) hp
    (fun c pre k t u h tk own e1 e2 off f p F' N' => turn c.1 c.2.1 c.2.2 pre k t u h tk own e1 e2 (off_app ho off) f p F' N') (fun c u h tk f p F' N' => done c.1 c.2.1 c.2.2 u h tk f p F' N')

/-- the same, downwards -/
theorem rngLD {r : Addr} {a₀ b₀ : Int} {t₀ u₀ v₀ : Tok} {n : Nat} {m₀ : Str → Option Value} {l : Addr} {post : List (Addr × Obj)} {vs₀ : List Value} {ns₀ : List Int} {n₀ : Nat} (stored : List Str) (P : List Int → List Int → Prop)
    (hh : A.handled = none) (hr : IsRange s.heap r a₀ b₀ (-1) t₀ u₀ v₀) (hsmall : Builtin.Range.small a₀ b₀ (-1) = true) (hn : Builtin.Range.rangeSize a₀ b₀ (-1) = (n : Int)) (F : Fr h₀ env.locals s.heap m₀) (N : News h₀ env.locals s.heap ((l, Lst vs₀ n₀) :: post)) (ho : AllOff l post) (hf : IntsAre vs₀ ns₀) (hp : P [] ns₀)
    (turn : ∀ vs ns c pre (k : Int) t (u : Str → Option Value) h tk own, k = a₀ - (pre.length : Int) → pre.length < n → AllOff l (post ++ own) → IntsAre vs ns → P pre ns →
      Fr h₀ env.locals h (fun y => if y = x then some (.int k t) else if stored.contains y then u y else m₀ y) → News h₀ env.locals h ((l, Lst vs c) :: (post ++ own)) →
      wpAny (model prog w) A (execs body env) (InvPostN h₀ env.locals (KstS (σ := List Value × List Int × Nat) (fun c => (l, Lst c.1 c.2.2) :: post) (fun _ => []) (fun c => IntsAre c.1 c.2.1) x stored m₀ (fun pre c => P pre c.2.1) (pre ++ [k])) own (l :: post.map (·.1)) { s with heap := h, toks := tk } Q) E { s with heap := h, toks := tk })
    (done : ∀ vs ns c (u : Str → Option Value) h tk, IntsAre vs ns → P (downKs a₀ n) ns → Fr h₀ env.locals h (fun y => if y = x then u y else if stored.contains y then u y else m₀ y) → News h₀ env.locals h ((l, Lst vs c) :: post) → Q .next { s with heap := h, toks := tk }) :
    wpAny (model prog w) A (pyIter (.ref r)) (fun it s₂ => LoopAtV prog w A h₀ env x body Q E it s₂) E s :=
  kst_rangeD (σ := List Value × List Int × Nat) (fun c => (l, Lst c.1 c.2.2) :: post) (fun _ => []) (fun c => IntsAre c.1 c.2.1) stored (fun pre c => P pre c.2.1) (vs₀, ns₀, n₀) hh hr hsmall hn F N hf (List.forall_mem_nil _) hp
    (fun c pre k t u h tk own e1 e2 off f p F' N' => turn c.1 c.2.1 c.2.2 pre k t u h tk own e1 e2 (off_app ho off) f p F' N') (fun c u h tk f p F' N' => done c.1 c.2.1 c.2.2 u h tk f p F' N')

/-- a loop over a range by ones that turns nothing that stood -/
theorem rngN {r : Addr} {a₀ b₀ : Int} {t₀ u₀ v₀ : Tok} {n : Nat} {m₀ : Str → Option Value} {post : List (Addr × Obj)} (stored : List Str)
    (hh : A.handled = none) (hr : IsRange s.heap r a₀ b₀ 1 t₀ u₀ v₀) (hsmall : Builtin.Range.small a₀ b₀ 1 = true) (hn : Builtin.Range.rangeSize a₀ b₀ 1 = (n : Int)) (F : Fr h₀ env.locals s.heap m₀) (N : News h₀ env.locals s.heap post)
    (turn : ∀ pre (k : Int) t (u : Str → Option Value) h tk own, k = a₀ + (pre.length : Int) → pre.length < n → OwnOff own (post.map (·.1)) →
      Fr h₀ env.locals h (fun y => if y = x then some (.int k t) else if stored.contains y then u y else m₀ y) → News h₀ env.locals h (post ++ own) →
      wpAny (model prog w) A (execs body env) (InvPostN h₀ env.locals (KstS (σ := Unit) (fun _ => post) (fun _ => []) (fun _ => True) x stored m₀ (fun _ _ => True) (pre ++ [k])) own (post.map (·.1)) { s with heap := h, toks := tk } Q) E { s with heap := h, toks := tk })
    (done : ∀ (u : Str → Option Value) h tk, Fr h₀ env.locals h (fun y => if y = x then u y else if stored.contains y then u y else m₀ y) → News h₀ env.locals h post → Q .next { s with heap := h, toks := tk }) :
    wpAny (model prog w) A (pyIter (.ref r)) (fun it s₂ => LoopAtV prog w A h₀ env x body Q E it s₂) E s :=
  kst_range (σ := Unit) (fun _ => post) (fun _ => []) (fun _ => True) stored (fun _ _ => True) () hh hr hsmall hn F N trivial (List.forall_mem_nil _) trivial
    (fun _ pre k t u h tk own e1 e2 off _ _ F' N' => turn pre k t u h tk own e1 e2 off F' N') (fun _ u h tk _ _ F' N' => done u h tk F' N')

/-- a loop over a tuple of ints (second of the ledger): one list (its head) turns, one int name -/
theorem tupLI {ax : Addr} {us : List Value} {ps : List Int} {un : Nat} {m₀ : Str → Option Value} {l : Addr} {post : List (Addr × Obj)} {vs₀ : List Value} {ns₀ : List Int} {n₀ : Nat} {y : Str} {i₀ : Int} {ti₀ : Tok} (stored : List Str) (P : List Int → List Int → Int → Prop)
    (hh : A.handled = none) (hi : IntsAre us ps) (F : Fr h₀ env.locals s.heap m₀) (N : News h₀ env.locals s.heap ((l, Lst vs₀ n₀) :: (ax, Tup us un) :: post)) (ho : AllOff l ((ax, Tup us un) :: post)) (hf : IntsAre vs₀ ns₀) (hy : m₀ y = some (.int i₀ ti₀)) (hp : P [] ns₀ i₀)
    (turn : ∀ vs ns c i ti pre rest (k : Int) t (u : Str → Option Value) h tk own, ps = pre ++ k :: rest → AllOff l ((ax, Tup us un) :: (post ++ own)) → IntsAre vs ns → P pre ns i →
      Fr h₀ env.locals h (fun z => if z = x then some (.int k t) else if z = y then some (.int i ti) else if stored.contains z then u z else m₀ z) → News h₀ env.locals h ((l, Lst vs c) :: (ax, Tup us un) :: (post ++ own)) →
      wpAny (model prog w) A (execs body env) (InvPostN h₀ env.locals (KstS (σ := List Value × List Int × Nat × Int × Tok) (fun c => (l, Lst c.1 c.2.2.1) :: (ax, Tup us un) :: post) (fun c => [(y, .int c.2.2.2.1 c.2.2.2.2)]) (fun c => IntsAre c.1 c.2.1) x stored m₀ (fun pre c => P pre c.2.1 c.2.2.2.1) (pre ++ [k])) own (l :: ax :: post.map (·.1)) { s with heap := h, toks := tk } Q) E { s with heap := h, toks := tk })
    (done : ∀ vs ns c i ti (u : Str → Option Value) h tk, IntsAre vs ns → P ps ns i → Fr h₀ env.locals h (fun z => if z = x then u z else if z = y then some (.int i ti) else if stored.contains z then u z else m₀ z) → News h₀ env.locals h ((l, Lst vs c) :: (ax, Tup us un) :: post) → Q .next { s with heap := h, toks := tk }) :
    wpAny (model prog w) A (pyIter (.ref ax)) (fun it s₂ => LoopAtV prog w A h₀ env x body Q E it s₂) E s :=
  tup_loop (σ := List Value × List Int × Nat × Int × Tok) (fun c => (l, Lst c.1 c.2.2.1) :: (ax, Tup us un) :: post) (fun c => [(y, .int c.2.2.2.1 c.2.2.2.2)]) (fun c => IntsAre c.1 c.2.1) stored (fun pre c => P pre c.2.1 c.2.2.2.1) (vs₀, ns₀, n₀, i₀, ti₀) hh (fun _ => List.Mem.tail _ (List.Mem.head _)) hi F N hf (List.forall_mem_cons.mpr ⟨hy, List.forall_mem_nil _⟩) hp
    (fun c pre rest k t u h tk own e _ off f p F' N' => turn c.1 c.2.1 c.2.2.1 c.2.2.2.1 c.2.2.2.2 pre rest k t u h tk own e (off_app ho off) f p F' N') (fun c u h tk f p F' N' => done c.1 c.2.1 c.2.2.1 c.2.2.2.1 c.2.2.2.2 u h tk f p F' N')

/-- a loop over a tuple of ints that stood before: one list (the ledger's head) turns, one int name -/
theorem tupLI0 {ax : Addr} {us : List Value} {ps : List Int} {m₀ : Str → Option Value} {l : Addr} {post : List (Addr × Obj)} {vs₀ : List Value} {ns₀ : List Int} {n₀ : Nat} {y : Str} {i₀ : Int} {ti₀ : Tok} (stored : List Str) (P : List Int → List Int → Int → Prop)
    (hh : A.handled = none) (hl : h₀.IsTuple ax us.toArray) (hi : IntsAre us ps) (F : Fr h₀ env.locals s.heap m₀) (N : News h₀ env.locals s.heap ((l, Lst vs₀ n₀) :: post)) (ho : AllOff l post) (hf : IntsAre vs₀ ns₀) (hy : m₀ y = some (.int i₀ ti₀)) (hp : P [] ns₀ i₀)
    (turn : ∀ vs ns c i ti pre rest (k : Int) t (u : Str → Option Value) h tk own, ps = pre ++ k :: rest → AllOff l (post ++ own) → IntsAre vs ns → P pre ns i →
      Fr h₀ env.locals h (fun z => if z = x then some (.int k t) else if z = y then some (.int i ti) else if stored.contains z then u z else m₀ z) → News h₀ env.locals h ((l, Lst vs c) :: (post ++ own)) →
      wpAny (model prog w) A (execs body env) (InvPostN h₀ env.locals (KstS (σ := List Value × List Int × Nat × Int × Tok) (fun c => (l, Lst c.1 c.2.2.1) :: post) (fun c => [(y, .int c.2.2.2.1 c.2.2.2.2)]) (fun c => IntsAre c.1 c.2.1) x stored m₀ (fun pre c => P pre c.2.1 c.2.2.2.1) (pre ++ [k])) own (l :: post.map (·.1)) { s with heap := h, toks := tk } Q) E { s with heap := h, toks := tk })
    (done : ∀ vs ns c i ti (u : Str → Option Value) h tk, IntsAre vs ns → P ps ns i → Fr h₀ env.locals h (fun z => if z = x then u z else if z = y then some (.int i ti) else if stored.contains z then u z else m₀ z) → News h₀ env.locals h ((l, Lst vs c) :: post) → Q .next { s with heap := h, toks := tk }) :
    wpAny (model prog w) A (pyIter (.ref ax)) (fun it s₂ => LoopAtV prog w A h₀ env x body Q E it s₂) E s := by
  refine iter_tup0 (fun i m nx => KstS (σ := List Value × List Int × Nat × Int × Tok) (fun c => (l, Lst c.1 c.2.2.1) :: post) (fun c => [(y, .int c.2.2.2.1 c.2.2.2.2)]) (fun c => IntsAre c.1 c.2.1) x stored m₀ (fun pre c => P pre c.2.1 c.2.2.2.1) (ps.take i) m nx) hh hl hi F N
    ⟨(vs₀, ns₀, n₀, i₀, ti₀), rfl, hf, List.forall_mem_cons.mpr ⟨hy, List.forall_mem_nil _⟩, fun _ _ _ _ => rfl, by simpa using hp⟩ ?_ ?_
  · rintro i n t m₁ nx h tk own hn _ hoff ⟨c, rfl, hf', h1, h2, hp'⟩ F₁ N₁
    have hs : ps.take (i + 1) = ps.take i ++ [n] := by simp [List.take_add_one, hn]
    have e : ps = ps.take i ++ n :: ps.drop (i + 1) := by
      have ht := List.take_append_drop (i + 1) ps
      rw [hs, List.append_assoc] at ht
      exact ht.symm
    rw [hs]
    exact turn c.1 c.2.1 c.2.2.1 c.2.2.2.1 c.2.2.2.2 _ _ n t m₁ h tk own e (off_app ho hoff) hf' hp' (kst_fr h1 h2 F₁) N₁
  · rintro m₁ nx h tk ⟨c, rfl, hf', h1, h2, hp'⟩ F₁ N₁
    rw [List.take_length] at hp'
    exact done c.1 c.2.1 c.2.2.1 c.2.2.2.1 c.2.2.2.2 m₁ h tk hf' hp' (kst_frOut h1 h2 F₁) N₁

abbrev Rng (a b c : Int) (t u v : Tok) : Obj := { cls := .type "range", dict := none, data := .fields #[.int a t, .int b u, .int c v], slots := #[] }
theorem news_new {h h' : Heap} {L : Addr} {m : Str → Option Value} {news : List (Addr × Obj)} {o : Obj} (F : Fr h₀ L h m) (N : News h₀ L h' news) (e : h'.get? h.objs.size = some o) : News h₀ L h' ((h.objs.size, o) :: news) := fun p hp => by
  rcases List.mem_cons.mp hp with rfl | hp
  · exact ⟨e, Nat.ne_of_gt F.ns.lt, next_is_new F⟩
  · exact N p hp
theorem news_sub {h : Heap} {L : Addr} {news news' : List (Addr × Obj)} (N : News h₀ L h news) (hs : ∀ p ∈ news', p ∈ news) : News h₀ L h news' := fun p hp => N p (hs p hp)
theorem news_swap {h : Heap} {L : Addr} {news : List (Addr × Obj)} {a b : Addr × Obj} (N : News h₀ L h (a :: b :: news)) : News h₀ L h (b :: a :: news) :=
  news_sub N fun p hp => by
    rcases List.mem_cons.mp hp with rfl | hp
    · exact .tail _ (.head _)
    · rcases List.mem_cons.mp hp with rfl | hp
      · exact .head _
      · exact .tail _ (.tail _ hp)
theorem news_tail {h : Heap} {L : Addr} {news : List (Addr × Obj)} {a : Addr × Obj} (N : News h₀ L h (a :: news)) : News h₀ L h news := fun p hp => N p (.tail _ hp)
theorem range2L {L : Addr} {m : Str → Option Value} {Qv : Value → Shared → Prop} {a b : Int} {t u : Tok} {news : List (Addr × Obj)} (F : Fr h₀ L s.heap m) (N : News h₀ L s.heap news)
    (h : ∀ h' tk t₁ u₁ v₁, Fr h₀ L h' m → News h₀ L h' ((s.heap.objs.size, Rng a b 1 t₁ u₁ v₁) :: news) → AllOff s.heap.objs.size news → Qv (.ref s.heap.objs.size) { s with heap := h', toks := tk }) :
    wpAny (model prog w) A (call (.type "range") [.int a t, .int b u]) Qv E s :=
  range2_rows F N fun h' tk t₁ u₁ v₁ R F' N' k => h h' tk t₁ u₁ v₁ F' (news_new F N' R) fun p hp => Nat.ne_of_lt (Heap.lt_size (N p hp).1)
theorem range3L {L : Addr} {m : Str → Option Value} {Qv : Value → Shared → Prop} {a b c : Int} {t u v : Tok} {news : List (Addr × Obj)} (F : Fr h₀ L s.heap m) (N : News h₀ L s.heap news) (hc : c ≠ 0)
    (hp : Builtin.divisionGoesByPylong (b - a) c = false ∨ PySem.PylongRoom (model prog w) A s)
    (h : ∀ h' tk t₁ u₁ v₁, Fr h₀ L h' m → News h₀ L h' ((s.heap.objs.size, Rng a b c t₁ u₁ v₁) :: news) → AllOff s.heap.objs.size news → Qv (.ref s.heap.objs.size) { s with heap := h', toks := tk }) :
    wpAny (model prog w) A (call (.type "range") [.int a t, .int b u, .int c v]) Qv E s :=
  range3_rows F N hc (fun h' tk t₁ u₁ v₁ R F' N' k => h h' tk t₁ u₁ v₁ F' (news_new F N' R) fun p hp => Nat.ne_of_lt (Heap.lt_size (N p hp).1)) hp

theorem append_head {L l : Addr} {m : Str → Option Value} {Qv : Value → Shared → Prop} {vs : List Value} {c : Nat} {v : Value} {post : List (Addr × Obj)} (F : Fr h₀ L s.heap m) (N : News h₀ L s.heap ((l, Lst vs c) :: post)) (ho : AllOff l post) (hz : vs.length ≤ 1000)
    (h : ∀ h', Fr h₀ L h' m → News h₀ L h' ((l, Lst (vs ++ [v]) (c + 1)) :: post) → Qv .none { s with heap := h' }) : wpAny (model prog w) A (call (.builtin "list.append") [.ref l, v]) Qv E s :=
  append_K F N (.head ho) (fun h' F' N' => h h' F' (by rw [List.push_toArray] at N'; exact N')) (by rw [List.size_toArray, PySem.sizeLine_eq]; omega)

theorem off_swap {l r : Addr} {o o' : Obj} {post : List (Addr × Obj)} (h : AllOff r ((l, o) :: post)) (h' : AllOff l post) : AllOff l ((r, o') :: post) := fun p hp => by
  rcases List.mem_cons.mp hp with rfl | hp
  · exact fun e => h _ (.head _) e.symm
  · exact h' p hp
theorem mem_skip {a b : Addr × Obj} (post : List (Addr × Obj)) : ∀ p, p ∈ a :: post → p ∈ a :: b :: post := fun p hp => by
  rcases List.mem_cons.mp hp with rfl | hp
  · exact .head _
  · exact .tail _ (.tail _ hp)

theorem off_lt {l : Addr} {news : List (Addr × Obj)} (h : ∀ p ∈ news, p.1 < l) : AllOff l news := fun p hp => Nat.ne_of_lt (h p hp)
theorem tuple_of {L l : Addr} {m : Str → Option Value} {Qv : Value → Shared → Prop} {vs : List Value} {c : Nat} {news : List (Addr × Obj)} (F : Fr h₀ L s.heap m) (N : News h₀ L s.heap news) (hm : (l, Lst vs c) ∈ news) (hz : vs.length ≤ 1000)
    (h : ∀ D h', Fr h₀ L h' m → News h₀ L h' ((D, Tup vs 0) :: news) → AllOff D news → Qv (.ref D) { s with heap := h' }) : wpAny (model prog w) A (call (.type "tuple") [.ref l]) Qv E s :=
  kde_tupleOf F N ⟨_, (N _ hm).1, rfl, c, rfl⟩ (by rw [List.size_toArray]; omega) rfl fun D h' F' N' hlt => h D h' F' N' (off_lt hlt)

theorem at1 {h : Heap} {L : Addr} {news : List (Addr × Obj)} {a x : Addr × Obj} (N : News h₀ L h (a :: x :: news)) : News h₀ L h (x :: a :: news) := news_swap N
theorem at2 {h : Heap} {L : Addr} {news : List (Addr × Obj)} {a b x : Addr × Obj} (N : News h₀ L h (a :: b :: x :: news)) : News h₀ L h (x :: a :: b :: news) :=
  news_sub N fun p hp => by simp only [List.mem_cons] at hp ⊢; rcases hp with h | h | h | h <;> simp [h]
theorem at3 {h : Heap} {L : Addr} {news : List (Addr × Obj)} {a b c x : Addr × Obj} (N : News h₀ L h (a :: b :: c :: x :: news)) : News h₀ L h (x :: a :: b :: c :: news) :=
  news_sub N fun p hp => by simp only [List.mem_cons] at hp ⊢; rcases hp with h | h | h | h | h <;> simp [h]
theorem at4 {h : Heap} {L : Addr} {news : List (Addr × Obj)} {a b c d x : Addr × Obj} (N : News h₀ L h (a :: b :: c :: d :: x :: news)) : News h₀ L h (x :: a :: b :: c :: d :: news) :=
  news_sub N fun p hp => by simp only [List.mem_cons] at hp ⊢; rcases hp with h | h | h | h | h | h <;> simp [h]
theorem ints_rep1 (x : Int) (t : Tok) : ∀ k : Nat, IntsAre (List.replicate k (Value.int x t)) (List.replicate k x)
  | 0 => .nil
  | k + 1 => .cons x t (ints_rep1 x t k)
theorem flat_one {α : Type} (x : α) : ∀ k : Nat, (List.replicate k [x]).flatten = List.replicate k x
  | 0 => rfl
  | k + 1 => by rw [List.replicate_succ, List.flatten_cons, flat_one x k]; rfl
theorem zeros {L l : Addr} {m : Str → Option Value} {Qv : Value → Shared → Prop} {c : Nat} {z x : Int} {t u : Tok} {news : List (Addr × Obj)} (F : Fr h₀ L s.heap m) (N : News h₀ L s.heap news) (hm : (l, Lst [.int z t] c) ∈ news) (h0 : 0 ≤ x) (hx : x ≤ 1000)
    (h : ∀ D h', Fr h₀ L h' m → News h₀ L h' ((D, Lst (List.replicate x.toNat (.int z t)) 0) :: news) → AllOff D news → IntsAre (List.replicate x.toNat (.int z t)) (List.replicate x.toNat z) → Qv (.ref D) { s with heap := h' }) : wpAny (model prog w) A (binaryOp .Mult (.ref l) (.int x u)) Qv E s :=
  KM.mul F N ⟨_, (N _ hm).1, rfl, c, rfl⟩ (.cons z t .nil) (by omega) (by omega) (by simp only [List.length_cons, List.length_nil]; omega) fun D h' F' N' hlt _ _ _ _ _ _ => by
    rw [flat_one] at N'
    exact h D h' F' N' (off_lt hlt) (ints_rep1 _ _ _)
theorem set_head {L l : Addr} {m : Str → Option Value} {Qv : Unit → Shared → Prop} {vs : List Value} {ns : List Int} {c : Nat} {k x : Int} {t u : Tok} {post : List (Addr × Obj)} (F : Fr h₀ L s.heap m) (N : News h₀ L s.heap ((l, Lst vs c) :: post)) (ho : AllOff l post) (hi : IntsAre vs ns) (h0 : 0 ≤ k) (h1 : k < ns.length) (hl : ns.length ≤ 1000)
    (h : ∀ h', Fr h₀ L h' m → News h₀ L h' ((l, Lst (vs.set k.toNat (.int x u)) c) :: post) → IntsAre (vs.set k.toNat (.int x u)) (ns.set k.toNat x) → Qv () { s with heap := h' }) : wpAny (model prog w) A (setItem (.ref l) (.int k t) (.int x u)) Qv E s :=
  ksa_set F N (.head ho) hi h0 h1 (by omega) fun h' F' N' i' _ _ => h h' F' N' i'
theorem sub_in {L l : Addr} {value slice : PySem.Expr} {Qv : Value → Shared → Prop} {vs : List Value} {ns : List Int} {c : Nat} {k : Int} {u : Tok} {news : List (Addr × Obj)} (N : News h₀ L s.heap news) (hm : (l, Lst vs c) ∈ news) (hi : IntsAre vs ns) (h0 : 0 ≤ k) (h1 : k < ns.length) (hl : ns.length ≤ 1000) (h : ∀ t, Qv (.int (ns.getD k.toNat 0) t) s)
    (hs : subscripted slice false (.ref l) (.int k u) = operate [.ref l, .int k u] (getItem (.ref l) (.int k u)) := by with_unfolding_all rfl) :
    wpAny (model prog w) A (subscriptTail value slice (.ref l) (.int k u)) Qv E s := ksa_sub N hm hi h0 h1 (by omega) h hs

theorem mem_skip2 {a b c : Addr × Obj} (post : List (Addr × Obj)) : ∀ p, p ∈ a :: post → p ∈ a :: b :: c :: post := fun p hp => by
  rcases List.mem_cons.mp hp with rfl | hp
  · exact .head _
  · exact .tail _ (.tail _ (.tail _ hp))

theorem mem_skip3 {a b c d : Addr × Obj} (post : List (Addr × Obj)) : ∀ p, p ∈ a :: post → p ∈ a :: b :: c :: d :: post := fun p hp => by
  rcases List.mem_cons.mp hp with rfl | hp
  · exact .head _
  · exact .tail _ (.tail _ (.tail _ (.tail _ hp)))

/-- a turn's end, with the ledger told by membership -/
theorem turn_end {σ : Type} {Led : σ → List (Addr × Obj)} {ps : σ → List (Str × Value)} {Facts : σ → Prop} {stored : List Str} {m₀ : Str → Option Value} {P : List Int → σ → Prop} {pre : List Int} (c : σ) {L : Addr} {m' : Str → Option Value} {own news' : List (Addr × Obj)} {adr : List Addr} {s₁ : Shared} {h' : Heap} {tk : Nat}
    (F : Fr h₀ L h' m') (N : News h₀ L h' news') (hn : ∀ p, p ∈ Led c ++ own → p ∈ news') (ha : (Led c).map (·.1) = adr) (hf : Facts c) (hk : ∀ p ∈ ps c, m' p.1 = some p.2) (hr : ∀ z, z ≠ x → (∀ p ∈ ps c, z ≠ p.1) → stored.contains z = false → m' z = m₀ z) (hp : P pre c) :
    InvEndN h₀ L (KstS Led ps Facts x stored m₀ P pre) own adr s₁ { s₁ with heap := h', toks := tk } :=
  kst_end c F N (fun p h => hn p (List.mem_append.mpr (.inl h))) (fun p h => hn p (List.mem_append.mpr (.inr h))) ha hf hk hr hp
end
end Mine
end
section
open PySem PySem.W PyProof.Rows PySem.Spec PySem.Calls
open LCg
namespace Mine
section
variable {prog : Program} {w : World} {A : Around} {E : Value → Shared → Prop} {s : Shared} {h₀ : Heap} {L : Addr} {m : Str → Option Value} {env : Env}

theorem tup_st {ax I : Addr} {its : Array Value} {k : Nat} : ∀ i (h h' : Heap) (o : Obj) (nw : List (Addr × Obj)), (h.IsTupleIter I ax i ∧ h.IsTuple ax its) → h.get? I = some o → h'.get? I = some o → (∀ b o, h₀.get? b = some o → h'.get? b = some o) → News h₀ L h' nw → (ax, ({ cls := .type "tuple", data := .seq its k } : Obj)) ∈ nw → (h'.IsTupleIter I ax i ∧ h'.IsTuple ax its) :=
  fun i h h' o nw st e e' _ N S => ⟨by obtain ⟨o', q, r⟩ := st.1; rw [e] at q; cases q; exact ⟨o, e', r⟩, ⟨_, (N _ S).1, rfl, k, rfl⟩⟩

/-- a comprehension over a tuple that the ledger holds -/
theorem LC_tup {elt iter : Expr} {x : Str} {px : Pos} {scope : Scope} {cl : List (Str × Addr)} {pos : Pos} {Q : Value → Shared → Prop} (_F₀ : Fr h₀ L s.heap m)
    (hclos : closureFor scope env = pure cl) (hcell : ∀ y ∈ scope.names, y.2 ≠ .cell) (hkind : scope.kind = .function)
    (hnames : ∀ y ∈ scope.names, y.2 = .local → scope.names.lookup y.1 = some .local) (hx : scope.names.lookup x = some .local)
    (h : wpAny (model prog w) A (eval iter env) (fun xv s₁ => ∃ ax vs nn news, xv = .ref ax ∧ A.handled = none ∧ Fr h₀ L s₁.heap m ∧ News h₀ L s₁.heap news ∧ (ax, Tup vs nn) ∈ news ∧ vs.length ≤ 1000 ∧
      ∀ g, CompRest prog w A h₀ L m env elt x scope cl { s₁ with heap := g } (fun nw => (ax, Tup vs nn) ∈ nw) (fun i v => vs[i]? = some v) (FinE h₀ L m { s₁ with heap := g } Q) vs.length 0 [] news) E s)
    (hs : ∀ x, foldedSetIterable iter env x = pure x := by intro _; rfl) :
    wpAny (model prog w) A (eval (.ListComp elt [⟨.Name x px, iter, [], 0⟩] scope pos) env) Q E s := by
  rw [eval_ListComp]
  refine wpAny_comprehension_free (use := none) rfl hs hclos hkind hnames (wpAny_mono h (fun xv s₁ h₁ => ?_) fun _ _ e => e)
  obtain ⟨ax, vs, nn, news, rfl, hh, F, N, hm, hsz, R⟩ := h₁
  have hl : s₁.heap.IsTuple ax vs.toArray := ⟨_, (N _ hm).1, rfl, nn, rfl⟩
  have hlt : ax < s₁.heap.objs.size := Heap.lt_size (N _ hm).1
  refine wpAny_pyIter_tuple hl ?_
  have up : ∀ b o, s₁.heap.get? b = some o → (s₁.heap.push { cls := .type "tuple_iterator", data := .fields #[.ref ax, .int 0 0] }).get? b = some o := fun b o e => Heap.get?_push_of_some _ e
  have W := Walks.tuple (prog := prog) (w := w) hh s₁.heap.objs.size ax (Nat.ne_of_lt hlt) vs.toArray
  rw [List.size_toArray] at W
  refine block_U (n := vs.length) (P := fun i v => vs[i]? = some v) { sub := W.sub, frame := W.frame, done := W.done, self := W.self, item := fun i s Q E hi st hQ => W.item i s Q E hi st fun v h' tk hP => hQ v h' tk (by simpa using hP) } (by rw [sizeLine_eq]; omega) (fun i h st => by obtain ⟨o, e, _⟩ := st.1; exact ⟨o, e⟩) tup_st hcell hkind hx ⟨⟨_, Heap.get?_push_size _ rfl, rfl, rfl⟩, hl.push _⟩ (fun b hb => ?_)
    (F.keeps up) (N.grown up) (Nat.ne_of_lt F.ns.lt) (next_is_new F) (fun p hp => Nat.ne_of_lt (Heap.lt_size (N p hp).1)) hm (R _) ?_
  · show b < (s₁.heap.push _).objs.size
    rw [Heap.size_push]
    rcases List.mem_cons.mp hb with rfl | hb
    · exact Nat.lt_succ_self _
    · rw [List.mem_singleton.mp hb]; exact Nat.lt_succ_of_lt hlt
  · intro D C h tk m' ys news' F' N' o1 hn hC₀ hD₀ hCL hDL hCD offC fin
    refine ⟨m', hn, fun h'' hs'' => fin D h'' tk (F'.change hs'' hCL hC₀) (fun p hp => ?_) o1⟩
    refine ⟨hs''.extBut _ _ ?_ (N' p hp).1, (N' p hp).2⟩
    rcases List.mem_cons.mp hp with rfl | hp
    · exact Ne.symm hCD
    · exact offC p hp

theorem CompEnd.weaken {s₁ s₂ : Shared} {I C D : Addr} {oI oC oD : Obj} {S : List (Addr × Obj) → Prop} {r r' : Value → List (Addr × Obj) → Prop} {y : Value} (h : CompEnd h₀ L m s₁ I oI C oC D oD S r y s₂) (k : ∀ nw, r y nw → r' y nw) : CompEnd h₀ L m s₁ I oI C oC D oD S r' y s₂ := by
  obtain ⟨h', tk, nw, e, F, N, o, hS, hr⟩ := h
  exact ⟨h', tk, nw, e, F, N, o, hS, k nw hr⟩

/-- the turns of a comprehension by an invariant -/
theorem rest_inv {elt : Expr} {x : Str} {scope : Scope} {cl : List (Str × Addr)} {S : List (Addr × Obj) → Prop} {P : Nat → Value → Prop} {Fin : List Value → List (Addr × Obj) → Prop} {n : Nat} (J : Nat → List Value → List (Addr × Obj) → Prop)
    (turn : ∀ i ys nw v I oI C oC D m₂ h tk (E' : Value → Shared → Prop), i < n → J i ys nw → P i v → NsObj oC m₂ → m₂ x = some v → Fr h₀ L h m → News h₀ L h ((I, oI) :: (C, oC) :: (D, lst ys) :: nw) → Off3 I C D nw → ((@Ne Nat I C) ∧ (@Ne Nat I D) ∧ (@Ne Nat C D)) →
      wpAny (model prog w) A (eval elt (compEnvC scope cl C env)) (CompEnd h₀ L m { s with heap := h, toks := tk } I oI C oC D (lst ys) S (fun y nw' => J (i + 1) (ys ++ [y]) nw')) E' { s with heap := h, toks := tk })
    (fin : ∀ ys nw, J n ys nw → Fin ys nw) : ∀ k i ys nw, i + k = n → J i ys nw → CompRest prog w A h₀ L m env elt x scope cl s S P Fin k i ys nw
  | 0, i, ys, nw, e, j => by
    rw [Nat.add_zero] at e
    subst e
    exact fin _ _ j
  | k + 1, i, ys, nw, e, j => by
    refine CompRest.succ fun v I oI C oC D m₂ h tk E' hv hC hx F N off ne => ?_
    refine wpAny_mono (turn i ys nw v I oI C oC D m₂ h tk E' (by omega) j hv hC hx F N off ne) (fun y s' hy => CompEnd.weaken hy fun nw' j' => ?_) fun _ _ e => e
    exact rest_inv J turn fin k (i + 1) _ _ (by omega) j'

/-- the same with one test -/
theorem restT_inv {ct elt : Expr} {x : Str} {scope : Scope} {cl : List (Str × Addr)} {S : List (Addr × Obj) → Prop} {P : Nat → Value → Prop} {Fin : List Value → List (Addr × Obj) → Prop} {n : Nat} (J : Nat → List Value → List (Addr × Obj) → Prop)
    (turn : ∀ i ys nw v I oI C oC D m₂ h tk (E' : Value → Shared → Prop), i < n → J i ys nw → P i v → NsObj oC m₂ → m₂ x = some v → Fr h₀ L h m → News h₀ L h ((I, oI) :: (C, oC) :: (D, lst ys) :: nw) → Off3 I C D nw → ((@Ne Nat I C) ∧ (@Ne Nat I D) ∧ (@Ne Nat C D)) →
      wpAny (model prog w) A (isTrue ct (compEnvC scope cl C env) (eval ct (compEnvC scope cl C env))) (fun ok s' => if ok = true then
        wpAny (model prog w) A (eval elt (compEnvC scope cl C env)) (CompEnd h₀ L m { s with heap := h, toks := tk } I oI C oC D (lst ys) S (fun y nw' => J (i + 1) (ys ++ [y]) nw')) E' s'
        else CompEnd h₀ L m { s with heap := h, toks := tk } I oI C oC D (lst ys) S (fun _ nw' => J (i + 1) ys nw') Value.none s') E' { s with heap := h, toks := tk })
    (fin : ∀ ys nw, J n ys nw → Fin ys nw) : ∀ k i ys nw, i + k = n → J i ys nw → LCt.CompRestT prog w A h₀ L m env ct elt x scope cl s S P Fin k i ys nw
  | 0, i, ys, nw, e, j => by
    rw [Nat.add_zero] at e
    subst e
    exact fin _ _ j
  | k + 1, i, ys, nw, e, j => by
    refine LCt.CompRestT.succ fun v I oI C oC D m₂ h tk E' hv hC hx F N off ne => ?_
    refine wpAny_mono (turn i ys nw v I oI C oC D m₂ h tk E' (by omega) j hv hC hx F N off ne) (fun ok s' hy => ?_) fun _ _ e => e
    cases ok with
    | true =>
      simp only [if_true] at hy ⊢
      exact wpAny_mono hy (fun y s'' hy' => CompEnd.weaken hy' fun nw' j' => restT_inv J turn fin k (i + 1) _ _ (by omega) j') fun _ _ e => e
    | false =>
      simp only [Bool.false_eq_true, if_false] at hy ⊢
      exact CompEnd.weaken hy fun nw' j' => restT_inv J turn fin k (i + 1) _ _ (by omega) j'

/-- a comprehension of ints over ints, the ledger as it was -/
theorem rest_map {elt : Expr} {x : Str} {scope : Scope} {cl : List (Str × Addr)} {S : List (Addr × Obj) → Prop} {P : Nat → Value → Prop} {Fin : List Value → List (Addr × Obj) → Prop} {ps : List Int} {n : Nat} {news : List (Addr × Obj)} (g : Int → Int)
    (hn : n = ps.length) (hP : ∀ i v, i < n → P i v → ∃ p t, ps[i]? = some p ∧ v = .int p t)
    (turn : ∀ p t ys I oI C oC D m₂ h tk (E' : Value → Shared → Prop), p ∈ ps → NsObj oC m₂ → m₂ x = some (.int p t) → Fr h₀ L h m → News h₀ L h ((I, oI) :: (C, oC) :: (D, lst ys) :: news) → Off3 I C D news →
      wpAny (model prog w) A (eval elt (compEnvC scope cl C env)) (CompEnd h₀ L m { s with heap := h, toks := tk } I oI C oC D (lst ys) S (fun y nw' => nw' = news ∧ ∃ t', y = .int (g p) t')) E' { s with heap := h, toks := tk })
    (fin : ∀ ys, IntsAre ys (ps.map g) → Fin ys news) : CompRest prog w A h₀ L m env elt x scope cl s S P Fin n 0 [] news := by
  refine rest_inv (n := n) (fun i ys nw => nw = news ∧ IntsAre ys ((ps.take i).map g)) ?_ ?_ n 0 [] news (Nat.zero_add _) ⟨rfl, by simpa using IntsAre.nil⟩
  · rintro i ys nw v I oI C oC D m₂ h tk E' hi ⟨rfl, hy⟩ hv hC hx F N off ne
    obtain ⟨p, t, hp, rfl⟩ := hP i v hi hv
    refine wpAny_mono (turn p t ys I oI C oC D m₂ h tk E' (List.mem_of_getElem? hp) hC hx F N off) (fun y s' hy' => CompEnd.weaken hy' fun nw' j' => ?_) fun _ _ e => e
    obtain ⟨e1, t', e2⟩ := j'
    refine ⟨e1, ?_⟩
    rw [List.take_add_one, hp, e2]
    simp only [Option.toList_some, List.map_append, List.map_cons, List.map_nil]
    exact hy.append (.cons _ _ .nil)
  · rintro ys nw ⟨rfl, hy⟩
    refine fin ys ?_
    rw [hn, List.take_length] at hy
    exact hy
theorem off1_mem {D : Addr} : ∀ {l : List (Addr × Obj)}, Off1 D l → AllOff D l
  | [], _ => List.forall_mem_nil _
  | _ :: _, x => List.forall_mem_cons.mpr ⟨x.1, off1_mem x.2⟩
theorem ints_src {vs : List Value} {ps : List Int} (hi : IntsAre vs ps) {n : Nat} (hn : n = ps.length) : ∀ i v, i < n → vs[i]? = some v → ∃ p t, ps[i]? = some p ∧ v = .int p t := by
  intro i v hlt hv
  obtain ⟨t, hx⟩ := hi.get i ps[i] (by simp)
  rw [hv] at hx
  exact ⟨_, t, by simp, Option.some.inj hx⟩
end
end Mine
end
section
open PySem PySem.W PyProof.Rows PySem.Spec PySem.Calls PyProof
namespace Mine
section
variable {prog : Program} {w : World} {A : Around} {E : Value → Shared → Prop} {s : Shared} {h₀ : Heap}
theorem lt_off {l : Addr} : ∀ {news : List (Addr × Obj)}, AllLt l news → AllOff l news
  | [], _ => List.forall_mem_nil _
  | _ :: _, x => List.forall_mem_cons.mpr ⟨Nat.ne_of_lt x.1, lt_off x.2⟩
theorem cells2_off {h : Heap} {L l : Addr} {o o1 o2 : Obj} {rest : List (Addr × Obj)} (_N : News h₀ L h ((L + 1 + 1, o1) :: (L + 1, o2) :: (l, o) :: rest)) (hl : l < L) (ho : AllOff l rest) : AllOff l ((L + 1 + 1, o1) :: (L + 1, o2) :: rest) :=
  List.forall_mem_cons.mpr ⟨Nat.ne_of_gt (Nat.lt_succ_of_lt (Nat.lt_succ_of_lt hl)), List.forall_mem_cons.mpr ⟨Nat.ne_of_gt (Nat.lt_succ_of_lt hl), ho⟩⟩
theorem lt_all {d : Addr} {e : Addr} {news : List (Addr × Obj)} (h : AllLt d news) (hd : @LE.le Nat _ d e) : ∀ p ∈ news, p.1 ≠ e := by
  induction news with
  | nil => exact List.forall_mem_nil _
  | cons p r ih => exact List.forall_mem_cons.mpr ⟨Nat.ne_of_lt (Nat.lt_of_lt_of_le h.1 hd), ih h.2⟩
theorem off3_head {I C D l : Addr} {o oI oC oD : Obj} {nw : List (Addr × Obj)} (h : LCg.Off3 I C D ((l, o) :: nw)) (ho : AllOff l nw) : AllOff l ((I, oI) :: (C, oC) :: (D, oD) :: nw) :=
  List.forall_mem_cons.mpr ⟨Ne.symm h.1.1, List.forall_mem_cons.mpr ⟨Ne.symm h.1.2.1, List.forall_mem_cons.mpr ⟨Ne.symm h.1.2.2, ho⟩⟩⟩
theorem off_obj2 {l a b : Addr} {o1 o2 p1 p2 : Obj} {nw : List (Addr × Obj)} (h : AllOff l ((a, o1) :: (b, o2) :: nw)) : AllOff l ((a, p1) :: (b, p2) :: nw) :=
  List.forall_mem_cons.mpr ⟨(List.forall_mem_cons.mp h).1, List.forall_mem_cons.mpr ⟨(List.forall_mem_cons.mp (List.forall_mem_cons.mp h).2).1, (List.forall_mem_cons.mp (List.forall_mem_cons.mp h).2).2⟩⟩
theorem mem_rot3 {a b c d : Addr × Obj} (post : List (Addr × Obj)) : ∀ p, p ∈ b :: c :: d :: a :: post → p ∈ a :: b :: c :: d :: post := fun p hp => by
  simp only [List.mem_cons] at hp ⊢
  rcases hp with h | h | h | h | h <;> simp [h]
theorem mem_drop34 {a b c d : Addr × Obj} (post : List (Addr × Obj)) : ∀ p, p ∈ a :: b :: post → p ∈ a :: b :: c :: d :: post := fun p hp => by
  simp only [List.mem_cons] at hp ⊢
  rcases hp with h | h | h <;> simp [h]
theorem mem_drop23 {b c d : Addr × Obj} (post : List (Addr × Obj)) : ∀ p, p ∈ b :: post → p ∈ b :: c :: d :: post := fun p hp => by
  simp only [List.mem_cons] at hp ⊢
  rcases hp with h | h <;> simp [h]
/-- a list's run, put in the ledger -/
theorem slice_in {L l : Addr} {m : Str → Option Value} {value slice : PySem.Expr} {Qv : Value → Shared → Prop} {vs : List Value} {ns : List Int} {c : Nat} {x y : Int} {t u : Tok} {news : List (Addr × Obj)} (F : Fr h₀ L s.heap m) (N : News h₀ L s.heap news) (hm : (l, Lst vs c) ∈ news) (hi : IntsAre vs ns) (h0 : 0 ≤ x) (h1 : x ≤ y) (h2 : y ≤ ns.length) (hl : ns.length ≤ 1000)
    (h : ∀ D ws h', Fr h₀ L h' m → News h₀ L h' ((D, Lst ws 0) :: news) → AllOff D news → IntsAre ws ((ns.drop x.toNat).take (y - x).toNat) → Qv (.ref D) { s with heap := h' })
    (hs : subscripted slice false (.ref l) (.ref s.heap.objs.size) = operate [.ref s.heap.objs.size, .ref l] (getItem (.ref l) (.ref s.heap.objs.size)) := by with_unfolding_all rfl) (ht : ∀ r, letTemporaryGo value (.ref l) r = pure () := by intro _; with_unfolding_all rfl) :
    wpAny (model prog w) A (subscriptTail value slice (.ref l) (.ref s.heap.objs.size)) Qv E { s with heap := s.heap.push { cls := .type "slice", data := .fields #[.int x t, .int y u, .none] } } := by
  refine kmk_slice F N (lo := some x) (hi := some y) ⟨_, (N _ hm).1, rfl, c, rfl⟩ (IsPart.int _ _) (IsPart.int _ _) (fun D h' F' N' l1 => ?_) hs ht (by rw [List.size_toArray, hi.length, sizeLine_eq]; omega)
  exact h D _ h' F' (by rw [show Lst (slicePick vs.toArray (some x) (some y) none).toList 0 = listOf (slicePick vs.toArray (some x) (some y) none) 0 by simp [Lst]]; exact N') (off_lt l1) (slice_ints hi h0 h1 h2)

/-- the ledger's head grows by another list -/
theorem ext_head {L l b : Addr} {m : Str → Option Value} {Qv : Value → Shared → Prop} {vs ws : List Value} {c cb : Nat} {post : List (Addr × Obj)} (F : Fr h₀ L s.heap m) (N : News h₀ L s.heap ((l, Lst vs c) :: post)) (ho : AllOff l post) (hb : (b, Lst ws cb) ∈ post) (hne : ws.length ≠ 0) (hz : vs.length + ws.length ≤ 1000)
    (h : ∀ h', Fr h₀ L h' m → News h₀ L h' ((l, Lst (vs ++ ws) (c + 1)) :: post) → Qv .none { s with heap := h' }) : wpAny (model prog w) A (call (.builtin "list.extend") [.ref l, .ref b]) Qv E s :=
  kl_extend F N (.tail _ hb) rfl hne (.head ho) (by
      simp only [Builtin.List.listTooLong, List.size_toArray, sizeLine_eq]
      rw [show decide (vs.length + ws.length > 16777216) = false from decide_eq_false (by omega), Bool.and_false]
      exact Bool.false_ne_true) (by simp only [sizeLine_eq]; omega) (by simp only [List.size_toArray, sizeLine_eq]; omega) h

theorem setItem_slice {l sl b : Addr} {items new : Array Value} {n nb : Nat} {vl vu : Value} {lo hi : Option Int} {Q : Unit → Shared → Prop} (ho : s.heap.get? l = some (listOf items n)) (hb : s.heap.get? b = some (listOf new nb)) (hne : l ≠ b)
    (hs : s.heap.IsSliceOf sl vl vu .none) (pl : IsPart vl lo) (pu : IsPart vu hi) (hsz : items.size + new.size ≤ 1000)
    (hf : (items.extract 0 (sliceBounds lo hi none items.size).1.toNat ++ new ++ items.extract (max (sliceBounds lo hi none items.size).1 (sliceBounds lo hi none items.size).2.1).toNat items.size).size ≤ 2000)
    (h : Q () { s with heap := s.heap.update l (Obj.mapSeq fun xs => xs.extract 0 (sliceBounds lo hi none items.size).1.toNat ++ new ++ xs.extract (max (sliceBounds lo hi none items.size).1 (sliceBounds lo hi none items.size).2.1).toNat xs.size) }) :
    wpAny (model prog w) A (setItem (.ref l) (.ref sl) (.ref b)) Q E s := by
  have hl : s.heap.IsList l items := PySem.IsL.isList (n := n) ho
  have hlb : s.heap.IsList b new := PySem.IsL.isList (n := nb) hb
  obtain ⟨os, hos, hcs, hds⟩ := id hs
  have hTs : s.TypeIs (.ref sl) "slice" := ⟨os, hos, hcs⟩
  unfold setItem
  try with_reducible refine wpAny_holding ?_
  first | refine wpAny_bind (wpAny_pure ?_) | skip
  refine wpAny_bind (wpAny_sequenceKey hl.typeIs (by decide) ?_)
  refine wpAny_bind (wpAny_callSpecial?_slot (name := Str.ofString "__setitem__") hl.typeIs slot_list_setitem
    (wpAny_call_entry slot_list_setitem hl.typeIs entry_list_setitem ?_ (args_list_setitem _ _ _)))
  show wpAny _ _ (Builtin.List.listSubscript? (.ref sl) >>= _) _ _ s
  refine wpAny_bind ?_
  · unfold Builtin.List.listSubscript?
    refine wpAny_bind (wpAny_specialOf hTs slice_no_index ?_)
    simp only [Option.isNone_none, if_true]
    refine wpAny_pure ?_
    show wpAny _ _ (typeOf (.ref sl) >>= _) _ _ s
    refine wpAny_bind (wpAny_typeOf hTs ?_)
    rw [if_neg (by decide)]
    rw [listSliceParts_eq]
    refine wpAny_bind (wpAny_bind (wpAny_field hos hds (x := .none) rfl (wpAny_bind (wpAny_listPart IsPart.none ?_))))
    rw [if_neg (show ¬ ((rawPart none == rawInt 0) = true) from Bool.false_ne_true)]
    refine wpAny_bind (wpAny_field hos hds (x := vl) rfl (wpAny_bind (wpAny_listPart pl ?_)))
    refine wpAny_bind (wpAny_field hos hds (x := vu) rfl (wpAny_bind (wpAny_listPart pu (wpAny_pure ?_))))
    have hsame : Builtin.List.listSameRef (.ref l) (.ref b) = false := by simp [Builtin.List.listSameRef, hne]
    rw [hsame]
    simp only [Bool.false_eq_true, if_false]
    refine wpAny_bind ?_
    unfold Builtin.List.listAllItems
    refine wpAny_bind (wpAny_typeOf hlb.typeIs ?_)
    rw [if_pos (by decide)]
    refine listItems_at hb rfl ?_
    refine wpAny_bind (listItems_at ho rfl ?_)
    refine wpAny_bind (wpAny_of_eq (sliceIndices_raw lo hi none items.size (by decide)) ?_)
    generalize hB : sliceBounds lo hi none items.size = B at *
    obtain ⟨b1, b2, b3⟩ := B
    have e3 : b3 = 1 := by
      have : (sliceBounds lo hi none items.size).2.2 = 1 := rfl
      rw [hB] at this; exact this
    subst e3
    simp only [beq_self_eq_true, if_true]
    refine wpAny_bind (wpAny_rule ?_)
    rw [if_neg (by simp only [Builtin.List.listTooLong, sizeLine_eq, decide_eq_true_eq]; omega)]
    refine wpAny_bind (listUpdate_at ho rfl ?_ (by simp only [sizeLine_eq]; omega) (by simp only [sizeLine_eq]; dsimp only at hf ⊢; omega))
    refine wpAny_bind (wpAny_letGo ?_)
    exact wpAny_pure ⟨.none, rfl, wpAny_pure h⟩

theorem set_slice_head {L l b : Addr} {m : Str → Option Value} {Qv : Unit → Shared → Prop} {vs ws : List Value} {ns ms : List Int} {c cb : Nat} {x y : Int} {t u : Tok} {post : List (Addr × Obj)} (F : Fr h₀ L s.heap m) (N : News h₀ L s.heap ((l, Lst vs c) :: post)) (ho : AllOff l post) (hb : (b, Lst ws cb) ∈ post) (hi : IntsAre vs ns) (hj : IntsAre ws ms) (h0 : 0 ≤ x) (h1 : x ≤ y) (h2 : y ≤ ns.length) (he : (ms.length : Int) = y - x) (hl : ns.length ≤ 400)
    (h : ∀ h' vs', Fr h₀ L h' m → News h₀ L h' ((l, Lst vs' c) :: post) → IntsAre vs' (ns.take x.toNat ++ ms ++ ns.drop y.toNat) → Qv () { s with heap := h' }) :
    wpAny (model prog w) A (setItem (.ref l) (.ref s.heap.objs.size) (.ref b)) Qv E { s with heap := s.heap.push { cls := .type "slice", data := .fields #[.int x t, .int y u, .none] } } := by
  have F1 := F.push { cls := .type "slice", data := .fields #[.int x t, .int y u, .none] }
  have N1 : News h₀ L (s.heap.push { cls := .type "slice", data := .fields #[.int x t, .int y u, .none] }) _ := N.grown fun _ _ e => Heap.get?_push_of_some _ e
  have hvl := hi.length
  have hwl := hj.length
  have e1 : sliceBounds (some x) (some y) none vs.toArray.size = (x, y, 1) := by
    simp only [sliceBounds, Option.getD_none, show (1 : Int) > 0 by decide, if_true, if_neg (show ¬ (x < 0) by omega), if_neg (show ¬ (y < 0) by omega), List.size_toArray]
    congr 1
    · omega
    · congr 1
      omega
  have hv : vs.toArray.extract 0 x.toNat ++ ws.toArray ++ vs.toArray.extract (max x y).toNat vs.toArray.size = (vs.take x.toNat ++ ws ++ vs.drop y.toNat).toArray := by
    rw [show max x y = y by omega]
    apply Array.toList_inj.mp
    simp only [Array.toList_append, Array.toList_extract, List.extract_eq_take_drop, List.drop_zero, Nat.sub_zero, List.size_toArray]
    rw [List.take_of_length_le (l := List.drop _ _) (by rw [List.length_drop]; omega)]
  refine setItem_slice (lo := some x) (hi := some y) (n := c) (nb := cb) (N1 _ (.head _)).1 (N1 _ (.tail _ hb)).1 (fun q => ho _ hb q.symm) (Heap.IsSliceOf.new ..) (IsPart.int _ _) (IsPart.int _ _) (by simp only [List.size_toArray]; omega) ?_ ?_
  · rw [e1]
    dsimp only
    rw [hv, List.size_toArray, List.length_append, List.length_append, List.length_take, List.length_drop]
    omega
  · rw [e1]
    have z := N1 _ (.head _)
    refine h _ (vs.take x.toNat ++ ws ++ vs.drop y.toNat) (F1.change (Heap.SameBut.update ..) z.2.1 z.2.2) ?_ (((hi.take _).append hj).append (hi.drop _))
    refine kl_turn0 (pre := []) _ N1 (List.forall_mem_nil _) ho hv ?_
    rw [List.size_toArray, List.size_toArray, List.length_append, List.length_append, List.length_take, List.length_drop]
    omega
end
end Mine
end
section
open PySem PySem.W PyProof.Rows
set_option autoImplicit false
namespace Mine
/-- one diagonal -/
def zLow (n t : Int) : Int := if t - n + 1 > 0 then t - n + 1 else 0
def zHigh (n t : Int) : Int := if n - 1 < t then n - 1 else t
def zDiag (n t : Int) (ys : List Int) : List Int := ys.map fun y => y * n + t - y
def zUp (n t : Int) : List Int := zDiag n t (rangeKs (zLow n t) (zHigh n t + 1 - zLow n t).toNat)
def zDown (n t : Int) : List Int := zDiag n t (downKs (zHigh n t) (zHigh n t - (zLow n t - 1)).toNat)
def zRow (n t : Int) : List Int := if Int.fmod t 2 = 1 then zUp n t else zDown n t
def zAcc (n : Int) (ts : List Int) : List Int := ts.flatMap (zRow n)
def zz (n : Int) : List Int := zAcc n (rangeKs 0 (2 * n - 1 - 0).toNat)
theorem zDiag_step {n t k : Int} {ns us pre : List Int} (h : us = ns ++ zDiag n t pre) : us ++ [k * n + t - k] = ns ++ zDiag n t (pre ++ [k]) := by
  subst h; simp [zDiag]

theorem zAcc_step (n : Int) (pre : List Int) (k : Int) : zAcc n (pre ++ [k]) = zAcc n pre ++ zRow n k := by simp [zAcc]
theorem zEnd_up {n k : Int} {ns ms pre : List Int} (hp : ns = zAcc n pre ∧ ns.length ≤ 15 * pre.length) (hk : Int.fmod k 2 = 1) (hn : n ≤ 8) (k0 : 0 ≤ k)
    (h : ms = ns ++ zDiag n k (rangeKs (if k - n + 1 > 0 then k - n + 1 else 0) ((if n - 1 < k then n - 1 else k) + 1 - if k - n + 1 > 0 then k - n + 1 else 0).toNat)) :
    ms = zAcc n (pre ++ [k]) ∧ ms.length ≤ 15 * (pre ++ [k]).length := by
  constructor
  · rw [zAcc_step, h, ← hp.1, zRow, if_pos hk]; rfl
  · rw [h]
    simp only [List.length_append, zDiag, List.length_map, rangeKs_length, List.length_cons, List.length_nil]
    have := hp.2
    split <;> split <;> omega
theorem zEnd_down {n k : Int} {ns ms pre : List Int} (hp : ns = zAcc n pre ∧ ns.length ≤ 15 * pre.length) (hk : Int.fmod k 2 ≠ 1) (hn : n ≤ 8) (k0 : 0 ≤ k)
    (h : ms = ns ++ zDiag n k (downKs (if n - 1 < k then n - 1 else k) ((if n - 1 < k then n - 1 else k) - ((if k - n + 1 > 0 then k - n + 1 else 0) - 1)).toNat)) :
    ms = zAcc n (pre ++ [k]) ∧ ms.length ≤ 15 * (pre ++ [k]).length := by
  constructor
  · rw [zAcc_step, h, ← hp.1, zRow, if_neg hk]; rfl
  · rw [h]
    simp only [List.length_append, zDiag, List.length_map, downKs_length, List.length_cons, List.length_nil]
    have := hp.2
    split <;> split <;> omega

end Mine
namespace Mine
/-- one stored place of a block -/
def blkStep (rs : List Int) (st : List Int × Int) (p : Int) : List Int × Int := (st.1.set p.toNat (rs.getD st.2.toNat 0), st.2 + 1)
def toBlk (n : Int) (rs : List Int) : List Int := ((zz n).foldl (blkStep rs) (List.replicate (n * n).toNat 0, 0)).1
def rkStep (st : List Int × Int) (p : Int) : List Int × Int := (st.1.set p.toNat st.2, st.2 + 1)
def rks (n : Int) : List Int := ((zz n).foldl rkStep (List.replicate (n * n).toNat 0, 0)).1
theorem zz_facts {n : Int} (h0 : 0 < n) (h1 : n ≤ 8) : ((zz n).length : Int) = n * n ∧ (∀ p ∈ zz n, 0 ≤ p ∧ p < n * n) ∧ n * n ≤ 64 ∧ 0 < n * n := by
  have : n = 1 ∨ n = 2 ∨ n = 3 ∨ n = 4 ∨ n = 5 ∨ n = 6 ∨ n = 7 ∨ n = 8 := by omega
  rcases this with h | h | h | h | h | h | h | h <;> subst h <;> decide +kernel
theorem fold_facts {rs : List Int} {f : List Int × Int → Int → List Int × Int} (hf : ∀ st p, (f st p).1.length = st.1.length ∧ (f st p).2 = st.2 + 1) : ∀ (ps : List Int) (st : List Int × Int), (ps.foldl f st).1.length = st.1.length ∧ (ps.foldl f st).2 = st.2 + (ps.length : Int)
  | [], st => ⟨rfl, by simp⟩
  | p :: ps, st => by
    obtain ⟨a, b⟩ := fold_facts hf ps (f st p) (rs := rs)
    obtain ⟨c, d⟩ := hf st p
    exact ⟨by rw [List.foldl_cons, a, c], by rw [List.foldl_cons, b, d, List.length_cons]; omega⟩
end Mine
namespace Mine
theorem blk_len {rs : List Int} (st : List Int × Int) (p : Int) : (blkStep rs st p).1.length = st.1.length ∧ (blkStep rs st p).2 = st.2 + 1 := ⟨List.length_set .., rfl⟩
theorem blk_inv {n : Int} {rs ns pre rest : List Int} {i k : Int} (h0 : 0 < n) (h1 : n ≤ 8) (e : zz n = pre ++ k :: rest) (hp : (ns, i) = pre.foldl (blkStep rs) (List.replicate (n * n).toNat 0, 0)) :
    i = pre.length ∧ (ns.length : Int) = n * n ∧ 0 ≤ k ∧ k < n * n ∧ (pre.length : Int) < n * n ∧ n * n ≤ 64 := by
  obtain ⟨z1, z2, z3, z4⟩ := zz_facts h0 h1
  obtain ⟨a, b⟩ := fold_facts (rs := rs) (f := blkStep rs) blk_len pre (List.replicate (n * n).toNat 0, 0)
  rw [← hp] at a b
  have hk := z2 k (by rw [e]; exact List.mem_append.mpr (.inr (.head _)))
  have hl : (zz n).length = pre.length + (rest.length + 1) := by rw [e, List.length_append, List.length_cons]
  simp only [List.length_replicate] at a b
  refine ⟨by omega, by omega, hk.1, hk.2, by omega, z3⟩
theorem blk_step {rs ns pre : List Int} {i k : Int} {z : List Int × Int} (hp : (ns, i) = pre.foldl (blkStep rs) z) : (ns.set k.toNat (rs.getD i.toNat 0), i + 1) = (pre ++ [k]).foldl (blkStep rs) z := by
  rw [List.foldl_append, ← hp]; rfl
theorem blk_done {n : Int} {rs ns : List Int} {i : Int} (hp : (ns, i) = (zz n).foldl (blkStep rs) (List.replicate (n * n).toNat 0, 0)) : toBlk n rs = ns := by rw [toBlk, ← hp]
end Mine
namespace Mine
theorem rk_len (st : List Int × Int) (p : Int) : (rkStep st p).1.length = st.1.length ∧ (rkStep st p).2 = st.2 + 1 := ⟨List.length_set .., rfl⟩
theorem rk_inv {n : Int} {ns pre rest : List Int} {i k : Int} (h0 : 0 < n) (h1 : n ≤ 8) (e : zz n = pre ++ k :: rest) (hp : (ns, i) = pre.foldl rkStep (List.replicate (n * n).toNat 0, 0)) :
    i = pre.length ∧ (ns.length : Int) = n * n ∧ 0 ≤ k ∧ k < n * n ∧ n * n ≤ 64 := by
  obtain ⟨z1, z2, z3, z4⟩ := zz_facts h0 h1
  obtain ⟨a, b⟩ := fold_facts (rs := []) (f := rkStep) rk_len pre (List.replicate (n * n).toNat 0, 0)
  rw [← hp] at a b
  have hk := z2 k (by rw [e]; exact List.mem_append.mpr (.inr (.head _)))
  simp only [List.length_replicate] at a b
  refine ⟨by omega, by omega, hk.1, hk.2, z3⟩
theorem rk_step {ns pre : List Int} {i k : Int} {z : List Int × Int} (hp : (ns, i) = pre.foldl rkStep z) : (ns.set k.toNat i, i + 1) = (pre ++ [k]).foldl rkStep z := by
  rw [List.foldl_append, ← hp]; rfl
theorem rk_done {n : Int} {ns : List Int} {i : Int} (h0 : 0 < n) (h1 : n ≤ 8) (hp : (ns, i) = (zz n).foldl rkStep (List.replicate (n * n).toNat 0, 0)) : rks n = ns ∧ ns.length ≤ 64 := by
  obtain ⟨z1, z2, z3, z4⟩ := zz_facts h0 h1
  obtain ⟨a, b⟩ := fold_facts (rs := []) (f := rkStep) rk_len (zz n) (List.replicate (n * n).toNat 0, 0)
  rw [← hp] at a
  simp only [List.length_replicate] at a
  exact ⟨by rw [rks, ← hp], by omega⟩
end Mine
namespace Mine
def ord8 : List Int := [0, 1, 8, 16, 9, 2, 3, 10, 17, 24, 32, 25, 18, 11, 4, 5, 12, 19, 26, 33, 40, 48, 41, 34, 27, 20, 13, 6, 7, 14, 21, 28, 35, 42, 49, 56, 57, 50, 43, 36, 29, 22, 15, 23, 30, 37, 44, 51, 58, 59, 52, 45, 38, 31, 39, 46, 53, 60, 61, 54, 47, 55, 62, 63]
theorem zz8 : zz 8 = ord8 := by decide +kernel
end Mine
namespace Mine
/-- the last place that is not 0, or 0 -/
def IsLast (rs : List Int) (u : Int) : Prop := 0 ≤ u ∧ u < rs.length ∧ (∀ j : Nat, u < j → j < rs.length → rs.getD j 0 = 0) ∧ (u = 0 ∨ rs.getD u.toNat 0 ≠ 0)
theorem last_stop {rs : List Int} {k : Int} (h0 : 0 ≤ k) (h1 : k < rs.length) (h : ∀ j : Nat, k < j → j < rs.length → rs.getD j 0 = 0) (hc : ¬ 0 < k ∨ rs.getD k.toNat 0 ≠ 0) : IsLast rs k :=
  ⟨h0, h1, h, hc.imp (fun q => by omega) id⟩
theorem last_turn {rs : List Int} {k : Int} (hk : 0 < k) (h : ∀ j : Nat, k < j → j < rs.length → rs.getD j 0 = 0) (hz : rs.getD k.toNat 0 = 0) : ∀ j : Nat, k - 1 < j → j < rs.length → rs.getD j 0 = 0 := by
  intro j h1 h2
  by_cases e : k < j
  · exact h j e h2
  · have : j = k.toNat := by omega
    rw [this]; exact hz
end Mine
namespace Mine
def toRow (n : Int) (bs : List Int) : List Int := (zz n).map fun p => bs.getD p.toNat 0
theorem zz_len {n : Int} (h0 : 0 < n) (h1 : n ≤ 8) : (zz n).length ≤ 64 := by
  have := zz_facts h0 h1; omega
end Mine
namespace Mine
def corn (n less : Int) (bs : List Int) : List Int := (rangeKs 0 (less - 0).toNat).flatMap fun y => (bs.drop (y * n).toNat).take less.toNat
theorem corn_step (n less : Int) (bs : List Int) (pre : List Int) (k : Int) : (pre ++ [k]).flatMap (fun y => (bs.drop (y * n).toNat).take less.toNat) = pre.flatMap (fun y => (bs.drop (y * n).toNat).take less.toNat) ++ (bs.drop (k * n).toNat).take less.toNat := by simp
theorem toBlk_len {n : Int} (h0 : 0 < n) (h1 : n ≤ 8) (rs : List Int) : ((toBlk n rs).length : Int) = n * n := by
  obtain ⟨z1, z2, z3, z4⟩ := zz_facts h0 h1
  obtain ⟨a, b⟩ := fold_facts (rs := rs) (f := blkStep rs) blk_len (zz n) (List.replicate (n * n).toNat 0, 0)
  simp only [List.length_replicate] at a
  rw [toBlk, a]; omega
theorem toRow_len {n : Int} (h0 : 0 < n) (h1 : n ≤ 8) (bs : List Int) : ((toRow n bs).length : Int) = n * n := by
  rw [toRow, List.length_map, (zz_facts h0 h1).1]
end Mine
namespace Mine
def wStep (n less : Int) (sm : List Int) (bs : List Int) (y : Int) : List Int := bs.take (y * n).toNat ++ (sm.drop (y * less).toNat).take less.toNat ++ bs.drop (y * n + less).toNat
def wid (n less : Int) (sm : List Int) : List Int := (rangeKs 0 (less - 0).toNat).foldl (wStep n less sm) (List.replicate (n * n).toNat 0)
theorem wStep_step {n less : Int} {sm z : List Int} {ns pre : List Int} {k : Int} (h : ns = pre.foldl (wStep n less sm) z) : wStep n less sm ns k = (pre ++ [k]).foldl (wStep n less sm) z := by
  rw [List.foldl_append, ← h]; rfl
end Mine
end
section
open PySem PySem.W PyProof.Rows
namespace Mine
noncomputable abbrev PR : Program := PySem.Challenge.rw_nt0537_01.row.prog
noncomputable abbrev LO : List Str := looseW vw [Str.ofString "ORDER_8"]
end Mine
end
section
open PySem PySem.W PyProof.Rows
namespace Mine
section
local macro_rules | `(tactic| walk_at "my enter") => `(tactic| (
  have hrow9 : PySem.Challenge.rw_nt0537_01 = PySem.Challenge.rw_nt0537_01 := rfl
  have hK9 : (fun w : World => hK w.params) = fun w : World => hK w.params := rfl
  revert hrow9 hK9
  k_fill
  intro _ _
  refine wpAny_call ?_
  k_dflt cell_enter))
local macro_rules | `(tactic| walk_at "my site") => `(tactic| (
  (case B => k_asm); (case F => k_asm); (case X => k_asm); (case T => k_asm); (case hk => first | exact rfl | assumption); (case hdp => ktr_room); (case hun => ktr_units)))
local macro_rules | `(tactic| walk_at "my led") => `(tactic| ((rename News _ _ _ _ => lN9); first | exact lN9 | exact at1 lN9 | exact at2 lN9 | exact at3 lN9 | exact at4 lN9))
local macro_rules | `(tactic| walk_at "my off") => `(tactic| first | assumption | (exact List.forall_mem_nil _) | (refine List.forall_mem_cons.mpr ⟨?_, ?_⟩ <;> walk_at "my off"))
theorem fit_fmod {x n : Int} (h : 0 < n) (h2 : n ≤ 2 ^ 64) (y : Int) : PySem.IntMulOk (Int.fmod x n) y :=
  PySem.IntMulOk.of_left (PySem.intBits_le_64 (Int.lt_of_lt_of_le (by decide) (fmod_lo x h)) (Int.lt_of_lt_of_le (fmod_hi x h) h2))
local macro_rules | `(tactic| mul_fits) => `(tactic| (exact fit_fmod (n := 2147483647) (by decide) (by decide) _))
theorem getD0 (p q : Int) : [p, q].getD (Int.toNat 0) 0 = p := rfl
theorem getD1 (p q : Int) : [p, q].getD (Int.toNat 1) 0 = q := rfl
local macro_rules | `(tactic| walk_at "subscriptTail Name Constant ref int") => `(tactic| ((with_reducible show wpAny _ _ (subscriptTail _ _ (Value.ref _) (Value.int _ _)) _ _ _); (with_unfolding_all refine' item_list_ints ?k1 ?k2 ?k3 ?k4 ?k5 ?_; (case k1 => is_list); (case k2 => l_ints); (case k3 => l_idx); (case k4 => l_idx); (case k5 => l_idx); k_whole); intro _; (try simp only [getD0, getD1])))

local macro_rules | `(tactic| k_all) => `(tactic| (show AllOff _ _; assumption))
theorem take_spec {w : World} {mean : ExcName → Option Value} {mg mb : Str → Option Value}
  {dp un : Nat} {gd : Option (List Code)} {cn : Str} {cs : Scope} {a : Addr} {ccd : Value} {cl : List (Str × Addr)} {outer : List Env} {A₀ : Around} {base h₀ : Heap} {L : Addr} {m : Str → Option Value} {s : Shared} {Q E : Value → Shared → Prop}
  {l : Addr} {p q : Int} {t u : Tok} {n : Nat} {top : Int} {tt : Tok} {rest : List (Addr × Obj)}
  (B : Below A₀ base outer h₀) (F : Fr h₀ L s.heap m) (X : (hK w.params).In h₀) (N : News h₀ L s.heap ((l, Lst [.int p t, .int q u] n) :: rest)) (T : Top vw LO mean mg mb h₀) (hk : cs.kind = .function)
  (hoff : AllOff l rest)
  (hdp : dp + 2 < recursionLimit) (hun : un + 16 < cLine) (hp : 0 ≤ p) (hq : 0 ≤ q) (hq2 : q < 2147483647) (htop : 0 < top) (htop2 : top < 100)
  (hret : ∀ (d : Int) (td : Tok) (p' q' : Int) (t' u' : Tok) (n' : Nat) (h' : Heap) (tk' : Nat), Fr h₀ L h' m → News h₀ L h' ((l, Lst [.int p' t', .int q' u'] n') :: rest) → 0 ≤ d → d < top → 0 ≤ p' → 0 ≤ q' → q' < 2147483647 → Q (.int d td) { s with heap := h', toks := tk' }) :
  wpAny (model PR w) (ktrTop dp un gd cn cs L a ccd cl outer) (call (.ref 300) [.ref l, .int top tt]) Q E s := by
  walk_at "my enter"
  k_steps
  · refine hret _ _ _ _ _ _ _ _ _ (by assumption) (by assumption) ?_ ?_ ?_ ?_ ?_
    · exact fmod_lo _ htop
    · exact fmod_hi _ htop
    · exact Int.fdiv_nonneg hp (Int.le_of_lt htop)
    · exact hq
    · exact hq2
  · refine hret _ _ _ _ _ _ _ _ _ (by assumption) (by assumption) ?_ ?_ ?_ ?_ ?_
    · exact fmod_lo _ htop
    · exact fmod_hi _ htop
    · exact hp
    · exact fmod_lo _ (by decide)
    · exact fmod_hi _ (by decide)
end
end Mine
end
section
open PySem PySem.W PyProof.Rows
namespace Mine
section
local macro_rules | `(tactic| walk_at "call type:tuple") => `(tactic| ((rename Fr _ _ _ _ => lF); (rename News _ _ _ _ => lN); (rename IntsAre _ _ => hi9); (with_unfolding_all refine tuple_of lF lN (.head _) (by rw [hi9.length]; omega) ?_); (intro _ _ _ _ _)))
local macro_rules | `(tactic| walk_at "call builtin:list.append") => `(tactic| ((rename Fr _ _ _ _ => lF); (rename News _ _ _ _ => lN); (with_unfolding_all refine append_head lF lN (by assumption) ?_ ?_); rotate_left; (intro _ _ _); rotate_right; ((rename IntsAre _ _ => hi9); rw [hi9.length]; omega)))
local macro_rules | `(tactic| walk_at "InvEndN") => `(tactic| (refine stop ?_))
local macro_rules | `(tactic| walk_at "call type:range") => `(tactic| ((rename Fr _ _ _ _ => lF); (rename News _ _ _ _ => lN); first
  | (with_unfolding_all refine range2L lF lN ?_; intro _ _ _ _ _ _ _ _)
  | (with_unfolding_all refine range3L lF lN (by decide) (Or.inl (PyProof.noPylong_small (by omega))) ?_; intro _ _ _ _ _ _ _ _)))
local macro_rules | `(tactic| walk_at "pyIter ref") => `(tactic| (refine stop ?_))
local macro_rules | `(tactic| k_all) => `(tactic| (show AllOff _ _; assumption))
-- the enter of a contract: the frames, the written part
local macro_rules | `(tactic| walk_at "my enter") => `(tactic| (
  have hrow9 : PySem.Challenge.rw_nt0537_01 = PySem.Challenge.rw_nt0537_01 := rfl
  have hK9 : (fun w : World => hK w.params) = fun w : World => hK w.params := rfl
  revert hrow9 hK9
  k_fill
  intro _ _
  refine wpAny_call ?_
  k_dflt cell_enter))


theorem zig_spec {w : World} {mean : ExcName → Option Value} {mg mb : Str → Option Value}
  {dp un : Nat} {gd : Option (List Code)} {cn : Str} {cs : Scope} {a : Addr} {ccd : Value} {cl : List (Str × Addr)} {outer : List Env} {A₀ : Around} {base h₀ : Heap} {L : Addr} {m : Str → Option Value} {s : Shared} {Q E : Value → Shared → Prop}
  {n : Int} {tn : Tok} {rest : List (Addr × Obj)}
  (B : Below A₀ base outer h₀) (F : Fr h₀ L s.heap m) (X : (hK w.params).In h₀) (N : News h₀ L s.heap rest) (T : Top vw LO mean mg mb h₀) (hk : cs.kind = .function)
  (hdp : dp + 2 < recursionLimit) (hun : un + 16 < cLine) (hn : 0 < n) (hn2 : n ≤ 8)
  (hret : ∀ (r : Addr) (vs : List Value) (c : Nat) (h' : Heap) (tk' : Nat), Fr h₀ L h' m → News h₀ L h' ((r, Tup vs c) :: rest) → AllOff r rest → IntsAre vs (zz n) → Q (.ref r) { s with heap := h', toks := tk' }) :
  wpAny (model PR w) (ktrTop dp un gd cn cs L a ccd cl outer) (call (.ref 21) [.int n tn]) Q E s := by
  walk_at "my enter"
  k_steps
  unfold Stop
  rename Fr _ _ _ _ => lF
  rename News _ _ _ _ => lN
  rename IsRange _ _ _ _ _ _ _ _ => rgX
  have ho0 : ∀ l : Addr, (∀ p ∈ rest, p.1 < l) → AllOff l rest := fun l h p hp => Nat.ne_of_lt (h p hp)
  refine' rngL [Str.ofString "low", Str.ofString "high", Str.ofString "rows", Str.ofString "y"] (fun pre ns => ns = zAcc n pre ∧ ns.length ≤ 15 * pre.length) ?hh rgX ?sm (rangeSize_nat _ _) lF lN (ho0 _ (by assumption)) IntsAre.nil ?kp ?turn ?done
  case hh => rfl
  case sm => exact small_one (by omega) (by omega) (by omega) (by omega)
  case kp => exact ⟨rfl, Nat.le_refl _⟩
  case done =>
    clear lF lN
    intro vs ns c u h tk hf hp F' N'
    have hl := hp.2
    rw [rangeKs_length] at hl
    k_steps
    rename News _ _ _ _ => lN
    rename AllOff _ _ => hofr
    exact hret _ _ _ _ _ (by assumption) (news_sub lN (mem_skip _)) (fun p hp => hofr p (.tail _ hp)) (by rw [show zz n = ns from hp.1.symm]; assumption)
  case turn =>
    clear lF lN
    intro vs ns c pre k t u h tk own hk hlt hoff hf hp F' N'
    have k0 : 0 ≤ k := by omega
    have kn : k < 2 * n - 1 := by omega
    have hpl := hp.2
    k_steps
    · unfold Stop
      rename IntsAre _ _ => hf
      rename Fr _ _ _ _ => lF
      rename News _ _ _ _ => lN
      rename Int.fmod _ _ = _ => hmod
      rename AllOff _ _ => hofr
      have rgX := (lN _ (.head _)).1
      refine' rngL [] (fun pre ms => ms = ns ++ zDiag n k pre) ?hh rgX ?sm (rangeSize_nat _ _) lF (news_swap lN) (off_swap hofr hoff) hf ?kp ?turn ?done
      case hh => rfl
      case sm => exact small_one (by split <;> omega) (by split <;> omega) (by split <;> omega) (by split <;> omega)
      case kp => simp [zDiag]
      case turn =>
        clear lF lN
        intro us ms nn pre y t u h tk own hy hlt hoff hf hp F' N'
        have hl : ms.length ≤ 240 := by
          rw [hp]; simp only [List.length_append, zDiag, List.length_map]
          split at hlt <;> split at hlt <;> omega
        k_steps
        unfold Stop
        rename News _ _ _ _ => lN
        refine turn_end (_, ms ++ [y * n + k - y], _) (by assumption) lN (fun p hp => hp) rfl (hf.append (.cons _ _ .nil)) (List.forall_mem_nil _) ?h2 (zDiag_step hp)
        case h2 => kst_same
      case done =>
        clear lF lN
        intro us ms nn u h tk hf hp F' N'
        k_steps
        unfold Stop
        refine turn_end (us, ms, nn) (by assumption) N' (mem_skip _) rfl hf (List.forall_mem_nil _) ?h2 (zEnd_up (by assumption) hmod hn2 k0 hp)
        case h2 => kst_same
    · unfold Stop
      rename IntsAre _ _ => hf
      rename Fr _ _ _ _ => lF
      rename News _ _ _ _ => lN
      rename Int.fmod _ _ ≠ _ => hmod
      rename AllOff _ _ => hofr
      have rgX := (lN _ (.head _)).1
      refine' rngLD [] (fun pre ms => ms = ns ++ zDiag n k pre) ?hh rgX ?sm (rangeSize_downNat _ _) lF (news_swap lN) (off_swap hofr hoff) hf ?kp ?turn ?done
      case hh => rfl
      case sm => exact small_down (by split <;> omega) (by split <;> omega) (by split <;> omega) (by split <;> omega)
      case kp => simp [zDiag]
      case turn =>
        clear lF lN
        intro us ms nn pre y t u h tk own hy hlt hoff hf hp F' N'
        have hl : ms.length ≤ 240 := by
          rw [hp]; simp only [List.length_append, zDiag, List.length_map]
          split at hlt <;> split at hlt <;> omega
        k_steps
        unfold Stop
        rename News _ _ _ _ => lN
        refine turn_end (_, ms ++ [y * n + k - y], _) (by assumption) lN (fun p hp => hp) rfl (hf.append (.cons _ _ .nil)) (List.forall_mem_nil _) ?h2 (zDiag_step hp)
        case h2 => kst_same
      case done =>
        clear lF lN
        intro us ms nn u h tk hf hp F' N'
        k_steps
        unfold Stop
        refine turn_end (us, ms, nn) (by assumption) N' (mem_skip _) rfl hf (List.forall_mem_nil _) ?h2 (zEnd_down (by assumption) hmod hn2 k0 hp)
        case h2 => kst_same
end
end Mine
end
section
open PySem PySem.W PyProof.Rows
namespace Mine
theorem ord8_at {w : World} {h : Heap} (X : (hK w.params).In h) : ∃ us : List Value, h.IsTuple 239 us.toArray ∧ IntsAre us (zz 8) := by
  have hrow9 : PySem.Challenge.rw_nt0537_01 = PySem.Challenge.rw_nt0537_01 := rfl
  have hK9 : (fun w : World => hK w.params) = fun w : World => hK w.params := rfl
  revert hrow9 hK9
  k_fill
  intro _ _
  rw [zz8]
  have hl : ∃ l : List Value, ∃ dd, ∃ n, ∃ sl, (hK w.params).lookup 239 = some ⟨.type "tuple", dd, .seq l.toArray n, sl⟩ ∧ IntsAre l ord8 := by
    refine ⟨_, _, _, _, by k_dflt k_is, ?_⟩
    unfold ord8
    repeat' first | exact IntsAre.nil | refine IntsAre.cons _ _ ?_
  obtain ⟨l, dd, n, sl, e, hi⟩ := hl
  exact ⟨l, ⟨_, X _ _ e, rfl, n, rfl⟩, hi⟩
end Mine
end
section
open PySem PySem.W PyProof.Rows
namespace Mine
section
local macro_rules | `(tactic| walk_at "pad 0") => `(tactic| skip)
local macro_rules | `(tactic| walk_at "pad 1") => `(tactic| skip)
local macro_rules | `(tactic| walk_at "my enter") => `(tactic| (
  have hrow9 : PySem.Challenge.rw_nt0537_01 = PySem.Challenge.rw_nt0537_01 := rfl
  have hK9 : (fun w : World => hK w.params) = fun w : World => hK w.params := rfl
  revert hrow9 hK9
  k_fill
  intro _ _
  refine wpAny_call ?_
  k_dflt cell_enter))
local macro_rules | `(tactic| walk_at "my site") => `(tactic| (
  (case B => k_asm); (case F => k_asm); (case X => k_asm); (case T => k_asm); (case hk => first | exact rfl | assumption); (case hdp => ktr_room); (case hun => ktr_units)))
local macro_rules | `(tactic| walk_at "my led") => `(tactic| ((rename News _ _ _ _ => lN9); first | exact lN9 | exact at1 lN9 | exact at2 lN9 | exact at3 lN9 | exact at4 lN9))
local macro_rules | `(tactic| walk_at "my off") => `(tactic| first | assumption | (exact List.forall_mem_nil _) | (refine List.forall_mem_cons.mpr ⟨?_, ?_⟩ <;> walk_at "my off"))
local macro_rules | `(tactic| walk_at "call ref") => `(tactic| ((with_reducible show wpAny _ _ (call (Value.ref 21) _) _ _ _); k_dflt (refine' zig_spec ?B ?F ?X ?N ?T ?hk ?hdp ?hun ?hn ?hn2 ?_; walk_at "my site"; (case N => k_asm); (case hn => omega); (case hn2 => omega)); intro r9 vs9 c9 h9 tk9 F9 N9 ho9 hi9; (try dsimp only); (try k_fold)))

theorem order_spec {w : World} {mean : ExcName → Option Value} {mg mb : Str → Option Value}
  {dp un : Nat} {gd : Option (List Code)} {cn : Str} {cs : Scope} {a : Addr} {ccd : Value} {cl : List (Str × Addr)} {outer : List Env} {A₀ : Around} {base h₀ : Heap} {L : Addr} {m : Str → Option Value} {s : Shared} {Q E : Value → Shared → Prop}
  {n : Int} {tn : Tok} {rest : List (Addr × Obj)}
  (B : Below A₀ base outer h₀) (F : Fr h₀ L s.heap m) (X : (hK w.params).In h₀) (N : News h₀ L s.heap (rest)) (T : Top vw LO mean mg mb h₀) (hk : cs.kind = .function)
  (hdp : dp + 4 < recursionLimit) (hun : un + 32 < cLine) (hn : 0 < n) (hn2 : n ≤ 8)
  (hret8 : n = 8 → ∀ (h' : Heap) (tk' : Nat), Fr h₀ L h' m → News h₀ L h' rest → Q (.ref 239) { s with heap := h', toks := tk' })
  (hret : n ≠ 8 → ∀ (r : Addr) (vs : List Value) (c : Nat) (h' : Heap) (tk' : Nat), Fr h₀ L h' m → News h₀ L h' ((r, Tup vs c) :: rest) → AllOff r rest → IntsAre vs (zz n) → Q (.ref r) { s with heap := h', toks := tk' }) :
  wpAny (model PR w) (ktrTop dp un gd cn cs L a ccd cl outer) (call (.ref 246) [.int n tn]) Q E s := by
  walk_at "my enter"
  k_steps
  · exact hret8 (by assumption) _ _ (by assumption) (by assumption)
  · exact hret (by assumption) _ _ _ _ _ (by assumption) (by assumption) (by assumption) (by assumption)
end
end Mine
end
section
open PySem PySem.W PyProof.Rows
namespace Mine
section
local macro_rules | `(tactic| walk_at "my enter") => `(tactic| (
  have hrow9 : PySem.Challenge.rw_nt0537_01 = PySem.Challenge.rw_nt0537_01 := rfl
  have hK9 : (fun w : World => hK w.params) = fun w : World => hK w.params := rfl
  revert hrow9 hK9
  k_fill
  intro _ _
  refine wpAny_call ?_
  k_dflt cell_enter))
local macro_rules | `(tactic| walk_at "my site") => `(tactic| (
  (case B => k_asm); (case F => k_asm); (case X => k_asm); (case T => k_asm); (case hk => first | exact rfl | assumption); (case hdp => ktr_room); (case hun => ktr_units)))
local macro_rules | `(tactic| walk_at "my led") => `(tactic| ((rename News _ _ _ _ => lN9); first | exact lN9 | exact at1 lN9 | exact at2 lN9 | exact at3 lN9 | exact at4 lN9))
local macro_rules | `(tactic| walk_at "my off") => `(tactic| first | assumption | (exact List.forall_mem_nil _) | (refine List.forall_mem_cons.mpr ⟨?_, ?_⟩ <;> walk_at "my off"))
local macro_rules | `(tactic| walk_at "pyIter ref") => `(tactic| (refine stop ?_))
local macro_rules | `(tactic| walk_at "InvEndN") => `(tactic| (refine stop ?_))
local macro_rules | `(tactic| walk_at "binaryOp Mult ref int") => `(tactic| ((rename Fr _ _ _ _ => lF); (rename News _ _ _ _ => lN); (with_unfolding_all refine zeros lF lN (.head _) (by omega) (by omega) ?_); (intro _ _ _ _ _ _)))
local macro_rules | `(tactic| walk_at "subscriptTail Name Name ref int") => `(tactic| ((rename News _ _ _ _ => lN); (with_unfolding_all refine' sub_in lN ?hm ?hi ?h0 ?h1 ?hl ?_; (case hm => k_mem); (case hi => assumption); (case h0 => omega); (case h1 => omega); (case hl => omega); k_whole); intro _))
local macro_rules | `(tactic| walk_at "setItem ref int") => `(tactic| ((rename Fr _ _ _ _ => lF); (rename News _ _ _ _ => lN); (with_unfolding_all refine' set_head lF lN ?ho ?hi ?h0 ?h1 ?hl ?_; (case ho => assumption); (case hi => assumption); (case h0 => omega); (case h1 => omega); (case hl => omega); k_whole); intro _ _ _ _))
local macro_rules | `(tactic| walk_at "call ref") => `(tactic| ((with_reducible show wpAny _ _ (call (Value.ref 246) _) _ _ _); k_dflt (refine' order_spec ?B ?F ?X ?N ?T ?hk ?hdp ?hun ?hn ?hn2 ?h8 ?_; walk_at "my site"; (case N => k_asm); (case hn => omega); (case hn2 => omega); (case h8 => (intro e9; exact absurd e9 (by omega)))); intro _ r9 vs9 c9 h9 tk9 F9 N9 ho9 hi9; (try dsimp only); (try k_fold)))

theorem to_block_spec {w : World} {mean : ExcName → Option Value} {mg mb : Str → Option Value}
  {dp un : Nat} {gd : Option (List Code)} {cn : Str} {cs : Scope} {a : Addr} {ccd : Value} {cl : List (Str × Addr)} {outer : List Env} {A₀ : Around} {base h₀ : Heap} {L : Addr} {m : Str → Option Value} {s : Shared} {Q E : Value → Shared → Prop}
  {n : Int} {tn : Tok} {lr : Addr} {rv : List Value} {rc : Nat} {rs : List Int} {rest : List (Addr × Obj)}
  (B : Below A₀ base outer h₀) (F : Fr h₀ L s.heap m) (X : (hK w.params).In h₀) (N : News h₀ L s.heap ((lr, Lst rv rc) :: rest)) (T : Top vw LO mean mg mb h₀) (hk : cs.kind = .function)
  (hdp : dp + 6 < recursionLimit) (hun : un + 48 < cLine) (hi : IntsAre rv rs) (hl : (rs.length : Int) = n * n) (hn : 0 < n) (hn2 : n ≤ 4)
  (hret : ∀ (r : Addr) (vs : List Value) (c : Nat) (h' : Heap) (tk' : Nat), Fr h₀ L h' m → News h₀ L h' ((r, Lst vs c) :: (lr, Lst rv rc) :: rest) → AllOff r ((lr, Lst rv rc) :: rest) → IntsAre vs (toBlk n rs) → Q (.ref r) { s with heap := h', toks := tk' }) :
  wpAny (model PR w) (ktrTop dp un gd cn cs L a ccd cl outer) (call (.ref 265) [.ref lr, .int n tn]) Q E s := by
  obtain ⟨z1, z2, z3, z4⟩ := zz_facts hn (by omega : n ≤ 8)
  walk_at "my enter"
  k_steps
  unfold Stop
  rename Fr _ _ _ _ => lF
  rename News _ _ _ _ => lN
  refine' tupLI (y := Str.ofString "rank") [] (fun pre ns i => (ns, i) = pre.foldl (blkStep rs) (List.replicate (n * n).toNat 0, 0)) ?hh ?hi ?F (at1 lN) ?ho ?hf ?hy ?hp ?turn ?done
  case hh => rfl
  case F => exact lF
  case hi => assumption
  case hf => assumption
  case hy => with_unfolding_all rfl
  case hp => rfl
  case ho =>
    rename AllOff _ ((_, Lst (List.replicate _ _) _) :: _) => hofr
    rename AllOff _ ((_, Lst [_] _) :: _) => hofd
    exact off_swap hofr hofd
  case turn =>
    clear lF lN
    intro vs ns c i ti pre rest' k t u h tk own e hoff hf hp F' N'
    obtain ⟨b1, b2, b3, b4, b5, b6⟩ := blk_inv hn (by omega) e hp
    simp only [List.cons_append] at N' hoff
    k_steps
    unfold Stop
    rename News _ _ _ _ => lN
    rename IntsAre _ (List.set _ _ _) => hf2
    refine turn_end (_, _, _, i + 1, _) (by assumption) lN (fun p hp => hp) rfl hf2 (List.forall_mem_cons.mpr ⟨by with_unfolding_all rfl, List.forall_mem_nil _⟩) ?h2 (blk_step hp)
    case h2 => kst_same
  case done =>
    clear lF lN
    intro vs ns c i ti u h tk hf hp F' N'
    k_steps
    rename AllOff _ ((_, Lst [_] _) :: _) => hofd
    rename News _ _ _ _ => lN
    exact hret _ _ _ _ _ (by assumption) (news_sub lN (mem_skip2 _)) (fun p hp => hofd p (.tail _ hp)) (by rw [blk_done hp]; assumption)
end
end Mine
end
section
open PySem PySem.W PyProof.Rows
namespace Mine
section
local macro_rules | `(tactic| walk_at "pad 0") => `(tactic| skip)
local macro_rules | `(tactic| walk_at "my enter") => `(tactic| (
  have hrow9 : PySem.Challenge.rw_nt0537_01 = PySem.Challenge.rw_nt0537_01 := rfl
  have hK9 : (fun w : World => hK w.params) = fun w : World => hK w.params := rfl
  revert hrow9 hK9
  k_fill
  intro _ _
  refine wpAny_call ?_
  k_dflt cell_enter))
local macro_rules | `(tactic| walk_at "my site") => `(tactic| (
  (case B => k_asm); (case F => k_asm); (case X => k_asm); (case T => k_asm); (case hk => first | exact rfl | assumption); (case hdp => ktr_room); (case hun => ktr_units)))
local macro_rules | `(tactic| walk_at "my led") => `(tactic| ((rename News _ _ _ _ => lN9); first | exact lN9 | exact at1 lN9 | exact at2 lN9 | exact at3 lN9 | exact at4 lN9))
local macro_rules | `(tactic| walk_at "my off") => `(tactic| first | assumption | (exact List.forall_mem_nil _) | (refine List.forall_mem_cons.mpr ⟨?_, ?_⟩ <;> walk_at "my off"))
local macro_rules | `(tactic| walk_at "pyIter ref") => `(tactic| (refine stop ?_))
local macro_rules | `(tactic| walk_at "InvEndN") => `(tactic| (refine stop ?_))
local macro_rules | `(tactic| walk_at "binaryOp Mult ref int") => `(tactic| ((rename Fr _ _ _ _ => lF); (rename News _ _ _ _ => lN); (with_unfolding_all refine zeros lF lN (.head _) (by omega) (by omega) ?_); (intro _ _ _ _ _ _)))
local macro_rules | `(tactic| walk_at "call type:tuple") => `(tactic| ((rename Fr _ _ _ _ => lF); (rename News _ _ _ _ => lN); (rename IntsAre _ _ => hi9); (with_unfolding_all refine tuple_of lF lN (.head _) (by rw [hi9.length]; omega) ?_); (intro _ _ _ _ _)))
local macro_rules | `(tactic| walk_at "setItem ref int") => `(tactic| ((rename Fr _ _ _ _ => lF); (rename News _ _ _ _ => lN); (with_unfolding_all refine' set_head lF lN ?ho ?hi ?h0 ?h1 ?hl ?_; (case ho => assumption); (case hi => assumption); (case h0 => omega); (case h1 => omega); (case hl => omega); k_whole); intro _ _ _ _))
local macro_rules | `(tactic| walk_at "call ref") => `(tactic| ((with_reducible show wpAny _ _ (call (Value.ref 246) _) _ _ _); k_dflt (refine' order_spec ?B ?F ?X ?N ?T ?hk ?hdp ?hun ?hn ?hn2 ?_ ?_; walk_at "my site"; (case N => k_asm); (case hn => omega); (case hn2 => omega))))

theorem ranks_spec {w : World} {mean : ExcName → Option Value} {mg mb : Str → Option Value}
  {dp un : Nat} {gd : Option (List Code)} {cn : Str} {cs : Scope} {a : Addr} {ccd : Value} {cl : List (Str × Addr)} {outer : List Env} {A₀ : Around} {base h₀ : Heap} {L : Addr} {m : Str → Option Value} {s : Shared} {Q E : Value → Shared → Prop}
  {n : Int} {tn : Tok} {rest : List (Addr × Obj)}
  (B : Below A₀ base outer h₀) (F : Fr h₀ L s.heap m) (X : (hK w.params).In h₀) (N : News h₀ L s.heap (rest)) (T : Top vw LO mean mg mb h₀) (hk : cs.kind = .function)
  (hdp : dp + 6 < recursionLimit) (hun : un + 48 < cLine) (hn : 0 < n) (hn2 : n ≤ 8)
  (hret : ∀ (r : Addr) (vs : List Value) (c : Nat) (h' : Heap) (tk' : Nat), Fr h₀ L h' m → News h₀ L h' ((r, Tup vs c) :: rest) → AllOff r rest → IntsAre vs (rks n) → Q (.ref r) { s with heap := h', toks := tk' }) :
  wpAny (model PR w) (ktrTop dp un gd cn cs L a ccd cl outer) (call (.ref 253) [.int n tn]) Q E s := by
  obtain ⟨z1, z2, z3, z4⟩ := zz_facts hn (by omega : n ≤ 8)
  walk_at "my enter"
  k_steps
  · unfold Stop
    rename n = 8 => e8
    rename Fr _ _ _ _ => lF
    rename News _ _ _ _ => lN
    rename AllOff _ _ => hofd
    rename Frag.In _ _ => hX
    obtain ⟨us, hT, hI8⟩ := ord8_at hX
    have hI : IntsAre us (zz n) := by rw [e8]; exact hI8
    refine' tupLI0 (y := Str.ofString "rank") [] (fun pre ns i => (ns, i) = pre.foldl rkStep (List.replicate (n * n).toNat 0, 0)) ?hh hT ?hi ?F lN ?ho ?hf ?hy ?hp ?turn ?done
    case hh => rfl
    case F => exact lF
    case hi => exact hI
    case hf => assumption
    case hy => with_unfolding_all rfl
    case hp => rfl
    case ho => exact hofd
    case turn =>
      clear lF lN
      intro vs ns c i ti pre rest' k t u h tk own e hoff hf hp F' N'
      obtain ⟨b1, b2, b3, b4, b6⟩ := rk_inv hn (by omega) e hp
      simp only [List.cons_append] at N' hoff
      k_steps
      unfold Stop
      rename News _ _ _ _ => lN
      rename IntsAre _ (List.set _ _ _) => hf2
      refine turn_end (_, _, _, i + 1, _) (by assumption) lN (fun p hp => hp) rfl hf2 (List.forall_mem_cons.mpr ⟨by with_unfolding_all rfl, List.forall_mem_nil _⟩) ?h2 (rk_step hp)
      case h2 => kst_same
    case done =>
      clear lF lN
      intro vs ns c i ti u h tk hf hp F' N'
      obtain ⟨d1, d2⟩ := rk_done hn (by omega) hp
      k_steps
      rename AllOff _ ((_, Lst vs c) :: _) => hofd
      rename News _ _ _ _ => lN
      exact hret _ _ _ _ _ (by assumption) (news_sub lN (mem_skip2 _)) (fun p hp => hofd p (.tail _ (.tail _ hp))) (by rw [d1]; assumption)
  · unfold Stop
    rename AllOff _ ((_, Lst (List.replicate _ _) _) :: _) => ho9
    rename Fr _ _ _ _ => lF
    rename News _ _ _ _ => lN
    rename AllOff _ ((_, Lst [_] _) :: _) => hofd
    refine' tupLI (y := Str.ofString "rank") [] (fun pre ns i => (ns, i) = pre.foldl rkStep (List.replicate (n * n).toNat 0, 0)) ?hh ?hi ?F (at1 lN) ?ho ?hf ?hy ?hp ?turn ?done
    case hh => rfl
    case F => exact lF
    case hi => assumption
    case hf => assumption
    case hy => with_unfolding_all rfl
    case hp => rfl
    case ho => exact off_swap ho9 hofd
    case turn =>
      clear lF lN
      intro vs ns c i ti pre rest' k t u h tk own e hoff hf hp F' N'
      obtain ⟨b1, b2, b3, b4, b6⟩ := rk_inv hn (by omega) e hp
      simp only [List.cons_append] at N' hoff
      k_steps
      unfold Stop
      rename News _ _ _ _ => lN
      rename IntsAre _ (List.set _ _ _) => hf2
      refine turn_end (_, _, _, i + 1, _) (by assumption) lN (fun p hp => hp) rfl hf2 (List.forall_mem_cons.mpr ⟨by with_unfolding_all rfl, List.forall_mem_nil _⟩) ?h2 (rk_step hp)
      case h2 => kst_same
    case done =>
      clear lF lN
      intro vs ns c i ti u h tk hf hp F' N'
      obtain ⟨d1, d2⟩ := rk_done hn (by omega) hp
      k_steps
      rename AllOff _ ((_, Lst vs c) :: _) => hofd
      rename News _ _ _ _ => lN
      exact hret _ _ _ _ _ (by assumption) (news_sub lN (mem_skip3 _)) (fun p hp => hofd p (.tail _ (.tail _ (.tail _ hp)))) (by rw [d1]; assumption)
end
end Mine
end
section
open PySem PySem.W PyProof.Rows
namespace Mine
section
local macro_rules | `(tactic| walk_at "my enter") => `(tactic| (
  have hrow9 : PySem.Challenge.rw_nt0537_01 = PySem.Challenge.rw_nt0537_01 := rfl
  have hK9 : (fun w : World => hK w.params) = fun w : World => hK w.params := rfl
  revert hrow9 hK9
  k_fill
  intro _ _
  refine wpAny_call ?_
  k_dflt cell_enter))
local macro_rules | `(tactic| walk_at "my site") => `(tactic| (
  (case B => k_asm); (case F => k_asm); (case X => k_asm); (case T => k_asm); (case hk => first | exact rfl | assumption); (case hdp => ktr_room); (case hun => ktr_units)))
local macro_rules | `(tactic| walk_at "my led") => `(tactic| ((rename News _ _ _ _ => lN9); first | exact lN9 | exact at1 lN9 | exact at2 lN9 | exact at3 lN9 | exact at4 lN9))
local macro_rules | `(tactic| walk_at "my off") => `(tactic| first | assumption | (exact List.forall_mem_nil _) | (refine List.forall_mem_cons.mpr ⟨?_, ?_⟩ <;> walk_at "my off"))
local macro_rules | `(tactic| walk_at "exec While") => `(tactic| (refine stop ?_))
local macro_rules | `(tactic| walk_at "exec While BoolOp") => `(tactic| (refine stop ?_))
local macro_rules | `(tactic| walk_at "KswEnd") => `(tactic| (refine stop ?_))
local macro_rules | `(tactic| walk_at "call builtin:len") => `(tactic| ((rename News _ _ _ _ => lN); (with_unfolding_all refine' kst_len lN (.head _) ?e ?hf ?_; (case e => exact IntsAre.length (by assumption)); (case hf => omega); k_whole)))
local macro_rules | `(tactic| walk_at "subscriptTail Name Name ref int") => `(tactic| ((rename News _ _ _ _ => lN); (with_unfolding_all refine' sub_in lN ?hm ?hi ?h0 ?h1 ?hl ?_; (case hm => k_mem); (case hi => assumption); (case h0 => omega); (case h1 => omega); (case hl => omega); k_whole); intro _))

theorem last_used_spec {w : World} {mean : ExcName → Option Value} {mg mb : Str → Option Value}
  {dp un : Nat} {gd : Option (List Code)} {cn : Str} {cs : Scope} {a : Addr} {ccd : Value} {cl : List (Str × Addr)} {outer : List Env} {A₀ : Around} {base h₀ : Heap} {L : Addr} {m : Str → Option Value} {s : Shared} {Q E : Value → Shared → Prop}
  {lr : Addr} {rv : List Value} {rc : Nat} {rs : List Int} {rest : List (Addr × Obj)}
  (B : Below A₀ base outer h₀) (F : Fr h₀ L s.heap m) (X : (hK w.params).In h₀) (N : News h₀ L s.heap ((lr, Lst rv rc) :: rest)) (T : Top vw LO mean mg mb h₀) (hk : cs.kind = .function)
  (hdp : dp + 2 < recursionLimit) (hun : un + 16 < cLine) (hi : IntsAre rv rs) (hl : 0 < rs.length) (hl2 : rs.length ≤ 64)
  (hret : ∀ (u : Int) (tu : Tok) (h' : Heap) (tk' : Nat), Fr h₀ L h' m → News h₀ L h' ((lr, Lst rv rc) :: rest) → IsLast rs u → Q (.int u tu) { s with heap := h', toks := tk' }) :
  wpAny (model PR w) (ktrTop dp un gd cn cs L a ccd cl outer) (call (.ref 272) [.ref lr]) Q E s := by
  walk_at "my enter"
  k_steps
  unfold Stop
  rename Fr _ _ _ _ => lF
  rename News _ _ _ _ => lN
  refine' ksw_while (σ := Int × Tok) (fun _ => (lr, Lst rv rc) :: rest) (fun c => [(Str.ofString "rank", .int c.1 c.2)]) (fun _ => True) [] (fun c => 0 ≤ c.1 ∧ c.1 < rs.length ∧ ∀ j : Nat, c.1 < j → j < rs.length → rs.getD j 0 = 0) (fun c => c.1.toNat) (_, _) lF lN trivial ?hk ?hp ?turn
  case hk => exact List.forall_mem_cons.mpr ⟨by with_unfolding_all rfl, List.forall_mem_nil _⟩
  case hp => exact ⟨by dsimp only; omega, by dsimp only; omega, fun j h1 h2 => by dsimp only at h1; omega⟩
  case turn =>
    clear lF lN
    rintro ⟨k, tk⟩ u h tk2 _ ⟨p1, p2, p3⟩ F' N'
    dsimp only [kstB] at *
    k_steps
    · unfold Stop
      refine ksw_end (k - 1, _) (by assumption) (by assumption) (fun p hp => hp) trivial (List.forall_mem_cons.mpr ⟨by with_unfolding_all rfl, List.forall_mem_nil _⟩) (by ksw_same) ⟨by dsimp only; omega, by dsimp only; omega, last_turn (by assumption) p3 (by assumption)⟩ (by dsimp only; omega)
    · exact hret _ _ _ _ (by assumption) (by assumption) (last_stop p1 p2 p3 (.inr (by assumption)))
    · exact hret _ _ _ _ (by assumption) (by assumption) (last_stop p1 p2 p3 (.inl (by assumption)))
end
end Mine
end
section
open PySem PySem.W PyProof.Rows
namespace Mine
section
local macro_rules | `(tactic| walk_at "pad 0") => `(tactic| skip)
local macro_rules | `(tactic| walk_at "my enter") => `(tactic| (
  have hrow9 : PySem.Challenge.rw_nt0537_01 = PySem.Challenge.rw_nt0537_01 := rfl
  have hK9 : (fun w : World => hK w.params) = fun w : World => hK w.params := rfl
  revert hrow9 hK9
  k_fill
  intro _ _
  refine wpAny_call ?_
  k_dflt cell_enter))
local macro_rules | `(tactic| walk_at "my site") => `(tactic| (
  (case B => k_asm); (case F => k_asm); (case X => k_asm); (case T => k_asm); (case hk => first | exact rfl | assumption); (case hdp => ktr_room); (case hun => ktr_units)))
local macro_rules | `(tactic| walk_at "my led") => `(tactic| ((rename News _ _ _ _ => lN9); first | exact lN9 | exact at1 lN9 | exact at2 lN9 | exact at3 lN9 | exact at4 lN9))
local macro_rules | `(tactic| walk_at "my off") => `(tactic| first | assumption | (exact List.forall_mem_nil _) | (refine List.forall_mem_cons.mpr ⟨?_, ?_⟩ <;> walk_at "my off"))
local macro_rules | `(tactic| walk_at "my enterC") => `(tactic| (
  have hrow9 : PySem.Challenge.rw_nt0537_01 = PySem.Challenge.rw_nt0537_01 := rfl
  have hK9 : (fun w : World => hK w.params) = fun w : World => hK w.params := rfl
  revert hrow9 hK9
  k_fill
  intro _ _
  refine wpAny_call ?_
  k_dflt (refine' code_defC ?k1 ?k2 ?k3 ?k4 ?k5 ?kA ?kF ?kK ?k6 ?k7 ?k8 ?k9 ?kB ?kD ?_ ?c2 ?c3 ?c4; (case kA => exact rfl); (case kF => exact rfl); (case kK => assumption); (case k1 => k_asm); (case k2 => k_asm); (case k3 => k_asm); (case k4 => k_asm); (case k5 => k_asm); (case k6 => k_is); (case k7 => k_is); (case k8 => ktr_room); (case k9 => exact BindsTo.of_eq rfl); (case kB => exact rfl); (case kD => decide +kernel); (case c2 => exact rfl); (case c3 => exact rfl); (case c4 => exact rfl); k_whole; intro g' L' h' tk' cells' FG' F' N' Y' B' X' T' l1; (try k_lt l1); k_cells Y'; (try simp only [List.cons_append, List.nil_append] at N'); (try dsimp only); (try k_lift B'); (try k_fold))))
local macro_rules | `(tactic| walk_at "eval ListComp") => `(tactic| (refine stop ?_))
local macro_rules | `(tactic| walk_at "exec Assign cons ListComp") => `(tactic| (refine stop ?_))
local macro_rules | `(tactic| walk_at "CompEnd") => `(tactic| (refine stop ?_))
local macro_rules | `(tactic| walk_at "subscriptTail Name Name ref int") => `(tactic| ((rename News _ _ _ _ => lN); (with_unfolding_all refine' sub_in lN ?hm ?hi ?h0 ?h1 ?hl ?_; (case hm => k_mem); (case hi => assumption); (case h0 => omega); (case h1 => omega); (case hl => omega); k_whole); intro _))
local macro_rules | `(tactic| walk_at "call ref") => `(tactic| ((with_reducible show wpAny _ _ (call (Value.ref 246) _) _ _ _); k_dflt (refine' order_spec ?B ?F ?X ?N ?T ?hk ?hdp ?hun ?hn ?hn2 ?h8 ?_; walk_at "my site"; (case N => k_asm); (case hn => omega); (case hn2 => omega); (case h8 => (intro e9; exact absurd e9 (by omega)))); intro _ r9 vs9 c9 h9 tk9 F9 N9 ho9 hi9; (try dsimp only); (try k_fold)))

local macro_rules | `(tactic| walk_at "Exists") => `(tactic| (refine stop ?_))
theorem to_row_spec {w : World} {mean : ExcName → Option Value} {mg mb : Str → Option Value}
  {dp un : Nat} {gd : Option (List Code)} {cn : Str} {cs : Scope} {a : Addr} {ccd : Value} {cl : List (Str × Addr)} {outer : List Env} {A₀ : Around} {base h₀ : Heap} {L : Addr} {m : Str → Option Value} {s : Shared} {Q E : Value → Shared → Prop}
  {n : Int} {tn : Tok} {lb : Addr} {bv : List Value} {bc : Nat} {bs : List Int} {rest : List (Addr × Obj)}
  (B : Below A₀ base outer h₀) (F : Fr h₀ L s.heap m) (X : (hK w.params).In h₀) (N : News h₀ L s.heap ((lb, Lst bv bc) :: rest)) (T : Top vw LO mean mg mb h₀) (hk : cs.kind = .function)
  (hdp : dp + 6 < recursionLimit) (hun : un + 48 < cLine) (hi : IntsAre bv bs) (hl : (bs.length : Int) = n * n) (hn : 0 < n) (hn2 : n ≤ 4)
  (hret : ∀ (r : Addr) (vs : List Value) (c : Nat) (h' : Heap) (tk' : Nat), Fr h₀ L h' m → News h₀ L h' ((r, Lst vs c) :: (lb, Lst bv bc) :: rest) → AllOff r ((lb, Lst bv bc) :: rest) → IntsAre vs (toRow n bs) → Q (.ref r) { s with heap := h', toks := tk' }) :
  wpAny (model PR w) (ktrTop dp un gd cn cs L a ccd cl outer) (call (.ref 258) [.ref lb, .int n tn]) Q E s := by
  obtain ⟨z1, z2, z3, z4⟩ := zz_facts hn (by omega : n ≤ 8)
  walk_at "my enterC"
  k_steps
  unfold Stop
  k_dflt (refine LC_tup (by assumption) (by with_unfolding_all rfl) (by decide) (by rfl) (by decide) (by rfl) ?_)
  k_steps
  unfold Stop
  rename Fr _ _ _ _ => lF
  rename News _ _ _ _ => lN
  refine ⟨_, _, _, _, rfl, rfl, lF, lN, .head _, by rename IntsAre _ (zz n) => hz; rw [hz.length]; omega, fun g => rest_map (ps := zz n) (fun p => bs.getD p.toNat 0) (by rename IntsAre _ (zz n) => hz; exact hz.length) (by rename IntsAre _ (zz n) => hz; exact ints_src hz hz.length) ?turn ?fin⟩
  case turn =>
    intro p t ys I oI C oC D m₂ h tk E' hp hC hx F' N' off
    obtain ⟨p0, p1⟩ := z2 p hp
    k_steps
    unfold Stop
    exact LCg.CompEnd.intro (by assumption) (by assumption) _ (fun p hp => hp) (by assumption) (.head _) ⟨rfl, _, rfl⟩
  case fin =>
    intro ys hys
    unfold LCg.FinE
    intro D h tk F' N' o1
    k_steps
    rename Fr h₀ L _ m => kF
    rename News h₀ L _ _ => kN
    exact hret _ ys _ _ _ kF (news_sub kN (mem_skip2 _)) (fun p hp => off1_mem o1 p (List.mem_cons_of_mem _ (List.mem_cons_of_mem _ hp))) (by assumption)
end
end Mine
end
section
open PySem PySem.W PyProof.Rows
namespace Mine
section
local macro_rules | `(tactic| walk_at "pad 0") => `(tactic| skip)
local macro_rules | `(tactic| walk_at "pad 1") => `(tactic| skip)
local macro_rules | `(tactic| walk_at "pad 2") => `(tactic| skip)
local macro_rules | `(tactic| walk_at "my enter") => `(tactic| (
  have hrow9 : PySem.Challenge.rw_nt0537_01 = PySem.Challenge.rw_nt0537_01 := rfl
  have hK9 : (fun w : World => hK w.params) = fun w : World => hK w.params := rfl
  revert hrow9 hK9
  k_fill
  intro _ _
  refine wpAny_call ?_
  k_dflt cell_enter))
local macro_rules | `(tactic| walk_at "my site") => `(tactic| (
  (case B => k_asm); (case F => k_asm); (case X => k_asm); (case T => k_asm); (case hk => first | exact rfl | assumption); (case hdp => ktr_room); (case hun => ktr_units)))
local macro_rules | `(tactic| walk_at "my led") => `(tactic| ((rename News _ _ _ _ => lN9); first | exact lN9 | exact at1 lN9 | exact at2 lN9 | exact at3 lN9 | exact at4 lN9))
local macro_rules | `(tactic| walk_at "my off") => `(tactic| first | assumption | (exact List.forall_mem_nil _) | (refine List.forall_mem_cons.mpr ⟨?_, ?_⟩ <;> walk_at "my off"))
local macro_rules | `(tactic| walk_at "my om") => `(tactic| ((rename Stop (_ ∧ _) => hB9); (have hB8 := stop hB9); omega))
local macro_rules | `(tactic| walk_at "pyIter ref") => `(tactic| (refine stop ?_))
local macro_rules | `(tactic| walk_at "InvEndN") => `(tactic| (refine stop ?_))
local macro_rules | `(tactic| walk_at "call ref") => `(tactic| (
  (first
    | ((with_reducible show wpAny _ _ (call (Value.ref 265) _) _ _ _); k_dflt (refine' to_block_spec ?B ?F ?X ?N ?T ?hk ?hdp ?hun ?hi ?hl ?hn ?hn2 ?_; walk_at "my site"; (case N => walk_at "my led"); (case hi => assumption); (case hl => assumption); (case hn => omega); (case hn2 => walk_at "my om")))
    | ((with_reducible show wpAny _ _ (call (Value.ref 258) _) _ _ _); k_dflt (refine' to_row_spec ?B ?F ?X ?N ?T ?hk ?hdp ?hun ?hi ?hl ?hn ?hn2 ?_; walk_at "my site"; (case N => walk_at "my led"); (case hi => assumption); (case hl => assumption); (case hn => omega); (case hn2 => walk_at "my om"))));
  intro r9 vs9 c9 h9 tk9 F9 N9 ho9 hi9; (try dsimp only); (try k_fold)))

local macro_rules | `(tactic| walk_at "subscriptTail Name Slice ref ref") => `(tactic| ((rename Fr _ _ _ _ => lF); (rename News _ _ _ _ => lN); (with_unfolding_all refine' slice_in lF lN ?hm ?hi ?h0 ?h1 ?h2 ?hl ?_; (case hm => k_mem); (case hi => assumption); (case h0 => omega); (case h1 => omega); (case h2 => omega); (case hl => omega); k_whole); intro _ _ _ _ _ _ _; (try k_sweep)))
local macro_rules | `(tactic| walk_at "call builtin:list.extend") => `(tactic| ((rename Fr _ _ _ _ => lF); (rename News _ _ _ _ => lN); (with_unfolding_all refine' ext_head lF (at1 lN) ?ho (.head _) ?hne ?hz ?_; (case ho => exact off_swap (by assumption) (by assumption)); (case hne => rename IntsAre _ (List.take _ (List.drop _ _)) => hw; rw [hw.length, List.length_take, List.length_drop]; omega); (case hz => rename IntsAre _ (List.take _ (List.drop _ _)) => hw; rw [hw.length, List.length_take, List.length_drop, IntsAre.length (by assumption)]; omega); k_whole); intro _ _ _; (try k_sweep)))
theorem corner_spec {w : World} {mean : ExcName → Option Value} {mg mb : Str → Option Value}
  {dp un : Nat} {gd : Option (List Code)} {cn : Str} {cs : Scope} {a : Addr} {ccd : Value} {cl : List (Str × Addr)} {outer : List Env} {A₀ : Around} {base h₀ : Heap} {L : Addr} {m : Str → Option Value} {s : Shared} {Q E : Value → Shared → Prop}
  {n less : Int} {tn tl : Tok} {lr : Addr} {rv : List Value} {rc : Nat} {rs : List Int} {rest : List (Addr × Obj)}
  (B : Below A₀ base outer h₀) (F : Fr h₀ L s.heap m) (X : (hK w.params).In h₀) (N : News h₀ L s.heap ((lr, Lst rv rc) :: rest)) (T : Top vw LO mean mg mb h₀) (hk : cs.kind = .function)
  (hdp : dp + 10 < recursionLimit) (hun : un + 80 < cLine) (hi : IntsAre rv rs) (hl : (rs.length : Int) = n * n) (hn : 0 < less) (hB : Stop (less ≤ n ∧ n ≤ 4))
  (hret : ∀ (r : Addr) (vs : List Value) (c : Nat) (h' : Heap) (tk' : Nat), Fr h₀ L h' m → News h₀ L h' ((r, Lst vs c) :: (lr, Lst rv rc) :: rest) → AllOff r ((lr, Lst rv rc) :: rest) → IntsAre vs (toRow less (corn n less (toBlk n rs))) → Q (.ref r) { s with heap := h', toks := tk' }) :
  wpAny (model PR w) (ktrTop dp un gd cn cs L a ccd cl outer) (call (.ref 279) [.ref lr, .int n tn, .int less tl]) Q E s := by
  have n0 : 0 < n := by have := stop hB; omega
  obtain ⟨z1, z2, z3, z4⟩ := zz_facts n0 (by have := stop hB; omega : n ≤ 8)
  obtain ⟨y1, y2, y3, y4⟩ := zz_facts hn (by have := stop hB; omega : less ≤ 8)
  walk_at "my enter"
  k_steps
  unfold Stop
  rename Fr _ _ _ _ => lF
  rename News _ _ _ _ => lN
  rename IsRange _ _ _ _ _ _ _ _ => rgX
  rename IntsAre _ (toBlk n rs) => hblk
  have hB' := stop hB
  have hbl := toBlk_len n0 (by omega : n ≤ 8) rs
  generalize toBlk n rs = bs at *
  refine' rngL [] (fun pre ns => ns = pre.flatMap (fun y => (bs.drop (y * n).toNat).take less.toNat) ∧ (ns.length : Int) = pre.length * less) ?hh rgX ?sm (rangeSize_nat _ _) lF lN ?ho IntsAre.nil ?kp ?turn ?done
  case hh => rfl
  case sm => exact small_one (by omega) (by omega) (by omega) (by omega)
  case kp => exact ⟨rfl, by simp⟩
  case ho =>
    rename (_ < _ ∧ _ < _ ∧ AllLt _ rest) => hlt9
    exact lt_off (news := (_, Lst _ _) :: (_, Lst _ _) :: rest) hlt9
  case done =>
    clear lF lN
    intro vs ns c u h tk hf hp F' N'
    obtain ⟨hp1, hp2⟩ := hp
    rw [rangeKs_length] at hp2
    have hp3 : (ns.length : Int) = less * less := by rw [hp2, show (((less - 0).toNat : Nat) : Int) = less by omega]
    k_steps
    rename News _ _ _ _ => lN
    rename AllOff _ ((_, Lst vs c) :: _) => hofr
    refine hret _ _ _ _ _ (by assumption) (news_sub lN (mem_skip2 _)) (fun p hp => hofr p (.tail _ (.tail _ hp))) ?_
    rw [show corn n less bs = ns from hp1.symm]
    assumption
  case turn =>
    clear lF lN
    intro vs ns c pre k t u h tk own hk hlt hoff hf hp F' N'
    have k0 : 0 ≤ k := by omega
    have kn : k < less := by omega
    have hq : (pre.length : Int) * less ≤ 4 * 4 := Int.mul_le_mul (by omega) (by omega) (by omega) (by omega)
    have kn0 : 0 ≤ k * n := Int.mul_nonneg k0 (by omega)
    have kn1 : k * n + n ≤ n * n := by
      have := Int.mul_le_mul_of_nonneg_right (by omega : k + 1 ≤ n) (by omega : 0 ≤ n)
      rw [Int.add_mul, Int.one_mul] at this
      exact this
    k_steps
    unfold Stop
    rename News _ _ _ _ => lN
    rename IntsAre _ (List.take _ (List.drop _ _)) => hw
    refine turn_end (_, _, _) (by assumption) lN (fun p hp => mem_skip _ p hp) rfl (hf.append hw) (List.forall_mem_nil _) ?h2 ⟨?c1, ?c2⟩
    case h2 => kst_same
    case c1 => rw [corn_step, ← hp.1, show (k * n + less - k * n).toNat = less.toNat by omega]
    case c2 =>
      rw [List.length_append, List.length_append, List.length_take, List.length_drop, List.length_singleton]
      have e1 : ((min (k * n + less - k * n).toNat (bs.length - (k * n).toNat) : Nat) : Int) = less := by omega
      rw [Int.natCast_add, Int.natCast_add, e1, hp.2, Int.add_mul]
      simp
end
end Mine
end
section
open PySem PySem.W PyProof.Rows
namespace Mine
section
local macro_rules | `(tactic| walk_at "pad 0") => `(tactic| skip)
local macro_rules | `(tactic| walk_at "pad 1") => `(tactic| skip)
local macro_rules | `(tactic| walk_at "my enter") => `(tactic| (
  have hrow9 : PySem.Challenge.rw_nt0537_01 = PySem.Challenge.rw_nt0537_01 := rfl
  have hK9 : (fun w : World => hK w.params) = fun w : World => hK w.params := rfl
  revert hrow9 hK9
  k_fill
  intro _ _
  refine wpAny_call ?_
  k_dflt cell_enter))
local macro_rules | `(tactic| walk_at "my site") => `(tactic| (
  (case B => k_asm); (case F => k_asm); (case X => k_asm); (case T => k_asm); (case hk => first | exact rfl | assumption); (case hdp => ktr_room); (case hun => ktr_units)))
local macro_rules | `(tactic| walk_at "my led") => `(tactic| ((rename News _ _ _ _ => lN9); first | exact lN9 | exact at1 lN9 | exact at2 lN9 | exact at3 lN9 | exact at4 lN9))
local macro_rules | `(tactic| walk_at "my off") => `(tactic| first | assumption | (exact List.forall_mem_nil _) | (refine List.forall_mem_cons.mpr ⟨?_, ?_⟩ <;> walk_at "my off"))
local macro_rules | `(tactic| walk_at "my om") => `(tactic| ((rename Stop (_ ∧ _) => hB9); (have hB8 := stop hB9); omega))
local macro_rules | `(tactic| walk_at "pyIter ref") => `(tactic| (refine stop ?_))
local macro_rules | `(tactic| walk_at "InvEndN") => `(tactic| (refine stop ?_))
local macro_rules | `(tactic| walk_at "call ref") => `(tactic| (
  (first
    | ((with_reducible show wpAny _ _ (call (Value.ref 265) _) _ _ _); k_dflt (refine' to_block_spec ?B ?F ?X ?N ?T ?hk ?hdp ?hun ?hi ?hl ?hn ?hn2 ?_; walk_at "my site"; (case N => walk_at "my led"); (case hi => assumption); (case hl => assumption); (case hn => omega); (case hn2 => walk_at "my om")))
    | ((with_reducible show wpAny _ _ (call (Value.ref 258) _) _ _ _); k_dflt (refine' to_row_spec ?B ?F ?X ?N ?T ?hk ?hdp ?hun ?hi ?hl ?hn ?hn2 ?_; walk_at "my site"; (case N => walk_at "my led"); (case hi => assumption); (case hl => assumption); (case hn => omega); (case hn2 => walk_at "my om"))));
  intro r9 vs9 c9 h9 tk9 F9 N9 ho9 hi9; (try dsimp only); (try k_fold)))

local macro_rules | `(tactic| walk_at "subscriptTail Name Slice ref ref") => `(tactic| ((rename Fr _ _ _ _ => lF); (rename News _ _ _ _ => lN); (with_unfolding_all refine' slice_in lF lN ?hm ?hi ?h0 ?h1 ?h2 ?hl ?_; (case hm => k_mem); (case hi => assumption); (case h0 => omega); (case h1 => omega); (case h2 => omega); (case hl => omega); k_whole); intro _ _ _ _ _ _ _; (try k_sweep)))
local macro_rules | `(tactic| walk_at "call builtin:list.extend") => `(tactic| ((rename Fr _ _ _ _ => lF); (rename News _ _ _ _ => lN); (with_unfolding_all refine' ext_head lF (at1 lN) ?ho (.head _) ?hne ?hz ?_; (case ho => exact off_swap (by assumption) (by assumption)); (case hne => rename IntsAre _ (List.take _ (List.drop _ _)) => hw; rw [hw.length, List.length_take, List.length_drop]; omega); (case hz => rename IntsAre _ (List.take _ (List.drop _ _)) => hw; rw [hw.length, List.length_take, List.length_drop, IntsAre.length (by assumption)]; omega); k_whole); intro _ _ _; (try k_sweep)))
local macro_rules | `(tactic| walk_at "binaryOp Mult ref int") => `(tactic| ((rename Fr _ _ _ _ => lF); (rename News _ _ _ _ => lN); (with_unfolding_all refine zeros lF lN (.head _) (by omega) (by omega) ?_); (intro _ _ _ _ _ _)))
local macro_rules | `(tactic| walk_at "setItem ref ref") => `(tactic| ((rename Fr _ _ _ _ => lF); (rename News _ _ _ _ => lN); (with_unfolding_all refine' set_slice_head lF (at1 lN) ?ho (.head _) ?hi ?hj ?h0 ?h1 ?h2 ?he ?hl ?_; (case ho => exact off_swap (by assumption) (by assumption)); (case hi => assumption); (case hj => assumption); (case h0 => omega); (case h1 => omega); (case h2 => omega); (case he => rw [List.length_take, List.length_drop]; omega); (case hl => omega); k_whole); intro _ _ _ _ _; (try k_sweep)))
theorem widened_spec {w : World} {mean : ExcName → Option Value} {mg mb : Str → Option Value}
  {dp un : Nat} {gd : Option (List Code)} {cn : Str} {cs : Scope} {a : Addr} {ccd : Value} {cl : List (Str × Addr)} {outer : List Env} {A₀ : Around} {base h₀ : Heap} {L : Addr} {m : Str → Option Value} {s : Shared} {Q E : Value → Shared → Prop}
  {n less : Int} {tn tl : Tok} {lr : Addr} {rv : List Value} {rc : Nat} {rs : List Int} {rest : List (Addr × Obj)}
  (B : Below A₀ base outer h₀) (F : Fr h₀ L s.heap m) (X : (hK w.params).In h₀) (N : News h₀ L s.heap ((lr, Lst rv rc) :: rest)) (T : Top vw LO mean mg mb h₀) (hk : cs.kind = .function)
  (hdp : dp + 10 < recursionLimit) (hun : un + 80 < cLine) (hi : IntsAre rv rs) (hl : (rs.length : Int) = less * less) (hn : 0 < less) (hB : Stop (less ≤ n ∧ n ≤ 4))
  (hret : ∀ (r : Addr) (vs : List Value) (c : Nat) (h' : Heap) (tk' : Nat), Fr h₀ L h' m → News h₀ L h' ((r, Lst vs c) :: (lr, Lst rv rc) :: rest) → AllOff r ((lr, Lst rv rc) :: rest) → IntsAre vs (toRow n (wid n less (toBlk less rs))) → Q (.ref r) { s with heap := h', toks := tk' }) :
  wpAny (model PR w) (ktrTop dp un gd cn cs L a ccd cl outer) (call (.ref 286) [.ref lr, .int less tl, .int n tn]) Q E s := by
  have n0 : 0 < n := by have := stop hB; omega
  obtain ⟨z1, z2, z3, z4⟩ := zz_facts n0 (by have := stop hB; omega : n ≤ 8)
  obtain ⟨y1, y2, y3, y4⟩ := zz_facts hn (by have := stop hB; omega : less ≤ 8)
  have n8 : n ≤ 4 := (stop hB).2
  walk_at "my enter"
  k_steps
  unfold Stop
  rename Fr _ _ _ _ => lF
  rename News _ _ _ _ => lN
  rename IsRange _ _ _ _ _ _ _ _ => rgX
  rename IntsAre _ (toBlk less rs) => hblk
  have hB' := stop hB
  have hbl := toBlk_len hn (by omega : less ≤ 8) rs
  generalize toBlk less rs = bs at *
  refine' rngL [] (fun pre ns => ns = pre.foldl (wStep n less bs) (List.replicate (n * n).toNat 0) ∧ (ns.length : Int) = n * n) ?hh rgX ?sm (rangeSize_nat _ _) lF lN ?ho ?hf ?kp ?turn ?done
  case hh => rfl
  case hf => assumption
  case sm => exact small_one (by omega) (by omega) (by omega) (by omega)
  case kp => exact ⟨rfl, by simp; omega⟩
  case ho =>
    assumption
  case done =>
    clear lF lN
    intro vs ns c u h tk hf hp F' N'
    obtain ⟨hp1, hp2⟩ := hp
    k_steps
    rename News _ _ _ _ => lN
    rename AllOff _ ((_, Lst vs c) :: _) => hofr
    refine hret _ _ _ _ _ (by assumption) (news_sub lN (mem_skip3 _)) (fun p hp => hofr p (.tail _ (.tail _ (.tail _ hp)))) ?_
    rw [show wid n less bs = ns from hp1.symm]
    assumption
  case turn =>
    clear lF lN
    intro vs ns c pre k t u h tk own hk hlt hoff hf hp F' N'
    have hp2 := hp.2
    have k0 : 0 ≤ k := by omega
    have kn : k < less := by omega
    have kn0 : 0 ≤ k * n := Int.mul_nonneg k0 (by omega)
    have kn1 : k * n + n ≤ n * n := by
      have := Int.mul_le_mul_of_nonneg_right (by omega : k + 1 ≤ n) (by omega : 0 ≤ n)
      rw [Int.add_mul, Int.one_mul] at this
      exact this
    have kl0 : 0 ≤ k * less := Int.mul_nonneg k0 (by omega)
    have kl1 : k * less + less ≤ less * less := by
      have := Int.mul_le_mul_of_nonneg_right (by omega : k + 1 ≤ less) (by omega : 0 ≤ less)
      rw [Int.add_mul, Int.one_mul] at this
      exact this
    have kl2 : (k + 1) * less = k * less + less := by rw [Int.add_mul, Int.one_mul]
    k_steps
    unfold Stop
    rename News _ _ _ _ => lN
    rename IntsAre _ (List.take _ ns ++ _ ++ _) => hw
    refine turn_end (_, _, c) (by assumption) lN (fun p hp => mem_skip _ p hp) rfl hw (List.forall_mem_nil _) ?h2 ⟨?c1, ?c2⟩
    case h2 => kst_same
    case c1 => 
      rw [show ((k + 1) * less - k * less).toNat = less.toNat by omega]
      exact wStep_step hp.1
    case c2 =>
      rw [List.length_append, List.length_append, List.length_take, List.length_take, List.length_drop, List.length_drop]
      omega
end
end Mine
end
section
open PySem PySem.W PyProof.Rows
namespace Mine
section
local macro_rules | `(tactic| walk_at "pad 0") => `(tactic| skip)
local macro_rules | `(tactic| walk_at "pad 1") => `(tactic| skip)
local macro_rules | `(tactic| walk_at "pad 2") => `(tactic| skip)
local macro_rules | `(tactic| walk_at "pad 3") => `(tactic| skip)
local macro_rules | `(tactic| walk_at "my enter") => `(tactic| (
  have hrow9 : PySem.Challenge.rw_nt0537_01 = PySem.Challenge.rw_nt0537_01 := rfl
  have hK9 : (fun w : World => hK w.params) = fun w : World => hK w.params := rfl
  revert hrow9 hK9
  k_fill
  intro _ _
  refine wpAny_call ?_
  k_dflt cell_enter))
local macro_rules | `(tactic| walk_at "my site") => `(tactic| (
  (case B => k_asm); (case F => k_asm); (case X => k_asm); (case T => k_asm); (case hk => first | exact rfl | assumption); (case hdp => ktr_room); (case hun => ktr_units)))
local macro_rules | `(tactic| walk_at "my led") => `(tactic| ((rename News _ _ _ _ => lN9); first | exact lN9 | exact at1 lN9 | exact at2 lN9 | exact at3 lN9 | exact at4 lN9))
local macro_rules | `(tactic| walk_at "my off") => `(tactic| first | assumption | (exact List.forall_mem_nil _) | (refine List.forall_mem_cons.mpr ⟨?_, ?_⟩ <;> walk_at "my off"))
local macro_rules | `(tactic| walk_at "my enterC") => `(tactic| (
  have hrow9 : PySem.Challenge.rw_nt0537_01 = PySem.Challenge.rw_nt0537_01 := rfl
  have hK9 : (fun w : World => hK w.params) = fun w : World => hK w.params := rfl
  revert hrow9 hK9
  k_fill
  intro _ _
  refine wpAny_call ?_
  k_dflt (refine' code_defC ?k1 ?k2 ?k3 ?k4 ?k5 ?kA ?kF ?kK ?k6 ?k7 ?k8 ?k9 ?kB ?kD ?_ ?c2 ?c3 ?c4; (case kA => exact rfl); (case kF => exact rfl); (case kK => assumption); (case k1 => k_asm); (case k2 => k_asm); (case k3 => k_asm); (case k4 => k_asm); (case k5 => k_asm); (case k6 => k_is); (case k7 => k_is); (case k8 => ktr_room); (case k9 => exact BindsTo.of_eq rfl); (case kB => exact rfl); (case kD => decide +kernel); (case c2 => exact rfl); (case c3 => exact rfl); (case c4 => exact rfl); k_whole; intro g' L' h' tk' cells' FG' F' N' Y' B' X' T' l1; (try k_lt l1); k_cells Y'; (try simp only [List.cons_append, List.nil_append] at N'); (try dsimp only); (try k_lift B'); (try k_fold))))
local macro_rules | `(tactic| walk_at "eval ListComp") => `(tactic| (refine stop ?_))
local macro_rules | `(tactic| walk_at "exec Assign cons ListComp") => `(tactic| (refine stop ?_))
local macro_rules | `(tactic| walk_at "CompEnd") => `(tactic| (refine stop ?_))
local macro_rules | `(tactic| walk_at "call ref") => `(tactic| (
  ((with_reducible show wpAny _ _ (call (Value.ref 300) _) _ _ _); k_dflt (refine' take_spec ?B ?F ?X ?N ?T ?hk ?hoff ?hdp ?hun ?hp ?hq ?hq2 ?htop ?htop2 ?_; walk_at "my site"; (case N => walk_at "my led"); (case hoff => assumption); (case hp => assumption); (case hq => assumption); (case hq2 => assumption); (case htop => omega); (case htop2 => omega)));
  intro d9 td9 p9 q9 t9 u9 n9 h9 tk9 F9 N9 d0 d1 p0 q0 q1; (try dsimp only); (try k_fold)))
local macro_rules | `(tactic| k_all) => `(tactic| first | (exact lt_all (by assumption) (Nat.le_succ _)) | (exact lt_all (by assumption) (Nat.le_succ_of_le (Nat.le_succ _))))
local macro_rules | `(tactic| walk_at "CompSrc") => `(tactic| (refine stop ?_))
local macro_rules | `(tactic| walk_at "Exists") => `(tactic| (refine stop ?_))

theorem numbers_spec {w : World} {mean : ExcName → Option Value} {mg mb : Str → Option Value}
  {dp un : Nat} {gd : Option (List Code)} {cn : Str} {cs : Scope} {a : Addr} {ccd : Value} {cl : List (Str × Addr)} {outer : List Env} {A₀ : Around} {base h₀ : Heap} {L : Addr} {m : Str → Option Value} {s : Shared} {Q E : Value → Shared → Prop}
  {many : Int} {tm : Tok} {l : Addr} {p q : Int} {t u : Tok} {n : Nat} {rest : List (Addr × Obj)}
  (B : Below A₀ base outer h₀) (F : Fr h₀ L s.heap m) (X : (hK w.params).In h₀) (N : News h₀ L s.heap ((l, Lst [.int p t, .int q u] n) :: rest)) (T : Top vw LO mean mg mb h₀) (hk : cs.kind = .function)
  (hdp : dp + 6 < recursionLimit) (hun : un + 32 < cLine) (hoff : AllOff l rest) (hp : 0 ≤ p) (hq : 0 ≤ q) (hq2 : q < 2147483647) (hm : 0 < many) (hm2 : many ≤ 16)
  (hret : ∀ (r : Addr) (vs : List Value) (ns : List Int) (c : Nat) (p' q' : Int) (t' u' : Tok) (n' : Nat) (h' : Heap) (tk' : Nat), Fr h₀ L h' m → News h₀ L h' ((r, Lst vs c) :: (l, Lst [.int p' t', .int q' u'] n') :: rest) → AllOff r ((l, Lst [.int p' t', .int q' u'] n') :: rest) → IntsAre vs ns → (ns.length : Int) = many → 0 ≤ p' → 0 ≤ q' → q' < 2147483647 → Q (.ref r) { s with heap := h', toks := tk' }) :
  wpAny (model PR w) (ktrTop dp un gd cn cs L a ccd cl outer) (call (.ref 312) [.ref l, .int many tm]) Q E s := by
  walk_at "my enterC"
  rename News _ _ _ ((_, _) :: (_, _) :: (l, _) :: _) => nC
  rename (l < _ ∧ _) => lC
  have hoffC := cells2_off nC lC.1 hoff
  have hLt := lC.2
  have hLl := lC.1
  k_steps
  unfold Stop
  k_dflt (refine LCg.ListComp_U (F₀ := by k_asm) (by rfl) (by decide) (by rfl) (by decide) (by rfl) ?_)
  k_steps
  unfold Stop
  rename Fr _ _ _ _ => lF
  rename News _ _ _ _ => lN
  rename IsRange _ _ _ _ _ _ _ _ => rgX
  refine LCg.CompSrc.range (by rfl) lF lN rgX (small_one (by omega) (by omega) (by omega) (by omega)) (rangeSize_nat _ _) (by rw [sizeLine_eq]; omega) (fun g => rest_inv (n := (many - 0).toNat) (fun i ys nw => ∃ p q t u n ns, nw = (l, Lst [.int p t, .int q u] n) :: (_, _) :: (_, _) :: rest ∧ IntsAre ys ns ∧ ns.length = i ∧ 0 ≤ p ∧ 0 ≤ q ∧ q < 2147483647) ?turn ?fin _ 0 [] _ (Nat.zero_add _) ⟨_, _, _, _, _, [], rfl, IntsAre.nil, rfl, by assumption, by assumption, by assumption⟩)
  case turn =>
    clear lN rgX lF
    rintro i ys nw v I oI C oC D m₂ h tk E' hi ⟨p, q, t, u, n, ns, rfl, hy, hyl, hp, hq, hq2⟩ hv hC hx F' N' off ne
    obtain ⟨tv, rfl⟩ := hv
    have hoff3 := off3_head (oI := oI) (oC := oC) (oD := LCg.lst ys) off (off_obj2 hoffC)
    k_steps
    · unfold Stop
      rename Fr _ _ _ _ => kF
      rename News _ _ _ _ => kN
      exact LCg.CompEnd.intro kF kN _ (mem_rot3 _) ⟨off.1, off.2⟩ trivial ⟨_, _, _, _, _, ns ++ [_], rfl, hy.append (.cons _ _ .nil), by rw [List.length_append, hyl]; rfl, by assumption, by assumption, by assumption⟩
    · unfold Stop
      rename Fr _ _ _ _ => kF
      rename News _ _ _ _ => kN
      exact LCg.CompEnd.intro kF kN _ (fun p hp => hp) ⟨off.1, off.2⟩ trivial ⟨_, _, _, _, _, ns ++ [_], rfl, hy.append (.cons _ _ .nil), by rw [List.length_append, hyl]; rfl, by assumption, by assumption, by assumption⟩
  case fin =>
    rintro ys nw ⟨p, q, t, u, n, ns, rfl, hy, hyl, hp, hq, hq2⟩
    unfold LCg.FinE
    intro D h tk F' N' o1
    k_steps
    rename Fr h₀ L _ m => kF
    rename News h₀ L _ _ => kN
    exact hret _ ys ns _ _ _ _ _ _ _ _ kF (news_sub kN (mem_drop34 _)) (fun p hp => off1_mem o1 p (mem_drop23 _ p hp)) hy (by omega) hp hq hq2
end
end Mine
end
section
open PySem PySem.W PyProof.Rows
namespace Mine
section
local macro_rules | `(tactic| walk_at "my enter") => `(tactic| (
  have hrow9 : PySem.Challenge.rw_nt0537_01 = PySem.Challenge.rw_nt0537_01 := rfl
  have hK9 : (fun w : World => hK w.params) = fun w : World => hK w.params := rfl
  revert hrow9 hK9
  k_fill
  intro _ _
  refine wpAny_call ?_
  k_dflt cell_enter))
local macro_rules | `(tactic| walk_at "my site") => `(tactic| (
  (case B => k_asm); (case F => k_asm); (case X => k_asm); (case T => k_asm); (case hk => first | exact rfl | assumption); (case hdp => ktr_room); (case hun => ktr_units)))
local macro_rules | `(tactic| walk_at "my led") => `(tactic| ((rename News _ _ _ _ => lN9); first | exact lN9 | exact at1 lN9 | exact at2 lN9 | exact at3 lN9 | exact at4 lN9))
local macro_rules | `(tactic| walk_at "my off") => `(tactic| first | assumption | (exact List.forall_mem_nil _) | (refine List.forall_mem_cons.mpr ⟨?_, ?_⟩ <;> walk_at "my off"))

theorem isList_keep {h₀ h : Heap} {L : Addr} {m : Str → Option Value} {l : Addr} {its : Array Value} (F : Fr h₀ L h m) (hl : h₀.IsList l its) : h.IsList l its := by
  obtain ⟨o, e, r⟩ := hl
  exact ⟨o, F.keep _ _ e, r⟩
theorem pool_spec {w : World} {mean : ExcName → Option Value} {mg mb : Str → Option Value}
  {dp un : Nat} {gd : Option (List Code)} {cn : Str} {cs : Scope} {a : Addr} {ccd : Value} {cl : List (Str × Addr)} {outer : List Env} {A₀ : Around} {base h₀ : Heap} {L : Addr} {m : Str → Option Value} {s : Shared} {Q E : Value → Shared → Prop}
  {k : Int} {tk : Tok} {sc : Addr} {vs : List Value} {ns : List Int} {rest : List (Addr × Obj)}
  (B : Below A₀ base outer h₀) (F : Fr h₀ L s.heap m) (X : (hK w.params).In h₀) (N : News h₀ L s.heap (rest)) (T : Top vw LO mean mg mb h₀) (hk : cs.kind = .function)
  (hdp : dp + 2 < recursionLimit) (hun : un + 16 < cLine) (hS : h₀.IsList sc vs.toArray) (hi : IntsAre vs ns) (hl : ns.length ≤ 63) (hk0 : 0 ≤ k) (hk1 : k < 2)
  (hret : ∀ (r : Addr) (c : Nat) (p' q' : Int) (t' u' : Tok) (h' : Heap) (tk' : Nat), Fr h₀ L h' m → News h₀ L h' ((r, Lst [.int p' t', .int q' u'] c) :: rest) → AllOff r rest → 0 ≤ p' → 0 ≤ q' → q' < 2147483647 → Q (.ref r) { s with heap := h', toks := tk' }) :
  wpAny (model PR w) (ktrTop dp un gd cn cs L a ccd cl outer) (call (.ref 293) [.ref sc, .int k tk]) Q E s := by
  walk_at "my enter"
  have hS' := isList_keep (by assumption) hS
  k_steps
  all_goals
    rename Fr h₀ L _ m => kF
    rename News h₀ L _ _ => kN
    refine hret _ _ _ _ _ _ _ _ kF kN (off_lt (by assumption)) ?_ (fmod_lo _ (by decide)) (fmod_hi _ (by decide))
    first | exact Int.le_refl _ | (split <;> omega)
end
end Mine
end
section
open PySem PySem.W PyProof.Rows
set_option autoImplicit false
namespace Mine
/-- one step of the law's own walk -/
def wkStep (n : Int) (s : Int × Int × Bool) : Int × Int × Bool :=
  if (s.2.2 = true ∧ s.1 = n - 1) ∨ (s.2.2 = false ∧ s.1 = 0 ∧ s.2.1 < n - 1) then (s.1, s.2.1 + 1, !s.2.2)
  else if (s.2.2 = true ∧ s.2.1 = 0) ∨ (s.2.2 = false ∧ s.2.1 = n - 1) then (s.1 + 1, s.2.1, !s.2.2)
  else if s.2.2 = true then (s.1 + 1, s.2.1 - 1, s.2.2) else (s.1 - 1, s.2.1 + 1, s.2.2)
theorem wkA {n x y : Int} {up : Bool} (h : (up = true ∧ x = n - 1) ∨ (up = false ∧ x = 0 ∧ y < n - 1)) : (x, y + 1, !up) = wkStep n (x, y, up) := by simp only [wkStep, if_pos h]
theorem wkB {n x y : Int} {up : Bool} (h : ¬ ((up = true ∧ x = n - 1) ∨ (up = false ∧ x = 0 ∧ y < n - 1))) (g : (up = true ∧ y = 0) ∨ (up = false ∧ y = n - 1)) : (x + 1, y, !up) = wkStep n (x, y, up) := by simp only [wkStep, if_neg h, if_pos g]
theorem wkC {n x y : Int} {up : Bool} (h : ¬ ((up = true ∧ x = n - 1) ∨ (up = false ∧ x = 0 ∧ y < n - 1))) (g : ¬ ((up = true ∧ y = 0) ∨ (up = false ∧ y = n - 1))) (e : up = true) : (x + 1, y - 1, up) = wkStep n (x, y, up) := by simp only [wkStep, if_neg h, if_neg g, if_pos e]
theorem wkD {n x y : Int} {up : Bool} (h : ¬ ((up = true ∧ x = n - 1) ∨ (up = false ∧ x = 0 ∧ y < n - 1))) (g : ¬ ((up = true ∧ y = 0) ∨ (up = false ∧ y = n - 1))) (e : up = false) : (x - 1, y + 1, up) = wkStep n (x, y, up) := by simp only [wkStep, if_neg h, if_neg g, if_neg (show ¬ up = true by rw [e]; exact Bool.false_ne_true)]
def wkSt (n : Int) : Nat → Int × Int × Bool
  | 0 => (0, 0, true)
  | k + 1 => wkStep n (wkSt n k)
def wkL (n : Int) : Nat → List Int
  | 0 => []
  | k + 1 => wkL n k ++ [(wkSt n k).2.1 * n + (wkSt n k).1]
/-- what holds between the turns -/
def WkIs (n x y : Int) (up : Bool) (ns : List Int) : Prop := ∃ k : Nat, ((k : Int) + 1 ≤ n * n) ∧ (x, y, up) = wkSt n k ∧ ns = wkL n (k + 1)
theorem wkL_len (n : Int) : ∀ k, (wkL n k).length = k
  | 0 => rfl
  | k + 1 => by rw [wkL, List.length_append, wkL_len n k]; rfl
theorem wk_start {n : Int} (hn : 0 < n) : WkIs n 0 0 true [0] := by
  refine ⟨0, ?_, rfl, by simp [wkL, wkSt]⟩
  have := Int.mul_le_mul (show (1 : Int) ≤ n by omega) (show (1 : Int) ≤ n by omega) (by decide) (by omega)
  simpa using this
theorem wk_turn {n x y x' y' : Int} {up up' : Bool} {ns : List Int} (h : WkIs n x y up ns) (hl : (ns.length : Int) < n * n) (e : (x', y', up') = wkStep n (x, y, up)) : WkIs n x' y' up' (ns ++ [y' * n + x']) := by
  obtain ⟨k, k1, k2, k3⟩ := h
  have e2 : (x', y', up') = wkSt n (k + 1) := by rw [e, wkSt, k2]
  refine ⟨k + 1, ?_, e2, ?_⟩
  · rw [k3, wkL_len] at hl
    omega
  · rw [wkL, ← e2, k3]
def wkOk (n : Nat) : Bool := (List.range (n * n)).all fun k => decide (0 ≤ (wkSt n k).1 ∧ (wkSt n k).1 < n ∧ 0 ≤ (wkSt n k).2.1 ∧ (wkSt n k).2.1 < n)
theorem wkOk_all : ∀ m : Fin 9, wkOk m.1 = true := by decide +kernel
theorem wk_bounds {n x y : Int} {up : Bool} {ns : List Int} (h0 : 0 < n) (h1 : n ≤ 8) (h : WkIs n x y up ns) : 0 ≤ x ∧ x < n ∧ 0 ≤ y ∧ y < n ∧ (ns.length : Int) ≤ n * n ∧ ns.length ≤ 64 := by
  obtain ⟨z1, z2, z3, z4⟩ := zz_facts h0 h1
  obtain ⟨k, k1, k2, k3⟩ := h
  have hn : ((n.toNat : Nat) : Int) = n := by omega
  have ok := wkOk_all ⟨n.toNat, by omega⟩
  have hk : k < n.toNat * n.toNat := by
    have : ((n.toNat * n.toNat : Nat) : Int) = n * n := by rw [Int.natCast_mul, hn]
    omega
  have := List.all_eq_true.mp ok k (List.mem_range.mpr hk)
  simp only [decide_eq_true_eq, hn] at this
  rw [← k2] at this
  dsimp only at this
  have hl : ns.length = k + 1 := by rw [k3, wkL_len]
  refine ⟨this.1, this.2.1, this.2.2.1, this.2.2.2, by omega, by omega⟩
theorem wk_zz : ∀ m : Fin 9, wkL (m.1 : Int) (m.1 * m.1) = zz (m.1 : Int) := by decide +kernel
theorem wk_done {n x y : Int} {up : Bool} {ns : List Int} (h0 : 0 < n) (h1 : n ≤ 8) (h : WkIs n x y up ns) (hl : ¬ (ns.length : Int) < n * n) : zz n = ns := by
  obtain ⟨k, k1, k2, k3⟩ := h
  have hn : ((n.toNat : Nat) : Int) = n := by omega
  have hk : k + 1 = n.toNat * n.toNat := by
    have : ((n.toNat * n.toNat : Nat) : Int) = n * n := by rw [Int.natCast_mul, hn]
    rw [k3, wkL_len] at hl
    omega
  have e := wk_zz ⟨n.toNat, by omega⟩
  dsimp only at e
  rw [hn, ← hk] at e
  rw [k3, ← e]
end Mine
end
section
open PySem PySem.W PyProof.Rows
namespace Mine
section
local macro_rules | `(tactic| walk_at "pad 0") => `(tactic| skip)
local macro_rules | `(tactic| walk_at "pad 1") => `(tactic| skip)
local macro_rules | `(tactic| walk_at "pad 2") => `(tactic| skip)
local macro_rules | `(tactic| walk_at "pad 3") => `(tactic| skip)
local macro_rules | `(tactic| walk_at "pad 4") => `(tactic| skip)
local macro_rules | `(tactic| walk_at "my enter") => `(tactic| (
  have hrow9 : PySem.Challenge.rw_nt0537_01 = PySem.Challenge.rw_nt0537_01 := rfl
  have hK9 : (fun w : World => hK w.params) = fun w : World => hK w.params := rfl
  revert hrow9 hK9
  k_fill
  intro _ _
  refine wpAny_call ?_
  k_dflt cell_enter))
local macro_rules | `(tactic| walk_at "my site") => `(tactic| (
  (case B => k_asm); (case F => k_asm); (case X => k_asm); (case T => k_asm); (case hk => first | exact rfl | assumption); (case hdp => ktr_room); (case hun => ktr_units)))
local macro_rules | `(tactic| walk_at "my led") => `(tactic| ((rename News _ _ _ _ => lN9); first | exact lN9 | exact at1 lN9 | exact at2 lN9 | exact at3 lN9 | exact at4 lN9))
local macro_rules | `(tactic| walk_at "my off") => `(tactic| first | assumption | (exact List.forall_mem_nil _) | (refine List.forall_mem_cons.mpr ⟨?_, ?_⟩ <;> walk_at "my off"))
local macro_rules | `(tactic| walk_at "wk step") => `(tactic| (first | (refine wkA ?_; first | exact .inl ⟨by assumption, by assumption⟩ | exact .inr ⟨by assumption, by assumption, by omega⟩) | (refine wkB ?_ ?_ <;> walk_at "wk no") | (refine wkC ?_ ?_ (by assumption) <;> walk_at "wk no") | (refine wkD ?_ ?_ (by assumption) <;> walk_at "wk no")))
local macro_rules | `(tactic| walk_at "wk no") => `(tactic| (first | exact .inl ⟨by assumption, by assumption⟩ | exact .inr ⟨by assumption, by assumption⟩ | (rintro (⟨a, b⟩ | ⟨a, b⟩) <;> first | contradiction | ((first | obtain ⟨b, c⟩ := b | skip); first | contradiction | omega | simp_all))))
local macro_rules | `(tactic| walk_at "exec While") => `(tactic| (refine stop ?_))
local macro_rules | `(tactic| walk_at "exec While Compare cons nil") => `(tactic| (refine stop ?_))
local macro_rules | `(tactic| walk_at "KswEnd") => `(tactic| (refine stop ?_))
local macro_rules | `(tactic| walk_at "call builtin:list.append") => `(tactic| ((rename Fr _ _ _ _ => lF); (rename News _ _ _ _ => lN); (with_unfolding_all refine append_head lF lN (by assumption) ?_ ?_); rotate_left; (intro _ _ _); rotate_right; ((rename IntsAre _ _ => hi9); rw [hi9.length]; omega)))
local macro_rules | `(tactic| walk_at "call builtin:len") => `(tactic| ((rename News _ _ _ _ => lN); (with_unfolding_all refine' kst_len lN (.head _) ?e ?hf ?_; (case e => exact IntsAre.length (by assumption)); (case hf => omega); k_whole)))
theorem walk_spec {w : World} {mean : ExcName → Option Value} {mg mb : Str → Option Value}
  {dp un : Nat} {gd : Option (List Code)} {cn : Str} {cs : Scope} {a : Addr} {ccd : Value} {cl : List (Str × Addr)} {outer : List Env} {A₀ : Around} {base h₀ : Heap} {L : Addr} {m : Str → Option Value} {s : Shared} {Q E : Value → Shared → Prop}
  {n : Int} {tn : Tok} {rest : List (Addr × Obj)}
  (B : Below A₀ base outer h₀) (F : Fr h₀ L s.heap m) (X : (hK w.params).In h₀) (N : News h₀ L s.heap (rest)) (T : Top vw LO mean mg mb h₀) (hk : cs.kind = .function)
  (hdp : dp + 2 < recursionLimit) (hun : un + 16 < cLine) (hn : 0 < n) (hn2 : n ≤ 8)
  (hret : ∀ (r : Addr) (vs : List Value) (c : Nat) (h' : Heap) (tk' : Nat), Fr h₀ L h' m → News h₀ L h' ((r, Lst vs c) :: rest) → AllOff r rest → IntsAre vs (zz n) → Q (.ref r) { s with heap := h', toks := tk' }) :
  wpAny (model PR w) (ktrTop dp un gd cn cs L a ccd cl outer) (call (.ref 307) [.int n tn]) Q E s := by
  obtain ⟨z1, z2, z3, z4⟩ := zz_facts hn (by omega : n ≤ 8)
  walk_at "my enter"
  k_steps
  unfold Stop
  rename Fr _ _ _ _ => lF
  rename News _ _ _ _ => lN
  rename (∀ p ∈ rest, _ < _) => hlt
  have hoff := off_lt hlt
  refine' ksw_while (σ := Int × Tok × Int × Tok × Bool × List Value × List Int × Nat) (fun c => (_, Lst c.2.2.2.2.2.1 c.2.2.2.2.2.2.2) :: rest) (fun c => [(Str.ofString "x", .int c.1 c.2.1), (Str.ofString "y", .int c.2.2.1 c.2.2.2.1), (Str.ofString "is_up", .bool c.2.2.2.2.1)]) (fun c => IntsAre c.2.2.2.2.2.1 c.2.2.2.2.2.2.1) [] (fun c => WkIs n c.1 c.2.2.1 c.2.2.2.2.1 c.2.2.2.2.2.2.1) (fun c => 64 - c.2.2.2.2.2.2.1.length) (_, _, _, _, _, _, _, _) lF (news_tail lN) (.cons _ _ .nil) ?hk (wk_start hn) ?turn
  case hk => exact List.forall_mem_cons.mpr ⟨by with_unfolding_all rfl, List.forall_mem_cons.mpr ⟨by with_unfolding_all rfl, List.forall_mem_cons.mpr ⟨by with_unfolding_all rfl, List.forall_mem_nil _⟩⟩⟩
  case turn =>
    clear lF lN
    rintro ⟨x, tx, y, ty, up, vs, ns, c⟩ u h tk2 hf hp F' N'
    obtain ⟨b1, b2, b3, b4, b5, b6⟩ := wk_bounds hn hn2 hp
    dsimp only [kstB] at *
    k_steps
    all_goals first
      | (unfold Stop
         rename News _ _ _ _ => nE
         (try simp only [List.push_toArray] at nE)
         refine ksw_end (_, _, _, _, !up, _, _, _) (by assumption) nE (fun p hp => hp) (hf.append (.cons _ _ .nil)) (List.forall_mem_cons.mpr ⟨by with_unfolding_all rfl, List.forall_mem_cons.mpr ⟨by with_unfolding_all rfl, List.forall_mem_cons.mpr ⟨by with_unfolding_all rfl, List.forall_mem_nil _⟩⟩⟩) (by ksw_same) (wk_turn hp (by omega) (by walk_at "wk step")) (by dsimp only; rw [List.length_append, List.length_singleton]; omega))
      | (unfold Stop
         rename News _ _ _ _ => nE
         (try simp only [List.push_toArray] at nE)
         refine ksw_end (_, _, _, _, up, _, _, _) (by assumption) nE (fun p hp => .tail _ hp) (hf.append (.cons _ _ .nil)) (List.forall_mem_cons.mpr ⟨by with_unfolding_all rfl, List.forall_mem_cons.mpr ⟨by with_unfolding_all rfl, List.forall_mem_cons.mpr ⟨by with_unfolding_all rfl, List.forall_mem_nil _⟩⟩⟩) (by ksw_same) (wk_turn hp (by omega) (by walk_at "wk step")) (by dsimp only; rw [List.length_append, List.length_singleton]; omega))
      | (rename News _ _ _ _ => nE
         refine hret _ _ _ _ _ (by assumption) nE hoff ?_
         rw [wk_done hn hn2 hp (by omega)]
         exact hf)

end
end Mine
end
section
open PySem PySem.W PyProof.Rows
set_option autoImplicit false
namespace Mine
theorem zz_perm : ∀ m : Fin 9, (zz (m.1 : Int)).Nodup ∧ ∀ j : Fin (m.1 * m.1), ((j.1 : Nat) : Int) ∈ zz (m.1 : Int) := by decide +kernel
theorem blk_keep {rs : List Int} (q : Nat) : ∀ (ps : List Int) (st : List Int × Int), (∀ p ∈ ps, 0 ≤ p ∧ p.toNat ≠ q) → (ps.foldl (blkStep rs) st).1.getD q 0 = st.1.getD q 0
  | [], _, _ => rfl
  | p :: ps, st, h => by
    rw [List.foldl_cons, blk_keep q ps _ fun p' hp => h p' (.tail _ hp)]
    show (st.1.set p.toNat _).getD q 0 = _
    rw [List.getD_eq_getElem?_getD, List.getElem?_set_ne (h p (.head _)).2, List.getD_eq_getElem?_getD]
theorem blk_get {rs : List Int} : ∀ (ps : List Int) (st : List Int) (c : Nat), ps.Nodup → (∀ p ∈ ps, 0 ≤ p ∧ p < st.length) → ∀ (i : Nat) (p : Int), ps[i]? = some p → (ps.foldl (blkStep rs) (st, (c : Int))).1.getD p.toNat 0 = rs.getD (c + i) 0
  | [], _, _, _, _, i, p, h => by simp at h
  | q :: ps, st, c, hn, hb, i, p, h => by
    rw [List.foldl_cons]
    have hq := hb q (.head _)
    have hn' := List.nodup_cons.mp hn
    have hb' : ∀ p ∈ ps, 0 ≤ p ∧ p < ((blkStep rs (st, (c : Int)) q).1.length : Int) := fun p hp => by
      rw [(blk_len _ _).1]; exact hb p (.tail _ hp)
    cases i with
    | zero =>
      have e : q = p := by simpa using h
      subst e
      rw [blk_keep q.toNat ps _ fun p' hp => ⟨(hb p' (.tail _ hp)).1, fun e => hn'.1 (by
        have h1 := (hb p' (.tail _ hp)).1
        have h2 : p' = q := by omega
        rw [← h2]; exact hp)⟩]
      show (st.set q.toNat (rs.getD (c : Int).toNat 0)).getD q.toNat 0 = _
      rw [List.getD_eq_getElem?_getD, List.getElem?_set_self (by omega)]
      rfl
    | succ j =>
      have e := blk_get (rs := rs) ps _ (c + 1) hn'.2 hb' j p (by simpa using h)
      rw [show c + (j + 1) = c + 1 + j by omega]
      exact e
theorem zz_nodup {n : Int} (h0 : 0 < n) (h1 : n ≤ 8) : (zz n).Nodup ∧ ∀ j : Nat, (j : Int) < n * n → (j : Int) ∈ zz n := by
  have hn : ((n.toNat : Nat) : Int) = n := by omega
  have e := zz_perm ⟨n.toNat, by omega⟩
  dsimp only at e
  rw [hn] at e
  refine ⟨e.1, fun j hj => e.2 ⟨j, ?_⟩⟩
  have : ((n.toNat * n.toNat : Nat) : Int) = n * n := by rw [Int.natCast_mul, hn]
  omega
theorem toBlk_get {n : Int} (h0 : 0 < n) (h1 : n ≤ 8) (rs : List Int) (i : Nat) (p : Int) (h : (zz n)[i]? = some p) : (toBlk n rs).getD p.toNat 0 = rs.getD i 0 := by
  obtain ⟨z1, z2, z3, z4⟩ := zz_facts h0 h1
  have e := blk_get (rs := rs) (zz n) (List.replicate (n * n).toNat 0) 0 (zz_nodup h0 h1).1 (fun p hp => ⟨(z2 p hp).1, by rw [List.length_replicate]; have := (z2 p hp).2; omega⟩) i p h
  rw [Nat.zero_add] at e
  exact e
theorem toRow_toBlk {n : Int} (h0 : 0 < n) (h1 : n ≤ 8) {rs : List Int} (hl : (rs.length : Int) = n * n) : toRow n (toBlk n rs) = rs := by
  obtain ⟨z1, z2, z3, z4⟩ := zz_facts h0 h1
  have hlen := toRow_len h0 h1 (toBlk n rs)
  refine List.ext_getElem (by omega) fun i h2 h3 => ?_
  have hz : i < (zz n).length := by omega
  have e := toBlk_get h0 h1 rs i (zz n)[i] (by simp)
  simp only [toRow, List.getElem_map]
  rw [e, List.getD_eq_getElem?_getD, List.getElem?_eq_getElem h3]; rfl
theorem toBlk_toRow {n : Int} (h0 : 0 < n) (h1 : n ≤ 8) {bs : List Int} (hl : (bs.length : Int) = n * n) : toBlk n (toRow n bs) = bs := by
  obtain ⟨z1, z2, z3, z4⟩ := zz_facts h0 h1
  have hlen := toBlk_len h0 h1 (toRow n bs)
  refine List.ext_getElem (by omega) fun j h2 h3 => ?_
  obtain ⟨i, hi, e⟩ := List.mem_iff_getElem.mp ((zz_nodup h0 h1).2 j (by omega))
  have g := toBlk_get h0 h1 (toRow n bs) i j (by rw [List.getElem?_eq_getElem hi, e])
  rw [show ((j : Int).toNat) = j by omega] at g
  have a : (toBlk n (toRow n bs)).getD j 0 = (toBlk n (toRow n bs))[j] := by rw [List.getD_eq_getElem?_getD, List.getElem?_eq_getElem h2]; rfl
  rw [← a, g, toRow, List.getD_eq_getElem?_getD, List.getElem?_map, List.getElem?_eq_getElem hi, e]
  show bs.getD (j : Int).toNat 0 = bs[j]
  rw [show ((j : Int).toNat) = j by omega, List.getD_eq_getElem?_getD, List.getElem?_eq_getElem h3]; rfl
theorem eqA {n : Int} {ms bs : List Int} (h : ms = toRow n bs) : ms = (zz n).map fun p => bs.getD p.toNat 0 := h
theorem eqB {n : Int} {ms bs qs : List Int} (g : qs = toBlk n ms) (h : ms = toRow n bs) (hl : (bs.length : Int) = n * n) (h0 : 0 < n) (h1 : n ≤ 8) : qs = bs := by rw [g, h, toBlk_toRow h0 h1 hl]
theorem eqC {n : Int} {ms rs qs : List Int} (g : ms = toRow n qs) (h : qs = toBlk n rs) (hl : (rs.length : Int) = n * n) (h0 : 0 < n) (h1 : n ≤ 8) : ms = rs := by rw [g, h, toRow_toBlk h0 h1 hl]
end Mine
end
section
open PySem PySem.W PyProof.Rows
set_option autoImplicit false
namespace Mine
def usedL (rs : List Int) : Nat → List Int
  | 0 => []
  | i + 1 => if rs.getD i 0 = 0 then usedL rs i else usedL rs i ++ [(i : Int)]
theorem usedL_zero {rs : List Int} {a : Nat} : ∀ k, (∀ j, a ≤ j → j < a + k → rs.getD j 0 = 0) → usedL rs (a + k) = usedL rs a
  | 0, _ => rfl
  | k + 1, h => by
    show usedL rs (a + k + 1) = _
    rw [usedL, if_pos (h (a + k) (by omega) (by omega)), usedL_zero k fun j h1 h2 => h j h1 (by omega)]
theorem last_used_eq {rs : List Int} {u : Int} (hu : IsLast rs u) : (usedL rs rs.length = [] ∧ u = 0) ∨ ∃ pre, usedL rs rs.length = pre ++ [u] := by
  obtain ⟨h0, h1, h2, h3⟩ := hu
  have hu' : ((u.toNat : Nat) : Int) = u := by omega
  by_cases hz : rs.getD u.toNat 0 = 0
  · have e : u = 0 := h3.resolve_right fun q => q hz
    subst e
    refine .inl ⟨?_, rfl⟩
    have g := usedL_zero (rs := rs) (a := 0) rs.length fun j _ hj => by
      by_cases q : j = 0
      · rw [q]; exact hz
      · exact h2 j (by omega) (by omega)
    rw [Nat.zero_add] at g
    exact g
  · refine .inr ⟨usedL rs u.toNat, ?_⟩
    have g := usedL_zero (rs := rs) (a := u.toNat + 1) (rs.length - (u.toNat + 1)) fun j hj hk => h2 j (by omega) (by omega)
    rw [show u.toNat + 1 + (rs.length - (u.toNat + 1)) = rs.length by omega] at g
    rw [g, usedL, if_neg hz, hu']
theorem usedL_len (rs : List Int) : ∀ i, (usedL rs i).length ≤ i
  | 0 => Nat.le_refl _
  | i + 1 => by
    have := usedL_len rs i
    rw [usedL]
    split
    · omega
    · rw [List.length_append, List.length_singleton]; omega
theorem four {n : Int} (h0 : 0 < n) (h1 : n ≤ 4) : n = 1 ∨ n = 2 ∨ n = 3 ∨ n = 4 := by omega
theorem len1 {bs : List Int} (h : bs.length = 1) : ∃ a, bs = [a] := List.length_eq_one_iff.mp h
theorem lenS {bs : List Int} {k : Nat} (h : bs.length = k + 1) : ∃ a t, bs = a :: t ∧ t.length = k := by
  cases bs with
  | nil => cases h
  | cons a t => exact ⟨a, t, rfl, by simpa using h⟩
/-- the grid's cells -/
def GridAt (n less y x : Int) (bs : List Int) : Prop :=
  (x < less → y < less → (corn n less bs).getD (y * less + x).toNat 0 = bs.getD (y * n + x).toNat 0) ∧
  (x < less → y < less → (wid n less (corn n less bs)).getD (y * n + x).toNat 0 = bs.getD (y * n + x).toNat 0) ∧
  (¬ (x < less ∧ y < less) → (wid n less (corn n less bs)).getD (y * n + x).toNat 0 = 0)
def gridL (n less : Int) (bs : List Int) : Prop := ((corn n less bs).length : Int) = less * less ∧ ((wid n less (corn n less bs)).length : Int) = n * n
theorem grid1x1 (bs : List Int) (hl0 : bs.length = 1) : gridL 1 1 bs ∧ ∀ y x : Int, 0 ≤ y → y < 1 → 0 ≤ x → x < 1 → GridAt 1 1 y x bs := by
  obtain ⟨b0, t0, rfl, hl1⟩ := lenS hl0
  obtain rfl := List.length_eq_zero_iff.mp hl1
  refine ⟨⟨rfl, rfl⟩, fun y x h1 h2 h3 h4 => ?_⟩
  have hy : y = 0 := by omega
  have hx : x = 0 := by omega
  subst hy hx
  exact ⟨by intro a b; first | omega | rfl, by intro a b; first | omega | rfl, by intro h; first | omega | rfl⟩
theorem grid2x1 (bs : List Int) (hl0 : bs.length = 4) : gridL 2 1 bs ∧ ∀ y x : Int, 0 ≤ y → y < 2 → 0 ≤ x → x < 2 → GridAt 2 1 y x bs := by
  obtain ⟨b0, t0, rfl, hl1⟩ := lenS hl0
  obtain ⟨b1, t1, rfl, hl2⟩ := lenS hl1
  obtain ⟨b2, t2, rfl, hl3⟩ := lenS hl2
  obtain ⟨b3, t3, rfl, hl4⟩ := lenS hl3
  obtain rfl := List.length_eq_zero_iff.mp hl4
  refine ⟨⟨rfl, rfl⟩, fun y x h1 h2 h3 h4 => ?_⟩
  have hy : y = 0 ∨ y = 1 := by omega
  have hx : x = 0 ∨ x = 1 := by omega
  rcases hy with rfl | rfl <;> rcases hx with rfl | rfl <;> exact ⟨by intro a b; first | omega | rfl, by intro a b; first | omega | rfl, by intro h; first | omega | rfl⟩
theorem grid2x2 (bs : List Int) (hl0 : bs.length = 4) : gridL 2 2 bs ∧ ∀ y x : Int, 0 ≤ y → y < 2 → 0 ≤ x → x < 2 → GridAt 2 2 y x bs := by
  obtain ⟨b0, t0, rfl, hl1⟩ := lenS hl0
  obtain ⟨b1, t1, rfl, hl2⟩ := lenS hl1
  obtain ⟨b2, t2, rfl, hl3⟩ := lenS hl2
  obtain ⟨b3, t3, rfl, hl4⟩ := lenS hl3
  obtain rfl := List.length_eq_zero_iff.mp hl4
  refine ⟨⟨rfl, rfl⟩, fun y x h1 h2 h3 h4 => ?_⟩
  have hy : y = 0 ∨ y = 1 := by omega
  have hx : x = 0 ∨ x = 1 := by omega
  rcases hy with rfl | rfl <;> rcases hx with rfl | rfl <;> exact ⟨by intro a b; first | omega | rfl, by intro a b; first | omega | rfl, by intro h; first | omega | rfl⟩
theorem grid3x1 (bs : List Int) (hl0 : bs.length = 9) : gridL 3 1 bs ∧ ∀ y x : Int, 0 ≤ y → y < 3 → 0 ≤ x → x < 3 → GridAt 3 1 y x bs := by
  obtain ⟨b0, t0, rfl, hl1⟩ := lenS hl0
  obtain ⟨b1, t1, rfl, hl2⟩ := lenS hl1
  obtain ⟨b2, t2, rfl, hl3⟩ := lenS hl2
  obtain ⟨b3, t3, rfl, hl4⟩ := lenS hl3
  obtain ⟨b4, t4, rfl, hl5⟩ := lenS hl4
  obtain ⟨b5, t5, rfl, hl6⟩ := lenS hl5
  obtain ⟨b6, t6, rfl, hl7⟩ := lenS hl6
  obtain ⟨b7, t7, rfl, hl8⟩ := lenS hl7
  obtain ⟨b8, t8, rfl, hl9⟩ := lenS hl8
  obtain rfl := List.length_eq_zero_iff.mp hl9
  refine ⟨⟨rfl, rfl⟩, fun y x h1 h2 h3 h4 => ?_⟩
  have hy : y = 0 ∨ y = 1 ∨ y = 2 := by omega
  have hx : x = 0 ∨ x = 1 ∨ x = 2 := by omega
  rcases hy with rfl | rfl | rfl <;> rcases hx with rfl | rfl | rfl <;> exact ⟨by intro a b; first | omega | rfl, by intro a b; first | omega | rfl, by intro h; first | omega | rfl⟩
theorem grid3x2 (bs : List Int) (hl0 : bs.length = 9) : gridL 3 2 bs ∧ ∀ y x : Int, 0 ≤ y → y < 3 → 0 ≤ x → x < 3 → GridAt 3 2 y x bs := by
  obtain ⟨b0, t0, rfl, hl1⟩ := lenS hl0
  obtain ⟨b1, t1, rfl, hl2⟩ := lenS hl1
  obtain ⟨b2, t2, rfl, hl3⟩ := lenS hl2
  obtain ⟨b3, t3, rfl, hl4⟩ := lenS hl3
  obtain ⟨b4, t4, rfl, hl5⟩ := lenS hl4
  obtain ⟨b5, t5, rfl, hl6⟩ := lenS hl5
  obtain ⟨b6, t6, rfl, hl7⟩ := lenS hl6
  obtain ⟨b7, t7, rfl, hl8⟩ := lenS hl7
  obtain ⟨b8, t8, rfl, hl9⟩ := lenS hl8
  obtain rfl := List.length_eq_zero_iff.mp hl9
  refine ⟨⟨rfl, rfl⟩, fun y x h1 h2 h3 h4 => ?_⟩
  have hy : y = 0 ∨ y = 1 ∨ y = 2 := by omega
  have hx : x = 0 ∨ x = 1 ∨ x = 2 := by omega
  rcases hy with rfl | rfl | rfl <;> rcases hx with rfl | rfl | rfl <;> exact ⟨by intro a b; first | omega | rfl, by intro a b; first | omega | rfl, by intro h; first | omega | rfl⟩
theorem grid3x3 (bs : List Int) (hl0 : bs.length = 9) : gridL 3 3 bs ∧ ∀ y x : Int, 0 ≤ y → y < 3 → 0 ≤ x → x < 3 → GridAt 3 3 y x bs := by
  obtain ⟨b0, t0, rfl, hl1⟩ := lenS hl0
  obtain ⟨b1, t1, rfl, hl2⟩ := lenS hl1
  obtain ⟨b2, t2, rfl, hl3⟩ := lenS hl2
  obtain ⟨b3, t3, rfl, hl4⟩ := lenS hl3
  obtain ⟨b4, t4, rfl, hl5⟩ := lenS hl4
  obtain ⟨b5, t5, rfl, hl6⟩ := lenS hl5
  obtain ⟨b6, t6, rfl, hl7⟩ := lenS hl6
  obtain ⟨b7, t7, rfl, hl8⟩ := lenS hl7
  obtain ⟨b8, t8, rfl, hl9⟩ := lenS hl8
  obtain rfl := List.length_eq_zero_iff.mp hl9
  refine ⟨⟨rfl, rfl⟩, fun y x h1 h2 h3 h4 => ?_⟩
  have hy : y = 0 ∨ y = 1 ∨ y = 2 := by omega
  have hx : x = 0 ∨ x = 1 ∨ x = 2 := by omega
  rcases hy with rfl | rfl | rfl <;> rcases hx with rfl | rfl | rfl <;> exact ⟨by intro a b; first | omega | rfl, by intro a b; first | omega | rfl, by intro h; first | omega | rfl⟩
theorem grid4x1 (bs : List Int) (hl0 : bs.length = 16) : gridL 4 1 bs ∧ ∀ y x : Int, 0 ≤ y → y < 4 → 0 ≤ x → x < 4 → GridAt 4 1 y x bs := by
  obtain ⟨b0, t0, rfl, hl1⟩ := lenS hl0
  obtain ⟨b1, t1, rfl, hl2⟩ := lenS hl1
  obtain ⟨b2, t2, rfl, hl3⟩ := lenS hl2
  obtain ⟨b3, t3, rfl, hl4⟩ := lenS hl3
  obtain ⟨b4, t4, rfl, hl5⟩ := lenS hl4
  obtain ⟨b5, t5, rfl, hl6⟩ := lenS hl5
  obtain ⟨b6, t6, rfl, hl7⟩ := lenS hl6
  obtain ⟨b7, t7, rfl, hl8⟩ := lenS hl7
  obtain ⟨b8, t8, rfl, hl9⟩ := lenS hl8
  obtain ⟨b9, t9, rfl, hl10⟩ := lenS hl9
  obtain ⟨b10, t10, rfl, hl11⟩ := lenS hl10
  obtain ⟨b11, t11, rfl, hl12⟩ := lenS hl11
  obtain ⟨b12, t12, rfl, hl13⟩ := lenS hl12
  obtain ⟨b13, t13, rfl, hl14⟩ := lenS hl13
  obtain ⟨b14, t14, rfl, hl15⟩ := lenS hl14
  obtain ⟨b15, t15, rfl, hl16⟩ := lenS hl15
  obtain rfl := List.length_eq_zero_iff.mp hl16
  refine ⟨⟨rfl, rfl⟩, fun y x h1 h2 h3 h4 => ?_⟩
  have hy : y = 0 ∨ y = 1 ∨ y = 2 ∨ y = 3 := by omega
  have hx : x = 0 ∨ x = 1 ∨ x = 2 ∨ x = 3 := by omega
  rcases hy with rfl | rfl | rfl | rfl <;> rcases hx with rfl | rfl | rfl | rfl <;> exact ⟨by intro a b; first | omega | rfl, by intro a b; first | omega | rfl, by intro h; first | omega | rfl⟩
theorem grid4x2 (bs : List Int) (hl0 : bs.length = 16) : gridL 4 2 bs ∧ ∀ y x : Int, 0 ≤ y → y < 4 → 0 ≤ x → x < 4 → GridAt 4 2 y x bs := by
  obtain ⟨b0, t0, rfl, hl1⟩ := lenS hl0
  obtain ⟨b1, t1, rfl, hl2⟩ := lenS hl1
  obtain ⟨b2, t2, rfl, hl3⟩ := lenS hl2
  obtain ⟨b3, t3, rfl, hl4⟩ := lenS hl3
  obtain ⟨b4, t4, rfl, hl5⟩ := lenS hl4
  obtain ⟨b5, t5, rfl, hl6⟩ := lenS hl5
  obtain ⟨b6, t6, rfl, hl7⟩ := lenS hl6
  obtain ⟨b7, t7, rfl, hl8⟩ := lenS hl7
  obtain ⟨b8, t8, rfl, hl9⟩ := lenS hl8
  obtain ⟨b9, t9, rfl, hl10⟩ := lenS hl9
  obtain ⟨b10, t10, rfl, hl11⟩ := lenS hl10
  obtain ⟨b11, t11, rfl, hl12⟩ := lenS hl11
  obtain ⟨b12, t12, rfl, hl13⟩ := lenS hl12
  obtain ⟨b13, t13, rfl, hl14⟩ := lenS hl13
  obtain ⟨b14, t14, rfl, hl15⟩ := lenS hl14
  obtain ⟨b15, t15, rfl, hl16⟩ := lenS hl15
  obtain rfl := List.length_eq_zero_iff.mp hl16
  refine ⟨⟨rfl, rfl⟩, fun y x h1 h2 h3 h4 => ?_⟩
  have hy : y = 0 ∨ y = 1 ∨ y = 2 ∨ y = 3 := by omega
  have hx : x = 0 ∨ x = 1 ∨ x = 2 ∨ x = 3 := by omega
  rcases hy with rfl | rfl | rfl | rfl <;> rcases hx with rfl | rfl | rfl | rfl <;> exact ⟨by intro a b; first | omega | rfl, by intro a b; first | omega | rfl, by intro h; first | omega | rfl⟩
theorem grid4x3 (bs : List Int) (hl0 : bs.length = 16) : gridL 4 3 bs ∧ ∀ y x : Int, 0 ≤ y → y < 4 → 0 ≤ x → x < 4 → GridAt 4 3 y x bs := by
  obtain ⟨b0, t0, rfl, hl1⟩ := lenS hl0
  obtain ⟨b1, t1, rfl, hl2⟩ := lenS hl1
  obtain ⟨b2, t2, rfl, hl3⟩ := lenS hl2
  obtain ⟨b3, t3, rfl, hl4⟩ := lenS hl3
  obtain ⟨b4, t4, rfl, hl5⟩ := lenS hl4
  obtain ⟨b5, t5, rfl, hl6⟩ := lenS hl5
  obtain ⟨b6, t6, rfl, hl7⟩ := lenS hl6
  obtain ⟨b7, t7, rfl, hl8⟩ := lenS hl7
  obtain ⟨b8, t8, rfl, hl9⟩ := lenS hl8
  obtain ⟨b9, t9, rfl, hl10⟩ := lenS hl9
  obtain ⟨b10, t10, rfl, hl11⟩ := lenS hl10
  obtain ⟨b11, t11, rfl, hl12⟩ := lenS hl11
  obtain ⟨b12, t12, rfl, hl13⟩ := lenS hl12
  obtain ⟨b13, t13, rfl, hl14⟩ := lenS hl13
  obtain ⟨b14, t14, rfl, hl15⟩ := lenS hl14
  obtain ⟨b15, t15, rfl, hl16⟩ := lenS hl15
  obtain rfl := List.length_eq_zero_iff.mp hl16
  refine ⟨⟨rfl, rfl⟩, fun y x h1 h2 h3 h4 => ?_⟩
  have hy : y = 0 ∨ y = 1 ∨ y = 2 ∨ y = 3 := by omega
  have hx : x = 0 ∨ x = 1 ∨ x = 2 ∨ x = 3 := by omega
  rcases hy with rfl | rfl | rfl | rfl <;> rcases hx with rfl | rfl | rfl | rfl <;> exact ⟨by intro a b; first | omega | rfl, by intro a b; first | omega | rfl, by intro h; first | omega | rfl⟩
theorem grid4x4 (bs : List Int) (hl0 : bs.length = 16) : gridL 4 4 bs ∧ ∀ y x : Int, 0 ≤ y → y < 4 → 0 ≤ x → x < 4 → GridAt 4 4 y x bs := by
  obtain ⟨b0, t0, rfl, hl1⟩ := lenS hl0
  obtain ⟨b1, t1, rfl, hl2⟩ := lenS hl1
  obtain ⟨b2, t2, rfl, hl3⟩ := lenS hl2
  obtain ⟨b3, t3, rfl, hl4⟩ := lenS hl3
  obtain ⟨b4, t4, rfl, hl5⟩ := lenS hl4
  obtain ⟨b5, t5, rfl, hl6⟩ := lenS hl5
  obtain ⟨b6, t6, rfl, hl7⟩ := lenS hl6
  obtain ⟨b7, t7, rfl, hl8⟩ := lenS hl7
  obtain ⟨b8, t8, rfl, hl9⟩ := lenS hl8
  obtain ⟨b9, t9, rfl, hl10⟩ := lenS hl9
  obtain ⟨b10, t10, rfl, hl11⟩ := lenS hl10
  obtain ⟨b11, t11, rfl, hl12⟩ := lenS hl11
  obtain ⟨b12, t12, rfl, hl13⟩ := lenS hl12
  obtain ⟨b13, t13, rfl, hl14⟩ := lenS hl13
  obtain ⟨b14, t14, rfl, hl15⟩ := lenS hl14
  obtain ⟨b15, t15, rfl, hl16⟩ := lenS hl15
  obtain rfl := List.length_eq_zero_iff.mp hl16
  refine ⟨⟨rfl, rfl⟩, fun y x h1 h2 h3 h4 => ?_⟩
  have hy : y = 0 ∨ y = 1 ∨ y = 2 ∨ y = 3 := by omega
  have hx : x = 0 ∨ x = 1 ∨ x = 2 ∨ x = 3 := by omega
  rcases hy with rfl | rfl | rfl | rfl <;> rcases hx with rfl | rfl | rfl | rfl <;> exact ⟨by intro a b; first | omega | rfl, by intro a b; first | omega | rfl, by intro h; first | omega | rfl⟩
theorem grid_all {n less : Int} {bs : List Int} (h0 : 0 < less) (h1 : less ≤ n) (h2 : n ≤ 4) (hl : (bs.length : Int) = n * n) : gridL n less bs ∧ ∀ y x : Int, 0 ≤ y → y < n → 0 ≤ x → x < n → GridAt n less y x bs := by
  have hn : n = 1 ∨ n = 2 ∨ n = 3 ∨ n = 4 := by omega
  rcases hn with rfl | rfl | rfl | rfl
  · have hs : less = 1 := by omega
    subst hs
    exact grid1x1 bs (by omega)
  · have hs : less = 1 ∨ less = 2 := by omega
    rcases hs with rfl | rfl
    · exact grid2x1 bs (by omega)
    · exact grid2x2 bs (by omega)
  · have hs : less = 1 ∨ less = 2 ∨ less = 3 := by omega
    rcases hs with rfl | rfl | rfl
    · exact grid3x1 bs (by omega)
    · exact grid3x2 bs (by omega)
    · exact grid3x3 bs (by omega)
  · have hs : less = 1 ∨ less = 2 ∨ less = 3 ∨ less = 4 := by omega
    rcases hs with rfl | rfl | rfl | rfl
    · exact grid4x1 bs (by omega)
    · exact grid4x2 bs (by omega)
    · exact grid4x3 bs (by omega)
    · exact grid4x4 bs (by omega)
/-- what the law builds and reads: the corner's block, the whole block, the widened one -/
theorem grid_law {n less : Int} {rs cs sm bl c2 wr wd : List Int} (h0 : 0 < less) (h1 : less ≤ n) (h2 : n ≤ 4) (hl : (rs.length : Int) = n * n)
    (e1 : cs = toRow less (corn n less (toBlk n rs))) (e2 : sm = toBlk less cs) (e3 : bl = toBlk n rs) (e4 : c2 = toRow less (corn n less (toBlk n rs))) (e5 : wr = toRow n (wid n less (toBlk less c2))) (e6 : wd = toBlk n wr) :
    ∀ y x : Int, 0 ≤ y → y < n → 0 ≤ x → x < n → (x < less → y < less → sm.getD (y * less + x).toNat 0 = bl.getD (y * n + x).toNat 0) ∧ (x < less → y < less → wd.getD (y * n + x).toNat 0 = bl.getD (y * n + x).toNat 0) ∧ (¬ (x < less ∧ y < less) → wd.getD (y * n + x).toNat 0 = 0) := by
  have hbl := toBlk_len (by omega : 0 < n) (by omega) rs
  obtain ⟨⟨g1, g2⟩, g3⟩ := grid_all h0 h1 h2 hbl
  have a1 : sm = corn n less (toBlk n rs) := by rw [e2, e1, toBlk_toRow h0 (by omega) g1]
  have a2 : wd = wid n less (corn n less (toBlk n rs)) := by rw [e6, e5, e4, toBlk_toRow h0 (by omega) g1, toBlk_toRow (by omega) (by omega) g2]
  intro y x y0 y1 x0 x1
  rw [a1, a2, e3]
  exact g3 y x y0 y1 x0 x1
end Mine
end
section
open PySem PySem.W PyProof.Rows
open LCg
namespace Mine
section
theorem up1 {h₀ h : Heap} {L : Addr} {x a : Addr × Obj} {news news' : List (Addr × Obj)} (N : News h₀ L h (x :: news)) (M : News h₀ L h (a :: news')) : News h₀ L h (a :: x :: news') := fun p hp => by
  rcases List.mem_cons.mp hp with rfl | hp
  · exact M _ (.head _)
  · rcases List.mem_cons.mp hp with rfl | hp
    · exact N _ (.head _)
    · exact M _ (.tail _ hp)
theorem dup {h₀ h : Heap} {L : Addr} {a : Addr × Obj} {news : List (Addr × Obj)} (N : News h₀ L h news) (hm : a ∈ news) : News h₀ L h (a :: news) := fun p hp => by
  rcases List.mem_cons.mp hp with rfl | hp
  · exact N _ hm
  · exact N _ hp
theorem drop2 {h₀ h : Heap} {L : Addr} {a b : Addr × Obj} {news : List (Addr × Obj)} (N : News h₀ L h (a :: b :: news)) : News h₀ L h (a :: news) := news_sub N fun p hp => by
  rcases List.mem_cons.mp hp with rfl | hp
  · exact .head _
  · exact .tail _ (.tail _ hp)
def AllNe (d : Nat) : List (Addr × Obj) → Prop
  | [] => True
  | p :: r => @Ne Nat p.1 d ∧ AllNe d r
theorem allNe_of {d : Addr} : ∀ {l : List (Addr × Obj)}, AllOff d l → AllNe d l
  | [], _ => trivial
  | _ :: _, h => ⟨h _ (.head _), allNe_of fun q hq => h q (.tail _ hq)⟩
section
variable {prog : Program} {w : World} {A : Around} {E : Value → Shared → Prop} {s : Shared} {h₀ : Heap} {L : Addr}
theorem ne_known {a b : Addr} {vs us : List Value} {ns ms : List Int} {c d : Nat} {news : List (Addr × Obj)} {Qv : Value → Shared → Prop} (N : News h₀ L s.heap news) (ha : (a, Lst vs c) ∈ news) (hb : (b, Lst us d) ∈ news) (hi : IntsAre vs ns) (hj : IntsAre us ms) (e : ns = ms) (hu : A.units + 64 < cLine) (h : Qv (.bool false) s) :
    wpAny (model prog w) A (compareOp .NotEq (.ref a) (.ref b)) Qv E s :=
  ke_ne_ints ⟨_, (N _ ha).1, rfl, c, rfl⟩ ⟨_, (N _ hb).1, rfl, d, rfl⟩ hi hj hu (by rw [decide_eq_true e]; exact h)
end
theorem ne_of1 {a b : Addr} {o : Obj} {news : List (Addr × Obj)} (h : AllOff b news) (hm : (a, o) ∈ news) : @Ne Nat a b := h _ hm
theorem ne_of2 {a b : Addr} {o : Obj} {news : List (Addr × Obj)} (h : AllOff b news) (hm : (a, o) ∈ news) : @Ne Nat b a := (h _ hm).symm
abbrev getBs {n : Int} {bs ms : List Int} (_ : ms = toRow n bs) : List Int := bs
abbrev getRs {n : Int} {rs ms : List Int} (_ : ms = toBlk n rs) : List Int := rs
section
variable {prog : Program} {w : World} {A : Around} {E : Value → Shared → Prop} {s : Shared} {h₀ : Heap} {L : Addr} {m : Str → Option Value} {env : Env}
/-- the places that hold no 0 -/
theorem restT_used {ct elt : Expr} {x : Str} {scope : Scope} {cl : List (Str × Addr)} {Fin : List Value → List (Addr × Obj) → Prop} {n : Nat} {news : List (Addr × Obj)} (rs : List Int)
    (turn : ∀ (i : Nat) ys (us : List Int) I oI C oC D m₂ h tk t (E' : Value → Shared → Prop), i < n → IntsAre ys us → NsObj oC m₂ → m₂ x = some (.int ((0 : Int) + (i : Int)) t) → Fr h₀ L h m → News h₀ L h ((I, oI) :: (C, oC) :: (D, lst ys) :: news) → Off3 I C D news →
      wpAny (model prog w) A (isTrue ct (compEnvC scope cl C env) (eval ct (compEnvC scope cl C env))) (fun ok s' => if ok = true then
        wpAny (model prog w) A (eval elt (compEnvC scope cl C env)) (CompEnd h₀ L m { s with heap := h, toks := tk } I oI C oC D (lst ys) (fun _ => True) (fun y nw' => nw' = news ∧ rs.getD i 0 ≠ 0 ∧ ∃ t', y = .int (i : Int) t')) E' s'
        else CompEnd h₀ L m { s with heap := h, toks := tk } I oI C oC D (lst ys) (fun _ => True) (fun _ nw' => nw' = news ∧ rs.getD i 0 = 0) Value.none s') E' { s with heap := h, toks := tk })
    (fin : ∀ ys, IntsAre ys (usedL rs n) → Fin ys news) : LCt.CompRestT prog w A h₀ L m env ct elt x scope cl s (fun _ => True) (fun i v => ∃ t, v = .int ((0 : Int) + (i : Int)) t) Fin n 0 [] news := by
  refine restT_inv (n := n) (fun i ys nw => nw = news ∧ IntsAre ys (usedL rs i)) ?_ ?_ n 0 [] news (Nat.zero_add _) ⟨rfl, IntsAre.nil⟩
  · rintro i ys nw v I oI C oC D m₂ h tk E' hi ⟨rfl, hy⟩ ⟨t, rfl⟩ hC hx F N off ne
    refine wpAny_mono (turn i ys _ I oI C oC D m₂ h tk t E' hi hy hC hx F N off) (fun ok s' hy' => ?_) fun _ _ e => e
    cases ok with
    | true =>
      simp only [if_true] at hy' ⊢
      refine wpAny_mono hy' (fun y s'' hz => CompEnd.weaken hz fun nw' j => ?_) fun _ _ e => e
      obtain ⟨e1, e2, t', e3⟩ := j
      refine ⟨e1, ?_⟩
      rw [usedL, if_neg e2, e3]
      exact hy.append (.cons _ _ .nil)
    | false =>
      simp only [Bool.false_eq_true, if_false] at hy' ⊢
      refine CompEnd.weaken hy' fun nw' j => ?_
      obtain ⟨e1, e2⟩ := j
      refine ⟨e1, ?_⟩
      rw [usedL, if_pos e2]
      exact hy
  · rintro ys nw ⟨rfl, hy⟩
    exact fin ys hy
end
section
variable {prog : Program} {w : World} {A : Around} {E : Value → Shared → Prop} {s : Shared} {h₀ : Heap} {L : Addr} {m : Str → Option Value}
/-- an expression whose ways all end in one int -/
def IntCut (h₀ : Heap) (L : Addr) (m : Str → Option Value) (news : List (Addr × Obj)) (s : Shared) (x : Int) (v : Value) (s' : Shared) : Prop := ∃ t h' tk', v = .int x t ∧ s' = { s with heap := h', toks := tk' } ∧ Fr h₀ L h' m ∧ News h₀ L h' news
theorem cut_int {c : Sem Value} {news : List (Addr × Obj)} {Qv : Value → Shared → Prop} (x : Int) (_F : Fr h₀ L s.heap m) (_N : News h₀ L s.heap news)
    (h1 : wpAny (model prog w) A c (fun v s' => Stop (IntCut h₀ L m news s x v s')) E s) (h2 : ∀ t h' tk', Fr h₀ L h' m → News h₀ L h' news → Qv (.int x t) { s with heap := h', toks := tk' }) : wpAny (model prog w) A c Qv E s :=
  wpAny_mono h1 (fun v s' h => by
    obtain ⟨t, h', tk', rfl, rfl, F', N'⟩ := stop h
    exact h2 t h' tk' F' N') fun _ _ e => e
theorem sub_last {l : Addr} {value slice : PySem.Expr} {Qv : Value → Shared → Prop} {vs : List Value} {pre : List Int} {u : Int} {c : Nat} {t : Tok} {news : List (Addr × Obj)} (N : News h₀ L s.heap news) (hm : (l, Lst vs c) ∈ news) (hi : IntsAre vs (pre ++ [u])) (hl : (pre ++ [u]).length ≤ 1000) (h : ∀ t, Qv (.int u t) s)
    (hs : subscripted slice false (.ref l) (.int (-1) t) = operate [.ref l, .int (-1) t] (getItem (.ref l) (.int (-1) t)) := by with_unfolding_all rfl) :
    wpAny (model prog w) A (subscriptTail value slice (.ref l) (.int (-1) t)) Qv E s := by
  have hl' : s.heap.IsList l vs.toArray := ⟨_, (N _ hm).1, rfl, c, rfl⟩
  have hvl := hi.length
  rw [List.length_append, List.length_singleton] at hl hvl
  obtain ⟨t', hx⟩ := hi.get pre.length u (by simp)
  exact tail_any hl'.typeIs slot_list_getitem.lookup (wpAny_getItem_list_neg hl' (by decide) (by rw [List.size_toArray]; omega) (by decide) (by rw [List.size_toArray, show (-1 + (vs.length : Int)).toNat = pre.length by omega]; simpa using hx) (h t')) hs
end
abbrev getU {rs : List Int} {u : Int} (_ : IsLast rs u) : Int := u
theorem stop_and {p q : Prop} (a : p) (b : q) : Stop (p ∧ q) := ⟨a, b⟩
theorem mul_row {n less y : Int} {cs bs : List Int} (y0 : 0 ≤ y) (_ : cs = toRow less (corn n less bs)) : 0 ≤ less → less ≤ 4 → less * less ≤ 16 ∧ 0 ≤ y * less ∧ (y < less → y * less + less ≤ less * less) := fun h h4 => ⟨Int.mul_le_mul h4 h4 h (by decide), Int.mul_nonneg y0 h, fun g => by
  have := Int.mul_le_mul_of_nonneg_right (by omega : y + 1 ≤ less) h
  rw [Int.add_mul, Int.one_mul] at this
  exact this⟩
theorem sub3 {a b : Addr × Obj} {rest big : List (Addr × Obj)} (ha : a ∈ big) (hb : b ∈ big) (hr : ∀ p, p ∈ rest → p ∈ big) : ∀ p, p ∈ a :: b :: rest → p ∈ big := fun p hp => by
  rcases List.mem_cons.mp hp with rfl | hp
  · exact ha
  · rcases List.mem_cons.mp hp with rfl | hp
    · exact hb
    · exact hr _ hp
theorem off_tl {l : Addr} {a : Addr × Obj} {news : List (Addr × Obj)} (h : AllOff l (a :: news)) : AllOff l news := fun p hp => h p (.tail _ hp)
theorem at5 {h₀ h : Heap} {L : Addr} {a1 a2 a3 a4 a5 x : Addr × Obj} {news : List (Addr × Obj)} (N : News h₀ L h (a1 :: a2 :: a3 :: a4 :: a5 :: x :: news)) : News h₀ L h (x :: a1 :: a2 :: a3 :: a4 :: a5 :: news) := up1 N (at4 (news_tail N))
theorem at6 {h₀ h : Heap} {L : Addr} {a1 a2 a3 a4 a5 a6 x : Addr × Obj} {news : List (Addr × Obj)} (N : News h₀ L h (a1 :: a2 :: a3 :: a4 :: a5 :: a6 :: x :: news)) : News h₀ L h (x :: a1 :: a2 :: a3 :: a4 :: a5 :: a6 :: news) := up1 N (at5 (news_tail N))
theorem at7 {h₀ h : Heap} {L : Addr} {a1 a2 a3 a4 a5 a6 a7 x : Addr × Obj} {news : List (Addr × Obj)} (N : News h₀ L h (a1 :: a2 :: a3 :: a4 :: a5 :: a6 :: a7 :: x :: news)) : News h₀ L h (x :: a1 :: a2 :: a3 :: a4 :: a5 :: a6 :: a7 :: news) := up1 N (at6 (news_tail N))
theorem at8 {h₀ h : Heap} {L : Addr} {a1 a2 a3 a4 a5 a6 a7 a8 x : Addr × Obj} {news : List (Addr × Obj)} (N : News h₀ L h (a1 :: a2 :: a3 :: a4 :: a5 :: a6 :: a7 :: a8 :: x :: news)) : News h₀ L h (x :: a1 :: a2 :: a3 :: a4 :: a5 :: a6 :: a7 :: a8 :: news) := up1 N (at7 (news_tail N))
theorem at9 {h₀ h : Heap} {L : Addr} {a1 a2 a3 a4 a5 a6 a7 a8 a9 x : Addr × Obj} {news : List (Addr × Obj)} (N : News h₀ L h (a1 :: a2 :: a3 :: a4 :: a5 :: a6 :: a7 :: a8 :: a9 :: x :: news)) : News h₀ L h (x :: a1 :: a2 :: a3 :: a4 :: a5 :: a6 :: a7 :: a8 :: a9 :: news) := up1 N (at8 (news_tail N))
theorem at10 {h₀ h : Heap} {L : Addr} {a1 a2 a3 a4 a5 a6 a7 a8 a9 a10 x : Addr × Obj} {news : List (Addr × Obj)} (N : News h₀ L h (a1 :: a2 :: a3 :: a4 :: a5 :: a6 :: a7 :: a8 :: a9 :: a10 :: x :: news)) : News h₀ L h (x :: a1 :: a2 :: a3 :: a4 :: a5 :: a6 :: a7 :: a8 :: a9 :: a10 :: news) := up1 N (at9 (news_tail N))
theorem at11 {h₀ h : Heap} {L : Addr} {a1 a2 a3 a4 a5 a6 a7 a8 a9 a10 a11 x : Addr × Obj} {news : List (Addr × Obj)} (N : News h₀ L h (a1 :: a2 :: a3 :: a4 :: a5 :: a6 :: a7 :: a8 :: a9 :: a10 :: a11 :: x :: news)) : News h₀ L h (x :: a1 :: a2 :: a3 :: a4 :: a5 :: a6 :: a7 :: a8 :: a9 :: a10 :: a11 :: news) := up1 N (at10 (news_tail N))
theorem at12 {h₀ h : Heap} {L : Addr} {a1 a2 a3 a4 a5 a6 a7 a8 a9 a10 a11 a12 x : Addr × Obj} {news : List (Addr × Obj)} (N : News h₀ L h (a1 :: a2 :: a3 :: a4 :: a5 :: a6 :: a7 :: a8 :: a9 :: a10 :: a11 :: a12 :: x :: news)) : News h₀ L h (x :: a1 :: a2 :: a3 :: a4 :: a5 :: a6 :: a7 :: a8 :: a9 :: a10 :: a11 :: a12 :: news) := up1 N (at11 (news_tail N))
theorem at13 {h₀ h : Heap} {L : Addr} {a1 a2 a3 a4 a5 a6 a7 a8 a9 a10 a11 a12 a13 x : Addr × Obj} {news : List (Addr × Obj)} (N : News h₀ L h (a1 :: a2 :: a3 :: a4 :: a5 :: a6 :: a7 :: a8 :: a9 :: a10 :: a11 :: a12 :: a13 :: x :: news)) : News h₀ L h (x :: a1 :: a2 :: a3 :: a4 :: a5 :: a6 :: a7 :: a8 :: a9 :: a10 :: a11 :: a12 :: a13 :: news) := up1 N (at12 (news_tail N))
theorem at14 {h₀ h : Heap} {L : Addr} {a1 a2 a3 a4 a5 a6 a7 a8 a9 a10 a11 a12 a13 a14 x : Addr × Obj} {news : List (Addr × Obj)} (N : News h₀ L h (a1 :: a2 :: a3 :: a4 :: a5 :: a6 :: a7 :: a8 :: a9 :: a10 :: a11 :: a12 :: a13 :: a14 :: x :: news)) : News h₀ L h (x :: a1 :: a2 :: a3 :: a4 :: a5 :: a6 :: a7 :: a8 :: a9 :: a10 :: a11 :: a12 :: a13 :: a14 :: news) := up1 N (at13 (news_tail N))
theorem at15 {h₀ h : Heap} {L : Addr} {a1 a2 a3 a4 a5 a6 a7 a8 a9 a10 a11 a12 a13 a14 a15 x : Addr × Obj} {news : List (Addr × Obj)} (N : News h₀ L h (a1 :: a2 :: a3 :: a4 :: a5 :: a6 :: a7 :: a8 :: a9 :: a10 :: a11 :: a12 :: a13 :: a14 :: a15 :: x :: news)) : News h₀ L h (x :: a1 :: a2 :: a3 :: a4 :: a5 :: a6 :: a7 :: a8 :: a9 :: a10 :: a11 :: a12 :: a13 :: a14 :: a15 :: news) := up1 N (at14 (news_tail N))
theorem at16 {h₀ h : Heap} {L : Addr} {a1 a2 a3 a4 a5 a6 a7 a8 a9 a10 a11 a12 a13 a14 a15 a16 x : Addr × Obj} {news : List (Addr × Obj)} (N : News h₀ L h (a1 :: a2 :: a3 :: a4 :: a5 :: a6 :: a7 :: a8 :: a9 :: a10 :: a11 :: a12 :: a13 :: a14 :: a15 :: a16 :: x :: news)) : News h₀ L h (x :: a1 :: a2 :: a3 :: a4 :: a5 :: a6 :: a7 :: a8 :: a9 :: a10 :: a11 :: a12 :: a13 :: a14 :: a15 :: a16 :: news) := up1 N (at15 (news_tail N))
theorem to_block_c {w : World} {mean : ExcName → Option Value} {mg mb : Str → Option Value}
  {dp un : Nat} {gd : Option (List Code)} {cn : Str} {cs : Scope} {a : Addr} {ccd : Value} {cl : List (Str × Addr)} {outer : List Env} {A₀ : Around} {base h₀ : Heap} {L : Addr} {m : Str → Option Value} {s : Shared} {Q E : Value → Shared → Prop}
  {n : Int} {tn : Tok} {lr : Addr} {rv : List Value} {rc : Nat} {rs : List Int} {news : List (Addr × Obj)}
  (B : Below A₀ base outer h₀) (F : Fr h₀ L s.heap m) (X : (hK w.params).In h₀) (N : News h₀ L s.heap (news)) (T : Top vw LO mean mg mb h₀) (hk : cs.kind = .function)
  (hdp : dp + 6 < recursionLimit) (hun : un + 48 < cLine) (hm : (lr, Lst rv rc) ∈ news) (hi : IntsAre rv rs) (hl : (rs.length : Int) = n * n) (hn : 0 < n) (hn2 : n ≤ 4)
  (hret : ∀ (r : Addr) (vs : List Value) (ms : List Int) (c : Nat) (h' : Heap) (tk' : Nat), Fr h₀ L h' m → News h₀ L h' ((r, Lst vs c) :: news) → AllOff r news → IntsAre vs ms → ms = toBlk n rs → (ms.length : Int) = n * n → Q (.ref r) { s with heap := h', toks := tk' }) :
  wpAny (model PR w) (ktrTop dp un gd cn cs L a ccd cl outer) (call (.ref 265) [.ref lr, .int n tn]) Q E s :=
  to_block_spec B F X (dup N hm) T hk hdp hun hi hl hn hn2 fun r vs c h' tk' F' N' ho hi' => hret r vs _ c h' tk' F' (drop2 N') (off_tl ho) hi' rfl (toBlk_len hn (by omega) rs)
theorem to_row_c {w : World} {mean : ExcName → Option Value} {mg mb : Str → Option Value}
  {dp un : Nat} {gd : Option (List Code)} {cn : Str} {cs : Scope} {a : Addr} {ccd : Value} {cl : List (Str × Addr)} {outer : List Env} {A₀ : Around} {base h₀ : Heap} {L : Addr} {m : Str → Option Value} {s : Shared} {Q E : Value → Shared → Prop}
  {n : Int} {tn : Tok} {lr : Addr} {rv : List Value} {rc : Nat} {rs : List Int} {news : List (Addr × Obj)}
  (B : Below A₀ base outer h₀) (F : Fr h₀ L s.heap m) (X : (hK w.params).In h₀) (N : News h₀ L s.heap (news)) (T : Top vw LO mean mg mb h₀) (hk : cs.kind = .function)
  (hdp : dp + 6 < recursionLimit) (hun : un + 48 < cLine) (hm : (lr, Lst rv rc) ∈ news) (hi : IntsAre rv rs) (hl : (rs.length : Int) = n * n) (hn : 0 < n) (hn2 : n ≤ 4)
  (hret : ∀ (r : Addr) (vs : List Value) (ms : List Int) (c : Nat) (h' : Heap) (tk' : Nat), Fr h₀ L h' m → News h₀ L h' ((r, Lst vs c) :: news) → AllOff r news → IntsAre vs ms → ms = toRow n rs → (ms.length : Int) = n * n → Q (.ref r) { s with heap := h', toks := tk' }) :
  wpAny (model PR w) (ktrTop dp un gd cn cs L a ccd cl outer) (call (.ref 258) [.ref lr, .int n tn]) Q E s :=
  to_row_spec B F X (dup N hm) T hk hdp hun hi hl hn hn2 fun r vs c h' tk' F' N' ho hi' => hret r vs _ c h' tk' F' (drop2 N') (off_tl ho) hi' rfl (toRow_len hn (by omega) rs)
theorem corner_c {w : World} {mean : ExcName → Option Value} {mg mb : Str → Option Value}
  {dp un : Nat} {gd : Option (List Code)} {cn : Str} {cs : Scope} {a : Addr} {ccd : Value} {cl : List (Str × Addr)} {outer : List Env} {A₀ : Around} {base h₀ : Heap} {L : Addr} {m : Str → Option Value} {s : Shared} {Q E : Value → Shared → Prop}
  {n less : Int} {tn tl : Tok} {lr : Addr} {rv : List Value} {rc : Nat} {rs : List Int} {news : List (Addr × Obj)}
  (B : Below A₀ base outer h₀) (F : Fr h₀ L s.heap m) (X : (hK w.params).In h₀) (N : News h₀ L s.heap (news)) (T : Top vw LO mean mg mb h₀) (hk : cs.kind = .function)
  (hdp : dp + 10 < recursionLimit) (hun : un + 80 < cLine) (hm : (lr, Lst rv rc) ∈ news) (hi : IntsAre rv rs) (hl : (rs.length : Int) = n * n) (hn : 0 < less) (hB : Stop (less ≤ n ∧ n ≤ 4))
  (hret : ∀ (r : Addr) (vs : List Value) (ms : List Int) (c : Nat) (h' : Heap) (tk' : Nat), Fr h₀ L h' m → News h₀ L h' ((r, Lst vs c) :: news) → AllOff r news → IntsAre vs ms → ms = toRow less (corn n less (toBlk n rs)) → (ms.length : Int) = less * less → Q (.ref r) { s with heap := h', toks := tk' }) :
  wpAny (model PR w) (ktrTop dp un gd cn cs L a ccd cl outer) (call (.ref 279) [.ref lr, .int n tn, .int less tl]) Q E s :=
  corner_spec B F X (dup N hm) T hk hdp hun hi hl hn hB fun r vs c h' tk' F' N' ho hi' => hret r vs _ c h' tk' F' (drop2 N') (off_tl ho) hi' rfl (toRow_len hn (by have := stop hB; omega) _)
theorem widened_c {w : World} {mean : ExcName → Option Value} {mg mb : Str → Option Value}
  {dp un : Nat} {gd : Option (List Code)} {cn : Str} {cs : Scope} {a : Addr} {ccd : Value} {cl : List (Str × Addr)} {outer : List Env} {A₀ : Around} {base h₀ : Heap} {L : Addr} {m : Str → Option Value} {s : Shared} {Q E : Value → Shared → Prop}
  {n less : Int} {tn tl : Tok} {lr : Addr} {rv : List Value} {rc : Nat} {rs : List Int} {news : List (Addr × Obj)}
  (B : Below A₀ base outer h₀) (F : Fr h₀ L s.heap m) (X : (hK w.params).In h₀) (N : News h₀ L s.heap (news)) (T : Top vw LO mean mg mb h₀) (hk : cs.kind = .function)
  (hdp : dp + 10 < recursionLimit) (hun : un + 80 < cLine) (hm : (lr, Lst rv rc) ∈ news) (hi : IntsAre rv rs) (hl : (rs.length : Int) = less * less) (hn : 0 < less) (hB : Stop (less ≤ n ∧ n ≤ 4))
  (hret : ∀ (r : Addr) (vs : List Value) (ms : List Int) (c : Nat) (h' : Heap) (tk' : Nat), Fr h₀ L h' m → News h₀ L h' ((r, Lst vs c) :: news) → AllOff r news → IntsAre vs ms → ms = toRow n (wid n less (toBlk less rs)) → (ms.length : Int) = n * n → Q (.ref r) { s with heap := h', toks := tk' }) :
  wpAny (model PR w) (ktrTop dp un gd cn cs L a ccd cl outer) (call (.ref 286) [.ref lr, .int less tl, .int n tn]) Q E s :=
  widened_spec B F X (dup N hm) T hk hdp hun hi hl hn hB fun r vs c h' tk' F' N' ho hi' => hret r vs _ c h' tk' F' (drop2 N') (off_tl ho) hi' rfl (toRow_len (by have := stop hB; omega) (by have := stop hB; omega) _)
theorem last_used_c {w : World} {mean : ExcName → Option Value} {mg mb : Str → Option Value}
  {dp un : Nat} {gd : Option (List Code)} {cn : Str} {cs : Scope} {a : Addr} {ccd : Value} {cl : List (Str × Addr)} {outer : List Env} {A₀ : Around} {base h₀ : Heap} {L : Addr} {m : Str → Option Value} {s : Shared} {Q E : Value → Shared → Prop}
  {lr : Addr} {rv : List Value} {rc : Nat} {rs : List Int} {news : List (Addr × Obj)}
  (B : Below A₀ base outer h₀) (F : Fr h₀ L s.heap m) (X : (hK w.params).In h₀) (N : News h₀ L s.heap (news)) (T : Top vw LO mean mg mb h₀) (hk : cs.kind = .function)
  (hdp : dp + 2 < recursionLimit) (hun : un + 16 < cLine) (hm : (lr, Lst rv rc) ∈ news) (hi : IntsAre rv rs) (hl : 0 < rs.length) (hl2 : rs.length ≤ 64)
  (hret : ∀ (u : Int) (tu : Tok) (h' : Heap) (tk' : Nat), Fr h₀ L h' m → News h₀ L h' news → IsLast rs u → Q (.int u tu) { s with heap := h', toks := tk' }) :
  wpAny (model PR w) (ktrTop dp un gd cn cs L a ccd cl outer) (call (.ref 272) [.ref lr]) Q E s :=
  last_used_spec B F X (dup N hm) T hk hdp hun hi hl hl2 fun u tu h' tk' F' N' hu => hret u tu h' tk' F' (news_tail N') hu
end
end Mine
end
section
open PySem PySem.W PyProof.Rows
namespace Mine
section
local macro_rules | `(tactic| walk_at "my enter") => `(tactic| (
  have hrow9 : PySem.Challenge.rw_nt0537_01 = PySem.Challenge.rw_nt0537_01 := rfl
  have hK9 : (fun w : World => hK w.params) = fun w : World => hK w.params := rfl
  revert hrow9 hK9
  k_fill
  intro _ _
  refine wpAny_call ?_
  k_dflt cell_enter))
local macro_rules | `(tactic| walk_at "my site") => `(tactic| (
  (case B => k_asm); (case F => k_asm); (case X => k_asm); (case T => k_asm); (case hk => first | exact rfl | assumption); (case hdp => ktr_room); (case hun => ktr_units)))
local macro_rules | `(tactic| walk_at "my led") => `(tactic| ((rename News _ _ _ _ => lN9); first | exact lN9 | exact at1 lN9 | exact at2 lN9 | exact at3 lN9 | exact at4 lN9))
local macro_rules | `(tactic| walk_at "my off") => `(tactic| first | assumption | (exact List.forall_mem_nil _) | (refine List.forall_mem_cons.mpr ⟨?_, ?_⟩ <;> walk_at "my off"))
local macro_rules | `(tactic| walk_at "my enterC") => `(tactic| (
  have hrow9 : PySem.Challenge.rw_nt0537_01 = PySem.Challenge.rw_nt0537_01 := rfl
  have hK9 : (fun w : World => hK w.params) = fun w : World => hK w.params := rfl
  revert hrow9 hK9
  k_fill
  intro _ _
  refine wpAny_call ?_
  k_dflt (refine' code_defC ?k1 ?k2 ?k3 ?k4 ?k5 ?kA ?kF ?kK ?k6 ?k7 ?k8 ?k9 ?kB ?kD ?_ ?c2 ?c3 ?c4; (case kA => exact rfl); (case kF => exact rfl); (case kK => assumption); (case k1 => k_asm); (case k2 => k_asm); (case k3 => k_asm); (case k4 => k_asm); (case k5 => k_asm); (case k6 => k_is); (case k7 => k_is); (case k8 => ktr_room); (case k9 => exact BindsTo.of_eq rfl); (case kB => exact rfl); (case kD => decide +kernel); (case c2 => exact rfl); (case c3 => exact rfl); (case c4 => exact rfl); k_whole; intro g' L' h' tk' cells' FG' F' N' Y' B' X' T' l1; (try k_lt l1); k_cells Y'; (try simp only [List.cons_append, List.nil_append] at N'); (try dsimp only); (try k_lift B'); (try k_fold))))
local macro_rules | `(tactic| walk_at "eval ListComp") => `(tactic| (refine stop ?_))
local macro_rules | `(tactic| walk_at "exec Assign cons ListComp") => `(tactic| (refine stop ?_))
local macro_rules | `(tactic| walk_at "CompEnd") => `(tactic| (refine stop ?_))
local macro_rules | `(tactic| walk_at "my pull") => `(tactic| ((rename News _ _ _ _ => lN9); first | exact lN9 | exact at1 lN9 | exact at2 lN9 | exact at3 lN9 | exact at4 lN9 | exact at5 lN9 | exact at6 lN9 | exact at7 lN9 | exact at8 lN9 | exact at9 lN9 | exact at10 lN9 | exact at11 lN9 | exact at12 lN9 | exact at13 lN9 | exact at14 lN9 | exact at15 lN9 | exact at16 lN9))
local macro_rules | `(tactic| walk_at "subscriptTail Name Name ref int") => `(tactic| ((rename News _ _ _ _ => lN); (with_unfolding_all refine' sub_in lN ?hm ?hi ?h0 ?h1 ?hl ?_; (case hm => k_mem); (case hi => assumption); (case h0 => omega); (case h1 => omega); (case hl => omega); k_whole); intro _))
local macro_rules | `(tactic| walk_at "subscriptTail Name BinOp ref int") => `(tactic| ((rename News _ _ _ _ => lN); (with_unfolding_all refine' sub_in lN ?hm ?hi ?h0 ?h1 ?hl ?_; (case hm => k_mem); (case hi => assumption); (case h0 => omega); (case h1 => omega); (case hl => omega); k_whole); intro _))
local macro_rules | `(tactic| walk_at "my eq") => `(tactic| first | exact eqA (by assumption) | exact eqB (by assumption) (by assumption) (by assumption) (by assumption) (by omega) | exact eqC (by assumption) (by assumption) (by assumption) (by assumption) (by omega))
local macro_rules | `(tactic| walk_at "compareOp NotEq ref ref") => `(tactic| ((rename News _ _ _ _ => lN); (with_unfolding_all refine' ne_known lN ?ha ?hb ?hi ?hj ?e ?hu ?_; (case ha => k_mem); (case hb => k_mem); (case hi => assumption); (case hj => assumption); (case e => walk_at "my eq"); (case hu => first | units_room | ktr_units | exact Nat.le_of_ble_eq_true rfl); k_whole)))
local macro_rules | `(tactic| walk_at "eval IfExp") => `(tactic| ((rename Stop True => hz9); refine stop ?_))
local macro_rules | `(tactic| walk_at "IntCut") => `(tactic| (refine stop ?_))
local macro_rules | `(tactic| walk_at "subscriptTail") => `(tactic| ((with_reducible show wpAny _ _ (subscriptTail _ _ (Value.ref _) (Value.int (-1) _)) _ _ _); (rename News _ _ _ _ => lN); (with_unfolding_all refine' sub_last lN ?hm ?hi ?hl ?_; (case hm => k_mem); (case hi => assumption); (case hl => rename (usedL _ _ = _ ++ _) => hz9; (rw [← hz9]; exact Nat.le_trans (usedL_len _ _) (by omega))); k_whole); intro _))
local macro_rules | `(tactic| walk_at "my sub") => `(tactic| (intro p9 hp9; repeat (first | exact hp9 | refine List.Mem.tail _ ?_)))
local macro_rules | `(tactic| walk_at "my offs") => `(tactic| first | assumption | (exact List.forall_mem_nil _) | (refine List.forall_mem_cons.mpr ⟨?_, ?_⟩ <;> first | assumption | k_ne | walk_at "my offs"))
local macro_rules | `(tactic| walk_at "my om") => `(tactic| first | omega | ((rename Stop (_ ∧ _) => hB9); (have hB8 := stop hB9); omega))
local macro_rules | `(tactic| k_ne) => `(tactic| (refine neN ?_; (try dsimp only); first | exact ne_of1 (by assumption) (by k_mem) | exact ne_of2 (by assumption) (by k_mem) | omega))
local macro_rules | `(tactic| walk_at "call ref") => `(tactic| (
  (first
    | ((with_reducible show wpAny _ _ (call (Value.ref 265) _) _ _ _); k_dflt (refine' to_block_c ?B ?F ?X ?N ?T ?hk ?hdp ?hun ?hm ?hi ?hl ?hn ?hn2 ?_; walk_at "my site"; (case N => k_asm); (case hm => k_mem); (case hi => assumption); (case hl => assumption); (case hn => omega); (case hn2 => walk_at "my om")))
    | ((with_reducible show wpAny _ _ (call (Value.ref 258) _) _ _ _); k_dflt (refine' to_row_c ?B ?F ?X ?N ?T ?hk ?hdp ?hun ?hm ?hi ?hl ?hn ?hn2 ?_; walk_at "my site"; (case N => k_asm); (case hm => k_mem); (case hi => assumption); (case hl => assumption); (case hn => omega); (case hn2 => walk_at "my om"))));
  intro r9 vs9 ms9 c9 h9 tk9 F9 N9 ho9 hi9 he9 hl9; (try dsimp only); (try k_fold)))
local macro_rules | `(tactic| walk_at "call ref") => `(tactic| (
  (first
    | ((with_reducible show wpAny _ _ (call (Value.ref 279) _) _ _ _); k_dflt (refine' corner_c ?B ?F ?X ?N ?T ?hk ?hdp ?hun ?hm ?hi ?hl ?hn ?hB ?_; walk_at "my site"; (case N => k_asm); (case hm => k_mem); (case hi => assumption); (case hl => assumption); (case hn => omega); (case hB => refine stop_and ?_ ?_ <;> omega)))
    | ((with_reducible show wpAny _ _ (call (Value.ref 286) _) _ _ _); k_dflt (refine' widened_c ?B ?F ?X ?N ?T ?hk ?hdp ?hun ?hm ?hi ?hl ?hn ?hB ?_; walk_at "my site"; (case N => k_asm); (case hm => k_mem); (case hi => assumption); (case hl => assumption); (case hn => omega); (case hB => refine stop_and ?_ ?_ <;> omega))));
  intro r9 vs9 ms9 c9 h9 tk9 F9 N9 ho9 hi9 he9 hl9; (try dsimp only); (try k_fold)))
local macro_rules | `(tactic| walk_at "call ref") => `(tactic| (
  ((with_reducible show wpAny _ _ (call (Value.ref 312) _) _ _ _); k_dflt (refine' numbers_spec ?B ?F ?X ?N ?T ?hk ?hdp ?hun ?hoff ?hp ?hq ?hq2 ?hm ?hm2 ?_; walk_at "my site"; (case N => walk_at "my pull"); (case hoff => walk_at "my offs"); (case hp => assumption); (case hq => assumption); (case hq2 => assumption); (case hm => omega); (case hm2 => omega)));
  intro r9 vs9 ns9 c9 p9 q9 t9 u9 n9 h9 tk9 F9 N9 ho9 hi9 hl9 pp9 qq9 qr9; (try dsimp only); (try k_fold)))
local macro_rules | `(tactic| walk_at "call ref") => `(tactic| (
  ((with_reducible show wpAny _ _ (call (Value.ref 300) _) _ _ _); k_dflt (refine' take_spec ?B ?F ?X ?N ?T ?hk ?hoff ?hdp ?hun ?hp ?hq ?hq2 ?htop ?htop2 ?_; walk_at "my site"; (case N => walk_at "my pull"); (case hoff => walk_at "my offs"); (case hp => assumption); (case hq => assumption); (case hq2 => assumption); (case htop => omega); (case htop2 => omega)));
  intro d9 td9 p9 q9 t9 u9 n9 h9 tk9 F9 N9 d0 d1 p0 q0 q1; (try dsimp only); (try k_fold)))
local macro_rules | `(tactic| walk_at "call ref") => `(tactic| (
  ((with_reducible show wpAny _ _ (call (Value.ref 272) _) _ _ _); k_dflt (refine' last_used_c ?B ?F ?X ?N ?T ?hk ?hdp ?hun ?hm ?hi ?hl ?hl2 ?_; walk_at "my site"; (case N => k_asm); (case hm => k_mem); (case hi => assumption); (case hl => omega); (case hl2 => omega)));
  intro u9 tu9 h9 tk9 F9 N9 hu9; (try dsimp only); (try k_fold)))
local macro_rules | `(tactic| k_all) => `(tactic| first | (exact lt_all (by assumption) (Nat.le_succ _)) | (exact lt_all (by assumption) (Nat.le_succ_of_le (Nat.le_succ _))))
local macro_rules | `(tactic| walk_at "CompSrc") => `(tactic| (refine stop ?_))
local macro_rules | `(tactic| walk_at "CompSrcT") => `(tactic| (refine stop ?_))
local macro_rules | `(tactic| walk_at "Exists") => `(tactic| (refine stop ?_))
local macro_rules | `(tactic| walk_at "pyIter ref") => `(tactic| (refine stop ?_))
local macro_rules | `(tactic| walk_at "InvEndN") => `(tactic| (refine stop ?_))
theorem row_right_spec {w : World} {mean : ExcName → Option Value} {mg mb : Str → Option Value}
  {dp un : Nat} {gd : Option (List Code)} {cn : Str} {cs : Scope} {a : Addr} {ccd : Value} {cl : List (Str × Addr)} {outer : List Env} {A₀ : Around} {base h₀ : Heap} {L : Addr} {m : Str → Option Value} {s : Shared} {Q E : Value → Shared → Prop}
  {n : Int} {tn : Tok} {l : Addr} {p q : Int} {t u : Tok} {k : Nat} {lw : Addr} {wv : List Value} {wc : Nat} {rest : List (Addr × Obj)}
  (B : Below A₀ base outer h₀) (F : Fr h₀ L s.heap m) (X : (hK w.params).In h₀) (N : News h₀ L s.heap ((l, Lst [.int p t, .int q u] k) :: (lw, Lst wv wc) :: rest)) (T : Top vw LO mean mg mb h₀) (hk : cs.kind = .function)
  (hdp : dp + 14 < recursionLimit) (hun : un + 160 < cLine) (hoff : AllOff l ((lw, Lst wv wc) :: rest)) (hp : 0 ≤ p) (hq : 0 ≤ q) (hq2 : q < 2147483647) (hw : IntsAre wv (zz n)) (hn : 0 < n) (hn2 : n ≤ 4)
  (hret : ∀ (p' q' : Int) (t' u' : Tok) (k' : Nat) (h' : Heap) (tk' : Nat), Fr h₀ L h' m → News h₀ L h' ((l, Lst [.int p' t', .int q' u'] k') :: (lw, Lst wv wc) :: rest) → 0 ≤ p' → 0 ≤ q' → q' < 2147483647 → Q (.bool true) { s with heap := h', toks := tk' }) :
  wpAny (model PR w) (ktrTop dp un gd cn cs L a ccd cl outer) (call (.ref 317) [.ref l, .int n tn, .ref lw]) Q E s := by
  have n16 : n * n ≤ 16 := Int.mul_le_mul (by omega) (by omega) (by omega) (by omega)
  obtain ⟨z1, z2, z3, z4⟩ := zz_facts hn (by omega : n ≤ 8)
  walk_at "my enterC"
  rename News _ _ _ ((_, _) :: (_, _) :: (l, _) :: _) => nC
  rename (l < _ ∧ _) => lC
  have hoffr := off_tl hoff
  have hoffC := cells2_off nC lC.1 hoff
  have hLl := lC.1
  have hLw := lC.2.1
  have hLr := lC.2.2
  k_steps
  unfold Stop
  k_dflt (refine LCg.ListComp_U (F₀ := by k_asm) (by rfl) (by decide) (by rfl) (by decide) (by rfl) ?_)
  k_steps
  unfold Stop
  rename Fr _ _ _ _ => lF
  rename News _ _ _ _ => lN
  rename (_ = toRow n _) => hrow
  refine LCg.CompSrc.ledger (by rfl) lF lN (its := wv.toArray) (k := wc) (by k_mem) (by rw [List.size_toArray, hw.length, sizeLine_eq]; omega) (fun g => rest_map (ps := zz n) (fun p => (getBs hrow).getD p.toNat 0) (by rw [List.size_toArray, hw.length]) (fun i v hi hv => ints_src hw hw.length i v (by rw [hw.length] at *; simpa [hw.length] using hi) (by simpa using hv)) ?turn ?fin)
  case turn =>
    intro p t ys I oI C oC D m₂ h tk E' hp hC hx F' N' off
    obtain ⟨p0, p1⟩ := z2 p hp
    k_steps
    unfold Stop
    rename Fr _ _ _ _ => kF
    rename News _ _ _ _ => kN
    exact LCg.CompEnd.intro kF kN _ (fun p hp => hp) ⟨off.1, off.2⟩ (.inr ⟨_, by k_mem, rfl, _, rfl⟩) ⟨rfl, _, rfl⟩
  case fin =>
    intro ys hys
    unfold LCg.FinE
    intro D h tk F' N' o1
    have hoD := off1_mem o1
    k_steps
    unfold Stop
    k_dflt (refine LCt.Assign_ListComp_T (F₀ := by k_asm) (by rfl) (by with_unfolding_all rfl) (by with_unfolding_all rfl) (by decide) (by rfl) (by decide) (by rfl) (by rfl) (by rfl) ?_)
    k_steps
    unfold Stop
    rename Fr _ _ _ _ => lF2
    rename News _ _ _ _ => lN2
    rename IsRange _ _ _ _ _ _ _ _ => rgX
    rename (_ = toBlk n _) => hblk
    refine LCt.CompSrcT.range (by rfl) lF2 lN2 rgX (small_one (by omega) (by omega) (by omega) (by omega)) (rangeSize_nat _ _) (by rw [sizeLine_eq]; omega) (fun g => restT_used (getRs hblk) ?turn2 ?fin2)
    case turn2 =>
      intro i ys us I oI C oC D2 m₂ h tk tv E' hi hy hC hx F' N' off
      k_steps
      · unfold Stop
        rename Fr _ _ _ _ => kF
        rename News _ _ _ _ => kN
        exact LCg.CompEnd.intro kF kN _ (fun p hp => hp) ⟨off.1, off.2⟩ trivial ⟨rfl, by rw [← show ((0 : Int) + (i : Int)).toNat = i by omega]; assumption, _, by rw [Int.zero_add]⟩
      · unfold Stop
        rename Fr _ _ _ _ => kF
        rename News _ _ _ _ => kN
        exact LCg.CompEnd.intro kF kN _ (fun p hp => hp) ⟨off.1, off.2⟩ trivial ⟨rfl, by rw [← show ((0 : Int) + (i : Int)).toNat = i by omega]; assumption⟩
    case fin2 =>
      intro ys hys
      unfold LCg.FinA
      intro D2 h tk F' N' o1
      have hoD2 := off1_mem o1
      have hmk : Stop True := trivial
      have hlr : ((getRs hblk).length : Int) = n * n := by assumption
      rw [show (n * n - 0).toNat = (getRs hblk).length by omega] at hys
      k_steps
      unfold Stop
      rename Fr _ _ _ _ => lF3
      rename News _ _ _ _ => lN3
      rename IsLast _ _ => hu
      refine cut_int (getU hu) lF3 lN3 ?cut ?go
      all_goals (rename Stop True => hmk; clear hmk)
      case cut =>
        rcases last_used_eq hu with ⟨e1, e2⟩ | ⟨pre, e1⟩
        · rw [e1] at hys
          k_steps
          unfold Stop
          rename Fr _ _ _ _ => kF
          rename News _ _ _ _ => kN
          exact ⟨_, _, _, by rw [show getU hu = 0 from e2], rfl, kF, news_tail kN⟩
        · rw [e1] at hys
          k_steps
          · exfalso
            simp_all
          · unfold Stop
            rename Fr _ _ _ _ => kF
            rename News _ _ _ _ => kN
            exact ⟨_, _, _, rfl, rfl, kF, news_tail kN⟩
      case go =>
        intro tw hw9 tkw Fw Nw
        clear lF3 lN3
        k_steps
        · exact absurd rfl (by assumption)
        unfold Stop
        rename Fr _ _ _ _ => lF5
        rename News _ _ _ _ => lN5
        rename IsRange _ _ _ _ _ _ _ _ => rgY
        rename (_ = toBlk _ _) => e6
        revert e6
        rename (_ = toRow _ (wid _ _ _)) => e5
        revert e5
        rename (_ = toRow _ (corn _ _ _)) => e4
        revert e4
        rename (_ = toBlk _ _) => e3
        revert e3
        rename (_ = toBlk _ _) => e2
        rename (_ = toRow _ (corn _ _ _)) => e1
        intro e3 e4 e5 e6
        have G := grid_law (by omega) (by omega) hn2 (by assumption) e1 e2 e3 e4 e5 e6
        rename 0 ≤ (_ : Int) => dd0
        refine' rngN [Str.ofString "x", Str.ofString "is_low"] ?hh rgY ?sm (rangeSize_nat _ _) lF5 lN5 ?turnY ?doneY
        case hh => rfl
        case sm => exact small_one (by omega) (by omega) (by omega) (by omega)
        case doneY =>
          clear lF5 lN5
          intro u h tk F' N'
          k_steps
          rename Fr h₀ L _ m => kF
          rename News h₀ L _ _ => kN
          exact hret _ _ _ _ _ _ _ kF (news_sub kN (sub3 (by k_mem) (by k_mem) (by walk_at "my sub"))) (by assumption) (by assumption) (by assumption)
        case turnY =>
          clear lF5 lN5
          intro pre y t u h tk own hy hlt hoffo F' N'
          have y0 : 0 ≤ y := by omega
          have yn : y < n := by omega
          have yn0 : 0 ≤ y * n := Int.mul_nonneg y0 (by omega)
          have yn1 : y * n + n ≤ n * n := by
            have := Int.mul_le_mul_of_nonneg_right (by omega : y + 1 ≤ n) (by omega : 0 ≤ n)
            rw [Int.add_mul, Int.one_mul] at this
            exact this
          have yl := mul_row y0 e1 (by omega) (by omega)
          k_steps
          unfold Stop
          rename Fr _ _ _ _ => lF6
          rename News _ _ _ _ => lN6
          rename IsRange _ _ _ _ _ _ _ _ => rgX6
          refine' rngN [Str.ofString "is_low"] ?hh rgX6 ?sm (rangeSize_nat _ _) lF6 lN6 ?turnX ?doneX
          case hh => rfl
          case sm => exact small_one (by omega) (by omega) (by omega) (by omega)
          case doneX =>
            clear lF6 lN6
            intro u h tk F' N'
            k_steps
            unfold Stop
            rename News _ _ _ _ => kN
            exact turn_end () (by assumption) kN (fun p hp => by first | exact hp | exact .tail _ hp) rfl trivial (List.forall_mem_nil _) (by kst_same) trivial
          case turnX =>
            clear lF6 lN6
            intro pre x t u h tk own hx hlt hoffo F' N'
            have x0 : 0 ≤ x := by omega
            have xn : x < n := by omega
            obtain ⟨G1, G2, G3⟩ := G y x y0 yn x0 xn
            k_steps
            all_goals first
              | exact absurd (G1 (by assumption) (by assumption)) (by assumption)
              | exact absurd (G2 (by assumption) (by assumption)) (by assumption)
              | exact absurd (G3 fun q => absurd q.1 (by assumption)) (by assumption)
              | exact absurd (G3 fun q => absurd q.2 (by assumption)) (by assumption)
              | (unfold Stop
                 rename News _ _ _ _ => kN
                 exact turn_end () (by assumption) kN (fun p hp => by first | exact hp | exact .tail _ hp) rfl trivial (List.forall_mem_nil _) (by kst_same) trivial)
end
end Mine
end
section
open PySem PySem.W PyProof.Rows
set_option autoImplicit false
namespace Mine
theorem rk_all : ∀ m : Fin 9, (zz (m.1 : Int)).map (fun p => (rks (m.1 : Int)).getD p.toNat 0) = rangeKs 0 (m.1 * m.1) ∧ (rks (m.1 : Int)).length = m.1 * m.1 := by decide +kernel
theorem rk_facts {n : Int} (h0 : 0 < n) (h1 : n ≤ 8) : (zz n).map (fun p => (rks n).getD p.toNat 0) = rangeKs 0 (n * n).toNat ∧ ((rks n).length : Int) = n * n := by
  have hn : ((n.toNat : Nat) : Int) = n := by omega
  have hm : ((n.toNat * n.toNat : Nat) : Int) = n * n := by rw [Int.natCast_mul, hn]
  have e := rk_all ⟨n.toNat, by omega⟩
  dsimp only at e
  rw [hn] at e
  exact ⟨by rw [e.1, ← hm]; rfl, by rw [e.2]; exact hm⟩
def menu : List Int := [2, 3, 4, 1, 5, 8]
theorem menu_ok {d : Int} (h0 : 0 ≤ d) (h1 : d < 6) : 0 < menu.getD d.toNat 0 ∧ menu.getD d.toNat 0 ≤ 8 := by
  have : d = 0 ∨ d = 1 ∨ d = 2 ∨ d = 3 ∨ d = 4 ∨ d = 5 := by omega
  rcases this with rfl | rfl | rfl | rfl | rfl | rfl <;> decide
theorem top10 : (zz 8).take 10 = [0, 1, 8, 16, 9, 2, 3, 10, 17, 24] := by decide +kernel
end Mine
end
section
open PySem PySem.W PyProof.Rows PySem.Spec PySem.Calls PyProof PySem.SeqAt
namespace Mine
section
section
variable {prog : Program} {w : World} {A : Around} {E : Value → Shared → Prop} {s : Shared} {h₀ : Heap} {L : Addr} {m : Str → Option Value} {env : Env} {x : Str} {body : List Stmt} {Q : Flow → Shared → Prop}
/-- a loop over a range; one cell (the ledger's head) turns -/
theorem rngC {r : Addr} {a₀ b₀ : Int} {t₀ u₀ v₀ : Tok} {n : Nat} {m₀ : Str → Option Value} {ca : Addr} {o₀ : Obj} {post : List (Addr × Obj)} (stored : List Str)
    (hh : A.handled = none) (hr : IsRange s.heap r a₀ b₀ 1 t₀ u₀ v₀) (hsmall : Builtin.Range.small a₀ b₀ 1 = true) (hn : Builtin.Range.rangeSize a₀ b₀ 1 = (n : Int)) (F : Fr h₀ env.locals s.heap m₀) (N : News h₀ env.locals s.heap ((ca, o₀) :: post)) (hc : ∃ v, o₀.data = .cell v)
    (turn : ∀ o v pre (k : Int) t (u : Str → Option Value) h tk own, o.data = .cell v → k = a₀ + (pre.length : Int) → pre.length < n → OwnOff own (ca :: post.map (·.1)) →
      Fr h₀ env.locals h (fun y => if y = x then some (.int k t) else if stored.contains y then u y else m₀ y) → News h₀ env.locals h ((ca, o) :: (post ++ own)) →
      wpAny (model prog w) A (execs body env) (InvPostN h₀ env.locals (KstS (σ := Obj) (fun c => (ca, c) :: post) (fun _ => []) (fun c => ∃ v, c.data = .cell v) x stored m₀ (fun _ _ => True) (pre ++ [k])) own (ca :: post.map (·.1)) { s with heap := h, toks := tk } Q) E { s with heap := h, toks := tk })
    (done : ∀ o v (u : Str → Option Value) h tk, o.data = .cell v → Fr h₀ env.locals h (fun y => if y = x then u y else if stored.contains y then u y else m₀ y) → News h₀ env.locals h ((ca, o) :: post) → Q .next { s with heap := h, toks := tk }) :
    wpAny (model prog w) A (pyIter (.ref r)) (fun it s₂ => LoopAtV prog w A h₀ env x body Q E it s₂) E s :=
  kst_range (σ := Obj) (fun c => (ca, c) :: post) (fun _ => []) (fun c => ∃ v, c.data = .cell v) stored (fun _ _ => True) o₀ hh hr hsmall hn F N hc (List.forall_mem_nil _) trivial
    (fun o pre k t u h tk own e1 e2 off f _ F' N' => f.elim fun v f => turn o v pre k t u h tk own f e1 e2 off F' N') (fun o u h tk f _ F' N' => f.elim fun v f => done o v u h tk f F' N')

/-- a statement that binds nothing and goes on -/
def NextCut (h₀ : Heap) (L : Addr) (m : Str → Option Value) (news : List (Addr × Obj)) (s : Shared) (f : Flow) (s' : Shared) : Prop := ∃ h' tk', f = .next ∧ s' = { s with heap := h', toks := tk' } ∧ Fr h₀ L h' m ∧ News h₀ L h' news
theorem cut_next {c : Sem Flow} {news : List (Addr × Obj)} (_F : Fr h₀ L s.heap m) (_N : News h₀ L s.heap news)
    (h1 : wpAny (model prog w) A c (fun f s' => Stop (NextCut h₀ L m news s f s')) E s) (h2 : ∀ h' tk', Fr h₀ L h' m → News h₀ L h' news → Q .next { s with heap := h', toks := tk' }) : wpAny (model prog w) A c Q E s :=
  wpAny_mono h1 (fun v s' h => by
    obtain ⟨h', tk', rfl, rfl, F', N'⟩ := stop h
    exact h2 h' tk' F' N') fun _ _ e => e

theorem tup_eq (ns ms : List Int) : PySem.Spec.same (.tuple (ns.map PyData.int)) (.tuple (ms.map PyData.int)) = decide (ns = ms) := by
  simp only [PySem.Spec.same]; exact same_ints ns ms
theorem shaped_tup (ns : List Int) : SeqAt.shaped (.tuple (ns.map PyData.int)) = true := by
  simp [SeqAt.shaped, PyData.canLay0, PyData.depth, ke_canLayAll0, ke_depthAll]
theorem ne_tups {a b : Addr} {vs us : List Value} {ns ms : List Int} {Qv : Value → Shared → Prop} (ha : IsTup s.heap a vs.toArray) (hb : IsTup s.heap b us.toArray) (hi : IntsAre vs ns) (hj : IntsAre us ms) (e : ns = ms) (hu : A.units + 64 < cLine) (h : Qv (.bool false) s) :
    wpAny (model prog w) A (compareOp .NotEq (.ref a) (.ref b)) Qv E s :=
  ne_dataH_same (reads_newDataT ha (ke_carried hi)) (reads_newDataT hb (ke_carried hj)) (shaped_tup _) (shaped_tup _) hu (by simp only [noMix]; exact noMix_ints ns ms) (by rw [tup_eq, decide_eq_true e]; exact h)
theorem eq_tups {a b : Addr} {vs us : List Value} {ns ms : List Int} {Qv : Value → Shared → Prop} (ha : IsTup s.heap a vs.toArray) (hb : IsTup s.heap b us.toArray) (hi : IntsAre vs ns) (hj : IntsAre us ms) (e : ns = ms) (hu : A.units + 64 < cLine) (h : Qv (.bool true) s) :
    wpAny (model prog w) A (compareOp .Eq (.ref a) (.ref b)) Qv E s :=
  eq_dataH_same (reads_newDataT ha (ke_carried hi)) (reads_newDataT hb (ke_carried hj)) (shaped_tup _) (shaped_tup _) hu (by simp only [noMix]; exact noMix_ints ns ms) (by rw [tup_eq, decide_eq_true e]; exact h)
theorem menu_sub {l : Addr} {value slice : PySem.Expr} {Qv : Value → Shared → Prop} {vs : List Value} {c : Nat} {k : Int} {u : Tok} {news : List (Addr × Obj)} (N : News h₀ L s.heap news) (hm : (l, Lst vs c) ∈ news) (hi : IntsAre vs menu) (h0 : 0 ≤ k) (h1 : k < 6) (h : ∀ n t, 0 < n → n ≤ 8 → Qv (.int n t) s)
    (hs : subscripted slice false (.ref l) (.int k u) = operate [.ref l, .int k u] (getItem (.ref l) (.int k u)) := by with_unfolding_all rfl) :
    wpAny (model prog w) A (subscriptTail value slice (.ref l) (.int k u)) Qv E s :=
  sub_in N hm hi h0 h1 (by decide) (fun t => h _ t (menu_ok h0 h1).1 (menu_ok h0 h1).2) hs
theorem seq_at {k : Int} {n : Nat} (h0 : 0 ≤ k) (h1 : k < n) : seqIndex? k n = some k.toNat := by
  simp only [seqIndex?]
  rw [if_neg (show ¬ k < 0 by omega), if_pos (by simp only [Bool.and_eq_true, decide_eq_true_eq]; omega)]
theorem tup_in {a : Addr} {vs : List Value} {c : Nat} {h : Heap} {news : List (Addr × Obj)} (N : News h₀ L h news) (hm : (a, Tup vs c) ∈ news) : IsTup h a vs.toArray := ⟨_, (N _ hm).1, rfl, c, rfl⟩
theorem sub_tup {l : Addr} {value slice : PySem.Expr} {Qv : Value → Shared → Prop} {vs : List Value} {ns : List Int} {c : Nat} {k : Int} {u : Tok} {news : List (Addr × Obj)} (N : News h₀ L s.heap news) (hm : (l, Tup vs c) ∈ news) (hi : IntsAre vs ns) (h0 : 0 ≤ k) (h1 : k < ns.length) (hl : ns.length ≤ 1000) (h : ∀ t, Qv (.int (ns.getD k.toNat 0) t) s)
    (hs : subscripted slice false (.ref l) (.int k u) = operate [.ref l, .int k u] (getItem (.ref l) (.int k u)) := by with_unfolding_all rfl) :
    wpAny (model prog w) A (subscriptTail value slice (.ref l) (.int k u)) Qv E s := by
  have hk : k.toNat < ns.length := by omega
  obtain ⟨t', hx⟩ := hi.get k.toNat ns[k.toNat] (by simp)
  have hvl := hi.length
  exact item_tupleT (j := k.toNat) (tup_in N hm) (by omega) (by omega) (seq_at h0 (by omega)) hx (by have := h t'; rw [List.getD_eq_getElem?_getD, List.getElem?_eq_getElem hk] at this; exact this) hs
end
theorem pos_of {n : Int} (_ : n ≤ 8) (h : 0 < n) : 0 < n := h
abbrev getN {n : Int} (_ : n ≤ 8) : Int := n
theorem tup_fit {vs : List Value} {ns : List Int} (hi : IntsAre vs ns) (h : ns.length ≤ 1000) : vs.length ≤ 1000 := by rw [hi.length]; exact h
theorem ne_ord8 {w : World} {A : Around} {E : Value → Shared → Prop} {s : Shared} {h₀ : Heap} {L : Addr} {m : Str → Option Value} {n : Int} {b : Addr} {us : List Value} {d : Nat} {news : List (Addr × Obj)} {Qv : Value → Shared → Prop} (F : Fr h₀ L s.heap m) (X : (hK w.params).In h₀) (e8 : n = 8) (N : News h₀ L s.heap news) (hb : (b, Tup us d) ∈ news) (hj : IntsAre us (zz n)) (hu : A.units + 64 < cLine) (h : Qv (.bool false) s) :
    wpAny (model PR w) A (compareOp .NotEq (.ref 239) (.ref b)) Qv E s := by
  obtain ⟨vs, ⟨o, ho, hc, k, hd⟩, hi⟩ := ord8_at X
  subst e8
  exact ne_tups ⟨o, F.keep _ _ ho, hc, k, hd⟩ (tup_in N hb) hi hj rfl hu h
section
variable {prog : Program} {w : World} {A : Around} {E : Value → Shared → Prop} {s : Shared} {h₀ : Heap} {L : Addr} {m : Str → Option Value} {news : List (Addr × Obj)}
theorem adj_to {b n : Nat} (hb : b ≤ n) : Builtin.Slice.sliceAdjust none (some (b : Int)) 1 (n : Int) = (0, (b : Int)) := by
  simp only [Builtin.Slice.sliceAdjust, if_neg (show ¬ ((1 : Int) < 0) by omega), if_neg (show ¬ ((b : Int) < 0) by omega)]
  exact congrArg (Prod.mk (0 : Int)) (by omega)
theorem places_to (b : Nat) : Builtin.Slice.slicePlaces 0 (b : Int) 1 = b := by
  simp only [Builtin.Slice.slicePlaces, if_pos (show (1 : Int) > 0 by omega), Int.ediv_one]
  split <;> omega
theorem applied_to {sl : Addr} {b n : Nat} {u : Tok} {Qv : Int × Int × Nat → Shared → Prop} (hs : s.heap.IsSliceOf sl .none (.int b u) .none) (hb : b ≤ n) (h : Qv (0, 1, b) s) :
    wpAny (model prog w) A (Builtin.Slice.sliceApplied (.ref sl) (pure (n : Int))) Qv E s := by
  obtain ⟨os, hos, _, hds⟩ := id hs
  unfold Builtin.Slice.sliceApplied Builtin.Slice.sliceFields
  refine wpAny_bind (wpAny_bind (wpAny_field hos hds (x := .none) rfl (wpAny_bind (wpAny_field hos hds (x := .int b u) rfl (wpAny_bind (wpAny_field hos hds (x := .none) rfl (wpAny_pure ?_)))))))
  refine wpAny_bind (slicePart_none ?_)
  show wpAny _ _ (if ((1 : Int) == 0) = true then _ else _) _ _ s
  rw [if_neg (by decide)]
  refine wpAny_bind (slicePart_none (wpAny_bind (slicePart_int (wpAny_bind (wpAny_pure ?_)))))
  show wpAny _ _ (match Builtin.Slice.sliceAdjust none (some (b : Int)) 1 (n : Int) with | (lo, hi) => pure (lo, (1 : Int), Builtin.Slice.slicePlaces lo hi 1)) _ _ s
  rw [adj_to hb]
  show wpAny _ _ (pure ((0 : Int), (1 : Int), Builtin.Slice.slicePlaces 0 (b : Int) 1)) _ _ s
  rw [places_to]
  exact wpAny_pure h
theorem pick_to (xs : List Value) : ∀ b, b ≤ xs.length → (List.range b).filterMap (fun (k : Nat) => xs.toArray[((0 : Int) + (k : Int) * 1).toNat]?) = xs.take b
  | 0, _ => rfl
  | b + 1, h => by
    rw [List.range_succ, List.filterMap_append, pick_to xs b (by omega), List.take_add_one]
    have e : ((0 : Int) + (b : Int) * 1).toNat = b := by omega
    simp only [List.filterMap_cons, List.filterMap_nil, e, List.getElem?_toArray]
    rw [List.getElem?_eq_getElem (by omega : b < xs.length)]
    rfl
theorem get_to {t sl : Addr} {vs : List Value} {b : Nat} {u : Tok} {Qv : Value → Shared → Prop} (ht : IsTup s.heap t vs.toArray) (hs : s.heap.IsSliceOf sl .none (.int b u) .none) (hb : b < vs.length) (hz : vs.length ≤ 1000)
    (h : Qv (.ref s.heap.objs.size) { s with heap := s.heap.push { cls := .type "tuple", data := .seq (vs.take b).toArray } }) : wpAny (model prog w) A (getItem (.ref t) (.ref sl)) Qv E s := by
  have hok : sizeOk (.seq (vs.take b).toArray) := by
    show (vs.take b).toArray.size ≤ sizeLine
    rw [List.size_toArray, List.length_take, sizeLine_eq]
    omega
  obtain ⟨os, hos, hcs, _⟩ := id hs
  have hTs : s.TypeIs (.ref sl) "slice" := ⟨os, hos, hcs⟩
  unfold getItem
  try with_reducible refine wpAny_holding ?_
  first | refine wpAny_bind (wpAny_pure ?_) | skip
  refine wpAny_bind (wpAny_sequenceKey ht.typeIs (by decide) ?_)
  refine wpAny_bind (wpAny_callSpecial?_slot (name := Str.ofString "__getitem__") ht.typeIs PyProof.Rows.slot_tuple_getitem
    (wpAny_call_entry PyProof.Rows.slot_tuple_getitem ht.typeIs PyProof.Rows.entry_tuple_getitem ?_ (PyProof.Rows.args_tuple_getitem _ _)))
  show wpAny _ _ (Builtin.Tuple.tupleItemsOf (.ref t) >>= _) _ _ s
  refine wpAny_bind (tupleItemsOf_ ht ?_)
  refine wpAny_bind (wpAny_typeOf hTs ?_)
  rw [if_pos (by decide)]
  have hb' : b ≤ vs.toArray.size := by rw [List.size_toArray]; omega
  refine wpAny_bind (applied_to hs hb' ?_)
  have hno : ¬ (((0 : Int) == 0 && (1 : Int) == 1 && b == vs.toArray.size) = true) := by
    have : (b == vs.toArray.size) = false := by rw [beq_eq_false_iff_ne, List.size_toArray]; omega
    rw [this]; simp
  show wpAny _ _ (if ((0 : Int) == 0 && (1 : Int) == 1 && b == vs.toArray.size) = true then _ else _) _ _ s
  rw [if_neg hno, pick_to vs b (by omega)]
  exact wpAny_bind (m := Builtin.Tuple.tupleExact _) (wpAny_newObj_type (wpAny_pure ⟨_, rfl, wpAny_pure h⟩) hok)
end
theorem slice_ord8 {w : World} {A : Around} {E : Value → Shared → Prop} {s : Shared} {h₀ : Heap} {L : Addr} {m : Str → Option Value} {news : List (Addr × Obj)} {value slice : PySem.Expr} {u : Tok} {Qv : Value → Shared → Prop}
    (F : Fr h₀ L s.heap m) (N : News h₀ L s.heap news) (X : (hK w.params).In h₀)
    (h : ∀ D vs h', Fr h₀ L h' m → News h₀ L h' ((D, Tup vs 0) :: news) → IntsAre vs ((zz 8).take 10) → Qv (.ref D) { s with heap := h' })
    (hs : subscripted slice false (.ref 239) (.ref s.heap.objs.size) = operate [.ref s.heap.objs.size, .ref 239] (getItem (.ref 239) (.ref s.heap.objs.size)) := by with_unfolding_all rfl) :
    wpAny (model PR w) A (subscriptTail value slice (.ref 239) (.ref s.heap.objs.size)) Qv E { s with heap := s.heap.push { cls := .type "slice", data := .fields #[.none, .int 10 u, .none] } } := by
  obtain ⟨vs, ⟨o, ho, hc, k, hd⟩, hi⟩ := ord8_at X
  have hvl : vs.length = 64 := by rw [hi.length, zz8]; rfl
  have ht : IsTup s.heap 239 vs.toArray := ⟨o, F.keep _ _ ho, hc, k, hd⟩
  have ht' : IsTup (s.heap.push { cls := .type "slice", data := .fields #[.none, .int 10 u, .none] }) 239 vs.toArray := ht.keeps fun _ _ e => Heap.get?_push_of_some _ e
  refine tail_any (s := { s with heap := s.heap.push { cls := .type "slice", data := .fields #[.none, .int 10 u, .none] } }) ht'.typeIs PyProof.Rows.slot_tuple_getitem.lookup
    (get_to (b := 10) ht' (Heap.IsSliceOf.new ..) (by omega) (by omega) ?_) hs
  have N1 := News.push (F.push { cls := .type "slice", data := .fields #[.none, .int 10 u, .none] }) (N.grown fun _ _ e => Heap.get?_push_of_some _ e) { cls := .type "tuple", data := .seq (vs.take 10).toArray }
  exact h _ (vs.take 10) _ ((F.push _).push _) N1 (hi.take _)
theorem row_right_c {w : World} {mean : ExcName → Option Value} {mg mb : Str → Option Value}
  {dp un : Nat} {gd : Option (List Code)} {cn : Str} {cs : Scope} {a : Addr} {ccd : Value} {cl : List (Str × Addr)} {outer : List Env} {A₀ : Around} {base h₀ : Heap} {L : Addr} {m : Str → Option Value} {s : Shared} {Q E : Value → Shared → Prop}
  {n : Int} {tn : Tok} {l : Addr} {p q : Int} {t u : Tok} {k : Nat} {lw : Addr} {wv : List Value} {wc : Nat} {rest : List (Addr × Obj)}
  (B : Below A₀ base outer h₀) (F : Fr h₀ L s.heap m) (X : (hK w.params).In h₀) (N : News h₀ L s.heap ((l, Lst [.int p t, .int q u] k) :: rest)) (T : Top vw LO mean mg mb h₀) (hk : cs.kind = .function)
  (hdp : dp + 14 < recursionLimit) (hun : un + 160 < cLine) (hm : (lw, Lst wv wc) ∈ rest) (hoff : AllOff l rest) (hp : 0 ≤ p) (hq : 0 ≤ q) (hq2 : q < 2147483647) (hw : IntsAre wv (zz n)) (hn : 0 < n) (hn2 : n ≤ 4)
  (hret : ∀ (p' q' : Int) (t' u' : Tok) (k' : Nat) (h' : Heap) (tk' : Nat), Fr h₀ L h' m → News h₀ L h' ((l, Lst [.int p' t', .int q' u'] k') :: rest) → 0 ≤ p' → 0 ≤ q' → q' < 2147483647 → Q (.bool true) { s with heap := h', toks := tk' }) :
  wpAny (model PR w) (ktrTop dp un gd cn cs L a ccd cl outer) (call (.ref 317) [.ref l, .int n tn, .ref lw]) Q E s :=
  row_right_spec B F X (up1 (dup (news_tail N) hm) N) T hk hdp hun (show AllOff l ((lw, Lst wv wc) :: rest) from List.forall_mem_cons.mpr ⟨hoff _ hm, hoff⟩) hp hq hq2 hw hn hn2 fun p' q' t' u' k' h' tk' F' N' a b c => hret p' q' t' u' k' h' tk' F' (drop2 N') a b c
end
end Mine
end
section
open PySem PySem.W PyProof.Rows
namespace Mine
section
local macro_rules | `(tactic| walk_at "my enter") => `(tactic| (
  have hrow9 : PySem.Challenge.rw_nt0537_01 = PySem.Challenge.rw_nt0537_01 := rfl
  have hK9 : (fun w : World => hK w.params) = fun w : World => hK w.params := rfl
  revert hrow9 hK9
  k_fill
  intro _ _
  refine wpAny_call ?_
  k_dflt cell_enter))
local macro_rules | `(tactic| walk_at "my site") => `(tactic| (
  (case B => k_asm); (case F => k_asm); (case X => k_asm); (case T => k_asm); (case hk => first | exact rfl | assumption); (case hdp => ktr_room); (case hun => ktr_units)))
local macro_rules | `(tactic| walk_at "my led") => `(tactic| ((rename News _ _ _ _ => lN9); first | exact lN9 | exact at1 lN9 | exact at2 lN9 | exact at3 lN9 | exact at4 lN9))
local macro_rules | `(tactic| walk_at "my off") => `(tactic| first | assumption | (exact List.forall_mem_nil _) | (refine List.forall_mem_cons.mpr ⟨?_, ?_⟩ <;> walk_at "my off"))
local macro_rules | `(tactic| k_ne) => `(tactic| (refine neN ?_; (try dsimp only); first | exact ne_of1 (by assumption) (by k_mem) | exact ne_of2 (by assumption) (by k_mem) | omega))
local macro_rules | `(tactic| walk_at "pyIter ref") => `(tactic| (refine stop ?_))
local macro_rules | `(tactic| walk_at "InvEndN") => `(tactic| (refine stop ?_))
local macro_rules | `(tactic| walk_at "NextCut") => `(tactic| (refine stop ?_))
local macro_rules | `(tactic| walk_at "CompEnd") => `(tactic| (refine stop ?_))
local macro_rules | `(tactic| walk_at "CompSrc") => `(tactic| (refine stop ?_))
local macro_rules | `(tactic| walk_at "eval ListComp") => `(tactic| (refine stop ?_))
local macro_rules | `(tactic| walk_at "Exists") => `(tactic| (refine stop ?_))
local macro_rules | `(tactic| walk_at "exec If") => `(tactic| ((rename Stop True => hz9); refine stop ?_))
local macro_rules | `(tactic| walk_at "my pull") => `(tactic| ((rename News _ _ _ _ => lN9); first | exact lN9 | exact at1 lN9 | exact at2 lN9 | exact at3 lN9 | exact at4 lN9 | exact at5 lN9 | exact at6 lN9 | exact at7 lN9 | exact at8 lN9 | exact at9 lN9 | exact at10 lN9 | exact at11 lN9 | exact at12 lN9 | exact at13 lN9 | exact at14 lN9 | exact at15 lN9 | exact at16 lN9))
local macro_rules | `(tactic| walk_at "my offs") => `(tactic| first | assumption | (exact List.forall_mem_nil _) | (refine List.forall_mem_cons.mpr ⟨?_, ?_⟩ <;> first | assumption | k_ne | walk_at "my offs"))
local macro_rules | `(tactic| walk_at "call ref") => `(tactic| (
  ((with_reducible show wpAny _ _ (call (Value.ref 293) _) _ _ _); k_dflt (refine' pool_spec ?B ?F ?X ?N ?T ?hk ?hdp ?hun ?hS ?hi ?hl ?hk0 ?hk1 ?_; walk_at "my site"; (case N => k_asm); (case hS => assumption); (case hi => assumption); (case hl => omega); (case hk0 => omega); (case hk1 => omega)));
  intro r9 c9 p9 q9 t9 u9 h9 tk9 F9 N9 ho9 pp9 qq9 qr9; (try dsimp only); (try k_fold)))
local macro_rules | `(tactic| walk_at "call ref") => `(tactic| (
  ((with_reducible show wpAny _ _ (call (Value.ref 300) _) _ _ _); k_dflt (refine' take_spec ?B ?F ?X ?N ?T ?hk ?hoff ?hdp ?hun ?hp ?hq ?hq2 ?htop ?htop2 ?_; walk_at "my site"; (case N => walk_at "my pull"); (case hoff => walk_at "my offs"); (case hp => assumption); (case hq => assumption); (case hq2 => assumption); (case htop => omega); (case htop2 => omega)));
  intro d9 td9 p9 q9 t9 u9 n9 h9 tk9 F9 N9 d0 d1 p0 q0 q1; (try dsimp only); (try k_fold)))
local macro_rules | `(tactic| walk_at "call ref") => `(tactic| (
  ((with_reducible show wpAny _ _ (call (Value.ref 307) _) _ _ _); k_dflt (refine' walk_spec ?B ?F ?X ?N ?T ?hk ?hdp ?hun ?hn ?hn2 ?_; walk_at "my site"; (case N => k_asm); (case hn => omega); (case hn2 => omega)));
  intro r9 vs9 c9 h9 tk9 F9 N9 ho9 hi9; (try dsimp only); (try k_fold)))
local macro_rules | `(tactic| walk_at "call ref") => `(tactic| (
  ((with_reducible show wpAny _ _ (call (Value.ref 253) _) _ _ _); k_dflt (refine' ranks_spec ?B ?F ?X ?N ?T ?hk ?hdp ?hun ?hn ?hn2 ?_; walk_at "my site"; (case N => k_asm); (case hn => omega); (case hn2 => omega)));
  intro r9 vs9 c9 h9 tk9 F9 N9 ho9 hi9; (try dsimp only); (try k_fold)))
local macro_rules | `(tactic| walk_at "call ref") => `(tactic| (
  ((with_reducible show wpAny _ _ (call (Value.ref 246) _) _ _ _); k_dflt (refine' order_spec ?B ?F ?X ?N ?T ?hk ?hdp ?hun ?hn ?hn2 ?_ ?hr; walk_at "my site"; (case N => k_asm); (case hn => omega); (case hn2 => omega); (try (case hr => (intro e9; exact absurd rfl e9)))))))
local macro_rules | `(tactic| walk_at "call ref") => `(tactic| (
  ((with_reducible show wpAny _ _ (call (Value.ref 317) _) _ _ _); k_dflt (refine' row_right_c ?B ?F ?X ?N ?T ?hk ?hdp ?hun ?hm ?hoff ?hp ?hq ?hq2 ?hw ?hn ?hn2 ?_; walk_at "my site"; (case N => walk_at "my pull"); (case hm => k_mem); (case hoff => walk_at "my offs"); (case hp => assumption); (case hq => assumption); (case hq2 => assumption); (case hw => assumption); (case hn => omega); (case hn2 => omega)));
  intro p9 q9 t9 u9 n9 h9 tk9 F9 N9 p0 q0 q1; (try dsimp only); (try k_fold)))
local macro_rules | `(tactic| walk_at "subscriptTail List cons Call ref int") => `(tactic| ((rename News _ _ _ _ => lN); (with_unfolding_all refine' menu_sub lN ?hm ?hi ?h0 ?h1 ?_; (case hm => k_mem); (case hi => exact .cons _ _ (.cons _ _ (.cons _ _ (.cons _ _ (.cons _ _ (.cons _ _ .nil)))))); (case h0 => assumption); (case h1 => assumption); k_whole); intro _ _ _ _))
local macro_rules | `(tactic| walk_at "call type:tuple") => `(tactic| ((rename Fr _ _ _ _ => lF); (rename News _ _ _ _ => lN); (with_unfolding_all refine' tuple_of lF lN ?hm ?hz ?_; (case hm => k_mem); (case hz => exact tup_fit (by assumption) (by omega)); k_whole); (intro _ _ _ _ _)))
local macro_rules | `(tactic| walk_at "compareOp NotEq ref ref") => `(tactic| ((rename Fr _ _ _ _ => lF); (rename News _ _ _ _ => lN); (rename Frag.In _ _ => lX); first
  | (with_unfolding_all refine' ne_ord8 lF lX ?e lN ?hb ?hj ?hu ?_; (case e => assumption); (case hb => k_mem); (case hj => assumption); (case hu => first | units_room | ktr_units | exact Nat.le_of_ble_eq_true rfl); k_whole)
  | (with_unfolding_all refine' ne_tups (tup_in lN ?ha) (tup_in lN ?hb) ?hi ?hj rfl ?hu ?_; (case ha => k_mem); (case hb => k_mem); (case hi => assumption); (case hj => assumption); (case hu => first | units_room | ktr_units | exact Nat.le_of_ble_eq_true rfl); k_whole)))
local macro_rules | `(tactic| walk_at "subscriptTail Name Name ref int") => `(tactic| ((rename News _ _ _ _ => lN); (with_unfolding_all refine' sub_tup lN ?hm ?hi ?h0 ?h1 ?hl ?_; (case hm => k_mem); (case hi => assumption); (case h0 => omega); (case h1 => omega); (case hl => omega); k_whole); intro _))
local macro_rules | `(tactic| walk_at "my sub") => `(tactic| (intro p9 hp9; repeat (first | exact hp9 | refine List.Mem.tail _ ?_)))
local macro_rules | `(tactic| walk_at "subscriptTail Call Name cons nil Slice ref ref") => `(tactic| ((rename Fr _ _ _ _ => lF); (rename News _ _ _ _ => lN); (rename Frag.In _ _ => lX); (with_unfolding_all refine' slice_ord8 lF lN lX ?_; k_whole); intro _ _ _ _ _ _; (try k_sweep)))
local macro_rules | `(tactic| walk_at "compareOp Eq ref ref") => `(tactic| ((rename Fr _ _ _ _ => lF); (rename News _ _ _ _ => lN); (with_unfolding_all refine' eq_tups (tup_in lN ?ha) (tup_in lN ?hb) ?hi ?hj top10 ?hu ?_; (case ha => k_mem); (case hb => k_mem); (case hi => assumption); (case hj => exact .cons _ _ (.cons _ _ (.cons _ _ (.cons _ _ (.cons _ _ (.cons _ _ (.cons _ _ (.cons _ _ (.cons _ _ (.cons _ _ .nil)))))))))); (case hu => first | units_room | ktr_units | exact Nat.le_of_ble_eq_true rfl); k_whole)))
theorem law_all : PySem.Challenge.rw_nt0537_01.Holds := by
  w_on
  o_law
  refine holds_open (q := vw) (loose := [PySem.Str.ofString "ORDER_8"]) (Xt := xT) (XP := XL vw lv) (Yf := Hook.obs hkH) (Ya := Hook.val hkH) (YP := Hook.says hkH) (N := 18432) hl (Hook.of hkH) (Hook.keeps hkH) (fun s e => xl_of s (Bool.and_eq_true_iff.mp e).1) XL.keeps (by rfl) (by rfl) (by rfl) (fun s e => recFacts_of (Bool.and_eq_true_iff.mp e).2) (by rfl) (by first | assumption | decide +kernel) (by decide +kernel) ⟨rfl, rfl, rfl, rfl, rfl, by decide +kernel⟩ ?hw ?hcc
  case hw => w_witness2
  delta hkH
  k_go0
  all_goals try k_fold
  k_steps
  unfold Stop
  rename Fr _ _ _ _ => lF
  rename News _ _ _ _ => lN
  rename IsRange _ _ _ _ _ _ _ _ => rgX
  refine' rngC [Str.ofString "source", Str.ofString "n", Str.ofString "walk"] ?hh rgX ?sm (rangeSize_nat _ _) lF lN ?hc ?turn ?done
  case hh => rfl
  case sm => exact small_one (by decide) (by decide) (by split <;> split <;> omega) (by split <;> split <;> omega)
  case hc => exact ⟨_, by assumption⟩
  case done =>
    clear lF lN
    intro o v u h tk hc F' N'
    k_steps
  case turn =>
    clear lF lN
    intro o v pre k t u h tk own hc hk hlt hoff F' N'
    have k0 : 0 ≤ k := by omega
    have k1 : k < 2 := by
      revert hlt
      split <;> split <;> omega
    have hmk : Stop True := trivial
    k_steps
    unfold Stop
    rename Stop True => hmk
    clear hmk
    rename (_ ≤ (8 : Int)) => hn8
    have hn0 := pos_of hn8 (by assumption)
    obtain ⟨z1, z2, z3, z4⟩ := zz_facts hn0 hn8
    obtain ⟨rk1, rk2⟩ := rk_facts hn0 hn8
    rename Fr _ _ _ _ => lF2
    rename News _ _ _ _ => lN2
    rename AllOff _ (_ :: ([] ++ own)) => hpo
    have hpo' := off_tl hpo
    have hpo2 := hpo
    rename IntsAre _ (zz _) => hw
    have hwl := hw.length
    refine cut_next lF2 lN2 ?cut ?go
    case cut =>
      k_steps
      all_goals
        unfold Stop
        k_dflt (refine LCg.ListComp_U (F₀ := by k_asm) (by rfl) (by decide) (by rfl) (by decide) (by rfl) ?_)
        k_steps
        unfold Stop
        rename Fr _ _ _ _ => lF3
        rename News _ _ _ _ => lN3
        refine LCg.CompSrc.ledger (by rfl) lF3 lN3 (by k_mem) (by rw [List.size_toArray, hwl, sizeLine_eq]; omega) (fun g => rest_map (ps := zz _) (fun p => (rks (getN hn8)).getD p.toNat 0) (by rw [List.size_toArray, hwl]) (fun i v hi hv => ints_src hw hwl i v (by simpa [hwl] using hi) (by simpa using hv)) ?turn ?fin)
        case turn =>
          intro p t ys I oI C oC D m₂ h tk E' hp hC hx F' N' off
          obtain ⟨p0, p1⟩ := z2 p hp
          k_steps
          unfold Stop
          rename Fr _ _ _ _ => kF
          rename News _ _ _ _ => kN
          exact LCg.CompEnd.intro kF kN _ (fun p hp => hp) ⟨off.1, off.2⟩ (.inr ⟨_, by k_mem, rfl, _, rfl⟩) ⟨rfl, _, rfl⟩
        case fin =>
          intro ys hys
          unfold LCg.FinE
          intro D h tk F' N' o1
          have hoD := off1_mem o1
          rw [rk1] at hys
          k_steps
          · unfold Stop
            rename Fr _ _ _ _ => kF
            rename News _ _ _ _ => kN
            exact ⟨_, _, rfl, rfl, kF, news_sub kN (by walk_at "my sub")⟩
          · rename (¬ rangeKs _ _ = rangeKs _ _) => hb
            exact absurd (by rw [Int.sub_zero]) hb
    case go =>
      intro hw9 tkw Fw Nw
      clear lF2 lN2
      k_steps
      unfold Stop
      rename Fr _ _ _ _ => kF
      rename News _ _ _ _ => kN
      rename (_ = Data.cell _) => hd9
      exact turn_end _ kF kN (by walk_at "my sub") rfl ⟨_, hd9⟩ (List.forall_mem_nil _) (by kst_same) trivial
end
end Mine
end
theorem PySem.Challenge.cw_nt0537_01_holds : PySem.Challenge.rw_nt0537_01.Holds := by
  exact Mine.law_all
