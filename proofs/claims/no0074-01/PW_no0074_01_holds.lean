import PyProof.Rows.All
import Wide.All
import OpenK.AllK
import Wide.FinOn
import PySem.Challenge.RW_no0074_01
open PySem PySem.W PyProof.Rows
set_option Elab.async false
namespace Mine
section
namespace H
noncomputable abbrev pw : Program := PySem.Challenge.pw_no0074_01
noncomputable abbrev st (i : Nat) : Stmt := pw.main.body.getD i (.Pass ⟨0, 0, 0, 0⟩)
noncomputable abbrev sub (i j : Nat) : Stmt := match st i with
  | .ClassDef _ _ _ b _ _ _ _ _ _ _ => b.getD j (.Pass ⟨0, 0, 0, 0⟩)
  | s => s
noncomputable abbrev argsOf (s : Stmt) : Arguments := match s with
  | .FunctionDef _ a _ _ _ _ _ _ _ _ => a
  | _ => default
noncomputable abbrev bodyOf (s : Stmt) : List Stmt := match s with
  | .FunctionDef _ _ b _ _ _ _ _ _ _ => b
  | _ => []
noncomputable abbrev scopeOf (s : Stmt) : Scope := match s with
  | .FunctionDef _ _ _ _ _ _ c _ _ _ => c
  | _ => default
noncomputable abbrev o0 (P : Params) : Obj := boot_o_0 P
noncomputable abbrev o1 (P : Params) : Obj := boot_o_1 P
noncomputable abbrev o2 (P : Params) : Obj := boot_o_2 P
noncomputable abbrev o3 (P : Params) : Obj := boot_o_3 P
noncomputable abbrev o4 (P : Params) : Obj := boot_o_4 P
noncomputable abbrev o5 (P : Params) : Obj := boot_o_5 P
noncomputable abbrev o6 (P : Params) : Obj := boot_o_6 P
noncomputable abbrev o7 (P : Params) : Obj := boot_o_7 P
noncomputable abbrev o8 (P : Params) : Obj := boot_o_8 P
noncomputable abbrev o9 (P : Params) : Obj := boot_o_9 P
noncomputable abbrev o10 (P : Params) : Obj := boot_o_10 P
noncomputable abbrev o11 (_ : Params) : Obj := (PySem.Obj.mk (PySem.Value.type "tuple") none (PySem.Data.seq #[] 0) #[])
noncomputable abbrev o12 (_ : Params) : Obj := (PySem.Obj.mk PySem.Value.none none (PySem.Data.fields #[]) #[])
noncomputable abbrev o13 (_ : Params) : Obj := (PySem.Obj.mk (PySem.Value.type "code") none (PySem.Data.fields #[(PySem.Value.str (PySem.Str.ofString "<module>") 182), (PySem.Value.str (PySem.Str.ofString "<module>") 183), (PySem.Value.str (PySem.Str.ofString "/claim/cut.py") 184), (PySem.Value.int 1 0), (PySem.Value.int 0 0), (PySem.Value.int 0 0), (PySem.Value.int 0 0), (PySem.Value.int 0 0), (PySem.Value.ref 11), (PySem.Value.bool Bool.false), (PySem.Value.int 181 0), (PySem.Value.ref 12), PySem.Value.none, PySem.Value.none, PySem.Value.none, PySem.Value.none, (PySem.Value.int 185 0), (PySem.Value.int 1 0), (PySem.Value.str (PySem.Str.ofString "/claim/cut.py") 186)]) #[])
noncomputable abbrev o14 (_ : Params) : Obj := (PySem.Obj.mk (PySem.Value.type "frame") none PySem.Data.plain #[(some (PySem.Value.ref 13)), (some (PySem.Value.ref 3)), (some (PySem.Value.ref 3)), none, (some (PySem.Value.str (PySem.Str.ofString "__main__") 164)), none, (some (PySem.Value.ref 0))])
noncomputable abbrev tree0 (P : Params) : BT := .node (o0 P) (.node (o1 P) (.node (o3 P) (.node (o7 P) .nil .nil) (.node (o11 P) .nil .nil)) (.node (o5 P) (.node (o9 P) .nil .nil) (.node (o13 P) .nil .nil))) (.node (o2 P) (.node (o4 P) (.node (o8 P) .nil .nil) (.node (o12 P) .nil .nil)) (.node (o6 P) (.node (o10 P) .nil .nil) (.node (o14 P) .nil .nil)))
abbrev pos0 : Pos := (PySem.Pos.mk 0 0 0 0)
noncomputable abbrev state0 (w : World) (os : OsState) : SharedT := ⟨tree0 w.params, 15, (PySem.Life.mk [] [] [] 0 [] [] Bool.false #[] [] 0 Bool.false Bool.false Bool.false 0 [2000, 10, 10] Bool.false 0 Bool.true [] [] 0 Bool.false), #[], (PySem.Drawn.mk 0 0 0 0), 187, os⟩
abbrev steps0 : Nat := 1
noncomputable abbrev o3v1 (P : Params) : Obj := (PySem.Obj.mk (PySem.Value.type "dict") none (PySem.Data.dict #[(PySem.DictEntry.mk (PySem.PyData.keyHash P (PySem.Str.ofString "__name__")) (PySem.Value.str (PySem.Str.ofString "__name__") 165) (PySem.Value.str (PySem.Str.ofString "quic.newreno") 194)), (PySem.DictEntry.mk (PySem.PyData.keyHash P (PySem.Str.ofString "__doc__")) (PySem.Value.str (PySem.Str.ofString "__doc__") 166) PySem.Value.none), (PySem.DictEntry.mk (PySem.PyData.keyHash P (PySem.Str.ofString "__package__")) (PySem.Value.str (PySem.Str.ofString "__package__") 167) PySem.Value.none), (PySem.DictEntry.mk (PySem.PyData.keyHash P (PySem.Str.ofString "__loader__")) (PySem.Value.str (PySem.Str.ofString "__loader__") 168) (PySem.Value.builtin "__main__.__loader__#opaque")), (PySem.DictEntry.mk (PySem.PyData.keyHash P (PySem.Str.ofString "__spec__")) (PySem.Value.str (PySem.Str.ofString "__spec__") 169) PySem.Value.none), (PySem.DictEntry.mk (PySem.PyData.keyHash P (PySem.Str.ofString "__annotations__")) (PySem.Value.str (PySem.Str.ofString "__annotations__") 170) (PySem.Value.ref 6)), (PySem.DictEntry.mk (PySem.PyData.keyHash P (PySem.Str.ofString "__builtins__")) (PySem.Value.str (PySem.Str.ofString "__builtins__") 171) (PySem.Value.ref 4)), (PySem.DictEntry.mk (PySem.PyData.keyHash P (PySem.Str.ofString "__file__")) (PySem.Value.str (PySem.Str.ofString "__file__") 173) (PySem.Value.str (PySem.Str.ofString "/claim/cut.py") 172)), (PySem.DictEntry.mk (PySem.PyData.keyHash P (PySem.Str.ofString "__cached__")) (PySem.Value.str (PySem.Str.ofString "__cached__") 174) PySem.Value.none), (PySem.DictEntry.mk (PySem.PyData.keyHash P (PySem.Str.ofString "_wall")) (PySem.Value.str (PySem.Str.ofString "_wall") 193) (PySem.Value.ref 21)), (PySem.DictEntry.mk (PySem.PyData.keyHash P (PySem.Str.ofString "INITIAL_PACKETS")) (PySem.Value.str (PySem.Str.ofString "INITIAL_PACKETS") 197) (PySem.Value.int 10 196)), (PySem.DictEntry.mk (PySem.PyData.keyHash P (PySem.Str.ofString "INITIAL_OCTETS")) (PySem.Value.str (PySem.Str.ofString "INITIAL_OCTETS") 199) (PySem.Value.int 14720 198)), (PySem.DictEntry.mk (PySem.PyData.keyHash P (PySem.Str.ofString "LEAST_PACKETS")) (PySem.Value.str (PySem.Str.ofString "LEAST_PACKETS") 201) (PySem.Value.int 2 200)), (PySem.DictEntry.mk (PySem.PyData.keyHash P (PySem.Str.ofString "LOSS_TOP")) (PySem.Value.str (PySem.Str.ofString "LOSS_TOP") 203) (PySem.Value.int 1 202)), (PySem.DictEntry.mk (PySem.PyData.keyHash P (PySem.Str.ofString "LOSS_BOTTOM")) (PySem.Value.str (PySem.Str.ofString "LOSS_BOTTOM") 205) (PySem.Value.int 2 204)), (PySem.DictEntry.mk (PySem.PyData.keyHash P (PySem.Str.ofString "initial_window")) (PySem.Value.str (PySem.Str.ofString "initial_window") 212) (PySem.Value.ref 28)), (PySem.DictEntry.mk (PySem.PyData.keyHash P (PySem.Str.ofString "least_window")) (PySem.Value.str (PySem.Str.ofString "least_window") 219) (PySem.Value.ref 35))] 17) #[])
noncomputable abbrev o12v1 (_ : Params) : Obj := (PySem.Obj.mk PySem.Value.none none (PySem.Data.fields #[(PySem.Value.int 1 0), (PySem.Value.int 0 0), (PySem.Value.ref 20), (PySem.Value.int 10 0), (PySem.Value.int 0 0), (PySem.Value.ref 27), (PySem.Value.int 12 0), (PySem.Value.int 0 0), (PySem.Value.ref 34)]) #[])
noncomputable abbrev o15 (_ : Params) : Obj := (PySem.Obj.mk (PySem.Value.type "tuple") none (PySem.Data.seq #[] 0) #[])
noncomputable abbrev o16 (_ : Params) : Obj := (PySem.Obj.mk PySem.Value.none none (PySem.Data.fields #[]) #[])
noncomputable abbrev o17 (_ : Params) : Obj := (PySem.Obj.mk (PySem.Value.type "tuple") none (PySem.Data.seq #[(PySem.Value.str (PySem.Str.ofString "k") 190)] 0) #[])
noncomputable abbrev o18 (_ : Params) : Obj := (PySem.Obj.mk (PySem.Value.type "tuple") none (PySem.Data.seq #[] 0) #[])
noncomputable abbrev o19 (_ : Params) : Obj := (PySem.Obj.mk PySem.Value.none none (PySem.Data.func (PySem.FuncData.mk (PySem.Str.ofString "_wall") (PySem.Str.ofString "_wall") (argsOf (st 0)) (PySem.FuncBody.stmts (bodyOf (st 0))) (scopeOf (st 0)) 0 [] PySem.Value.none PySem.Value.none PySem.Value.none PySem.Value.none none PySem.Value.none PySem.Value.none 0)) #[])
noncomputable abbrev o20 (_ : Params) : Obj := (PySem.Obj.mk (PySem.Value.type "code") none (PySem.Data.fields #[(PySem.Value.str (PySem.Str.ofString "_wall") 187), (PySem.Value.str (PySem.Str.ofString "_wall") 188), (PySem.Value.str (PySem.Str.ofString "/claim/cut.py") 189), (PySem.Value.int 1 0), (PySem.Value.int 1 0), (PySem.Value.int 0 0), (PySem.Value.int 0 0), (PySem.Value.int 3 0), (PySem.Value.ref 15), (PySem.Value.bool Bool.true), (PySem.Value.int 181 0), (PySem.Value.ref 16), PySem.Value.none, (PySem.Value.ref 17), (PySem.Value.ref 18), (PySem.Value.ref 19), (PySem.Value.int 191 0), (PySem.Value.int 1 0), (PySem.Value.str (PySem.Str.ofString "/claim/cut.py") 192)]) #[])
noncomputable abbrev o21 (_ : Params) : Obj := (PySem.Obj.mk (PySem.Value.type "function") none (PySem.Data.func (PySem.FuncData.mk (PySem.Str.ofString "_wall") (PySem.Str.ofString "_wall") (argsOf (st 0)) (PySem.FuncBody.stmts (bodyOf (st 0))) (scopeOf (st 0)) 3 [] PySem.Value.none PySem.Value.none PySem.Value.none (PySem.Value.str (PySem.Str.ofString "__main__") 164) none (PySem.Value.ref 20) PySem.Value.none 0)) #[])
noncomputable abbrev o22 (_ : Params) : Obj := (PySem.Obj.mk (PySem.Value.type "tuple") none (PySem.Data.seq #[] 0) #[])
noncomputable abbrev o23 (_ : Params) : Obj := (PySem.Obj.mk PySem.Value.none none (PySem.Data.fields #[]) #[])
noncomputable abbrev o24 (_ : Params) : Obj := (PySem.Obj.mk (PySem.Value.type "tuple") none (PySem.Data.seq #[(PySem.Value.str (PySem.Str.ofString "datagram") 209)] 0) #[])
noncomputable abbrev o25 (_ : Params) : Obj := (PySem.Obj.mk (PySem.Value.type "tuple") none (PySem.Data.seq #[] 0) #[])
noncomputable abbrev o26 (_ : Params) : Obj := (PySem.Obj.mk PySem.Value.none none (PySem.Data.func (PySem.FuncData.mk (PySem.Str.ofString "initial_window") (PySem.Str.ofString "initial_window") (argsOf (st 7)) (PySem.FuncBody.stmts (bodyOf (st 7))) (scopeOf (st 7)) 0 [] PySem.Value.none PySem.Value.none PySem.Value.none PySem.Value.none none PySem.Value.none PySem.Value.none 0)) #[])
noncomputable abbrev o27 (_ : Params) : Obj := (PySem.Obj.mk (PySem.Value.type "code") none (PySem.Data.fields #[(PySem.Value.str (PySem.Str.ofString "initial_window") 206), (PySem.Value.str (PySem.Str.ofString "initial_window") 207), (PySem.Value.str (PySem.Str.ofString "/claim/cut.py") 208), (PySem.Value.int 10 0), (PySem.Value.int 1 0), (PySem.Value.int 0 0), (PySem.Value.int 0 0), (PySem.Value.int 3 0), (PySem.Value.ref 22), (PySem.Value.bool Bool.true), (PySem.Value.int 181 0), (PySem.Value.ref 23), PySem.Value.none, (PySem.Value.ref 24), (PySem.Value.ref 25), (PySem.Value.ref 26), (PySem.Value.int 210 0), (PySem.Value.int 10 0), (PySem.Value.str (PySem.Str.ofString "/claim/cut.py") 211)]) #[])
noncomputable abbrev o28 (_ : Params) : Obj := (PySem.Obj.mk (PySem.Value.type "function") none (PySem.Data.func (PySem.FuncData.mk (PySem.Str.ofString "initial_window") (PySem.Str.ofString "initial_window") (argsOf (st 7)) (PySem.FuncBody.stmts (bodyOf (st 7))) (scopeOf (st 7)) 3 [] PySem.Value.none PySem.Value.none PySem.Value.none (PySem.Value.str (PySem.Str.ofString "quic.newreno") 194) none (PySem.Value.ref 27) PySem.Value.none 0)) #[])
noncomputable abbrev o29 (_ : Params) : Obj := (PySem.Obj.mk (PySem.Value.type "tuple") none (PySem.Data.seq #[] 0) #[])
noncomputable abbrev o30 (_ : Params) : Obj := (PySem.Obj.mk PySem.Value.none none (PySem.Data.fields #[]) #[])
noncomputable abbrev o31 (_ : Params) : Obj := (PySem.Obj.mk (PySem.Value.type "tuple") none (PySem.Data.seq #[(PySem.Value.str (PySem.Str.ofString "datagram") 216)] 0) #[])
noncomputable abbrev o32 (_ : Params) : Obj := (PySem.Obj.mk (PySem.Value.type "tuple") none (PySem.Data.seq #[] 0) #[])
noncomputable abbrev o33 (_ : Params) : Obj := (PySem.Obj.mk PySem.Value.none none (PySem.Data.func (PySem.FuncData.mk (PySem.Str.ofString "least_window") (PySem.Str.ofString "least_window") (argsOf (st 8)) (PySem.FuncBody.stmts (bodyOf (st 8))) (scopeOf (st 8)) 0 [] PySem.Value.none PySem.Value.none PySem.Value.none PySem.Value.none none PySem.Value.none PySem.Value.none 0)) #[])
noncomputable abbrev o34 (_ : Params) : Obj := (PySem.Obj.mk (PySem.Value.type "code") none (PySem.Data.fields #[(PySem.Value.str (PySem.Str.ofString "least_window") 213), (PySem.Value.str (PySem.Str.ofString "least_window") 214), (PySem.Value.str (PySem.Str.ofString "/claim/cut.py") 215), (PySem.Value.int 12 0), (PySem.Value.int 1 0), (PySem.Value.int 0 0), (PySem.Value.int 0 0), (PySem.Value.int 3 0), (PySem.Value.ref 29), (PySem.Value.bool Bool.true), (PySem.Value.int 181 0), (PySem.Value.ref 30), PySem.Value.none, (PySem.Value.ref 31), (PySem.Value.ref 32), (PySem.Value.ref 33), (PySem.Value.int 217 0), (PySem.Value.int 12 0), (PySem.Value.str (PySem.Str.ofString "/claim/cut.py") 218)]) #[])
noncomputable abbrev o35 (_ : Params) : Obj := (PySem.Obj.mk (PySem.Value.type "function") none (PySem.Data.func (PySem.FuncData.mk (PySem.Str.ofString "least_window") (PySem.Str.ofString "least_window") (argsOf (st 8)) (PySem.FuncBody.stmts (bodyOf (st 8))) (scopeOf (st 8)) 3 [] PySem.Value.none PySem.Value.none PySem.Value.none (PySem.Value.str (PySem.Str.ofString "quic.newreno") 194) none (PySem.Value.ref 34) PySem.Value.none 0)) #[])
noncomputable abbrev tree1 (P : Params) : BT := .node (o0 P) (.node (o1 P) (.node (o3v1 P) (.node (o7 P) (.node (o15 P) (.node (o31 P) .nil .nil) .nil) (.node (o23 P) .nil .nil)) (.node (o11 P) (.node (o19 P) (.node (o35 P) .nil .nil) .nil) (.node (o27 P) .nil .nil))) (.node (o5 P) (.node (o9 P) (.node (o17 P) (.node (o33 P) .nil .nil) .nil) (.node (o25 P) .nil .nil)) (.node (o13 P) (.node (o21 P) .nil .nil) (.node (o29 P) .nil .nil)))) (.node (o2 P) (.node (o4 P) (.node (o8 P) (.node (o16 P) (.node (o32 P) .nil .nil) .nil) (.node (o24 P) .nil .nil)) (.node (o12v1 P) (.node (o20 P) .nil .nil) (.node (o28 P) .nil .nil))) (.node (o6 P) (.node (o10 P) (.node (o18 P) (.node (o34 P) .nil .nil) .nil) (.node (o26 P) .nil .nil)) (.node (o14 P) (.node (o22 P) .nil .nil) (.node (o30 P) .nil .nil))))
abbrev pos1 : Pos := (PySem.Pos.mk 12 0 13 35)
noncomputable abbrev state1 (w : World) (os : OsState) : SharedT := ⟨tree1 w.params, 36, (PySem.Life.mk [] [] [] 0 [] [] Bool.false #[] [] 0 Bool.false Bool.false Bool.false 0 [2000, 10, 10] Bool.false 0 Bool.true [] [] 0 Bool.false), #[], (PySem.Drawn.mk 0 0 0 0), 220, os⟩
abbrev steps1 : Nat := 142
noncomputable abbrev o3v2 (P : Params) : Obj := (PySem.Obj.mk (PySem.Value.type "dict") none (PySem.Data.dict #[(PySem.DictEntry.mk (PySem.PyData.keyHash P (PySem.Str.ofString "__name__")) (PySem.Value.str (PySem.Str.ofString "__name__") 165) (PySem.Value.str (PySem.Str.ofString "quic.newreno") 194)), (PySem.DictEntry.mk (PySem.PyData.keyHash P (PySem.Str.ofString "__doc__")) (PySem.Value.str (PySem.Str.ofString "__doc__") 166) PySem.Value.none), (PySem.DictEntry.mk (PySem.PyData.keyHash P (PySem.Str.ofString "__package__")) (PySem.Value.str (PySem.Str.ofString "__package__") 167) PySem.Value.none), (PySem.DictEntry.mk (PySem.PyData.keyHash P (PySem.Str.ofString "__loader__")) (PySem.Value.str (PySem.Str.ofString "__loader__") 168) (PySem.Value.builtin "__main__.__loader__#opaque")), (PySem.DictEntry.mk (PySem.PyData.keyHash P (PySem.Str.ofString "__spec__")) (PySem.Value.str (PySem.Str.ofString "__spec__") 169) PySem.Value.none), (PySem.DictEntry.mk (PySem.PyData.keyHash P (PySem.Str.ofString "__annotations__")) (PySem.Value.str (PySem.Str.ofString "__annotations__") 170) (PySem.Value.ref 6)), (PySem.DictEntry.mk (PySem.PyData.keyHash P (PySem.Str.ofString "__builtins__")) (PySem.Value.str (PySem.Str.ofString "__builtins__") 171) (PySem.Value.ref 4)), (PySem.DictEntry.mk (PySem.PyData.keyHash P (PySem.Str.ofString "__file__")) (PySem.Value.str (PySem.Str.ofString "__file__") 173) (PySem.Value.str (PySem.Str.ofString "/claim/cut.py") 172)), (PySem.DictEntry.mk (PySem.PyData.keyHash P (PySem.Str.ofString "__cached__")) (PySem.Value.str (PySem.Str.ofString "__cached__") 174) PySem.Value.none), (PySem.DictEntry.mk (PySem.PyData.keyHash P (PySem.Str.ofString "_wall")) (PySem.Value.str (PySem.Str.ofString "_wall") 193) (PySem.Value.ref 21)), (PySem.DictEntry.mk (PySem.PyData.keyHash P (PySem.Str.ofString "INITIAL_PACKETS")) (PySem.Value.str (PySem.Str.ofString "INITIAL_PACKETS") 197) (PySem.Value.int 10 196)), (PySem.DictEntry.mk (PySem.PyData.keyHash P (PySem.Str.ofString "INITIAL_OCTETS")) (PySem.Value.str (PySem.Str.ofString "INITIAL_OCTETS") 199) (PySem.Value.int 14720 198)), (PySem.DictEntry.mk (PySem.PyData.keyHash P (PySem.Str.ofString "LEAST_PACKETS")) (PySem.Value.str (PySem.Str.ofString "LEAST_PACKETS") 201) (PySem.Value.int 2 200)), (PySem.DictEntry.mk (PySem.PyData.keyHash P (PySem.Str.ofString "LOSS_TOP")) (PySem.Value.str (PySem.Str.ofString "LOSS_TOP") 203) (PySem.Value.int 1 202)), (PySem.DictEntry.mk (PySem.PyData.keyHash P (PySem.Str.ofString "LOSS_BOTTOM")) (PySem.Value.str (PySem.Str.ofString "LOSS_BOTTOM") 205) (PySem.Value.int 2 204)), (PySem.DictEntry.mk (PySem.PyData.keyHash P (PySem.Str.ofString "initial_window")) (PySem.Value.str (PySem.Str.ofString "initial_window") 212) (PySem.Value.ref 28)), (PySem.DictEntry.mk (PySem.PyData.keyHash P (PySem.Str.ofString "least_window")) (PySem.Value.str (PySem.Str.ofString "least_window") 219) (PySem.Value.ref 35)), (PySem.DictEntry.mk (PySem.PyData.keyHash P (PySem.Str.ofString "NewReno")) (PySem.Value.str (PySem.Str.ofString "NewReno") 339) (PySem.Value.ref 122))] 18) #[])
noncomputable abbrev o12v2 (_ : Params) : Obj := (PySem.Obj.mk PySem.Value.none none (PySem.Data.fields #[(PySem.Value.int 1 0), (PySem.Value.int 0 0), (PySem.Value.ref 20), (PySem.Value.int 10 0), (PySem.Value.int 0 0), (PySem.Value.ref 27), (PySem.Value.int 12 0), (PySem.Value.int 0 0), (PySem.Value.ref 34), (PySem.Value.int 14 0), (PySem.Value.int 0 0), (PySem.Value.ref 41)]) #[])
noncomputable abbrev o36 (_ : Params) : Obj := (PySem.Obj.mk (PySem.Value.type "tuple") none (PySem.Data.seq #[] 0) #[])
noncomputable abbrev o37 (_ : Params) : Obj := (PySem.Obj.mk (PySem.Value.type "builtin_function_or_method") none (PySem.Data.fields #[(PySem.Value.builtin "type.__prepare__"), (PySem.Value.type "type")]) #[])
noncomputable abbrev o38 (P : Params) : Obj := (PySem.Obj.mk (PySem.Value.type "dict") none (PySem.Data.dict #[(PySem.DictEntry.mk (PySem.PyData.keyHash P (PySem.Str.ofString "__module__")) (PySem.Value.str (PySem.Str.ofString "__module__") 227) (PySem.Value.str (PySem.Str.ofString "quic.newreno") 194)), (PySem.DictEntry.mk (PySem.PyData.keyHash P (PySem.Str.ofString "__qualname__")) (PySem.Value.str (PySem.Str.ofString "__qualname__") 229) (PySem.Value.str (PySem.Str.ofString "NewReno") 228)), (PySem.DictEntry.mk (PySem.PyData.keyHash P (PySem.Str.ofString "__firstlineno__")) (PySem.Value.str (PySem.Str.ofString "__firstlineno__") 231) (PySem.Value.int 14 230)), (PySem.DictEntry.mk (PySem.PyData.keyHash P (PySem.Str.ofString "__init__")) (PySem.Value.str (PySem.Str.ofString "__init__") 239) (PySem.Value.ref 49)), (PySem.DictEntry.mk (PySem.PyData.keyHash P (PySem.Str.ofString "may_send")) (PySem.Value.str (PySem.Str.ofString "may_send") 247) (PySem.Value.ref 56)), (PySem.DictEntry.mk (PySem.PyData.keyHash P (PySem.Str.ofString "is_slow_start")) (PySem.Value.str (PySem.Str.ofString "is_slow_start") 254) (PySem.Value.ref 63)), (PySem.DictEntry.mk (PySem.PyData.keyHash P (PySem.Str.ofString "in_recovery")) (PySem.Value.str (PySem.Str.ofString "in_recovery") 262) (PySem.Value.ref 70)), (PySem.DictEntry.mk (PySem.PyData.keyHash P (PySem.Str.ofString "on_sent")) (PySem.Value.str (PySem.Str.ofString "on_sent") 270) (PySem.Value.ref 77)), (PySem.DictEntry.mk (PySem.PyData.keyHash P (PySem.Str.ofString "on_discarded")) (PySem.Value.str (PySem.Str.ofString "on_discarded") 278) (PySem.Value.ref 84)), (PySem.DictEntry.mk (PySem.PyData.keyHash P (PySem.Str.ofString "on_acked")) (PySem.Value.str (PySem.Str.ofString "on_acked") 290) (PySem.Value.ref 91)), (PySem.DictEntry.mk (PySem.PyData.keyHash P (PySem.Str.ofString "widen")) (PySem.Value.str (PySem.Str.ofString "widen") 299) (PySem.Value.ref 98)), (PySem.DictEntry.mk (PySem.PyData.keyHash P (PySem.Str.ofString "on_congestion")) (PySem.Value.str (PySem.Str.ofString "on_congestion") 308) (PySem.Value.ref 105)), (PySem.DictEntry.mk (PySem.PyData.keyHash P (PySem.Str.ofString "on_lost")) (PySem.Value.str (PySem.Str.ofString "on_lost") 318) (PySem.Value.ref 112)), (PySem.DictEntry.mk (PySem.PyData.keyHash P (PySem.Str.ofString "on_persistent")) (PySem.Value.str (PySem.Str.ofString "on_persistent") 325) (PySem.Value.ref 119)), (PySem.DictEntry.mk (PySem.PyData.keyHash P (PySem.Str.ofString "__static_attributes__")) (PySem.Value.str (PySem.Str.ofString "__static_attributes__") 332) (PySem.Value.ref 120))] 15) #[])
noncomputable abbrev o39 (_ : Params) : Obj := (PySem.Obj.mk (PySem.Value.type "tuple") none (PySem.Data.seq #[] 0) #[])
noncomputable abbrev o40 (_ : Params) : Obj := (PySem.Obj.mk PySem.Value.none none (PySem.Data.fields #[(PySem.Value.int 16 0), (PySem.Value.int 4 0), (PySem.Value.ref 48), (PySem.Value.int 24 0), (PySem.Value.int 4 0), (PySem.Value.ref 55), (PySem.Value.int 27 0), (PySem.Value.int 4 0), (PySem.Value.ref 62), (PySem.Value.int 30 0), (PySem.Value.int 4 0), (PySem.Value.ref 69), (PySem.Value.int 33 0), (PySem.Value.int 4 0), (PySem.Value.ref 76), (PySem.Value.int 36 0), (PySem.Value.int 4 0), (PySem.Value.ref 83), (PySem.Value.int 39 0), (PySem.Value.int 4 0), (PySem.Value.ref 90), (PySem.Value.int 48 0), (PySem.Value.int 4 0), (PySem.Value.ref 97), (PySem.Value.int 54 0), (PySem.Value.int 4 0), (PySem.Value.ref 104), (PySem.Value.int 62 0), (PySem.Value.int 4 0), (PySem.Value.ref 111), (PySem.Value.int 65 0), (PySem.Value.int 4 0), (PySem.Value.ref 118)]) #[])
noncomputable abbrev o41 (_ : Params) : Obj := (PySem.Obj.mk (PySem.Value.type "code") none (PySem.Data.fields #[(PySem.Value.str (PySem.Str.ofString "NewReno") 222), (PySem.Value.str (PySem.Str.ofString "NewReno") 223), (PySem.Value.str (PySem.Str.ofString "/claim/cut.py") 224), (PySem.Value.int 14 0), (PySem.Value.int 0 0), (PySem.Value.int 0 0), (PySem.Value.int 0 0), (PySem.Value.int 0 0), (PySem.Value.ref 39), (PySem.Value.bool Bool.false), (PySem.Value.int 181 0), (PySem.Value.ref 40), PySem.Value.none, PySem.Value.none, PySem.Value.none, PySem.Value.none, (PySem.Value.int 225 0), (PySem.Value.int 14 0), (PySem.Value.str (PySem.Str.ofString "/claim/cut.py") 226)]) #[])
noncomputable abbrev o42 (_ : Params) : Obj := (PySem.Obj.mk (PySem.Value.type "frame") none PySem.Data.plain #[(some (PySem.Value.ref 41)), (some (PySem.Value.ref 3)), (some (PySem.Value.ref 38)), none, (some (PySem.Value.str (PySem.Str.ofString "quic.newreno") 194)), none, (some (PySem.Value.ref 0))])
noncomputable abbrev o43 (_ : Params) : Obj := (PySem.Obj.mk (PySem.Value.type "tuple") none (PySem.Data.seq #[] 0) #[])
noncomputable abbrev o44 (_ : Params) : Obj := (PySem.Obj.mk PySem.Value.none none (PySem.Data.fields #[]) #[])
noncomputable abbrev o45 (_ : Params) : Obj := (PySem.Obj.mk (PySem.Value.type "tuple") none (PySem.Data.seq #[(PySem.Value.str (PySem.Str.ofString "self") 235), (PySem.Value.str (PySem.Str.ofString "datagram") 236)] 0) #[])
noncomputable abbrev o46 (_ : Params) : Obj := (PySem.Obj.mk (PySem.Value.type "tuple") none (PySem.Data.seq #[] 0) #[])
noncomputable abbrev o47 (_ : Params) : Obj := (PySem.Obj.mk PySem.Value.none none (PySem.Data.func (PySem.FuncData.mk (PySem.Str.ofString "__init__") (PySem.Str.ofString "NewReno.__init__") (argsOf (sub 9 0)) (PySem.FuncBody.stmts (bodyOf (sub 9 0))) (scopeOf (sub 9 0)) 0 [] PySem.Value.none PySem.Value.none PySem.Value.none PySem.Value.none none PySem.Value.none PySem.Value.none 0)) #[])
noncomputable abbrev o48 (_ : Params) : Obj := (PySem.Obj.mk (PySem.Value.type "code") none (PySem.Data.fields #[(PySem.Value.str (PySem.Str.ofString "__init__") 232), (PySem.Value.str (PySem.Str.ofString "NewReno.__init__") 233), (PySem.Value.str (PySem.Str.ofString "/claim/cut.py") 234), (PySem.Value.int 16 0), (PySem.Value.int 2 0), (PySem.Value.int 0 0), (PySem.Value.int 0 0), (PySem.Value.int 3 0), (PySem.Value.ref 43), (PySem.Value.bool Bool.true), (PySem.Value.int 181 0), (PySem.Value.ref 44), PySem.Value.none, (PySem.Value.ref 45), (PySem.Value.ref 46), (PySem.Value.ref 47), (PySem.Value.int 237 0), (PySem.Value.int 16 0), (PySem.Value.str (PySem.Str.ofString "/claim/cut.py") 238)]) #[])
noncomputable abbrev o49 (_ : Params) : Obj := (PySem.Obj.mk (PySem.Value.type "function") none (PySem.Data.func (PySem.FuncData.mk (PySem.Str.ofString "__init__") (PySem.Str.ofString "NewReno.__init__") (argsOf (sub 9 0)) (PySem.FuncBody.stmts (bodyOf (sub 9 0))) (scopeOf (sub 9 0)) 3 [] PySem.Value.none PySem.Value.none PySem.Value.none (PySem.Value.str (PySem.Str.ofString "quic.newreno") 194) none (PySem.Value.ref 48) PySem.Value.none 0)) #[])
noncomputable abbrev o50 (_ : Params) : Obj := (PySem.Obj.mk (PySem.Value.type "tuple") none (PySem.Data.seq #[] 0) #[])
noncomputable abbrev o51 (_ : Params) : Obj := (PySem.Obj.mk PySem.Value.none none (PySem.Data.fields #[]) #[])
noncomputable abbrev o52 (_ : Params) : Obj := (PySem.Obj.mk (PySem.Value.type "tuple") none (PySem.Data.seq #[(PySem.Value.str (PySem.Str.ofString "self") 243), (PySem.Value.str (PySem.Str.ofString "size") 244)] 0) #[])
noncomputable abbrev o53 (_ : Params) : Obj := (PySem.Obj.mk (PySem.Value.type "tuple") none (PySem.Data.seq #[] 0) #[])
noncomputable abbrev o54 (_ : Params) : Obj := (PySem.Obj.mk PySem.Value.none none (PySem.Data.func (PySem.FuncData.mk (PySem.Str.ofString "may_send") (PySem.Str.ofString "NewReno.may_send") (argsOf (sub 9 1)) (PySem.FuncBody.stmts (bodyOf (sub 9 1))) (scopeOf (sub 9 5)) 0 [] PySem.Value.none PySem.Value.none PySem.Value.none PySem.Value.none none PySem.Value.none PySem.Value.none 0)) #[])
noncomputable abbrev o55 (_ : Params) : Obj := (PySem.Obj.mk (PySem.Value.type "code") none (PySem.Data.fields #[(PySem.Value.str (PySem.Str.ofString "may_send") 240), (PySem.Value.str (PySem.Str.ofString "NewReno.may_send") 241), (PySem.Value.str (PySem.Str.ofString "/claim/cut.py") 242), (PySem.Value.int 24 0), (PySem.Value.int 2 0), (PySem.Value.int 0 0), (PySem.Value.int 0 0), (PySem.Value.int 3 0), (PySem.Value.ref 50), (PySem.Value.bool Bool.true), (PySem.Value.int 181 0), (PySem.Value.ref 51), PySem.Value.none, (PySem.Value.ref 52), (PySem.Value.ref 53), (PySem.Value.ref 54), (PySem.Value.int 245 0), (PySem.Value.int 24 0), (PySem.Value.str (PySem.Str.ofString "/claim/cut.py") 246)]) #[])
noncomputable abbrev o56 (_ : Params) : Obj := (PySem.Obj.mk (PySem.Value.type "function") none (PySem.Data.func (PySem.FuncData.mk (PySem.Str.ofString "may_send") (PySem.Str.ofString "NewReno.may_send") (argsOf (sub 9 1)) (PySem.FuncBody.stmts (bodyOf (sub 9 1))) (scopeOf (sub 9 5)) 3 [] PySem.Value.none PySem.Value.none PySem.Value.none (PySem.Value.str (PySem.Str.ofString "quic.newreno") 194) none (PySem.Value.ref 55) PySem.Value.none 0)) #[])
noncomputable abbrev o57 (_ : Params) : Obj := (PySem.Obj.mk (PySem.Value.type "tuple") none (PySem.Data.seq #[] 0) #[])
noncomputable abbrev o58 (_ : Params) : Obj := (PySem.Obj.mk PySem.Value.none none (PySem.Data.fields #[]) #[])
noncomputable abbrev o59 (_ : Params) : Obj := (PySem.Obj.mk (PySem.Value.type "tuple") none (PySem.Data.seq #[(PySem.Value.str (PySem.Str.ofString "self") 251)] 0) #[])
noncomputable abbrev o60 (_ : Params) : Obj := (PySem.Obj.mk (PySem.Value.type "tuple") none (PySem.Data.seq #[] 0) #[])
noncomputable abbrev o61 (_ : Params) : Obj := (PySem.Obj.mk PySem.Value.none none (PySem.Data.func (PySem.FuncData.mk (PySem.Str.ofString "is_slow_start") (PySem.Str.ofString "NewReno.is_slow_start") (argsOf (sub 9 2)) (PySem.FuncBody.stmts (bodyOf (sub 9 2))) (scopeOf (sub 9 2)) 0 [] PySem.Value.none PySem.Value.none PySem.Value.none PySem.Value.none none PySem.Value.none PySem.Value.none 0)) #[])
noncomputable abbrev o62 (_ : Params) : Obj := (PySem.Obj.mk (PySem.Value.type "code") none (PySem.Data.fields #[(PySem.Value.str (PySem.Str.ofString "is_slow_start") 248), (PySem.Value.str (PySem.Str.ofString "NewReno.is_slow_start") 249), (PySem.Value.str (PySem.Str.ofString "/claim/cut.py") 250), (PySem.Value.int 27 0), (PySem.Value.int 1 0), (PySem.Value.int 0 0), (PySem.Value.int 0 0), (PySem.Value.int 3 0), (PySem.Value.ref 57), (PySem.Value.bool Bool.true), (PySem.Value.int 181 0), (PySem.Value.ref 58), PySem.Value.none, (PySem.Value.ref 59), (PySem.Value.ref 60), (PySem.Value.ref 61), (PySem.Value.int 252 0), (PySem.Value.int 27 0), (PySem.Value.str (PySem.Str.ofString "/claim/cut.py") 253)]) #[])
noncomputable abbrev o63 (_ : Params) : Obj := (PySem.Obj.mk (PySem.Value.type "function") none (PySem.Data.func (PySem.FuncData.mk (PySem.Str.ofString "is_slow_start") (PySem.Str.ofString "NewReno.is_slow_start") (argsOf (sub 9 2)) (PySem.FuncBody.stmts (bodyOf (sub 9 2))) (scopeOf (sub 9 2)) 3 [] PySem.Value.none PySem.Value.none PySem.Value.none (PySem.Value.str (PySem.Str.ofString "quic.newreno") 194) none (PySem.Value.ref 62) PySem.Value.none 0)) #[])
noncomputable abbrev o64 (_ : Params) : Obj := (PySem.Obj.mk (PySem.Value.type "tuple") none (PySem.Data.seq #[] 0) #[])
noncomputable abbrev o65 (_ : Params) : Obj := (PySem.Obj.mk PySem.Value.none none (PySem.Data.fields #[]) #[])
noncomputable abbrev o66 (_ : Params) : Obj := (PySem.Obj.mk (PySem.Value.type "tuple") none (PySem.Data.seq #[(PySem.Value.str (PySem.Str.ofString "self") 258), (PySem.Value.str (PySem.Str.ofString "sent_at") 259)] 0) #[])
noncomputable abbrev o67 (_ : Params) : Obj := (PySem.Obj.mk (PySem.Value.type "tuple") none (PySem.Data.seq #[] 0) #[])
noncomputable abbrev o68 (_ : Params) : Obj := (PySem.Obj.mk PySem.Value.none none (PySem.Data.func (PySem.FuncData.mk (PySem.Str.ofString "in_recovery") (PySem.Str.ofString "NewReno.in_recovery") (argsOf (sub 9 3)) (PySem.FuncBody.stmts (bodyOf (sub 9 3))) (scopeOf (sub 9 3)) 0 [] PySem.Value.none PySem.Value.none PySem.Value.none PySem.Value.none none PySem.Value.none PySem.Value.none 0)) #[])
noncomputable abbrev o69 (_ : Params) : Obj := (PySem.Obj.mk (PySem.Value.type "code") none (PySem.Data.fields #[(PySem.Value.str (PySem.Str.ofString "in_recovery") 255), (PySem.Value.str (PySem.Str.ofString "NewReno.in_recovery") 256), (PySem.Value.str (PySem.Str.ofString "/claim/cut.py") 257), (PySem.Value.int 30 0), (PySem.Value.int 2 0), (PySem.Value.int 0 0), (PySem.Value.int 0 0), (PySem.Value.int 3 0), (PySem.Value.ref 64), (PySem.Value.bool Bool.true), (PySem.Value.int 181 0), (PySem.Value.ref 65), PySem.Value.none, (PySem.Value.ref 66), (PySem.Value.ref 67), (PySem.Value.ref 68), (PySem.Value.int 260 0), (PySem.Value.int 30 0), (PySem.Value.str (PySem.Str.ofString "/claim/cut.py") 261)]) #[])
noncomputable abbrev o70 (_ : Params) : Obj := (PySem.Obj.mk (PySem.Value.type "function") none (PySem.Data.func (PySem.FuncData.mk (PySem.Str.ofString "in_recovery") (PySem.Str.ofString "NewReno.in_recovery") (argsOf (sub 9 3)) (PySem.FuncBody.stmts (bodyOf (sub 9 3))) (scopeOf (sub 9 3)) 3 [] PySem.Value.none PySem.Value.none PySem.Value.none (PySem.Value.str (PySem.Str.ofString "quic.newreno") 194) none (PySem.Value.ref 69) PySem.Value.none 0)) #[])
noncomputable abbrev o71 (_ : Params) : Obj := (PySem.Obj.mk (PySem.Value.type "tuple") none (PySem.Data.seq #[] 0) #[])
noncomputable abbrev o72 (_ : Params) : Obj := (PySem.Obj.mk PySem.Value.none none (PySem.Data.fields #[]) #[])
noncomputable abbrev o73 (_ : Params) : Obj := (PySem.Obj.mk (PySem.Value.type "tuple") none (PySem.Data.seq #[(PySem.Value.str (PySem.Str.ofString "self") 266), (PySem.Value.str (PySem.Str.ofString "size") 267)] 0) #[])
noncomputable abbrev o74 (_ : Params) : Obj := (PySem.Obj.mk (PySem.Value.type "tuple") none (PySem.Data.seq #[] 0) #[])
noncomputable abbrev o75 (_ : Params) : Obj := (PySem.Obj.mk PySem.Value.none none (PySem.Data.func (PySem.FuncData.mk (PySem.Str.ofString "on_sent") (PySem.Str.ofString "NewReno.on_sent") (argsOf (sub 9 4)) (PySem.FuncBody.stmts (bodyOf (sub 9 4))) (scopeOf (sub 9 4)) 0 [] PySem.Value.none PySem.Value.none PySem.Value.none PySem.Value.none none PySem.Value.none PySem.Value.none 0)) #[])
noncomputable abbrev o76 (_ : Params) : Obj := (PySem.Obj.mk (PySem.Value.type "code") none (PySem.Data.fields #[(PySem.Value.str (PySem.Str.ofString "on_sent") 263), (PySem.Value.str (PySem.Str.ofString "NewReno.on_sent") 264), (PySem.Value.str (PySem.Str.ofString "/claim/cut.py") 265), (PySem.Value.int 33 0), (PySem.Value.int 2 0), (PySem.Value.int 0 0), (PySem.Value.int 0 0), (PySem.Value.int 3 0), (PySem.Value.ref 71), (PySem.Value.bool Bool.true), (PySem.Value.int 181 0), (PySem.Value.ref 72), PySem.Value.none, (PySem.Value.ref 73), (PySem.Value.ref 74), (PySem.Value.ref 75), (PySem.Value.int 268 0), (PySem.Value.int 33 0), (PySem.Value.str (PySem.Str.ofString "/claim/cut.py") 269)]) #[])
noncomputable abbrev o77 (_ : Params) : Obj := (PySem.Obj.mk (PySem.Value.type "function") none (PySem.Data.func (PySem.FuncData.mk (PySem.Str.ofString "on_sent") (PySem.Str.ofString "NewReno.on_sent") (argsOf (sub 9 4)) (PySem.FuncBody.stmts (bodyOf (sub 9 4))) (scopeOf (sub 9 4)) 3 [] PySem.Value.none PySem.Value.none PySem.Value.none (PySem.Value.str (PySem.Str.ofString "quic.newreno") 194) none (PySem.Value.ref 76) PySem.Value.none 0)) #[])
noncomputable abbrev o78 (_ : Params) : Obj := (PySem.Obj.mk (PySem.Value.type "tuple") none (PySem.Data.seq #[] 0) #[])
noncomputable abbrev o79 (_ : Params) : Obj := (PySem.Obj.mk PySem.Value.none none (PySem.Data.fields #[]) #[])
noncomputable abbrev o80 (_ : Params) : Obj := (PySem.Obj.mk (PySem.Value.type "tuple") none (PySem.Data.seq #[(PySem.Value.str (PySem.Str.ofString "self") 274), (PySem.Value.str (PySem.Str.ofString "size") 275)] 0) #[])
noncomputable abbrev o81 (_ : Params) : Obj := (PySem.Obj.mk (PySem.Value.type "tuple") none (PySem.Data.seq #[] 0) #[])
noncomputable abbrev o82 (_ : Params) : Obj := (PySem.Obj.mk PySem.Value.none none (PySem.Data.func (PySem.FuncData.mk (PySem.Str.ofString "on_discarded") (PySem.Str.ofString "NewReno.on_discarded") (argsOf (sub 9 5)) (PySem.FuncBody.stmts (bodyOf (sub 9 5))) (scopeOf (sub 9 5)) 0 [] PySem.Value.none PySem.Value.none PySem.Value.none PySem.Value.none none PySem.Value.none PySem.Value.none 0)) #[])
noncomputable abbrev o83 (_ : Params) : Obj := (PySem.Obj.mk (PySem.Value.type "code") none (PySem.Data.fields #[(PySem.Value.str (PySem.Str.ofString "on_discarded") 271), (PySem.Value.str (PySem.Str.ofString "NewReno.on_discarded") 272), (PySem.Value.str (PySem.Str.ofString "/claim/cut.py") 273), (PySem.Value.int 36 0), (PySem.Value.int 2 0), (PySem.Value.int 0 0), (PySem.Value.int 0 0), (PySem.Value.int 3 0), (PySem.Value.ref 78), (PySem.Value.bool Bool.true), (PySem.Value.int 181 0), (PySem.Value.ref 79), PySem.Value.none, (PySem.Value.ref 80), (PySem.Value.ref 81), (PySem.Value.ref 82), (PySem.Value.int 276 0), (PySem.Value.int 36 0), (PySem.Value.str (PySem.Str.ofString "/claim/cut.py") 277)]) #[])
noncomputable abbrev o84 (_ : Params) : Obj := (PySem.Obj.mk (PySem.Value.type "function") none (PySem.Data.func (PySem.FuncData.mk (PySem.Str.ofString "on_discarded") (PySem.Str.ofString "NewReno.on_discarded") (argsOf (sub 9 5)) (PySem.FuncBody.stmts (bodyOf (sub 9 5))) (scopeOf (sub 9 5)) 3 [] PySem.Value.none PySem.Value.none PySem.Value.none (PySem.Value.str (PySem.Str.ofString "quic.newreno") 194) none (PySem.Value.ref 83) PySem.Value.none 0)) #[])
noncomputable abbrev o85 (_ : Params) : Obj := (PySem.Obj.mk (PySem.Value.type "tuple") none (PySem.Data.seq #[] 0) #[])
noncomputable abbrev o86 (_ : Params) : Obj := (PySem.Obj.mk PySem.Value.none none (PySem.Data.fields #[]) #[])
noncomputable abbrev o87 (_ : Params) : Obj := (PySem.Obj.mk (PySem.Value.type "tuple") none (PySem.Data.seq #[(PySem.Value.str (PySem.Str.ofString "self") 282), (PySem.Value.str (PySem.Str.ofString "size") 283), (PySem.Value.str (PySem.Str.ofString "sent_at") 284), (PySem.Value.str (PySem.Str.ofString "is_limited") 285), (PySem.Value.str (PySem.Str.ofString "now") 286), (PySem.Value.str (PySem.Str.ofString "smoothed") 287)] 0) #[])
noncomputable abbrev o88 (_ : Params) : Obj := (PySem.Obj.mk (PySem.Value.type "tuple") none (PySem.Data.seq #[] 0) #[])
noncomputable abbrev o89 (_ : Params) : Obj := (PySem.Obj.mk PySem.Value.none none (PySem.Data.func (PySem.FuncData.mk (PySem.Str.ofString "on_acked") (PySem.Str.ofString "NewReno.on_acked") (argsOf (sub 9 6)) (PySem.FuncBody.stmts (bodyOf (sub 9 6))) (scopeOf (sub 21 1)) 0 [] PySem.Value.none PySem.Value.none PySem.Value.none PySem.Value.none none PySem.Value.none PySem.Value.none 0)) #[])
noncomputable abbrev o90 (_ : Params) : Obj := (PySem.Obj.mk (PySem.Value.type "code") none (PySem.Data.fields #[(PySem.Value.str (PySem.Str.ofString "on_acked") 279), (PySem.Value.str (PySem.Str.ofString "NewReno.on_acked") 280), (PySem.Value.str (PySem.Str.ofString "/claim/cut.py") 281), (PySem.Value.int 39 0), (PySem.Value.int 6 0), (PySem.Value.int 0 0), (PySem.Value.int 0 0), (PySem.Value.int 3 0), (PySem.Value.ref 85), (PySem.Value.bool Bool.true), (PySem.Value.int 181 0), (PySem.Value.ref 86), PySem.Value.none, (PySem.Value.ref 87), (PySem.Value.ref 88), (PySem.Value.ref 89), (PySem.Value.int 288 0), (PySem.Value.int 39 0), (PySem.Value.str (PySem.Str.ofString "/claim/cut.py") 289)]) #[])
noncomputable abbrev o91 (_ : Params) : Obj := (PySem.Obj.mk (PySem.Value.type "function") none (PySem.Data.func (PySem.FuncData.mk (PySem.Str.ofString "on_acked") (PySem.Str.ofString "NewReno.on_acked") (argsOf (sub 9 6)) (PySem.FuncBody.stmts (bodyOf (sub 9 6))) (scopeOf (sub 21 1)) 3 [] PySem.Value.none PySem.Value.none PySem.Value.none (PySem.Value.str (PySem.Str.ofString "quic.newreno") 194) none (PySem.Value.ref 90) PySem.Value.none 0)) #[])
noncomputable abbrev o92 (_ : Params) : Obj := (PySem.Obj.mk (PySem.Value.type "tuple") none (PySem.Data.seq #[] 0) #[])
noncomputable abbrev o93 (_ : Params) : Obj := (PySem.Obj.mk PySem.Value.none none (PySem.Data.fields #[]) #[])
noncomputable abbrev o94 (_ : Params) : Obj := (PySem.Obj.mk (PySem.Value.type "tuple") none (PySem.Data.seq #[(PySem.Value.str (PySem.Str.ofString "self") 294), (PySem.Value.str (PySem.Str.ofString "size") 295), (PySem.Value.str (PySem.Str.ofString "more") 296)] 0) #[])
noncomputable abbrev o95 (_ : Params) : Obj := (PySem.Obj.mk (PySem.Value.type "tuple") none (PySem.Data.seq #[] 0) #[])
noncomputable abbrev o96 (_ : Params) : Obj := (PySem.Obj.mk PySem.Value.none none (PySem.Data.func (PySem.FuncData.mk (PySem.Str.ofString "widen") (PySem.Str.ofString "NewReno.widen") (argsOf (sub 9 7)) (PySem.FuncBody.stmts (bodyOf (sub 9 7))) (scopeOf (sub 9 7)) 0 [] PySem.Value.none PySem.Value.none PySem.Value.none PySem.Value.none none PySem.Value.none PySem.Value.none 0)) #[])
noncomputable abbrev o97 (_ : Params) : Obj := (PySem.Obj.mk (PySem.Value.type "code") none (PySem.Data.fields #[(PySem.Value.str (PySem.Str.ofString "widen") 291), (PySem.Value.str (PySem.Str.ofString "NewReno.widen") 292), (PySem.Value.str (PySem.Str.ofString "/claim/cut.py") 293), (PySem.Value.int 48 0), (PySem.Value.int 2 0), (PySem.Value.int 0 0), (PySem.Value.int 0 0), (PySem.Value.int 3 0), (PySem.Value.ref 92), (PySem.Value.bool Bool.true), (PySem.Value.int 181 0), (PySem.Value.ref 93), PySem.Value.none, (PySem.Value.ref 94), (PySem.Value.ref 95), (PySem.Value.ref 96), (PySem.Value.int 297 0), (PySem.Value.int 48 0), (PySem.Value.str (PySem.Str.ofString "/claim/cut.py") 298)]) #[])
noncomputable abbrev o98 (_ : Params) : Obj := (PySem.Obj.mk (PySem.Value.type "function") none (PySem.Data.func (PySem.FuncData.mk (PySem.Str.ofString "widen") (PySem.Str.ofString "NewReno.widen") (argsOf (sub 9 7)) (PySem.FuncBody.stmts (bodyOf (sub 9 7))) (scopeOf (sub 9 7)) 3 [] PySem.Value.none PySem.Value.none PySem.Value.none (PySem.Value.str (PySem.Str.ofString "quic.newreno") 194) none (PySem.Value.ref 97) PySem.Value.none 0)) #[])
noncomputable abbrev o99 (_ : Params) : Obj := (PySem.Obj.mk (PySem.Value.type "tuple") none (PySem.Data.seq #[] 0) #[])
noncomputable abbrev o100 (_ : Params) : Obj := (PySem.Obj.mk PySem.Value.none none (PySem.Data.fields #[]) #[])
noncomputable abbrev o101 (_ : Params) : Obj := (PySem.Obj.mk (PySem.Value.type "tuple") none (PySem.Data.seq #[(PySem.Value.str (PySem.Str.ofString "self") 303), (PySem.Value.str (PySem.Str.ofString "sent_at") 304), (PySem.Value.str (PySem.Str.ofString "now") 305)] 0) #[])
noncomputable abbrev o102 (_ : Params) : Obj := (PySem.Obj.mk (PySem.Value.type "tuple") none (PySem.Data.seq #[] 0) #[])
noncomputable abbrev o103 (_ : Params) : Obj := (PySem.Obj.mk PySem.Value.none none (PySem.Data.func (PySem.FuncData.mk (PySem.Str.ofString "on_congestion") (PySem.Str.ofString "NewReno.on_congestion") (argsOf (sub 9 8)) (PySem.FuncBody.stmts (bodyOf (sub 9 8))) (scopeOf (sub 9 8)) 0 [] PySem.Value.none PySem.Value.none PySem.Value.none PySem.Value.none none PySem.Value.none PySem.Value.none 0)) #[])
noncomputable abbrev o104 (_ : Params) : Obj := (PySem.Obj.mk (PySem.Value.type "code") none (PySem.Data.fields #[(PySem.Value.str (PySem.Str.ofString "on_congestion") 300), (PySem.Value.str (PySem.Str.ofString "NewReno.on_congestion") 301), (PySem.Value.str (PySem.Str.ofString "/claim/cut.py") 302), (PySem.Value.int 54 0), (PySem.Value.int 3 0), (PySem.Value.int 0 0), (PySem.Value.int 0 0), (PySem.Value.int 3 0), (PySem.Value.ref 99), (PySem.Value.bool Bool.true), (PySem.Value.int 181 0), (PySem.Value.ref 100), PySem.Value.none, (PySem.Value.ref 101), (PySem.Value.ref 102), (PySem.Value.ref 103), (PySem.Value.int 306 0), (PySem.Value.int 54 0), (PySem.Value.str (PySem.Str.ofString "/claim/cut.py") 307)]) #[])
noncomputable abbrev o105 (_ : Params) : Obj := (PySem.Obj.mk (PySem.Value.type "function") none (PySem.Data.func (PySem.FuncData.mk (PySem.Str.ofString "on_congestion") (PySem.Str.ofString "NewReno.on_congestion") (argsOf (sub 9 8)) (PySem.FuncBody.stmts (bodyOf (sub 9 8))) (scopeOf (sub 9 8)) 3 [] PySem.Value.none PySem.Value.none PySem.Value.none (PySem.Value.str (PySem.Str.ofString "quic.newreno") 194) none (PySem.Value.ref 104) PySem.Value.none 0)) #[])
noncomputable abbrev o106 (_ : Params) : Obj := (PySem.Obj.mk (PySem.Value.type "tuple") none (PySem.Data.seq #[] 0) #[])
noncomputable abbrev o107 (_ : Params) : Obj := (PySem.Obj.mk PySem.Value.none none (PySem.Data.fields #[]) #[])
noncomputable abbrev o108 (_ : Params) : Obj := (PySem.Obj.mk (PySem.Value.type "tuple") none (PySem.Data.seq #[(PySem.Value.str (PySem.Str.ofString "self") 312), (PySem.Value.str (PySem.Str.ofString "size") 313), (PySem.Value.str (PySem.Str.ofString "newest") 314), (PySem.Value.str (PySem.Str.ofString "now") 315)] 0) #[])
noncomputable abbrev o109 (_ : Params) : Obj := (PySem.Obj.mk (PySem.Value.type "tuple") none (PySem.Data.seq #[] 0) #[])
noncomputable abbrev o110 (_ : Params) : Obj := (PySem.Obj.mk PySem.Value.none none (PySem.Data.func (PySem.FuncData.mk (PySem.Str.ofString "on_lost") (PySem.Str.ofString "NewReno.on_lost") (argsOf (sub 9 9)) (PySem.FuncBody.stmts (bodyOf (sub 9 9))) (scopeOf (sub 9 9)) 0 [] PySem.Value.none PySem.Value.none PySem.Value.none PySem.Value.none none PySem.Value.none PySem.Value.none 0)) #[])
noncomputable abbrev o111 (_ : Params) : Obj := (PySem.Obj.mk (PySem.Value.type "code") none (PySem.Data.fields #[(PySem.Value.str (PySem.Str.ofString "on_lost") 309), (PySem.Value.str (PySem.Str.ofString "NewReno.on_lost") 310), (PySem.Value.str (PySem.Str.ofString "/claim/cut.py") 311), (PySem.Value.int 62 0), (PySem.Value.int 4 0), (PySem.Value.int 0 0), (PySem.Value.int 0 0), (PySem.Value.int 3 0), (PySem.Value.ref 106), (PySem.Value.bool Bool.true), (PySem.Value.int 181 0), (PySem.Value.ref 107), PySem.Value.none, (PySem.Value.ref 108), (PySem.Value.ref 109), (PySem.Value.ref 110), (PySem.Value.int 316 0), (PySem.Value.int 62 0), (PySem.Value.str (PySem.Str.ofString "/claim/cut.py") 317)]) #[])
noncomputable abbrev o112 (_ : Params) : Obj := (PySem.Obj.mk (PySem.Value.type "function") none (PySem.Data.func (PySem.FuncData.mk (PySem.Str.ofString "on_lost") (PySem.Str.ofString "NewReno.on_lost") (argsOf (sub 9 9)) (PySem.FuncBody.stmts (bodyOf (sub 9 9))) (scopeOf (sub 9 9)) 3 [] PySem.Value.none PySem.Value.none PySem.Value.none (PySem.Value.str (PySem.Str.ofString "quic.newreno") 194) none (PySem.Value.ref 111) PySem.Value.none 0)) #[])
noncomputable abbrev o113 (_ : Params) : Obj := (PySem.Obj.mk (PySem.Value.type "tuple") none (PySem.Data.seq #[] 0) #[])
noncomputable abbrev o114 (_ : Params) : Obj := (PySem.Obj.mk PySem.Value.none none (PySem.Data.fields #[]) #[])
noncomputable abbrev o115 (_ : Params) : Obj := (PySem.Obj.mk (PySem.Value.type "tuple") none (PySem.Data.seq #[(PySem.Value.str (PySem.Str.ofString "self") 322)] 0) #[])
noncomputable abbrev o116 (_ : Params) : Obj := (PySem.Obj.mk (PySem.Value.type "tuple") none (PySem.Data.seq #[] 0) #[])
noncomputable abbrev o117 (_ : Params) : Obj := (PySem.Obj.mk PySem.Value.none none (PySem.Data.func (PySem.FuncData.mk (PySem.Str.ofString "on_persistent") (PySem.Str.ofString "NewReno.on_persistent") (argsOf (sub 9 10)) (PySem.FuncBody.stmts (bodyOf (sub 9 10))) (scopeOf (sub 21 6)) 0 [] PySem.Value.none PySem.Value.none PySem.Value.none PySem.Value.none none PySem.Value.none PySem.Value.none 0)) #[])
noncomputable abbrev o118 (_ : Params) : Obj := (PySem.Obj.mk (PySem.Value.type "code") none (PySem.Data.fields #[(PySem.Value.str (PySem.Str.ofString "on_persistent") 319), (PySem.Value.str (PySem.Str.ofString "NewReno.on_persistent") 320), (PySem.Value.str (PySem.Str.ofString "/claim/cut.py") 321), (PySem.Value.int 65 0), (PySem.Value.int 1 0), (PySem.Value.int 0 0), (PySem.Value.int 0 0), (PySem.Value.int 3 0), (PySem.Value.ref 113), (PySem.Value.bool Bool.true), (PySem.Value.int 181 0), (PySem.Value.ref 114), PySem.Value.none, (PySem.Value.ref 115), (PySem.Value.ref 116), (PySem.Value.ref 117), (PySem.Value.int 323 0), (PySem.Value.int 65 0), (PySem.Value.str (PySem.Str.ofString "/claim/cut.py") 324)]) #[])
noncomputable abbrev o119 (_ : Params) : Obj := (PySem.Obj.mk (PySem.Value.type "function") none (PySem.Data.func (PySem.FuncData.mk (PySem.Str.ofString "on_persistent") (PySem.Str.ofString "NewReno.on_persistent") (argsOf (sub 9 10)) (PySem.FuncBody.stmts (bodyOf (sub 9 10))) (scopeOf (sub 21 6)) 3 [] PySem.Value.none PySem.Value.none PySem.Value.none (PySem.Value.str (PySem.Str.ofString "quic.newreno") 194) none (PySem.Value.ref 118) PySem.Value.none 0)) #[])
noncomputable abbrev o120 (_ : Params) : Obj := (PySem.Obj.mk (PySem.Value.type "tuple") none (PySem.Data.seq #[(PySem.Value.str (PySem.Str.ofString "credit") 326), (PySem.Value.str (PySem.Str.ofString "datagram") 327), (PySem.Value.str (PySem.Str.ofString "in_flight") 328), (PySem.Value.str (PySem.Str.ofString "recovery_at") 329), (PySem.Value.str (PySem.Str.ofString "threshold") 330), (PySem.Value.str (PySem.Str.ofString "window") 331)] 0) #[])
noncomputable abbrev o121 (P : Params) : Obj := (PySem.Obj.mk (PySem.Value.type "dict") none (PySem.Data.dict #[(PySem.DictEntry.mk (PySem.PyData.keyHash P (PySem.Str.ofString "__module__")) (PySem.Value.str (PySem.Str.ofString "__module__") 227) (PySem.Value.str (PySem.Str.ofString "quic.newreno") 194)), (PySem.DictEntry.mk (PySem.PyData.keyHash P (PySem.Str.ofString "__firstlineno__")) (PySem.Value.str (PySem.Str.ofString "__firstlineno__") 231) (PySem.Value.int 14 230)), (PySem.DictEntry.mk (PySem.PyData.keyHash P (PySem.Str.ofString "__init__")) (PySem.Value.str (PySem.Str.ofString "__init__") 239) (PySem.Value.ref 49)), (PySem.DictEntry.mk (PySem.PyData.keyHash P (PySem.Str.ofString "may_send")) (PySem.Value.str (PySem.Str.ofString "may_send") 247) (PySem.Value.ref 56)), (PySem.DictEntry.mk (PySem.PyData.keyHash P (PySem.Str.ofString "is_slow_start")) (PySem.Value.str (PySem.Str.ofString "is_slow_start") 254) (PySem.Value.ref 63)), (PySem.DictEntry.mk (PySem.PyData.keyHash P (PySem.Str.ofString "in_recovery")) (PySem.Value.str (PySem.Str.ofString "in_recovery") 262) (PySem.Value.ref 70)), (PySem.DictEntry.mk (PySem.PyData.keyHash P (PySem.Str.ofString "on_sent")) (PySem.Value.str (PySem.Str.ofString "on_sent") 270) (PySem.Value.ref 77)), (PySem.DictEntry.mk (PySem.PyData.keyHash P (PySem.Str.ofString "on_discarded")) (PySem.Value.str (PySem.Str.ofString "on_discarded") 278) (PySem.Value.ref 84)), (PySem.DictEntry.mk (PySem.PyData.keyHash P (PySem.Str.ofString "on_acked")) (PySem.Value.str (PySem.Str.ofString "on_acked") 290) (PySem.Value.ref 91)), (PySem.DictEntry.mk (PySem.PyData.keyHash P (PySem.Str.ofString "widen")) (PySem.Value.str (PySem.Str.ofString "widen") 299) (PySem.Value.ref 98)), (PySem.DictEntry.mk (PySem.PyData.keyHash P (PySem.Str.ofString "on_congestion")) (PySem.Value.str (PySem.Str.ofString "on_congestion") 308) (PySem.Value.ref 105)), (PySem.DictEntry.mk (PySem.PyData.keyHash P (PySem.Str.ofString "on_lost")) (PySem.Value.str (PySem.Str.ofString "on_lost") 318) (PySem.Value.ref 112)), (PySem.DictEntry.mk (PySem.PyData.keyHash P (PySem.Str.ofString "on_persistent")) (PySem.Value.str (PySem.Str.ofString "on_persistent") 325) (PySem.Value.ref 119)), (PySem.DictEntry.mk (PySem.PyData.keyHash P (PySem.Str.ofString "__static_attributes__")) (PySem.Value.str (PySem.Str.ofString "__static_attributes__") 332) (PySem.Value.ref 120)), (PySem.DictEntry.mk (PySem.PyData.keyHash P (PySem.Str.ofString "__dict__")) (PySem.Value.str (PySem.Str.ofString "__dict__") 334) (PySem.Value.ref 123)), (PySem.DictEntry.mk (PySem.PyData.keyHash P (PySem.Str.ofString "__weakref__")) (PySem.Value.str (PySem.Str.ofString "__weakref__") 336) (PySem.Value.ref 124)), (PySem.DictEntry.mk (PySem.PyData.keyHash P (PySem.Str.ofString "__doc__")) (PySem.Value.str (PySem.Str.ofString "__doc__") 337) PySem.Value.none)] 4) #[])
noncomputable abbrev o122 (_ : Params) : Obj := (PySem.Obj.mk (PySem.Value.type "type") none (PySem.Data.cls (PySem.ClassData.mk (PySem.Str.ofString "NewReno") [(PySem.Value.type "object")] [(PySem.Value.ref 122), (PySem.Value.type "object")] 121 (PySem.Str.ofString "NewReno") Bool.true [] [] Bool.false none Bool.false)) #[none, none, (some (PySem.Value.str (PySem.Str.ofString "NewReno") 220)), (some (PySem.Value.str (PySem.Str.ofString "NewReno") 228)), (some (PySem.Value.builtin "object.__new__")), (some (PySem.Value.bool Bool.true))])
noncomputable abbrev o123 (_ : Params) : Obj := (PySem.Obj.mk (PySem.Value.type "getset_descriptor") none (PySem.Data.fields #[(PySem.Value.str (PySem.Str.ofString "__dict__") 333), (PySem.Value.ref 122), (PySem.Value.builtin "function.__dict__"), (PySem.Value.builtin "function.__dict__#set")]) #[])
noncomputable abbrev o124 (_ : Params) : Obj := (PySem.Obj.mk (PySem.Value.type "getset_descriptor") none (PySem.Data.fields #[(PySem.Value.str (PySem.Str.ofString "__weakref__") 335), (PySem.Value.ref 122), (PySem.Value.builtin "ExceptionGroup.__weakref__"), PySem.Value.none]) #[])
noncomputable abbrev o125 (_ : Params) : Obj := (PySem.Obj.mk (PySem.Value.type "super") none (PySem.Data.fields #[(PySem.Value.ref 122), (PySem.Value.ref 122), (PySem.Value.ref 122)]) #[])
noncomputable abbrev o126 (_ : Params) : Obj := (PySem.Obj.mk (PySem.Value.type "builtin_function_or_method") none (PySem.Data.fields #[(PySem.Value.builtin "object.__init_subclass__"), (PySem.Value.ref 122)]) #[])
noncomputable abbrev tree2 (P : Params) : BT := .node (o0 P) (.node (o1 P) (.node (o3v2 P) (.node (o7 P) (.node (o15 P) (.node (o31 P) (.node (o63 P) .nil .nil) (.node (o95 P) .nil .nil)) (.node (o47 P) (.node (o79 P) .nil .nil) (.node (o111 P) .nil .nil))) (.node (o23 P) (.node (o39 P) (.node (o71 P) .nil .nil) (.node (o103 P) .nil .nil)) (.node (o55 P) (.node (o87 P) .nil .nil) (.node (o119 P) .nil .nil)))) (.node (o11 P) (.node (o19 P) (.node (o35 P) (.node (o67 P) .nil .nil) (.node (o99 P) .nil .nil)) (.node (o51 P) (.node (o83 P) .nil .nil) (.node (o115 P) .nil .nil))) (.node (o27 P) (.node (o43 P) (.node (o75 P) .nil .nil) (.node (o107 P) .nil .nil)) (.node (o59 P) (.node (o91 P) .nil .nil) (.node (o123 P) .nil .nil))))) (.node (o5 P) (.node (o9 P) (.node (o17 P) (.node (o33 P) (.node (o65 P) .nil .nil) (.node (o97 P) .nil .nil)) (.node (o49 P) (.node (o81 P) .nil .nil) (.node (o113 P) .nil .nil))) (.node (o25 P) (.node (o41 P) (.node (o73 P) .nil .nil) (.node (o105 P) .nil .nil)) (.node (o57 P) (.node (o89 P) .nil .nil) (.node (o121 P) .nil .nil)))) (.node (o13 P) (.node (o21 P) (.node (o37 P) (.node (o69 P) .nil .nil) (.node (o101 P) .nil .nil)) (.node (o53 P) (.node (o85 P) .nil .nil) (.node (o117 P) .nil .nil))) (.node (o29 P) (.node (o45 P) (.node (o77 P) .nil .nil) (.node (o109 P) .nil .nil)) (.node (o61 P) (.node (o93 P) .nil .nil) (.node (o125 P) .nil .nil)))))) (.node (o2 P) (.node (o4 P) (.node (o8 P) (.node (o16 P) (.node (o32 P) (.node (o64 P) .nil .nil) (.node (o96 P) .nil .nil)) (.node (o48 P) (.node (o80 P) .nil .nil) (.node (o112 P) .nil .nil))) (.node (o24 P) (.node (o40 P) (.node (o72 P) .nil .nil) (.node (o104 P) .nil .nil)) (.node (o56 P) (.node (o88 P) .nil .nil) (.node (o120 P) .nil .nil)))) (.node (o12v2 P) (.node (o20 P) (.node (o36 P) (.node (o68 P) .nil .nil) (.node (o100 P) .nil .nil)) (.node (o52 P) (.node (o84 P) .nil .nil) (.node (o116 P) .nil .nil))) (.node (o28 P) (.node (o44 P) (.node (o76 P) .nil .nil) (.node (o108 P) .nil .nil)) (.node (o60 P) (.node (o92 P) .nil .nil) (.node (o124 P) .nil .nil))))) (.node (o6 P) (.node (o10 P) (.node (o18 P) (.node (o34 P) (.node (o66 P) .nil .nil) (.node (o98 P) .nil .nil)) (.node (o50 P) (.node (o82 P) .nil .nil) (.node (o114 P) .nil .nil))) (.node (o26 P) (.node (o42 P) (.node (o74 P) .nil .nil) (.node (o106 P) .nil .nil)) (.node (o58 P) (.node (o90 P) .nil .nil) (.node (o122 P) .nil .nil)))) (.node (o14 P) (.node (o22 P) (.node (o38 P) (.node (o70 P) .nil .nil) (.node (o102 P) .nil .nil)) (.node (o54 P) (.node (o86 P) .nil .nil) (.node (o118 P) .nil .nil))) (.node (o30 P) (.node (o46 P) (.node (o78 P) .nil .nil) (.node (o110 P) .nil .nil)) (.node (o62 P) (.node (o94 P) .nil .nil) (.node (o126 P) .nil .nil))))))
abbrev pos2 : Pos := (PySem.Pos.mk 14 0 68 23)
noncomputable abbrev state2 (w : World) (os : OsState) : SharedT := ⟨tree2 w.params, 127, (PySem.Life.mk [] [] [] 0 [] [] Bool.false #[] [] 0 Bool.false Bool.false Bool.false 0 [2000, 10, 10] Bool.false 0 Bool.true [] [] 0 Bool.false), #[], (PySem.Drawn.mk 0 0 0 0), 340, os⟩
abbrev steps2 : Nat := 554
noncomputable abbrev o3v3 (P : Params) : Obj := (PySem.Obj.mk (PySem.Value.type "dict") none (PySem.Data.dict #[(PySem.DictEntry.mk (PySem.PyData.keyHash P (PySem.Str.ofString "__name__")) (PySem.Value.str (PySem.Str.ofString "__name__") 165) (PySem.Value.str (PySem.Str.ofString "quic.cubic") 340)), (PySem.DictEntry.mk (PySem.PyData.keyHash P (PySem.Str.ofString "__doc__")) (PySem.Value.str (PySem.Str.ofString "__doc__") 166) PySem.Value.none), (PySem.DictEntry.mk (PySem.PyData.keyHash P (PySem.Str.ofString "__package__")) (PySem.Value.str (PySem.Str.ofString "__package__") 167) PySem.Value.none), (PySem.DictEntry.mk (PySem.PyData.keyHash P (PySem.Str.ofString "__loader__")) (PySem.Value.str (PySem.Str.ofString "__loader__") 168) (PySem.Value.builtin "__main__.__loader__#opaque")), (PySem.DictEntry.mk (PySem.PyData.keyHash P (PySem.Str.ofString "__spec__")) (PySem.Value.str (PySem.Str.ofString "__spec__") 169) PySem.Value.none), (PySem.DictEntry.mk (PySem.PyData.keyHash P (PySem.Str.ofString "__annotations__")) (PySem.Value.str (PySem.Str.ofString "__annotations__") 170) (PySem.Value.ref 6)), (PySem.DictEntry.mk (PySem.PyData.keyHash P (PySem.Str.ofString "__builtins__")) (PySem.Value.str (PySem.Str.ofString "__builtins__") 171) (PySem.Value.ref 4)), (PySem.DictEntry.mk (PySem.PyData.keyHash P (PySem.Str.ofString "__file__")) (PySem.Value.str (PySem.Str.ofString "__file__") 173) (PySem.Value.str (PySem.Str.ofString "/claim/cut.py") 172)), (PySem.DictEntry.mk (PySem.PyData.keyHash P (PySem.Str.ofString "__cached__")) (PySem.Value.str (PySem.Str.ofString "__cached__") 174) PySem.Value.none), (PySem.DictEntry.mk (PySem.PyData.keyHash P (PySem.Str.ofString "_wall")) (PySem.Value.str (PySem.Str.ofString "_wall") 193) (PySem.Value.ref 21)), (PySem.DictEntry.mk (PySem.PyData.keyHash P (PySem.Str.ofString "INITIAL_PACKETS")) (PySem.Value.str (PySem.Str.ofString "INITIAL_PACKETS") 197) (PySem.Value.int 10 196)), (PySem.DictEntry.mk (PySem.PyData.keyHash P (PySem.Str.ofString "INITIAL_OCTETS")) (PySem.Value.str (PySem.Str.ofString "INITIAL_OCTETS") 199) (PySem.Value.int 14720 198)), (PySem.DictEntry.mk (PySem.PyData.keyHash P (PySem.Str.ofString "LEAST_PACKETS")) (PySem.Value.str (PySem.Str.ofString "LEAST_PACKETS") 201) (PySem.Value.int 2 200)), (PySem.DictEntry.mk (PySem.PyData.keyHash P (PySem.Str.ofString "LOSS_TOP")) (PySem.Value.str (PySem.Str.ofString "LOSS_TOP") 203) (PySem.Value.int 1 202)), (PySem.DictEntry.mk (PySem.PyData.keyHash P (PySem.Str.ofString "LOSS_BOTTOM")) (PySem.Value.str (PySem.Str.ofString "LOSS_BOTTOM") 205) (PySem.Value.int 2 204)), (PySem.DictEntry.mk (PySem.PyData.keyHash P (PySem.Str.ofString "initial_window")) (PySem.Value.str (PySem.Str.ofString "initial_window") 212) (PySem.Value.ref 28)), (PySem.DictEntry.mk (PySem.PyData.keyHash P (PySem.Str.ofString "least_window")) (PySem.Value.str (PySem.Str.ofString "least_window") 219) (PySem.Value.ref 35)), (PySem.DictEntry.mk (PySem.PyData.keyHash P (PySem.Str.ofString "NewReno")) (PySem.Value.str (PySem.Str.ofString "NewReno") 339) (PySem.Value.ref 122)), (PySem.DictEntry.mk (PySem.PyData.keyHash P (PySem.Str.ofString "BETA_TOP")) (PySem.Value.str (PySem.Str.ofString "BETA_TOP") 343) (PySem.Value.int 7 342)), (PySem.DictEntry.mk (PySem.PyData.keyHash P (PySem.Str.ofString "BETA_BOTTOM")) (PySem.Value.str (PySem.Str.ofString "BETA_BOTTOM") 345) (PySem.Value.int 10 344)), (PySem.DictEntry.mk (PySem.PyData.keyHash P (PySem.Str.ofString "C_TOP")) (PySem.Value.str (PySem.Str.ofString "C_TOP") 347) (PySem.Value.int 2 346)), (PySem.DictEntry.mk (PySem.PyData.keyHash P (PySem.Str.ofString "C_BOTTOM")) (PySem.Value.str (PySem.Str.ofString "C_BOTTOM") 349) (PySem.Value.int 5 348)), (PySem.DictEntry.mk (PySem.PyData.keyHash P (PySem.Str.ofString "SECOND")) (PySem.Value.str (PySem.Str.ofString "SECOND") 351) (PySem.Value.int 1000000 350)), (PySem.DictEntry.mk (PySem.PyData.keyHash P (PySem.Str.ofString "FRIENDLY_TOP")) (PySem.Value.str (PySem.Str.ofString "FRIENDLY_TOP") 353) (PySem.Value.int 9 352)), (PySem.DictEntry.mk (PySem.PyData.keyHash P (PySem.Str.ofString "FRIENDLY_BOTTOM")) (PySem.Value.str (PySem.Str.ofString "FRIENDLY_BOTTOM") 355) (PySem.Value.int 17 354)), (PySem.DictEntry.mk (PySem.PyData.keyHash P (PySem.Str.ofString "cube_root")) (PySem.Value.str (PySem.Str.ofString "cube_root") 365) (PySem.Value.ref 133)), (PySem.DictEntry.mk (PySem.PyData.keyHash P (PySem.Str.ofString "cubic_time")) (PySem.Value.str (PySem.Str.ofString "cubic_time") 374) (PySem.Value.ref 140)), (PySem.DictEntry.mk (PySem.PyData.keyHash P (PySem.Str.ofString "cubic_window")) (PySem.Value.str (PySem.Str.ofString "cubic_window") 386) (PySem.Value.ref 147))] 28) #[])
noncomputable abbrev o12v3 (_ : Params) : Obj := (PySem.Obj.mk PySem.Value.none none (PySem.Data.fields #[(PySem.Value.int 1 0), (PySem.Value.int 0 0), (PySem.Value.ref 20), (PySem.Value.int 10 0), (PySem.Value.int 0 0), (PySem.Value.ref 27), (PySem.Value.int 12 0), (PySem.Value.int 0 0), (PySem.Value.ref 34), (PySem.Value.int 14 0), (PySem.Value.int 0 0), (PySem.Value.ref 41), (PySem.Value.int 77 0), (PySem.Value.int 0 0), (PySem.Value.ref 132), (PySem.Value.int 88 0), (PySem.Value.int 0 0), (PySem.Value.ref 139), (PySem.Value.int 92 0), (PySem.Value.int 0 0), (PySem.Value.ref 146)]) #[])
noncomputable abbrev o127 (_ : Params) : Obj := (PySem.Obj.mk (PySem.Value.type "tuple") none (PySem.Data.seq #[] 0) #[])
noncomputable abbrev o128 (_ : Params) : Obj := (PySem.Obj.mk PySem.Value.none none (PySem.Data.fields #[]) #[])
noncomputable abbrev o129 (_ : Params) : Obj := (PySem.Obj.mk (PySem.Value.type "tuple") none (PySem.Data.seq #[(PySem.Value.str (PySem.Str.ofString "n") 359), (PySem.Value.str (PySem.Str.ofString "low") 360), (PySem.Value.str (PySem.Str.ofString "high") 361), (PySem.Value.str (PySem.Str.ofString "middle") 362)] 0) #[])
noncomputable abbrev o130 (_ : Params) : Obj := (PySem.Obj.mk (PySem.Value.type "tuple") none (PySem.Data.seq #[] 0) #[])
noncomputable abbrev o131 (_ : Params) : Obj := (PySem.Obj.mk PySem.Value.none none (PySem.Data.func (PySem.FuncData.mk (PySem.Str.ofString "cube_root") (PySem.Str.ofString "cube_root") (argsOf (st 18)) (PySem.FuncBody.stmts (bodyOf (st 18))) (scopeOf (st 18)) 0 [] PySem.Value.none PySem.Value.none PySem.Value.none PySem.Value.none none PySem.Value.none PySem.Value.none 0)) #[])
noncomputable abbrev o132 (_ : Params) : Obj := (PySem.Obj.mk (PySem.Value.type "code") none (PySem.Data.fields #[(PySem.Value.str (PySem.Str.ofString "cube_root") 356), (PySem.Value.str (PySem.Str.ofString "cube_root") 357), (PySem.Value.str (PySem.Str.ofString "/claim/cut.py") 358), (PySem.Value.int 77 0), (PySem.Value.int 1 0), (PySem.Value.int 0 0), (PySem.Value.int 0 0), (PySem.Value.int 3 0), (PySem.Value.ref 127), (PySem.Value.bool Bool.true), (PySem.Value.int 181 0), (PySem.Value.ref 128), PySem.Value.none, (PySem.Value.ref 129), (PySem.Value.ref 130), (PySem.Value.ref 131), (PySem.Value.int 363 0), (PySem.Value.int 77 0), (PySem.Value.str (PySem.Str.ofString "/claim/cut.py") 364)]) #[])
noncomputable abbrev o133 (_ : Params) : Obj := (PySem.Obj.mk (PySem.Value.type "function") none (PySem.Data.func (PySem.FuncData.mk (PySem.Str.ofString "cube_root") (PySem.Str.ofString "cube_root") (argsOf (st 18)) (PySem.FuncBody.stmts (bodyOf (st 18))) (scopeOf (st 18)) 3 [] PySem.Value.none PySem.Value.none PySem.Value.none (PySem.Value.str (PySem.Str.ofString "quic.cubic") 340) none (PySem.Value.ref 132) PySem.Value.none 0)) #[])
noncomputable abbrev o134 (_ : Params) : Obj := (PySem.Obj.mk (PySem.Value.type "tuple") none (PySem.Data.seq #[] 0) #[])
noncomputable abbrev o135 (_ : Params) : Obj := (PySem.Obj.mk PySem.Value.none none (PySem.Data.fields #[]) #[])
noncomputable abbrev o136 (_ : Params) : Obj := (PySem.Obj.mk (PySem.Value.type "tuple") none (PySem.Data.seq #[(PySem.Value.str (PySem.Str.ofString "top_window") 369), (PySem.Value.str (PySem.Str.ofString "window") 370), (PySem.Value.str (PySem.Str.ofString "datagram") 371)] 0) #[])
noncomputable abbrev o137 (_ : Params) : Obj := (PySem.Obj.mk (PySem.Value.type "tuple") none (PySem.Data.seq #[] 0) #[])
noncomputable abbrev o138 (_ : Params) : Obj := (PySem.Obj.mk PySem.Value.none none (PySem.Data.func (PySem.FuncData.mk (PySem.Str.ofString "cubic_time") (PySem.Str.ofString "cubic_time") (argsOf (st 19)) (PySem.FuncBody.stmts (bodyOf (st 19))) (scopeOf (st 19)) 0 [] PySem.Value.none PySem.Value.none PySem.Value.none PySem.Value.none none PySem.Value.none PySem.Value.none 0)) #[])
noncomputable abbrev o139 (_ : Params) : Obj := (PySem.Obj.mk (PySem.Value.type "code") none (PySem.Data.fields #[(PySem.Value.str (PySem.Str.ofString "cubic_time") 366), (PySem.Value.str (PySem.Str.ofString "cubic_time") 367), (PySem.Value.str (PySem.Str.ofString "/claim/cut.py") 368), (PySem.Value.int 88 0), (PySem.Value.int 3 0), (PySem.Value.int 0 0), (PySem.Value.int 0 0), (PySem.Value.int 3 0), (PySem.Value.ref 134), (PySem.Value.bool Bool.true), (PySem.Value.int 181 0), (PySem.Value.ref 135), PySem.Value.none, (PySem.Value.ref 136), (PySem.Value.ref 137), (PySem.Value.ref 138), (PySem.Value.int 372 0), (PySem.Value.int 88 0), (PySem.Value.str (PySem.Str.ofString "/claim/cut.py") 373)]) #[])
noncomputable abbrev o140 (_ : Params) : Obj := (PySem.Obj.mk (PySem.Value.type "function") none (PySem.Data.func (PySem.FuncData.mk (PySem.Str.ofString "cubic_time") (PySem.Str.ofString "cubic_time") (argsOf (st 19)) (PySem.FuncBody.stmts (bodyOf (st 19))) (scopeOf (st 19)) 3 [] PySem.Value.none PySem.Value.none PySem.Value.none (PySem.Value.str (PySem.Str.ofString "quic.cubic") 340) none (PySem.Value.ref 139) PySem.Value.none 0)) #[])
noncomputable abbrev o141 (_ : Params) : Obj := (PySem.Obj.mk (PySem.Value.type "tuple") none (PySem.Data.seq #[] 0) #[])
noncomputable abbrev o142 (_ : Params) : Obj := (PySem.Obj.mk PySem.Value.none none (PySem.Data.fields #[]) #[])
noncomputable abbrev o143 (_ : Params) : Obj := (PySem.Obj.mk (PySem.Value.type "tuple") none (PySem.Data.seq #[(PySem.Value.str (PySem.Str.ofString "elapsed") 378), (PySem.Value.str (PySem.Str.ofString "meets_after") 379), (PySem.Value.str (PySem.Str.ofString "top_window") 380), (PySem.Value.str (PySem.Str.ofString "datagram") 381), (PySem.Value.str (PySem.Str.ofString "apart") 382), (PySem.Value.str (PySem.Str.ofString "grown") 383)] 0) #[])
noncomputable abbrev o144 (_ : Params) : Obj := (PySem.Obj.mk (PySem.Value.type "tuple") none (PySem.Data.seq #[] 0) #[])
noncomputable abbrev o145 (_ : Params) : Obj := (PySem.Obj.mk PySem.Value.none none (PySem.Data.func (PySem.FuncData.mk (PySem.Str.ofString "cubic_window") (PySem.Str.ofString "cubic_window") (argsOf (st 20)) (PySem.FuncBody.stmts (bodyOf (st 20))) (scopeOf (st 20)) 0 [] PySem.Value.none PySem.Value.none PySem.Value.none PySem.Value.none none PySem.Value.none PySem.Value.none 0)) #[])
noncomputable abbrev o146 (_ : Params) : Obj := (PySem.Obj.mk (PySem.Value.type "code") none (PySem.Data.fields #[(PySem.Value.str (PySem.Str.ofString "cubic_window") 375), (PySem.Value.str (PySem.Str.ofString "cubic_window") 376), (PySem.Value.str (PySem.Str.ofString "/claim/cut.py") 377), (PySem.Value.int 92 0), (PySem.Value.int 4 0), (PySem.Value.int 0 0), (PySem.Value.int 0 0), (PySem.Value.int 3 0), (PySem.Value.ref 141), (PySem.Value.bool Bool.true), (PySem.Value.int 181 0), (PySem.Value.ref 142), PySem.Value.none, (PySem.Value.ref 143), (PySem.Value.ref 144), (PySem.Value.ref 145), (PySem.Value.int 384 0), (PySem.Value.int 92 0), (PySem.Value.str (PySem.Str.ofString "/claim/cut.py") 385)]) #[])
noncomputable abbrev o147 (_ : Params) : Obj := (PySem.Obj.mk (PySem.Value.type "function") none (PySem.Data.func (PySem.FuncData.mk (PySem.Str.ofString "cubic_window") (PySem.Str.ofString "cubic_window") (argsOf (st 20)) (PySem.FuncBody.stmts (bodyOf (st 20))) (scopeOf (st 20)) 3 [] PySem.Value.none PySem.Value.none PySem.Value.none (PySem.Value.str (PySem.Str.ofString "quic.cubic") 340) none (PySem.Value.ref 146) PySem.Value.none 0)) #[])
noncomputable abbrev tree3 (P : Params) : BT := .node (o0 P) (.node (o1 P) (.node (o3v3 P) (.node (o7 P) (.node (o15 P) (.node (o31 P) (.node (o63 P) (.node (o127 P) .nil .nil) .nil) (.node (o95 P) .nil .nil)) (.node (o47 P) (.node (o79 P) (.node (o143 P) .nil .nil) .nil) (.node (o111 P) .nil .nil))) (.node (o23 P) (.node (o39 P) (.node (o71 P) (.node (o135 P) .nil .nil) .nil) (.node (o103 P) .nil .nil)) (.node (o55 P) (.node (o87 P) .nil .nil) (.node (o119 P) .nil .nil)))) (.node (o11 P) (.node (o19 P) (.node (o35 P) (.node (o67 P) (.node (o131 P) .nil .nil) .nil) (.node (o99 P) .nil .nil)) (.node (o51 P) (.node (o83 P) (.node (o147 P) .nil .nil) .nil) (.node (o115 P) .nil .nil))) (.node (o27 P) (.node (o43 P) (.node (o75 P) (.node (o139 P) .nil .nil) .nil) (.node (o107 P) .nil .nil)) (.node (o59 P) (.node (o91 P) .nil .nil) (.node (o123 P) .nil .nil))))) (.node (o5 P) (.node (o9 P) (.node (o17 P) (.node (o33 P) (.node (o65 P) (.node (o129 P) .nil .nil) .nil) (.node (o97 P) .nil .nil)) (.node (o49 P) (.node (o81 P) (.node (o145 P) .nil .nil) .nil) (.node (o113 P) .nil .nil))) (.node (o25 P) (.node (o41 P) (.node (o73 P) (.node (o137 P) .nil .nil) .nil) (.node (o105 P) .nil .nil)) (.node (o57 P) (.node (o89 P) .nil .nil) (.node (o121 P) .nil .nil)))) (.node (o13 P) (.node (o21 P) (.node (o37 P) (.node (o69 P) (.node (o133 P) .nil .nil) .nil) (.node (o101 P) .nil .nil)) (.node (o53 P) (.node (o85 P) .nil .nil) (.node (o117 P) .nil .nil))) (.node (o29 P) (.node (o45 P) (.node (o77 P) (.node (o141 P) .nil .nil) .nil) (.node (o109 P) .nil .nil)) (.node (o61 P) (.node (o93 P) .nil .nil) (.node (o125 P) .nil .nil)))))) (.node (o2 P) (.node (o4 P) (.node (o8 P) (.node (o16 P) (.node (o32 P) (.node (o64 P) (.node (o128 P) .nil .nil) .nil) (.node (o96 P) .nil .nil)) (.node (o48 P) (.node (o80 P) (.node (o144 P) .nil .nil) .nil) (.node (o112 P) .nil .nil))) (.node (o24 P) (.node (o40 P) (.node (o72 P) (.node (o136 P) .nil .nil) .nil) (.node (o104 P) .nil .nil)) (.node (o56 P) (.node (o88 P) .nil .nil) (.node (o120 P) .nil .nil)))) (.node (o12v3 P) (.node (o20 P) (.node (o36 P) (.node (o68 P) (.node (o132 P) .nil .nil) .nil) (.node (o100 P) .nil .nil)) (.node (o52 P) (.node (o84 P) .nil .nil) (.node (o116 P) .nil .nil))) (.node (o28 P) (.node (o44 P) (.node (o76 P) (.node (o140 P) .nil .nil) .nil) (.node (o108 P) .nil .nil)) (.node (o60 P) (.node (o92 P) .nil .nil) (.node (o124 P) .nil .nil))))) (.node (o6 P) (.node (o10 P) (.node (o18 P) (.node (o34 P) (.node (o66 P) (.node (o130 P) .nil .nil) .nil) (.node (o98 P) .nil .nil)) (.node (o50 P) (.node (o82 P) (.node (o146 P) .nil .nil) .nil) (.node (o114 P) .nil .nil))) (.node (o26 P) (.node (o42 P) (.node (o74 P) (.node (o138 P) .nil .nil) .nil) (.node (o106 P) .nil .nil)) (.node (o58 P) (.node (o90 P) .nil .nil) (.node (o122 P) .nil .nil)))) (.node (o14 P) (.node (o22 P) (.node (o38 P) (.node (o70 P) (.node (o134 P) .nil .nil) .nil) (.node (o102 P) .nil .nil)) (.node (o54 P) (.node (o86 P) .nil .nil) (.node (o118 P) .nil .nil))) (.node (o30 P) (.node (o46 P) (.node (o78 P) (.node (o142 P) .nil .nil) .nil) (.node (o110 P) .nil .nil)) (.node (o62 P) (.node (o94 P) .nil .nil) (.node (o126 P) .nil .nil))))))
abbrev pos3 : Pos := (PySem.Pos.mk 92 0 95 29)
noncomputable abbrev state3 (w : World) (os : OsState) : SharedT := ⟨tree3 w.params, 148, (PySem.Life.mk [] [] [] 0 [] [] Bool.false #[] [] 0 Bool.false Bool.false Bool.false 0 [2000, 10, 10] Bool.false 0 Bool.true [] [] 0 Bool.false), #[], (PySem.Drawn.mk 0 0 0 0), 387, os⟩
abbrev steps3 : Nat := 170
noncomputable abbrev o3v4 (P : Params) : Obj := (PySem.Obj.mk (PySem.Value.type "dict") none (PySem.Data.dict #[(PySem.DictEntry.mk (PySem.PyData.keyHash P (PySem.Str.ofString "__name__")) (PySem.Value.str (PySem.Str.ofString "__name__") 165) (PySem.Value.str (PySem.Str.ofString "quic.cubic") 340)), (PySem.DictEntry.mk (PySem.PyData.keyHash P (PySem.Str.ofString "__doc__")) (PySem.Value.str (PySem.Str.ofString "__doc__") 166) PySem.Value.none), (PySem.DictEntry.mk (PySem.PyData.keyHash P (PySem.Str.ofString "__package__")) (PySem.Value.str (PySem.Str.ofString "__package__") 167) PySem.Value.none), (PySem.DictEntry.mk (PySem.PyData.keyHash P (PySem.Str.ofString "__loader__")) (PySem.Value.str (PySem.Str.ofString "__loader__") 168) (PySem.Value.builtin "__main__.__loader__#opaque")), (PySem.DictEntry.mk (PySem.PyData.keyHash P (PySem.Str.ofString "__spec__")) (PySem.Value.str (PySem.Str.ofString "__spec__") 169) PySem.Value.none), (PySem.DictEntry.mk (PySem.PyData.keyHash P (PySem.Str.ofString "__annotations__")) (PySem.Value.str (PySem.Str.ofString "__annotations__") 170) (PySem.Value.ref 6)), (PySem.DictEntry.mk (PySem.PyData.keyHash P (PySem.Str.ofString "__builtins__")) (PySem.Value.str (PySem.Str.ofString "__builtins__") 171) (PySem.Value.ref 4)), (PySem.DictEntry.mk (PySem.PyData.keyHash P (PySem.Str.ofString "__file__")) (PySem.Value.str (PySem.Str.ofString "__file__") 173) (PySem.Value.str (PySem.Str.ofString "/claim/cut.py") 172)), (PySem.DictEntry.mk (PySem.PyData.keyHash P (PySem.Str.ofString "__cached__")) (PySem.Value.str (PySem.Str.ofString "__cached__") 174) PySem.Value.none), (PySem.DictEntry.mk (PySem.PyData.keyHash P (PySem.Str.ofString "_wall")) (PySem.Value.str (PySem.Str.ofString "_wall") 193) (PySem.Value.ref 21)), (PySem.DictEntry.mk (PySem.PyData.keyHash P (PySem.Str.ofString "INITIAL_PACKETS")) (PySem.Value.str (PySem.Str.ofString "INITIAL_PACKETS") 197) (PySem.Value.int 10 196)), (PySem.DictEntry.mk (PySem.PyData.keyHash P (PySem.Str.ofString "INITIAL_OCTETS")) (PySem.Value.str (PySem.Str.ofString "INITIAL_OCTETS") 199) (PySem.Value.int 14720 198)), (PySem.DictEntry.mk (PySem.PyData.keyHash P (PySem.Str.ofString "LEAST_PACKETS")) (PySem.Value.str (PySem.Str.ofString "LEAST_PACKETS") 201) (PySem.Value.int 2 200)), (PySem.DictEntry.mk (PySem.PyData.keyHash P (PySem.Str.ofString "LOSS_TOP")) (PySem.Value.str (PySem.Str.ofString "LOSS_TOP") 203) (PySem.Value.int 1 202)), (PySem.DictEntry.mk (PySem.PyData.keyHash P (PySem.Str.ofString "LOSS_BOTTOM")) (PySem.Value.str (PySem.Str.ofString "LOSS_BOTTOM") 205) (PySem.Value.int 2 204)), (PySem.DictEntry.mk (PySem.PyData.keyHash P (PySem.Str.ofString "initial_window")) (PySem.Value.str (PySem.Str.ofString "initial_window") 212) (PySem.Value.ref 28)), (PySem.DictEntry.mk (PySem.PyData.keyHash P (PySem.Str.ofString "least_window")) (PySem.Value.str (PySem.Str.ofString "least_window") 219) (PySem.Value.ref 35)), (PySem.DictEntry.mk (PySem.PyData.keyHash P (PySem.Str.ofString "NewReno")) (PySem.Value.str (PySem.Str.ofString "NewReno") 339) (PySem.Value.ref 122)), (PySem.DictEntry.mk (PySem.PyData.keyHash P (PySem.Str.ofString "BETA_TOP")) (PySem.Value.str (PySem.Str.ofString "BETA_TOP") 343) (PySem.Value.int 7 342)), (PySem.DictEntry.mk (PySem.PyData.keyHash P (PySem.Str.ofString "BETA_BOTTOM")) (PySem.Value.str (PySem.Str.ofString "BETA_BOTTOM") 345) (PySem.Value.int 10 344)), (PySem.DictEntry.mk (PySem.PyData.keyHash P (PySem.Str.ofString "C_TOP")) (PySem.Value.str (PySem.Str.ofString "C_TOP") 347) (PySem.Value.int 2 346)), (PySem.DictEntry.mk (PySem.PyData.keyHash P (PySem.Str.ofString "C_BOTTOM")) (PySem.Value.str (PySem.Str.ofString "C_BOTTOM") 349) (PySem.Value.int 5 348)), (PySem.DictEntry.mk (PySem.PyData.keyHash P (PySem.Str.ofString "SECOND")) (PySem.Value.str (PySem.Str.ofString "SECOND") 351) (PySem.Value.int 1000000 350)), (PySem.DictEntry.mk (PySem.PyData.keyHash P (PySem.Str.ofString "FRIENDLY_TOP")) (PySem.Value.str (PySem.Str.ofString "FRIENDLY_TOP") 353) (PySem.Value.int 9 352)), (PySem.DictEntry.mk (PySem.PyData.keyHash P (PySem.Str.ofString "FRIENDLY_BOTTOM")) (PySem.Value.str (PySem.Str.ofString "FRIENDLY_BOTTOM") 355) (PySem.Value.int 17 354)), (PySem.DictEntry.mk (PySem.PyData.keyHash P (PySem.Str.ofString "cube_root")) (PySem.Value.str (PySem.Str.ofString "cube_root") 365) (PySem.Value.ref 133)), (PySem.DictEntry.mk (PySem.PyData.keyHash P (PySem.Str.ofString "cubic_time")) (PySem.Value.str (PySem.Str.ofString "cubic_time") 374) (PySem.Value.ref 140)), (PySem.DictEntry.mk (PySem.PyData.keyHash P (PySem.Str.ofString "cubic_window")) (PySem.Value.str (PySem.Str.ofString "cubic_window") 386) (PySem.Value.ref 147)), (PySem.DictEntry.mk (PySem.PyData.keyHash P (PySem.Str.ofString "Cubic")) (PySem.Value.str (PySem.Str.ofString "Cubic") 479) (PySem.Value.ref 206))] 29) #[])
noncomputable abbrev o12v4 (_ : Params) : Obj := (PySem.Obj.mk PySem.Value.none none (PySem.Data.fields #[(PySem.Value.int 1 0), (PySem.Value.int 0 0), (PySem.Value.ref 20), (PySem.Value.int 10 0), (PySem.Value.int 0 0), (PySem.Value.ref 27), (PySem.Value.int 12 0), (PySem.Value.int 0 0), (PySem.Value.ref 34), (PySem.Value.int 14 0), (PySem.Value.int 0 0), (PySem.Value.ref 41), (PySem.Value.int 77 0), (PySem.Value.int 0 0), (PySem.Value.ref 132), (PySem.Value.int 88 0), (PySem.Value.int 0 0), (PySem.Value.ref 139), (PySem.Value.int 92 0), (PySem.Value.int 0 0), (PySem.Value.ref 146), (PySem.Value.int 96 0), (PySem.Value.int 0 0), (PySem.Value.ref 153)]) #[])
noncomputable abbrev o122v1 (_ : Params) : Obj := (PySem.Obj.mk (PySem.Value.type "type") none (PySem.Data.cls (PySem.ClassData.mk (PySem.Str.ofString "NewReno") [(PySem.Value.type "object")] [(PySem.Value.ref 122), (PySem.Value.type "object")] 121 (PySem.Str.ofString "NewReno") Bool.true [] [(PySem.Value.ref 206)] Bool.false none Bool.false)) #[none, none, (some (PySem.Value.str (PySem.Str.ofString "NewReno") 220)), (some (PySem.Value.str (PySem.Str.ofString "NewReno") 228)), (some (PySem.Value.builtin "object.__new__")), (some (PySem.Value.bool Bool.true))])
noncomputable abbrev o148 (_ : Params) : Obj := (PySem.Obj.mk (PySem.Value.type "tuple") none (PySem.Data.seq #[(PySem.Value.ref 122)] 0) #[])
noncomputable abbrev o149 (_ : Params) : Obj := (PySem.Obj.mk (PySem.Value.type "builtin_function_or_method") none (PySem.Data.fields #[(PySem.Value.builtin "type.__prepare__"), (PySem.Value.type "type")]) #[])
noncomputable abbrev o150 (P : Params) : Obj := (PySem.Obj.mk (PySem.Value.type "dict") none (PySem.Data.dict #[(PySem.DictEntry.mk (PySem.PyData.keyHash P (PySem.Str.ofString "__module__")) (PySem.Value.str (PySem.Str.ofString "__module__") 394) (PySem.Value.str (PySem.Str.ofString "quic.cubic") 340)), (PySem.DictEntry.mk (PySem.PyData.keyHash P (PySem.Str.ofString "__qualname__")) (PySem.Value.str (PySem.Str.ofString "__qualname__") 396) (PySem.Value.str (PySem.Str.ofString "Cubic") 395)), (PySem.DictEntry.mk (PySem.PyData.keyHash P (PySem.Str.ofString "__firstlineno__")) (PySem.Value.str (PySem.Str.ofString "__firstlineno__") 398) (PySem.Value.int 96 397)), (PySem.DictEntry.mk (PySem.PyData.keyHash P (PySem.Str.ofString "__init__")) (PySem.Value.str (PySem.Str.ofString "__init__") 406) (PySem.Value.ref 161)), (PySem.DictEntry.mk (PySem.PyData.keyHash P (PySem.Str.ofString "on_acked")) (PySem.Value.str (PySem.Str.ofString "on_acked") 418) (PySem.Value.ref 168)), (PySem.DictEntry.mk (PySem.PyData.keyHash P (PySem.Str.ofString "begin_growth")) (PySem.Value.str (PySem.Str.ofString "begin_growth") 426) (PySem.Value.ref 175)), (PySem.DictEntry.mk (PySem.PyData.keyHash P (PySem.Str.ofString "grow_friendly")) (PySem.Value.str (PySem.Str.ofString "grow_friendly") 437) (PySem.Value.ref 182)), (PySem.DictEntry.mk (PySem.PyData.keyHash P (PySem.Str.ofString "grow_cubic")) (PySem.Value.str (PySem.Str.ofString "grow_cubic") 449) (PySem.Value.ref 189)), (PySem.DictEntry.mk (PySem.PyData.keyHash P (PySem.Str.ofString "on_congestion")) (PySem.Value.str (PySem.Str.ofString "on_congestion") 458) (PySem.Value.ref 196)), (PySem.DictEntry.mk (PySem.PyData.keyHash P (PySem.Str.ofString "on_persistent")) (PySem.Value.str (PySem.Str.ofString "on_persistent") 465) (PySem.Value.ref 203)), (PySem.DictEntry.mk (PySem.PyData.keyHash P (PySem.Str.ofString "__static_attributes__")) (PySem.Value.str (PySem.Str.ofString "__static_attributes__") 476) (PySem.Value.ref 204))] 11) #[])
noncomputable abbrev o151 (_ : Params) : Obj := (PySem.Obj.mk (PySem.Value.type "tuple") none (PySem.Data.seq #[] 0) #[])
noncomputable abbrev o152 (_ : Params) : Obj := (PySem.Obj.mk PySem.Value.none none (PySem.Data.fields #[(PySem.Value.int 98 0), (PySem.Value.int 4 0), (PySem.Value.ref 160), (PySem.Value.int 107 0), (PySem.Value.int 4 0), (PySem.Value.ref 167), (PySem.Value.int 119 0), (PySem.Value.int 4 0), (PySem.Value.ref 174), (PySem.Value.int 126 0), (PySem.Value.int 4 0), (PySem.Value.ref 181), (PySem.Value.int 133 0), (PySem.Value.int 4 0), (PySem.Value.ref 188), (PySem.Value.int 144 0), (PySem.Value.int 4 0), (PySem.Value.ref 195), (PySem.Value.int 158 0), (PySem.Value.int 4 0), (PySem.Value.ref 202)]) #[])
noncomputable abbrev o153 (_ : Params) : Obj := (PySem.Obj.mk (PySem.Value.type "code") none (PySem.Data.fields #[(PySem.Value.str (PySem.Str.ofString "Cubic") 389), (PySem.Value.str (PySem.Str.ofString "Cubic") 390), (PySem.Value.str (PySem.Str.ofString "/claim/cut.py") 391), (PySem.Value.int 96 0), (PySem.Value.int 0 0), (PySem.Value.int 0 0), (PySem.Value.int 0 0), (PySem.Value.int 0 0), (PySem.Value.ref 151), (PySem.Value.bool Bool.false), (PySem.Value.int 181 0), (PySem.Value.ref 152), PySem.Value.none, PySem.Value.none, PySem.Value.none, PySem.Value.none, (PySem.Value.int 392 0), (PySem.Value.int 96 0), (PySem.Value.str (PySem.Str.ofString "/claim/cut.py") 393)]) #[])
noncomputable abbrev o154 (_ : Params) : Obj := (PySem.Obj.mk (PySem.Value.type "frame") none PySem.Data.plain #[(some (PySem.Value.ref 153)), (some (PySem.Value.ref 3)), (some (PySem.Value.ref 150)), none, (some (PySem.Value.str (PySem.Str.ofString "quic.cubic") 340)), none, (some (PySem.Value.ref 0))])
noncomputable abbrev o155 (_ : Params) : Obj := (PySem.Obj.mk (PySem.Value.type "tuple") none (PySem.Data.seq #[] 0) #[])
noncomputable abbrev o156 (_ : Params) : Obj := (PySem.Obj.mk PySem.Value.none none (PySem.Data.fields #[]) #[])
noncomputable abbrev o157 (_ : Params) : Obj := (PySem.Obj.mk (PySem.Value.type "tuple") none (PySem.Data.seq #[(PySem.Value.str (PySem.Str.ofString "self") 402), (PySem.Value.str (PySem.Str.ofString "datagram") 403)] 0) #[])
noncomputable abbrev o158 (_ : Params) : Obj := (PySem.Obj.mk (PySem.Value.type "tuple") none (PySem.Data.seq #[] 0) #[])
noncomputable abbrev o159 (_ : Params) : Obj := (PySem.Obj.mk PySem.Value.none none (PySem.Data.func (PySem.FuncData.mk (PySem.Str.ofString "__init__") (PySem.Str.ofString "Cubic.__init__") (argsOf (sub 21 0)) (PySem.FuncBody.stmts (bodyOf (sub 21 0))) (scopeOf (sub 21 0)) 0 [] PySem.Value.none PySem.Value.none PySem.Value.none PySem.Value.none none PySem.Value.none PySem.Value.none 0)) #[])
noncomputable abbrev o160 (_ : Params) : Obj := (PySem.Obj.mk (PySem.Value.type "code") none (PySem.Data.fields #[(PySem.Value.str (PySem.Str.ofString "__init__") 399), (PySem.Value.str (PySem.Str.ofString "Cubic.__init__") 400), (PySem.Value.str (PySem.Str.ofString "/claim/cut.py") 401), (PySem.Value.int 98 0), (PySem.Value.int 2 0), (PySem.Value.int 0 0), (PySem.Value.int 0 0), (PySem.Value.int 3 0), (PySem.Value.ref 155), (PySem.Value.bool Bool.true), (PySem.Value.int 181 0), (PySem.Value.ref 156), PySem.Value.none, (PySem.Value.ref 157), (PySem.Value.ref 158), (PySem.Value.ref 159), (PySem.Value.int 404 0), (PySem.Value.int 98 0), (PySem.Value.str (PySem.Str.ofString "/claim/cut.py") 405)]) #[])
noncomputable abbrev o161 (_ : Params) : Obj := (PySem.Obj.mk (PySem.Value.type "function") none (PySem.Data.func (PySem.FuncData.mk (PySem.Str.ofString "__init__") (PySem.Str.ofString "Cubic.__init__") (argsOf (sub 21 0)) (PySem.FuncBody.stmts (bodyOf (sub 21 0))) (scopeOf (sub 21 0)) 3 [] PySem.Value.none PySem.Value.none PySem.Value.none (PySem.Value.str (PySem.Str.ofString "quic.cubic") 340) none (PySem.Value.ref 160) PySem.Value.none 0)) #[])
noncomputable abbrev o162 (_ : Params) : Obj := (PySem.Obj.mk (PySem.Value.type "tuple") none (PySem.Data.seq #[] 0) #[])
noncomputable abbrev o163 (_ : Params) : Obj := (PySem.Obj.mk PySem.Value.none none (PySem.Data.fields #[]) #[])
noncomputable abbrev o164 (_ : Params) : Obj := (PySem.Obj.mk (PySem.Value.type "tuple") none (PySem.Data.seq #[(PySem.Value.str (PySem.Str.ofString "self") 410), (PySem.Value.str (PySem.Str.ofString "size") 411), (PySem.Value.str (PySem.Str.ofString "sent_at") 412), (PySem.Value.str (PySem.Str.ofString "is_limited") 413), (PySem.Value.str (PySem.Str.ofString "now") 414), (PySem.Value.str (PySem.Str.ofString "smoothed") 415)] 0) #[])
noncomputable abbrev o165 (_ : Params) : Obj := (PySem.Obj.mk (PySem.Value.type "tuple") none (PySem.Data.seq #[] 0) #[])
noncomputable abbrev o166 (_ : Params) : Obj := (PySem.Obj.mk PySem.Value.none none (PySem.Data.func (PySem.FuncData.mk (PySem.Str.ofString "on_acked") (PySem.Str.ofString "Cubic.on_acked") (argsOf (sub 21 1)) (PySem.FuncBody.stmts (bodyOf (sub 21 1))) (scopeOf (sub 21 1)) 0 [] PySem.Value.none PySem.Value.none PySem.Value.none PySem.Value.none none PySem.Value.none PySem.Value.none 0)) #[])
noncomputable abbrev o167 (_ : Params) : Obj := (PySem.Obj.mk (PySem.Value.type "code") none (PySem.Data.fields #[(PySem.Value.str (PySem.Str.ofString "on_acked") 407), (PySem.Value.str (PySem.Str.ofString "Cubic.on_acked") 408), (PySem.Value.str (PySem.Str.ofString "/claim/cut.py") 409), (PySem.Value.int 107 0), (PySem.Value.int 6 0), (PySem.Value.int 0 0), (PySem.Value.int 0 0), (PySem.Value.int 3 0), (PySem.Value.ref 162), (PySem.Value.bool Bool.true), (PySem.Value.int 181 0), (PySem.Value.ref 163), PySem.Value.none, (PySem.Value.ref 164), (PySem.Value.ref 165), (PySem.Value.ref 166), (PySem.Value.int 416 0), (PySem.Value.int 107 0), (PySem.Value.str (PySem.Str.ofString "/claim/cut.py") 417)]) #[])
noncomputable abbrev o168 (_ : Params) : Obj := (PySem.Obj.mk (PySem.Value.type "function") none (PySem.Data.func (PySem.FuncData.mk (PySem.Str.ofString "on_acked") (PySem.Str.ofString "Cubic.on_acked") (argsOf (sub 21 1)) (PySem.FuncBody.stmts (bodyOf (sub 21 1))) (scopeOf (sub 21 1)) 3 [] PySem.Value.none PySem.Value.none PySem.Value.none (PySem.Value.str (PySem.Str.ofString "quic.cubic") 340) none (PySem.Value.ref 167) PySem.Value.none 0)) #[])
noncomputable abbrev o169 (_ : Params) : Obj := (PySem.Obj.mk (PySem.Value.type "tuple") none (PySem.Data.seq #[] 0) #[])
noncomputable abbrev o170 (_ : Params) : Obj := (PySem.Obj.mk PySem.Value.none none (PySem.Data.fields #[]) #[])
noncomputable abbrev o171 (_ : Params) : Obj := (PySem.Obj.mk (PySem.Value.type "tuple") none (PySem.Data.seq #[(PySem.Value.str (PySem.Str.ofString "self") 422), (PySem.Value.str (PySem.Str.ofString "now") 423)] 0) #[])
noncomputable abbrev o172 (_ : Params) : Obj := (PySem.Obj.mk (PySem.Value.type "tuple") none (PySem.Data.seq #[] 0) #[])
noncomputable abbrev o173 (_ : Params) : Obj := (PySem.Obj.mk PySem.Value.none none (PySem.Data.func (PySem.FuncData.mk (PySem.Str.ofString "begin_growth") (PySem.Str.ofString "Cubic.begin_growth") (argsOf (sub 21 2)) (PySem.FuncBody.stmts (bodyOf (sub 21 2))) (scopeOf (sub 21 2)) 0 [] PySem.Value.none PySem.Value.none PySem.Value.none PySem.Value.none none PySem.Value.none PySem.Value.none 0)) #[])
noncomputable abbrev o174 (_ : Params) : Obj := (PySem.Obj.mk (PySem.Value.type "code") none (PySem.Data.fields #[(PySem.Value.str (PySem.Str.ofString "begin_growth") 419), (PySem.Value.str (PySem.Str.ofString "Cubic.begin_growth") 420), (PySem.Value.str (PySem.Str.ofString "/claim/cut.py") 421), (PySem.Value.int 119 0), (PySem.Value.int 2 0), (PySem.Value.int 0 0), (PySem.Value.int 0 0), (PySem.Value.int 3 0), (PySem.Value.ref 169), (PySem.Value.bool Bool.true), (PySem.Value.int 181 0), (PySem.Value.ref 170), PySem.Value.none, (PySem.Value.ref 171), (PySem.Value.ref 172), (PySem.Value.ref 173), (PySem.Value.int 424 0), (PySem.Value.int 119 0), (PySem.Value.str (PySem.Str.ofString "/claim/cut.py") 425)]) #[])
noncomputable abbrev o175 (_ : Params) : Obj := (PySem.Obj.mk (PySem.Value.type "function") none (PySem.Data.func (PySem.FuncData.mk (PySem.Str.ofString "begin_growth") (PySem.Str.ofString "Cubic.begin_growth") (argsOf (sub 21 2)) (PySem.FuncBody.stmts (bodyOf (sub 21 2))) (scopeOf (sub 21 2)) 3 [] PySem.Value.none PySem.Value.none PySem.Value.none (PySem.Value.str (PySem.Str.ofString "quic.cubic") 340) none (PySem.Value.ref 174) PySem.Value.none 0)) #[])
noncomputable abbrev o176 (_ : Params) : Obj := (PySem.Obj.mk (PySem.Value.type "tuple") none (PySem.Data.seq #[] 0) #[])
noncomputable abbrev o177 (_ : Params) : Obj := (PySem.Obj.mk PySem.Value.none none (PySem.Data.fields #[]) #[])
noncomputable abbrev o178 (_ : Params) : Obj := (PySem.Obj.mk (PySem.Value.type "tuple") none (PySem.Data.seq #[(PySem.Value.str (PySem.Str.ofString "self") 430), (PySem.Value.str (PySem.Str.ofString "size") 431), (PySem.Value.str (PySem.Str.ofString "top") 432), (PySem.Value.str (PySem.Str.ofString "bottom") 433), (PySem.Value.str (PySem.Str.ofString "more") 434)] 0) #[])
noncomputable abbrev o179 (_ : Params) : Obj := (PySem.Obj.mk (PySem.Value.type "tuple") none (PySem.Data.seq #[] 0) #[])
noncomputable abbrev o180 (_ : Params) : Obj := (PySem.Obj.mk PySem.Value.none none (PySem.Data.func (PySem.FuncData.mk (PySem.Str.ofString "grow_friendly") (PySem.Str.ofString "Cubic.grow_friendly") (argsOf (sub 21 3)) (PySem.FuncBody.stmts (bodyOf (sub 21 3))) (scopeOf (sub 21 3)) 0 [] PySem.Value.none PySem.Value.none PySem.Value.none PySem.Value.none none PySem.Value.none PySem.Value.none 0)) #[])
noncomputable abbrev o181 (_ : Params) : Obj := (PySem.Obj.mk (PySem.Value.type "code") none (PySem.Data.fields #[(PySem.Value.str (PySem.Str.ofString "grow_friendly") 427), (PySem.Value.str (PySem.Str.ofString "Cubic.grow_friendly") 428), (PySem.Value.str (PySem.Str.ofString "/claim/cut.py") 429), (PySem.Value.int 126 0), (PySem.Value.int 2 0), (PySem.Value.int 0 0), (PySem.Value.int 0 0), (PySem.Value.int 3 0), (PySem.Value.ref 176), (PySem.Value.bool Bool.true), (PySem.Value.int 181 0), (PySem.Value.ref 177), PySem.Value.none, (PySem.Value.ref 178), (PySem.Value.ref 179), (PySem.Value.ref 180), (PySem.Value.int 435 0), (PySem.Value.int 126 0), (PySem.Value.str (PySem.Str.ofString "/claim/cut.py") 436)]) #[])
noncomputable abbrev o182 (_ : Params) : Obj := (PySem.Obj.mk (PySem.Value.type "function") none (PySem.Data.func (PySem.FuncData.mk (PySem.Str.ofString "grow_friendly") (PySem.Str.ofString "Cubic.grow_friendly") (argsOf (sub 21 3)) (PySem.FuncBody.stmts (bodyOf (sub 21 3))) (scopeOf (sub 21 3)) 3 [] PySem.Value.none PySem.Value.none PySem.Value.none (PySem.Value.str (PySem.Str.ofString "quic.cubic") 340) none (PySem.Value.ref 181) PySem.Value.none 0)) #[])
noncomputable abbrev o183 (_ : Params) : Obj := (PySem.Obj.mk (PySem.Value.type "tuple") none (PySem.Data.seq #[] 0) #[])
noncomputable abbrev o184 (_ : Params) : Obj := (PySem.Obj.mk PySem.Value.none none (PySem.Data.fields #[]) #[])
noncomputable abbrev o185 (_ : Params) : Obj := (PySem.Obj.mk (PySem.Value.type "tuple") none (PySem.Data.seq #[(PySem.Value.str (PySem.Str.ofString "self") 441), (PySem.Value.str (PySem.Str.ofString "size") 442), (PySem.Value.str (PySem.Str.ofString "elapsed") 443), (PySem.Value.str (PySem.Str.ofString "smoothed") 444), (PySem.Value.str (PySem.Str.ofString "goal") 445), (PySem.Value.str (PySem.Str.ofString "more") 446)] 0) #[])
noncomputable abbrev o186 (_ : Params) : Obj := (PySem.Obj.mk (PySem.Value.type "tuple") none (PySem.Data.seq #[] 0) #[])
noncomputable abbrev o187 (_ : Params) : Obj := (PySem.Obj.mk PySem.Value.none none (PySem.Data.func (PySem.FuncData.mk (PySem.Str.ofString "grow_cubic") (PySem.Str.ofString "Cubic.grow_cubic") (argsOf (sub 21 4)) (PySem.FuncBody.stmts (bodyOf (sub 21 4))) (scopeOf (sub 21 4)) 0 [] PySem.Value.none PySem.Value.none PySem.Value.none PySem.Value.none none PySem.Value.none PySem.Value.none 0)) #[])
noncomputable abbrev o188 (_ : Params) : Obj := (PySem.Obj.mk (PySem.Value.type "code") none (PySem.Data.fields #[(PySem.Value.str (PySem.Str.ofString "grow_cubic") 438), (PySem.Value.str (PySem.Str.ofString "Cubic.grow_cubic") 439), (PySem.Value.str (PySem.Str.ofString "/claim/cut.py") 440), (PySem.Value.int 133 0), (PySem.Value.int 4 0), (PySem.Value.int 0 0), (PySem.Value.int 0 0), (PySem.Value.int 3 0), (PySem.Value.ref 183), (PySem.Value.bool Bool.true), (PySem.Value.int 181 0), (PySem.Value.ref 184), PySem.Value.none, (PySem.Value.ref 185), (PySem.Value.ref 186), (PySem.Value.ref 187), (PySem.Value.int 447 0), (PySem.Value.int 133 0), (PySem.Value.str (PySem.Str.ofString "/claim/cut.py") 448)]) #[])
noncomputable abbrev o189 (_ : Params) : Obj := (PySem.Obj.mk (PySem.Value.type "function") none (PySem.Data.func (PySem.FuncData.mk (PySem.Str.ofString "grow_cubic") (PySem.Str.ofString "Cubic.grow_cubic") (argsOf (sub 21 4)) (PySem.FuncBody.stmts (bodyOf (sub 21 4))) (scopeOf (sub 21 4)) 3 [] PySem.Value.none PySem.Value.none PySem.Value.none (PySem.Value.str (PySem.Str.ofString "quic.cubic") 340) none (PySem.Value.ref 188) PySem.Value.none 0)) #[])
noncomputable abbrev o190 (_ : Params) : Obj := (PySem.Obj.mk (PySem.Value.type "tuple") none (PySem.Data.seq #[] 0) #[])
noncomputable abbrev o191 (_ : Params) : Obj := (PySem.Obj.mk PySem.Value.none none (PySem.Data.fields #[]) #[])
noncomputable abbrev o192 (_ : Params) : Obj := (PySem.Obj.mk (PySem.Value.type "tuple") none (PySem.Data.seq #[(PySem.Value.str (PySem.Str.ofString "self") 453), (PySem.Value.str (PySem.Str.ofString "sent_at") 454), (PySem.Value.str (PySem.Str.ofString "now") 455)] 0) #[])
noncomputable abbrev o193 (_ : Params) : Obj := (PySem.Obj.mk (PySem.Value.type "tuple") none (PySem.Data.seq #[] 0) #[])
noncomputable abbrev o194 (_ : Params) : Obj := (PySem.Obj.mk PySem.Value.none none (PySem.Data.func (PySem.FuncData.mk (PySem.Str.ofString "on_congestion") (PySem.Str.ofString "Cubic.on_congestion") (argsOf (sub 21 5)) (PySem.FuncBody.stmts (bodyOf (sub 21 5))) (scopeOf (sub 21 5)) 0 [] PySem.Value.none PySem.Value.none PySem.Value.none PySem.Value.none none PySem.Value.none PySem.Value.none 0)) #[])
noncomputable abbrev o195 (_ : Params) : Obj := (PySem.Obj.mk (PySem.Value.type "code") none (PySem.Data.fields #[(PySem.Value.str (PySem.Str.ofString "on_congestion") 450), (PySem.Value.str (PySem.Str.ofString "Cubic.on_congestion") 451), (PySem.Value.str (PySem.Str.ofString "/claim/cut.py") 452), (PySem.Value.int 144 0), (PySem.Value.int 3 0), (PySem.Value.int 0 0), (PySem.Value.int 0 0), (PySem.Value.int 3 0), (PySem.Value.ref 190), (PySem.Value.bool Bool.true), (PySem.Value.int 181 0), (PySem.Value.ref 191), PySem.Value.none, (PySem.Value.ref 192), (PySem.Value.ref 193), (PySem.Value.ref 194), (PySem.Value.int 456 0), (PySem.Value.int 144 0), (PySem.Value.str (PySem.Str.ofString "/claim/cut.py") 457)]) #[])
noncomputable abbrev o196 (_ : Params) : Obj := (PySem.Obj.mk (PySem.Value.type "function") none (PySem.Data.func (PySem.FuncData.mk (PySem.Str.ofString "on_congestion") (PySem.Str.ofString "Cubic.on_congestion") (argsOf (sub 21 5)) (PySem.FuncBody.stmts (bodyOf (sub 21 5))) (scopeOf (sub 21 5)) 3 [] PySem.Value.none PySem.Value.none PySem.Value.none (PySem.Value.str (PySem.Str.ofString "quic.cubic") 340) none (PySem.Value.ref 195) PySem.Value.none 0)) #[])
noncomputable abbrev o197 (_ : Params) : Obj := (PySem.Obj.mk (PySem.Value.type "tuple") none (PySem.Data.seq #[] 0) #[])
noncomputable abbrev o198 (_ : Params) : Obj := (PySem.Obj.mk PySem.Value.none none (PySem.Data.fields #[]) #[])
noncomputable abbrev o199 (_ : Params) : Obj := (PySem.Obj.mk (PySem.Value.type "tuple") none (PySem.Data.seq #[(PySem.Value.str (PySem.Str.ofString "self") 462)] 0) #[])
noncomputable abbrev o200 (_ : Params) : Obj := (PySem.Obj.mk (PySem.Value.type "tuple") none (PySem.Data.seq #[] 0) #[])
noncomputable abbrev o201 (_ : Params) : Obj := (PySem.Obj.mk PySem.Value.none none (PySem.Data.func (PySem.FuncData.mk (PySem.Str.ofString "on_persistent") (PySem.Str.ofString "Cubic.on_persistent") (argsOf (sub 21 6)) (PySem.FuncBody.stmts (bodyOf (sub 21 6))) (scopeOf (sub 21 6)) 0 [] PySem.Value.none PySem.Value.none PySem.Value.none PySem.Value.none none PySem.Value.none PySem.Value.none 0)) #[])
noncomputable abbrev o202 (_ : Params) : Obj := (PySem.Obj.mk (PySem.Value.type "code") none (PySem.Data.fields #[(PySem.Value.str (PySem.Str.ofString "on_persistent") 459), (PySem.Value.str (PySem.Str.ofString "Cubic.on_persistent") 460), (PySem.Value.str (PySem.Str.ofString "/claim/cut.py") 461), (PySem.Value.int 158 0), (PySem.Value.int 1 0), (PySem.Value.int 0 0), (PySem.Value.int 0 0), (PySem.Value.int 3 0), (PySem.Value.ref 197), (PySem.Value.bool Bool.true), (PySem.Value.int 181 0), (PySem.Value.ref 198), PySem.Value.none, (PySem.Value.ref 199), (PySem.Value.ref 200), (PySem.Value.ref 201), (PySem.Value.int 463 0), (PySem.Value.int 158 0), (PySem.Value.str (PySem.Str.ofString "/claim/cut.py") 464)]) #[])
noncomputable abbrev o203 (_ : Params) : Obj := (PySem.Obj.mk (PySem.Value.type "function") none (PySem.Data.func (PySem.FuncData.mk (PySem.Str.ofString "on_persistent") (PySem.Str.ofString "Cubic.on_persistent") (argsOf (sub 21 6)) (PySem.FuncBody.stmts (bodyOf (sub 21 6))) (scopeOf (sub 21 6)) 3 [] PySem.Value.none PySem.Value.none PySem.Value.none (PySem.Value.str (PySem.Str.ofString "quic.cubic") 340) none (PySem.Value.ref 202) PySem.Value.none 0)) #[])
noncomputable abbrev o204 (_ : Params) : Obj := (PySem.Obj.mk (PySem.Value.type "tuple") none (PySem.Data.seq #[(PySem.Value.str (PySem.Str.ofString "begun_at") 466), (PySem.Value.str (PySem.Str.ofString "credit") 467), (PySem.Value.str (PySem.Str.ofString "friendly") 468), (PySem.Value.str (PySem.Str.ofString "friendly_credit") 469), (PySem.Value.str (PySem.Str.ofString "meets_after") 470), (PySem.Value.str (PySem.Str.ofString "prior_window") 471), (PySem.Value.str (PySem.Str.ofString "recovery_at") 472), (PySem.Value.str (PySem.Str.ofString "threshold") 473), (PySem.Value.str (PySem.Str.ofString "top_window") 474), (PySem.Value.str (PySem.Str.ofString "window") 475)] 0) #[])
noncomputable abbrev o205 (P : Params) : Obj := (PySem.Obj.mk (PySem.Value.type "dict") none (PySem.Data.dict #[(PySem.DictEntry.mk (PySem.PyData.keyHash P (PySem.Str.ofString "__module__")) (PySem.Value.str (PySem.Str.ofString "__module__") 394) (PySem.Value.str (PySem.Str.ofString "quic.cubic") 340)), (PySem.DictEntry.mk (PySem.PyData.keyHash P (PySem.Str.ofString "__firstlineno__")) (PySem.Value.str (PySem.Str.ofString "__firstlineno__") 398) (PySem.Value.int 96 397)), (PySem.DictEntry.mk (PySem.PyData.keyHash P (PySem.Str.ofString "__init__")) (PySem.Value.str (PySem.Str.ofString "__init__") 406) (PySem.Value.ref 161)), (PySem.DictEntry.mk (PySem.PyData.keyHash P (PySem.Str.ofString "on_acked")) (PySem.Value.str (PySem.Str.ofString "on_acked") 418) (PySem.Value.ref 168)), (PySem.DictEntry.mk (PySem.PyData.keyHash P (PySem.Str.ofString "begin_growth")) (PySem.Value.str (PySem.Str.ofString "begin_growth") 426) (PySem.Value.ref 175)), (PySem.DictEntry.mk (PySem.PyData.keyHash P (PySem.Str.ofString "grow_friendly")) (PySem.Value.str (PySem.Str.ofString "grow_friendly") 437) (PySem.Value.ref 182)), (PySem.DictEntry.mk (PySem.PyData.keyHash P (PySem.Str.ofString "grow_cubic")) (PySem.Value.str (PySem.Str.ofString "grow_cubic") 449) (PySem.Value.ref 189)), (PySem.DictEntry.mk (PySem.PyData.keyHash P (PySem.Str.ofString "on_congestion")) (PySem.Value.str (PySem.Str.ofString "on_congestion") 458) (PySem.Value.ref 196)), (PySem.DictEntry.mk (PySem.PyData.keyHash P (PySem.Str.ofString "on_persistent")) (PySem.Value.str (PySem.Str.ofString "on_persistent") 465) (PySem.Value.ref 203)), (PySem.DictEntry.mk (PySem.PyData.keyHash P (PySem.Str.ofString "__static_attributes__")) (PySem.Value.str (PySem.Str.ofString "__static_attributes__") 476) (PySem.Value.ref 204)), (PySem.DictEntry.mk (PySem.PyData.keyHash P (PySem.Str.ofString "__doc__")) (PySem.Value.str (PySem.Str.ofString "__doc__") 477) PySem.Value.none)] 2) #[])
noncomputable abbrev o206 (_ : Params) : Obj := (PySem.Obj.mk (PySem.Value.type "type") none (PySem.Data.cls (PySem.ClassData.mk (PySem.Str.ofString "Cubic") [(PySem.Value.ref 122)] [(PySem.Value.ref 206), (PySem.Value.ref 122), (PySem.Value.type "object")] 205 (PySem.Str.ofString "Cubic") Bool.true [] [] Bool.false none Bool.false)) #[(some (PySem.Value.ref 148)), none, (some (PySem.Value.str (PySem.Str.ofString "Cubic") 387)), (some (PySem.Value.str (PySem.Str.ofString "Cubic") 395)), (some (PySem.Value.builtin "object.__new__")), (some (PySem.Value.bool Bool.true))])
noncomputable abbrev o207 (_ : Params) : Obj := (PySem.Obj.mk (PySem.Value.type "super") none (PySem.Data.fields #[(PySem.Value.ref 206), (PySem.Value.ref 206), (PySem.Value.ref 206)]) #[])
noncomputable abbrev o208 (_ : Params) : Obj := (PySem.Obj.mk (PySem.Value.type "builtin_function_or_method") none (PySem.Data.fields #[(PySem.Value.builtin "object.__init_subclass__"), (PySem.Value.ref 206)]) #[])
noncomputable abbrev tree4 (P : Params) : BT := .node (o0 P) (.node (o1 P) (.node (o3v4 P) (.node (o7 P) (.node (o15 P) (.node (o31 P) (.node (o63 P) (.node (o127 P) .nil .nil) (.node (o191 P) .nil .nil)) (.node (o95 P) (.node (o159 P) .nil .nil) .nil)) (.node (o47 P) (.node (o79 P) (.node (o143 P) .nil .nil) (.node (o207 P) .nil .nil)) (.node (o111 P) (.node (o175 P) .nil .nil) .nil))) (.node (o23 P) (.node (o39 P) (.node (o71 P) (.node (o135 P) .nil .nil) (.node (o199 P) .nil .nil)) (.node (o103 P) (.node (o167 P) .nil .nil) .nil)) (.node (o55 P) (.node (o87 P) (.node (o151 P) .nil .nil) .nil) (.node (o119 P) (.node (o183 P) .nil .nil) .nil)))) (.node (o11 P) (.node (o19 P) (.node (o35 P) (.node (o67 P) (.node (o131 P) .nil .nil) (.node (o195 P) .nil .nil)) (.node (o99 P) (.node (o163 P) .nil .nil) .nil)) (.node (o51 P) (.node (o83 P) (.node (o147 P) .nil .nil) .nil) (.node (o115 P) (.node (o179 P) .nil .nil) .nil))) (.node (o27 P) (.node (o43 P) (.node (o75 P) (.node (o139 P) .nil .nil) (.node (o203 P) .nil .nil)) (.node (o107 P) (.node (o171 P) .nil .nil) .nil)) (.node (o59 P) (.node (o91 P) (.node (o155 P) .nil .nil) .nil) (.node (o123 P) (.node (o187 P) .nil .nil) .nil))))) (.node (o5 P) (.node (o9 P) (.node (o17 P) (.node (o33 P) (.node (o65 P) (.node (o129 P) .nil .nil) (.node (o193 P) .nil .nil)) (.node (o97 P) (.node (o161 P) .nil .nil) .nil)) (.node (o49 P) (.node (o81 P) (.node (o145 P) .nil .nil) .nil) (.node (o113 P) (.node (o177 P) .nil .nil) .nil))) (.node (o25 P) (.node (o41 P) (.node (o73 P) (.node (o137 P) .nil .nil) (.node (o201 P) .nil .nil)) (.node (o105 P) (.node (o169 P) .nil .nil) .nil)) (.node (o57 P) (.node (o89 P) (.node (o153 P) .nil .nil) .nil) (.node (o121 P) (.node (o185 P) .nil .nil) .nil)))) (.node (o13 P) (.node (o21 P) (.node (o37 P) (.node (o69 P) (.node (o133 P) .nil .nil) (.node (o197 P) .nil .nil)) (.node (o101 P) (.node (o165 P) .nil .nil) .nil)) (.node (o53 P) (.node (o85 P) (.node (o149 P) .nil .nil) .nil) (.node (o117 P) (.node (o181 P) .nil .nil) .nil))) (.node (o29 P) (.node (o45 P) (.node (o77 P) (.node (o141 P) .nil .nil) (.node (o205 P) .nil .nil)) (.node (o109 P) (.node (o173 P) .nil .nil) .nil)) (.node (o61 P) (.node (o93 P) (.node (o157 P) .nil .nil) .nil) (.node (o125 P) (.node (o189 P) .nil .nil) .nil)))))) (.node (o2 P) (.node (o4 P) (.node (o8 P) (.node (o16 P) (.node (o32 P) (.node (o64 P) (.node (o128 P) .nil .nil) (.node (o192 P) .nil .nil)) (.node (o96 P) (.node (o160 P) .nil .nil) .nil)) (.node (o48 P) (.node (o80 P) (.node (o144 P) .nil .nil) (.node (o208 P) .nil .nil)) (.node (o112 P) (.node (o176 P) .nil .nil) .nil))) (.node (o24 P) (.node (o40 P) (.node (o72 P) (.node (o136 P) .nil .nil) (.node (o200 P) .nil .nil)) (.node (o104 P) (.node (o168 P) .nil .nil) .nil)) (.node (o56 P) (.node (o88 P) (.node (o152 P) .nil .nil) .nil) (.node (o120 P) (.node (o184 P) .nil .nil) .nil)))) (.node (o12v4 P) (.node (o20 P) (.node (o36 P) (.node (o68 P) (.node (o132 P) .nil .nil) (.node (o196 P) .nil .nil)) (.node (o100 P) (.node (o164 P) .nil .nil) .nil)) (.node (o52 P) (.node (o84 P) (.node (o148 P) .nil .nil) .nil) (.node (o116 P) (.node (o180 P) .nil .nil) .nil))) (.node (o28 P) (.node (o44 P) (.node (o76 P) (.node (o140 P) .nil .nil) (.node (o204 P) .nil .nil)) (.node (o108 P) (.node (o172 P) .nil .nil) .nil)) (.node (o60 P) (.node (o92 P) (.node (o156 P) .nil .nil) .nil) (.node (o124 P) (.node (o188 P) .nil .nil) .nil))))) (.node (o6 P) (.node (o10 P) (.node (o18 P) (.node (o34 P) (.node (o66 P) (.node (o130 P) .nil .nil) (.node (o194 P) .nil .nil)) (.node (o98 P) (.node (o162 P) .nil .nil) .nil)) (.node (o50 P) (.node (o82 P) (.node (o146 P) .nil .nil) .nil) (.node (o114 P) (.node (o178 P) .nil .nil) .nil))) (.node (o26 P) (.node (o42 P) (.node (o74 P) (.node (o138 P) .nil .nil) (.node (o202 P) .nil .nil)) (.node (o106 P) (.node (o170 P) .nil .nil) .nil)) (.node (o58 P) (.node (o90 P) (.node (o154 P) .nil .nil) .nil) (.node (o122v1 P) (.node (o186 P) .nil .nil) .nil)))) (.node (o14 P) (.node (o22 P) (.node (o38 P) (.node (o70 P) (.node (o134 P) .nil .nil) (.node (o198 P) .nil .nil)) (.node (o102 P) (.node (o166 P) .nil .nil) .nil)) (.node (o54 P) (.node (o86 P) (.node (o150 P) .nil .nil) .nil) (.node (o118 P) (.node (o182 P) .nil .nil) .nil))) (.node (o30 P) (.node (o46 P) (.node (o78 P) (.node (o142 P) .nil .nil) (.node (o206 P) .nil .nil)) (.node (o110 P) (.node (o174 P) .nil .nil) .nil)) (.node (o62 P) (.node (o94 P) (.node (o158 P) .nil .nil) .nil) (.node (o126 P) (.node (o190 P) .nil .nil) .nil))))))
abbrev pos4 : Pos := (PySem.Pos.mk 96 0 162 23)
noncomputable abbrev state4 (w : World) (os : OsState) : SharedT := ⟨tree4 w.params, 209, (PySem.Life.mk [] [] [] 0 [] [] Bool.false #[] [] 0 Bool.false Bool.false Bool.false 0 [2000, 10, 10] Bool.false 0 Bool.true [] [] 0 Bool.false), #[], (PySem.Drawn.mk 0 0 0 0), 480, os⟩
abbrev steps4 : Nat := 458
noncomputable abbrev o3v5 (P : Params) : Obj := (PySem.Obj.mk (PySem.Value.type "dict") none (PySem.Data.dict #[(PySem.DictEntry.mk (PySem.PyData.keyHash P (PySem.Str.ofString "__name__")) (PySem.Value.str (PySem.Str.ofString "__name__") 165) (PySem.Value.str (PySem.Str.ofString "law_no0074_01") 480)), (PySem.DictEntry.mk (PySem.PyData.keyHash P (PySem.Str.ofString "__doc__")) (PySem.Value.str (PySem.Str.ofString "__doc__") 166) PySem.Value.none), (PySem.DictEntry.mk (PySem.PyData.keyHash P (PySem.Str.ofString "__package__")) (PySem.Value.str (PySem.Str.ofString "__package__") 167) PySem.Value.none), (PySem.DictEntry.mk (PySem.PyData.keyHash P (PySem.Str.ofString "__loader__")) (PySem.Value.str (PySem.Str.ofString "__loader__") 168) (PySem.Value.builtin "__main__.__loader__#opaque")), (PySem.DictEntry.mk (PySem.PyData.keyHash P (PySem.Str.ofString "__spec__")) (PySem.Value.str (PySem.Str.ofString "__spec__") 169) PySem.Value.none), (PySem.DictEntry.mk (PySem.PyData.keyHash P (PySem.Str.ofString "__annotations__")) (PySem.Value.str (PySem.Str.ofString "__annotations__") 170) (PySem.Value.ref 6)), (PySem.DictEntry.mk (PySem.PyData.keyHash P (PySem.Str.ofString "__builtins__")) (PySem.Value.str (PySem.Str.ofString "__builtins__") 171) (PySem.Value.ref 4)), (PySem.DictEntry.mk (PySem.PyData.keyHash P (PySem.Str.ofString "__file__")) (PySem.Value.str (PySem.Str.ofString "__file__") 173) (PySem.Value.str (PySem.Str.ofString "/claim/cut.py") 172)), (PySem.DictEntry.mk (PySem.PyData.keyHash P (PySem.Str.ofString "__cached__")) (PySem.Value.str (PySem.Str.ofString "__cached__") 174) PySem.Value.none), (PySem.DictEntry.mk (PySem.PyData.keyHash P (PySem.Str.ofString "_wall")) (PySem.Value.str (PySem.Str.ofString "_wall") 193) (PySem.Value.ref 21)), (PySem.DictEntry.mk (PySem.PyData.keyHash P (PySem.Str.ofString "INITIAL_PACKETS")) (PySem.Value.str (PySem.Str.ofString "INITIAL_PACKETS") 197) (PySem.Value.int 10 196)), (PySem.DictEntry.mk (PySem.PyData.keyHash P (PySem.Str.ofString "INITIAL_OCTETS")) (PySem.Value.str (PySem.Str.ofString "INITIAL_OCTETS") 199) (PySem.Value.int 14720 198)), (PySem.DictEntry.mk (PySem.PyData.keyHash P (PySem.Str.ofString "LEAST_PACKETS")) (PySem.Value.str (PySem.Str.ofString "LEAST_PACKETS") 201) (PySem.Value.int 2 200)), (PySem.DictEntry.mk (PySem.PyData.keyHash P (PySem.Str.ofString "LOSS_TOP")) (PySem.Value.str (PySem.Str.ofString "LOSS_TOP") 203) (PySem.Value.int 1 202)), (PySem.DictEntry.mk (PySem.PyData.keyHash P (PySem.Str.ofString "LOSS_BOTTOM")) (PySem.Value.str (PySem.Str.ofString "LOSS_BOTTOM") 205) (PySem.Value.int 2 204)), (PySem.DictEntry.mk (PySem.PyData.keyHash P (PySem.Str.ofString "initial_window")) (PySem.Value.str (PySem.Str.ofString "initial_window") 212) (PySem.Value.ref 28)), (PySem.DictEntry.mk (PySem.PyData.keyHash P (PySem.Str.ofString "least_window")) (PySem.Value.str (PySem.Str.ofString "least_window") 219) (PySem.Value.ref 35)), (PySem.DictEntry.mk (PySem.PyData.keyHash P (PySem.Str.ofString "NewReno")) (PySem.Value.str (PySem.Str.ofString "NewReno") 339) (PySem.Value.ref 122)), (PySem.DictEntry.mk (PySem.PyData.keyHash P (PySem.Str.ofString "BETA_TOP")) (PySem.Value.str (PySem.Str.ofString "BETA_TOP") 343) (PySem.Value.int 7 342)), (PySem.DictEntry.mk (PySem.PyData.keyHash P (PySem.Str.ofString "BETA_BOTTOM")) (PySem.Value.str (PySem.Str.ofString "BETA_BOTTOM") 345) (PySem.Value.int 10 344)), (PySem.DictEntry.mk (PySem.PyData.keyHash P (PySem.Str.ofString "C_TOP")) (PySem.Value.str (PySem.Str.ofString "C_TOP") 347) (PySem.Value.int 2 346)), (PySem.DictEntry.mk (PySem.PyData.keyHash P (PySem.Str.ofString "C_BOTTOM")) (PySem.Value.str (PySem.Str.ofString "C_BOTTOM") 349) (PySem.Value.int 5 348)), (PySem.DictEntry.mk (PySem.PyData.keyHash P (PySem.Str.ofString "SECOND")) (PySem.Value.str (PySem.Str.ofString "SECOND") 351) (PySem.Value.int 1000000 350)), (PySem.DictEntry.mk (PySem.PyData.keyHash P (PySem.Str.ofString "FRIENDLY_TOP")) (PySem.Value.str (PySem.Str.ofString "FRIENDLY_TOP") 353) (PySem.Value.int 9 352)), (PySem.DictEntry.mk (PySem.PyData.keyHash P (PySem.Str.ofString "FRIENDLY_BOTTOM")) (PySem.Value.str (PySem.Str.ofString "FRIENDLY_BOTTOM") 355) (PySem.Value.int 17 354)), (PySem.DictEntry.mk (PySem.PyData.keyHash P (PySem.Str.ofString "cube_root")) (PySem.Value.str (PySem.Str.ofString "cube_root") 365) (PySem.Value.ref 133)), (PySem.DictEntry.mk (PySem.PyData.keyHash P (PySem.Str.ofString "cubic_time")) (PySem.Value.str (PySem.Str.ofString "cubic_time") 374) (PySem.Value.ref 140)), (PySem.DictEntry.mk (PySem.PyData.keyHash P (PySem.Str.ofString "cubic_window")) (PySem.Value.str (PySem.Str.ofString "cubic_window") 386) (PySem.Value.ref 147)), (PySem.DictEntry.mk (PySem.PyData.keyHash P (PySem.Str.ofString "Cubic")) (PySem.Value.str (PySem.Str.ofString "Cubic") 479) (PySem.Value.ref 206)), (PySem.DictEntry.mk (PySem.PyData.keyHash P (PySem.Str.ofString "_law_take")) (PySem.Value.str (PySem.Str.ofString "_law_take") 489) (PySem.Value.ref 215)), (PySem.DictEntry.mk (PySem.PyData.keyHash P (PySem.Str.ofString "_law_box")) (PySem.Value.str (PySem.Str.ofString "_law_box") 498) (PySem.Value.ref 222)), (PySem.DictEntry.mk (PySem.PyData.keyHash P (PySem.Str.ofString "_law_growth_right")) (PySem.Value.str (PySem.Str.ofString "_law_growth_right") 514) (PySem.Value.ref 229)), (PySem.DictEntry.mk (PySem.PyData.keyHash P (PySem.Str.ofString "_law_acked")) (PySem.Value.str (PySem.Str.ofString "_law_acked") 530) (PySem.Value.ref 236)), (PySem.DictEntry.mk (PySem.PyData.keyHash P (PySem.Str.ofString "_law_congestion")) (PySem.Value.str (PySem.Str.ofString "_law_congestion") 544) (PySem.Value.ref 243)), (PySem.DictEntry.mk (PySem.PyData.keyHash P (PySem.Str.ofString "law")) (PySem.Value.str (PySem.Str.ofString "law") 559) (PySem.Value.ref 250))] 35) #[])
noncomputable abbrev o12v5 (_ : Params) : Obj := (PySem.Obj.mk PySem.Value.none none (PySem.Data.fields #[(PySem.Value.int 1 0), (PySem.Value.int 0 0), (PySem.Value.ref 20), (PySem.Value.int 10 0), (PySem.Value.int 0 0), (PySem.Value.ref 27), (PySem.Value.int 12 0), (PySem.Value.int 0 0), (PySem.Value.ref 34), (PySem.Value.int 14 0), (PySem.Value.int 0 0), (PySem.Value.ref 41), (PySem.Value.int 77 0), (PySem.Value.int 0 0), (PySem.Value.ref 132), (PySem.Value.int 88 0), (PySem.Value.int 0 0), (PySem.Value.ref 139), (PySem.Value.int 92 0), (PySem.Value.int 0 0), (PySem.Value.ref 146), (PySem.Value.int 96 0), (PySem.Value.int 0 0), (PySem.Value.ref 153), (PySem.Value.int 164 0), (PySem.Value.int 0 0), (PySem.Value.ref 214), (PySem.Value.int 169 0), (PySem.Value.int 0 0), (PySem.Value.ref 221), (PySem.Value.int 173 0), (PySem.Value.int 0 0), (PySem.Value.ref 228), (PySem.Value.int 190 0), (PySem.Value.int 0 0), (PySem.Value.ref 235), (PySem.Value.int 202 0), (PySem.Value.int 0 0), (PySem.Value.ref 242), (PySem.Value.int 210 0), (PySem.Value.int 0 0), (PySem.Value.ref 249)]) #[])
noncomputable abbrev o209 (_ : Params) : Obj := (PySem.Obj.mk (PySem.Value.type "tuple") none (PySem.Data.seq #[] 0) #[])
noncomputable abbrev o210 (_ : Params) : Obj := (PySem.Obj.mk PySem.Value.none none (PySem.Data.fields #[]) #[])
noncomputable abbrev o211 (_ : Params) : Obj := (PySem.Obj.mk (PySem.Value.type "tuple") none (PySem.Data.seq #[(PySem.Value.str (PySem.Str.ofString "box") 485), (PySem.Value.str (PySem.Str.ofString "wide") 486)] 0) #[])
noncomputable abbrev o212 (_ : Params) : Obj := (PySem.Obj.mk (PySem.Value.type "tuple") none (PySem.Data.seq #[] 0) #[])
noncomputable abbrev o213 (_ : Params) : Obj := (PySem.Obj.mk PySem.Value.none none (PySem.Data.func (PySem.FuncData.mk (PySem.Str.ofString "_law_take") (PySem.Str.ofString "_law_take") (argsOf (st 23)) (PySem.FuncBody.stmts (bodyOf (st 23))) (scopeOf (st 23)) 0 [] PySem.Value.none PySem.Value.none PySem.Value.none PySem.Value.none none PySem.Value.none PySem.Value.none 0)) #[])
noncomputable abbrev o214 (_ : Params) : Obj := (PySem.Obj.mk (PySem.Value.type "code") none (PySem.Data.fields #[(PySem.Value.str (PySem.Str.ofString "_law_take") 482), (PySem.Value.str (PySem.Str.ofString "_law_take") 483), (PySem.Value.str (PySem.Str.ofString "/claim/cut.py") 484), (PySem.Value.int 164 0), (PySem.Value.int 2 0), (PySem.Value.int 0 0), (PySem.Value.int 0 0), (PySem.Value.int 3 0), (PySem.Value.ref 209), (PySem.Value.bool Bool.true), (PySem.Value.int 181 0), (PySem.Value.ref 210), PySem.Value.none, (PySem.Value.ref 211), (PySem.Value.ref 212), (PySem.Value.ref 213), (PySem.Value.int 487 0), (PySem.Value.int 164 0), (PySem.Value.str (PySem.Str.ofString "/claim/cut.py") 488)]) #[])
noncomputable abbrev o215 (_ : Params) : Obj := (PySem.Obj.mk (PySem.Value.type "function") none (PySem.Data.func (PySem.FuncData.mk (PySem.Str.ofString "_law_take") (PySem.Str.ofString "_law_take") (argsOf (st 23)) (PySem.FuncBody.stmts (bodyOf (st 23))) (scopeOf (st 23)) 3 [] PySem.Value.none PySem.Value.none PySem.Value.none (PySem.Value.str (PySem.Str.ofString "law_no0074_01") 480) none (PySem.Value.ref 214) PySem.Value.none 0)) #[])
noncomputable abbrev o216 (_ : Params) : Obj := (PySem.Obj.mk (PySem.Value.type "tuple") none (PySem.Data.seq #[] 0) #[])
noncomputable abbrev o217 (_ : Params) : Obj := (PySem.Obj.mk PySem.Value.none none (PySem.Data.fields #[]) #[])
noncomputable abbrev o218 (_ : Params) : Obj := (PySem.Obj.mk (PySem.Value.type "tuple") none (PySem.Data.seq #[(PySem.Value.str (PySem.Str.ofString "script") 493), (PySem.Value.str (PySem.Str.ofString "seed_here") 494), (PySem.Value.str (PySem.Str.ofString "one") 495)] 0) #[])
noncomputable abbrev o219 (_ : Params) : Obj := (PySem.Obj.mk (PySem.Value.type "tuple") none (PySem.Data.seq #[] 0) #[])
noncomputable abbrev o220 (_ : Params) : Obj := (PySem.Obj.mk PySem.Value.none none (PySem.Data.func (PySem.FuncData.mk (PySem.Str.ofString "_law_box") (PySem.Str.ofString "_law_box") (argsOf (st 24)) (PySem.FuncBody.stmts (bodyOf (st 24))) (scopeOf (st 24)) 0 [] PySem.Value.none PySem.Value.none PySem.Value.none PySem.Value.none none PySem.Value.none PySem.Value.none 0)) #[])
noncomputable abbrev o221 (_ : Params) : Obj := (PySem.Obj.mk (PySem.Value.type "code") none (PySem.Data.fields #[(PySem.Value.str (PySem.Str.ofString "_law_box") 490), (PySem.Value.str (PySem.Str.ofString "_law_box") 491), (PySem.Value.str (PySem.Str.ofString "/claim/cut.py") 492), (PySem.Value.int 169 0), (PySem.Value.int 2 0), (PySem.Value.int 0 0), (PySem.Value.int 0 0), (PySem.Value.int 3 0), (PySem.Value.ref 216), (PySem.Value.bool Bool.true), (PySem.Value.int 181 0), (PySem.Value.ref 217), PySem.Value.none, (PySem.Value.ref 218), (PySem.Value.ref 219), (PySem.Value.ref 220), (PySem.Value.int 496 0), (PySem.Value.int 169 0), (PySem.Value.str (PySem.Str.ofString "/claim/cut.py") 497)]) #[])
noncomputable abbrev o222 (_ : Params) : Obj := (PySem.Obj.mk (PySem.Value.type "function") none (PySem.Data.func (PySem.FuncData.mk (PySem.Str.ofString "_law_box") (PySem.Str.ofString "_law_box") (argsOf (st 24)) (PySem.FuncBody.stmts (bodyOf (st 24))) (scopeOf (st 24)) 3 [] PySem.Value.none PySem.Value.none PySem.Value.none (PySem.Value.str (PySem.Str.ofString "law_no0074_01") 480) none (PySem.Value.ref 221) PySem.Value.none 0)) #[])
noncomputable abbrev o223 (_ : Params) : Obj := (PySem.Obj.mk (PySem.Value.type "tuple") none (PySem.Data.seq #[] 0) #[])
noncomputable abbrev o224 (_ : Params) : Obj := (PySem.Obj.mk PySem.Value.none none (PySem.Data.fields #[]) #[])
noncomputable abbrev o225 (_ : Params) : Obj := (PySem.Obj.mk (PySem.Value.type "tuple") none (PySem.Data.seq #[(PySem.Value.str (PySem.Str.ofString "box") 502), (PySem.Value.str (PySem.Str.ofString "datagram") 503), (PySem.Value.str (PySem.Str.ofString "present") 504), (PySem.Value.str (PySem.Str.ofString "top") 505), (PySem.Value.str (PySem.Str.ofString "meets") 506), (PySem.Value.str (PySem.Str.ofString "scale") 507), (PySem.Value.str (PySem.Str.ofString "goal") 508), (PySem.Value.str (PySem.Str.ofString "at") 509), (PySem.Value.str (PySem.Str.ofString "value") 510), (PySem.Value.str (PySem.Str.ofString "apart") 511)] 0) #[])
noncomputable abbrev o226 (_ : Params) : Obj := (PySem.Obj.mk (PySem.Value.type "tuple") none (PySem.Data.seq #[] 0) #[])
noncomputable abbrev o227 (_ : Params) : Obj := (PySem.Obj.mk PySem.Value.none none (PySem.Data.func (PySem.FuncData.mk (PySem.Str.ofString "_law_growth_right") (PySem.Str.ofString "_law_growth_right") (argsOf (st 25)) (PySem.FuncBody.stmts (bodyOf (st 25))) (scopeOf (st 25)) 0 [] PySem.Value.none PySem.Value.none PySem.Value.none PySem.Value.none none PySem.Value.none PySem.Value.none 0)) #[])
noncomputable abbrev o228 (_ : Params) : Obj := (PySem.Obj.mk (PySem.Value.type "code") none (PySem.Data.fields #[(PySem.Value.str (PySem.Str.ofString "_law_growth_right") 499), (PySem.Value.str (PySem.Str.ofString "_law_growth_right") 500), (PySem.Value.str (PySem.Str.ofString "/claim/cut.py") 501), (PySem.Value.int 173 0), (PySem.Value.int 1 0), (PySem.Value.int 0 0), (PySem.Value.int 0 0), (PySem.Value.int 3 0), (PySem.Value.ref 223), (PySem.Value.bool Bool.true), (PySem.Value.int 181 0), (PySem.Value.ref 224), PySem.Value.none, (PySem.Value.ref 225), (PySem.Value.ref 226), (PySem.Value.ref 227), (PySem.Value.int 512 0), (PySem.Value.int 173 0), (PySem.Value.str (PySem.Str.ofString "/claim/cut.py") 513)]) #[])
noncomputable abbrev o229 (_ : Params) : Obj := (PySem.Obj.mk (PySem.Value.type "function") none (PySem.Data.func (PySem.FuncData.mk (PySem.Str.ofString "_law_growth_right") (PySem.Str.ofString "_law_growth_right") (argsOf (st 25)) (PySem.FuncBody.stmts (bodyOf (st 25))) (scopeOf (st 25)) 3 [] PySem.Value.none PySem.Value.none PySem.Value.none (PySem.Value.str (PySem.Str.ofString "law_no0074_01") 480) none (PySem.Value.ref 228) PySem.Value.none 0)) #[])
noncomputable abbrev o230 (_ : Params) : Obj := (PySem.Obj.mk (PySem.Value.type "tuple") none (PySem.Data.seq #[] 0) #[])
noncomputable abbrev o231 (_ : Params) : Obj := (PySem.Obj.mk PySem.Value.none none (PySem.Data.fields #[]) #[])
noncomputable abbrev o232 (_ : Params) : Obj := (PySem.Obj.mk (PySem.Value.type "tuple") none (PySem.Data.seq #[(PySem.Value.str (PySem.Str.ofString "sender") 518), (PySem.Value.str (PySem.Str.ofString "size") 519), (PySem.Value.str (PySem.Str.ofString "sent_at") 520), (PySem.Value.str (PySem.Str.ofString "is_limited") 521), (PySem.Value.str (PySem.Str.ofString "now") 522), (PySem.Value.str (PySem.Str.ofString "smoothed") 523), (PySem.Value.str (PySem.Str.ofString "before") 524), (PySem.Value.str (PySem.Str.ofString "flying") 525), (PySem.Value.str (PySem.Str.ofString "is_still") 526), (PySem.Value.str (PySem.Str.ofString "is_slow") 527)] 0) #[])
noncomputable abbrev o233 (_ : Params) : Obj := (PySem.Obj.mk (PySem.Value.type "tuple") none (PySem.Data.seq #[] 0) #[])
noncomputable abbrev o234 (_ : Params) : Obj := (PySem.Obj.mk PySem.Value.none none (PySem.Data.func (PySem.FuncData.mk (PySem.Str.ofString "_law_acked") (PySem.Str.ofString "_law_acked") (argsOf (st 26)) (PySem.FuncBody.stmts (bodyOf (st 26))) (scopeOf (st 26)) 0 [] PySem.Value.none PySem.Value.none PySem.Value.none PySem.Value.none none PySem.Value.none PySem.Value.none 0)) #[])
noncomputable abbrev o235 (_ : Params) : Obj := (PySem.Obj.mk (PySem.Value.type "code") none (PySem.Data.fields #[(PySem.Value.str (PySem.Str.ofString "_law_acked") 515), (PySem.Value.str (PySem.Str.ofString "_law_acked") 516), (PySem.Value.str (PySem.Str.ofString "/claim/cut.py") 517), (PySem.Value.int 190 0), (PySem.Value.int 6 0), (PySem.Value.int 0 0), (PySem.Value.int 0 0), (PySem.Value.int 3 0), (PySem.Value.ref 230), (PySem.Value.bool Bool.true), (PySem.Value.int 181 0), (PySem.Value.ref 231), PySem.Value.none, (PySem.Value.ref 232), (PySem.Value.ref 233), (PySem.Value.ref 234), (PySem.Value.int 528 0), (PySem.Value.int 190 0), (PySem.Value.str (PySem.Str.ofString "/claim/cut.py") 529)]) #[])
noncomputable abbrev o236 (_ : Params) : Obj := (PySem.Obj.mk (PySem.Value.type "function") none (PySem.Data.func (PySem.FuncData.mk (PySem.Str.ofString "_law_acked") (PySem.Str.ofString "_law_acked") (argsOf (st 26)) (PySem.FuncBody.stmts (bodyOf (st 26))) (scopeOf (st 26)) 3 [] PySem.Value.none PySem.Value.none PySem.Value.none (PySem.Value.str (PySem.Str.ofString "law_no0074_01") 480) none (PySem.Value.ref 235) PySem.Value.none 0)) #[])
noncomputable abbrev o237 (_ : Params) : Obj := (PySem.Obj.mk (PySem.Value.type "tuple") none (PySem.Data.seq #[] 0) #[])
noncomputable abbrev o238 (_ : Params) : Obj := (PySem.Obj.mk PySem.Value.none none (PySem.Data.fields #[]) #[])
noncomputable abbrev o239 (_ : Params) : Obj := (PySem.Obj.mk (PySem.Value.type "tuple") none (PySem.Data.seq #[(PySem.Value.str (PySem.Str.ofString "sender") 534), (PySem.Value.str (PySem.Str.ofString "sent_at") 535), (PySem.Value.str (PySem.Str.ofString "now") 536), (PySem.Value.str (PySem.Str.ofString "before") 537), (PySem.Value.str (PySem.Str.ofString "top") 538), (PySem.Value.str (PySem.Str.ofString "recovery") 539), (PySem.Value.str (PySem.Str.ofString "due") 540), (PySem.Value.str (PySem.Str.ofString "lowered") 541)] 0) #[])
noncomputable abbrev o240 (_ : Params) : Obj := (PySem.Obj.mk (PySem.Value.type "tuple") none (PySem.Data.seq #[] 0) #[])
noncomputable abbrev o241 (_ : Params) : Obj := (PySem.Obj.mk PySem.Value.none none (PySem.Data.func (PySem.FuncData.mk (PySem.Str.ofString "_law_congestion") (PySem.Str.ofString "_law_congestion") (argsOf (st 27)) (PySem.FuncBody.stmts (bodyOf (st 27))) (scopeOf (st 27)) 0 [] PySem.Value.none PySem.Value.none PySem.Value.none PySem.Value.none none PySem.Value.none PySem.Value.none 0)) #[])
noncomputable abbrev o242 (_ : Params) : Obj := (PySem.Obj.mk (PySem.Value.type "code") none (PySem.Data.fields #[(PySem.Value.str (PySem.Str.ofString "_law_congestion") 531), (PySem.Value.str (PySem.Str.ofString "_law_congestion") 532), (PySem.Value.str (PySem.Str.ofString "/claim/cut.py") 533), (PySem.Value.int 202 0), (PySem.Value.int 3 0), (PySem.Value.int 0 0), (PySem.Value.int 0 0), (PySem.Value.int 3 0), (PySem.Value.ref 237), (PySem.Value.bool Bool.true), (PySem.Value.int 181 0), (PySem.Value.ref 238), PySem.Value.none, (PySem.Value.ref 239), (PySem.Value.ref 240), (PySem.Value.ref 241), (PySem.Value.int 542 0), (PySem.Value.int 202 0), (PySem.Value.str (PySem.Str.ofString "/claim/cut.py") 543)]) #[])
noncomputable abbrev o243 (_ : Params) : Obj := (PySem.Obj.mk (PySem.Value.type "function") none (PySem.Data.func (PySem.FuncData.mk (PySem.Str.ofString "_law_congestion") (PySem.Str.ofString "_law_congestion") (argsOf (st 27)) (PySem.FuncBody.stmts (bodyOf (st 27))) (scopeOf (st 27)) 3 [] PySem.Value.none PySem.Value.none PySem.Value.none (PySem.Value.str (PySem.Str.ofString "law_no0074_01") 480) none (PySem.Value.ref 242) PySem.Value.none 0)) #[])
noncomputable abbrev o244 (_ : Params) : Obj := (PySem.Obj.mk (PySem.Value.type "tuple") none (PySem.Data.seq #[] 0) #[])
noncomputable abbrev o245 (_ : Params) : Obj := (PySem.Obj.mk PySem.Value.none none (PySem.Data.fields #[]) #[])
noncomputable abbrev o246 (_ : Params) : Obj := (PySem.Obj.mk (PySem.Value.type "tuple") none (PySem.Data.seq #[(PySem.Value.str (PySem.Str.ofString "script") 548), (PySem.Value.str (PySem.Str.ofString "box") 549), (PySem.Value.str (PySem.Str.ofString "number") 550), (PySem.Value.str (PySem.Str.ofString "root") 551), (PySem.Value.str (PySem.Str.ofString "sender") 552), (PySem.Value.str (PySem.Str.ofString "now") 553), (PySem.Value.str (PySem.Str.ofString "turn") 554), (PySem.Value.str (PySem.Str.ofString "form") 555), (PySem.Value.str (PySem.Str.ofString "sent_at") 556)] 0) #[])
noncomputable abbrev o247 (_ : Params) : Obj := (PySem.Obj.mk (PySem.Value.type "tuple") none (PySem.Data.seq #[] 0) #[])
noncomputable abbrev o248 (_ : Params) : Obj := (PySem.Obj.mk PySem.Value.none none (PySem.Data.func (PySem.FuncData.mk (PySem.Str.ofString "law") (PySem.Str.ofString "law") (argsOf (st 28)) (PySem.FuncBody.stmts (bodyOf (st 28))) (scopeOf (st 28)) 0 [] PySem.Value.none PySem.Value.none PySem.Value.none PySem.Value.none none PySem.Value.none PySem.Value.none 0)) #[])
noncomputable abbrev o249 (_ : Params) : Obj := (PySem.Obj.mk (PySem.Value.type "code") none (PySem.Data.fields #[(PySem.Value.str (PySem.Str.ofString "law") 545), (PySem.Value.str (PySem.Str.ofString "law") 546), (PySem.Value.str (PySem.Str.ofString "/claim/cut.py") 547), (PySem.Value.int 210 0), (PySem.Value.int 1 0), (PySem.Value.int 0 0), (PySem.Value.int 0 0), (PySem.Value.int 3 0), (PySem.Value.ref 244), (PySem.Value.bool Bool.true), (PySem.Value.int 181 0), (PySem.Value.ref 245), PySem.Value.none, (PySem.Value.ref 246), (PySem.Value.ref 247), (PySem.Value.ref 248), (PySem.Value.int 557 0), (PySem.Value.int 210 0), (PySem.Value.str (PySem.Str.ofString "/claim/cut.py") 558)]) #[])
noncomputable abbrev o250 (_ : Params) : Obj := (PySem.Obj.mk (PySem.Value.type "function") none (PySem.Data.func (PySem.FuncData.mk (PySem.Str.ofString "law") (PySem.Str.ofString "law") (argsOf (st 28)) (PySem.FuncBody.stmts (bodyOf (st 28))) (scopeOf (st 28)) 3 [] PySem.Value.none PySem.Value.none PySem.Value.none (PySem.Value.str (PySem.Str.ofString "law_no0074_01") 480) none (PySem.Value.ref 249) PySem.Value.none 0)) #[])
noncomputable abbrev tree5 (P : Params) : BT := .node (o0 P) (.node (o1 P) (.node (o3v5 P) (.node (o7 P) (.node (o15 P) (.node (o31 P) (.node (o63 P) (.node (o127 P) .nil .nil) (.node (o191 P) .nil .nil)) (.node (o95 P) (.node (o159 P) .nil .nil) (.node (o223 P) .nil .nil))) (.node (o47 P) (.node (o79 P) (.node (o143 P) .nil .nil) (.node (o207 P) .nil .nil)) (.node (o111 P) (.node (o175 P) .nil .nil) (.node (o239 P) .nil .nil)))) (.node (o23 P) (.node (o39 P) (.node (o71 P) (.node (o135 P) .nil .nil) (.node (o199 P) .nil .nil)) (.node (o103 P) (.node (o167 P) .nil .nil) (.node (o231 P) .nil .nil))) (.node (o55 P) (.node (o87 P) (.node (o151 P) .nil .nil) (.node (o215 P) .nil .nil)) (.node (o119 P) (.node (o183 P) .nil .nil) (.node (o247 P) .nil .nil))))) (.node (o11 P) (.node (o19 P) (.node (o35 P) (.node (o67 P) (.node (o131 P) .nil .nil) (.node (o195 P) .nil .nil)) (.node (o99 P) (.node (o163 P) .nil .nil) (.node (o227 P) .nil .nil))) (.node (o51 P) (.node (o83 P) (.node (o147 P) .nil .nil) (.node (o211 P) .nil .nil)) (.node (o115 P) (.node (o179 P) .nil .nil) (.node (o243 P) .nil .nil)))) (.node (o27 P) (.node (o43 P) (.node (o75 P) (.node (o139 P) .nil .nil) (.node (o203 P) .nil .nil)) (.node (o107 P) (.node (o171 P) .nil .nil) (.node (o235 P) .nil .nil))) (.node (o59 P) (.node (o91 P) (.node (o155 P) .nil .nil) (.node (o219 P) .nil .nil)) (.node (o123 P) (.node (o187 P) .nil .nil) .nil))))) (.node (o5 P) (.node (o9 P) (.node (o17 P) (.node (o33 P) (.node (o65 P) (.node (o129 P) .nil .nil) (.node (o193 P) .nil .nil)) (.node (o97 P) (.node (o161 P) .nil .nil) (.node (o225 P) .nil .nil))) (.node (o49 P) (.node (o81 P) (.node (o145 P) .nil .nil) (.node (o209 P) .nil .nil)) (.node (o113 P) (.node (o177 P) .nil .nil) (.node (o241 P) .nil .nil)))) (.node (o25 P) (.node (o41 P) (.node (o73 P) (.node (o137 P) .nil .nil) (.node (o201 P) .nil .nil)) (.node (o105 P) (.node (o169 P) .nil .nil) (.node (o233 P) .nil .nil))) (.node (o57 P) (.node (o89 P) (.node (o153 P) .nil .nil) (.node (o217 P) .nil .nil)) (.node (o121 P) (.node (o185 P) .nil .nil) (.node (o249 P) .nil .nil))))) (.node (o13 P) (.node (o21 P) (.node (o37 P) (.node (o69 P) (.node (o133 P) .nil .nil) (.node (o197 P) .nil .nil)) (.node (o101 P) (.node (o165 P) .nil .nil) (.node (o229 P) .nil .nil))) (.node (o53 P) (.node (o85 P) (.node (o149 P) .nil .nil) (.node (o213 P) .nil .nil)) (.node (o117 P) (.node (o181 P) .nil .nil) (.node (o245 P) .nil .nil)))) (.node (o29 P) (.node (o45 P) (.node (o77 P) (.node (o141 P) .nil .nil) (.node (o205 P) .nil .nil)) (.node (o109 P) (.node (o173 P) .nil .nil) (.node (o237 P) .nil .nil))) (.node (o61 P) (.node (o93 P) (.node (o157 P) .nil .nil) (.node (o221 P) .nil .nil)) (.node (o125 P) (.node (o189 P) .nil .nil) .nil)))))) (.node (o2 P) (.node (o4 P) (.node (o8 P) (.node (o16 P) (.node (o32 P) (.node (o64 P) (.node (o128 P) .nil .nil) (.node (o192 P) .nil .nil)) (.node (o96 P) (.node (o160 P) .nil .nil) (.node (o224 P) .nil .nil))) (.node (o48 P) (.node (o80 P) (.node (o144 P) .nil .nil) (.node (o208 P) .nil .nil)) (.node (o112 P) (.node (o176 P) .nil .nil) (.node (o240 P) .nil .nil)))) (.node (o24 P) (.node (o40 P) (.node (o72 P) (.node (o136 P) .nil .nil) (.node (o200 P) .nil .nil)) (.node (o104 P) (.node (o168 P) .nil .nil) (.node (o232 P) .nil .nil))) (.node (o56 P) (.node (o88 P) (.node (o152 P) .nil .nil) (.node (o216 P) .nil .nil)) (.node (o120 P) (.node (o184 P) .nil .nil) (.node (o248 P) .nil .nil))))) (.node (o12v5 P) (.node (o20 P) (.node (o36 P) (.node (o68 P) (.node (o132 P) .nil .nil) (.node (o196 P) .nil .nil)) (.node (o100 P) (.node (o164 P) .nil .nil) (.node (o228 P) .nil .nil))) (.node (o52 P) (.node (o84 P) (.node (o148 P) .nil .nil) (.node (o212 P) .nil .nil)) (.node (o116 P) (.node (o180 P) .nil .nil) (.node (o244 P) .nil .nil)))) (.node (o28 P) (.node (o44 P) (.node (o76 P) (.node (o140 P) .nil .nil) (.node (o204 P) .nil .nil)) (.node (o108 P) (.node (o172 P) .nil .nil) (.node (o236 P) .nil .nil))) (.node (o60 P) (.node (o92 P) (.node (o156 P) .nil .nil) (.node (o220 P) .nil .nil)) (.node (o124 P) (.node (o188 P) .nil .nil) .nil))))) (.node (o6 P) (.node (o10 P) (.node (o18 P) (.node (o34 P) (.node (o66 P) (.node (o130 P) .nil .nil) (.node (o194 P) .nil .nil)) (.node (o98 P) (.node (o162 P) .nil .nil) (.node (o226 P) .nil .nil))) (.node (o50 P) (.node (o82 P) (.node (o146 P) .nil .nil) (.node (o210 P) .nil .nil)) (.node (o114 P) (.node (o178 P) .nil .nil) (.node (o242 P) .nil .nil)))) (.node (o26 P) (.node (o42 P) (.node (o74 P) (.node (o138 P) .nil .nil) (.node (o202 P) .nil .nil)) (.node (o106 P) (.node (o170 P) .nil .nil) (.node (o234 P) .nil .nil))) (.node (o58 P) (.node (o90 P) (.node (o154 P) .nil .nil) (.node (o218 P) .nil .nil)) (.node (o122v1 P) (.node (o186 P) .nil .nil) (.node (o250 P) .nil .nil))))) (.node (o14 P) (.node (o22 P) (.node (o38 P) (.node (o70 P) (.node (o134 P) .nil .nil) (.node (o198 P) .nil .nil)) (.node (o102 P) (.node (o166 P) .nil .nil) (.node (o230 P) .nil .nil))) (.node (o54 P) (.node (o86 P) (.node (o150 P) .nil .nil) (.node (o214 P) .nil .nil)) (.node (o118 P) (.node (o182 P) .nil .nil) (.node (o246 P) .nil .nil)))) (.node (o30 P) (.node (o46 P) (.node (o78 P) (.node (o142 P) .nil .nil) (.node (o206 P) .nil .nil)) (.node (o110 P) (.node (o174 P) .nil .nil) (.node (o238 P) .nil .nil))) (.node (o62 P) (.node (o94 P) (.node (o158 P) .nil .nil) (.node (o222 P) .nil .nil)) (.node (o126 P) (.node (o190 P) .nil .nil) .nil))))))
abbrev pos5 : Pos := (PySem.Pos.mk 210 0 235 15)
noncomputable abbrev state5 (w : World) (os : OsState) : SharedT := ⟨tree5 w.params, 251, (PySem.Life.mk [] [] [] 0 [] [] Bool.false #[] [] 0 Bool.false Bool.false Bool.false 0 [2000, 10, 10] Bool.false 0 Bool.true [] [] 0 Bool.false), #[], (PySem.Drawn.mk 0 0 0 0), 560, os⟩
abbrev steps5 : Nat := 220
noncomputable abbrev heapEnd (P : Params) : Heap := ⟨#[o0 P, o1 P, o2 P, o3v5 P, o4 P, o5 P, o6 P, o7 P, o8 P, o9 P, o10 P, o11 P, o12v5 P, o13 P, o14 P, o15 P, o16 P, o17 P, o18 P, o19 P, o20 P, o21 P, o22 P, o23 P, o24 P, o25 P, o26 P, o27 P, o28 P, o29 P, o30 P, o31 P, o32 P, o33 P, o34 P, o35 P, o36 P, o37 P, o38 P, o39 P, o40 P, o41 P, o42 P, o43 P, o44 P, o45 P, o46 P, o47 P, o48 P, o49 P, o50 P, o51 P, o52 P, o53 P, o54 P, o55 P, o56 P, o57 P, o58 P, o59 P, o60 P, o61 P, o62 P, o63 P, o64 P, o65 P, o66 P, o67 P, o68 P, o69 P, o70 P, o71 P, o72 P, o73 P, o74 P, o75 P, o76 P, o77 P, o78 P, o79 P, o80 P, o81 P, o82 P, o83 P, o84 P, o85 P, o86 P, o87 P, o88 P, o89 P, o90 P, o91 P, o92 P, o93 P, o94 P, o95 P, o96 P, o97 P, o98 P, o99 P, o100 P, o101 P, o102 P, o103 P, o104 P, o105 P, o106 P, o107 P, o108 P, o109 P, o110 P, o111 P, o112 P, o113 P, o114 P, o115 P, o116 P, o117 P, o118 P, o119 P, o120 P, o121 P, o122v1 P, o123 P, o124 P, o125 P, o126 P, o127 P, o128 P, o129 P, o130 P, o131 P, o132 P, o133 P, o134 P, o135 P, o136 P, o137 P, o138 P, o139 P, o140 P, o141 P, o142 P, o143 P, o144 P, o145 P, o146 P, o147 P, o148 P, o149 P, o150 P, o151 P, o152 P, o153 P, o154 P, o155 P, o156 P, o157 P, o158 P, o159 P, o160 P, o161 P, o162 P, o163 P, o164 P, o165 P, o166 P, o167 P, o168 P, o169 P, o170 P, o171 P, o172 P, o173 P, o174 P, o175 P, o176 P, o177 P, o178 P, o179 P, o180 P, o181 P, o182 P, o183 P, o184 P, o185 P, o186 P, o187 P, o188 P, o189 P, o190 P, o191 P, o192 P, o193 P, o194 P, o195 P, o196 P, o197 P, o198 P, o199 P, o200 P, o201 P, o202 P, o203 P, o204 P, o205 P, o206 P, o207 P, o208 P, o209 P, o210 P, o211 P, o212 P, o213 P, o214 P, o215 P, o216 P, o217 P, o218 P, o219 P, o220 P, o221 P, o222 P, o223 P, o224 P, o225 P, o226 P, o227 P, o228 P, o229 P, o230 P, o231 P, o232 P, o233 P, o234 P, o235 P, o236 P, o237 P, o238 P, o239 P, o240 P, o241 P, o242 P, o243 P, o244 P, o245 P, o246 P, o247 P, o248 P, o249 P, o250 P], (PySem.Life.mk [] [] [] 0 [] [] Bool.false #[] [] 0 Bool.false Bool.false Bool.false 0 [2000, 10, 10] Bool.false 0 Bool.true [] [] 0 Bool.false)⟩
noncomputable abbrev heapPre (P : Params) : Heap := ⟨#[o0 P, o1 P, o2 P, o3 P, o4 P, o5 P, o6 P, o7 P, o8 P, o9 P, o10 P, o11 P, o12 P, o13 P, o14 P], (PySem.Life.mk [] [] [] 0 [] [] Bool.false #[] [] 0 Bool.false Bool.false Bool.false 0 [2000, 10, 10] Bool.false 0 Bool.true [] [] 0 Bool.false)⟩
abbrev stepsPre : Nat := 12
abbrev stepsEnd : Nat := 2
abbrev toksPre : Nat := 187
abbrev toksEnd : Nat := 560
abbrev posPre : Pos := (PySem.Pos.mk 0 0 0 0)
abbrev posFrame : Pos := (PySem.Pos.mk 0 0 0 0)
abbrev codeV : Value := (PySem.Value.ref 13)
abbrev frameA : Addr := 14
abbrev size0 : Nat := 11
abbrev ann0 : Option Value := (some (PySem.Value.ref 6))
abbrev drawnEnd : Drawn := (PySem.Drawn.mk 0 0 0 0)
end H
end

section
namespace H
noncomputable abbrev env : Env := { scope := pw.main.scope, locals := mainNs, globals := mainNs, cells := [], code := codeV, frame := some frameA }
noncomputable abbrev body : List Stmt := behindTheImports pw
noncomputable abbrev code : Code := .body body env
noncomputable abbrev B : List Frame := [topFrame posFrame]
noncomputable abbrev sts1 : List Stmt := body.take 9
noncomputable abbrev sts2 : List Stmt := (body.drop 9).take 1
noncomputable abbrev sts3 : List Stmt := (body.drop 10).take 11
noncomputable abbrev sts4 : List Stmt := (body.drop 21).take 1
noncomputable abbrev sts5 : List Stmt := body.drop 22
theorem part1 (w : World) (os : OsState) : segRunT treeTable pw w size0 ann0 1 steps1 (state0 w os) (piecesOf sts1 env code pos0 B) = some (.next, state1 w os, code, pos1) := by first | (rewrite [PySem.W.Fast.te10110043849684766642, PySem.W.Fast.te14364793385576792824]; kernel_rfl!) | kernel_rfl!
theorem part2 (w : World) (os : OsState) : segRunT treeTable pw w size0 ann0 1 steps2 (state1 w os) (piecesOf sts2 env code pos1 B) = some (.next, state2 w os, code, pos2) := by first | (rewrite [PySem.W.Fast.te10110043849684766642, PySem.W.Fast.te14364793385576792824]; kernel_rfl!) | kernel_rfl!
theorem part3 (w : World) (os : OsState) : segRunT treeTable pw w size0 ann0 1 steps3 (state2 w os) (piecesOf sts3 env code pos2 B) = some (.next, state3 w os, code, pos3) := by first | (rewrite [PySem.W.Fast.te10110043849684766642, PySem.W.Fast.te14364793385576792824]; kernel_rfl!) | kernel_rfl!
theorem part4 (w : World) (os : OsState) : segRunT treeTable pw w size0 ann0 1 steps4 (state3 w os) (piecesOf sts4 env code pos3 B) = some (.next, state4 w os, code, pos4) := by first | (rewrite [PySem.W.Fast.te10110043849684766642, PySem.W.Fast.te14364793385576792824]; kernel_rfl!) | kernel_rfl!
theorem part5 (w : World) (os : OsState) : segRunT treeTable pw w size0 ann0 1 steps5 (state4 w os) (piecesOf sts5 env code pos4 B) = some (.next, state5 w os, code, pos5) := by first | (rewrite [PySem.W.Fast.te10110043849684766642, PySem.W.Fast.te14364793385576792824]; kernel_rfl!) | kernel_rfl!
theorem opens : ∀ w : World, (fencedOpening treeTable pw w 3204).map (fun s => (s.heap, s.gens, s.drawn, s.toks)) = some (boot_heap w.params, Array.mk [], boot_drawn, boot_toks) :=
  boot_open (by kernel_rfl!) rfl (fun s => by kernel_rfl!)
theorem size (w : World) : ((boot_heap w.params).isNs mainGlobals && (Array.mk ([] : List GenState)).size == 0, (boot_heap w.params).objs.size, (boot_heap w.params).nsMap mainGlobals "__annotations__") = (true, size0, ann0) := by kernel_rfl!
theorem pre (w : World) (os : OsState) : topGo treeTable pw w size0 ann0 stepsPre ⟨boot_heap w.params, Array.mk [], boot_drawn, boot_toks, os⟩ (topStub pw) = some (⟨heapPre w.params, Array.mk [], drawnEnd, toksPre, os⟩, ⟨denote treeTable code, code, posPre, B⟩) := by kernel_rfl!
theorem block (w : World) (os : OsState) : segRun treeTable pw w size0 ann0 1 steps0 ⟨heapPre w.params, Array.mk [], drawnEnd, toksPre, os⟩ (blockOf body env code posPre B) = some (.next, (state0 w os).abs, code, pos0) := by kernel_rfl!
noncomputable abbrev sEnd (w : World) (os : OsState) : Shared := ⟨heapEnd w.params, Array.mk [], drawnEnd, toksEnd, os⟩
theorem ends (w : World) (os : OsState) : topRun treeTable pw w size0 ann0 stepsEnd (state5 w os).abs ⟨doneF .next, code, pos5, B⟩ = some (sEnd w os) := by kernel_rfl!
theorem body_eq : body = sts1 ++ (sts2 ++ (sts3 ++ (sts4 ++ (sts5 ++ [])))) := by kernel_rfl!
abbrev steps : Nat := stepsPre + (steps0 + (steps1 + (steps2 + (steps3 + (steps4 + (steps5 + stepsEnd))))))
theorem run (w : World) (os : OsState) : topRun treeTable pw w size0 ann0 steps ⟨boot_heap w.params, Array.mk [], boot_drawn, boot_toks, os⟩ (topStub pw) = some (sEnd w os) := by
  refine go_top (pre w os) (piece_block (block w os) ?_)
  refine (congrArg (fun l => topRun treeTable pw w size0 ann0 (steps1 + (steps2 + (steps3 + (steps4 + (steps5 + stepsEnd))))) (state0 w os).abs (restOf l env code pos0 B)) body_eq).trans ?_
  exact piece_app (segRun_of (part1 w os)) (piece_app (segRun_of (part2 w os)) (piece_app (segRun_of (part3 w os)) (piece_app (segRun_of (part4 w os)) (piece_app (segRun_of (part5 w os)) (piece_nil (ends w os))))))
end H
end

section
def view : Program := { PySem.Challenge.pw_no0074_01 with main := { PySem.Challenge.pw_no0074_01.main with body := PySem.Challenge.pw_no0074_01.main.body.filter fun st => match st with
  | .Assign [.Name n _] _ _ => n != Str.ofString "__name__"
  | _ => true } }
namespace H
abbrev Xt : Shared → Bool := fun s => xlAt Mine.view [] s && recOk (RowW.records (OpenRow.toRowW (OpenLaw.row PySem.Challenge.rw_no0074_01))) s
theorem look1 (w : World) (os : OsState) : (staticsOk (importedModules pw.main.body) (boot_heap w.params) (heapEnd w.params) && namesBound pw (heapEnd w.params) && gensDone (sEnd w os) && laidKept (boot_heap w.params) (heapEnd w.params)) = true := by kernel_rfl!
theorem seen1 (w : World) (os : OsState) : seen ((recsOf Mine.view).map (·.name)) (ownsOf Mine.view) [] { sEnd w os with gens := #[] } = expectedOf Mine.view := by first | (rewrite [PySem.W.Fast.te5160383126252970620, PySem.W.Fast.te3399658132070893891, PySem.W.Fast.te5991557255702980513]; kernel_rfl!) | kernel_rfl!
theorem seen2 (w : World) (os : OsState) : (sEnd w os).heap.bltView = bltViewBooted := by kernel_rfl!
theorem seen3 (w : World) (os : OsState) : ((sEnd w os).heap.keysOk (looseW Mine.view []) ((recsOf Mine.view).map (·.name)) ((litsOf Mine.view).map (·.1)) ((clssOf Mine.view (looseW Mine.view [])).map (·.name)) && (sEnd w os).heap.accountedOkI (importedModules pw.main.body) && (sEnd w os).heap.isNs mainGlobals && (sEnd w os).heap.isNs builtinsNs && tablesOk Mine.view (sEnd w os).heap && Xt (sEnd w os) && (sEnd w os).gens.size == 0) = true := by first | (rewrite [PySem.W.Fast.te10880121769531294198, PySem.W.Fast.te821141287760084731, PySem.W.Fast.te3399658132070893891, PySem.W.Fast.te7409074990110511671, PySem.W.Fast.te13664370479719496447, PySem.W.Fast.te14722251495701143533, PySem.W.Fast.te5923862056798008813, PySem.W.Fast.te10994771534591457954]; kernel_rfl!) | kernel_rfl!
theorem seen4 (w : World) (os : OsState) : tabsOk Mine.view (sEnd w os) = true := by first | (rewrite [PySem.W.Fast.te479339242167458305]; kernel_rfl!) | kernel_rfl!
theorem seen5 (w : World) (os : OsState) : pinSeenD Mine.view (drecsOf Mine.view) (sEnd w os) = pinGoodD (drecsOf Mine.view) := by kernel_rfl!
theorem seen6 (w : World) (os : OsState) : plainSeenE Mine.view (looseW Mine.view []) (sEnd w os) = plainGoodE Mine.view (looseW Mine.view []) := by first | (rewrite [PySem.W.Fast.te2386780881361962483, PySem.W.Fast.te821141287760084731]; kernel_rfl!) | kernel_rfl!
theorem seen7 (w : World) (os : OsState) : plainSeenD Mine.view [] (sEnd w os) = plainGoodD Mine.view [] := by kernel_rfl!
theorem seen8 (w : World) (os : OsState) : wideSeen Mine.view (sEnd w os) = wideGood Mine.view := by first | (rewrite [PySem.W.Fast.te7317090234206586261]; kernel_rfl!) | kernel_rfl!
theorem seen9 (w : World) (os : OsState) : clsSeenW Mine.view [] (sEnd w os) = clsGoodW Mine.view [] := by first | (rewrite [PySem.W.Fast.te7369524293546568484]; kernel_rfl!) | kernel_rfl!
theorem look2 (w : World) (os : OsState) : openSeen Mine.view [] (importedModules pw.main.body) Xt true (sEnd w os) = openGood Mine.view [] :=
  looks_pair (seen1 w os) (looks_pair (seen2 w os) (looks_pair (seen3 w os) (looks_pair (seen4 w os) (looks_pair (seen5 w os) (looks_pair (seen6 w os) (looks_pair (seen7 w os) (looks_pair (seen8 w os) (seen9 w os))))))))
end H
end

set_option hygiene false in
local macro_rules | `(tactic| o_head $H) => `(tactic| (
  refine holds_open (q := Mine.view) (loose := []) (Xt := Mine.H.Xt) (XP := XL Mine.view []) (Yf := Hook.obs $H) (Ya := Hook.val $H) (YP := Hook.says $H) (N := 3204) ?hl (Hook.of $H) (Hook.keeps $H) (fun s e => xl_of s (Bool.and_eq_true_iff.mp e).1) XL.keeps (by rfl) (by rfl) (by rfl) (fun s e => recFacts_of (Bool.and_eq_true_iff.mp e).2) (by rfl) (by first | assumption | decide +kernel) (by decide +kernel) ⟨rfl, rfl, rfl, rfl, rfl, by decide +kernel⟩ ?hw ?hc
  (case hl => exact LeftO.of_pieces (p := Mine.H.pw) (H₀ := boot_heap) (H₁ := Mine.H.heapEnd) (gs₀ := Array.mk []) (gs₁ := Array.mk []) (d₀ := boot_drawn) (d₁ := Mine.H.drawnEnd) (k₀ := boot_toks) (k₁ := Mine.H.toksEnd) (m₀ := Mine.H.size0) (ann := Mine.H.ann0) (M := Mine.H.steps) Mine.H.opens Mine.H.size Mine.H.run (by decide) (fun w => funext fun os => looks_pair (Mine.H.look1 w os) (looks_pair (Mine.H.look2 w os) (by kernel_rfl))))
  all_goals (try clear said)))
set_option maxRecDepth 100000 in
set_option maxHeartbeats 8000000 in
open_top hd for PySem.Challenge.rw_no0074_01

section
/-- what a call hands back to its caller: the answer, and the ledger behind it -/
abbrev Back (h₀ : Heap) (L : Addr) (m : Str → Option Value) (s : Shared) (Q : Value → Shared → Prop) (r : Value) (n : List (Addr × Obj)) : Prop :=
  ∀ (h' : Heap) (tk' : Nat), Fr h₀ L h' m → News h₀ L h' n → Q r { s with heap := h', toks := tk' }
/-- a contract: what a call of the def at `f` gives, from any frame, over the ledger `news`; `P` says what the caller must show -/
abbrev Ctr (w : World) (mean : ExcName → Option Value) (mg mb : Str → Option Value) (f : Addr) (vs : List Value) (news : List (Addr × Obj)) (N M : Nat) (P : (Value → List (Addr × Obj) → Prop) → Prop) : Prop :=
  ∀ (dp un : Nat) (gd : Option (List Code)) (cn : Str) (cs : Scope) (a : Addr) (ccd : Value) (cl : List (Str × Addr)) (outer : List Env) (A₀ : Around) (base h₀ : Heap) (L : Addr) (m : Str → Option Value) (s : Shared) (Q E : Value → Shared → Prop),
    Below A₀ base outer h₀ → Fr h₀ L s.heap m → (Mine.hd.heap_39 w.params).In h₀ → News h₀ L s.heap news → Top Mine.view (looseW Mine.view []) mean mg mb h₀ → cs.kind = .function →
    dp + N < recursionLimit → un + M < cLine → P (Back h₀ L m s Q) →
      wpAny (model PySem.Challenge.rw_no0074_01.row.prog w) (ktrTop dp un gd cn cs L a ccd cl outer) (call (.ref f) vs) Q E s
/-- a mark at which the walk halts -/
def Stop (P : Prop) : Prop := P
theorem stop_here {P : Prop} (h : Stop P) : P := h
theorem news_sel2 {h₀ h : Heap} {L : Addr} {news rest : List (Addr × Obj)} {p1 p2 : Addr × Obj} (N : News h₀ L h news) (h1 : p1 ∈ news) (h2 : p2 ∈ news) (hr : ∀ p ∈ rest, p ∈ news) : News h₀ L h (p1 :: p2 :: rest) := by
  intro p hp
  rcases List.mem_cons.mp hp with rfl | hp
  · exact N _ h1
  rcases List.mem_cons.mp hp with rfl | hp
  · exact N _ h2
  exact N _ (hr p hp)
theorem news_rot {h₀ h : Heap} {L : Addr} {r : List (Addr × Obj)} {p1 p2 p3 : Addr × Obj} (N : News h₀ L h (p1 :: p2 :: p3 :: r)) : News h₀ L h (p2 :: p3 :: p1 :: r) := by
  refine news_sel2 N (.tail _ (.head _)) (.tail _ (.tail _ (.head _))) (fun p hp => ?_)
  rcases List.mem_cons.mp hp with rfl | hp
  · exact .head _
  · exact .tail _ (.tail _ (.tail _ hp))
theorem news_sel4 {h₀ h : Heap} {L : Addr} {news rest : List (Addr × Obj)} {p1 p2 p3 p4 : Addr × Obj} (N : News h₀ L h news) (h1 : p1 ∈ news) (h2 : p2 ∈ news) (h3 : p3 ∈ news) (h4 : p4 ∈ news) (hr : ∀ p ∈ rest, p ∈ news) : News h₀ L h (p1 :: p2 :: p3 :: p4 :: rest) := by
  intro p hp
  rcases List.mem_cons.mp hp with rfl | hp
  · exact N _ h1
  exact news_sel2 (p1 := p2) (p2 := p3) (rest := p4 :: rest) N h2 h3 (fun q hq => (List.mem_cons.mp hq).elim (fun e => e ▸ h4) (hr q)) p hp

theorem ctr_use {w : World} {mean : ExcName → Option Value} {mg mb : Str → Option Value} {f : Addr} {vs : List Value} {news : List (Addr × Obj)} {K M : Nat} {P : (Value → List (Addr × Obj) → Prop) → Prop} (C : Ctr w mean mg mb f vs news K M P)
    {dp un : Nat} {gd : Option (List Code)} {cn : Str} {cs : Scope} {a : Addr} {ccd : Value} {cl : List (Str × Addr)} {outer : List Env} {A₀ : Around} {base h₀ : Heap} {L : Addr} {m : Str → Option Value} {s : Shared} {Q E : Value → Shared → Prop}
    (B : Below A₀ base outer h₀) (F : Fr h₀ L s.heap m) (X : (Mine.hd.heap_39 w.params).In h₀) (N : News h₀ L s.heap news) (T : Top Mine.view (looseW Mine.view []) mean mg mb h₀) (hk : cs.kind = .function)
    (hd : dp + K < recursionLimit) (hu : un + M < cLine) (ret : P (Back h₀ L m s Q)) :
    wpAny (model PySem.Challenge.rw_no0074_01.row.prog w) (ktrTop dp un gd cn cs L a ccd cl outer) (call (.ref f) vs) Q E s :=
  C dp un gd cn cs a ccd cl outer A₀ base h₀ L m s Q E B F X N T hk hd hu ret
theorem room_of {a k n c R : Nat} (h : a + n < R) (e : (c + k).ble n = true) : a + c + k < R :=
  Nat.lt_of_le_of_lt (by rw [Nat.add_assoc]; exact Nat.add_le_add_left (Nat.le_of_ble_eq_true e) a) h
/-- a test's end: its answer, and nothing changed but the count of tokens -/
def Same {α : Type} (b : α) (s : Shared) (b' : α) (s' : Shared) : Prop := b' = b ∧ ∃ tk, s' = { s with toks := tk }
theorem same_of {α : Type} {b b' : α} {s : Shared} {tk : Nat} (e : b' = b) : Same b s b' { s with toks := tk } := ⟨e, tk, rfl⟩
theorem merge_test {α : Type} {M : Model} {A : Around} {t : Sem α} {Q : α → Shared → Prop} {E : Value → Shared → Prop} {s : Shared} (b : α) (h1 : wpAny M A t (Same b s) E s) (h2 : ∀ tk, Q b { s with toks := tk }) : wpAny M A t Q E s :=
  wpAny_mono h1 (fun b' s' e => by obtain ⟨rfl, tk, rfl⟩ := e; exact h2 tk) fun _ _ e => e
end

section
theorem mul_le_mul_of {a b c d : Int} (h1 : a ≤ b) (h2 : c ≤ d) (h3 : 0 ≤ c) (h4 : 0 ≤ b) : a * c ≤ b * d :=
  Int.le_trans (Int.mul_le_mul_of_nonneg_right h1 h3) (Int.mul_le_mul_of_nonneg_left h2 h4)
theorem cube_le {a b : Int} (h0 : 0 ≤ a) (h : a ≤ b) : a * a * a ≤ b * b * b := by
  have h1 : a * a ≤ b * b := mul_le_mul_of h h h0 (by omega)
  exact mul_le_mul_of h1 h h0 (Int.mul_nonneg (by omega) (by omega))
theorem cube_lt_of {a b : Int} (h0 : 0 ≤ b) (h : a * a * a < b * b * b) : a < b := by
  by_cases hb : b ≤ a
  · have := cube_le h0 hb; omega
  · omega

def P1 (n h : Int) : Prop := 0 ≤ n ∧ n < 10 ^ 24 ∧ 1 ≤ h ∧ h ≤ 200000000
def P2 (n l h : Int) : Prop := 0 ≤ n ∧ n < 10 ^ 24 ∧ 0 ≤ l ∧ l < h ∧ h ≤ 200000000 ∧ l * l * l ≤ n ∧ n < h * h * h
theorem P1.start {n : Int} (h0 : 0 ≤ n) (h1 : n < 10 ^ 24) : P1 n 1 := ⟨h0, h1, by omega, by omega⟩
theorem P1.step {n h : Int} (p : P1 n h) (q : h * h * h ≤ n) : P1 n (2 * h) := by
  obtain ⟨h0, h1, h2, h3⟩ := p
  have : h < 100000000 := cube_lt_of (by omega) (by omega)
  exact ⟨h0, h1, by omega, by omega⟩
theorem P1.small {n h : Int} (p : P1 n h) : 0 ≤ h ∧ h ≤ 200000000 := ⟨by have := p.2.2.1; omega, p.2.2.2⟩
theorem P2.start {n h : Int} (p : P1 n h) (q : ¬ h * h * h ≤ n) : P2 n 0 h := by
  obtain ⟨h0, h1, h2, h3⟩ := p
  exact ⟨h0, h1, by omega, by omega, h3, by omega, by omega⟩

theorem w1_start {n : Int} (h0 : 0 ≤ n) (h1 : n < 10 ^ 24) : 1 ≤ (1 : Int) ∧ (1 : Int) ≤ 200000000 ∧ P1 n 1 := ⟨by omega, by omega, P1.start h0 h1⟩
theorem w1_step {n h : Int} (p : P1 n h) (q : h * h * h ≤ n) : 1 ≤ 2 * h ∧ 2 * h ≤ 200000000 ∧ P1 n (2 * h) := ⟨(P1.step p q).2.2.1, (P1.step p q).2.2.2, P1.step p q⟩
theorem w2_start {n h : Int} (p : P1 n h) (q : ¬ h * h * h ≤ n) : 0 ≤ (0 : Int) ∧ 0 < h ∧ h ≤ 200000000 ∧ P2 n 0 h := ⟨by omega, (P2.start p q).2.2.2.1, p.2.2.2, P2.start p q⟩
theorem w2_low {n l h c : Int} (p : P2 n l h) (h1 : l < c) (h2 : c < h) (q : c * c * c ≤ n) : 0 ≤ c ∧ c < h ∧ h ≤ 200000000 ∧ P2 n c h := by
  obtain ⟨a, b, e, f, g, i, j⟩ := p
  exact ⟨by omega, h2, g, a, b, by omega, h2, g, q, j⟩
theorem w2_high {n l h c : Int} (p : P2 n l h) (h1 : l < c) (h2 : c < h) (q : ¬ c * c * c ≤ n) : 0 ≤ l ∧ l < c ∧ c ≤ 200000000 ∧ P2 n l c := by
  obtain ⟨a, b, e, f, g, i, j⟩ := p
  exact ⟨by omega, h1, by omega, a, b, e, h1, by omega, i, by omega⟩
theorem w2_done {n l h : Int} (p : P2 n l h) (q : ¬ 1 < h - l) : 0 ≤ l ∧ l * l * l ≤ n ∧ n < (l + 1) * (l + 1) * (l + 1) := by
  obtain ⟨a, b, e, f, g, i, j⟩ := p
  have : h = l + 1 := by omega
  subst this
  exact ⟨e, i, j⟩

theorem fdiv_two (x : Int) : 2 * x.fdiv 2 ≤ x ∧ x < 2 * x.fdiv 2 + 2 := by
  rw [Int.fdiv_eq_ediv_of_nonneg x (by omega)]
  omega
theorem w2_low2 {n l h : Int} (p : P2 n l h) (g : 1 < h - l) (q : (l + h).fdiv 2 * (l + h).fdiv 2 * (l + h).fdiv 2 ≤ n) : 0 ≤ (l + h).fdiv 2 ∧ (l + h).fdiv 2 < h ∧ h ≤ 200000000 ∧ P2 n ((l + h).fdiv 2) h :=
  have := fdiv_two (l + h)
  w2_low p (by omega) (by omega) q
theorem w2_high2 {n l h : Int} (p : P2 n l h) (g : 1 < h - l) (q : ¬ (l + h).fdiv 2 * (l + h).fdiv 2 * (l + h).fdiv 2 ≤ n) : 0 ≤ l ∧ l < (l + h).fdiv 2 ∧ (l + h).fdiv 2 ≤ 200000000 ∧ P2 n l ((l + h).fdiv 2) :=
  have := fdiv_two (l + h)
  w2_high p (by omega) (by omega) q
theorem w2_mlow {l h : Int} (g : 1 < h - l) : (h - (l + h).fdiv 2).toNat < (h - l).toNat := by
  have := fdiv_two (l + h)
  omega
theorem w2_mhigh {l h : Int} (g : 1 < h - l) : ((l + h).fdiv 2 - l).toNat < (h - l).toNat := by
  have := fdiv_two (l + h)
  omega

theorem pow_three (z : Int) : z ^ Int.toNat 3 = z * z * z := by
  show z ^ 3 = _
  rw [Int.pow_succ, Int.pow_succ, Int.pow_succ, Int.pow_zero, Int.one_mul]
theorem root_facts {n l : Int} (hn : n < 10 ^ 24) (h : 0 ≤ l ∧ l * l * l ≤ n ∧ n < (l + 1) * (l + 1) * (l + 1)) : 0 ≤ l ∧ l * l * l ≤ n ∧ n < (l + 1) * (l + 1) * (l + 1) ∧ l < 100000000 ∧ l ^ Int.toNat 3 ≤ n ∧ n < (l + 1) ^ Int.toNat 3 ∧ ∀ y : Int, 0 ≤ y → n = y ^ Int.toNat 3 → l = y := by
  obtain ⟨a, b, c⟩ := h
  refine ⟨a, b, c, cube_lt_of (by omega) (by omega), by rw [pow_three]; exact b, by rw [pow_three]; exact c, fun y hy e => ?_⟩
  rw [pow_three] at e
  subst e
  have h1 : ¬ y < l := fun h => by
    have := cube_le (a := y + 1) (b := l) (by omega) (by omega)
    have h3 : y * y * y < (y + 1) * (y + 1) * (y + 1) := by
      have := Int.mul_nonneg hy hy
      have := Int.mul_nonneg this hy
      have e1 : (y + 1) * (y + 1) * (y + 1) = y * y * y + 3 * (y * y) + 3 * y + 1 := by
        simp only [Int.add_mul, Int.mul_add, Int.one_mul, Int.mul_one]
        omega
      omega
    omega
  have h2 : y < l + 1 := cube_lt_of (by omega) c
  omega
theorem root_cube0 {z : Int} (h : 0 ≤ z) : 0 ≤ z ^ Int.toNat 3 := by
  rw [pow_three]
  exact Int.mul_nonneg (Int.mul_nonneg h h) h
theorem root_cube1 {z : Int} (h : 0 ≤ z) (h1 : z < 100000000) : z ^ Int.toNat 3 < 10 ^ 24 := by
  rw [pow_three]
  have := cube_le (a := z) (b := 99999999) h (by omega)
  omega

set_option maxRecDepth 100000 in
set_option maxHeartbeats 8000000 in
theorem cubeRoot_ctr (w : World) (mean : ExcName → Option Value) (mg mb : Str → Option Value) (news : List (Addr × Obj)) (n : Int) (t : Tok) (hn : 0 ≤ n) (hn2 : n < 10 ^ 24) :
    Ctr w mean mg mb 133 [.int n t] news 2 16 (fun K => ∀ (z : Int) (t : Tok), 0 ≤ z → z * z * z ≤ n → n < (z + 1) * (z + 1) * (z + 1) → z < 100000000 → z ^ Int.toNat 3 ≤ n → n < (z + 1) ^ Int.toNat 3 → (∀ y : Int, 0 ≤ y → n = y ^ Int.toNat 3 → z = y) → K (.int z t) news) := by
  unfold Ctr
  k_fill
  intro dp un gd cn cs a ccd cl outer A₀ base h₀ L m s Q E B F X N T hk hd hu hret
  refine wpAny_call ?_
  k_dflt cell_enter
  k_with_none
  k_with "exec While Compare cons nil" => k_while_given ["n"] (fun n _ h => 1 ≤ h ∧ h ≤ 200000000 ∧ P1 n h) (fun n _ h => (200000001 - h).toNat) "high"
  k_with "exec While Compare cons nil" => k_while_given ["n"] (fun n _ l h => 0 ≤ l ∧ l < h ∧ h ≤ 200000000 ∧ P2 n l h) (fun n _ l h => (h - l).toNat) "low" "high"
  k_with "state" => first
    | exact w1_start (by assumption) (by assumption)
    | exact w1_step (by assumption) (by assumption)
    | exact w2_start (by assumption) (by assumption)
    | exact w2_low2 (by assumption) (by assumption) (by assumption)
    | exact w2_high2 (by assumption) (by assumption) (by assumption)
  k_with "measure" => first | exact w2_mlow (by assumption) | exact w2_mhigh (by assumption) | omega
  k_steps
  have q := root_facts hn2 (w2_done (by assumption) (by assumption))
  exact hret _ _ q.1 q.2.1 q.2.2.1 q.2.2.2.1 q.2.2.2.2.1 q.2.2.2.2.2.1 q.2.2.2.2.2.2 _ _ (by k_asm) (cb_drop (by k_asm) fun _ h9 => List.mem_cons_of_mem _ h9)
end

section
section
variable {prog : Program} {w : World} {A : Around} {E : Value → Shared → Prop} {s : Shared} {h₀ : Heap} {L D : Addr} {m : Str → Option Value} {news news' : List (Addr × Obj)} {vs : List Value} {ns : List Int} {n : Nat} {u : Tok}
theorem pop_first {Q : Value → Shared → Prop} (F : Fr h₀ L s.heap m) (N : News h₀ L s.heap news) (hI : IntsAre vs ns) (h0 : 0 < (ns.length : Int)) (hlen : ns.length ≤ 24)
    (U : Upd D (listOf vs.toArray n) (listOf vs.tail.toArray (n + 1)) news news')
    (h : ∀ i t h', Fr h₀ L h' m → News h₀ L h' news' → IntsAre vs.tail ns.tail → Q (.int i t) { s with heap := h' }) :
    wpAny (model prog w) A (call (.builtin "list.pop") [.ref D, .int 0 u]) Q E s := by
  have hl := hI.length
  cases hI with
  | nil => simp at h0
  | cons i t r =>
    refine kl_popAt (p := []) F N rfl (k := 0) (by simp [seqIndex?]) rfl U ?_ (fun h' F' N' => h i t h' F' N' r)
    rw [PySem.sizeLine_eq]
    simp only [List.length_cons] at hl hlen ⊢
    omega
end
theorem ten_twelve : (10 : Int) ^ Int.toNat 12 = 1000000000000 := by decide +kernel
theorem fmod_range (a k : Int) (hk : 0 < k) : 0 ≤ a.fmod k ∧ a.fmod k < k := ⟨Int.fmod_nonneg_of_pos a hk, Int.fmod_lt_of_pos a hk⟩

local macro_rules | `(tactic| k_all) => `(tactic| assumption)
set_option maxRecDepth 100000 in
set_option maxHeartbeats 8000000 in
theorem take_ctr (w : World) (mean : ExcName → Option Value) (mg mb : Str → Option Value) (b l : Addr) (vs : List Value) (ns : List Int) (cb nl : Nat) (sd k : Int) (ts t : Tok) (rest : List (Addr × Obj))
    (hI : IntsAre vs ns) (hlen : ns.length ≤ 24) (hs : 0 ≤ sd) (hs2 : sd < 2147483647) (hk0 : 0 < k) (hk1 : k ≤ 1000000000000) (hbl : @Ne Nat b l) (hrb : ∀ p ∈ rest, p.1 ≠ b) (hrl : ∀ p ∈ rest, p.1 ≠ l) :
    Ctr w mean mg mb 215 [.ref b, .int k t] ((b, listOf #[.ref l, .int sd ts] cb) :: (l, listOf vs.toArray nl) :: rest) 2 16
      (fun K => ∀ (z : Int) (tz : Tok) (vs' : List Value) (ns' : List Int) (nl' : Nat) (sd' : Int) (ts' : Tok),
        0 ≤ z → z < k → IntsAre vs' ns' → ns'.length ≤ 24 → 0 ≤ sd' → sd' < 2147483647 → K (.int z tz) ((b, listOf #[.ref l, .int sd' ts'] cb) :: (l, listOf vs'.toArray nl') :: rest)) := by
  unfold Ctr
  k_fill
  intro dp un gd cn cs a ccd cl outer A₀ base h₀ L m s Q E B F X N T hk hd hu hret
  refine wpAny_call ?_
  k_dflt cell_enter
  k_with_none
  k_with "call builtin:list.pop" => (k_here; k_dflt (refine' pop_first ?F ?N ?i ?l ?z ?U ?_; (case F => k_asm); (case N => k_asm); (case U => k_upd); (case i => with_reducible assumption); (case l => with_reducible assumption); (case z => with_reducible assumption)); (intro i9 t9 h9 F9 N9 I9; (try k_sweep)))
  k_steps
  · exact hret _ _ vs.tail ns.tail _ sd ts (fmod_range _ _ hk0).1 (fmod_range _ _ hk0).2 I9 (by rw [List.length_tail]; omega) hs hs2 _ _ (by k_asm) (by k_asm)
  · exact hret _ _ vs ns _ _ _ (fmod_range _ _ hk0).1 (fmod_range _ _ hk0).2 hI hlen (fmod_range _ _ (by decide)).1 (fmod_range _ _ (by decide)).2 _ _ (by k_asm) (by k_asm)
end

section
def CubTime (tw wd d z : Int) : Prop := 0 ≤ z ∧ z ≤ 100000000 ∧ (tw ≤ wd → z = 0) ∧ (wd < tw → 2 * d * (z * z * z) ≤ (tw - wd) * 5000000000000000000 ∧ (tw - wd) * 5000000000000000000 < 2 * d * ((z + 1) * (z + 1) * (z + 1)))
theorem ct_quot {x d : Int} (hx : 0 ≤ x) (hx1 : x ≤ 100000000) (hd0 : 1200 ≤ d) : 0 ≤ (x * 5 * 1000000 * 1000000 * 1000000).fdiv (2 * d) ∧ (x * 5 * 1000000 * 1000000 * 1000000).fdiv (2 * d) < 10 ^ 24 ∧
    2 * d * (x * 5 * 1000000 * 1000000 * 1000000).fdiv (2 * d) ≤ x * 5000000000000000000 ∧ x * 5000000000000000000 < 2 * d * ((x * 5 * 1000000 * 1000000 * 1000000).fdiv (2 * d) + 1) := by
  have e : x * 5 * 1000000 * 1000000 * 1000000 = x * 5000000000000000000 := by omega
  rw [e, Int.fdiv_eq_ediv_of_nonneg _ (by omega)]
  have h1 := Int.mul_ediv_self_le (x := x * 5000000000000000000) (k := 2 * d) (by omega)
  have h2 := Int.lt_mul_ediv_self_add (x := x * 5000000000000000000) (k := 2 * d) (by omega)
  have h3 : 0 ≤ x * 5000000000000000000 / (2 * d) := Int.ediv_nonneg (by omega) (by omega)
  have h4 : 2400 * (x * 5000000000000000000 / (2 * d)) ≤ 2 * d * (x * 5000000000000000000 / (2 * d)) := Int.mul_le_mul_of_nonneg_right (by omega) h3
  refine ⟨h3, by omega, h1, ?_⟩
  rw [Int.mul_add, Int.mul_one]
  exact h2
theorem ct_some {tw wd d z q : Int} (hw : ¬ tw ≤ wd) (hd0 : 1200 ≤ d) (h0 : 0 ≤ z) (h1 : z * z * z ≤ q) (h2 : q < (z + 1) * (z + 1) * (z + 1)) (hq : 0 ≤ q ∧ q < 10 ^ 24 ∧ 2 * d * q ≤ (tw - wd) * 5000000000000000000 ∧ (tw - wd) * 5000000000000000000 < 2 * d * (q + 1)) : CubTime tw wd d z := by
  have hz : z < 100000000 := cube_lt_of (by omega) (by omega)
  refine ⟨h0, by omega, fun h => absurd h hw, fun _ => ⟨?_, ?_⟩⟩
  · exact Int.le_trans (Int.mul_le_mul_of_nonneg_left h1 (by omega)) hq.2.2.1
  · exact Int.lt_of_lt_of_le hq.2.2.2 (Int.mul_le_mul_of_nonneg_left (by omega) (by omega))
theorem ct_none {tw wd d : Int} (hw : tw ≤ wd) : CubTime tw wd d 0 := ⟨by omega, by omega, fun _ => rfl, fun h => by omega⟩

set_option maxRecDepth 100000 in
set_option maxHeartbeats 8000000 in
theorem cubicTime_ctr (w : World) (mean : ExcName → Option Value) (mg mb : Str → Option Value) (news : List (Addr × Obj)) (tw wd d : Int) (t1 t2 t3 : Tok) (h1 : tw - wd ≤ 100000000) (hd0 : 1200 ≤ d) (hd1 : d ≤ 9000) :
    Ctr w mean mg mb 140 [.int tw t1, .int wd t2, .int d t3] news 4 32 (fun K => ∀ (z : Int) (t : Tok), CubTime tw wd d z → K (.int z t) news) := by
  unfold Ctr
  k_fill
  intro dp un gd cn cs a ccd cl outer A₀ base h₀ L m s Q E B F X N T hk hd hu hret
  refine wpAny_call ?_
  k_dflt cell_enter
  k_with_none
  k_with "call ref" => (k_here; k_dflt ((refine' ctr_use (cubeRoot_ctr _ _ _ _ _ _ _ ?c1 ?c2) ?k1 ?k2 ?k3 ?k4 ?k5 ?kK ?kd ?ku ?_); (case k1 => k_asm); (case k2 => k_asm); (case k3 => k_asm); (case k4 => k_asm); (case k5 => k_asm); (case kK => first | exact rfl | assumption); (case kd => first | exact room_of hd rfl | exact Nat.le_of_ble_eq_true rfl | ktr_room); (case ku => first | exact room_of hu rfl | exact Nat.le_of_ble_eq_true rfl | ktr_units); (case c1 => exact (ct_quot (by omega) h1 hd0).1); (case c2 => exact (ct_quot (by omega) h1 hd0).2.1); (intro z9 t9 a1 a2 a3 a4 a5 a6 a7 hp9 tk9 F9 N9; (try k_sweep); (try dsimp only); (try k_fold))))
  k_steps
  · exact hret _ _ (ct_none (by assumption)) _ _ (by k_asm) (by k_asm)
  · exact hret _ _ (ct_some (by assumption) hd0 a1 a2 a3 (ct_quot (by omega) h1 hd0)) _ _ (by k_asm) (by k_asm)
end

section
set_option maxRecDepth 100000 in
set_option maxHeartbeats 8000000 in
theorem cubicWindow_ctr (w : World) (mean : ExcName → Option Value) (mg mb : Str → Option Value) (news : List (Addr × Obj)) (el me tw d : Int) (t0 t1 t2 t3 : Tok) (he0 : 0 ≤ el) (he1 : el ≤ 200000000) (hm0 : 0 ≤ me) (hm1 : me ≤ 200000000) (hd0 : 1200 ≤ d) (hd1 : d ≤ 9000) :
    Ctr w mean mg mb 147 [.int el t0, .int me t1, .int tw t2, .int d t3] news 2 16 (fun K => ∀ (t : Tok), K (.int (tw + (2 * d * (el - me) * (el - me) * (el - me)).fdiv 5000000000000000000) t) news) := by
  unfold Ctr
  k_fill
  intro dp un gd cn cs a ccd cl outer A₀ base h₀ L m s Q E B F X N T hk hd hu hret
  refine wpAny_call ?_
  k_dflt cell_enter
  k_with_none
  k_steps
  exact hret _ _ _ (by k_asm) (by k_asm)
end

section
theorem Ctr.mono {w : World} {mean : ExcName → Option Value} {mg mb : Str → Option Value} {f : Addr} {vs : List Value} {news : List (Addr × Obj)} {K M : Nat} {P P' : (Value → List (Addr × Obj) → Prop) → Prop}
    (C : Ctr w mean mg mb f vs news K M P) (h : ∀ K, P' K → P K) : Ctr w mean mg mb f vs news K M P' := by
  intro dp un gd cn cs a ccd cl outer A₀ base h₀ L m s Q E B F X N T hk hd hu hret
  exact C dp un gd cn cs a ccd cl outer A₀ base h₀ L m s Q E B F X N T hk hd hu (h _ hret)
def CW (d a g : Int) : Prop := 5000000000000000000 * g ≤ 2 * d * (a * a * a) ∧ 2 * d * (a * a * a) < 5000000000000000000 * (g + 1)
theorem cw_of (d a : Int) : CW d a ((2 * d * a * a * a).fdiv (5 * 1000000 * 1000000 * 1000000)) := by
  have e : 2 * d * a * a * a = 2 * d * (a * a * a) := by simp only [Int.mul_assoc]
  rw [e]
  show CW d a ((2 * d * (a * a * a)).fdiv 5000000000000000000)
  rw [Int.fdiv_eq_ediv_of_nonneg _ (by omega)]
  unfold CW
  omega
theorem cubicWindow2_ctr (w : World) (mean : ExcName → Option Value) (mg mb : Str → Option Value) (news : List (Addr × Obj)) (el me tw d : Int) (t0 t1 t2 t3 : Tok) (he0 : 0 ≤ el) (he1 : el ≤ 200000000) (hm0 : 0 ≤ me) (hm1 : me ≤ 200000000) (hd0 : 1200 ≤ d) (hd1 : d ≤ 9000) :
    Ctr w mean mg mb 147 [.int el t0, .int me t1, .int tw t2, .int d t3] news 2 16 (fun K => ∀ (g : Int) (t : Tok), CW d (el - me) g → K (.int (tw + g) t) news) :=
  (cubicWindow_ctr w mean mg mb news el me tw d t0 t1 t2 t3 he0 he1 hm0 hm1 hd0 hd1).mono (fun _ h t => h _ t (cw_of _ _))
theorem ten_eighteen : (10 : Int) ^ Int.toNat 18 = 1000000000000000000 := by decide +kernel
theorem ct_zero {tw wd d z : Int} (h : CubTime tw wd d z) (hw : tw ≤ wd) : z = 0 := h.2.2.1 hw
theorem ct_both {tw wd d z : Int} (hd : 1200 ≤ d) (h : CubTime tw wd d z) (hw : wd ≤ tw) : 2 * d * (z * z * z) ≤ (tw - wd) * 5000000000000000000 ∧ (tw - wd) * 5000000000000000000 < 2 * d * ((z + 1) * (z + 1) * (z + 1)) := by
  by_cases h1 : wd < tw
  · exact h.2.2.2 h1
  · have e := h.2.2.1 (by omega)
    subst e
    exact ⟨by omega, by omega⟩
theorem ct_pow {tw wd d z : Int} (hd : 1200 ≤ d) (h : CubTime tw wd d z) (hw : wd ≤ tw) : 2 * d * z ^ Int.toNat 3 ≤ (tw - wd) * 5 * 10 ^ Int.toNat 18 ∧ (tw - wd) * 5 * 10 ^ Int.toNat 18 < 2 * d * (z + 1) ^ Int.toNat 3 := by
  rw [pow_three, pow_three, ten_eighteen]
  have := ct_both hd h hw
  exact ⟨by omega, by omega⟩
theorem cw_same {d m g : Int} (h : CW d (m - m) g) : g = 0 := by
  unfold CW at h
  rw [Int.sub_self] at h
  omega
theorem cube_neg (d a : Int) : 2 * d * ((0 - a) * (0 - a) * (0 - a)) = -(2 * d * (a * a * a)) := by
  simp only [Int.zero_sub, Int.neg_mul, Int.mul_neg, Int.neg_neg]
theorem cw_next {tw wd d m g : Int} (hd : 1200 ≤ d) (c : CubTime tw wd d m) (hw : wd ≤ tw) (h : CW d (0 - (m + 1)) g) : tw + g ≤ wd := by
  have h1 := (ct_both hd c hw).2
  unfold CW at h
  rw [cube_neg] at h
  generalize 2 * d * ((m + 1) * (m + 1) * (m + 1)) = X at *
  omega
theorem cw_begin {tw wd d m g : Int} (hd : 1200 ≤ d) (c : CubTime tw wd d m) (hw : wd ≤ tw) (h : CW d (0 - m) g) : wd ≤ tw + g := by
  have h1 := (ct_both hd c hw).1
  unfold CW at h
  rw [cube_neg] at h
  generalize 2 * d * (m * m * m) = X at *
  omega
theorem cw_pow {d a g : Int} (tw : Int) (h : CW d a g) : 5 * 10 ^ Int.toNat 18 * (tw + g - tw) ≤ 2 * d * a ^ Int.toNat 3 ∧ 2 * d * a ^ Int.toNat 3 < 5 * 10 ^ Int.toNat 18 * (tw + g - tw + 1) := by
  rw [pow_three, ten_eighteen, show tw + g - tw = g by omega]
  unfold CW at h
  exact ⟨by omega, by omega⟩
theorem cw_pow2 {tw wd d m a g : Int} (_c : CubTime tw wd d m) (h : CW d a g) : 5 * 10 ^ Int.toNat 18 * (tw + g - tw) ≤ 2 * d * a ^ Int.toNat 3 ∧ 2 * d * a ^ Int.toNat 3 < 5 * 10 ^ Int.toNat 18 * (tw + g - tw + 1) := cw_pow tw h
theorem cube_mono {a b : Int} (h : a ≤ b) : a * a * a ≤ b * b * b := by
  by_cases h0 : 0 ≤ a
  · exact cube_le h0 h
  · by_cases h1 : 0 ≤ b
    · have h2 : 0 ≤ (0 - a) * (0 - a) * (0 - a) := Int.mul_nonneg (Int.mul_nonneg (by omega) (by omega)) (by omega)
      have h3 : (0 - a) * (0 - a) * (0 - a) = -(a * a * a) := by simp only [Int.zero_sub, Int.neg_mul, Int.mul_neg, Int.neg_neg]
      have h4 : 0 ≤ b * b * b := Int.mul_nonneg (Int.mul_nonneg h1 h1) h1
      omega
    · have h2 := cube_le (a := 0 - b) (b := 0 - a) (by omega) (by omega)
      have h3 : (0 - a) * (0 - a) * (0 - a) = -(a * a * a) := by simp only [Int.zero_sub, Int.neg_mul, Int.mul_neg, Int.neg_neg]
      have h4 : (0 - b) * (0 - b) * (0 - b) = -(b * b * b) := by simp only [Int.zero_sub, Int.neg_mul, Int.mul_neg, Int.neg_neg]
      omega
theorem cw_mono {d a a' g g' : Int} (hd : 1200 ≤ d) (h : CW d a g) (h' : CW d a' g') (ha : a ≤ a') : g ≤ g' := by
  have h1 : 2 * d * (a * a * a) ≤ 2 * d * (a' * a' * a') := Int.mul_le_mul_of_nonneg_left (cube_mono ha) (by omega)
  unfold CW at h h'
  generalize 2 * d * (a * a * a) = X at *
  generalize 2 * d * (a' * a' * a') = Y at *
  omega
section
variable {prog : Program} {w : World} {A : Around} {E : Value → Shared → Prop} {s : Shared} {h₀ : Heap} {L l : Addr} {news : List (Addr × Obj)} {n : Nat} {k : Int} {u u1 u2 u3 : Tok}
theorem pick_datagram {value slice : PySem.Expr} {Q : Value → Shared → Prop} (N : News h₀ L s.heap news) (hm : (l, listOf #[.int 1200 u1, .int 1472 u2, .int 9000 u3] n) ∈ news) (h0 : 0 ≤ k) (h1 : k < 3)
    (h : ∀ d t, 1200 ≤ d → d ≤ 9000 → Q (.int d t) s) (hs : subscripted slice false (.ref l) (.int k u) = operate [.ref l, .int k u] (getItem (.ref l) (.int k u)) := by with_unfolding_all rfl) :
    wpAny (model prog w) A (subscriptTail value slice (.ref l) (.int k u)) Q E s := by
  refine ksa_sub (vs := [.int 1200 u1, .int 1472 u2, .int 9000 u3]) (ns := [1200, 1472, 9000]) N hm (.cons _ _ (.cons _ _ (.cons _ _ .nil))) h0 (by simpa using h1) (by omega) (fun t => ?_) hs
  have hc : k = 0 ∨ k = 1 ∨ k = 2 := by omega
  rcases hc with rfl | rfl | rfl
  · exact h 1200 t (by omega) (by omega)
  · exact h 1472 t (by omega) (by omega)
  · exact h 9000 t (by omega) (by omega)
end
theorem growth_end {h₀ : Heap} {L : Addr} {m : Str → Option Value} {s : Shared} {Q : Value → Shared → Prop} {h' : Heap} {tk' : Nat} {b l : Addr} {cb nl : Nat} {vs : List Value} {ns : List Int} {sd : Int} {ts : Tok} {v : Bool}
    (hret : ∀ (vs' : List Value) (ns' : List Int) (nl' : Nat) (sd' : Int) (ts' : Tok), IntsAre vs' ns' → ns'.length ≤ 24 → 0 ≤ sd' → sd' < 2147483647 → Back h₀ L m s Q (.bool true) [(b, listOf #[.ref l, .int sd' ts'] cb), (l, listOf vs'.toArray nl')])
    (hI : IntsAre vs ns) (hl : ns.length ≤ 24) (h0 : 0 ≤ sd) (h1 : sd < 2147483647) (F : Fr h₀ L h' m) (N : News h₀ L h' [(b, listOf #[.ref l, .int sd ts] cb), (l, listOf vs.toArray nl)]) (hv : v = true) : Q (.bool v) { s with heap := h', toks := tk' } := by
  subst hv
  exact hret vs ns nl sd ts hI hl h0 h1 h' tk' F N
local macro_rules | `(tactic| k_ne) => `(tactic| first | assumption | exact Ne.symm (by assumption) | exact Nat.ne_of_gt (by assumption) | exact Nat.ne_of_lt (by assumption))
local macro_rules | `(tactic| mul_fits) => `(tactic| first | exact PySem.IntMulOk.of_left (PySem.intBits_le_64 (by decide) (by decide)) | exact PySem.IntMulOk.of_right (PySem.intBits_le_64 (by decide) (by decide)))
local macro_rules | `(tactic| omega) => `(tactic| (k_dflt (law_clear; law_purse 20000 => lia)))
theorem ct_lid {tw wd d z : Int} (h : CubTime tw wd d z) : z ≤ 200000000 := Int.le_trans h.2.1 (by decide)
theorem ct_next {tw wd d z : Int} (h : CubTime tw wd d z) : 0 ≤ z + 1 ∧ z + 1 ≤ 200000000 := by
  have := h.1
  have := h.2.1
  exact ⟨by omega, by omega⟩
theorem abs_small {z : Int} (h0 : 0 ≤ z) (h1 : z ≤ 200000000) : z.natAbs < 2 ^ 64 := by omega
theorem abs_apart {y z : Int} (h0 : 0 ≤ y) (h1 : y ≤ 200000000) (h2 : 0 ≤ z) (h3 : z ≤ 200000000) : (y - z).natAbs < 2 ^ 64 := by omega
theorem gen_int {e : Int} {p : Int → Prop} (h : ∀ v, v = e → p v) : p e := h e rfl
local macro_rules | `(tactic| walk_at "binaryOp Pow int int") => `(tactic| (k_here; (with_reducible refine pow_int_small ?kb1 ?kb2 ?kb3 ?_); (case kb1 => decide); (case kb2 => decide); (case kb3 => first | decide | exact abs_small (by assumption) (by assumption) | exact abs_apart (by assumption) (by assumption) (by assumption) (by assumption) | omega)))
set_option maxRecDepth 100000 in
set_option maxHeartbeats 8000000 in
theorem growth_ctr (w : World) (mean : ExcName → Option Value) (mg mb : Str → Option Value) (b l : Addr) (vs : List Value) (ns : List Int) (cb nl : Nat) (sd : Int) (ts : Tok)
    (hI : IntsAre vs ns) (hlen : ns.length ≤ 24) (hs : 0 ≤ sd) (hs2 : sd < 2147483647) (hbl : @Ne Nat b l) :
    Ctr w mean mg mb 229 [.ref b] [(b, listOf #[.ref l, .int sd ts] cb), (l, listOf vs.toArray nl)] 8 128
      (fun K => ∀ (vs' : List Value) (ns' : List Int) (nl' : Nat) (sd' : Int) (ts' : Tok),
        IntsAre vs' ns' → ns'.length ≤ 24 → 0 ≤ sd' → sd' < 2147483647 → K (.bool true) [(b, listOf #[.ref l, .int sd' ts'] cb), (l, listOf vs'.toArray nl')]) := by
  unfold Ctr
  k_fill
  intro dp un gd cn cs a ccd cl outer A₀ base h₀ L m s Q E B F X N T hk hd hu hret
  refine wpAny_call ?_
  k_dflt cell_enter
  k_with_none
  k_with "call ref" => (k_here; k_dflt ((refine' ctr_use (take_ctr _ _ _ _ _ _ _ _ _ _ _ _ _ _ _ ?tI ?tl ?ts ?ts2 ?tk0 ?tk1 ?tbl ?trb ?trl) ?k1 ?k2 ?k3 ?k4 ?k5 ?kK ?kd ?ku ?_); (case k1 => k_asm); (case k2 => k_asm); (case k3 => k_asm); (case k4 => first | k_asm | exact news_rot (by k_asm) | exact news_sel2 (by assumption) (by k_mem) (by k_mem) (by exact List.forall_mem_nil _)); (case k5 => k_asm); (case kK => first | exact rfl | assumption); (case kd => first | exact room_of hd rfl | exact Nat.le_of_ble_eq_true rfl | ktr_room); (case ku => first | exact room_of hu rfl | exact Nat.le_of_ble_eq_true rfl | ktr_units); (case tI => with_reducible assumption); (case tl => first | assumption | exact List.length_take_le _ _); (case ts => assumption); (case ts2 => assumption); (case tk0 => decide +kernel); (case tk1 => decide +kernel); (case tbl => k_ne); (case trb => k_all); (case trl => k_all); (intro z9 tz9 vs9 ns9 nl9 sd9 ts9 a1 a2 I9 a3 a4 a5 hp9 tk9 F9 N9; (try simp only [ten_twelve] at a2); (try k_sweep); (try dsimp only); (try k_fold))))
  k_with "call ref" => (k_here; k_dflt ((refine' ctr_use (cubicTime_ctr _ _ _ _ _ _ _ _ _ _ _ ?c1 ?c2 ?c3) ?k1 ?k2 ?k3 ?k4 ?k5 ?kK ?kd ?ku ?_); (case k1 => k_asm); (case k2 => k_asm); (case k3 => k_asm); (case k4 => k_asm); (case k5 => k_asm); (case kK => first | exact rfl | assumption); (case kd => first | exact room_of hd rfl | exact Nat.le_of_ble_eq_true rfl | ktr_room); (case ku => first | exact room_of hu rfl | exact Nat.le_of_ble_eq_true rfl | ktr_units); (case c1 => first | assumption | omega); (case c2 => assumption); (case c3 => assumption); (intro z9 t9 ha1 hp9 tk9 F9 N9; (first | (have e0 := ct_zero ha1 (by omega); subst e0; clear ha1) | (have e2 := ha1.1; have e3 := ct_lid ha1; obtain ⟨e6, e7⟩ := ct_next ha1; obtain ⟨e4, e5⟩ := ct_pow (by assumption) ha1 (by assumption); have hct := ha1)); (try k_sweep); (try dsimp only); (try k_fold))))
  k_with "call ref" => (k_here; k_dflt ((refine' ctr_use (cubicWindow2_ctr _ _ _ _ _ _ _ _ _ _ _ _ _ ?c1 ?c2 ?c3 ?c4 ?c5 ?c6) ?k1 ?k2 ?k3 ?k4 ?k5 ?kK ?kd ?ku ?_); (case k1 => k_asm); (case k2 => k_asm); (case k3 => k_asm); (case k4 => k_asm); (case k5 => k_asm); (case kK => first | exact rfl | assumption); (case kd => first | exact room_of hd rfl | exact Nat.le_of_ble_eq_true rfl | ktr_room); (case ku => first | exact room_of hu rfl | exact Nat.le_of_ble_eq_true rfl | ktr_units); (case c1 => first | decide | assumption | omega); (case c2 => first | decide | assumption | omega); (case c3 => first | decide | assumption | omega); (case c4 => first | decide | assumption | omega); (case c5 => first | decide | assumption | omega); (case c6 => first | decide | assumption | omega); (intro g9 t9 hg hp9 tk9 F9 N9; (first | (have e9 := cw_same hg) | (have e9 := cw_next (by assumption) hct (by assumption) hg) | (have e9 := cw_begin (by assumption) hct (by assumption) hg) | (have e9 := cw_mono (by assumption) hgAt hg (by omega)) | (obtain ⟨e9, e8⟩ := cw_pow2 hct hg; have hgAt := hg)); (clear hg); (try k_sweep); (try dsimp only); (try k_fold))))
  k_with "subscriptTail" => (k_here; (with_reducible show wpAny _ _ (subscriptTail _ _ (Value.ref _) (Value.int _ _)) _ _ _); k_dflt ((refine' pick_datagram ?k1 ?k2 ?k3 ?k4 ?_ ?k7); (case k1 => k_asm); (case k2 => k_mem); (case k3 => assumption); (case k4 => assumption); (case k7 => with_unfolding_all rfl); (intro d9 td9 hd1 hd2)))
  k_with "storeName" => ((k_dflt (show wpAny _ _ (storeName _ (Str.ofString "present") (Value.int (2 * d9 + 100 * z9) _)) _ _ _)); (generalize 2 * d9 + 100 * z9 = pr))
  k_with "storeName" => ((k_dflt (show wpAny _ _ (storeName _ (Str.ofString "top") (Value.int (pr + 100 * z9) _)) _ _ _)); (generalize htp : pr + 100 * z9 = tp); (have hle : pr ≤ tp := by omega); (have hdf : tp - pr ≤ 100000000 := by omega); (clear htp))
  k_with "storeName" => ((k_dflt (show wpAny _ _ (storeName _ (Str.ofString "at") (Value.int (1000 * z9) _)) _ _ _)); (generalize hat : 1000 * z9 = at9); (have hat0 : 0 ≤ at9 := by omega); (have hat1 : at9 ≤ 200000000 := by omega); (have hat2 : at9 ≤ 100000000 := by omega); (clear hat))
  have k18 := ten_eighteen
  k_steps
  all_goals first
    | exact growth_end hret I9 a3 a4 a5 (by k_asm) (by first | k_asm | exact news_sel2 (by assumption) (by k_mem) (by k_mem) (by exact List.forall_mem_nil _)) (decide_eq_true (by omega))
    | (exfalso; omega)
end

section
/-- the numbers of a sender -/
structure Snd where
  w : Int
  thr : Option Int
  rv : Option Int
  fl : Int
  cr : Int
  tw : Int
  pw : Int
  beg : Option Int
  mt : Int
  fr : Int
  fc : Int
/-- the sender's dict in the ledger -/
abbrev sdict (P : Params) (k1 k2 k3 k4 k5 k6 k7 k8 k9 k10 k11 k12 : Tok) (v1 v2 v3 v4 v5 v6 v7 v8 v9 v10 v11 v12 : Value) : Obj :=
  dictOf [⟨PyData.keyHash P (Str.ofString "datagram"), .str (Str.ofString "datagram") k1, v1⟩,
    ⟨PyData.keyHash P (Str.ofString "window"), .str (Str.ofString "window") k2, v2⟩,
    ⟨PyData.keyHash P (Str.ofString "threshold"), .str (Str.ofString "threshold") k3, v3⟩,
    ⟨PyData.keyHash P (Str.ofString "recovery_at"), .str (Str.ofString "recovery_at") k4, v4⟩,
    ⟨PyData.keyHash P (Str.ofString "in_flight"), .str (Str.ofString "in_flight") k5, v5⟩,
    ⟨PyData.keyHash P (Str.ofString "credit"), .str (Str.ofString "credit") k6, v6⟩,
    ⟨PyData.keyHash P (Str.ofString "top_window"), .str (Str.ofString "top_window") k7, v7⟩,
    ⟨PyData.keyHash P (Str.ofString "prior_window"), .str (Str.ofString "prior_window") k8, v8⟩,
    ⟨PyData.keyHash P (Str.ofString "begun_at"), .str (Str.ofString "begun_at") k9, v9⟩,
    ⟨PyData.keyHash P (Str.ofString "meets_after"), .str (Str.ofString "meets_after") k10, v10⟩,
    ⟨PyData.keyHash P (Str.ofString "friendly"), .str (Str.ofString "friendly") k11, v11⟩,
    ⟨PyData.keyHash P (Str.ofString "friendly_credit"), .str (Str.ofString "friendly_credit") k12, v12⟩] 12
def ValO (v : Value) (o : Option Int) : Prop := (v = .none ∧ o = none) ∨ ∃ i t, v = .int i t ∧ o = some i
theorem valO_none : ValO .none none := .inl ⟨rfl, rfl⟩
theorem valO_some (i : Int) (t : Tok) : ValO (.int i t) (some i) := .inr ⟨i, t, rfl, rfl⟩
def IsSnd (P : Params) (o : Obj) (S : Snd) : Prop :=
  ∃ k1 k2 k3 k4 k5 k6 k7 k8 k9 k10 k11 k12 t1 t2 t5 t6 t7 t8 t10 t11 t12 v3 v4 v9, o = sdict P k1 k2 k3 k4 k5 k6 k7 k8 k9 k10 k11 k12
    (.int 1200 t1) (.int S.w t2) v3 v4 (.int S.fl t5) (.int S.cr t6) (.int S.tw t7) (.int S.pw t8) v9 (.int S.mt t10) (.int S.fr t11) (.int S.fc t12) ∧ ValO v3 S.thr ∧ ValO v4 S.rv ∧ ValO v9 S.beg
theorem isSnd_mk {P : Params} {k1 k2 k3 k4 k5 k6 k7 k8 k9 k10 k11 k12 t1 t2 t5 t6 t7 t8 t10 t11 t12 : Tok} {v3 v4 v9 : Value} {w fl cr tw pw mt fr fc : Int} {thr rec beg : Option Int}
    (h3 : ValO v3 thr) (h4 : ValO v4 rec) (h9 : ValO v9 beg) :
    IsSnd P (sdict P k1 k2 k3 k4 k5 k6 k7 k8 k9 k10 k11 k12 (.int 1200 t1) (.int w t2) v3 v4 (.int fl t5) (.int cr t6) (.int tw t7) (.int pw t8) v9 (.int mt t10) (.int fr t11) (.int fc t12)) ⟨w, thr, rec, fl, cr, tw, pw, beg, mt, fr, fc⟩ :=
  ⟨_, _, _, _, _, _, _, _, _, _, _, _, _, _, _, _, _, _, _, _, _, _, _, _, rfl, h3, h4, h9⟩
def inRec : Option Int → Int → Bool
  | none, _ => false
  | some r, t => decide (t ≤ r)
def isSlow : Option Int → Int → Bool
  | none, _ => true
  | some t, w => decide (w < t)
theorem valO_int {v : Value} {o : Option Int} {i : Int} (h : ValO v o) (e : o = some i) : ∃ t, v = .int i t := by
  obtain ⟨_, e2⟩ | ⟨j, t, rfl, e2⟩ := h
  · rw [e2] at e; cases e
  · rw [e2] at e; cases e; exact ⟨t, rfl⟩
theorem valO_no {v : Value} {o : Option Int} (h : ValO v o) (e : o = none) : v = .none := by
  obtain ⟨rfl, _⟩ | ⟨j, t, rfl, e2⟩ := h
  · rfl
  · rw [e2] at e; cases e
/-- what holds of a sender between the turns, under a bound that grows with them -/
def Inv (b now : Int) (S : Snd) : Prop :=
  2400 ≤ S.w ∧ S.w ≤ b ∧ 0 ≤ S.cr ∧ S.cr < S.w ∧ 0 ≤ S.tw ∧ S.tw ≤ b ∧ 0 ≤ S.fr ∧ S.fr ≤ b ∧ 0 ≤ S.fc ∧ S.fc ≤ 17 * b ∧ 0 ≤ S.mt ∧ S.mt ≤ 100000000 ∧ (∀ r, S.beg = some r → 0 ≤ r ∧ r ≤ now)
/-- what a method's caller is told: the sender's dict is that of `S`, written out -/
def SndK (P : Params) (x d : Addr) (e1 e2 : Addr × Obj) (rest : List (Addr × Obj)) (K : Value → List (Addr × Obj) → Prop) (r : Value) (S : Snd) : Prop :=
  ∀ (k1 k2 k3 k4 k5 k6 k7 k8 k9 k10 k11 k12 t1 t2 t5 t6 t7 t8 t10 t11 t12 : Tok) (v3 v4 v9 : Value), ValO v3 S.thr → ValO v4 S.rv → ValO v9 S.beg →
    IsSnd P (sdict P k1 k2 k3 k4 k5 k6 k7 k8 k9 k10 k11 k12 (.int 1200 t1) (.int S.w t2) v3 v4 (.int S.fl t5) (.int S.cr t6) (.int S.tw t7) (.int S.pw t8) v9 (.int S.mt t10) (.int S.fr t11) (.int S.fc t12)) S →
    K r (e1 :: e2 :: (x, instObj 206 d) :: (d, sdict P k1 k2 k3 k4 k5 k6 k7 k8 k9 k10 k11 k12 (.int 1200 t1) (.int S.w t2) v3 v4 (.int S.fl t5) (.int S.cr t6) (.int S.tw t7) (.int S.pw t8) v9 (.int S.mt t10) (.int S.fr t11) (.int S.fc t12)) :: rest)
theorem snd_ret {P : Params} {x d : Addr} {e1 e2 : Addr × Obj} {rest : List (Addr × Obj)} {h₀ : Heap} {L : Addr} {m : Str → Option Value} {s : Shared} {Q : Value → Shared → Prop} {r : Value} {h' : Heap} {tk' : Nat}
    {k1 k2 k3 k4 k5 k6 k7 k8 k9 k10 k11 k12 t1 t2 t5 t6 t7 t8 t10 t11 t12 : Tok} {v3 v4 v9 : Value} {w fl cr tw pw mt fr fc : Int} {thr rv beg : Option Int}
    (hret : SndK P x d e1 e2 rest (Back h₀ L m s Q) r ⟨w, thr, rv, fl, cr, tw, pw, beg, mt, fr, fc⟩) (h3 : ValO v3 thr) (h4 : ValO v4 rv) (h9 : ValO v9 beg) (F : Fr h₀ L h' m)
    (N : News h₀ L h' (e1 :: e2 :: (x, instObj 206 d) :: (d, sdict P k1 k2 k3 k4 k5 k6 k7 k8 k9 k10 k11 k12 (.int 1200 t1) (.int w t2) v3 v4 (.int fl t5) (.int cr t6) (.int tw t7) (.int pw t8) v9 (.int mt t10) (.int fr t11) (.int fc t12)) :: rest)) :
    Q r { s with heap := h', toks := tk' } :=
  hret k1 k2 k3 k4 k5 k6 k7 k8 k9 k10 k11 k12 t1 t2 t5 t6 t7 t8 t10 t11 t12 v3 v4 v9 h3 h4 h9 (isSnd_mk h3 h4 h9) h' tk' F N
/-- the dict is written out once, ahead of the walk -/
theorem snd_open {P : Params} {o : Obj} {S : Snd} {C : Obj → Prop} (hS : IsSnd P o S)
    (h : ∀ (k1 k2 k3 k4 k5 k6 k7 k8 k9 k10 k11 k12 t1 t2 t5 t6 t7 t8 t10 t11 t12 : Tok) (v3 v4 v9 : Value), ValO v3 S.thr → ValO v4 S.rv → ValO v9 S.beg →
      IsSnd P (sdict P k1 k2 k3 k4 k5 k6 k7 k8 k9 k10 k11 k12 (.int 1200 t1) (.int S.w t2) v3 v4 (.int S.fl t5) (.int S.cr t6) (.int S.tw t7) (.int S.pw t8) v9 (.int S.mt t10) (.int S.fr t11) (.int S.fc t12)) S →
      C (sdict P k1 k2 k3 k4 k5 k6 k7 k8 k9 k10 k11 k12 (.int 1200 t1) (.int S.w t2) v3 v4 (.int S.fl t5) (.int S.cr t6) (.int S.tw t7) (.int S.pw t8) v9 (.int S.mt t10) (.int S.fr t11) (.int S.fc t12))) : C o := by
  have hS0 := hS
  obtain ⟨k1, k2, k3, k4, k5, k6, k7, k8, k9, k10, k11, k12, t1, t2, t5, t6, t7, t8, t10, t11, t12, v3, v4, v9, rfl, h3, h4, h9⟩ := hS
  exact h k1 k2 k3 k4 k5 k6 k7 k8 k9 k10 k11 k12 t1 t2 t5 t6 t7 t8 t10 t11 t12 v3 v4 v9 h3 h4 h9 hS0
theorem valO_handed {v : Value} {o : Option Int} (h : ValO v o) : handedIn v = true := by
  obtain ⟨rfl, _⟩ | ⟨j, t, rfl, _⟩ := h
  · rfl
  · rfl
end

section
set_option maxRecDepth 100000 in
set_option maxHeartbeats 8000000 in
theorem inRec_ctr (w : World) (mean : ExcName → Option Value) (mg mb : Str → Option Value) (x d : Addr) (o : Obj) (e1 e2 : Addr × Obj) (rest : List (Addr × Obj)) (S : Snd) (sent : Int) (t : Tok) (hS : IsSnd w.params o S) :
    Ctr w mean mg mb 70 [.ref x, .int sent t] (e1 :: e2 :: (x, instObj 206 d) :: (d, o) :: rest) 2 16
      (fun K => K (.bool (inRec S.rv sent)) (e1 :: e2 :: (x, instObj 206 d) :: (d, o) :: rest)) := by
  refine snd_open (C := fun o => Ctr _ _ _ _ _ _ (e1 :: e2 :: (x, instObj 206 d) :: (d, o) :: rest) _ _ (fun K => K _ (e1 :: e2 :: (x, instObj 206 d) :: (d, o) :: rest))) hS ?_
  clear hS
  intro k1 k2 k3 k4 k5 k6 k7 k8 k9 k10 k11 k12 t1 t2 t5 t6 t7 t8 t10 t11 t12 v3 v4 v9 h3 h4 h9 hS0
  unfold Ctr
  k_fill
  intro dp un gd cn cs a ccd cl outer A₀ base h₀ L m s Q E B F X N T hk hd hu hret
  refine wpAny_call ?_
  k_dflt cell_enter
  k_with_none
  obtain ⟨rfl, e⟩ | ⟨i, t, rfl, e⟩ := h4
  all_goals rw [e] at hret
  · k_steps
    exact hret _ _ (by k_asm) (by k_asm)
  · k_steps
    exact hret _ _ (by k_asm) (by k_asm)

set_option maxRecDepth 100000 in
set_option maxHeartbeats 8000000 in
theorem isSlow_ctr (w : World) (mean : ExcName → Option Value) (mg mb : Str → Option Value) (x d : Addr) (o : Obj) (e1 e2 : Addr × Obj) (rest : List (Addr × Obj)) (S : Snd) (hS : IsSnd w.params o S) :
    Ctr w mean mg mb 63 [.ref x] (e1 :: e2 :: (x, instObj 206 d) :: (d, o) :: rest) 2 16
      (fun K => K (.bool (isSlow S.thr S.w)) (e1 :: e2 :: (x, instObj 206 d) :: (d, o) :: rest)) := by
  refine snd_open (C := fun o => Ctr _ _ _ _ _ _ (e1 :: e2 :: (x, instObj 206 d) :: (d, o) :: rest) _ _ (fun K => K _ (e1 :: e2 :: (x, instObj 206 d) :: (d, o) :: rest))) hS ?_
  clear hS
  intro k1 k2 k3 k4 k5 k6 k7 k8 k9 k10 k11 k12 t1 t2 t5 t6 t7 t8 t10 t11 t12 v3 v4 v9 h3 h4 h9 hS0
  unfold Ctr
  k_fill
  intro dp un gd cn cs a ccd cl outer A₀ base h₀ L m s Q E B F X N T hk hd hu hret
  refine wpAny_call ?_
  k_dflt cell_enter
  k_with_none
  obtain ⟨rfl, e⟩ | ⟨i, t, rfl, e⟩ := h3
  all_goals rw [e] at hret
  · k_steps
    exact hret _ _ (by k_asm) (by k_asm)
  · k_steps
    exact hret _ _ (by k_asm) (by k_asm)

set_option maxRecDepth 100000 in
set_option maxHeartbeats 8000000 in
theorem least_ctr (w : World) (mean : ExcName → Option Value) (mg mb : Str → Option Value) (news : List (Addr × Obj)) (i : Int) (t : Tok) :
    Ctr w mean mg mb 35 [.int i t] news 2 16 (fun K => ∀ t', K (.int (2 * i) t') news) := by
  unfold Ctr
  k_fill
  intro dp un gd cn cs a ccd cl outer A₀ base h₀ L m s Q E B F X N T hk hd hu hret
  refine wpAny_call ?_
  k_dflt cell_enter
  k_with_none
  k_steps
  exact hret _ _ _ (by k_asm) (by k_asm)
end

section
local macro_rules | `(tactic| k_ne) => `(tactic| first | assumption | exact Ne.symm (by assumption) | exact Nat.ne_of_gt (by assumption) | exact Nat.ne_of_lt (by assumption))
local macro_rules | `(tactic| mul_fits) => `(tactic| first | exact PySem.IntMulOk.of_left (PySem.intBits_le_64 (by decide) (by decide)) | exact PySem.IntMulOk.of_right (PySem.intBits_le_64 (by decide) (by decide)))
local macro_rules | `(tactic| omega) => `(tactic| (k_dflt (law_clear; law_purse 20000 => lia)))
local macro_rules | `(tactic| k_all) => `(tactic| assumption)
set_option maxRecDepth 100000 in
set_option maxHeartbeats 8000000 in
theorem begin_ctr (w : World) (mean : ExcName → Option Value) (mg mb : Str → Option Value) (x d : Addr) (o : Obj) (e1 e2 : Addr × Obj) (rest : List (Addr × Obj)) (S : Snd) (now : Int) (t : Tok) (hS : IsSnd w.params o S) (hx : @Ne Nat x d) (he1 : @Ne Nat e1.1 d) (he2 : @Ne Nat e2.1 d) (hr : ∀ p ∈ rest, p.1 ≠ d) (hb : S.tw - S.w ≤ 100000000) :
    Ctr w mean mg mb 175 [.ref x, .int now t] (e1 :: e2 :: (x, instObj 206 d) :: (d, o) :: rest) 6 64
      (fun K => ∀ S', S'.w = S.w → S'.thr = S.thr → S'.rv = S.rv → S'.fl = S.fl → S'.cr = S.cr → S'.tw = (if S.tw < S.w then S.w else S.tw) → S'.beg = some now → CubTime S.tw S.w 1200 S'.mt → S'.fr = S.w → S'.fc = 0 → SndK w.params x d e1 e2 rest K .none S') := by
  refine snd_open (C := fun o => Ctr _ _ _ _ _ _ (e1 :: e2 :: (x, instObj 206 d) :: (d, o) :: rest) _ _ _) hS ?_
  clear hS
  intro k1 k2 k3 k4 k5 k6 k7 k8 k9 k10 k11 k12 t1 t2 t5 t6 t7 t8 t10 t11 t12 v3 v4 v9 h3 h4 h9 hS0
  unfold Ctr
  k_fill
  intro dp un gd cn cs a ccd cl outer A₀ base h₀ L m s Q E B F X N T hk hd hu hret
  refine wpAny_call ?_
  k_dflt cell_enter
  k_with_none
  k_with "call ref" => (k_here; k_dflt ((refine' ctr_use (cubicTime_ctr _ _ _ _ _ _ _ _ _ _ _ ?c1 ?c2 ?c3) ?k1 ?k2 ?k3 ?k4 ?k5 ?kK ?kd ?ku ?_); (case k1 => k_asm); (case k2 => k_asm); (case k3 => k_asm); (case k4 => k_asm); (case k5 => k_asm); (case kK => first | exact rfl | assumption); (case kd => first | exact room_of hd rfl | exact Nat.le_of_ble_eq_true rfl | ktr_room); (case ku => first | exact room_of hu rfl | exact Nat.le_of_ble_eq_true rfl | ktr_units); (case c1 => first | assumption | omega); (case c2 => decide); (case c3 => decide); (intro z9 t9 a1 hp9 tk9 F9 N9; (have a2 := a1.1); (have a3 := a1.2.1); (try k_sweep); (try dsimp only); (try k_fold))))
  k_steps
  (refine' snd_ret (hret _ ?a0 ?a1 ?a2 ?a3 ?a4 ?a5 ?a6 ?a7 ?a8 ?a9) ?h3 ?h4 ?h9 ?F ?N; (case F => k_asm); (case N => first | k_asm | exact news_sel4 (by k_asm) (by k_mem) (by k_mem) (by k_mem) (by k_mem) (by first | exact List.forall_mem_nil _ | (intro p9 h9; k_ownIn))); (case h3 => first | assumption | exact valO_some _ _ | exact valO_none); (case h4 => first | assumption | exact valO_some _ _ | exact valO_none); (case h9 => first | assumption | exact valO_some _ _ | exact valO_none); (case a0 => exact rfl); (case a1 => exact rfl); (case a2 => exact rfl); (case a3 => exact rfl); (case a4 => exact rfl); (case a5 => exact rfl); (case a6 => exact rfl); (case a7 => exact a1); (case a8 => exact rfl); (case a9 => exact rfl))
end

section
theorem fdiv_of {n m : Int} (hm : 0 < m) : n.fdiv m * m ≤ n ∧ n < n.fdiv m * m + m := by
  rw [Int.fdiv_eq_ediv_of_nonneg n (by omega)]
  have h1 := Int.mul_ediv_self_le (x := n) (k := m) (by omega)
  have h2 := Int.lt_mul_ediv_self_add (x := n) (k := m) hm
  rw [Int.mul_comm] at h1 h2
  exact ⟨h1, h2⟩
theorem fdiv_nonneg_of {n m : Int} (hn : 0 ≤ n) (hm : 0 < m) : 0 ≤ n.fdiv m := by
  rw [Int.fdiv_eq_ediv_of_nonneg n (by omega)]
  exact Int.ediv_nonneg hn (by omega)
theorem fr_arith {w n m b : Int} (hw : 2400 ≤ w) (hn : 0 ≤ n) (hn1 : n ≤ 64000000) (hm : m = b * w) (hb : 1 ≤ b) (hb1 : b ≤ 17) :
    0 ≤ n.fdiv m ∧ n.fdiv m ≤ 30000 ∧ 0 ≤ n - n.fdiv m * b * w ∧ n - n.fdiv m * b * w ≤ 17 * w := by
  have h1 : w ≤ b * w := by
    have := Int.mul_le_mul_of_nonneg_right hb (show 0 ≤ w by omega)
    omega
  have h2 : b * w ≤ 17 * w := Int.mul_le_mul_of_nonneg_right hb1 (by omega)
  obtain ⟨h3, h4⟩ := fdiv_of (n := n) (m := m) (by omega)
  have h5 := fdiv_nonneg_of (n := n) (m := m) hn (by omega)
  have h6 : n.fdiv m * 2400 ≤ n.fdiv m * m := Int.mul_le_mul_of_nonneg_left (by omega) h5
  have e : n.fdiv m * b * w = n.fdiv m * m := by rw [Int.mul_assoc, ← hm]
  rw [e]
  exact ⟨h5, by omega, by omega, by omega⟩
local macro_rules | `(tactic| k_ne) => `(tactic| first | assumption | exact Ne.symm (by assumption) | exact Nat.ne_of_gt (by assumption) | exact Nat.ne_of_lt (by assumption))
local macro_rules | `(tactic| mul_fits) => `(tactic| first | exact PySem.IntMulOk.of_left (PySem.intBits_le_64 (by decide) (by decide)) | exact PySem.IntMulOk.of_right (PySem.intBits_le_64 (by decide) (by decide)))
local macro_rules | `(tactic| omega) => `(tactic| (k_dflt (law_clear; law_purse 20000 => lia)))
local macro_rules | `(tactic| k_all) => `(tactic| assumption)
set_option maxRecDepth 100000 in
set_option maxHeartbeats 8000000 in
theorem friendly_ctr (w : World) (mean : ExcName → Option Value) (mg mb : Str → Option Value) (x d : Addr) (o : Obj) (e1 e2 : Addr × Obj) (rest : List (Addr × Obj)) (S : Snd) (size : Int) (t : Tok) (hS : IsSnd w.params o S) (hx : @Ne Nat x d) (he1 : @Ne Nat e1.1 d) (he2 : @Ne Nat e2.1 d) (hr : ∀ p ∈ rest, p.1 ≠ d) (hw0 : 2400 ≤ S.w) (hw1 : S.w ≤ 10000000) (hz0 : 0 ≤ size) (hz1 : size ≤ 1200) (hfc0 : 0 ≤ S.fc) (hfc1 : S.fc ≤ 51000000) :
    Ctr w mean mg mb 182 [.ref x, .int size t] (e1 :: e2 :: (x, instObj 206 d) :: (d, o) :: rest) 2 16
      (fun K => ∀ S', S'.w = S.w → S'.thr = S.thr → S'.rv = S.rv → S'.fl = S.fl → S'.cr = S.cr → S'.tw = S.tw → S'.beg = S.beg → S'.mt = S.mt → S.fr ≤ S'.fr → S'.fr ≤ S.fr + 30000 → 0 ≤ S'.fc → S'.fc ≤ 17 * S.w → SndK w.params x d e1 e2 rest K .none S') := by
  refine snd_open (C := fun o => Ctr _ _ _ _ _ _ (e1 :: e2 :: (x, instObj 206 d) :: (d, o) :: rest) _ _ _) hS ?_
  clear hS
  intro k1 k2 k3 k4 k5 k6 k7 k8 k9 k10 k11 k12 t1 t2 t5 t6 t7 t8 t10 t11 t12 v3 v4 v9 h3 h4 h9 hS0
  unfold Ctr
  k_fill
  intro dp un gd cn cs a ccd cl outer A₀ base h₀ L m s Q E B F X N T hk hd hu hret
  refine wpAny_call ?_
  k_dflt cell_enter
  k_with_none
  k_steps
  · have q := fr_arith (n := S.fc + 1 * 1200 * size) (m := 1 * S.w) (b := 1) hw0 (by omega) (by omega) rfl (by omega) (by omega)
    (refine' snd_ret (hret _ ?a0 ?a1 ?a2 ?a3 ?a4 ?a5 ?a6 ?a7 ?a8 ?a9 ?a10 ?a11) ?h3 ?h4 ?h9 ?F ?N; (case F => k_asm); (case N => first | k_asm | exact news_sel4 (by k_asm) (by k_mem) (by k_mem) (by k_mem) (by k_mem) (by first | exact List.forall_mem_nil _ | (intro p9 h9; k_ownIn))); (case h3 => first | assumption | exact valO_some _ _ | exact valO_none); (case h4 => first | assumption | exact valO_some _ _ | exact valO_none); (case h9 => first | assumption | exact valO_some _ _ | exact valO_none); (case a0 => exact rfl); (case a1 => exact rfl); (case a2 => exact rfl); (case a3 => exact rfl); (case a4 => exact rfl); (case a5 => exact rfl); (case a6 => exact rfl); (case a7 => exact rfl); (case a8 => exact Int.le_add_of_nonneg_right q.1); (case a9 => exact Int.add_le_add_left q.2.1 _); (case a10 => exact q.2.2.1); (case a11 => exact q.2.2.2))
  · have q := fr_arith (n := S.fc + 9 * 1200 * size) (m := 17 * S.w) (b := 17) hw0 (by omega) (by omega) rfl (by omega) (by omega)
    (refine' snd_ret (hret _ ?a0 ?a1 ?a2 ?a3 ?a4 ?a5 ?a6 ?a7 ?a8 ?a9 ?a10 ?a11) ?h3 ?h4 ?h9 ?F ?N; (case F => k_asm); (case N => first | k_asm | exact news_sel4 (by k_asm) (by k_mem) (by k_mem) (by k_mem) (by k_mem) (by first | exact List.forall_mem_nil _ | (intro p9 h9; k_ownIn))); (case h3 => first | assumption | exact valO_some _ _ | exact valO_none); (case h4 => first | assumption | exact valO_some _ _ | exact valO_none); (case h9 => first | assumption | exact valO_some _ _ | exact valO_none); (case a0 => exact rfl); (case a1 => exact rfl); (case a2 => exact rfl); (case a3 => exact rfl); (case a4 => exact rfl); (case a5 => exact rfl); (case a6 => exact rfl); (case a7 => exact rfl); (case a8 => exact Int.le_add_of_nonneg_right q.1); (case a9 => exact Int.add_le_add_left q.2.1 _); (case a10 => exact q.2.2.1); (case a11 => exact q.2.2.2))
end

section
theorem delta (w G : Int) (hw : 0 ≤ w) : 0 ≤ (if w + w.fdiv 2 < (if w > G then w else G) then w + w.fdiv 2 else (if w > G then w else G)) - w ∧
    2 * ((if w + w.fdiv 2 < (if w > G then w else G) then w + w.fdiv 2 else (if w > G then w else G)) - w) ≤ w := by
  have := fdiv_two w
  by_cases h : w > G
  · simp only [if_pos h]
    split <;> omega
  · simp only [if_neg h]
    split <;> omega
theorem gc_arith {w cr e size : Int} (hw : 2400 ≤ w) (h0 : 0 ≤ cr) (h1 : cr < w) (he : 0 ≤ e ∧ 2 * e ≤ w) (hs : 0 ≤ size) :
    0 ≤ (cr + e * size).fdiv w ∧ (cr + e * size).fdiv w ≤ size.fdiv 2 + 1 ∧ 0 ≤ cr + e * size - (cr + e * size).fdiv w * w ∧ cr + e * size - (cr + e * size).fdiv w * w < w := by
  have h2 : 0 ≤ e * size := Int.mul_nonneg he.1 hs
  obtain ⟨h3, h4⟩ := fdiv_of (n := cr + e * size) (m := w) (by omega)
  have h5 := fdiv_nonneg_of (n := cr + e * size) (m := w) (by omega) (by omega)
  have h6 : 2 * e * size ≤ w * size := Int.mul_le_mul_of_nonneg_right he.2 hs
  have h7 : 2 * e * size = 2 * (e * size) := Int.mul_assoc ..
  generalize hq : (cr + e * size).fdiv w = q at *
  have h8 : 2 * q < size + 2 := by
    have h9 : (2 * q) * w < (size + 2) * w := by
      have e1 : (2 * q) * w = 2 * (q * w) := Int.mul_assoc ..
      have e2 : (size + 2) * w = w * size + 2 * w := by rw [Int.add_mul, Int.mul_comm size w]
      omega
    exact Int.lt_of_mul_lt_mul_right h9 (by omega)
  have h9 := fdiv_two size
  exact ⟨h5, by omega, by omega, by omega⟩
def Grown (S S' : Snd) (size : Int) : Prop :=
  S'.thr = S.thr ∧ S'.rv = S.rv ∧ S'.fl = S.fl ∧ S'.tw = S.tw ∧ S'.pw = S.pw ∧ S'.beg = S.beg ∧ S'.mt = S.mt ∧ S'.fr = S.fr ∧ S'.fc = S.fc ∧ S.w ≤ S'.w ∧ (S'.w ≤ S.w + size.fdiv 2 + 1 ∨ S'.w = S.fr) ∧ 0 ≤ S'.cr ∧ S'.cr < S'.w
theorem grown_max {S : Snd} {size : Int} (hc0 : 0 ≤ S.cr) (hc1 : S.cr < S.w) (hz0 : 0 ≤ size) :
    Grown S ⟨if S.fr > S.w then S.fr else S.w, S.thr, S.rv, S.fl, S.cr, S.tw, S.pw, S.beg, S.mt, S.fr, S.fc⟩ size := by
  have q := fdiv_two size
  exact ⟨rfl, rfl, rfl, rfl, rfl, rfl, rfl, rfl, rfl, by dsimp only; split <;> omega, by dsimp only; split <;> omega, hc0, by dsimp only; split <;> omega⟩
theorem grown_more {S : Snd} {size e : Int} (hw0 : 2400 ≤ S.w) (hc0 : 0 ≤ S.cr) (hc1 : S.cr < S.w) (hz0 : 0 ≤ size) (he : 0 ≤ e ∧ 2 * e ≤ S.w) :
    Grown S ⟨S.w + (S.cr + e * size).fdiv S.w, S.thr, S.rv, S.fl, S.cr + e * size - (S.cr + e * size).fdiv S.w * S.w, S.tw, S.pw, S.beg, S.mt, S.fr, S.fc⟩ size := by
  have q := gc_arith hw0 hc0 hc1 he hz0
  exact ⟨rfl, rfl, rfl, rfl, rfl, rfl, rfl, rfl, rfl, (by dsimp only; omega), .inl (by dsimp only; omega), q.2.2.1, (by dsimp only; omega)⟩
local macro_rules | `(tactic| k_ne) => `(tactic| first | assumption | exact Ne.symm (by assumption) | exact Nat.ne_of_gt (by assumption) | exact Nat.ne_of_lt (by assumption))
local macro_rules | `(tactic| mul_fits) => `(tactic| first | exact PySem.IntMulOk.of_left (PySem.intBits_le_64 (by decide) (by decide)) | exact PySem.IntMulOk.of_right (PySem.intBits_le_64 (by decide) (by decide)))
local macro_rules | `(tactic| omega) => `(tactic| (k_dflt (law_clear; law_purse 20000 => lia)))
local macro_rules | `(tactic| k_all) => `(tactic| assumption)
set_option maxRecDepth 100000 in
set_option maxHeartbeats 8000000 in
theorem gcubic_ctr (w : World) (mean : ExcName → Option Value) (mg mb : Str → Option Value) (x d : Addr) (o : Obj) (e1 e2 : Addr × Obj) (rest : List (Addr × Obj)) (S : Snd) (size el sm : Int) (t te tm : Tok) (hS : IsSnd w.params o S) (hx : @Ne Nat x d) (he1 : @Ne Nat e1.1 d) (he2 : @Ne Nat e2.1 d) (hr : ∀ p ∈ rest, p.1 ≠ d) (hw0 : 2400 ≤ S.w) (hw1 : S.w ≤ 10000000) (hc0 : 0 ≤ S.cr) (hc1 : S.cr < S.w) (hz0 : 0 ≤ size) (hz1 : size ≤ 1200) (hl0 : 0 ≤ el) (hl1 : el ≤ 10000000) (hm0 : 0 ≤ sm) (hm1 : sm ≤ 50000) (hmt0 : 0 ≤ S.mt) (hmt1 : S.mt ≤ 100000000) :
    Ctr w mean mg mb 189 [.ref x, .int size t, .int el te, .int sm tm] (e1 :: e2 :: (x, instObj 206 d) :: (d, o) :: rest) 4 32
      (fun K => ∀ S', Grown S S' size → SndK w.params x d e1 e2 rest K .none S') := by
  refine snd_open (C := fun o => Ctr _ _ _ _ _ _ (e1 :: e2 :: (x, instObj 206 d) :: (d, o) :: rest) _ _ _) hS ?_
  clear hS
  intro k1 k2 k3 k4 k5 k6 k7 k8 k9 k10 k11 k12 t1 t2 t5 t6 t7 t8 t10 t11 t12 v3 v4 v9 h3 h4 h9 hS0
  unfold Ctr
  k_fill
  intro dp un gd cn cs a ccd cl outer A₀ base h₀ L m s Q E B F X N T hk hd hu hret
  refine wpAny_call ?_
  k_dflt cell_enter
  k_with_none
  k_with "call ref" => (k_here; k_dflt ((refine' ctr_use (cubicWindow_ctr _ _ _ _ _ _ _ _ _ _ _ _ _ ?c1 ?c2 ?c3 ?c4 ?c5 ?c6) ?k1 ?k2 ?k3 ?k4 ?k5 ?kK ?kd ?ku ?_); (case k1 => k_asm); (case k2 => k_asm); (case k3 => k_asm); (case k4 => k_asm); (case k5 => k_asm); (case kK => first | exact rfl | assumption); (case kd => first | exact room_of hd rfl | exact Nat.le_of_ble_eq_true rfl | ktr_room); (case ku => first | exact room_of hu rfl | exact Nat.le_of_ble_eq_true rfl | ktr_units); (case c1 => first | assumption | omega); (case c2 => first | assumption | omega); (case c3 => first | assumption | omega); (case c4 => first | assumption | omega); (case c5 => decide); (case c6 => decide); (intro t9 hp9 tk9 F9 N9; (try k_sweep); (try dsimp only); (try k_fold))))
  k_steps
  · (refine' snd_ret (hret _ ?a0) ?h3 ?h4 ?h9 ?F ?N; (case F => k_asm); (case N => first | k_asm | exact news_sel4 (by k_asm) (by k_mem) (by k_mem) (by k_mem) (by k_mem) (by first | exact List.forall_mem_nil _ | (intro p9 h9; k_ownIn))); (case h3 => first | assumption | exact valO_some _ _ | exact valO_none); (case h4 => first | assumption | exact valO_some _ _ | exact valO_none); (case h9 => first | assumption | exact valO_some _ _ | exact valO_none); (case a0 => exact grown_max hc0 hc1 hz0))
  · (refine' snd_ret (hret _ ?a0) ?h3 ?h4 ?h9 ?F ?N; (case F => k_asm); (case N => first | k_asm | exact news_sel4 (by k_asm) (by k_mem) (by k_mem) (by k_mem) (by k_mem) (by first | exact List.forall_mem_nil _ | (intro p9 h9; k_ownIn))); (case h3 => first | assumption | exact valO_some _ _ | exact valO_none); (case h4 => first | assumption | exact valO_some _ _ | exact valO_none); (case h9 => first | assumption | exact valO_some _ _ | exact valO_none); (case a0 => exact grown_more hw0 hc0 hc1 hz0 (delta S.w _ (by omega))))
end

section
def congested (S : Snd) (now : Int) : Snd :=
  ⟨if 2 * 1200 > (S.w * 7).fdiv 10 then 2 * 1200 else (S.w * 7).fdiv 10, some (if 2 * 1200 > (S.w * 7).fdiv 10 then 2 * 1200 else (S.w * 7).fdiv 10), some now, S.fl, 0,
    if S.w < S.tw then (S.w * (10 + 7)).fdiv (2 * 10) else S.w, S.w, none, S.mt, S.fr, S.fc⟩
local macro_rules | `(tactic| k_ne) => `(tactic| first | assumption | exact Ne.symm (by assumption) | exact Nat.ne_of_gt (by assumption) | exact Nat.ne_of_lt (by assumption))
local macro_rules | `(tactic| mul_fits) => `(tactic| first | exact PySem.IntMulOk.of_left (PySem.intBits_le_64 (by decide) (by decide)) | exact PySem.IntMulOk.of_right (PySem.intBits_le_64 (by decide) (by decide)))
local macro_rules | `(tactic| omega) => `(tactic| (k_dflt (law_clear; law_purse 20000 => lia)))
local macro_rules | `(tactic| k_all) => `(tactic| assumption)
set_option maxRecDepth 100000 in
set_option maxHeartbeats 8000000 in
theorem congest_ctr (w : World) (mean : ExcName → Option Value) (mg mb : Str → Option Value) (x d : Addr) (o : Obj) (e1 e2 : Addr × Obj) (rest : List (Addr × Obj)) (S : Snd) (sent now : Int) (t tn : Tok) (hS : IsSnd w.params o S) (hx : @Ne Nat x d) (he1 : @Ne Nat e1.1 d) (he2 : @Ne Nat e2.1 d) (hr : ∀ p ∈ rest, p.1 ≠ d) :
    Ctr w mean mg mb 196 [.ref x, .int sent t, .int now tn] (e1 :: e2 :: (x, instObj 206 d) :: (d, o) :: rest) 6 64
      (fun K => (inRec S.rv sent = true → SndK w.params x d e1 e2 rest K .none S) ∧ (inRec S.rv sent = false → SndK w.params x d e1 e2 rest K .none (congested S now))) := by
  refine snd_open (C := fun o => Ctr _ _ _ _ _ _ (e1 :: e2 :: (x, instObj 206 d) :: (d, o) :: rest) _ _ _) hS ?_
  clear hS
  intro k1 k2 k3 k4 k5 k6 k7 k8 k9 k10 k11 k12 t1 t2 t5 t6 t7 t8 t10 t11 t12 v3 v4 v9 h3 h4 h9 hS0
  unfold Ctr
  k_fill
  intro dp un gd cn cs a ccd cl outer A₀ base h₀ L m s Q E B F X N T hk hd hu hret
  refine wpAny_call ?_
  k_dflt cell_enter
  k_with_none
  k_with "call ref" => (k_here; k_dflt ((refine' ctr_use (inRec_ctr _ _ _ _ _ _ _ e1 e2 rest _ _ _ ?hS) ?k1 ?k2 ?k3 ?k4 ?k5 ?kK ?kd ?ku ?_); (case k1 => k_asm); (case k2 => k_asm); (case k3 => k_asm); (case k4 => first | k_asm | exact news_sel4 (by assumption) (by k_mem) (by k_mem) (by k_mem) (by k_mem) (by first | exact List.forall_mem_nil _ | (intro p9 h9; k_ownIn))); (case k5 => k_asm); (case kK => first | exact rfl | assumption); (case kd => first | exact room_of hd rfl | exact Nat.le_of_ble_eq_true rfl | ktr_room); (case ku => first | exact room_of hu rfl | exact Nat.le_of_ble_eq_true rfl | ktr_units); (case hS => first | assumption | ((refine' isSnd_mk ?i3 ?i4 ?i9); (case i3 => first | assumption | exact valO_some _ _ | exact valO_none); (case i4 => first | assumption | exact valO_some _ _ | exact valO_none); (case i9 => first | assumption | exact valO_some _ _ | exact valO_none))); (intro  hp9 tk9 F9 N9; (try dsimp only [sdict] at N9); (try k_sweep); (try dsimp only); (try k_fold))))
  k_with "call ref" => (k_here; k_dflt ((refine' ctr_use (least_ctr _ _ _ _ _ _ _) ?k1 ?k2 ?k3 ?k4 ?k5 ?kK ?kd ?ku ?_); (case k1 => k_asm); (case k2 => k_asm); (case k3 => k_asm); (case k4 => k_asm); (case k5 => k_asm); (case kK => first | exact rfl | assumption); (case kd => first | exact room_of hd rfl | exact Nat.le_of_ble_eq_true rfl | ktr_room); (case ku => first | exact room_of hu rfl | exact Nat.le_of_ble_eq_true rfl | ktr_units); (intro t9 hp9 tk9 F9 N9; (try k_sweep); (try dsimp only); (try k_fold))))
  k_steps
  · exact snd_ret (hret.1 (by assumption)) h3 h4 h9 (by k_asm) (by k_asm)
  · have q2 : S.w < S.tw := by assumption
    have hc := hret.2 (by assumption)
    simp only [congested, if_pos q2] at hc
    refine' snd_ret hc ?h3 ?h4 ?h9 ?F ?N; (case F => k_asm); (case N => k_asm); (case h3 => exact valO_some _ _); (case h4 => exact valO_some _ _); (case h9 => exact valO_none)
  · have q2 : ¬ S.w < S.tw := by assumption
    have hc := hret.2 (by assumption)
    simp only [congested, if_neg q2] at hc
    refine' snd_ret hc ?h3 ?h4 ?h9 ?F ?N; (case F => k_asm); (case N => k_asm); (case h3 => exact valO_some _ _); (case h4 => exact valO_some _ _); (case h9 => exact valO_none)
end

section
def AckP (b now : Int) (S S' : Snd) (size sent : Int) (lim : Bool) : Prop :=
  Inv (b + 100000) now S' ∧ S'.fl = S.fl - size ∧ S'.thr = S.thr ∧ S'.rv = S.rv ∧
    (inRec S.rv sent = true ∨ lim = false → S'.w = S.w) ∧ (inRec S.rv sent = false → lim = true → isSlow S.thr S.w = true → S'.w = S.w + size) ∧
    (inRec S.rv sent = false → lim = true → isSlow S.thr S.w = false → S.w ≤ S'.w ∧ (S'.w ≤ S.w + size.fdiv 2 + 1 ∨ S'.w = S'.fr))
theorem ack_still {b now size sent : Int} {S : Snd} {lim : Bool} {bb : Option Int} (hi : Inv b now S) (q : inRec S.rv sent = true ∨ lim = false) (e : S.beg = bb) :
    AckP b now S ⟨S.w, S.thr, S.rv, S.fl - size, S.cr, S.tw, S.pw, bb, S.mt, S.fr, S.fc⟩ size sent lim := by
  subst e
  obtain ⟨i1, i2, i3, i4, i5, i6, i7, i8, i9, i10, i11, i12, i13⟩ := hi
  refine ⟨⟨i1, ?_, i3, i4, i5, ?_, i7, ?_, i9, ?_, i11, i12, i13⟩, rfl, rfl, rfl, fun _ => rfl, fun h1 h2 => ?_, fun h1 h2 => ?_⟩
  · show S.w ≤ _; omega
  · show S.tw ≤ _; omega
  · show S.fr ≤ _; omega
  · show S.fc ≤ _; omega
  · simp [h1, h2] at q
  · simp [h1, h2] at q
theorem ack_slow {b now size sent : Int} {S : Snd} {lim : Bool} {bb : Option Int} (hi : Inv b now S) (q1 : inRec S.rv sent = false) (q2 : lim = true) (q3 : isSlow S.thr S.w = true) (e : S.beg = bb) (hz0 : 0 ≤ size) (hz1 : size ≤ 1200) :
    AckP b now S ⟨S.w + size, S.thr, S.rv, S.fl - size, S.cr, S.tw, S.pw, bb, S.mt, S.fr, S.fc⟩ size sent lim := by
  subst e
  obtain ⟨i1, i2, i3, i4, i5, i6, i7, i8, i9, i10, i11, i12, i13⟩ := hi
  refine ⟨⟨?_, ?_, i3, ?_, i5, ?_, i7, ?_, i9, ?_, i11, i12, i13⟩, rfl, rfl, rfl, fun h => ?_, fun _ _ _ => rfl, fun _ _ h3 => ?_⟩
  · show 2400 ≤ S.w + size; omega
  · show S.w + size ≤ _; omega
  · show S.cr < S.w + size; omega
  · show S.tw ≤ _; omega
  · show S.fr ≤ _; omega
  · show S.fc ≤ _; omega
  · simp [q1, q2] at h
  · rw [q3] at h3; cases h3
theorem ack_grow {b now size sent : Int} {S S1 S2 : Snd} {lim : Bool} (hi : Inv b now S) (q1 : inRec S.rv sent = false) (q2 : lim = true) (q3 : isSlow S.thr S.w = false) (hz0 : 0 ≤ size) (hz1 : size ≤ 1200)
    (hfl : S1.fl = S.fl - size) (hthr : S1.thr = S.thr) (hrv : S1.rv = S.rv) (hw : S1.w = S.w) (ht0 : 0 ≤ S1.tw) (ht1 : S1.tw ≤ b) (hm0 : 0 ≤ S1.mt) (hm1 : S1.mt ≤ 100000000) (hr0 : 0 ≤ S1.fr) (hr1 : S1.fr ≤ b + 30000) (hc0 : 0 ≤ S1.fc) (hc1 : S1.fc ≤ 17 * S.w)
    (hg : ∀ r, S1.beg = some r → 0 ≤ r ∧ r ≤ now) (c : Grown S1 S2 size) : AckP b now S S2 size sent lim := by
  obtain ⟨i1, i2, i3, i4, i5, i6, i7, i8, i9, i10, i11, i12, i13⟩ := hi
  obtain ⟨d1, d2, d3, d4, d5, d6, d7, d8, d9, d10, d11, d12, d13⟩ := c
  have hs := fdiv_two size
  refine ⟨⟨by omega, ?_, d12, d13, by omega, by omega, by omega, by omega, by omega, by omega, by omega, by omega, ?_⟩, by omega, d1.trans hthr, d2.trans hrv, fun h => ?_, fun _ _ h3 => ?_, fun _ _ _ => ⟨by omega, ?_⟩⟩
  · rcases d11 with h | h <;> omega
  · rw [d6]; exact hg
  · simp [q1, q2] at h
  · rw [q3] at h3; cases h3
  · rcases d11 with h | h
    · exact .inl (by omega)
    · exact .inr (by omega)
theorem ack_ge {b now size sent : Int} {S S' : Snd} {lim : Bool} (h : AckP b now S S' size sent lim) (hz0 : 0 ≤ size) : S.w ≤ S'.w := by
  obtain ⟨_, _, _, _, h1, h2, h3⟩ := h
  cases e1 : inRec S.rv sent
  · cases e2 : lim
    · have := h1 (.inr e2); omega
    · cases e3 : isSlow S.thr S.w
      · exact (h3 e1 e2 e3).1
      · have := h2 e1 e2 e3; omega
  · have := h1 (.inl e1); omega
local macro_rules | `(tactic| k_ne) => `(tactic| first | assumption | exact Ne.symm (by assumption) | exact Nat.ne_of_gt (by assumption) | exact Nat.ne_of_lt (by assumption))
local macro_rules | `(tactic| mul_fits) => `(tactic| first | exact PySem.IntMulOk.of_left (PySem.intBits_le_64 (by decide) (by decide)) | exact PySem.IntMulOk.of_right (PySem.intBits_le_64 (by decide) (by decide)))
local macro_rules | `(tactic| omega) => `(tactic| (k_dflt (law_clear; law_purse 20000 => lia)))
local macro_rules | `(tactic| k_all) => `(tactic| assumption)
set_option maxRecDepth 100000 in
set_option maxHeartbeats 8000000 in
theorem onAcked_ctr (w : World) (mean : ExcName → Option Value) (mg mb : Str → Option Value) (x d : Addr) (o : Obj) (e1 e2 : Addr × Obj) (rest : List (Addr × Obj)) (S : Snd) (size sent now sm : Int) (lim : Bool) (t ts tn tm : Tok) (hS : IsSnd w.params o S) (hx : @Ne Nat x d) (he1 : @Ne Nat e1.1 d) (he2 : @Ne Nat e2.1 d) (hr : ∀ p ∈ rest, p.1 ≠ d) (b : Int) (hi : Inv b now S) (hb : b ≤ 2900000) (hn0 : 0 ≤ now) (hn1 : now ≤ 10000000) (hz0 : 0 ≤ size) (hz1 : size ≤ 1200) (hm0 : 0 ≤ sm) (hm1 : sm ≤ 50000) :
    Ctr w mean mg mb 168 [.ref x, .int size t, .int sent ts, .bool lim, .int now tn, .int sm tm] (e1 :: e2 :: (x, instObj 206 d) :: (d, o) :: rest) 10 128
      (fun K => ∀ S', AckP b now S S' size sent lim → SndK w.params x d e1 e2 rest K .none S') := by
  have hi9 := hi
  obtain ⟨i1, i2, i3, i4, i5, i6, i7, i8, i9, i10, i11, i12, i13⟩ := hi
  refine snd_open (C := fun o => Ctr _ _ _ _ _ _ (e1 :: e2 :: (x, instObj 206 d) :: (d, o) :: rest) _ _ _) hS ?_
  clear hS
  intro k1 k2 k3 k4 k5 k6 k7 k8 k9 k10 k11 k12 t1 t2 t5 t6 t7 t8 t10 t11 t12 v3 v4 v9 h3 h4 h9 hS0
  unfold Ctr
  k_fill
  intro dp un gd cn cs a ccd cl outer A₀ base h₀ L m s Q E B F X N T hk hd hu hret
  refine wpAny_call ?_
  k_dflt cell_enter
  k_with_none
  k_with "call ref" => (k_here; k_dflt ((refine' ctr_use (inRec_ctr _ _ _ _ _ _ _ e1 e2 rest _ _ _ ?hS) ?k1 ?k2 ?k3 ?k4 ?k5 ?kK ?kd ?ku ?_); (case k1 => k_asm); (case k2 => k_asm); (case k3 => k_asm); (case k4 => first | k_asm | exact news_sel4 (by assumption) (by k_mem) (by k_mem) (by k_mem) (by k_mem) (by first | exact List.forall_mem_nil _ | (intro p9 h9; k_ownIn))); (case k5 => k_asm); (case kK => first | exact rfl | assumption); (case kd => first | exact room_of hd rfl | exact Nat.le_of_ble_eq_true rfl | ktr_room); (case ku => first | exact room_of hu rfl | exact Nat.le_of_ble_eq_true rfl | ktr_units); (case hS => first | assumption | ((refine' isSnd_mk ?i3 ?i4 ?i9); (case i3 => first | assumption | exact valO_some _ _ | exact valO_none); (case i4 => first | assumption | exact valO_some _ _ | exact valO_none); (case i9 => first | assumption | exact valO_some _ _ | exact valO_none))); (intro  hp9 tk9 F9 N9; (try dsimp only [sdict] at N9); (try k_sweep); (try dsimp only); (try k_fold))))
  k_with "call ref" => (k_here; k_dflt ((refine' ctr_use (isSlow_ctr _ _ _ _ _ _ _ e1 e2 rest _ ?hS) ?k1 ?k2 ?k3 ?k4 ?k5 ?kK ?kd ?ku ?_); (case k1 => k_asm); (case k2 => k_asm); (case k3 => k_asm); (case k4 => first | k_asm | exact news_sel4 (by assumption) (by k_mem) (by k_mem) (by k_mem) (by k_mem) (by first | exact List.forall_mem_nil _ | (intro p9 h9; k_ownIn))); (case k5 => k_asm); (case kK => first | exact rfl | assumption); (case kd => first | exact room_of hd rfl | exact Nat.le_of_ble_eq_true rfl | ktr_room); (case ku => first | exact room_of hu rfl | exact Nat.le_of_ble_eq_true rfl | ktr_units); (case hS => first | assumption | ((refine' isSnd_mk ?i3 ?i4 ?i9); (case i3 => first | assumption | exact valO_some _ _ | exact valO_none); (case i4 => first | assumption | exact valO_some _ _ | exact valO_none); (case i9 => first | assumption | exact valO_some _ _ | exact valO_none))); (intro  hp9 tk9 F9 N9; (try dsimp only [sdict] at N9); (try k_sweep); (try dsimp only); (try k_fold))))
  k_with "call ref" => (k_here; k_dflt ((refine' ctr_use (begin_ctr _ _ _ _ _ _ _ e1 e2 rest _ _ _ ?hS ?hx ?he1 ?he2 ?hr ?hb) ?k1 ?k2 ?k3 ?k4 ?k5 ?kK ?kd ?ku ?_); (case k1 => k_asm); (case k2 => k_asm); (case k3 => k_asm); (case k4 => first | k_asm | exact news_sel4 (by assumption) (by k_mem) (by k_mem) (by k_mem) (by k_mem) (by first | exact List.forall_mem_nil _ | (intro p9 h9; k_ownIn))); (case k5 => k_asm); (case kK => first | exact rfl | assumption); (case kd => first | exact room_of hd rfl | exact Nat.le_of_ble_eq_true rfl | ktr_room); (case ku => first | exact room_of hu rfl | exact Nat.le_of_ble_eq_true rfl | ktr_units); (case hS => first | assumption | ((refine' isSnd_mk ?i3 ?i4 ?i9); (case i3 => first | assumption | exact valO_some _ _ | exact valO_none); (case i4 => first | assumption | exact valO_some _ _ | exact valO_none); (case i9 => first | assumption | exact valO_some _ _ | exact valO_none))); (case hx => assumption); (case he1 => assumption); (case he2 => assumption); (case hr => assumption); (case hb => (try dsimp only); first | assumption | omega); (intro S9 b1 b2 b3 b4 b5 b6 b8 b9 b10 b11 p1 p2 p3 p4 p5 p6 p7 p8 p9 p10 p11 p12 q1 q2 q5 q6 q7 q8 q10 q11 q12 u3 u4 u9 g3 g4 g9 hS8 hp9 tk9 F9 N9; (try dsimp only at b1 b2 b3 b4 b5 b6 b8 b9 b10 b11); (obtain ⟨tb9, rfl⟩ := valO_int g9 b8); (have b12 := b9.1); (have b13 := b9.2.1); (try dsimp only [sdict] at N9); (try k_sweep); (try dsimp only); (try k_fold))))
  k_with "call ref" => (k_here; k_dflt ((refine' ctr_use (friendly_ctr _ _ _ _ _ _ _ e1 e2 rest _ _ _ ?hS ?hx ?he1 ?he2 ?hr ?h1 ?h2 ?h3 ?h4 ?h5 ?h6) ?k1 ?k2 ?k3 ?k4 ?k5 ?kK ?kd ?ku ?_); (case k1 => k_asm); (case k2 => k_asm); (case k3 => k_asm); (case k4 => first | k_asm | exact news_sel4 (by assumption) (by k_mem) (by k_mem) (by k_mem) (by k_mem) (by first | exact List.forall_mem_nil _ | (intro p9 h9; k_ownIn))); (case k5 => k_asm); (case kK => first | exact rfl | assumption); (case kd => first | exact room_of hd rfl | exact Nat.le_of_ble_eq_true rfl | ktr_room); (case ku => first | exact room_of hu rfl | exact Nat.le_of_ble_eq_true rfl | ktr_units); (case hS => first | assumption | ((refine' isSnd_mk ?i3 ?i4 ?i9); (case i3 => first | assumption | exact valO_some _ _ | exact valO_none); (case i4 => first | assumption | exact valO_some _ _ | exact valO_none); (case i9 => first | assumption | exact valO_some _ _ | exact valO_none))); (case hx => assumption); (case he1 => assumption); (case he2 => assumption); (case hr => assumption); (case h1 => (try dsimp only); first | assumption | omega); (case h2 => (try dsimp only); first | assumption | omega); (case h3 => (try dsimp only); first | assumption | omega); (case h4 => (try dsimp only); first | assumption | omega); (case h5 => (try dsimp only); first | assumption | omega); (case h6 => (try dsimp only); first | assumption | omega); (intro S9 f1 f2 f3 f4 f5 f6 f8 f9 f10 f11 f12 f13 p1 p2 p3 p4 p5 p6 p7 p8 p9 p10 p11 p12 q1 q2 q5 q6 q7 q8 q10 q11 q12 u3 u4 u9 g3 g4 g9 hS8 hp9 tk9 F9 N9; (try dsimp only at f1 f2 f3 f4 f5 f6 f8 f9 f10 f11 f12 f13); (first | (obtain ⟨tb9, rfl⟩ := valO_int g9 f8) | (obtain ⟨tb9, rfl⟩ := valO_int g9 (f8.trans (by assumption)))); (try dsimp only [sdict] at N9); (try k_sweep); (try dsimp only); (try k_fold))))
  k_with "call ref" => (k_here; k_dflt ((refine' ctr_use (gcubic_ctr _ _ _ _ _ _ _ e1 e2 rest _ _ _ _ _ _ _ ?hS ?hx ?he1 ?he2 ?hr ?h1 ?h2 ?h3 ?h4 ?h5 ?h6 ?h7 ?h8 ?h9 ?h10 ?h11 ?h12) ?k1 ?k2 ?k3 ?k4 ?k5 ?kK ?kd ?ku ?_); (case k1 => k_asm); (case k2 => k_asm); (case k3 => k_asm); (case k4 => first | k_asm | exact news_sel4 (by assumption) (by k_mem) (by k_mem) (by k_mem) (by k_mem) (by first | exact List.forall_mem_nil _ | (intro p9 h9; k_ownIn))); (case k5 => k_asm); (case kK => first | exact rfl | assumption); (case kd => first | exact room_of hd rfl | exact Nat.le_of_ble_eq_true rfl | ktr_room); (case ku => first | exact room_of hu rfl | exact Nat.le_of_ble_eq_true rfl | ktr_units); (case hS => first | assumption | ((refine' isSnd_mk ?i3 ?i4 ?i9); (case i3 => first | assumption | exact valO_some _ _ | exact valO_none); (case i4 => first | assumption | exact valO_some _ _ | exact valO_none); (case i9 => first | assumption | exact valO_some _ _ | exact valO_none))); (case hx => assumption); (case he1 => assumption); (case he2 => assumption); (case hr => assumption); (case h1 => (try dsimp only); first | assumption | omega); (case h2 => (try dsimp only); first | assumption | omega); (case h3 => (try dsimp only); first | assumption | omega); (case h4 => (try dsimp only); first | assumption | omega); (case h5 => (try dsimp only); first | assumption | omega); (case h6 => (try dsimp only); first | assumption | omega); (case h7 => (try dsimp only); first | assumption | omega); (case h8 => (try dsimp only); first | assumption | omega); (case h9 => (try dsimp only); first | assumption | omega); (case h10 => (try dsimp only); first | assumption | omega); (case h11 => (try dsimp only); first | assumption | omega); (case h12 => (try dsimp only); first | assumption | omega); (intro S9 c1 p1 p2 p3 p4 p5 p6 p7 p8 p9 p10 p11 p12 q1 q2 q5 q6 q7 q8 q10 q11 q12 u3 u4 u9 g3 g4 g9 hS8 hp9 tk9 F9 N9; (try dsimp only [sdict] at N9); (try k_sweep); (try dsimp only); (try k_fold))))
  k_steps
  · (refine' snd_ret (hret _ ?a0) ?h3 ?h4 ?h9 ?F ?N; (case F => k_asm); (case N => first | k_asm | exact news_sel4 (by k_asm) (by k_mem) (by k_mem) (by k_mem) (by k_mem) (by first | exact List.forall_mem_nil _ | (intro p9 h9; k_ownIn))); (case h3 => first | assumption | exact valO_some _ _ | exact valO_none); (case h4 => first | assumption | exact valO_some _ _ | exact valO_none); (case h9 => first | assumption | exact valO_some _ _ | exact valO_none); (case a0 => exact ack_still hi9 (.inl (by assumption)) rfl))
  · (refine' snd_ret (hret _ ?a0) ?h3 ?h4 ?h9 ?F ?N; (case F => k_asm); (case N => first | k_asm | exact news_sel4 (by k_asm) (by k_mem) (by k_mem) (by k_mem) (by k_mem) (by first | exact List.forall_mem_nil _ | (intro p9 h9; k_ownIn))); (case h3 => first | assumption | exact valO_some _ _ | exact valO_none); (case h4 => first | assumption | exact valO_some _ _ | exact valO_none); (case h9 => first | assumption | exact valO_some _ _ | exact valO_none); (case a0 => exact ack_slow hi9 (by assumption) (by assumption) (by assumption) rfl hz0 hz1))
  · obtain ⟨rfl, e⟩ | ⟨bg, tb, rfl, e⟩ := h9
    · k_steps
      exact hret _ (ack_grow hi9 (by assumption) (by assumption) (by assumption) hz0 hz1 (f4.trans b4) (f2.trans b2) (f3.trans b3) (f1.trans b1) (by rw [f6, b6]; split <;> omega) (by rw [f6, b6]; split <;> omega) (by omega) (by omega) (by omega) (by omega) f12 (by omega)
        (fun r hr9 => by rw [f8, b8] at hr9; cases hr9; exact ⟨hn0, Int.le_refl _⟩) c1) _ _ _ _ _ _ _ _ _ _ _ _ _ _ _ _ _ _ _ _ _ _ _ _ g3 g4 g9 hS8 _ _ (by k_asm) (by k_asm)
    · have ebg := i13 _ e
      k_steps
      exact hret _ (ack_grow hi9 (by assumption) (by assumption) (by assumption) hz0 hz1 f4 f2 f3 f1 (by omega) (by omega) (by omega) (by omega) (by omega) (by omega) f12 f13
        (fun r hr9 => by rw [f8] at hr9; cases hr9; exact ebg) c1) _ _ _ _ _ _ _ _ _ _ _ _ _ _ _ _ _ _ _ _ _ _ _ _ g3 g4 g9 hS8 _ _ (by k_asm) (by k_asm)
  · (refine' snd_ret (hret _ ?a0) ?h3 ?h4 ?h9 ?F ?N; (case F => k_asm); (case N => first | k_asm | exact news_sel4 (by k_asm) (by k_mem) (by k_mem) (by k_mem) (by k_mem) (by first | exact List.forall_mem_nil _ | (intro p9 h9; k_ownIn))); (case h3 => first | assumption | exact valO_some _ _ | exact valO_none); (case h4 => first | assumption | exact valO_some _ _ | exact valO_none); (case h9 => first | assumption | exact valO_some _ _ | exact valO_none); (case a0 => exact ack_still hi9 (.inr (by assumption)) rfl))
end

section
theorem still_of {a lim : Bool} (h : (a || !lim) = true) : a = true ∨ lim = false := by cases a <;> cases lim <;> simp_all
theorem still_not {a lim : Bool} (h : (a || !lim) = false) : a = false ∧ lim = true := by cases a <;> cases lim <;> simp_all
local macro_rules | `(tactic| k_ne) => `(tactic| first | assumption | exact Ne.symm (by assumption) | exact Nat.ne_of_gt (by assumption) | exact Nat.ne_of_lt (by assumption))
local macro_rules | `(tactic| mul_fits) => `(tactic| first | exact PySem.IntMulOk.of_left (PySem.intBits_le_64 (by decide) (by decide)) | exact PySem.IntMulOk.of_right (PySem.intBits_le_64 (by decide) (by decide)))
local macro_rules | `(tactic| omega) => `(tactic| (k_dflt (law_clear; law_purse 20000 => lia)))
local macro_rules | `(tactic| k_all) => `(tactic| assumption)
theorem lacked_end {P : Params} {x d : Addr} {e1 e2 : Addr × Obj} {rest : List (Addr × Obj)} {h₀ : Heap} {L : Addr} {m : Str → Option Value} {s : Shared} {Q : Value → Shared → Prop} {h' : Heap} {tk' : Nat} {S' : Snd} {b now : Int} {v : Bool}
    {k1 k2 k3 k4 k5 k6 k7 k8 k9 k10 k11 k12 t1 t2 t5 t6 t7 t8 t10 t11 t12 : Tok} {v3 v4 v9 : Value}
    (hret : ∀ S', Inv b now S' → SndK P x d e1 e2 rest (Back h₀ L m s Q) (.bool true) S') (hi : Inv b now S') (h3 : ValO v3 S'.thr) (h4 : ValO v4 S'.rv) (h9 : ValO v9 S'.beg)
    (hS : IsSnd P (sdict P k1 k2 k3 k4 k5 k6 k7 k8 k9 k10 k11 k12 (.int 1200 t1) (.int S'.w t2) v3 v4 (.int S'.fl t5) (.int S'.cr t6) (.int S'.tw t7) (.int S'.pw t8) v9 (.int S'.mt t10) (.int S'.fr t11) (.int S'.fc t12)) S')
    (F : Fr h₀ L h' m)
    (N : News h₀ L h' (e1 :: e2 :: (x, instObj 206 d) :: (d, sdict P k1 k2 k3 k4 k5 k6 k7 k8 k9 k10 k11 k12 (.int 1200 t1) (.int S'.w t2) v3 v4 (.int S'.fl t5) (.int S'.cr t6) (.int S'.tw t7) (.int S'.pw t8) v9 (.int S'.mt t10) (.int S'.fr t11) (.int S'.fc t12)) :: rest))
    (hv : v = true) : Q (.bool v) { s with heap := h', toks := tk' } := by
  subst hv
  exact hret S' hi k1 k2 k3 k4 k5 k6 k7 k8 k9 k10 k11 k12 t1 t2 t5 t6 t7 t8 t10 t11 t12 v3 v4 v9 h3 h4 h9 hS h' tk' F N
set_option maxRecDepth 100000 in
set_option maxHeartbeats 8000000 in
theorem lawAcked_ctr (w : World) (mean : ExcName → Option Value) (mg mb : Str → Option Value) (x d : Addr) (o : Obj) (e1 e2 : Addr × Obj) (rest : List (Addr × Obj)) (S : Snd) (size sent now sm : Int) (lim : Bool) (t ts tn tm : Tok) (hS : IsSnd w.params o S) (hx : @Ne Nat x d) (he1 : @Ne Nat e1.1 d) (he2 : @Ne Nat e2.1 d) (hr : ∀ p ∈ rest, p.1 ≠ d) (b : Int) (hi : Inv b now S) (hb : b ≤ 2900000) (hn0 : 0 ≤ now) (hn1 : now ≤ 10000000) (hz0 : 0 ≤ size) (hz1 : size ≤ 1200) (hm0 : 0 ≤ sm) (hm1 : sm ≤ 50000) :
    Ctr w mean mg mb 236 [.ref x, .int size t, .int sent ts, .bool lim, .int now tn, .int sm tm] (e1 :: e2 :: (x, instObj 206 d) :: (d, o) :: rest) 14 192
      (fun K => ∀ S', Inv (b + 100000) now S' → SndK w.params x d e1 e2 rest K (.bool true) S') := by
  refine snd_open (C := fun o => Ctr _ _ _ _ _ _ (e1 :: e2 :: (x, instObj 206 d) :: (d, o) :: rest) _ _ _) hS ?_
  clear hS
  intro k1 k2 k3 k4 k5 k6 k7 k8 k9 k10 k11 k12 t1 t2 t5 t6 t7 t8 t10 t11 t12 v3 v4 v9 h3 h4 h9 hS0
  unfold Ctr
  k_fill
  intro dp un gd cn cs a ccd cl outer A₀ base h₀ L m s Q E B F X N T hk hd hu hret
  refine wpAny_call ?_
  k_dflt cell_enter
  k_with_none
  k_with "eval BoolOp" => (refine stop_here ?_)
  k_steps
  unfold Stop
  refine' merge_test (.bool (inRec S.rv sent || !lim)) ?t1 (fun tk0 => ?_)
  (case t1 =>
    k_with_none
    obtain ⟨rfl, ev⟩ | ⟨i4, t4, rfl, ev⟩ := h4
    · k_steps
      all_goals (refine' same_of (congrArg Value.bool (?_ : (_ : Bool) = _)); rw [ev]; rfl)
    · k_steps
      all_goals (refine' same_of (congrArg Value.bool (?_ : (_ : Bool) = _)); rw [ev]; show _ = (decide (sent ≤ i4) || !lim); first
        | (rw [decide_eq_true (show sent ≤ i4 by assumption)]; rfl)
        | (rw [decide_eq_false (show ¬ sent ≤ i4 by assumption)]; rfl)))
  k_with "eval BoolOp" => (refine stop_here ?_)
  k_steps
  unfold Stop
  refine' merge_test (.bool (isSlow S.thr S.w)) ?t2 (fun tk00 => ?_)
  (case t2 =>
    k_with_none
    obtain ⟨rfl, ev⟩ | ⟨i3, t3, rfl, ev⟩ := h3
    · k_steps
      all_goals (refine' same_of (congrArg Value.bool (?_ : (_ : Bool) = _)); rw [ev]; rfl)
    · k_steps
      all_goals (refine' same_of (congrArg Value.bool (?_ : (_ : Bool) = _)); rw [ev]; rfl))
  k_with_none
  k_with "call ref" => (k_here; k_dflt ((refine' ctr_use (onAcked_ctr _ _ _ _ _ _ _ e1 e2 rest _ _ _ _ _ _ _ _ _ _ ?hS ?hx ?he1 ?he2 ?hr _ ?h1 ?h2 ?h3 ?h4 ?h5 ?h6 ?h7 ?h8) ?k1 ?k2 ?k3 ?k4 ?k5 ?kK ?kd ?ku ?_); (case k1 => k_asm); (case k2 => k_asm); (case k3 => k_asm); (case k4 => first | k_asm | exact news_sel4 (by assumption) (by k_mem) (by k_mem) (by k_mem) (by k_mem) (by first | exact List.forall_mem_nil _ | (intro p9 h9; k_ownIn))); (case k5 => k_asm); (case kK => first | exact rfl | assumption); (case kd => first | exact room_of hd rfl | exact Nat.le_of_ble_eq_true rfl | ktr_room); (case ku => first | exact room_of hu rfl | exact Nat.le_of_ble_eq_true rfl | ktr_units); (case hS => first | assumption | ((refine' isSnd_mk ?i3 ?i4 ?i9); (case i3 => first | assumption | exact valO_some _ _ | exact valO_none); (case i4 => first | assumption | exact valO_some _ _ | exact valO_none); (case i9 => first | assumption | exact valO_some _ _ | exact valO_none))); (case hx => assumption); (case he1 => assumption); (case he2 => assumption); (case hr => assumption); (case h1 => (try dsimp only); first | assumption | omega); (case h2 => (try dsimp only); first | assumption | omega); (case h3 => (try dsimp only); first | assumption | omega); (case h4 => (try dsimp only); first | assumption | omega); (case h5 => (try dsimp only); first | assumption | omega); (case h6 => (try dsimp only); first | assumption | omega); (case h7 => (try dsimp only); first | assumption | omega); (case h8 => (try dsimp only); first | assumption | omega); (intro S9 ha p1 p2 p3 p4 p5 p6 p7 p8 p9 p10 p11 p12 q1 q2 q5 q6 q7 q8 q10 q11 q12 u3 u4 u9 g3 g4 g9 hS8 hp9 tk9 F9 N9; (have hge := ack_ge ha (by assumption)); (obtain ⟨ai, a1, a2, a3, a4, a5, a6⟩ := ha); (try dsimp only [sdict] at N9); (try k_sweep); (try dsimp only); (try k_fold))))
  k_steps
  all_goals first
    | exact lacked_end hret ai g3 g4 g9 hS8 (by k_asm) (by first | k_asm | exact news_sel4 (by k_asm) (by k_mem) (by k_mem) (by k_mem) (by k_mem) (by first | exact List.forall_mem_nil _ | (intro p9 h9; k_ownIn))) (beq_iff_eq.mpr (a4 (still_of (by assumption))))
    | exact lacked_end hret ai g3 g4 g9 hS8 (by k_asm) (by first | k_asm | exact news_sel4 (by k_asm) (by k_mem) (by k_mem) (by k_mem) (by k_mem) (by first | exact List.forall_mem_nil _ | (intro p9 h9; k_ownIn))) (beq_iff_eq.mpr (a5 (still_not (by assumption)).1 (still_not (by assumption)).2 (by assumption)))
    | exact lacked_end hret ai g3 g4 g9 hS8 (by k_asm) (by first | k_asm | exact news_sel4 (by k_asm) (by k_mem) (by k_mem) (by k_mem) (by k_mem) (by first | exact List.forall_mem_nil _ | (intro p9 h9; k_ownIn))) (decide_eq_true (by assumption))
    | exact lacked_end hret ai g3 g4 g9 hS8 (by k_asm) (by first | k_asm | exact news_sel4 (by k_asm) (by k_mem) (by k_mem) (by k_mem) (by k_mem) (by first | exact List.forall_mem_nil _ | (intro p9 h9; k_ownIn))) (beq_iff_eq.mpr ((a6 (still_not (by assumption)).1 (still_not (by assumption)).2 (by assumption)).2.resolve_left (by assumption)))
    | exact absurd a1 (by assumption)
end

section
theorem inv_mono {b now : Int} {S : Snd} (h : Inv b now S) : Inv (b + 100000) now S := by
  obtain ⟨i1, i2, i3, i4, i5, i6, i7, i8, i9, i10, i11, i12, i13⟩ := h
  exact ⟨i1, by omega, i3, i4, i5, by omega, i7, by omega, i9, by omega, i11, i12, i13⟩
theorem inv_cong {b now : Int} {S : Snd} (h : Inv b now S) : Inv (b + 100000) now (congested S now) := by
  obtain ⟨i1, i2, i3, i4, i5, i6, i7, i8, i9, i10, i11, i12, i13⟩ := h
  have h1 := fdiv_of (n := S.w * 7) (m := 10) (by omega)
  have h2 := fdiv_of (n := S.w * (10 + 7)) (m := 2 * 10) (by omega)
  refine ⟨?_, ?_, by show (0 : Int) ≤ 0; omega, ?_, ?_, ?_, i7, by show S.fr ≤ _; omega, i9, by show S.fc ≤ _; omega, i11, i12, fun r hr => by cases hr⟩ <;> simp only [congested] <;> split <;> omega
local macro_rules | `(tactic| k_ne) => `(tactic| first | assumption | exact Ne.symm (by assumption) | exact Nat.ne_of_gt (by assumption) | exact Nat.ne_of_lt (by assumption))
local macro_rules | `(tactic| mul_fits) => `(tactic| first | exact PySem.IntMulOk.of_left (PySem.intBits_le_64 (by decide) (by decide)) | exact PySem.IntMulOk.of_right (PySem.intBits_le_64 (by decide) (by decide)))
local macro_rules | `(tactic| omega) => `(tactic| (k_dflt (law_clear; law_purse 20000 => lia)))
local macro_rules | `(tactic| k_all) => `(tactic| assumption)
local macro_rules | `(tactic| k_handed) => `(tactic| exact valO_handed (by assumption))
set_option maxRecDepth 100000 in
set_option maxHeartbeats 8000000 in
theorem lawCong_ctr (w : World) (mean : ExcName → Option Value) (mg mb : Str → Option Value) (x d : Addr) (o : Obj) (e1 e2 : Addr × Obj) (rest : List (Addr × Obj)) (S : Snd) (sent now : Int) (t tn : Tok) (hS : IsSnd w.params o S) (hx : @Ne Nat x d) (he1 : @Ne Nat e1.1 d) (he2 : @Ne Nat e2.1 d) (hr : ∀ p ∈ rest, p.1 ≠ d) (b : Int) (hi : Inv b now S) (hb : b ≤ 2900000) (hn0 : 0 ≤ now) (hn1 : now ≤ 10000000) :
    Ctr w mean mg mb 243 [.ref x, .int sent t, .int now tn] (e1 :: e2 :: (x, instObj 206 d) :: (d, o) :: rest) 10 128
      (fun K => ∀ S', Inv (b + 100000) now S' → SndK w.params x d e1 e2 rest K (.bool true) S') := by
  refine snd_open (C := fun o => Ctr _ _ _ _ _ _ (e1 :: e2 :: (x, instObj 206 d) :: (d, o) :: rest) _ _ _) hS ?_
  clear hS
  intro k1 k2 k3 k4 k5 k6 k7 k8 k9 k10 k11 k12 t1 t2 t5 t6 t7 t8 t10 t11 t12 v3 v4 v9 h3 h4 h9 hS0
  unfold Ctr
  k_fill
  intro dp un gd cn cs a ccd cl outer A₀ base h₀ L m s Q E B F X N T hk hd hu hret
  refine wpAny_call ?_
  k_dflt cell_enter
  k_with_none
  k_with "call ref" => (k_here; k_dflt ((refine' ctr_use (congest_ctr _ _ _ _ _ _ _ e1 e2 rest _ _ _ _ _ ?hS ?hx ?he1 ?he2 ?hr) ?k1 ?k2 ?k3 ?k4 ?k5 ?kK ?kd ?ku ?_); (case k1 => k_asm); (case k2 => k_asm); (case k3 => k_asm); (case k4 => first | k_asm | exact news_sel4 (by assumption) (by k_mem) (by k_mem) (by k_mem) (by k_mem) (by first | exact List.forall_mem_nil _ | (intro p9 h9; k_ownIn))); (case k5 => k_asm); (case kK => first | exact rfl | assumption); (case kd => first | exact room_of hd rfl | exact Nat.le_of_ble_eq_true rfl | ktr_room); (case ku => first | exact room_of hu rfl | exact Nat.le_of_ble_eq_true rfl | ktr_units); (case hS => first | assumption | ((refine' isSnd_mk ?i3 ?i4 ?i9); (case i3 => first | assumption | exact valO_some _ _ | exact valO_none); (case i4 => first | assumption | exact valO_some _ _ | exact valO_none); (case i9 => first | assumption | exact valO_some _ _ | exact valO_none))); (case hx => assumption); (case he1 => assumption); (case he2 => assumption); (case hr => assumption); (refine' ⟨fun hq => ?_, fun hq => ?_⟩; all_goals (intro p1 p2 p3 p4 p5 p6 p7 p8 p9 p10 p11 p12 q1 q2 q5 q6 q7 q8 q10 q11 q12 u3 u4 u9 g3 g4 g9 hS8 hp9 tk9 F9 N9; (first | (obtain ⟨tu3, rfl⟩ := valO_int g3 rfl; obtain ⟨tu4, rfl⟩ := valO_int g4 rfl) | skip); (try dsimp only [sdict, congested] at N9); (try k_sweep); (try dsimp only); (try k_fold)))))
  k_with "isTrue BoolOp" => (refine stop_here ?_)
  k_steps
  · unfold Stop
    k_with_none
    obtain ⟨rfl, ev⟩ | ⟨i4, t4, rfl, ev⟩ := h4
    · rw [ev] at hq; cases hq
    · obtain ⟨tu4, rfl⟩ := valO_int g4 ev
      have hq2 : sent ≤ i4 := by rw [ev] at hq; exact of_decide_eq_true hq
      k_steps
      exact lacked_end hret (inv_mono hi) g3 g4 g9 hS8 (by k_asm) (by first | k_asm | exact news_sel4 (by k_asm) (by k_mem) (by k_mem) (by k_mem) (by k_mem) (by first | exact List.forall_mem_nil _ | (intro p9 h9; k_ownIn))) rfl
  · unfold Stop
    refine' merge_test false ?t1 (fun tk0 => ?_)
    (case t1 =>
      k_with_none
      obtain ⟨rfl, ev⟩ | ⟨i4, t4, rfl, ev⟩ := h4
      · k_steps
        exact same_of rfl
      · have hq2 : ¬ sent ≤ i4 := by rw [ev] at hq; exact of_decide_eq_false hq
        k_steps
        exact same_of rfl)
    k_steps
    · exact lacked_end hret (inv_cong hi) g3 g4 g9 hS8 (by k_asm) (by first | k_asm | exact news_sel4 (by k_asm) (by k_mem) (by k_mem) (by k_mem) (by k_mem) (by first | exact List.forall_mem_nil _ | (intro p9 h9; k_ownIn))) (by rw [if_pos (by assumption)]; exact beq_self_eq_true _)
    · exact lacked_end hret (inv_cong hi) g3 g4 g9 hS8 (by k_asm) (by first | k_asm | exact news_sel4 (by k_asm) (by k_mem) (by k_mem) (by k_mem) (by k_mem) (by first | exact List.forall_mem_nil _ | (intro p9 h9; k_ownIn))) (by rw [if_neg (by assumption)]; exact beq_self_eq_true _)
end

section
def persisted (S : Snd) : Snd := ⟨2 * 1200, S.thr, none, S.fl, 0, S.tw, S.pw, none, S.mt, S.fr, S.fc⟩
theorem inv_persist {b now : Int} {S : Snd} (h : Inv b now S) : Inv (b + 100000) now (persisted S) := by
  obtain ⟨i1, i2, i3, i4, i5, i6, i7, i8, i9, i10, i11, i12, i13⟩ := h
  exact ⟨by show (2400 : Int) ≤ 2 * 1200; omega, by show (2 * 1200 : Int) ≤ _; omega, by show (0 : Int) ≤ 0; omega, by show (0 : Int) < 2 * 1200; omega, i5, by show S.tw ≤ _; omega, i7, by show S.fr ≤ _; omega, i9, by show S.fc ≤ _; omega, i11, i12, fun r hr => by cases hr⟩
local macro_rules | `(tactic| k_ne) => `(tactic| first | assumption | exact Ne.symm (by assumption) | exact Nat.ne_of_gt (by assumption) | exact Nat.ne_of_lt (by assumption))
local macro_rules | `(tactic| mul_fits) => `(tactic| first | exact PySem.IntMulOk.of_left (PySem.intBits_le_64 (by decide) (by decide)) | exact PySem.IntMulOk.of_right (PySem.intBits_le_64 (by decide) (by decide)))
local macro_rules | `(tactic| omega) => `(tactic| (k_dflt (law_clear; law_purse 20000 => lia)))
local macro_rules | `(tactic| k_all) => `(tactic| assumption)
set_option maxRecDepth 100000 in
set_option maxHeartbeats 8000000 in
theorem persist_ctr (w : World) (mean : ExcName → Option Value) (mg mb : Str → Option Value) (x d : Addr) (o : Obj) (e1 e2 : Addr × Obj) (rest : List (Addr × Obj)) (S : Snd) (hS : IsSnd w.params o S) (hx : @Ne Nat x d) (he1 : @Ne Nat e1.1 d) (he2 : @Ne Nat e2.1 d) (hr : ∀ p ∈ rest, p.1 ≠ d) :
    Ctr w mean mg mb 203 [.ref x] (e1 :: e2 :: (x, instObj 206 d) :: (d, o) :: rest) 4 32
      (fun K => SndK w.params x d e1 e2 rest K .none (persisted S)) := by
  refine snd_open (C := fun o => Ctr _ _ _ _ _ _ (e1 :: e2 :: (x, instObj 206 d) :: (d, o) :: rest) _ _ _) hS ?_
  clear hS
  intro k1 k2 k3 k4 k5 k6 k7 k8 k9 k10 k11 k12 t1 t2 t5 t6 t7 t8 t10 t11 t12 v3 v4 v9 h3 h4 h9 hS0
  unfold Ctr
  k_fill
  intro dp un gd cn cs a ccd cl outer A₀ base h₀ L m s Q E B F X N T hk hd hu hret
  refine wpAny_call ?_
  k_dflt cell_enter
  k_with_none
  k_with "call ref" => (k_here; k_dflt ((refine' ctr_use (least_ctr _ _ _ _ _ _ _) ?k1 ?k2 ?k3 ?k4 ?k5 ?kK ?kd ?ku ?_); (case k1 => k_asm); (case k2 => k_asm); (case k3 => k_asm); (case k4 => k_asm); (case k5 => k_asm); (case kK => first | exact rfl | assumption); (case kd => first | exact room_of hd rfl | exact Nat.le_of_ble_eq_true rfl | ktr_room); (case ku => first | exact room_of hu rfl | exact Nat.le_of_ble_eq_true rfl | ktr_units); (intro t9 hp9 tk9 F9 N9; (try k_sweep); (try dsimp only); (try k_fold))))
  k_steps
  (refine' snd_ret (hret) ?h3 ?h4 ?h9 ?F ?N; (case F => k_asm); (case N => first | k_asm | exact news_sel4 (by k_asm) (by k_mem) (by k_mem) (by k_mem) (by k_mem) (by first | exact List.forall_mem_nil _ | (intro p9 h9; k_ownIn))); (case h3 => first | assumption | exact valO_some _ _ | exact valO_none); (case h4 => first | assumption | exact valO_some _ _ | exact valO_none); (case h9 => first | assumption | exact valO_some _ _ | exact valO_none))
end

section
/-- the law's body, its scope, the turn's statements: read off the given term -/
def lawBody : List Stmt := match PySem.Challenge.pw_no0074_01.main.body.getLast? with
  | some (.FunctionDef _ _ body _ _ _ _ _ _ _) => body
  | _ => []
def lawScope : Scope := match PySem.Challenge.pw_no0074_01.main.body.getLast? with
  | some (.FunctionDef _ _ _ _ _ _ scope _ _ _) => scope
  | _ => PySem.Challenge.pw_no0074_01.main.scope
def lawTurn : List Stmt := match lawBody.drop 7 with
  | .For _ _ body _ _ :: _ => body
  | _ => []
def JJ (P : Params) (b l x d : Addr) (cb : Nat) (i : Nat) (m : Str → Option Value) (nx : List (Addr × Obj)) : Prop :=
  m (Str.ofString "box") = some (.ref b) ∧ m (Str.ofString "sender") = some (.ref x) ∧ ∃ (nw : Int) (tn : Tok) (sd : Int) (ts : Tok) (vs : List Value) (ns : List Int) (nl : Nat) (o : Obj) (S : Snd),
    m (Str.ofString "now") = some (.int nw tn) ∧ nx = [(b, listOf #[.ref l, .int sd ts] cb), (l, listOf vs.toArray nl), (x, instObj 206 d), (d, o)] ∧ IntsAre vs ns ∧ ns.length ≤ 24 ∧ 0 ≤ sd ∧ sd < 2147483647 ∧
    IsSnd P o S ∧ Inv (1000000 + 100000 * (i : Int)) nw S ∧ 0 ≤ nw ∧ nw ≤ 1000 + 400000 * (i : Int)
theorem inv_now {b now now' : Int} {S : Snd} (h : Inv b now S) (hn : now ≤ now') : Inv b now' S := by
  obtain ⟨i1, i2, i3, i4, i5, i6, i7, i8, i9, i10, i11, i12, i13⟩ := h
  exact ⟨i1, i2, i3, i4, i5, i6, i7, i8, i9, i10, i11, i12, fun r hr => ⟨(i13 r hr).1, by have := (i13 r hr).2; omega⟩⟩
theorem inv_next {now : Int} {i : Nat} {S : Snd} (h : Inv (1000000 + 100000 * (i : Int) + 100000) now S) : Inv (1000000 + 100000 * ((i + 1 : Nat) : Int)) now S := by
  have e : 1000000 + 100000 * ((i + 1 : Nat) : Int) = 1000000 + 100000 * (i : Int) + 100000 := by omega
  rw [e]
  exact h
theorem frame_form {m : Str → Option Value} {v : Value} {b x : Addr} {nw : Int} {tn : Tok} (h1 : m (Str.ofString "box") = some (.ref b)) (h2 : m (Str.ofString "sender") = some (.ref x)) (h3 : m (Str.ofString "now") = some (.int nw tn)) :
    (fun y => if y = Str.ofString "turn" then some v else m y) = fun y => if y = Str.ofString "turn" then some v else if y = Str.ofString "box" then some (.ref b) else if y = Str.ofString "sender" then some (.ref x) else if y = Str.ofString "now" then some (.int nw tn) else m y := by
  funext y
  by_cases e1 : y = Str.ofString "box"
  · subst e1; simp [h1]
  · by_cases e2 : y = Str.ofString "sender"
    · subst e2; simp [h2, e1]
    · by_cases e3 : y = Str.ofString "now"
      · subst e3; simp [h3, e1, e2]
      · simp [e1, e2, e3]
theorem turn_end {P : Params} {h₀ : Heap} {L b l x d : Addr} {cb : Nat} {i : Nat} {own news' : List (Addr × Obj)} {s : Shared} {Q : Flow → Shared → Prop} {h' : Heap} {tk' : Nat} {m' : Str → Option Value} {nw : Int} {tn : Tok} {sd : Int} {ts : Tok} {vs : List Value} {ns : List Int} {nl : Nat} {o : Obj} {S : Snd}
    (F : Fr h₀ L h' m') (N : News h₀ L h' news') (hb : (b, listOf #[.ref l, .int sd ts] cb) ∈ news') (hl : (l, listOf vs.toArray nl) ∈ news') (hx : (x, instObj 206 d) ∈ news') (hd : (d, o) ∈ news') (ho : ∀ p ∈ own, p ∈ news')
    (m1 : m' (Str.ofString "box") = some (.ref b)) (m2 : m' (Str.ofString "sender") = some (.ref x)) (m3 : m' (Str.ofString "now") = some (.int nw tn)) (hI : IntsAre vs ns) (hn : ns.length ≤ 24) (h0 : 0 ≤ sd) (h1 : sd < 2147483647)
    (hS : IsSnd P o S) (hi : Inv (1000000 + 100000 * ((i + 1 : Nat) : Int)) nw S) (hw0 : 0 ≤ nw) (hw1 : nw ≤ 1000 + 400000 * ((i + 1 : Nat) : Int)) :
    InvPostN h₀ L (JJ P b l x d cb (i + 1)) own [b, l, x, d] s Q .next { s with heap := h', toks := tk' } :=
  ⟨h', tk', m', news', [(b, listOf #[.ref l, .int sd ts] cb), (l, listOf vs.toArray nl), (x, instObj 206 d), (d, o)], rfl, F, N,
    fun p hp => by
      rcases List.mem_cons.mp hp with rfl | hp
      · exact hb
      rcases List.mem_cons.mp hp with rfl | hp
      · exact hl
      rcases List.mem_cons.mp hp with rfl | hp
      · exact hx
      rw [List.mem_singleton.mp hp]
      exact hd, ho, rfl, m1, m2, nw, tn, sd, ts, vs, ns, nl, o, S, m3, rfl, hI, hn, h0, h1, hS, hi, hw0, hw1⟩
local macro_rules | `(tactic| k_ne) => `(tactic| first | assumption | exact Ne.symm (by assumption) | exact Nat.ne_of_gt (by assumption) | exact Nat.ne_of_lt (by assumption))
local macro_rules | `(tactic| mul_fits) => `(tactic| first | exact PySem.IntMulOk.of_left (PySem.intBits_le_64 (by decide) (by decide)) | exact PySem.IntMulOk.of_right (PySem.intBits_le_64 (by decide) (by decide)))
local macro_rules | `(tactic| omega) => `(tactic| (k_dflt (law_clear; law_purse 20000 => lia)))
local macro_rules | `(tactic| walk_at "InvPostN") => `(tactic| refine stop_here ?_)
set_option maxRecDepth 100000 in
set_option maxHeartbeats 8000000 in
theorem turn_ok (w : World) (mean : ExcName → Option Value) (mg mb : Str → Option Value) (fa : Addr) (cd : Value) (L : Addr) (h₀ : Heap) (b l x d : Addr) (cb : Nat) (hbl : @Ne Nat b l) (hbx : @Ne Nat b x) (hbd : @Ne Nat b d) (hlx : @Ne Nat l x) (hld : @Ne Nat l d) (hxd : @Ne Nat x d)
    (B : Below callerA h₀ [] h₀) (X : (Mine.hd.heap_39 w.params).In h₀) (T : Top Mine.view (looseW Mine.view []) mean mg mb h₀) (i : Nat) (t : Tok) (m₁ : Str → Option Value) (nx : List (Addr × Obj)) (h : Heap) (tk : Nat) (own : List (Addr × Obj)) (s : Shared) (Q : Flow → Shared → Prop) (E : Value → Shared → Prop)
    (hi : i < 14) (hoff : OwnOff own [b, l, x, d]) (hj : JJ w.params b l x d cb i m₁ nx) (F : Fr h₀ L h (fun y => if y = Str.ofString "turn" then some (.int i t) else m₁ y)) (N : News h₀ L h (nx ++ own)) :
    wpAny (model PySem.Challenge.rw_no0074_01.row.prog w) (callerA.deeper (envOf (Str.ofString "law") lawScope L fa cd)) (execs lawTurn (envOf (Str.ofString "law") lawScope L fa cd))
      (InvPostN h₀ L (JJ w.params b l x d cb (i + 1)) own [b, l, x, d] { s with heap := h, toks := tk } Q) E { s with heap := h, toks := tk } := by
  obtain ⟨j1, j2, nw, tn, sd, ts, vs, ns, nl, o, S, j3, rfl, hI0, hlen, hsd0, hsd1, hS, hI, hn0, hn1⟩ := hj
  rw [frame_form j1 j2 j3] at F
  revert X N
  refine snd_open (C := fun o => (Mine.hd.heap_39 w.params).In h₀ → News h₀ L h ([(b, listOf #[.ref l, .int sd ts] cb), (l, listOf vs.toArray nl), (x, instObj 206 d), (d, o)] ++ own) → _) hS ?_
  clear hS
  intro k1 k2 k3 k4 k5 k6 k7 k8 k9 k10 k11 k12 t1 t2 t5 t6 t7 t8 t10 t11 t12 v3 v4 v9 h3 h4 h9 hS0
  k_fill
  intro X N
  generalize hb : lawTurn = body
  generalize hs : lawScope = sc
  conv at hb => lhs; whnf
  conv at hs => lhs; whnf
  subst hb
  subst hs
  simp only [List.cons_append, List.nil_append] at N
  dsimp only [sdict] at N
  have hw0 := hI.1
  have hrd : ∀ p ∈ own, p.1 ≠ d := OwnOff.ne hoff (by k_memK)
  k_with_none
  k_with "call ref" => (k_here; k_dflt ((refine' ctr_use (take_ctr _ _ _ _ b l _ _ _ _ _ _ _ _ ((x, instObj 206 d) :: (d, _) :: own) ?tI ?tl ?ts ?ts2 ?tk0 ?tk1 ?tbl ?trb ?trl) ?k1 ?k2 ?k3 ?k4 ?k5 ?kK ?kd ?ku ?_); (case k1 => k_asm); (case k2 => k_asm); (case k3 => k_asm); (case k4 => first | k_asm | exact news_sel4 (by assumption) (by k_mem) (by k_mem) (by k_mem) (by k_mem) (by first | exact List.forall_mem_nil _ | (intro p9 h9; k_ownIn))); (case k5 => k_asm); (case kK => first | exact rfl | assumption); (case kd => first | exact room_of hd rfl | exact Nat.le_of_ble_eq_true rfl | ktr_room); (case ku => first | exact room_of hu rfl | exact Nat.le_of_ble_eq_true rfl | ktr_units); (case tI => with_reducible assumption); (case tl => assumption); (case ts => assumption); (case ts2 => assumption); (case tk0 => decide +kernel); (case tk1 => decide +kernel); (case tbl => assumption); (case trb => k_all); (case trl => k_all); (intro z9 tz9 vs9 ns9 nl9 sd9 ts9 a1 a2 I9 a3 a4 a5 hp9 tk9 F9 N9; (try k_sweep); (try dsimp only); (try k_fold))))
  k_with "call ref" => (k_here; k_dflt ((refine' ctr_use (lawAcked_ctr _ _ _ _ x d _ (b, _) (l, _) own _ _ _ _ _ _ _ _ _ _ ?hS ?hx ?he1 ?he2 ?hr _ ?h1 ?h2 ?h3 ?h4 ?h5 ?h6 ?h7 ?h8) ?k1 ?k2 ?k3 ?k4 ?k5 ?kK ?kd ?ku ?_); (case k1 => k_asm); (case k2 => k_asm); (case k3 => k_asm); (case k4 => first | k_asm | exact news_sel4 (by assumption) (by k_mem) (by k_mem) (by k_mem) (by k_mem) (by first | exact List.forall_mem_nil _ | (intro p9 h9; k_ownIn))); (case k5 => k_asm); (case kK => first | exact rfl | assumption); (case kd => first | exact room_of hd rfl | exact Nat.le_of_ble_eq_true rfl | ktr_room); (case ku => first | exact room_of hu rfl | exact Nat.le_of_ble_eq_true rfl | ktr_units); (case hS => assumption); (case hx => assumption); (case he1 => assumption); (case he2 => assumption); (case hr => assumption); (case h1 => ((refine' inv_now hI ?h1b); (case h1b => omega))); (case h2 => omega); (case h3 => omega); (case h4 => omega); (case h5 => omega); (case h6 => omega); (case h7 => decide); (case h8 => decide); (intro S9 hI9 p1 p2 p3 p4 p5 p6 p7 p8 p9 p10 p11 p12 q1 q2 q5 q6 q7 q8 q10 q11 q12 u3 u4 u9 g3 g4 g9 hS8 hp9 tk9 F9 N9; (have hw9 := hI9.1); (try dsimp only [sdict] at N9); (try k_sweep); (try dsimp only); (try k_fold))))
  k_with "call ref" => (k_here; k_dflt ((refine' ctr_use (lawCong_ctr _ _ _ _ x d _ (b, _) (l, _) own _ _ _ _ _ ?hS ?hx ?he1 ?he2 ?hr _ ?h1 ?h2 ?h3 ?h4) ?k1 ?k2 ?k3 ?k4 ?k5 ?kK ?kd ?ku ?_); (case k1 => k_asm); (case k2 => k_asm); (case k3 => k_asm); (case k4 => first | k_asm | exact news_sel4 (by assumption) (by k_mem) (by k_mem) (by k_mem) (by k_mem) (by first | exact List.forall_mem_nil _ | (intro p9 h9; k_ownIn))); (case k5 => k_asm); (case kK => first | exact rfl | assumption); (case kd => first | exact room_of hd rfl | exact Nat.le_of_ble_eq_true rfl | ktr_room); (case ku => first | exact room_of hu rfl | exact Nat.le_of_ble_eq_true rfl | ktr_units); (case hS => assumption); (case hx => assumption); (case he1 => assumption); (case he2 => assumption); (case hr => assumption); (case h1 => ((refine' inv_now hI ?h1b); (case h1b => omega))); (case h2 => omega); (case h3 => omega); (case h4 => omega); (intro S9 hI9 p1 p2 p3 p4 p5 p6 p7 p8 p9 p10 p11 p12 q1 q2 q5 q6 q7 q8 q10 q11 q12 u3 u4 u9 g3 g4 g9 hS8 hp9 tk9 F9 N9; (have hw9 := hI9.1); (try dsimp only [sdict] at N9); (try k_sweep); (try dsimp only); (try k_fold))))
  k_with "call ref" => (k_here; k_dflt ((refine' ctr_use (persist_ctr _ _ _ _ x d _ (b, _) (l, _) own _ ?hS ?hx ?he1 ?he2 ?hr) ?k1 ?k2 ?k3 ?k4 ?k5 ?kK ?kd ?ku ?_); (case k1 => k_asm); (case k2 => k_asm); (case k3 => k_asm); (case k4 => first | k_asm | exact news_sel4 (by assumption) (by k_mem) (by k_mem) (by k_mem) (by k_mem) (by first | exact List.forall_mem_nil _ | (intro p9 h9; k_ownIn))); (case k5 => k_asm); (case kK => first | exact rfl | assumption); (case kd => first | exact room_of hd rfl | exact Nat.le_of_ble_eq_true rfl | ktr_room); (case ku => first | exact room_of hu rfl | exact Nat.le_of_ble_eq_true rfl | ktr_units); (case hS => assumption); (case hx => assumption); (case he1 => assumption); (case he2 => assumption); (case hr => assumption); (intro p1 p2 p3 p4 p5 p6 p7 p8 p9 p10 p11 p12 q1 q2 q5 q6 q7 q8 q10 q11 q12 u3 u4 u9 g3 g4 g9 hS8 hp9 tk9 F9 N9; (have hI9 := inv_persist hI); (have hw9 := hI9.1); (obtain rfl := valO_no g4 rfl); (obtain rfl := valO_no g9 rfl); (try dsimp only [sdict, persisted] at N9); (try k_sweep); (try dsimp only); (try k_fold))))
  k_with "call ref" => (k_here; k_dflt ((refine' ctr_use (least_ctr _ _ _ _ _ _ _) ?k1 ?k2 ?k3 ?k4 ?k5 ?kK ?kd ?ku ?_); (case k1 => k_asm); (case k2 => k_asm); (case k3 => k_asm); (case k4 => k_asm); (case k5 => k_asm); (case kK => first | exact rfl | assumption); (case kd => first | exact room_of hd rfl | exact Nat.le_of_ble_eq_true rfl | ktr_room); (case ku => first | exact room_of hu rfl | exact Nat.le_of_ble_eq_true rfl | ktr_units); (intro t9 hp9 tk9 F9 N9; (try k_sweep); (try dsimp only); (try k_fold))))
  try k_fold
  k_steps
  all_goals (
    unfold Stop
    refine' turn_end (i := i) ?F ?N ?m1 ?m2 ?m3 ?m4 ?ho ?n1 ?n2 ?n3 I9 a3 a4 a5 ?hS ?hi ?hw0 ?hw1
    (case F => k_asm)
    (case N => k_asm)
    (case m1 => k_memK)
    (case m2 => k_memK)
    (case m3 => k_memK)
    (case m4 => k_memK)
    (case ho => intro p9 hp9; k_ownIn)
    (case n1 => rfl)
    (case n2 => rfl)
    (case n3 => rfl)
    (case hS => first | exact hS8 | exact hS0)
    (case hi => first | exact inv_next hI9 | (refine' inv_next (inv_now hI9 ?h1b); (case h1b => omega)) | (refine' inv_next (inv_mono (inv_now hI ?h1b)); (case h1b => omega)))
    (case hw0 => omega)
    (case hw1 => omega))
end

section
section
variable {prog : Program} {w : World} {A : Around} {E : Value → Shared → Prop} {s : Shared} {env : Env} {h₀ : Heap} {v : Str} {body : List Stmt} {Q : Flow → Shared → Prop}
theorem loop_fourteen {r : Addr} {t₀ u₀ v₀ : Tok} {m₀ : Str → Option Value} {news : List (Addr × Obj)} (J : Nat → (Str → Option Value) → List (Addr × Obj) → Prop)
    (hh : A.handled = none) (hr : IsRange s.heap r 0 14 1 t₀ u₀ v₀) (F : Fr h₀ env.locals s.heap m₀) (N : News h₀ env.locals s.heap news) (hj : J 0 m₀ news)
    (turn : ∀ i t m₁ nx h tk own, i < 14 → OwnOff own (news.map (·.1)) → J i m₁ nx → Fr h₀ env.locals h (fun y => if y = v then some (.int i t) else m₁ y) → News h₀ env.locals h (nx ++ own) →
      wpAny (model prog w) A (execs body env) (InvPostN h₀ env.locals (J (i + 1)) own (news.map (·.1)) { s with heap := h, toks := tk } Q) E { s with heap := h, toks := tk })
    (done : ∀ m₁ nx h tk, J 14 m₁ nx → Fr h₀ env.locals h m₁ → News h₀ env.locals h nx → Q .next { s with heap := h, toks := tk }) :
    wpAny (model prog w) A (pyIter (.ref r)) (fun it s₂ => LoopAtV prog w A h₀ env v body Q E it s₂) E s := by
  refine wpAny_pyIter_range hr (by decide) ?_
  have W := (Walks.range (prog := prog) (w := w) hh s.heap.objs.size 0 1 14).bound
  have hn : Builtin.Range.rangeSize 0 14 1 = ((14 : Nat) : Int) := by decide
  refine loop_invN J W ?_ ?_ ?_ ?_ (by show IsRangeIter _ _ _ _ _; rw [hn]; simpa using Heap.get?_push_size _ rfl) (F.push _) (fun p hp => ⟨Heap.get?_push_of_some _ (N p hp).1, (N p hp).2⟩) hj ?_ ?_
  · intro hm
    exact absurd F.ns.lt ((List.mem_singleton.mp hm) ▸ Nat.lt_irrefl _)
  · intro a ha
    rw [List.mem_singleton.mp ha]
    exact next_is_new F
  · intro p hp hI
    exact absurd (Heap.lt_size (N p hp).1) ((List.mem_singleton.mp hI) ▸ Nat.lt_irrefl _)
  · intro p hp hI
    exact absurd (Heap.lt_size (N p hp).1) ((List.mem_singleton.mp hI) ▸ Nat.lt_irrefl _)
  · rintro i y m₁ nx h tk own hi ⟨_, t, rfl⟩ _ ho hj' F' N'
    have e : (0 : Int) + (i : Int) * 1 = (i : Int) := by omega
    rw [e] at F'
    exact turn i t m₁ nx h tk own hi ho hj' F' N'
  · exact done
end
local macro_rules | `(tactic| k_ne) => `(tactic| first | assumption | exact Ne.symm (by assumption) | exact Nat.ne_of_gt (by assumption) | exact Nat.ne_of_lt (by assumption))
local macro_rules | `(tactic| mul_fits) => `(tactic| first | exact PySem.IntMulOk.of_left (PySem.intBits_le_64 (by decide) (by decide)) | exact PySem.IntMulOk.of_right (PySem.intBits_le_64 (by decide) (by decide)))
local macro_rules | `(tactic| omega) => `(tactic| (k_dflt (law_clear; law_purse 20000 => lia)))
local macro_rules | `(tactic| walk_at "pyIter ref") => `(tactic| k_extra "stopIter")
local macro_rules | `(tactic| walk_at "exec For Name Call cons nil") => `(tactic| k_extra "stopFor")
set_option maxRecDepth 100000 in
set_option maxHeartbeats 8000000 in
theorem law_holds : PySem.Challenge.rw_no0074_01.Holds := Mine.hd (by
  k_go0
  all_goals try k_fold
  k_with_none
  k_with "pyIter ref" => k_state (fun _ seed => 0 ≤ seed ∧ seed < 2147483647) "seed_here"
  k_with "stopFor" => (refine stop_here ?_)
  k_with "call ref" => (k_here; k_dflt ((refine' ctr_use (cubeRoot_ctr _ _ _ _ _ _ _ ?c1 ?c2) ?k1 ?k2 ?k3 ?k4 ?k5 ?kK ?kd ?ku ?_); (case k1 => k_asm); (case k2 => k_asm); (case k3 => k_asm); (case k4 => k_asm); (case k5 => k_asm); (case kK => first | exact rfl | assumption); (case kd => first | exact room_of hd rfl | exact Nat.le_of_ble_eq_true rfl | ktr_room); (case ku => first | exact room_of hu rfl | exact Nat.le_of_ble_eq_true rfl | ktr_units); (case c1 => first | assumption | omega | exact root_cube0 (by assumption)); (case c2 => first | assumption | omega | exact root_cube1 (by assumption) (by assumption)); (intro z9 t9 a1 a2 a3 a4 a5 a6 a7 hp9 tk9 F9 N9; (try (have e9 := a7 _ (by assumption) rfl; subst e9)); (try clear a7); (try clear a2 a3); (try k_sweep); (try dsimp only); (try k_fold))))
  k_with "call ref" => (k_here; k_dflt ((refine' ctr_use (take_ctr _ _ _ _ _ _ _ _ _ _ _ _ _ _ _ ?tI ?tl ?ts ?ts2 ?tk0 ?tk1 ?tbl ?trb ?trl) ?k1 ?k2 ?k3 ?k4 ?k5 ?kK ?kd ?ku ?_); (case k1 => k_asm); (case k2 => k_asm); (case k3 => k_asm); (case k4 => first | k_asm | exact news_sel2 (by assumption) (by k_mem) (by k_mem) (by first | exact List.forall_mem_nil _ | (intro p9 h9; k_ownIn))); (case k5 => k_asm); (case kK => first | exact rfl | assumption); (case kd => first | exact room_of hd rfl | exact Nat.le_of_ble_eq_true rfl | ktr_room); (case ku => first | exact room_of hu rfl | exact Nat.le_of_ble_eq_true rfl | ktr_units); (case tI => with_reducible assumption); (case tl => first | assumption | exact List.length_take_le _ _); (case ts => assumption); (case ts2 => assumption); (case tk0 => decide +kernel); (case tk1 => decide +kernel); (case tbl => k_ne); (case trb => k_all); (case trl => k_all); (intro z9 tz9 vs9 ns9 nl9 sd9 ts9 a1 a2 I9 a3 a4 a5 hp9 tk9 F9 N9; (try simp only [ten_twelve] at a2); (try k_sweep); (try dsimp only); (try k_fold))))
  k_with "call ref" => (k_here; k_dflt ((refine' ctr_use (growth_ctr _ _ _ _ _ _ _ _ _ _ _ _ ?tI ?tl ?ts ?ts2 ?tbl) ?k1 ?k2 ?k3 ?k4 ?k5 ?kK ?kd ?ku ?_); (case k1 => k_asm); (case k2 => k_asm); (case k3 => k_asm); (case k4 => first | k_asm | exact news_sel2 (by assumption) (by k_mem) (by k_mem) (by first | exact List.forall_mem_nil _ | (intro p9 h9; k_ownIn))); (case k5 => k_asm); (case kK => first | exact rfl | assumption); (case kd => first | exact room_of hd rfl | exact Nat.le_of_ble_eq_true rfl | ktr_room); (case ku => first | exact room_of hu rfl | exact Nat.le_of_ble_eq_true rfl | ktr_units); (case tI => with_reducible assumption); (case tl => assumption); (case ts => assumption); (case ts2 => assumption); (case tbl => k_ne); (intro vs9 ns9 nl9 sd9 ts9 I9 a3 a4 a5 hp9 tk9 F9 N9; (try k_sweep); (try dsimp only); (try k_fold))))
  k_steps
  unfold Stop
  k_with_none
  k_with "stopIter" => (refine stop_here ?_)
  (rename Fr _ _ _ _ => lF)
  with_unfolding_all refine' For_invVF lF ?k1 ?k2 ?_
  (case k1 => exact rfl)
  (case k2 => exact rfl)
  k_steps
  unfold Stop
  (rename IsRange _ _ _ _ _ _ _ _ => hR)
  (rename News _ _ _ _ => hN)
  (rename Fr _ _ _ _ => hF)
  refine' loop_fourteen (JJ _ ?zb ?zl ?zx ?zd ?zcb) rfl hR hF (news_sel4 (p1 := (?zb, listOf #[.ref ?zl, .int ?zsd ?zts] ?zcb)) (p2 := (?zl, listOf (List.toArray ?zvs) ?znl)) (p3 := (?zx, instObj 206 ?zd)) (p4 := (?zd, ?zo)) (rest := []) hN ?m1 ?m2 ?m3 ?m4 (List.forall_mem_nil _)) ?hj ?turn ?done
  (case m1 => k_mem)
  (case m2 => k_mem)
  (case m3 => k_mem)
  (case m4 => k_mem)
  (case hj =>
    refine' ⟨rfl, rfl, _, _, _, _, _, _, _, _, _, rfl, rfl, I9, a3, a4, a5, isSnd_mk valO_none valO_none valO_none, ?inv, ?z1, ?z2⟩
    (case inv => exact ⟨by decide, by decide, by decide, by decide, by decide, by decide, by decide, by decide, by decide, by decide, by decide, by decide, fun r hr9 => by cases hr9⟩)
    (case z1 => decide)
    (case z2 => decide))
  (case turn =>
    intro i t m₁ nx h tk own hi ho hj F N
    refine' turn_ok _ _ _ _ _ _ _ _ _ _ _ _ _ ?n1 ?n2 ?n3 ?n4 ?n5 ?n6 ?B ?X ?T i t m₁ nx h tk own _ _ _ hi ho hj F N
    (case B => k_asm)
    (case X => k_asm)
    (case T => k_asm)
    all_goals (refine neN ?_; omega))
  (case done =>
    intro m₁ nx h tk hj F N
    k_with_none
    dsimp only
    k_steps
    all_goals w_report))
end

end Mine

theorem PySem.Challenge.cw_no0074_01_holds : PySem.Challenge.rw_no0074_01.Holds := by
  exact Mine.law_holds
