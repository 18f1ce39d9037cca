import PyProof.Rows.All
import Wide.All
import OpenK.AllK
import Wide.FinOn
import Lean
import PySem.Challenge.RW_qd0102_01
set_option Elab.async false
set_option compiler.extract_closed false
namespace Mine
section
open PySem PySem.Spec PySem.W PyProof.Rows PySem.Calls
section
set_option maxRecDepth 100000
set_option maxHeartbeats 4000000
theorem nr_append (lk : Look) (b : List Stmt) : ∀ a : List Stmt, noRoadLSs lk (a ++ b) = (noRoadLSs lk a && noRoadLSs lk b)
  | [] => rfl
  | s :: a => ((congrArg (fun x => noRoadLS lk s && x) (nr_append lk b a)).trans (Bool.and_assoc ..).symm : (noRoadLS lk s && noRoadLSs lk (a ++ b)) = ((noRoadLS lk s && noRoadLSs lk a) && noRoadLSs lk b))
theorem nr_split (lk : Look) (l : List Stmt) (i : Nat) (h1 : noRoadLSs lk (l.take i) = true) (h2 : noRoadLSs lk ((l.drop i).take 1) = true) (h3 : noRoadLSs lk (l.drop (i + 1)) = true) : noRoadLSs lk l = true := by
  have e : l = l.take i ++ ((l.drop i).take 1 ++ l.drop (i + 1)) := by
    have e1 : (l.drop i).take 1 ++ l.drop (i + 1) = l.drop i := by
      rw [← List.drop_drop]; exact List.take_append_drop 1 (l.drop i)
    rw [e1, List.take_append_drop]
  rw [e, nr_append, nr_append, h1, h2, h3]
  rfl
noncomputable def lk0 : Look := { strict := false, foot := none, bare := (["vars", "dir", "locals"] : List PySem.Str) }
noncomputable abbrev body0 : List Stmt := PySem.Challenge.rw_qd0102_01.prog.main.body
theorem bare_is : (["vars", "dir", "locals"] : List PySem.Str).filter (readsOut PySem.Challenge.rw_qd0102_01.prog body0) = [] := by decide +kernel
theorem strict_is : (!(importedModules body0).all cThrough.contains) = false := by decide +kernel
noncomputable abbrev rowIs (S : String) (p1 p2 p3 : Pos) : Prop := (body0.drop 25).take 1 = [PySem.Stmt.Assign [PySem.Expr.Name "RESERVED" p1] (PySem.Expr.Constant (PySem.Const.str (PySem.Str.ofString S)) 0 p2) p3]
noncomputable def RsX : { x : String × List Char × Pos × Pos × Pos // rowIs x.1 x.2.2.1 x.2.2.2.1 x.2.2.2.2 ∧ x.1 = String.ofList x.2.1 } := ⟨(_, _, _, _, _), rfl, rfl⟩
noncomputable def RsN : List Nat := RsX.1.2.1.map Char.toNat
theorem rs3 : PySem.Str.ofString RsX.1.1 = ⟨⟨RsN⟩⟩ := by
  rw [RsX.2.2, Fast.ofString_ofList]; rfl
noncomputable def rb3 : List PySem.Stmt := body0.take 25 ++ (PySem.Stmt.Assign [PySem.Expr.Name "RESERVED" RsX.1.2.2.1] (PySem.Expr.Constant (PySem.Const.str ⟨⟨RsN⟩⟩) 0 RsX.1.2.2.2.1) RsX.1.2.2.2.2 :: body0.drop 26)
theorem body_split : body0 = body0.take 25 ++ ((body0.drop 25).take 1 ++ body0.drop 26) := by kernel_rfl
theorem body_is3 : body0 = rb3 := by
  rw [body_split, RsX.2.1, rs3]
  unfold rb3
  rfl
noncomputable def pw3 : Program := { PySem.Challenge.pw_qd0102_01 with main := { PySem.Challenge.pw_qd0102_01.main with body := rb3 } }
theorem e_pw3 : PySem.Challenge.pw_qd0102_01 = pw3 := by
  unfold pw3
  rw [← body_is3]
  rfl
end
section
set_option maxRecDepth 100000
set_option maxHeartbeats 4000000
structure FD where
  a : Arguments
  b : List PySem.Stmt
  c : Scope
noncomputable def fdOf (st : Option PySem.Stmt) : FD := match st with
  | some (PySem.Stmt.FunctionDef _ a b _ _ _ sc _ _ _) => ⟨a, b, sc⟩
  | _ => ⟨{ posonlyargs := [], args := [], vararg := none, kwonlyargs := [], kw_defaults := [], kwarg := none, defaults := [] }, [], { kind := .module, names := [], isGenerator := false, isCoroutine := false, more := [] }⟩
noncomputable def topFn (i : Nat) : FD := fdOf (body0[i]? : Option PySem.Stmt)
noncomputable def methFn (i j : Nat) : FD := match (body0[i]? : Option PySem.Stmt) with
  | some (PySem.Stmt.ClassDef _ _ _ b _ _ _ _ _ _ _) => fdOf (b[j]? : Option PySem.Stmt)
  | _ => fdOf none
noncomputable abbrev F_joined : { x : Arguments × List PySem.Stmt × Scope // topFn 2 = ⟨x.1, x.2.1, x.2.2⟩ } := ⟨(_, _, _), rfl⟩
noncomputable abbrev F_worded : { x : Arguments × List PySem.Stmt × Scope // topFn 3 = ⟨x.1, x.2.1, x.2.2⟩ } := ⟨(_, _, _), rfl⟩
noncomputable abbrev F_Token_init : { x : Arguments × List PySem.Stmt × Scope // methFn 5 0 = ⟨x.1, x.2.1, x.2.2⟩ } := ⟨(_, _, _), rfl⟩
noncomputable abbrev F_Token_told : { x : Arguments × List PySem.Stmt × Scope // methFn 5 1 = ⟨x.1, x.2.1, x.2.2⟩ } := ⟨(_, _, _), rfl⟩
noncomputable abbrev F_quoted : { x : Arguments × List PySem.Stmt × Scope // topFn 6 = ⟨x.1, x.2.1, x.2.2⟩ } := ⟨(_, _, _), rfl⟩
noncomputable abbrev F_show_select : { x : Arguments × List PySem.Stmt × Scope // topFn 8 = ⟨x.1, x.2.1, x.2.2⟩ } := ⟨(_, _, _), rfl⟩
noncomputable abbrev F_LedgerError_init : { x : Arguments × List PySem.Stmt × Scope // methFn 10 0 = ⟨x.1, x.2.1, x.2.2⟩ } := ⟨(_, _, _), rfl⟩
noncomputable abbrev F_FileSpec_init : { x : Arguments × List PySem.Stmt × Scope // methFn 15 0 = ⟨x.1, x.2.1, x.2.2⟩ } := ⟨(_, _, _), rfl⟩
noncomputable abbrev F_FileSpec_told : { x : Arguments × List PySem.Stmt × Scope // methFn 15 1 = ⟨x.1, x.2.1, x.2.2⟩ } := ⟨(_, _, _), rfl⟩
noncomputable abbrev F_one_word : { x : Arguments × List PySem.Stmt × Scope // topFn 16 = ⟨x.1, x.2.1, x.2.2⟩ } := ⟨(_, _, _), rfl⟩
noncomputable abbrev F_read_assign : { x : Arguments × List PySem.Stmt × Scope // topFn 17 = ⟨x.1, x.2.1, x.2.2⟩ } := ⟨(_, _, _), rfl⟩
noncomputable abbrev F_read_record_key : { x : Arguments × List PySem.Stmt × Scope // topFn 18 = ⟨x.1, x.2.1, x.2.2⟩ } := ⟨(_, _, _), rfl⟩
noncomputable abbrev F_read_alternate : { x : Arguments × List PySem.Stmt × Scope // topFn 19 = ⟨x.1, x.2.1, x.2.2⟩ } := ⟨(_, _, _), rfl⟩
noncomputable abbrev F_read_relative : { x : Arguments × List PySem.Stmt × Scope // topFn 20 = ⟨x.1, x.2.1, x.2.2⟩ } := ⟨(_, _, _), rfl⟩
noncomputable abbrev F_read_clause : { x : Arguments × List PySem.Stmt × Scope // topFn 21 = ⟨x.1, x.2.1, x.2.2⟩ } := ⟨(_, _, _), rfl⟩
noncomputable abbrev F_is_whole_spec : { x : Arguments × List PySem.Stmt × Scope // topFn 22 = ⟨x.1, x.2.1, x.2.2⟩ } := ⟨(_, _, _), rfl⟩
noncomputable abbrev F_read_select : { x : Arguments × List PySem.Stmt × Scope // topFn 23 = ⟨x.1, x.2.1, x.2.2⟩ } := ⟨(_, _, _), rfl⟩
noncomputable abbrev F_is_reserved : { x : Arguments × List PySem.Stmt × Scope // topFn 26 = ⟨x.1, x.2.1, x.2.2⟩ } := ⟨(_, _, _), rfl⟩
noncomputable abbrev F_R_init : { x : Arguments × List PySem.Stmt × Scope // methFn 27 0 = ⟨x.1, x.2.1, x.2.2⟩ } := ⟨(_, _, _), rfl⟩
noncomputable abbrev F_R_peek : { x : Arguments × List PySem.Stmt × Scope // methFn 27 1 = ⟨x.1, x.2.1, x.2.2⟩ } := ⟨(_, _, _), rfl⟩
noncomputable abbrev F_R_is_done : { x : Arguments × List PySem.Stmt × Scope // methFn 27 2 = ⟨x.1, x.2.1, x.2.2⟩ } := ⟨(_, _, _), rfl⟩
noncomputable abbrev F_R_fault : { x : Arguments × List PySem.Stmt × Scope // methFn 27 3 = ⟨x.1, x.2.1, x.2.2⟩ } := ⟨(_, _, _), rfl⟩
noncomputable abbrev F_R_take : { x : Arguments × List PySem.Stmt × Scope // methFn 27 4 = ⟨x.1, x.2.1, x.2.2⟩ } := ⟨(_, _, _), rfl⟩
noncomputable abbrev F_R_is_kind : { x : Arguments × List PySem.Stmt × Scope // methFn 27 5 = ⟨x.1, x.2.1, x.2.2⟩ } := ⟨(_, _, _), rfl⟩
noncomputable abbrev F_R_is_word : { x : Arguments × List PySem.Stmt × Scope // methFn 27 6 = ⟨x.1, x.2.1, x.2.2⟩ } := ⟨(_, _, _), rfl⟩
noncomputable abbrev F_R_skip : { x : Arguments × List PySem.Stmt × Scope // methFn 27 7 = ⟨x.1, x.2.1, x.2.2⟩ } := ⟨(_, _, _), rfl⟩
noncomputable abbrev F_R_need : { x : Arguments × List PySem.Stmt × Scope // methFn 27 8 = ⟨x.1, x.2.1, x.2.2⟩ } := ⟨(_, _, _), rfl⟩
noncomputable abbrev F_R_word : { x : Arguments × List PySem.Stmt × Scope // methFn 27 10 = ⟨x.1, x.2.1, x.2.2⟩ } := ⟨(_, _, _), rfl⟩
noncomputable abbrev F_R_is_name : { x : Arguments × List PySem.Stmt × Scope // methFn 27 11 = ⟨x.1, x.2.1, x.2.2⟩ } := ⟨(_, _, _), rfl⟩
noncomputable abbrev F_R_name : { x : Arguments × List PySem.Stmt × Scope // methFn 27 12 = ⟨x.1, x.2.1, x.2.2⟩ } := ⟨(_, _, _), rfl⟩
noncomputable abbrev F_R_is_sign : { x : Arguments × List PySem.Stmt × Scope // methFn 27 14 = ⟨x.1, x.2.1, x.2.2⟩ } := ⟨(_, _, _), rfl⟩
noncomputable abbrev F_R_skip_sign : { x : Arguments × List PySem.Stmt × Scope // methFn 27 15 = ⟨x.1, x.2.1, x.2.2⟩ } := ⟨(_, _, _), rfl⟩
noncomputable abbrev F_R_literal : { x : Arguments × List PySem.Stmt × Scope // methFn 27 20 = ⟨x.1, x.2.1, x.2.2⟩ } := ⟨(_, _, _), rfl⟩
noncomputable abbrev F_law_box : { x : Arguments × List PySem.Stmt × Scope // topFn 29 = ⟨x.1, x.2.1, x.2.2⟩ } := ⟨(_, _, _), rfl⟩
noncomputable abbrev F_law_draw : { x : Arguments × List PySem.Stmt × Scope // topFn 30 = ⟨x.1, x.2.1, x.2.2⟩ } := ⟨(_, _, _), rfl⟩
noncomputable abbrev F_law_spec : { x : Arguments × List PySem.Stmt × Scope // topFn 31 = ⟨x.1, x.2.1, x.2.2⟩ } := ⟨(_, _, _), rfl⟩
noncomputable abbrev F_law_row : { x : Arguments × List PySem.Stmt × Scope // topFn 32 = ⟨x.1, x.2.1, x.2.2⟩ } := ⟨(_, _, _), rfl⟩
noncomputable abbrev F_law_heard : { x : Arguments × List PySem.Stmt × Scope // topFn 33 = ⟨x.1, x.2.1, x.2.2⟩ } := ⟨(_, _, _), rfl⟩
noncomputable abbrev F_law_goes_together : { x : Arguments × List PySem.Stmt × Scope // topFn 34 = ⟨x.1, x.2.1, x.2.2⟩ } := ⟨(_, _, _), rfl⟩
noncomputable abbrev F_law_is_right : { x : Arguments × List PySem.Stmt × Scope // topFn 35 = ⟨x.1, x.2.1, x.2.2⟩ } := ⟨(_, _, _), rfl⟩
noncomputable abbrev F_law : { x : Arguments × List PySem.Stmt × Scope // topFn 36 = ⟨x.1, x.2.1, x.2.2⟩ } := ⟨(_, _, _), rfl⟩
noncomputable def ko_1 (P : Params) : Obj := ⟨(.type "dict"), none, (.dict (List.toArray [⟨(PyData.keyHash P ⟨⟨[98, 117, 105, 108, 116, 105, 110, 115]⟩⟩), (.str ⟨⟨[98, 117, 105, 108, 116, 105, 110, 115]⟩⟩ 162), (.ref 4)⟩, ⟨(PyData.keyHash P ⟨⟨[95, 95, 109, 97, 105, 110, 95, 95]⟩⟩), (.str ⟨⟨[95, 95, 109, 97, 105, 110, 95, 95]⟩⟩ 163), (.ref 5)⟩]) 2), (List.toArray [])⟩
noncomputable def ko_2 (P : Params) : Obj := ⟨.none, none, (.dict (List.toArray [⟨(PyData.keyHash P ⟨⟨[116, 121, 112, 101, 46, 95, 95, 115, 117, 98, 99, 108, 97, 115, 115, 101, 115, 95, 95, 46, 69, 120, 99, 101, 112, 116, 105, 111, 110, 46, 48]⟩⟩), (.str ⟨⟨[116, 121, 112, 101, 46, 95, 95, 115, 117, 98, 99, 108, 97, 115, 115, 101, 115, 95, 95, 46, 69, 120, 99, 101, 112, 116, 105, 111, 110, 46, 48]⟩⟩ 313), (.int 103 0)⟩, ⟨(PyData.keyHash P ⟨⟨[116, 121, 112, 101, 46, 95, 95, 115, 117, 98, 99, 108, 97, 115, 115, 101, 115, 95, 95, 46, 69, 120, 99, 101, 112, 116, 105, 111, 110, 46, 110]⟩⟩), (.str ⟨⟨[116, 121, 112, 101, 46, 95, 95, 115, 117, 98, 99, 108, 97, 115, 115, 101, 115, 95, 95, 46, 69, 120, 99, 101, 112, 116, 105, 111, 110, 46, 110]⟩⟩ 314), (.int 1 0)⟩]) 2), (List.toArray [])⟩
noncomputable def ko_3 (P : Params) : Obj := ⟨(.type "dict"), none, (.dict (List.toArray [⟨(PyData.keyHash P ⟨⟨[95, 95, 110, 97, 109, 101, 95, 95]⟩⟩), (.str ⟨⟨[95, 95, 110, 97, 109, 101, 95, 95]⟩⟩ 165), (.str ⟨⟨[108, 97, 119, 95, 113, 100, 48, 49, 48, 50, 95, 48, 49]⟩⟩ 669)⟩, ⟨(PyData.keyHash P ⟨⟨[95, 95, 100, 111, 99, 95, 95]⟩⟩), (.str ⟨⟨[95, 95, 100, 111, 99, 95, 95]⟩⟩ 166), .none⟩, ⟨(PyData.keyHash P ⟨⟨[95, 95, 112, 97, 99, 107, 97, 103, 101, 95, 95]⟩⟩), (.str ⟨⟨[95, 95, 112, 97, 99, 107, 97, 103, 101, 95, 95]⟩⟩ 167), .none⟩, ⟨(PyData.keyHash P ⟨⟨[95, 95, 108, 111, 97, 100, 101, 114, 95, 95]⟩⟩), (.str ⟨⟨[95, 95, 108, 111, 97, 100, 101, 114, 95, 95]⟩⟩ 168), (.builtin "__main__.__loader__#opaque")⟩, ⟨(PyData.keyHash P ⟨⟨[95, 95, 115, 112, 101, 99, 95, 95]⟩⟩), (.str ⟨⟨[95, 95, 115, 112, 101, 99, 95, 95]⟩⟩ 169), .none⟩, ⟨(PyData.keyHash P ⟨⟨[95, 95, 97, 110, 110, 111, 116, 97, 116, 105, 111, 110, 115, 95, 95]⟩⟩), (.str ⟨⟨[95, 95, 97, 110, 110, 111, 116, 97, 116, 105, 111, 110, 115, 95, 95]⟩⟩ 170), (.ref 6)⟩, ⟨(PyData.keyHash P ⟨⟨[95, 95, 98, 117, 105, 108, 116, 105, 110, 115, 95, 95]⟩⟩), (.str ⟨⟨[95, 95, 98, 117, 105, 108, 116, 105, 110, 115, 95, 95]⟩⟩ 171), (.ref 4)⟩, ⟨(PyData.keyHash P ⟨⟨[95, 95, 102, 105, 108, 101, 95, 95]⟩⟩), (.str ⟨⟨[95, 95, 102, 105, 108, 101, 95, 95]⟩⟩ 173), (.str ⟨⟨[47, 99, 108, 97, 105, 109, 47, 99, 117, 116, 46, 112, 121]⟩⟩ 172)⟩, ⟨(PyData.keyHash P ⟨⟨[95, 95, 99, 97, 99, 104, 101, 100, 95, 95]⟩⟩), (.str ⟨⟨[95, 95, 99, 97, 99, 104, 101, 100, 95, 95]⟩⟩ 174), .none⟩, ⟨(PyData.keyHash P ⟨⟨[95, 119, 97, 108, 108]⟩⟩), (.str ⟨⟨[95, 119, 97, 108, 108]⟩⟩ 193), (.ref 21)⟩, ⟨(PyData.keyHash P ⟨⟨[106, 111, 105, 110, 101, 100]⟩⟩), (.str ⟨⟨[106, 111, 105, 110, 101, 100]⟩⟩ 201), (.ref 26)⟩, ⟨(PyData.keyHash P ⟨⟨[119, 111, 114, 100, 101, 100]⟩⟩), (.str ⟨⟨[119, 111, 114, 100, 101, 100]⟩⟩ 209), (.ref 33)⟩, ⟨(PyData.keyHash P ⟨⟨[84, 111, 107, 101, 110]⟩⟩), (.str ⟨⟨[84, 111, 107, 101, 110]⟩⟩ 255), (.ref 59)⟩, ⟨(PyData.keyHash P ⟨⟨[113, 117, 111, 116, 101, 100]⟩⟩), (.str ⟨⟨[113, 117, 111, 116, 101, 100]⟩⟩ 262), (.ref 70)⟩, ⟨(PyData.keyHash P ⟨⟨[115, 104, 111, 119, 95, 115, 101, 108, 101, 99, 116]⟩⟩), (.str ⟨⟨[115, 104, 111, 119, 95, 115, 101, 108, 101, 99, 116]⟩⟩ 274), (.ref 77)⟩, ⟨(PyData.keyHash P ⟨⟨[76, 101, 100, 103, 101, 114, 69, 114, 114, 111, 114]⟩⟩), (.str ⟨⟨[76, 101, 100, 103, 101, 114, 69, 114, 114, 111, 114]⟩⟩ 316), (.ref 103)⟩, ⟨(PyData.keyHash P ⟨⟨[71, 114, 97, 109, 109, 97, 114, 70, 97, 117, 108, 116]⟩⟩), (.str ⟨⟨[71, 114, 97, 109, 109, 97, 114, 70, 97, 117, 108, 116]⟩⟩ 332), (.ref 116)⟩, ⟨(PyData.keyHash P ⟨⟨[79, 82, 71, 65, 78, 73, 90, 65, 84, 73, 79, 78, 83]⟩⟩), (.str ⟨⟨[79, 82, 71, 65, 78, 73, 90, 65, 84, 73, 79, 78, 83]⟩⟩ 338), (.ref 119)⟩, ⟨(PyData.keyHash P ⟨⟨[65, 67, 67, 69, 83, 83, 69, 83]⟩⟩), (.str ⟨⟨[65, 67, 67, 69, 83, 83, 69, 83]⟩⟩ 342), (.ref 120)⟩, ⟨(PyData.keyHash P ⟨⟨[70, 105, 108, 101, 83, 112, 101, 99]⟩⟩), (.str ⟨⟨[70, 105, 108, 101, 83, 112, 101, 99]⟩⟩ 388), (.ref 144)⟩, ⟨(PyData.keyHash P ⟨⟨[111, 110, 101, 95, 119, 111, 114, 100]⟩⟩), (.str ⟨⟨[111, 110, 101, 95, 119, 111, 114, 100]⟩⟩ 397), (.ref 155)⟩, ⟨(PyData.keyHash P ⟨⟨[114, 101, 97, 100, 95, 97, 115, 115, 105, 103, 110]⟩⟩), (.str ⟨⟨[114, 101, 97, 100, 95, 97, 115, 115, 105, 103, 110]⟩⟩ 405), (.ref 162)⟩, ⟨(PyData.keyHash P ⟨⟨[114, 101, 97, 100, 95, 114, 101, 99, 111, 114, 100, 95, 107, 101, 121]⟩⟩), (.str ⟨⟨[114, 101, 97, 100, 95, 114, 101, 99, 111, 114, 100, 95, 107, 101, 121]⟩⟩ 413), (.ref 169)⟩, ⟨(PyData.keyHash P ⟨⟨[114, 101, 97, 100, 95, 97, 108, 116, 101, 114, 110, 97, 116, 101]⟩⟩), (.str ⟨⟨[114, 101, 97, 100, 95, 97, 108, 116, 101, 114, 110, 97, 116, 101]⟩⟩ 419), (.ref 174)⟩, ⟨(PyData.keyHash P ⟨⟨[114, 101, 97, 100, 95, 114, 101, 108, 97, 116, 105, 118, 101]⟩⟩), (.str ⟨⟨[114, 101, 97, 100, 95, 114, 101, 108, 97, 116, 105, 118, 101]⟩⟩ 427), (.ref 181)⟩, ⟨(PyData.keyHash P ⟨⟨[114, 101, 97, 100, 95, 99, 108, 97, 117, 115, 101]⟩⟩), (.str ⟨⟨[114, 101, 97, 100, 95, 99, 108, 97, 117, 115, 101]⟩⟩ 435), (.ref 188)⟩, ⟨(PyData.keyHash P ⟨⟨[105, 115, 95, 119, 104, 111, 108, 101, 95, 115, 112, 101, 99]⟩⟩), (.str ⟨⟨[105, 115, 95, 119, 104, 111, 108, 101, 95, 115, 112, 101, 99]⟩⟩ 442), (.ref 195)⟩, ⟨(PyData.keyHash P ⟨⟨[114, 101, 97, 100, 95, 115, 101, 108, 101, 99, 116]⟩⟩), (.str ⟨⟨[114, 101, 97, 100, 95, 115, 101, 108, 101, 99, 116]⟩⟩ 454), (.ref 202)⟩, ⟨(PyData.keyHash P ⟨⟨[82, 69, 83, 69, 82, 86, 69, 68]⟩⟩), (.str ⟨⟨[82, 69, 83, 69, 82, 86, 69, 68]⟩⟩ 458), (.str ⟨⟨RsN⟩⟩ 457)⟩, ⟨(PyData.keyHash P ⟨⟨[105, 115, 95, 114, 101, 115, 101, 114, 118, 101, 100]⟩⟩), (.str ⟨⟨[105, 115, 95, 114, 101, 115, 101, 114, 118, 101, 100]⟩⟩ 465), (.ref 209)⟩, ⟨(PyData.keyHash P ⟨⟨[82, 101, 97, 100, 101, 114]⟩⟩), (.str ⟨⟨[82, 101, 97, 100, 101, 114]⟩⟩ 668), (.ref 378)⟩, ⟨(PyData.keyHash P ⟨⟨[95, 108, 97, 119, 95, 98, 111, 120]⟩⟩), (.str ⟨⟨[95, 108, 97, 119, 95, 98, 111, 120]⟩⟩ 676), (.ref 387)⟩, ⟨(PyData.keyHash P ⟨⟨[95, 108, 97, 119, 95, 100, 114, 97, 119]⟩⟩), (.str ⟨⟨[95, 108, 97, 119, 95, 100, 114, 97, 119]⟩⟩ 686), (.ref 394)⟩, ⟨(PyData.keyHash P ⟨⟨[95, 108, 97, 119, 95, 115, 112, 101, 99]⟩⟩), (.str ⟨⟨[95, 108, 97, 119, 95, 115, 112, 101, 99]⟩⟩ 701), (.ref 401)⟩, ⟨(PyData.keyHash P ⟨⟨[95, 108, 97, 119, 95, 114, 111, 119]⟩⟩), (.str ⟨⟨[95, 108, 97, 119, 95, 114, 111, 119]⟩⟩ 711), (.ref 408)⟩, ⟨(PyData.keyHash P ⟨⟨[95, 108, 97, 119, 95, 104, 101, 97, 114, 100]⟩⟩), (.str ⟨⟨[95, 108, 97, 119, 95, 104, 101, 97, 114, 100]⟩⟩ 721), (.ref 415)⟩, ⟨(PyData.keyHash P ⟨⟨[95, 108, 97, 119, 95, 103, 111, 101, 115, 95, 116, 111, 103, 101, 116, 104, 101, 114]⟩⟩), (.str ⟨⟨[95, 108, 97, 119, 95, 103, 111, 101, 115, 95, 116, 111, 103, 101, 116, 104, 101, 114]⟩⟩ 732), (.ref 422)⟩, ⟨(PyData.keyHash P ⟨⟨[95, 108, 97, 119, 95, 105, 115, 95, 114, 105, 103, 104, 116]⟩⟩), (.str ⟨⟨[95, 108, 97, 119, 95, 105, 115, 95, 114, 105, 103, 104, 116]⟩⟩ 742), (.ref 429)⟩, ⟨(PyData.keyHash P ⟨⟨[108, 97, 119]⟩⟩), (.str ⟨⟨[108, 97, 119]⟩⟩ 748), (.ref 434)⟩]) 39), (List.toArray [])⟩
noncomputable def ko_4 (P : Params) : Obj := ⟨(.type "module"), (some 0), .plain, (List.toArray [])⟩
noncomputable def ko_5 (P : Params) : Obj := ⟨(.type "module"), (some 3), .plain, (List.toArray [])⟩
noncomputable def ko_6 (P : Params) : Obj := ⟨(.type "dict"), none, (.dict (List.toArray []) 0), (List.toArray [])⟩
noncomputable def ko_7 (P : Params) : Obj := ⟨(.type "tuple"), none, (.seq (List.toArray []) 0), (List.toArray [])⟩
noncomputable def ko_8 (P : Params) : Obj := ⟨.none, none, (.fields (List.toArray [])), (List.toArray [])⟩
noncomputable def ko_9 (P : Params) : Obj := ⟨(.type "code"), none, (.fields (List.toArray [(.str ⟨⟨[60, 109, 111, 100, 117, 108, 101, 62]⟩⟩ 176), (.str ⟨⟨[60, 109, 111, 100, 117, 108, 101, 62]⟩⟩ 177), (.str ⟨⟨[47, 99, 108, 97, 105, 109, 47, 99, 117, 116, 46, 112, 121]⟩⟩ 178), (.int 1 0), (.int 0 0), (.int 0 0), (.int 0 0), (.int 0 0), (.ref 7), (.bool false), (.int 175 0), (.ref 8), .none, .none, .none, .none, (.int 179 0), (.int 1 0), (.str ⟨⟨[47, 99, 108, 97, 105, 109, 47, 99, 117, 116, 46, 112, 121]⟩⟩ 180)])), (List.toArray [])⟩
noncomputable def ko_10 (P : Params) : Obj := ⟨(.type "frame"), none, .plain, (List.toArray [(some (.ref 9)), (some (.ref 3)), (some (.ref 3)), none, (some (.str ⟨⟨[95, 95, 109, 97, 105, 110, 95, 95]⟩⟩ 164)), none, (some (.ref 0))])⟩
noncomputable def ko_11 (P : Params) : Obj := ⟨(.type "tuple"), none, (.seq (List.toArray []) 0), (List.toArray [])⟩
noncomputable def ko_12 (P : Params) : Obj := ⟨.none, none, (.fields (List.toArray [(.int 1 0), (.int 0 0), (.ref 20), (.int 5 0), (.int 0 0), (.ref 25), (.int 7 0), (.int 0 0), (.ref 32), (.int 10 0), (.int 0 0), (.ref 39), (.int 20 0), (.int 0 0), (.ref 69), (.int 23 0), (.int 0 0), (.ref 76), (.int 32 0), (.int 0 0), (.ref 83), (.int 41 0), (.int 0 0), (.ref 112), (.int 46 0), (.int 0 0), (.ref 126), (.int 63 0), (.int 0 0), (.ref 154), (.int 68 0), (.int 0 0), (.ref 161), (.int 73 0), (.int 0 0), (.ref 168), (.int 77 0), (.int 0 0), (.ref 173), (.int 86 0), (.int 0 0), (.ref 180), (.int 96 0), (.int 0 0), (.ref 187), (.int 122 0), (.int 0 0), (.ref 194), (.int 130 0), (.int 0 0), (.ref 201), (.int 148 0), (.int 0 0), (.ref 208), (.int 150 0), (.int 0 0), (.ref 215), (.int 251 0), (.int 0 0), (.ref 386), (.int 260 0), (.int 0 0), (.ref 393), (.int 271 0), (.int 0 0), (.ref 400), (.int 276 0), (.int 0 0), (.ref 407), (.int 284 0), (.int 0 0), (.ref 414), (.int 292 0), (.int 0 0), (.ref 421), (.int 300 0), (.int 0 0), (.ref 428), (.int 313 0), (.int 0 0), (.ref 433)])), (List.toArray [])⟩
noncomputable def ko_13 (P : Params) : Obj := ⟨(.type "code"), none, (.fields (List.toArray [(.str ⟨⟨[60, 109, 111, 100, 117, 108, 101, 62]⟩⟩ 182), (.str ⟨⟨[60, 109, 111, 100, 117, 108, 101, 62]⟩⟩ 183), (.str ⟨⟨[47, 99, 108, 97, 105, 109, 47, 99, 117, 116, 46, 112, 121]⟩⟩ 184), (.int 1 0), (.int 0 0), (.int 0 0), (.int 0 0), (.int 0 0), (.ref 11), (.bool false), (.int 181 0), (.ref 12), .none, .none, .none, .none, (.int 185 0), (.int 1 0), (.str ⟨⟨[47, 99, 108, 97, 105, 109, 47, 99, 117, 116, 46, 112, 121]⟩⟩ 186)])), (List.toArray [])⟩
noncomputable def ko_14 (P : Params) : Obj := ⟨(.type "frame"), none, .plain, (List.toArray [(some (.ref 13)), (some (.ref 3)), (some (.ref 3)), none, (some (.str ⟨⟨[95, 95, 109, 97, 105, 110, 95, 95]⟩⟩ 164)), none, (some (.ref 0))])⟩
noncomputable def ko_15 (P : Params) : Obj := ⟨(.type "tuple"), none, (.seq (List.toArray []) 0), (List.toArray [])⟩
noncomputable def ko_16 (P : Params) : Obj := ⟨.none, none, (.fields (List.toArray [])), (List.toArray [])⟩
noncomputable def ko_17 (P : Params) : Obj := ⟨(.type "tuple"), none, (.seq (List.toArray [(.str ⟨⟨[107]⟩⟩ 190)]) 0), (List.toArray [])⟩
noncomputable def ko_18 (P : Params) : Obj := ⟨(.type "tuple"), none, (.seq (List.toArray []) 0), (List.toArray [])⟩
noncomputable def ko_20 (P : Params) : Obj := ⟨(.type "code"), none, (.fields (List.toArray [(.str ⟨⟨[95, 119, 97, 108, 108]⟩⟩ 187), (.str ⟨⟨[95, 119, 97, 108, 108]⟩⟩ 188), (.str ⟨⟨[47, 99, 108, 97, 105, 109, 47, 99, 117, 116, 46, 112, 121]⟩⟩ 189), (.int 1 0), (.int 1 0), (.int 0 0), (.int 0 0), (.int 3 0), (.ref 15), (.bool true), (.int 181 0), (.ref 16), .none, (.ref 17), (.ref 18), (.ref 19), (.int 191 0), (.int 1 0), (.str ⟨⟨[47, 99, 108, 97, 105, 109, 47, 99, 117, 116, 46, 112, 121]⟩⟩ 192)])), (List.toArray [])⟩
noncomputable def ko_22 (P : Params) : Obj := ⟨(.type "tuple"), none, (.seq (List.toArray []) 0), (List.toArray [])⟩
noncomputable def ko_23 (P : Params) : Obj := ⟨.none, none, (.fields (List.toArray [])), (List.toArray [])⟩
noncomputable def ko_25 (P : Params) : Obj := ⟨(.type "code"), none, (.fields (List.toArray [(.str ⟨⟨[106, 111, 105, 110, 101, 100]⟩⟩ 196), (.str ⟨⟨[106, 111, 105, 110, 101, 100]⟩⟩ 197), (.str ⟨⟨[47, 99, 108, 97, 105, 109, 47, 99, 117, 116, 46, 112, 121]⟩⟩ 198), (.int 5 0), (.int 1 0), (.int 0 0), (.int 0 0), (.int 3 0), (.ref 22), (.bool true), (.int 181 0), (.ref 23), .none, .none, .none, (.ref 24), (.int 199 0), (.int 5 0), (.str ⟨⟨[47, 99, 108, 97, 105, 109, 47, 99, 117, 116, 46, 112, 121]⟩⟩ 200)])), (List.toArray [])⟩
noncomputable def ko_26 (P : Params) : Obj := ⟨.type "function", none, .func (fnOf "joined" "joined" F_joined.1.1 F_joined.1.2.1 F_joined.1.2.2 .none .none .none (.str "ledgerspeak.showing" 194) none (.ref 25) .none), #[]⟩
noncomputable def ko_27 (P : Params) : Obj := ⟨(.type "tuple"), none, (.seq (List.toArray []) 0), (List.toArray [])⟩
noncomputable def ko_28 (P : Params) : Obj := ⟨.none, none, (.fields (List.toArray [])), (List.toArray [])⟩
noncomputable def ko_29 (P : Params) : Obj := ⟨(.type "tuple"), none, (.seq (List.toArray [(.str ⟨⟨[119, 111, 114, 100]⟩⟩ 205), (.str ⟨⟨[116, 101, 120, 116]⟩⟩ 206)]) 0), (List.toArray [])⟩
noncomputable def ko_30 (P : Params) : Obj := ⟨(.type "tuple"), none, (.seq (List.toArray []) 0), (List.toArray [])⟩
noncomputable def ko_32 (P : Params) : Obj := ⟨(.type "code"), none, (.fields (List.toArray [(.str ⟨⟨[119, 111, 114, 100, 101, 100]⟩⟩ 202), (.str ⟨⟨[119, 111, 114, 100, 101, 100]⟩⟩ 203), (.str ⟨⟨[47, 99, 108, 97, 105, 109, 47, 99, 117, 116, 46, 112, 121]⟩⟩ 204), (.int 7 0), (.int 2 0), (.int 0 0), (.int 0 0), (.int 3 0), (.ref 27), (.bool true), (.int 181 0), (.ref 28), .none, (.ref 29), (.ref 30), (.ref 31), (.int 207 0), (.int 7 0), (.str ⟨⟨[47, 99, 108, 97, 105, 109, 47, 99, 117, 116, 46, 112, 121]⟩⟩ 208)])), (List.toArray [])⟩
noncomputable def ko_33 (P : Params) : Obj := ⟨.type "function", none, .func (fnOf "worded" "worded" F_worded.1.1 F_worded.1.2.1 F_worded.1.2.2 .none .none .none (.str "ledgerspeak.showing" 194) none (.ref 32) .none), #[]⟩
noncomputable def ko_41 (P : Params) : Obj := ⟨(.type "tuple"), none, (.seq (List.toArray [(.int 0 224), (.int 0 225)]) 0), (List.toArray [])⟩
noncomputable def ko_42 (P : Params) : Obj := ⟨(.type "tuple"), none, (.seq (List.toArray [(.ref 41), (.bool false)]) 0), (List.toArray [])⟩
noncomputable def ko_43 (P : Params) : Obj := ⟨(.type "tuple"), none, (.seq (List.toArray []) 0), (List.toArray [])⟩
noncomputable def ko_44 (P : Params) : Obj := ⟨.none, none, (.fields (List.toArray [])), (List.toArray [])⟩
noncomputable def ko_45 (P : Params) : Obj := ⟨(.type "tuple"), none, (.seq (List.toArray [(.str ⟨⟨[115, 101, 108, 102]⟩⟩ 229), (.str ⟨⟨[107, 105, 110, 100]⟩⟩ 230), (.str ⟨⟨[119, 111, 114, 116, 104]⟩⟩ 231), (.str ⟨⟨[97, 116]⟩⟩ 232), (.str ⟨⟨[105, 115, 95, 105, 110, 95, 97]⟩⟩ 233)]) 0), (List.toArray [])⟩
noncomputable def ko_46 (P : Params) : Obj := ⟨(.type "tuple"), none, (.seq (List.toArray []) 0), (List.toArray [])⟩
noncomputable def ko_48 (P : Params) : Obj := ⟨(.type "code"), none, (.fields (List.toArray [(.str ⟨⟨[95, 95, 105, 110, 105, 116, 95, 95]⟩⟩ 226), (.str ⟨⟨[84, 111, 107, 101, 110, 46, 95, 95, 105, 110, 105, 116, 95, 95]⟩⟩ 227), (.str ⟨⟨[47, 99, 108, 97, 105, 109, 47, 99, 117, 116, 46, 112, 121]⟩⟩ 228), (.int 12 0), (.int 5 0), (.int 0 0), (.int 0 0), (.int 3 0), (.ref 43), (.bool true), (.int 181 0), (.ref 44), .none, (.ref 45), (.ref 46), (.ref 47), (.int 234 0), (.int 12 0), (.str ⟨⟨[47, 99, 108, 97, 105, 109, 47, 99, 117, 116, 46, 112, 121]⟩⟩ 235)])), (List.toArray [])⟩
noncomputable def ko_49 (P : Params) : Obj := ⟨.type "function", none, .func (fnOf "__init__" "Token.__init__" F_Token_init.1.1 F_Token_init.1.2.1 F_Token_init.1.2.2 (.ref 42) .none .none (.str "ledgerspeak.tokens" 210) none (.ref 48) .none), #[]⟩
noncomputable def ko_50 (P : Params) : Obj := ⟨(.type "tuple"), none, (.seq (List.toArray []) 0), (List.toArray [])⟩
noncomputable def ko_51 (P : Params) : Obj := ⟨.none, none, (.fields (List.toArray [])), (List.toArray [])⟩
noncomputable def ko_52 (P : Params) : Obj := ⟨(.type "tuple"), none, (.seq (List.toArray [(.str ⟨⟨[115, 101, 108, 102]⟩⟩ 240)]) 0), (List.toArray [])⟩
noncomputable def ko_53 (P : Params) : Obj := ⟨(.type "tuple"), none, (.seq (List.toArray []) 0), (List.toArray [])⟩
noncomputable def ko_55 (P : Params) : Obj := ⟨(.type "code"), none, (.fields (List.toArray [(.str ⟨⟨[116, 111, 108, 100]⟩⟩ 237), (.str ⟨⟨[84, 111, 107, 101, 110, 46, 116, 111, 108, 100]⟩⟩ 238), (.str ⟨⟨[47, 99, 108, 97, 105, 109, 47, 99, 117, 116, 46, 112, 121]⟩⟩ 239), (.int 18 0), (.int 1 0), (.int 0 0), (.int 0 0), (.int 3 0), (.ref 50), (.bool true), (.int 181 0), (.ref 51), .none, (.ref 52), (.ref 53), (.ref 54), (.int 241 0), (.int 18 0), (.str ⟨⟨[47, 99, 108, 97, 105, 109, 47, 99, 117, 116, 46, 112, 121]⟩⟩ 242)])), (List.toArray [])⟩
noncomputable def ko_56 (P : Params) : Obj := ⟨.type "function", none, .func (fnOf "told" "Token.told" F_Token_told.1.1 F_Token_told.1.2.1 F_Token_told.1.2.2 .none .none .none (.str "ledgerspeak.tokens" 210) none (.ref 55) .none), #[]⟩
noncomputable def ko_57 (P : Params) : Obj := ⟨(.type "tuple"), none, (.seq (List.toArray [(.str ⟨⟨[97, 116]⟩⟩ 244), (.str ⟨⟨[105, 115, 95, 105, 110, 95, 97]⟩⟩ 245), (.str ⟨⟨[107, 105, 110, 100]⟩⟩ 246), (.str ⟨⟨[119, 111, 114, 116, 104]⟩⟩ 247)]) 0), (List.toArray [])⟩
noncomputable def ko_58 (P : Params) : Obj := ⟨(.type "dict"), none, (.dict (List.toArray [⟨(PyData.keyHash P ⟨⟨[95, 95, 109, 111, 100, 117, 108, 101, 95, 95]⟩⟩), (.str ⟨⟨[95, 95, 109, 111, 100, 117, 108, 101, 95, 95]⟩⟩ 219), (.str ⟨⟨[108, 101, 100, 103, 101, 114, 115, 112, 101, 97, 107, 46, 116, 111, 107, 101, 110, 115]⟩⟩ 210)⟩, ⟨(PyData.keyHash P ⟨⟨[95, 95, 102, 105, 114, 115, 116, 108, 105, 110, 101, 110, 111, 95, 95]⟩⟩), (.str ⟨⟨[95, 95, 102, 105, 114, 115, 116, 108, 105, 110, 101, 110, 111, 95, 95]⟩⟩ 223), (.int 10 222)⟩, ⟨(PyData.keyHash P ⟨⟨[95, 95, 105, 110, 105, 116, 95, 95]⟩⟩), (.str ⟨⟨[95, 95, 105, 110, 105, 116, 95, 95]⟩⟩ 236), (.ref 49)⟩, ⟨(PyData.keyHash P ⟨⟨[116, 111, 108, 100]⟩⟩), (.str ⟨⟨[116, 111, 108, 100]⟩⟩ 243), (.ref 56)⟩, ⟨(PyData.keyHash P ⟨⟨[95, 95, 115, 116, 97, 116, 105, 99, 95, 97, 116, 116, 114, 105, 98, 117, 116, 101, 115, 95, 95]⟩⟩), (.str ⟨⟨[95, 95, 115, 116, 97, 116, 105, 99, 95, 97, 116, 116, 114, 105, 98, 117, 116, 101, 115, 95, 95]⟩⟩ 248), (.ref 57)⟩, ⟨(PyData.keyHash P ⟨⟨[95, 95, 100, 105, 99, 116, 95, 95]⟩⟩), (.str ⟨⟨[95, 95, 100, 105, 99, 116, 95, 95]⟩⟩ 250), (.ref 60)⟩, ⟨(PyData.keyHash P ⟨⟨[95, 95, 119, 101, 97, 107, 114, 101, 102, 95, 95]⟩⟩), (.str ⟨⟨[95, 95, 119, 101, 97, 107, 114, 101, 102, 95, 95]⟩⟩ 252), (.ref 61)⟩, ⟨(PyData.keyHash P ⟨⟨[95, 95, 100, 111, 99, 95, 95]⟩⟩), (.str ⟨⟨[95, 95, 100, 111, 99, 95, 95]⟩⟩ 253), .none⟩]) 4), (List.toArray [])⟩
noncomputable def ko_59 (P : Params) : Obj := ⟨(.type "type"), none, (.cls ⟨⟨⟨[84, 111, 107, 101, 110]⟩⟩, [(.type "object")], [(.ref 59), (.type "object")], 58, ⟨⟨[84, 111, 107, 101, 110]⟩⟩, true, [], [], false, none, false⟩), (List.toArray [none, none, (some (.str ⟨⟨[84, 111, 107, 101, 110]⟩⟩ 212)), (some (.str ⟨⟨[84, 111, 107, 101, 110]⟩⟩ 220)), (some (.builtin "object.__new__")), (some (.bool true))])⟩
noncomputable def ko_60 (P : Params) : Obj := ⟨(.type "getset_descriptor"), none, (.fields (List.toArray [(.str ⟨⟨[95, 95, 100, 105, 99, 116, 95, 95]⟩⟩ 249), (.ref 59), (.builtin "function.__dict__"), (.builtin "function.__dict__#set")])), (List.toArray [])⟩
noncomputable def ko_61 (P : Params) : Obj := ⟨(.type "getset_descriptor"), none, (.fields (List.toArray [(.str ⟨⟨[95, 95, 119, 101, 97, 107, 114, 101, 102, 95, 95]⟩⟩ 251), (.ref 59), (.builtin "ExceptionGroup.__weakref__"), .none])), (List.toArray [])⟩
noncomputable def ko_64 (P : Params) : Obj := ⟨(.type "tuple"), none, (.seq (List.toArray []) 0), (List.toArray [])⟩
noncomputable def ko_65 (P : Params) : Obj := ⟨.none, none, (.fields (List.toArray [])), (List.toArray [])⟩
noncomputable def ko_66 (P : Params) : Obj := ⟨(.type "tuple"), none, (.seq (List.toArray [(.str ⟨⟨[116, 101, 120, 116]⟩⟩ 259)]) 0), (List.toArray [])⟩
noncomputable def ko_67 (P : Params) : Obj := ⟨(.type "tuple"), none, (.seq (List.toArray []) 0), (List.toArray [])⟩
noncomputable def ko_69 (P : Params) : Obj := ⟨(.type "code"), none, (.fields (List.toArray [(.str ⟨⟨[113, 117, 111, 116, 101, 100]⟩⟩ 256), (.str ⟨⟨[113, 117, 111, 116, 101, 100]⟩⟩ 257), (.str ⟨⟨[47, 99, 108, 97, 105, 109, 47, 99, 117, 116, 46, 112, 121]⟩⟩ 258), (.int 20 0), (.int 1 0), (.int 0 0), (.int 0 0), (.int 3 0), (.ref 64), (.bool true), (.int 181 0), (.ref 65), .none, (.ref 66), (.ref 67), (.ref 68), (.int 260 0), (.int 20 0), (.str ⟨⟨[47, 99, 108, 97, 105, 109, 47, 99, 117, 116, 46, 112, 121]⟩⟩ 261)])), (List.toArray [])⟩
noncomputable def ko_70 (P : Params) : Obj := ⟨.type "function", none, .func (fnOf "quoted" "quoted" F_quoted.1.1 F_quoted.1.2.1 F_quoted.1.2.2 .none .none .none (.str "ledgerspeak.tokens" 210) none (.ref 69) .none), #[]⟩
noncomputable def ko_71 (P : Params) : Obj := ⟨(.type "tuple"), none, (.seq (List.toArray []) 0), (List.toArray [])⟩
noncomputable def ko_72 (P : Params) : Obj := ⟨.none, none, (.fields (List.toArray [])), (List.toArray [])⟩
noncomputable def ko_73 (P : Params) : Obj := ⟨(.type "tuple"), none, (.seq (List.toArray [(.str ⟨⟨[115, 112, 101, 99]⟩⟩ 268), (.str ⟨⟨[112, 97, 114, 116, 115]⟩⟩ 269), (.str ⟨⟨[110, 97, 109, 101]⟩⟩ 270), (.str ⟨⟨[105, 115, 95, 109, 97, 110, 121]⟩⟩ 271)]) 0), (List.toArray [])⟩
noncomputable def ko_74 (P : Params) : Obj := ⟨(.type "tuple"), none, (.seq (List.toArray []) 0), (List.toArray [])⟩
noncomputable def ko_76 (P : Params) : Obj := ⟨(.type "code"), none, (.fields (List.toArray [(.str ⟨⟨[115, 104, 111, 119, 95, 115, 101, 108, 101, 99, 116]⟩⟩ 265), (.str ⟨⟨[115, 104, 111, 119, 95, 115, 101, 108, 101, 99, 116]⟩⟩ 266), (.str ⟨⟨[47, 99, 108, 97, 105, 109, 47, 99, 117, 116, 46, 112, 121]⟩⟩ 267), (.int 23 0), (.int 1 0), (.int 0 0), (.int 0 0), (.int 3 0), (.ref 71), (.bool true), (.int 181 0), (.ref 72), .none, (.ref 73), (.ref 74), (.ref 75), (.int 272 0), (.int 23 0), (.str ⟨⟨[47, 99, 108, 97, 105, 109, 47, 99, 117, 116, 46, 112, 121]⟩⟩ 273)])), (List.toArray [])⟩
noncomputable def ko_77 (P : Params) : Obj := ⟨.type "function", none, .func (fnOf "show_select" "show_select" F_show_select.1.1 F_show_select.1.2.1 F_show_select.1.2.2 .none .none .none (.str "ledgerspeak.showprog" 263) none (.ref 76) .none), #[]⟩
noncomputable def ko_78 (P : Params) : Obj := ⟨(.type "tuple"), none, (.seq (List.toArray [(.type "Exception")]) 0), (List.toArray [])⟩
noncomputable def ko_85 (P : Params) : Obj := ⟨(.type "tuple"), none, (.seq (List.toArray [(.int 0 289), (.int 0 290)]) 0), (List.toArray [])⟩
noncomputable def ko_86 (P : Params) : Obj := ⟨(.type "tuple"), none, (.seq (List.toArray [(.ref 85)]) 0), (List.toArray [])⟩
noncomputable def ko_87 (P : Params) : Obj := ⟨(.type "tuple"), none, (.seq (List.toArray []) 0), (List.toArray [])⟩
noncomputable def ko_88 (P : Params) : Obj := ⟨.none, none, (.fields (List.toArray [])), (List.toArray [])⟩
noncomputable def ko_89 (P : Params) : Obj := ⟨(.type "tuple"), none, (.seq (List.toArray [(.str ⟨⟨[115, 101, 108, 102]⟩⟩ 294), (.str ⟨⟨[119, 104, 97, 116]⟩⟩ 295), (.str ⟨⟨[97, 116]⟩⟩ 296)]) 0), (List.toArray [])⟩
noncomputable def ko_90 (P : Params) : Obj := ⟨(.type "tuple"), none, (.seq (List.toArray []) 0), (List.toArray [])⟩
noncomputable def ko_92 (P : Params) : Obj := ⟨(.type "code"), none, (.fields (List.toArray [(.str ⟨⟨[95, 95, 105, 110, 105, 116, 95, 95]⟩⟩ 291), (.str ⟨⟨[76, 101, 100, 103, 101, 114, 69, 114, 114, 111, 114, 46, 95, 95, 105, 110, 105, 116, 95, 95]⟩⟩ 292), (.str ⟨⟨[47, 99, 108, 97, 105, 109, 47, 99, 117, 116, 46, 112, 121]⟩⟩ 293), (.int 34 0), (.int 3 0), (.int 0 0), (.int 0 0), (.int 3 0), (.ref 87), (.bool true), (.int 181 0), (.ref 88), .none, (.ref 89), (.ref 90), (.ref 91), (.int 297 0), (.int 34 0), (.str ⟨⟨[47, 99, 108, 97, 105, 109, 47, 99, 117, 116, 46, 112, 121]⟩⟩ 298)])), (List.toArray [])⟩
noncomputable def ko_93 (P : Params) : Obj := ⟨.type "function", none, .func (fnOf "__init__" "LedgerError.__init__" F_LedgerError_init.1.1 F_LedgerError_init.1.2.1 F_LedgerError_init.1.2.2 (.ref 86) .none .none (.str "ledgerspeak.errors" 275) none (.ref 92) .none), #[]⟩
noncomputable def ko_94 (P : Params) : Obj := ⟨(.type "tuple"), none, (.seq (List.toArray []) 0), (List.toArray [])⟩
noncomputable def ko_95 (P : Params) : Obj := ⟨.none, none, (.fields (List.toArray [])), (List.toArray [])⟩
noncomputable def ko_96 (P : Params) : Obj := ⟨(.type "tuple"), none, (.seq (List.toArray [(.str ⟨⟨[115, 101, 108, 102]⟩⟩ 303)]) 0), (List.toArray [])⟩
noncomputable def ko_97 (P : Params) : Obj := ⟨(.type "tuple"), none, (.seq (List.toArray []) 0), (List.toArray [])⟩
noncomputable def ko_99 (P : Params) : Obj := ⟨(.type "code"), none, (.fields (List.toArray [(.str ⟨⟨[116, 111, 108, 100]⟩⟩ 300), (.str ⟨⟨[76, 101, 100, 103, 101, 114, 69, 114, 114, 111, 114, 46, 116, 111, 108, 100]⟩⟩ 301), (.str ⟨⟨[47, 99, 108, 97, 105, 109, 47, 99, 117, 116, 46, 112, 121]⟩⟩ 302), (.int 39 0), (.int 1 0), (.int 0 0), (.int 0 0), (.int 3 0), (.ref 94), (.bool true), (.int 181 0), (.ref 95), .none, (.ref 96), (.ref 97), (.ref 98), (.int 304 0), (.int 39 0), (.str ⟨⟨[47, 99, 108, 97, 105, 109, 47, 99, 117, 116, 46, 112, 121]⟩⟩ 305)])), (List.toArray [])⟩
noncomputable def ko_101 (P : Params) : Obj := ⟨(.type "tuple"), none, (.seq (List.toArray [(.str ⟨⟨[97, 116]⟩⟩ 307), (.str ⟨⟨[119, 104, 97, 116]⟩⟩ 308)]) 0), (List.toArray [])⟩
noncomputable def ko_102 (P : Params) : Obj := ⟨(.type "dict"), none, (.dict (List.toArray [⟨(PyData.keyHash P ⟨⟨[95, 95, 109, 111, 100, 117, 108, 101, 95, 95]⟩⟩), (.str ⟨⟨[95, 95, 109, 111, 100, 117, 108, 101, 95, 95]⟩⟩ 284), (.str ⟨⟨[108, 101, 100, 103, 101, 114, 115, 112, 101, 97, 107, 46, 101, 114, 114, 111, 114, 115]⟩⟩ 275)⟩, ⟨(PyData.keyHash P ⟨⟨[95, 95, 102, 105, 114, 115, 116, 108, 105, 110, 101, 110, 111, 95, 95]⟩⟩), (.str ⟨⟨[95, 95, 102, 105, 114, 115, 116, 108, 105, 110, 101, 110, 111, 95, 95]⟩⟩ 288), (.int 32 287)⟩, ⟨(PyData.keyHash P ⟨⟨[95, 95, 105, 110, 105, 116, 95, 95]⟩⟩), (.str ⟨⟨[95, 95, 105, 110, 105, 116, 95, 95]⟩⟩ 299), (.ref 93)⟩, ⟨(PyData.keyHash P ⟨⟨[116, 111, 108, 100]⟩⟩), (.str ⟨⟨[116, 111, 108, 100]⟩⟩ 306), (.ref 100)⟩, ⟨(PyData.keyHash P ⟨⟨[95, 95, 115, 116, 97, 116, 105, 99, 95, 97, 116, 116, 114, 105, 98, 117, 116, 101, 115, 95, 95]⟩⟩), (.str ⟨⟨[95, 95, 115, 116, 97, 116, 105, 99, 95, 97, 116, 116, 114, 105, 98, 117, 116, 101, 115, 95, 95]⟩⟩ 309), (.ref 101)⟩, ⟨(PyData.keyHash P ⟨⟨[95, 95, 119, 101, 97, 107, 114, 101, 102, 95, 95]⟩⟩), (.str ⟨⟨[95, 95, 119, 101, 97, 107, 114, 101, 102, 95, 95]⟩⟩ 311), (.ref 104)⟩, ⟨(PyData.keyHash P ⟨⟨[95, 95, 100, 111, 99, 95, 95]⟩⟩), (.str ⟨⟨[95, 95, 100, 111, 99, 95, 95]⟩⟩ 312), .none⟩]) 3), (List.toArray [])⟩
noncomputable def ko_103 (P : Params) : Obj := ⟨(.type "type"), none, (.cls ⟨⟨⟨[76, 101, 100, 103, 101, 114, 69, 114, 114, 111, 114]⟩⟩, [(.type "Exception")], [(.ref 103), (.type "Exception"), (.type "BaseException"), (.type "object")], 102, ⟨⟨[76, 101, 100, 103, 101, 114, 69, 114, 114, 111, 114]⟩⟩, true, [], [(.ref 116)], false, none, false⟩), (List.toArray [(some (.ref 78)), none, (some (.str ⟨⟨[76, 101, 100, 103, 101, 114, 69, 114, 114, 111, 114]⟩⟩ 277)), (some (.str ⟨⟨[76, 101, 100, 103, 101, 114, 69, 114, 114, 111, 114]⟩⟩ 285)), (some (.builtin "Exception.__new__")), (some (.bool true))])⟩
noncomputable def ko_104 (P : Params) : Obj := ⟨(.type "getset_descriptor"), none, (.fields (List.toArray [(.str ⟨⟨[95, 95, 119, 101, 97, 107, 114, 101, 102, 95, 95]⟩⟩ 310), (.ref 103), (.builtin "ExceptionGroup.__weakref__"), .none])), (List.toArray [])⟩
noncomputable def ko_107 (P : Params) : Obj := ⟨(.type "tuple"), none, (.seq (List.toArray [(.ref 103)]) 0), (List.toArray [])⟩
noncomputable def ko_114 (P : Params) : Obj := ⟨(.type "tuple"), none, (.seq (List.toArray []) 0), (List.toArray [])⟩
noncomputable def ko_115 (P : Params) : Obj := ⟨(.type "dict"), none, (.dict (List.toArray [⟨(PyData.keyHash P ⟨⟨[95, 95, 109, 111, 100, 117, 108, 101, 95, 95]⟩⟩), (.str ⟨⟨[95, 95, 109, 111, 100, 117, 108, 101, 95, 95]⟩⟩ 324), (.str ⟨⟨[108, 101, 100, 103, 101, 114, 115, 112, 101, 97, 107, 46, 101, 114, 114, 111, 114, 115]⟩⟩ 275)⟩, ⟨(PyData.keyHash P ⟨⟨[95, 95, 102, 105, 114, 115, 116, 108, 105, 110, 101, 110, 111, 95, 95]⟩⟩), (.str ⟨⟨[95, 95, 102, 105, 114, 115, 116, 108, 105, 110, 101, 110, 111, 95, 95]⟩⟩ 328), (.int 41 327)⟩, ⟨(PyData.keyHash P ⟨⟨[95, 95, 115, 116, 97, 116, 105, 99, 95, 97, 116, 116, 114, 105, 98, 117, 116, 101, 115, 95, 95]⟩⟩), (.str ⟨⟨[95, 95, 115, 116, 97, 116, 105, 99, 95, 97, 116, 116, 114, 105, 98, 117, 116, 101, 115, 95, 95]⟩⟩ 329), (.ref 114)⟩, ⟨(PyData.keyHash P ⟨⟨[95, 95, 100, 111, 99, 95, 95]⟩⟩), (.str ⟨⟨[95, 95, 100, 111, 99, 95, 95]⟩⟩ 330), .none⟩]) 2), (List.toArray [])⟩
noncomputable def ko_116 (P : Params) : Obj := ⟨(.type "type"), none, (.cls ⟨⟨⟨[71, 114, 97, 109, 109, 97, 114, 70, 97, 117, 108, 116]⟩⟩, [(.ref 103)], [(.ref 116), (.ref 103), (.type "Exception"), (.type "BaseException"), (.type "object")], 115, ⟨⟨[71, 114, 97, 109, 109, 97, 114, 70, 97, 117, 108, 116]⟩⟩, true, [], [], false, none, false⟩), (List.toArray [(some (.ref 107)), none, (some (.str ⟨⟨[71, 114, 97, 109, 109, 97, 114, 70, 97, 117, 108, 116]⟩⟩ 317)), (some (.str ⟨⟨[71, 114, 97, 109, 109, 97, 114, 70, 97, 117, 108, 116]⟩⟩ 325)), (some (.builtin "Exception.__new__")), (some (.bool true))])⟩
noncomputable def ko_119 (P : Params) : Obj := ⟨(.type "tuple"), none, (.seq (List.toArray [(.str ⟨⟨[83, 69, 81, 85, 69, 78, 84, 73, 65, 76]⟩⟩ 335), (.str ⟨⟨[82, 69, 76, 65, 84, 73, 86, 69]⟩⟩ 336), (.str ⟨⟨[73, 78, 68, 69, 88, 69, 68]⟩⟩ 337)]) 0), (List.toArray [])⟩
noncomputable def ko_120 (P : Params) : Obj := ⟨(.type "tuple"), none, (.seq (List.toArray [(.str ⟨⟨[83, 69, 81, 85, 69, 78, 84, 73, 65, 76]⟩⟩ 339), (.str ⟨⟨[82, 65, 78, 68, 79, 77]⟩⟩ 340), (.str ⟨⟨[68, 89, 78, 65, 77, 73, 67]⟩⟩ 341)]) 0), (List.toArray [])⟩
noncomputable def ko_128 (P : Params) : Obj := ⟨(.type "tuple"), none, (.seq (List.toArray []) 0), (List.toArray [])⟩
noncomputable def ko_129 (P : Params) : Obj := ⟨.none, none, (.fields (List.toArray [])), (List.toArray [])⟩
noncomputable def ko_130 (P : Params) : Obj := ⟨(.type "tuple"), none, (.seq (List.toArray [(.str ⟨⟨[115, 101, 108, 102]⟩⟩ 358), (.str ⟨⟨[110, 97, 109, 101]⟩⟩ 359)]) 0), (List.toArray [])⟩
noncomputable def ko_131 (P : Params) : Obj := ⟨(.type "tuple"), none, (.seq (List.toArray []) 0), (List.toArray [])⟩
noncomputable def ko_133 (P : Params) : Obj := ⟨(.type "code"), none, (.fields (List.toArray [(.str ⟨⟨[95, 95, 105, 110, 105, 116, 95, 95]⟩⟩ 355), (.str ⟨⟨[70, 105, 108, 101, 83, 112, 101, 99, 46, 95, 95, 105, 110, 105, 116, 95, 95]⟩⟩ 356), (.str ⟨⟨[47, 99, 108, 97, 105, 109, 47, 99, 117, 116, 46, 112, 121]⟩⟩ 357), (.int 48 0), (.int 2 0), (.int 0 0), (.int 0 0), (.int 3 0), (.ref 128), (.bool true), (.int 181 0), (.ref 129), .none, (.ref 130), (.ref 131), (.ref 132), (.int 360 0), (.int 48 0), (.str ⟨⟨[47, 99, 108, 97, 105, 109, 47, 99, 117, 116, 46, 112, 121]⟩⟩ 361)])), (List.toArray [])⟩
noncomputable def ko_134 (P : Params) : Obj := ⟨.type "function", none, .func (fnOf "__init__" "FileSpec.__init__" F_FileSpec_init.1.1 F_FileSpec_init.1.2.1 F_FileSpec_init.1.2.2 .none .none .none (.str "ledgerspeak.envread" 333) none (.ref 133) .none), #[]⟩
noncomputable def ko_135 (P : Params) : Obj := ⟨(.type "tuple"), none, (.seq (List.toArray []) 0), (List.toArray [])⟩
noncomputable def ko_136 (P : Params) : Obj := ⟨.none, none, (.fields (List.toArray [])), (List.toArray [])⟩
noncomputable def ko_137 (P : Params) : Obj := ⟨(.type "tuple"), none, (.seq (List.toArray [(.str ⟨⟨[115, 101, 108, 102]⟩⟩ 366), (.str ⟨⟨[107, 101, 121, 115]⟩⟩ 367)]) 0), (List.toArray [])⟩
noncomputable def ko_138 (P : Params) : Obj := ⟨(.type "tuple"), none, (.seq (List.toArray []) 0), (List.toArray [])⟩
noncomputable def ko_140 (P : Params) : Obj := ⟨(.type "code"), none, (.fields (List.toArray [(.str ⟨⟨[116, 111, 108, 100]⟩⟩ 363), (.str ⟨⟨[70, 105, 108, 101, 83, 112, 101, 99, 46, 116, 111, 108, 100]⟩⟩ 364), (.str ⟨⟨[47, 99, 108, 97, 105, 109, 47, 99, 117, 116, 46, 112, 121]⟩⟩ 365), (.int 60 0), (.int 1 0), (.int 0 0), (.int 0 0), (.int 3 0), (.ref 135), (.bool true), (.int 181 0), (.ref 136), .none, (.ref 137), (.ref 138), (.ref 139), (.int 368 0), (.int 60 0), (.str ⟨⟨[47, 99, 108, 97, 105, 109, 47, 99, 117, 116, 46, 112, 121]⟩⟩ 369)])), (List.toArray [])⟩
noncomputable def ko_141 (P : Params) : Obj := ⟨.type "function", none, .func (fnOf "told" "FileSpec.told" F_FileSpec_told.1.1 F_FileSpec_told.1.2.1 F_FileSpec_told.1.2.2 .none .none .none (.str "ledgerspeak.envread" 333) none (.ref 140) .none), #[]⟩
noncomputable def ko_142 (P : Params) : Obj := ⟨(.type "tuple"), none, (.seq (List.toArray [(.str ⟨⟨[97, 99, 99, 101, 115, 115]⟩⟩ 371), (.str ⟨⟨[97, 108, 116, 101, 114, 110, 97, 116, 101, 115]⟩⟩ 372), (.str ⟨⟨[105, 115, 95, 115, 111, 114, 116]⟩⟩ 373), (.str ⟨⟨[107, 101, 121]⟩⟩ 374), (.str ⟨⟨[110, 97, 109, 101]⟩⟩ 375), (.str ⟨⟨[111, 114, 103, 97, 110, 105, 122, 97, 116, 105, 111, 110]⟩⟩ 376), (.str ⟨⟨[112, 97, 116, 104]⟩⟩ 377), (.str ⟨⟨[114, 101, 99, 111, 114, 100, 115]⟩⟩ 378), (.str ⟨⟨[114, 101, 108, 97, 116, 105, 118, 101, 95, 107, 101, 121]⟩⟩ 379), (.str ⟨⟨[115, 116, 97, 116, 117, 115]⟩⟩ 380)]) 0), (List.toArray [])⟩
noncomputable def ko_143 (P : Params) : Obj := ⟨(.type "dict"), none, (.dict (List.toArray [⟨(PyData.keyHash P ⟨⟨[95, 95, 109, 111, 100, 117, 108, 101, 95, 95]⟩⟩), (.str ⟨⟨[95, 95, 109, 111, 100, 117, 108, 101, 95, 95]⟩⟩ 350), (.str ⟨⟨[108, 101, 100, 103, 101, 114, 115, 112, 101, 97, 107, 46, 101, 110, 118, 114, 101, 97, 100]⟩⟩ 333)⟩, ⟨(PyData.keyHash P ⟨⟨[95, 95, 102, 105, 114, 115, 116, 108, 105, 110, 101, 110, 111, 95, 95]⟩⟩), (.str ⟨⟨[95, 95, 102, 105, 114, 115, 116, 108, 105, 110, 101, 110, 111, 95, 95]⟩⟩ 354), (.int 46 353)⟩, ⟨(PyData.keyHash P ⟨⟨[95, 95, 105, 110, 105, 116, 95, 95]⟩⟩), (.str ⟨⟨[95, 95, 105, 110, 105, 116, 95, 95]⟩⟩ 362), (.ref 134)⟩, ⟨(PyData.keyHash P ⟨⟨[116, 111, 108, 100]⟩⟩), (.str ⟨⟨[116, 111, 108, 100]⟩⟩ 370), (.ref 141)⟩, ⟨(PyData.keyHash P ⟨⟨[95, 95, 115, 116, 97, 116, 105, 99, 95, 97, 116, 116, 114, 105, 98, 117, 116, 101, 115, 95, 95]⟩⟩), (.str ⟨⟨[95, 95, 115, 116, 97, 116, 105, 99, 95, 97, 116, 116, 114, 105, 98, 117, 116, 101, 115, 95, 95]⟩⟩ 381), (.ref 142)⟩, ⟨(PyData.keyHash P ⟨⟨[95, 95, 100, 105, 99, 116, 95, 95]⟩⟩), (.str ⟨⟨[95, 95, 100, 105, 99, 116, 95, 95]⟩⟩ 383), (.ref 145)⟩, ⟨(PyData.keyHash P ⟨⟨[95, 95, 119, 101, 97, 107, 114, 101, 102, 95, 95]⟩⟩), (.str ⟨⟨[95, 95, 119, 101, 97, 107, 114, 101, 102, 95, 95]⟩⟩ 385), (.ref 146)⟩, ⟨(PyData.keyHash P ⟨⟨[95, 95, 100, 111, 99, 95, 95]⟩⟩), (.str ⟨⟨[95, 95, 100, 111, 99, 95, 95]⟩⟩ 386), .none⟩]) 4), (List.toArray [])⟩
noncomputable def ko_144 (P : Params) : Obj := ⟨(.type "type"), none, (.cls ⟨⟨⟨[70, 105, 108, 101, 83, 112, 101, 99]⟩⟩, [(.type "object")], [(.ref 144), (.type "object")], 143, ⟨⟨[70, 105, 108, 101, 83, 112, 101, 99]⟩⟩, true, [], [], false, none, false⟩), (List.toArray [none, none, (some (.str ⟨⟨[70, 105, 108, 101, 83, 112, 101, 99]⟩⟩ 343)), (some (.str ⟨⟨[70, 105, 108, 101, 83, 112, 101, 99]⟩⟩ 351)), (some (.builtin "object.__new__")), (some (.bool true))])⟩
noncomputable def ko_145 (P : Params) : Obj := ⟨(.type "getset_descriptor"), none, (.fields (List.toArray [(.str ⟨⟨[95, 95, 100, 105, 99, 116, 95, 95]⟩⟩ 382), (.ref 144), (.builtin "function.__dict__"), (.builtin "function.__dict__#set")])), (List.toArray [])⟩
noncomputable def ko_146 (P : Params) : Obj := ⟨(.type "getset_descriptor"), none, (.fields (List.toArray [(.str ⟨⟨[95, 95, 119, 101, 97, 107, 114, 101, 102, 95, 95]⟩⟩ 384), (.ref 144), (.builtin "ExceptionGroup.__weakref__"), .none])), (List.toArray [])⟩
noncomputable def ko_149 (P : Params) : Obj := ⟨(.type "tuple"), none, (.seq (List.toArray []) 0), (List.toArray [])⟩
noncomputable def ko_150 (P : Params) : Obj := ⟨.none, none, (.fields (List.toArray [])), (List.toArray [])⟩
noncomputable def ko_151 (P : Params) : Obj := ⟨(.type "tuple"), none, (.seq (List.toArray [(.str ⟨⟨[114, 101, 97, 100, 101, 114]⟩⟩ 392), (.str ⟨⟨[119, 111, 114, 100, 115]⟩⟩ 393), (.str ⟨⟨[119, 111, 114, 100]⟩⟩ 394)]) 0), (List.toArray [])⟩
noncomputable def ko_152 (P : Params) : Obj := ⟨(.type "tuple"), none, (.seq (List.toArray []) 0), (List.toArray [])⟩
noncomputable def ko_154 (P : Params) : Obj := ⟨(.type "code"), none, (.fields (List.toArray [(.str ⟨⟨[111, 110, 101, 95, 119, 111, 114, 100]⟩⟩ 389), (.str ⟨⟨[111, 110, 101, 95, 119, 111, 114, 100]⟩⟩ 390), (.str ⟨⟨[47, 99, 108, 97, 105, 109, 47, 99, 117, 116, 46, 112, 121]⟩⟩ 391), (.int 63 0), (.int 2 0), (.int 0 0), (.int 0 0), (.int 3 0), (.ref 149), (.bool true), (.int 181 0), (.ref 150), .none, (.ref 151), (.ref 152), (.ref 153), (.int 395 0), (.int 63 0), (.str ⟨⟨[47, 99, 108, 97, 105, 109, 47, 99, 117, 116, 46, 112, 121]⟩⟩ 396)])), (List.toArray [])⟩
noncomputable def ko_155 (P : Params) : Obj := ⟨.type "function", none, .func (fnOf "one_word" "one_word" F_one_word.1.1 F_one_word.1.2.1 F_one_word.1.2.2 .none .none .none (.str "ledgerspeak.envread" 333) none (.ref 154) .none), #[]⟩
noncomputable def ko_156 (P : Params) : Obj := ⟨(.type "tuple"), none, (.seq (List.toArray []) 0), (List.toArray [])⟩
noncomputable def ko_157 (P : Params) : Obj := ⟨.none, none, (.fields (List.toArray [])), (List.toArray [])⟩
noncomputable def ko_158 (P : Params) : Obj := ⟨(.type "tuple"), none, (.seq (List.toArray [(.str ⟨⟨[114, 101, 97, 100, 101, 114]⟩⟩ 401), (.str ⟨⟨[115, 112, 101, 99]⟩⟩ 402)]) 0), (List.toArray [])⟩
noncomputable def ko_159 (P : Params) : Obj := ⟨(.type "tuple"), none, (.seq (List.toArray []) 0), (List.toArray [])⟩
noncomputable def ko_161 (P : Params) : Obj := ⟨(.type "code"), none, (.fields (List.toArray [(.str ⟨⟨[114, 101, 97, 100, 95, 97, 115, 115, 105, 103, 110]⟩⟩ 398), (.str ⟨⟨[114, 101, 97, 100, 95, 97, 115, 115, 105, 103, 110]⟩⟩ 399), (.str ⟨⟨[47, 99, 108, 97, 105, 109, 47, 99, 117, 116, 46, 112, 121]⟩⟩ 400), (.int 68 0), (.int 2 0), (.int 0 0), (.int 0 0), (.int 3 0), (.ref 156), (.bool true), (.int 181 0), (.ref 157), .none, (.ref 158), (.ref 159), (.ref 160), (.int 403 0), (.int 68 0), (.str ⟨⟨[47, 99, 108, 97, 105, 109, 47, 99, 117, 116, 46, 112, 121]⟩⟩ 404)])), (List.toArray [])⟩
noncomputable def ko_162 (P : Params) : Obj := ⟨.type "function", none, .func (fnOf "read_assign" "read_assign" F_read_assign.1.1 F_read_assign.1.2.1 F_read_assign.1.2.2 .none .none .none (.str "ledgerspeak.envread" 333) none (.ref 161) .none), #[]⟩
noncomputable def ko_163 (P : Params) : Obj := ⟨(.type "tuple"), none, (.seq (List.toArray []) 0), (List.toArray [])⟩
noncomputable def ko_164 (P : Params) : Obj := ⟨.none, none, (.fields (List.toArray [])), (List.toArray [])⟩
noncomputable def ko_165 (P : Params) : Obj := ⟨(.type "tuple"), none, (.seq (List.toArray [(.str ⟨⟨[114, 101, 97, 100, 101, 114]⟩⟩ 409), (.str ⟨⟨[115, 112, 101, 99]⟩⟩ 410)]) 0), (List.toArray [])⟩
noncomputable def ko_166 (P : Params) : Obj := ⟨(.type "tuple"), none, (.seq (List.toArray []) 0), (List.toArray [])⟩
noncomputable def ko_168 (P : Params) : Obj := ⟨(.type "code"), none, (.fields (List.toArray [(.str ⟨⟨[114, 101, 97, 100, 95, 114, 101, 99, 111, 114, 100, 95, 107, 101, 121]⟩⟩ 406), (.str ⟨⟨[114, 101, 97, 100, 95, 114, 101, 99, 111, 114, 100, 95, 107, 101, 121]⟩⟩ 407), (.str ⟨⟨[47, 99, 108, 97, 105, 109, 47, 99, 117, 116, 46, 112, 121]⟩⟩ 408), (.int 73 0), (.int 2 0), (.int 0 0), (.int 0 0), (.int 3 0), (.ref 163), (.bool true), (.int 181 0), (.ref 164), .none, (.ref 165), (.ref 166), (.ref 167), (.int 411 0), (.int 73 0), (.str ⟨⟨[47, 99, 108, 97, 105, 109, 47, 99, 117, 116, 46, 112, 121]⟩⟩ 412)])), (List.toArray [])⟩
noncomputable def ko_169 (P : Params) : Obj := ⟨.type "function", none, .func (fnOf "read_record_key" "read_record_key" F_read_record_key.1.1 F_read_record_key.1.2.1 F_read_record_key.1.2.2 .none .none .none (.str "ledgerspeak.envread" 333) none (.ref 168) .none), #[]⟩
noncomputable def ko_170 (P : Params) : Obj := ⟨(.type "tuple"), none, (.seq (List.toArray []) 0), (List.toArray [])⟩
noncomputable def ko_171 (P : Params) : Obj := ⟨.none, none, (.fields (List.toArray [])), (List.toArray [])⟩
noncomputable def ko_173 (P : Params) : Obj := ⟨(.type "code"), none, (.fields (List.toArray [(.str ⟨⟨[114, 101, 97, 100, 95, 97, 108, 116, 101, 114, 110, 97, 116, 101]⟩⟩ 414), (.str ⟨⟨[114, 101, 97, 100, 95, 97, 108, 116, 101, 114, 110, 97, 116, 101]⟩⟩ 415), (.str ⟨⟨[47, 99, 108, 97, 105, 109, 47, 99, 117, 116, 46, 112, 121]⟩⟩ 416), (.int 77 0), (.int 2 0), (.int 0 0), (.int 0 0), (.int 3 0), (.ref 170), (.bool true), (.int 181 0), (.ref 171), .none, .none, .none, (.ref 172), (.int 417 0), (.int 77 0), (.str ⟨⟨[47, 99, 108, 97, 105, 109, 47, 99, 117, 116, 46, 112, 121]⟩⟩ 418)])), (List.toArray [])⟩
noncomputable def ko_174 (P : Params) : Obj := ⟨.type "function", none, .func (fnOf "read_alternate" "read_alternate" F_read_alternate.1.1 F_read_alternate.1.2.1 F_read_alternate.1.2.2 .none .none .none (.str "ledgerspeak.envread" 333) none (.ref 173) .none), #[]⟩
noncomputable def ko_175 (P : Params) : Obj := ⟨(.type "tuple"), none, (.seq (List.toArray []) 0), (List.toArray [])⟩
noncomputable def ko_176 (P : Params) : Obj := ⟨.none, none, (.fields (List.toArray [])), (List.toArray [])⟩
noncomputable def ko_177 (P : Params) : Obj := ⟨(.type "tuple"), none, (.seq (List.toArray [(.str ⟨⟨[114, 101, 97, 100, 101, 114]⟩⟩ 423), (.str ⟨⟨[115, 112, 101, 99]⟩⟩ 424)]) 0), (List.toArray [])⟩
noncomputable def ko_178 (P : Params) : Obj := ⟨(.type "tuple"), none, (.seq (List.toArray []) 0), (List.toArray [])⟩
noncomputable def ko_180 (P : Params) : Obj := ⟨(.type "code"), none, (.fields (List.toArray [(.str ⟨⟨[114, 101, 97, 100, 95, 114, 101, 108, 97, 116, 105, 118, 101]⟩⟩ 420), (.str ⟨⟨[114, 101, 97, 100, 95, 114, 101, 108, 97, 116, 105, 118, 101]⟩⟩ 421), (.str ⟨⟨[47, 99, 108, 97, 105, 109, 47, 99, 117, 116, 46, 112, 121]⟩⟩ 422), (.int 86 0), (.int 2 0), (.int 0 0), (.int 0 0), (.int 3 0), (.ref 175), (.bool true), (.int 181 0), (.ref 176), .none, (.ref 177), (.ref 178), (.ref 179), (.int 425 0), (.int 86 0), (.str ⟨⟨[47, 99, 108, 97, 105, 109, 47, 99, 117, 116, 46, 112, 121]⟩⟩ 426)])), (List.toArray [])⟩
noncomputable def ko_181 (P : Params) : Obj := ⟨.type "function", none, .func (fnOf "read_relative" "read_relative" F_read_relative.1.1 F_read_relative.1.2.1 F_read_relative.1.2.2 .none .none .none (.str "ledgerspeak.envread" 333) none (.ref 180) .none), #[]⟩
noncomputable def ko_182 (P : Params) : Obj := ⟨(.type "tuple"), none, (.seq (List.toArray []) 0), (List.toArray [])⟩
noncomputable def ko_183 (P : Params) : Obj := ⟨.none, none, (.fields (List.toArray [])), (List.toArray [])⟩
noncomputable def ko_184 (P : Params) : Obj := ⟨(.type "tuple"), none, (.seq (List.toArray [(.str ⟨⟨[114, 101, 97, 100, 101, 114]⟩⟩ 431), (.str ⟨⟨[115, 112, 101, 99]⟩⟩ 432)]) 0), (List.toArray [])⟩
noncomputable def ko_185 (P : Params) : Obj := ⟨(.type "tuple"), none, (.seq (List.toArray []) 0), (List.toArray [])⟩
noncomputable def ko_187 (P : Params) : Obj := ⟨(.type "code"), none, (.fields (List.toArray [(.str ⟨⟨[114, 101, 97, 100, 95, 99, 108, 97, 117, 115, 101]⟩⟩ 428), (.str ⟨⟨[114, 101, 97, 100, 95, 99, 108, 97, 117, 115, 101]⟩⟩ 429), (.str ⟨⟨[47, 99, 108, 97, 105, 109, 47, 99, 117, 116, 46, 112, 121]⟩⟩ 430), (.int 96 0), (.int 2 0), (.int 0 0), (.int 0 0), (.int 3 0), (.ref 182), (.bool true), (.int 181 0), (.ref 183), .none, (.ref 184), (.ref 185), (.ref 186), (.int 433 0), (.int 96 0), (.str ⟨⟨[47, 99, 108, 97, 105, 109, 47, 99, 117, 116, 46, 112, 121]⟩⟩ 434)])), (List.toArray [])⟩
noncomputable def ko_188 (P : Params) : Obj := ⟨.type "function", none, .func (fnOf "read_clause" "read_clause" F_read_clause.1.1 F_read_clause.1.2.1 F_read_clause.1.2.2 .none .none .none (.str "ledgerspeak.envread" 333) none (.ref 187) .none), #[]⟩
noncomputable def ko_189 (P : Params) : Obj := ⟨(.type "tuple"), none, (.seq (List.toArray []) 0), (List.toArray [])⟩
noncomputable def ko_190 (P : Params) : Obj := ⟨.none, none, (.fields (List.toArray [])), (List.toArray [])⟩
noncomputable def ko_191 (P : Params) : Obj := ⟨(.type "tuple"), none, (.seq (List.toArray [(.str ⟨⟨[115, 112, 101, 99]⟩⟩ 439)]) 0), (List.toArray [])⟩
noncomputable def ko_192 (P : Params) : Obj := ⟨(.type "tuple"), none, (.seq (List.toArray []) 0), (List.toArray [])⟩
noncomputable def ko_194 (P : Params) : Obj := ⟨(.type "code"), none, (.fields (List.toArray [(.str ⟨⟨[105, 115, 95, 119, 104, 111, 108, 101, 95, 115, 112, 101, 99]⟩⟩ 436), (.str ⟨⟨[105, 115, 95, 119, 104, 111, 108, 101, 95, 115, 112, 101, 99]⟩⟩ 437), (.str ⟨⟨[47, 99, 108, 97, 105, 109, 47, 99, 117, 116, 46, 112, 121]⟩⟩ 438), (.int 122 0), (.int 1 0), (.int 0 0), (.int 0 0), (.int 3 0), (.ref 189), (.bool true), (.int 181 0), (.ref 190), .none, (.ref 191), (.ref 192), (.ref 193), (.int 440 0), (.int 122 0), (.str ⟨⟨[47, 99, 108, 97, 105, 109, 47, 99, 117, 116, 46, 112, 121]⟩⟩ 441)])), (List.toArray [])⟩
noncomputable def ko_195 (P : Params) : Obj := ⟨.type "function", none, .func (fnOf "is_whole_spec" "is_whole_spec" F_is_whole_spec.1.1 F_is_whole_spec.1.2.1 F_is_whole_spec.1.2.2 .none .none .none (.str "ledgerspeak.envread" 333) none (.ref 194) .none), #[]⟩
noncomputable def ko_196 (P : Params) : Obj := ⟨(.type "tuple"), none, (.seq (List.toArray []) 0), (List.toArray [])⟩
noncomputable def ko_197 (P : Params) : Obj := ⟨.none, none, (.fields (List.toArray [])), (List.toArray [])⟩
noncomputable def ko_198 (P : Params) : Obj := ⟨(.type "tuple"), none, (.seq (List.toArray [(.str ⟨⟨[114, 101, 97, 100, 101, 114]⟩⟩ 446), (.str ⟨⟨[112, 108, 97, 99, 101]⟩⟩ 447), (.str ⟨⟨[115, 112, 101, 99]⟩⟩ 448), (.str ⟨⟨[109, 101, 116]⟩⟩ 449), (.str ⟨⟨[97, 104, 101, 97, 100]⟩⟩ 450), (.str ⟨⟨[119, 111, 114, 100]⟩⟩ 451)]) 0), (List.toArray [])⟩
noncomputable def ko_199 (P : Params) : Obj := ⟨(.type "tuple"), none, (.seq (List.toArray []) 0), (List.toArray [])⟩
noncomputable def ko_201 (P : Params) : Obj := ⟨(.type "code"), none, (.fields (List.toArray [(.str ⟨⟨[114, 101, 97, 100, 95, 115, 101, 108, 101, 99, 116]⟩⟩ 443), (.str ⟨⟨[114, 101, 97, 100, 95, 115, 101, 108, 101, 99, 116]⟩⟩ 444), (.str ⟨⟨[47, 99, 108, 97, 105, 109, 47, 99, 117, 116, 46, 112, 121]⟩⟩ 445), (.int 130 0), (.int 1 0), (.int 0 0), (.int 0 0), (.int 3 0), (.ref 196), (.bool true), (.int 181 0), (.ref 197), .none, (.ref 198), (.ref 199), (.ref 200), (.int 452 0), (.int 130 0), (.str ⟨⟨[47, 99, 108, 97, 105, 109, 47, 99, 117, 116, 46, 112, 121]⟩⟩ 453)])), (List.toArray [])⟩
noncomputable def ko_202 (P : Params) : Obj := ⟨.type "function", none, .func (fnOf "read_select" "read_select" F_read_select.1.1 F_read_select.1.2.1 F_read_select.1.2.2 .none .none .none (.str "ledgerspeak.envread" 333) none (.ref 201) .none), #[]⟩
noncomputable def ko_203 (P : Params) : Obj := ⟨(.type "tuple"), none, (.seq (List.toArray []) 0), (List.toArray [])⟩
noncomputable def ko_204 (P : Params) : Obj := ⟨.none, none, (.fields (List.toArray [])), (List.toArray [])⟩
noncomputable def ko_205 (P : Params) : Obj := ⟨(.type "tuple"), none, (.seq (List.toArray [(.str ⟨⟨[119, 111, 114, 100]⟩⟩ 462)]) 0), (List.toArray [])⟩
noncomputable def ko_206 (P : Params) : Obj := ⟨(.type "tuple"), none, (.seq (List.toArray []) 0), (List.toArray [])⟩
noncomputable def ko_208 (P : Params) : Obj := ⟨(.type "code"), none, (.fields (List.toArray [(.str ⟨⟨[105, 115, 95, 114, 101, 115, 101, 114, 118, 101, 100]⟩⟩ 459), (.str ⟨⟨[105, 115, 95, 114, 101, 115, 101, 114, 118, 101, 100]⟩⟩ 460), (.str ⟨⟨[47, 99, 108, 97, 105, 109, 47, 99, 117, 116, 46, 112, 121]⟩⟩ 461), (.int 148 0), (.int 1 0), (.int 0 0), (.int 0 0), (.int 3 0), (.ref 203), (.bool true), (.int 181 0), (.ref 204), .none, (.ref 205), (.ref 206), (.ref 207), (.int 463 0), (.int 148 0), (.str ⟨⟨[47, 99, 108, 97, 105, 109, 47, 99, 117, 116, 46, 112, 121]⟩⟩ 464)])), (List.toArray [])⟩
noncomputable def ko_209 (P : Params) : Obj := ⟨.type "function", none, .func (fnOf "is_reserved" "is_reserved" F_is_reserved.1.1 F_is_reserved.1.2.1 F_is_reserved.1.2.2 .none .none .none (.str "ledgerspeak.reader" 455) none (.ref 208) .none), #[]⟩
noncomputable def ko_217 (P : Params) : Obj := ⟨(.type "tuple"), none, (.seq (List.toArray [(.int 0 478)]) 0), (List.toArray [])⟩
noncomputable def ko_218 (P : Params) : Obj := ⟨(.type "tuple"), none, (.seq (List.toArray []) 0), (List.toArray [])⟩
noncomputable def ko_219 (P : Params) : Obj := ⟨.none, none, (.fields (List.toArray [])), (List.toArray [])⟩
noncomputable def ko_220 (P : Params) : Obj := ⟨(.type "tuple"), none, (.seq (List.toArray [(.str ⟨⟨[115, 101, 108, 102]⟩⟩ 482), (.str ⟨⟨[116, 111, 107, 101, 110, 115]⟩⟩ 483), (.str ⟨⟨[97, 116]⟩⟩ 484)]) 0), (List.toArray [])⟩
noncomputable def ko_221 (P : Params) : Obj := ⟨(.type "tuple"), none, (.seq (List.toArray []) 0), (List.toArray [])⟩
noncomputable def ko_223 (P : Params) : Obj := ⟨(.type "code"), none, (.fields (List.toArray [(.str ⟨⟨[95, 95, 105, 110, 105, 116, 95, 95]⟩⟩ 479), (.str ⟨⟨[82, 101, 97, 100, 101, 114, 46, 95, 95, 105, 110, 105, 116, 95, 95]⟩⟩ 480), (.str ⟨⟨[47, 99, 108, 97, 105, 109, 47, 99, 117, 116, 46, 112, 121]⟩⟩ 481), (.int 152 0), (.int 3 0), (.int 0 0), (.int 0 0), (.int 3 0), (.ref 218), (.bool true), (.int 181 0), (.ref 219), .none, (.ref 220), (.ref 221), (.ref 222), (.int 485 0), (.int 152 0), (.str ⟨⟨[47, 99, 108, 97, 105, 109, 47, 99, 117, 116, 46, 112, 121]⟩⟩ 486)])), (List.toArray [])⟩
noncomputable def ko_224 (P : Params) : Obj := ⟨.type "function", none, .func (fnOf "__init__" "Reader.__init__" F_R_init.1.1 F_R_init.1.2.1 F_R_init.1.2.2 (.ref 217) .none .none (.str "ledgerspeak.reader" 455) none (.ref 223) .none), #[]⟩
noncomputable def ko_225 (P : Params) : Obj := ⟨(.type "tuple"), none, (.seq (List.toArray [(.int 0 488)]) 0), (List.toArray [])⟩
noncomputable def ko_226 (P : Params) : Obj := ⟨(.type "tuple"), none, (.seq (List.toArray []) 0), (List.toArray [])⟩
noncomputable def ko_227 (P : Params) : Obj := ⟨.none, none, (.fields (List.toArray [])), (List.toArray [])⟩
noncomputable def ko_228 (P : Params) : Obj := ⟨(.type "tuple"), none, (.seq (List.toArray [(.str ⟨⟨[115, 101, 108, 102]⟩⟩ 492), (.str ⟨⟨[97, 104, 101, 97, 100]⟩⟩ 493)]) 0), (List.toArray [])⟩
noncomputable def ko_229 (P : Params) : Obj := ⟨(.type "tuple"), none, (.seq (List.toArray []) 0), (List.toArray [])⟩
noncomputable def ko_231 (P : Params) : Obj := ⟨(.type "code"), none, (.fields (List.toArray [(.str ⟨⟨[112, 101, 101, 107]⟩⟩ 489), (.str ⟨⟨[82, 101, 97, 100, 101, 114, 46, 112, 101, 101, 107]⟩⟩ 490), (.str ⟨⟨[47, 99, 108, 97, 105, 109, 47, 99, 117, 116, 46, 112, 121]⟩⟩ 491), (.int 158 0), (.int 2 0), (.int 0 0), (.int 0 0), (.int 3 0), (.ref 226), (.bool true), (.int 181 0), (.ref 227), .none, (.ref 228), (.ref 229), (.ref 230), (.int 494 0), (.int 158 0), (.str ⟨⟨[47, 99, 108, 97, 105, 109, 47, 99, 117, 116, 46, 112, 121]⟩⟩ 495)])), (List.toArray [])⟩
noncomputable def ko_232 (P : Params) : Obj := ⟨.type "function", none, .func (fnOf "peek" "Reader.peek" F_R_peek.1.1 F_R_peek.1.2.1 F_R_peek.1.2.2 (.ref 225) .none .none (.str "ledgerspeak.reader" 455) none (.ref 231) .none), #[]⟩
noncomputable def ko_233 (P : Params) : Obj := ⟨(.type "tuple"), none, (.seq (List.toArray []) 0), (List.toArray [])⟩
noncomputable def ko_234 (P : Params) : Obj := ⟨.none, none, (.fields (List.toArray [])), (List.toArray [])⟩
noncomputable def ko_235 (P : Params) : Obj := ⟨(.type "tuple"), none, (.seq (List.toArray [(.str ⟨⟨[115, 101, 108, 102]⟩⟩ 500)]) 0), (List.toArray [])⟩
noncomputable def ko_236 (P : Params) : Obj := ⟨(.type "tuple"), none, (.seq (List.toArray []) 0), (List.toArray [])⟩
noncomputable def ko_238 (P : Params) : Obj := ⟨(.type "code"), none, (.fields (List.toArray [(.str ⟨⟨[105, 115, 95, 100, 111, 110, 101]⟩⟩ 497), (.str ⟨⟨[82, 101, 97, 100, 101, 114, 46, 105, 115, 95, 100, 111, 110, 101]⟩⟩ 498), (.str ⟨⟨[47, 99, 108, 97, 105, 109, 47, 99, 117, 116, 46, 112, 121]⟩⟩ 499), (.int 163 0), (.int 1 0), (.int 0 0), (.int 0 0), (.int 3 0), (.ref 233), (.bool true), (.int 181 0), (.ref 234), .none, (.ref 235), (.ref 236), (.ref 237), (.int 501 0), (.int 163 0), (.str ⟨⟨[47, 99, 108, 97, 105, 109, 47, 99, 117, 116, 46, 112, 121]⟩⟩ 502)])), (List.toArray [])⟩
noncomputable def ko_239 (P : Params) : Obj := ⟨.type "function", none, .func (fnOf "is_done" "Reader.is_done" F_R_is_done.1.1 F_R_is_done.1.2.1 F_R_is_done.1.2.2 .none .none .none (.str "ledgerspeak.reader" 455) none (.ref 238) .none), #[]⟩
noncomputable def ko_240 (P : Params) : Obj := ⟨(.type "tuple"), none, (.seq (List.toArray []) 0), (List.toArray [])⟩
noncomputable def ko_241 (P : Params) : Obj := ⟨.none, none, (.fields (List.toArray [])), (List.toArray [])⟩
noncomputable def ko_242 (P : Params) : Obj := ⟨(.type "tuple"), none, (.seq (List.toArray [(.str ⟨⟨[115, 101, 108, 102]⟩⟩ 507), (.str ⟨⟨[119, 104, 97, 116]⟩⟩ 508)]) 0), (List.toArray [])⟩
noncomputable def ko_243 (P : Params) : Obj := ⟨(.type "tuple"), none, (.seq (List.toArray []) 0), (List.toArray [])⟩
noncomputable def ko_245 (P : Params) : Obj := ⟨(.type "code"), none, (.fields (List.toArray [(.str ⟨⟨[102, 97, 117, 108, 116]⟩⟩ 504), (.str ⟨⟨[82, 101, 97, 100, 101, 114, 46, 102, 97, 117, 108, 116]⟩⟩ 505), (.str ⟨⟨[47, 99, 108, 97, 105, 109, 47, 99, 117, 116, 46, 112, 121]⟩⟩ 506), (.int 166 0), (.int 2 0), (.int 0 0), (.int 0 0), (.int 3 0), (.ref 240), (.bool true), (.int 181 0), (.ref 241), .none, (.ref 242), (.ref 243), (.ref 244), (.int 509 0), (.int 166 0), (.str ⟨⟨[47, 99, 108, 97, 105, 109, 47, 99, 117, 116, 46, 112, 121]⟩⟩ 510)])), (List.toArray [])⟩
noncomputable def ko_246 (P : Params) : Obj := ⟨.type "function", none, .func (fnOf "fault" "Reader.fault" F_R_fault.1.1 F_R_fault.1.2.1 F_R_fault.1.2.2 .none .none .none (.str "ledgerspeak.reader" 455) none (.ref 245) .none), #[]⟩
noncomputable def ko_247 (P : Params) : Obj := ⟨(.type "tuple"), none, (.seq (List.toArray []) 0), (List.toArray [])⟩
noncomputable def ko_248 (P : Params) : Obj := ⟨.none, none, (.fields (List.toArray [])), (List.toArray [])⟩
noncomputable def ko_249 (P : Params) : Obj := ⟨(.type "tuple"), none, (.seq (List.toArray [(.str ⟨⟨[115, 101, 108, 102]⟩⟩ 515), (.str ⟨⟨[116, 111, 107, 101, 110]⟩⟩ 516)]) 0), (List.toArray [])⟩
noncomputable def ko_250 (P : Params) : Obj := ⟨(.type "tuple"), none, (.seq (List.toArray []) 0), (List.toArray [])⟩
noncomputable def ko_252 (P : Params) : Obj := ⟨(.type "code"), none, (.fields (List.toArray [(.str ⟨⟨[116, 97, 107, 101]⟩⟩ 512), (.str ⟨⟨[82, 101, 97, 100, 101, 114, 46, 116, 97, 107, 101]⟩⟩ 513), (.str ⟨⟨[47, 99, 108, 97, 105, 109, 47, 99, 117, 116, 46, 112, 121]⟩⟩ 514), (.int 171 0), (.int 1 0), (.int 0 0), (.int 0 0), (.int 3 0), (.ref 247), (.bool true), (.int 181 0), (.ref 248), .none, (.ref 249), (.ref 250), (.ref 251), (.int 517 0), (.int 171 0), (.str ⟨⟨[47, 99, 108, 97, 105, 109, 47, 99, 117, 116, 46, 112, 121]⟩⟩ 518)])), (List.toArray [])⟩
noncomputable def ko_253 (P : Params) : Obj := ⟨.type "function", none, .func (fnOf "take" "Reader.take" F_R_take.1.1 F_R_take.1.2.1 F_R_take.1.2.2 .none .none .none (.str "ledgerspeak.reader" 455) none (.ref 252) .none), #[]⟩
noncomputable def ko_254 (P : Params) : Obj := ⟨(.type "tuple"), none, (.seq (List.toArray [(.int 0 520)]) 0), (List.toArray [])⟩
noncomputable def ko_255 (P : Params) : Obj := ⟨(.type "tuple"), none, (.seq (List.toArray []) 0), (List.toArray [])⟩
noncomputable def ko_256 (P : Params) : Obj := ⟨.none, none, (.fields (List.toArray [])), (List.toArray [])⟩
noncomputable def ko_257 (P : Params) : Obj := ⟨(.type "tuple"), none, (.seq (List.toArray [(.str ⟨⟨[115, 101, 108, 102]⟩⟩ 524), (.str ⟨⟨[107, 105, 110, 100]⟩⟩ 525), (.str ⟨⟨[97, 104, 101, 97, 100]⟩⟩ 526), (.str ⟨⟨[116, 111, 107, 101, 110]⟩⟩ 527)]) 0), (List.toArray [])⟩
noncomputable def ko_258 (P : Params) : Obj := ⟨(.type "tuple"), none, (.seq (List.toArray []) 0), (List.toArray [])⟩
noncomputable def ko_260 (P : Params) : Obj := ⟨(.type "code"), none, (.fields (List.toArray [(.str ⟨⟨[105, 115, 95, 107, 105, 110, 100]⟩⟩ 521), (.str ⟨⟨[82, 101, 97, 100, 101, 114, 46, 105, 115, 95, 107, 105, 110, 100]⟩⟩ 522), (.str ⟨⟨[47, 99, 108, 97, 105, 109, 47, 99, 117, 116, 46, 112, 121]⟩⟩ 523), (.int 178 0), (.int 3 0), (.int 0 0), (.int 0 0), (.int 3 0), (.ref 255), (.bool true), (.int 181 0), (.ref 256), .none, (.ref 257), (.ref 258), (.ref 259), (.int 528 0), (.int 178 0), (.str ⟨⟨[47, 99, 108, 97, 105, 109, 47, 99, 117, 116, 46, 112, 121]⟩⟩ 529)])), (List.toArray [])⟩
noncomputable def ko_261 (P : Params) : Obj := ⟨.type "function", none, .func (fnOf "is_kind" "Reader.is_kind" F_R_is_kind.1.1 F_R_is_kind.1.2.1 F_R_is_kind.1.2.2 (.ref 254) .none .none (.str "ledgerspeak.reader" 455) none (.ref 260) .none), #[]⟩
noncomputable def ko_262 (P : Params) : Obj := ⟨(.type "tuple"), none, (.seq (List.toArray []) 0), (List.toArray [])⟩
noncomputable def ko_263 (P : Params) : Obj := ⟨.none, none, (.fields (List.toArray [])), (List.toArray [])⟩
noncomputable def ko_264 (P : Params) : Obj := ⟨(.type "tuple"), none, (.seq (List.toArray [(.str ⟨⟨[115, 101, 108, 102]⟩⟩ 534), (.str ⟨⟨[119, 111, 114, 100, 115]⟩⟩ 535), (.str ⟨⟨[97, 104, 101, 97, 100]⟩⟩ 536), (.str ⟨⟨[119, 111, 114, 100]⟩⟩ 537)]) 0), (List.toArray [])⟩
noncomputable def ko_265 (P : Params) : Obj := ⟨(.type "tuple"), none, (.seq (List.toArray []) 0), (List.toArray [])⟩
noncomputable def ko_267 (P : Params) : Obj := ⟨(.type "code"), none, (.fields (List.toArray [(.str ⟨⟨[105, 115, 95, 119, 111, 114, 100]⟩⟩ 531), (.str ⟨⟨[82, 101, 97, 100, 101, 114, 46, 105, 115, 95, 119, 111, 114, 100]⟩⟩ 532), (.str ⟨⟨[47, 99, 108, 97, 105, 109, 47, 99, 117, 116, 46, 112, 121]⟩⟩ 533), (.int 182 0), (.int 2 0), (.int 0 0), (.int 0 0), (.int 3 0), (.ref 262), (.bool true), (.int 181 0), (.ref 263), .none, (.ref 264), (.ref 265), (.ref 266), (.int 538 0), (.int 182 0), (.str ⟨⟨[47, 99, 108, 97, 105, 109, 47, 99, 117, 116, 46, 112, 121]⟩⟩ 539)])), (List.toArray [])⟩
noncomputable def ko_268 (P : Params) : Obj := ⟨.type "function", none, .func (fnOf "is_word" "Reader.is_word" F_R_is_word.1.1 F_R_is_word.1.2.1 F_R_is_word.1.2.2 .none .none .none (.str "ledgerspeak.reader" 455) none (.ref 267) .none), #[]⟩
noncomputable def ko_269 (P : Params) : Obj := ⟨(.type "tuple"), none, (.seq (List.toArray []) 0), (List.toArray [])⟩
noncomputable def ko_270 (P : Params) : Obj := ⟨.none, none, (.fields (List.toArray [])), (List.toArray [])⟩
noncomputable def ko_271 (P : Params) : Obj := ⟨(.type "tuple"), none, (.seq (List.toArray [(.str ⟨⟨[115, 101, 108, 102]⟩⟩ 544), (.str ⟨⟨[119, 111, 114, 100, 115]⟩⟩ 545)]) 0), (List.toArray [])⟩
noncomputable def ko_272 (P : Params) : Obj := ⟨(.type "tuple"), none, (.seq (List.toArray []) 0), (List.toArray [])⟩
noncomputable def ko_274 (P : Params) : Obj := ⟨(.type "code"), none, (.fields (List.toArray [(.str ⟨⟨[115, 107, 105, 112]⟩⟩ 541), (.str ⟨⟨[82, 101, 97, 100, 101, 114, 46, 115, 107, 105, 112]⟩⟩ 542), (.str ⟨⟨[47, 99, 108, 97, 105, 109, 47, 99, 117, 116, 46, 112, 121]⟩⟩ 543), (.int 190 0), (.int 2 0), (.int 0 0), (.int 0 0), (.int 3 0), (.ref 269), (.bool true), (.int 181 0), (.ref 270), .none, (.ref 271), (.ref 272), (.ref 273), (.int 546 0), (.int 190 0), (.str ⟨⟨[47, 99, 108, 97, 105, 109, 47, 99, 117, 116, 46, 112, 121]⟩⟩ 547)])), (List.toArray [])⟩
noncomputable def ko_275 (P : Params) : Obj := ⟨.type "function", none, .func (fnOf "skip" "Reader.skip" F_R_skip.1.1 F_R_skip.1.2.1 F_R_skip.1.2.2 .none .none .none (.str "ledgerspeak.reader" 455) none (.ref 274) .none), #[]⟩
noncomputable def ko_276 (P : Params) : Obj := ⟨(.type "tuple"), none, (.seq (List.toArray []) 0), (List.toArray [])⟩
noncomputable def ko_277 (P : Params) : Obj := ⟨.none, none, (.fields (List.toArray [])), (List.toArray [])⟩
noncomputable def ko_278 (P : Params) : Obj := ⟨(.type "tuple"), none, (.seq (List.toArray [(.str ⟨⟨[115, 101, 108, 102]⟩⟩ 552), (.str ⟨⟨[119, 111, 114, 100, 115]⟩⟩ 553)]) 0), (List.toArray [])⟩
noncomputable def ko_279 (P : Params) : Obj := ⟨(.type "tuple"), none, (.seq (List.toArray []) 0), (List.toArray [])⟩
noncomputable def ko_281 (P : Params) : Obj := ⟨(.type "code"), none, (.fields (List.toArray [(.str ⟨⟨[110, 101, 101, 100]⟩⟩ 549), (.str ⟨⟨[82, 101, 97, 100, 101, 114, 46, 110, 101, 101, 100]⟩⟩ 550), (.str ⟨⟨[47, 99, 108, 97, 105, 109, 47, 99, 117, 116, 46, 112, 121]⟩⟩ 551), (.int 196 0), (.int 2 0), (.int 0 0), (.int 0 0), (.int 3 0), (.ref 276), (.bool true), (.int 181 0), (.ref 277), .none, (.ref 278), (.ref 279), (.ref 280), (.int 554 0), (.int 196 0), (.str ⟨⟨[47, 99, 108, 97, 105, 109, 47, 99, 117, 116, 46, 112, 121]⟩⟩ 555)])), (List.toArray [])⟩
noncomputable def ko_282 (P : Params) : Obj := ⟨.type "function", none, .func (fnOf "need" "Reader.need" F_R_need.1.1 F_R_need.1.2.1 F_R_need.1.2.2 .none .none .none (.str "ledgerspeak.reader" 455) none (.ref 281) .none), #[]⟩
noncomputable def ko_283 (P : Params) : Obj := ⟨(.type "tuple"), none, (.seq (List.toArray []) 0), (List.toArray [])⟩
noncomputable def ko_284 (P : Params) : Obj := ⟨.none, none, (.fields (List.toArray [])), (List.toArray [])⟩
noncomputable def ko_285 (P : Params) : Obj := ⟨(.type "tuple"), none, (.seq (List.toArray [(.str ⟨⟨[115, 101, 108, 102]⟩⟩ 560), (.str ⟨⟨[119, 111, 114, 100, 115]⟩⟩ 561)]) 0), (List.toArray [])⟩
noncomputable def ko_286 (P : Params) : Obj := ⟨(.type "tuple"), none, (.seq (List.toArray []) 0), (List.toArray [])⟩
noncomputable def ko_288 (P : Params) : Obj := ⟨(.type "code"), none, (.fields (List.toArray [(.str ⟨⟨[111, 110, 101, 95, 111, 102]⟩⟩ 557), (.str ⟨⟨[82, 101, 97, 100, 101, 114, 46, 111, 110, 101, 95, 111, 102]⟩⟩ 558), (.str ⟨⟨[47, 99, 108, 97, 105, 109, 47, 99, 117, 116, 46, 112, 121]⟩⟩ 559), (.int 200 0), (.int 2 0), (.int 0 0), (.int 0 0), (.int 3 0), (.ref 283), (.bool true), (.int 181 0), (.ref 284), .none, (.ref 285), (.ref 286), (.ref 287), (.int 562 0), (.int 200 0), (.str ⟨⟨[47, 99, 108, 97, 105, 109, 47, 99, 117, 116, 46, 112, 121]⟩⟩ 563)])), (List.toArray [])⟩
noncomputable def ko_290 (P : Params) : Obj := ⟨(.type "tuple"), none, (.seq (List.toArray []) 0), (List.toArray [])⟩
noncomputable def ko_291 (P : Params) : Obj := ⟨.none, none, (.fields (List.toArray [])), (List.toArray [])⟩
noncomputable def ko_292 (P : Params) : Obj := ⟨(.type "tuple"), none, (.seq (List.toArray [(.str ⟨⟨[115, 101, 108, 102]⟩⟩ 568)]) 0), (List.toArray [])⟩
noncomputable def ko_293 (P : Params) : Obj := ⟨(.type "tuple"), none, (.seq (List.toArray []) 0), (List.toArray [])⟩
noncomputable def ko_295 (P : Params) : Obj := ⟨(.type "code"), none, (.fields (List.toArray [(.str ⟨⟨[119, 111, 114, 100]⟩⟩ 565), (.str ⟨⟨[82, 101, 97, 100, 101, 114, 46, 119, 111, 114, 100]⟩⟩ 566), (.str ⟨⟨[47, 99, 108, 97, 105, 109, 47, 99, 117, 116, 46, 112, 121]⟩⟩ 567), (.int 203 0), (.int 1 0), (.int 0 0), (.int 0 0), (.int 3 0), (.ref 290), (.bool true), (.int 181 0), (.ref 291), .none, (.ref 292), (.ref 293), (.ref 294), (.int 569 0), (.int 203 0), (.str ⟨⟨[47, 99, 108, 97, 105, 109, 47, 99, 117, 116, 46, 112, 121]⟩⟩ 570)])), (List.toArray [])⟩
noncomputable def ko_296 (P : Params) : Obj := ⟨.type "function", none, .func (fnOf "word" "Reader.word" F_R_word.1.1 F_R_word.1.2.1 F_R_word.1.2.2 .none .none .none (.str "ledgerspeak.reader" 455) none (.ref 295) .none), #[]⟩
noncomputable def ko_297 (P : Params) : Obj := ⟨(.type "tuple"), none, (.seq (List.toArray [(.int 0 572)]) 0), (List.toArray [])⟩
noncomputable def ko_298 (P : Params) : Obj := ⟨(.type "tuple"), none, (.seq (List.toArray []) 0), (List.toArray [])⟩
noncomputable def ko_299 (P : Params) : Obj := ⟨.none, none, (.fields (List.toArray [])), (List.toArray [])⟩
noncomputable def ko_300 (P : Params) : Obj := ⟨(.type "tuple"), none, (.seq (List.toArray [(.str ⟨⟨[115, 101, 108, 102]⟩⟩ 576), (.str ⟨⟨[97, 104, 101, 97, 100]⟩⟩ 577)]) 0), (List.toArray [])⟩
noncomputable def ko_301 (P : Params) : Obj := ⟨(.type "tuple"), none, (.seq (List.toArray []) 0), (List.toArray [])⟩
noncomputable def ko_303 (P : Params) : Obj := ⟨(.type "code"), none, (.fields (List.toArray [(.str ⟨⟨[105, 115, 95, 110, 97, 109, 101]⟩⟩ 573), (.str ⟨⟨[82, 101, 97, 100, 101, 114, 46, 105, 115, 95, 110, 97, 109, 101]⟩⟩ 574), (.str ⟨⟨[47, 99, 108, 97, 105, 109, 47, 99, 117, 116, 46, 112, 121]⟩⟩ 575), (.int 208 0), (.int 2 0), (.int 0 0), (.int 0 0), (.int 3 0), (.ref 298), (.bool true), (.int 181 0), (.ref 299), .none, (.ref 300), (.ref 301), (.ref 302), (.int 578 0), (.int 208 0), (.str ⟨⟨[47, 99, 108, 97, 105, 109, 47, 99, 117, 116, 46, 112, 121]⟩⟩ 579)])), (List.toArray [])⟩
noncomputable def ko_304 (P : Params) : Obj := ⟨.type "function", none, .func (fnOf "is_name" "Reader.is_name" F_R_is_name.1.1 F_R_is_name.1.2.1 F_R_is_name.1.2.2 (.ref 297) .none .none (.str "ledgerspeak.reader" 455) none (.ref 303) .none), #[]⟩
noncomputable def ko_305 (P : Params) : Obj := ⟨(.type "tuple"), none, (.seq (List.toArray []) 0), (List.toArray [])⟩
noncomputable def ko_306 (P : Params) : Obj := ⟨.none, none, (.fields (List.toArray [])), (List.toArray [])⟩
noncomputable def ko_307 (P : Params) : Obj := ⟨(.type "tuple"), none, (.seq (List.toArray [(.str ⟨⟨[115, 101, 108, 102]⟩⟩ 584)]) 0), (List.toArray [])⟩
noncomputable def ko_308 (P : Params) : Obj := ⟨(.type "tuple"), none, (.seq (List.toArray []) 0), (List.toArray [])⟩
noncomputable def ko_310 (P : Params) : Obj := ⟨(.type "code"), none, (.fields (List.toArray [(.str ⟨⟨[110, 97, 109, 101]⟩⟩ 581), (.str ⟨⟨[82, 101, 97, 100, 101, 114, 46, 110, 97, 109, 101]⟩⟩ 582), (.str ⟨⟨[47, 99, 108, 97, 105, 109, 47, 99, 117, 116, 46, 112, 121]⟩⟩ 583), (.int 211 0), (.int 1 0), (.int 0 0), (.int 0 0), (.int 3 0), (.ref 305), (.bool true), (.int 181 0), (.ref 306), .none, (.ref 307), (.ref 308), (.ref 309), (.int 585 0), (.int 211 0), (.str ⟨⟨[47, 99, 108, 97, 105, 109, 47, 99, 117, 116, 46, 112, 121]⟩⟩ 586)])), (List.toArray [])⟩
noncomputable def ko_311 (P : Params) : Obj := ⟨.type "function", none, .func (fnOf "name" "Reader.name" F_R_name.1.1 F_R_name.1.2.1 F_R_name.1.2.2 .none .none .none (.str "ledgerspeak.reader" 455) none (.ref 310) .none), #[]⟩
noncomputable def ko_312 (P : Params) : Obj := ⟨(.type "tuple"), none, (.seq (List.toArray []) 0), (List.toArray [])⟩
noncomputable def ko_313 (P : Params) : Obj := ⟨.none, none, (.fields (List.toArray [])), (List.toArray [])⟩
noncomputable def ko_314 (P : Params) : Obj := ⟨(.type "tuple"), none, (.seq (List.toArray [(.str ⟨⟨[115, 101, 108, 102]⟩⟩ 591), (.str ⟨⟨[102, 111, 117, 110, 100]⟩⟩ 592)]) 0), (List.toArray [])⟩
noncomputable def ko_315 (P : Params) : Obj := ⟨(.type "tuple"), none, (.seq (List.toArray []) 0), (List.toArray [])⟩
noncomputable def ko_317 (P : Params) : Obj := ⟨(.type "code"), none, (.fields (List.toArray [(.str ⟨⟨[110, 97, 109, 101, 115]⟩⟩ 588), (.str ⟨⟨[82, 101, 97, 100, 101, 114, 46, 110, 97, 109, 101, 115]⟩⟩ 589), (.str ⟨⟨[47, 99, 108, 97, 105, 109, 47, 99, 117, 116, 46, 112, 121]⟩⟩ 590), (.int 216 0), (.int 1 0), (.int 0 0), (.int 0 0), (.int 3 0), (.ref 312), (.bool true), (.int 181 0), (.ref 313), .none, (.ref 314), (.ref 315), (.ref 316), (.int 593 0), (.int 216 0), (.str ⟨⟨[47, 99, 108, 97, 105, 109, 47, 99, 117, 116, 46, 112, 121]⟩⟩ 594)])), (List.toArray [])⟩
noncomputable def ko_319 (P : Params) : Obj := ⟨(.type "tuple"), none, (.seq (List.toArray [(.int 0 596)]) 0), (List.toArray [])⟩
noncomputable def ko_320 (P : Params) : Obj := ⟨(.type "tuple"), none, (.seq (List.toArray []) 0), (List.toArray [])⟩
noncomputable def ko_321 (P : Params) : Obj := ⟨.none, none, (.fields (List.toArray [])), (List.toArray [])⟩
noncomputable def ko_322 (P : Params) : Obj := ⟨(.type "tuple"), none, (.seq (List.toArray [(.str ⟨⟨[115, 101, 108, 102]⟩⟩ 600), (.str ⟨⟨[115, 105, 103, 110]⟩⟩ 601), (.str ⟨⟨[97, 104, 101, 97, 100]⟩⟩ 602)]) 0), (List.toArray [])⟩
noncomputable def ko_323 (P : Params) : Obj := ⟨(.type "tuple"), none, (.seq (List.toArray []) 0), (List.toArray [])⟩
noncomputable def ko_325 (P : Params) : Obj := ⟨(.type "code"), none, (.fields (List.toArray [(.str ⟨⟨[105, 115, 95, 115, 105, 103, 110]⟩⟩ 597), (.str ⟨⟨[82, 101, 97, 100, 101, 114, 46, 105, 115, 95, 115, 105, 103, 110]⟩⟩ 598), (.str ⟨⟨[47, 99, 108, 97, 105, 109, 47, 99, 117, 116, 46, 112, 121]⟩⟩ 599), (.int 222 0), (.int 3 0), (.int 0 0), (.int 0 0), (.int 3 0), (.ref 320), (.bool true), (.int 181 0), (.ref 321), .none, (.ref 322), (.ref 323), (.ref 324), (.int 603 0), (.int 222 0), (.str ⟨⟨[47, 99, 108, 97, 105, 109, 47, 99, 117, 116, 46, 112, 121]⟩⟩ 604)])), (List.toArray [])⟩
noncomputable def ko_326 (P : Params) : Obj := ⟨.type "function", none, .func (fnOf "is_sign" "Reader.is_sign" F_R_is_sign.1.1 F_R_is_sign.1.2.1 F_R_is_sign.1.2.2 (.ref 319) .none .none (.str "ledgerspeak.reader" 455) none (.ref 325) .none), #[]⟩
noncomputable def ko_327 (P : Params) : Obj := ⟨(.type "tuple"), none, (.seq (List.toArray []) 0), (List.toArray [])⟩
noncomputable def ko_328 (P : Params) : Obj := ⟨.none, none, (.fields (List.toArray [])), (List.toArray [])⟩
noncomputable def ko_329 (P : Params) : Obj := ⟨(.type "tuple"), none, (.seq (List.toArray [(.str ⟨⟨[115, 101, 108, 102]⟩⟩ 609), (.str ⟨⟨[115, 105, 103, 110]⟩⟩ 610)]) 0), (List.toArray [])⟩
noncomputable def ko_330 (P : Params) : Obj := ⟨(.type "tuple"), none, (.seq (List.toArray []) 0), (List.toArray [])⟩
noncomputable def ko_332 (P : Params) : Obj := ⟨(.type "code"), none, (.fields (List.toArray [(.str ⟨⟨[115, 107, 105, 112, 95, 115, 105, 103, 110]⟩⟩ 606), (.str ⟨⟨[82, 101, 97, 100, 101, 114, 46, 115, 107, 105, 112, 95, 115, 105, 103, 110]⟩⟩ 607), (.str ⟨⟨[47, 99, 108, 97, 105, 109, 47, 99, 117, 116, 46, 112, 121]⟩⟩ 608), (.int 225 0), (.int 2 0), (.int 0 0), (.int 0 0), (.int 3 0), (.ref 327), (.bool true), (.int 181 0), (.ref 328), .none, (.ref 329), (.ref 330), (.ref 331), (.int 611 0), (.int 225 0), (.str ⟨⟨[47, 99, 108, 97, 105, 109, 47, 99, 117, 116, 46, 112, 121]⟩⟩ 612)])), (List.toArray [])⟩
noncomputable def ko_333 (P : Params) : Obj := ⟨.type "function", none, .func (fnOf "skip_sign" "Reader.skip_sign" F_R_skip_sign.1.1 F_R_skip_sign.1.2.1 F_R_skip_sign.1.2.2 .none .none .none (.str "ledgerspeak.reader" 455) none (.ref 332) .none), #[]⟩
noncomputable def ko_334 (P : Params) : Obj := ⟨(.type "tuple"), none, (.seq (List.toArray []) 0), (List.toArray [])⟩
noncomputable def ko_335 (P : Params) : Obj := ⟨.none, none, (.fields (List.toArray [])), (List.toArray [])⟩
noncomputable def ko_336 (P : Params) : Obj := ⟨(.type "tuple"), none, (.seq (List.toArray [(.str ⟨⟨[115, 101, 108, 102]⟩⟩ 617), (.str ⟨⟨[115, 105, 103, 110]⟩⟩ 618)]) 0), (List.toArray [])⟩
noncomputable def ko_337 (P : Params) : Obj := ⟨(.type "tuple"), none, (.seq (List.toArray []) 0), (List.toArray [])⟩
noncomputable def ko_339 (P : Params) : Obj := ⟨(.type "code"), none, (.fields (List.toArray [(.str ⟨⟨[110, 101, 101, 100, 95, 115, 105, 103, 110]⟩⟩ 614), (.str ⟨⟨[82, 101, 97, 100, 101, 114, 46, 110, 101, 101, 100, 95, 115, 105, 103, 110]⟩⟩ 615), (.str ⟨⟨[47, 99, 108, 97, 105, 109, 47, 99, 117, 116, 46, 112, 121]⟩⟩ 616), (.int 231 0), (.int 2 0), (.int 0 0), (.int 0 0), (.int 3 0), (.ref 334), (.bool true), (.int 181 0), (.ref 335), .none, (.ref 336), (.ref 337), (.ref 338), (.int 619 0), (.int 231 0), (.str ⟨⟨[47, 99, 108, 97, 105, 109, 47, 99, 117, 116, 46, 112, 121]⟩⟩ 620)])), (List.toArray [])⟩
noncomputable def ko_341 (P : Params) : Obj := ⟨(.type "tuple"), none, (.seq (List.toArray []) 0), (List.toArray [])⟩
noncomputable def ko_342 (P : Params) : Obj := ⟨.none, none, (.fields (List.toArray [])), (List.toArray [])⟩
noncomputable def ko_343 (P : Params) : Obj := ⟨(.type "tuple"), none, (.seq (List.toArray [(.str ⟨⟨[115, 101, 108, 102]⟩⟩ 625)]) 0), (List.toArray [])⟩
noncomputable def ko_344 (P : Params) : Obj := ⟨(.type "tuple"), none, (.seq (List.toArray []) 0), (List.toArray [])⟩
noncomputable def ko_346 (P : Params) : Obj := ⟨(.type "code"), none, (.fields (List.toArray [(.str ⟨⟨[105, 115, 95, 110, 117, 109, 98, 101, 114]⟩⟩ 622), (.str ⟨⟨[82, 101, 97, 100, 101, 114, 46, 105, 115, 95, 110, 117, 109, 98, 101, 114]⟩⟩ 623), (.str ⟨⟨[47, 99, 108, 97, 105, 109, 47, 99, 117, 116, 46, 112, 121]⟩⟩ 624), (.int 234 0), (.int 1 0), (.int 0 0), (.int 0 0), (.int 3 0), (.ref 341), (.bool true), (.int 181 0), (.ref 342), .none, (.ref 343), (.ref 344), (.ref 345), (.int 626 0), (.int 234 0), (.str ⟨⟨[47, 99, 108, 97, 105, 109, 47, 99, 117, 116, 46, 112, 121]⟩⟩ 627)])), (List.toArray [])⟩
noncomputable def ko_348 (P : Params) : Obj := ⟨(.type "tuple"), none, (.seq (List.toArray []) 0), (List.toArray [])⟩
noncomputable def ko_349 (P : Params) : Obj := ⟨.none, none, (.fields (List.toArray [])), (List.toArray [])⟩
noncomputable def ko_350 (P : Params) : Obj := ⟨(.type "tuple"), none, (.seq (List.toArray [(.str ⟨⟨[115, 101, 108, 102]⟩⟩ 632)]) 0), (List.toArray [])⟩
noncomputable def ko_351 (P : Params) : Obj := ⟨(.type "tuple"), none, (.seq (List.toArray []) 0), (List.toArray [])⟩
noncomputable def ko_353 (P : Params) : Obj := ⟨(.type "code"), none, (.fields (List.toArray [(.str ⟨⟨[115, 105, 103, 110, 101, 100]⟩⟩ 629), (.str ⟨⟨[82, 101, 97, 100, 101, 114, 46, 115, 105, 103, 110, 101, 100]⟩⟩ 630), (.str ⟨⟨[47, 99, 108, 97, 105, 109, 47, 99, 117, 116, 46, 112, 121]⟩⟩ 631), (.int 237 0), (.int 1 0), (.int 0 0), (.int 0 0), (.int 3 0), (.ref 348), (.bool true), (.int 181 0), (.ref 349), .none, (.ref 350), (.ref 351), (.ref 352), (.int 633 0), (.int 237 0), (.str ⟨⟨[47, 99, 108, 97, 105, 109, 47, 99, 117, 116, 46, 112, 121]⟩⟩ 634)])), (List.toArray [])⟩
noncomputable def ko_355 (P : Params) : Obj := ⟨(.type "tuple"), none, (.seq (List.toArray []) 0), (List.toArray [])⟩
noncomputable def ko_356 (P : Params) : Obj := ⟨.none, none, (.fields (List.toArray [])), (List.toArray [])⟩
noncomputable def ko_357 (P : Params) : Obj := ⟨(.type "tuple"), none, (.seq (List.toArray [(.str ⟨⟨[115, 101, 108, 102]⟩⟩ 639)]) 0), (List.toArray [])⟩
noncomputable def ko_358 (P : Params) : Obj := ⟨(.type "tuple"), none, (.seq (List.toArray []) 0), (List.toArray [])⟩
noncomputable def ko_360 (P : Params) : Obj := ⟨(.type "code"), none, (.fields (List.toArray [(.str ⟨⟨[119, 104, 111, 108, 101]⟩⟩ 636), (.str ⟨⟨[82, 101, 97, 100, 101, 114, 46, 119, 104, 111, 108, 101]⟩⟩ 637), (.str ⟨⟨[47, 99, 108, 97, 105, 109, 47, 99, 117, 116, 46, 112, 121]⟩⟩ 638), (.int 240 0), (.int 1 0), (.int 0 0), (.int 0 0), (.int 3 0), (.ref 355), (.bool true), (.int 181 0), (.ref 356), .none, (.ref 357), (.ref 358), (.ref 359), (.int 640 0), (.int 240 0), (.str ⟨⟨[47, 99, 108, 97, 105, 109, 47, 99, 117, 116, 46, 112, 121]⟩⟩ 641)])), (List.toArray [])⟩
noncomputable def ko_362 (P : Params) : Obj := ⟨(.type "tuple"), none, (.seq (List.toArray []) 0), (List.toArray [])⟩
noncomputable def ko_363 (P : Params) : Obj := ⟨.none, none, (.fields (List.toArray [])), (List.toArray [])⟩
noncomputable def ko_364 (P : Params) : Obj := ⟨(.type "tuple"), none, (.seq (List.toArray [(.str ⟨⟨[115, 101, 108, 102]⟩⟩ 646)]) 0), (List.toArray [])⟩
noncomputable def ko_365 (P : Params) : Obj := ⟨(.type "tuple"), none, (.seq (List.toArray []) 0), (List.toArray [])⟩
noncomputable def ko_367 (P : Params) : Obj := ⟨(.type "code"), none, (.fields (List.toArray [(.str ⟨⟨[108, 105, 116, 101, 114, 97, 108]⟩⟩ 643), (.str ⟨⟨[82, 101, 97, 100, 101, 114, 46, 108, 105, 116, 101, 114, 97, 108]⟩⟩ 644), (.str ⟨⟨[47, 99, 108, 97, 105, 109, 47, 99, 117, 116, 46, 112, 121]⟩⟩ 645), (.int 243 0), (.int 1 0), (.int 0 0), (.int 0 0), (.int 3 0), (.ref 362), (.bool true), (.int 181 0), (.ref 363), .none, (.ref 364), (.ref 365), (.ref 366), (.int 647 0), (.int 243 0), (.str ⟨⟨[47, 99, 108, 97, 105, 109, 47, 99, 117, 116, 46, 112, 121]⟩⟩ 648)])), (List.toArray [])⟩
noncomputable def ko_368 (P : Params) : Obj := ⟨.type "function", none, .func (fnOf "literal" "Reader.literal" F_R_literal.1.1 F_R_literal.1.2.1 F_R_literal.1.2.2 .none .none .none (.str "ledgerspeak.reader" 455) none (.ref 367) .none), #[]⟩
noncomputable def ko_369 (P : Params) : Obj := ⟨(.type "tuple"), none, (.seq (List.toArray []) 0), (List.toArray [])⟩
noncomputable def ko_370 (P : Params) : Obj := ⟨.none, none, (.fields (List.toArray [])), (List.toArray [])⟩
noncomputable def ko_371 (P : Params) : Obj := ⟨(.type "tuple"), none, (.seq (List.toArray [(.str ⟨⟨[115, 101, 108, 102]⟩⟩ 653)]) 0), (List.toArray [])⟩
noncomputable def ko_372 (P : Params) : Obj := ⟨(.type "tuple"), none, (.seq (List.toArray []) 0), (List.toArray [])⟩
noncomputable def ko_374 (P : Params) : Obj := ⟨(.type "code"), none, (.fields (List.toArray [(.str ⟨⟨[111, 99, 116, 101, 116, 115]⟩⟩ 650), (.str ⟨⟨[82, 101, 97, 100, 101, 114, 46, 111, 99, 116, 101, 116, 115]⟩⟩ 651), (.str ⟨⟨[47, 99, 108, 97, 105, 109, 47, 99, 117, 116, 46, 112, 121]⟩⟩ 652), (.int 248 0), (.int 1 0), (.int 0 0), (.int 0 0), (.int 3 0), (.ref 369), (.bool true), (.int 181 0), (.ref 370), .none, (.ref 371), (.ref 372), (.ref 373), (.int 654 0), (.int 248 0), (.str ⟨⟨[47, 99, 108, 97, 105, 109, 47, 99, 117, 116, 46, 112, 121]⟩⟩ 655)])), (List.toArray [])⟩
noncomputable def ko_376 (P : Params) : Obj := ⟨(.type "tuple"), none, (.seq (List.toArray [(.str ⟨⟨[97, 116]⟩⟩ 657), (.str ⟨⟨[110, 97, 109, 101, 100]⟩⟩ 658), (.str ⟨⟨[115, 104, 97, 114, 101, 100]⟩⟩ 659), (.str ⟨⟨[116, 111, 107, 101, 110, 115]⟩⟩ 660)]) 0), (List.toArray [])⟩
noncomputable def ko_377 (P : Params) : Obj := ⟨(.type "dict"), none, (.dict (List.toArray [⟨(PyData.keyHash P ⟨⟨[95, 95, 109, 111, 100, 117, 108, 101, 95, 95]⟩⟩), (.str ⟨⟨[95, 95, 109, 111, 100, 117, 108, 101, 95, 95]⟩⟩ 473), (.str ⟨⟨[108, 101, 100, 103, 101, 114, 115, 112, 101, 97, 107, 46, 114, 101, 97, 100, 101, 114]⟩⟩ 455)⟩, ⟨(PyData.keyHash P ⟨⟨[95, 95, 102, 105, 114, 115, 116, 108, 105, 110, 101, 110, 111, 95, 95]⟩⟩), (.str ⟨⟨[95, 95, 102, 105, 114, 115, 116, 108, 105, 110, 101, 110, 111, 95, 95]⟩⟩ 477), (.int 150 476)⟩, ⟨(PyData.keyHash P ⟨⟨[95, 95, 105, 110, 105, 116, 95, 95]⟩⟩), (.str ⟨⟨[95, 95, 105, 110, 105, 116, 95, 95]⟩⟩ 487), (.ref 224)⟩, ⟨(PyData.keyHash P ⟨⟨[112, 101, 101, 107]⟩⟩), (.str ⟨⟨[112, 101, 101, 107]⟩⟩ 496), (.ref 232)⟩, ⟨(PyData.keyHash P ⟨⟨[105, 115, 95, 100, 111, 110, 101]⟩⟩), (.str ⟨⟨[105, 115, 95, 100, 111, 110, 101]⟩⟩ 503), (.ref 239)⟩, ⟨(PyData.keyHash P ⟨⟨[102, 97, 117, 108, 116]⟩⟩), (.str ⟨⟨[102, 97, 117, 108, 116]⟩⟩ 511), (.ref 246)⟩, ⟨(PyData.keyHash P ⟨⟨[116, 97, 107, 101]⟩⟩), (.str ⟨⟨[116, 97, 107, 101]⟩⟩ 519), (.ref 253)⟩, ⟨(PyData.keyHash P ⟨⟨[105, 115, 95, 107, 105, 110, 100]⟩⟩), (.str ⟨⟨[105, 115, 95, 107, 105, 110, 100]⟩⟩ 530), (.ref 261)⟩, ⟨(PyData.keyHash P ⟨⟨[105, 115, 95, 119, 111, 114, 100]⟩⟩), (.str ⟨⟨[105, 115, 95, 119, 111, 114, 100]⟩⟩ 540), (.ref 268)⟩, ⟨(PyData.keyHash P ⟨⟨[115, 107, 105, 112]⟩⟩), (.str ⟨⟨[115, 107, 105, 112]⟩⟩ 548), (.ref 275)⟩, ⟨(PyData.keyHash P ⟨⟨[110, 101, 101, 100]⟩⟩), (.str ⟨⟨[110, 101, 101, 100]⟩⟩ 556), (.ref 282)⟩, ⟨(PyData.keyHash P ⟨⟨[111, 110, 101, 95, 111, 102]⟩⟩), (.str ⟨⟨[111, 110, 101, 95, 111, 102]⟩⟩ 564), (.ref 289)⟩, ⟨(PyData.keyHash P ⟨⟨[119, 111, 114, 100]⟩⟩), (.str ⟨⟨[119, 111, 114, 100]⟩⟩ 571), (.ref 296)⟩, ⟨(PyData.keyHash P ⟨⟨[105, 115, 95, 110, 97, 109, 101]⟩⟩), (.str ⟨⟨[105, 115, 95, 110, 97, 109, 101]⟩⟩ 580), (.ref 304)⟩, ⟨(PyData.keyHash P ⟨⟨[110, 97, 109, 101]⟩⟩), (.str ⟨⟨[110, 97, 109, 101]⟩⟩ 587), (.ref 311)⟩, ⟨(PyData.keyHash P ⟨⟨[110, 97, 109, 101, 115]⟩⟩), (.str ⟨⟨[110, 97, 109, 101, 115]⟩⟩ 595), (.ref 318)⟩, ⟨(PyData.keyHash P ⟨⟨[105, 115, 95, 115, 105, 103, 110]⟩⟩), (.str ⟨⟨[105, 115, 95, 115, 105, 103, 110]⟩⟩ 605), (.ref 326)⟩, ⟨(PyData.keyHash P ⟨⟨[115, 107, 105, 112, 95, 115, 105, 103, 110]⟩⟩), (.str ⟨⟨[115, 107, 105, 112, 95, 115, 105, 103, 110]⟩⟩ 613), (.ref 333)⟩, ⟨(PyData.keyHash P ⟨⟨[110, 101, 101, 100, 95, 115, 105, 103, 110]⟩⟩), (.str ⟨⟨[110, 101, 101, 100, 95, 115, 105, 103, 110]⟩⟩ 621), (.ref 340)⟩, ⟨(PyData.keyHash P ⟨⟨[105, 115, 95, 110, 117, 109, 98, 101, 114]⟩⟩), (.str ⟨⟨[105, 115, 95, 110, 117, 109, 98, 101, 114]⟩⟩ 628), (.ref 347)⟩, ⟨(PyData.keyHash P ⟨⟨[115, 105, 103, 110, 101, 100]⟩⟩), (.str ⟨⟨[115, 105, 103, 110, 101, 100]⟩⟩ 635), (.ref 354)⟩, ⟨(PyData.keyHash P ⟨⟨[119, 104, 111, 108, 101]⟩⟩), (.str ⟨⟨[119, 104, 111, 108, 101]⟩⟩ 642), (.ref 361)⟩, ⟨(PyData.keyHash P ⟨⟨[108, 105, 116, 101, 114, 97, 108]⟩⟩), (.str ⟨⟨[108, 105, 116, 101, 114, 97, 108]⟩⟩ 649), (.ref 368)⟩, ⟨(PyData.keyHash P ⟨⟨[111, 99, 116, 101, 116, 115]⟩⟩), (.str ⟨⟨[111, 99, 116, 101, 116, 115]⟩⟩ 656), (.ref 375)⟩, ⟨(PyData.keyHash P ⟨⟨[95, 95, 115, 116, 97, 116, 105, 99, 95, 97, 116, 116, 114, 105, 98, 117, 116, 101, 115, 95, 95]⟩⟩), (.str ⟨⟨[95, 95, 115, 116, 97, 116, 105, 99, 95, 97, 116, 116, 114, 105, 98, 117, 116, 101, 115, 95, 95]⟩⟩ 661), (.ref 376)⟩, ⟨(PyData.keyHash P ⟨⟨[95, 95, 100, 105, 99, 116, 95, 95]⟩⟩), (.str ⟨⟨[95, 95, 100, 105, 99, 116, 95, 95]⟩⟩ 663), (.ref 379)⟩, ⟨(PyData.keyHash P ⟨⟨[95, 95, 119, 101, 97, 107, 114, 101, 102, 95, 95]⟩⟩), (.str ⟨⟨[95, 95, 119, 101, 97, 107, 114, 101, 102, 95, 95]⟩⟩ 665), (.ref 380)⟩, ⟨(PyData.keyHash P ⟨⟨[95, 95, 100, 111, 99, 95, 95]⟩⟩), (.str ⟨⟨[95, 95, 100, 111, 99, 95, 95]⟩⟩ 666), .none⟩]) 4), (List.toArray [])⟩
noncomputable def ko_378 (P : Params) : Obj := ⟨(.type "type"), none, (.cls ⟨⟨⟨[82, 101, 97, 100, 101, 114]⟩⟩, [(.type "object")], [(.ref 378), (.type "object")], 377, ⟨⟨[82, 101, 97, 100, 101, 114]⟩⟩, true, [], [], false, none, false⟩), (List.toArray [none, none, (some (.str ⟨⟨[82, 101, 97, 100, 101, 114]⟩⟩ 466)), (some (.str ⟨⟨[82, 101, 97, 100, 101, 114]⟩⟩ 474)), (some (.builtin "object.__new__")), (some (.bool true))])⟩
noncomputable def ko_379 (P : Params) : Obj := ⟨(.type "getset_descriptor"), none, (.fields (List.toArray [(.str ⟨⟨[95, 95, 100, 105, 99, 116, 95, 95]⟩⟩ 662), (.ref 378), (.builtin "function.__dict__"), (.builtin "function.__dict__#set")])), (List.toArray [])⟩
noncomputable def ko_380 (P : Params) : Obj := ⟨(.type "getset_descriptor"), none, (.fields (List.toArray [(.str ⟨⟨[95, 95, 119, 101, 97, 107, 114, 101, 102, 95, 95]⟩⟩ 664), (.ref 378), (.builtin "ExceptionGroup.__weakref__"), .none])), (List.toArray [])⟩
noncomputable def ko_383 (P : Params) : Obj := ⟨(.type "tuple"), none, (.seq (List.toArray []) 0), (List.toArray [])⟩
noncomputable def ko_384 (P : Params) : Obj := ⟨.none, none, (.fields (List.toArray [])), (List.toArray [])⟩
noncomputable def ko_386 (P : Params) : Obj := ⟨(.type "code"), none, (.fields (List.toArray [(.str ⟨⟨[95, 108, 97, 119, 95, 98, 111, 120]⟩⟩ 671), (.str ⟨⟨[95, 108, 97, 119, 95, 98, 111, 120]⟩⟩ 672), (.str ⟨⟨[47, 99, 108, 97, 105, 109, 47, 99, 117, 116, 46, 112, 121]⟩⟩ 673), (.int 251 0), (.int 1 0), (.int 0 0), (.int 0 0), (.int 3 0), (.ref 383), (.bool true), (.int 181 0), (.ref 384), .none, .none, .none, (.ref 385), (.int 674 0), (.int 251 0), (.str ⟨⟨[47, 99, 108, 97, 105, 109, 47, 99, 117, 116, 46, 112, 121]⟩⟩ 675)])), (List.toArray [])⟩
noncomputable def ko_387 (P : Params) : Obj := ⟨.type "function", none, .func (fnOf "_law_box" "_law_box" F_law_box.1.1 F_law_box.1.2.1 F_law_box.1.2.2 .none .none .none (.str "law_qd0102_01" 669) none (.ref 386) .none), #[]⟩
noncomputable def ko_388 (P : Params) : Obj := ⟨(.type "tuple"), none, (.seq (List.toArray []) 0), (List.toArray [])⟩
noncomputable def ko_389 (P : Params) : Obj := ⟨.none, none, (.fields (List.toArray [])), (List.toArray [])⟩
noncomputable def ko_390 (P : Params) : Obj := ⟨(.type "tuple"), none, (.seq (List.toArray [(.str ⟨⟨[98, 111, 120]⟩⟩ 680), (.str ⟨⟨[108, 105, 109, 105, 116]⟩⟩ 681), (.str ⟨⟨[112, 108, 97, 99, 101]⟩⟩ 682), (.str ⟨⟨[100, 105, 103, 105, 116]⟩⟩ 683)]) 0), (List.toArray [])⟩
noncomputable def ko_391 (P : Params) : Obj := ⟨(.type "tuple"), none, (.seq (List.toArray []) 0), (List.toArray [])⟩
noncomputable def ko_393 (P : Params) : Obj := ⟨(.type "code"), none, (.fields (List.toArray [(.str ⟨⟨[95, 108, 97, 119, 95, 100, 114, 97, 119]⟩⟩ 677), (.str ⟨⟨[95, 108, 97, 119, 95, 100, 114, 97, 119]⟩⟩ 678), (.str ⟨⟨[47, 99, 108, 97, 105, 109, 47, 99, 117, 116, 46, 112, 121]⟩⟩ 679), (.int 260 0), (.int 2 0), (.int 0 0), (.int 0 0), (.int 3 0), (.ref 388), (.bool true), (.int 181 0), (.ref 389), .none, (.ref 390), (.ref 391), (.ref 392), (.int 684 0), (.int 260 0), (.str ⟨⟨[47, 99, 108, 97, 105, 109, 47, 99, 117, 116, 46, 112, 121]⟩⟩ 685)])), (List.toArray [])⟩
noncomputable def ko_394 (P : Params) : Obj := ⟨.type "function", none, .func (fnOf "_law_draw" "_law_draw" F_law_draw.1.1 F_law_draw.1.2.1 F_law_draw.1.2.2 .none .none .none (.str "law_qd0102_01" 669) none (.ref 393) .none), #[]⟩
noncomputable def ko_395 (P : Params) : Obj := ⟨(.type "tuple"), none, (.seq (List.toArray []) 0), (List.toArray [])⟩
noncomputable def ko_396 (P : Params) : Obj := ⟨.none, none, (.fields (List.toArray [])), (List.toArray [])⟩
noncomputable def ko_397 (P : Params) : Obj := ⟨(.type "tuple"), none, (.seq (List.toArray [(.str ⟨⟨[110, 97, 109, 101]⟩⟩ 690), (.str ⟨⟨[112, 97, 116, 104]⟩⟩ 691), (.str ⟨⟨[111, 114, 103, 97, 110, 105, 122, 97, 116, 105, 111, 110]⟩⟩ 692), (.str ⟨⟨[97, 99, 99, 101, 115, 115]⟩⟩ 693), (.str ⟨⟨[107, 101, 121]⟩⟩ 694), (.str ⟨⟨[97, 108, 116, 101, 114, 110, 97, 116, 101, 115]⟩⟩ 695), (.str ⟨⟨[114, 101, 108, 97, 116, 105, 118, 101, 95, 107, 101, 121]⟩⟩ 696), (.str ⟨⟨[115, 116, 97, 116, 117, 115]⟩⟩ 697), (.str ⟨⟨[115, 112, 101, 99]⟩⟩ 698)]) 0), (List.toArray [])⟩
noncomputable def ko_398 (P : Params) : Obj := ⟨(.type "tuple"), none, (.seq (List.toArray []) 0), (List.toArray [])⟩
noncomputable def ko_400 (P : Params) : Obj := ⟨(.type "code"), none, (.fields (List.toArray [(.str ⟨⟨[95, 108, 97, 119, 95, 115, 112, 101, 99]⟩⟩ 687), (.str ⟨⟨[95, 108, 97, 119, 95, 115, 112, 101, 99]⟩⟩ 688), (.str ⟨⟨[47, 99, 108, 97, 105, 109, 47, 99, 117, 116, 46, 112, 121]⟩⟩ 689), (.int 271 0), (.int 8 0), (.int 0 0), (.int 0 0), (.int 3 0), (.ref 395), (.bool true), (.int 181 0), (.ref 396), .none, (.ref 397), (.ref 398), (.ref 399), (.int 699 0), (.int 271 0), (.str ⟨⟨[47, 99, 108, 97, 105, 109, 47, 99, 117, 116, 46, 112, 121]⟩⟩ 700)])), (List.toArray [])⟩
noncomputable def ko_401 (P : Params) : Obj := ⟨.type "function", none, .func (fnOf "_law_spec" "_law_spec" F_law_spec.1.1 F_law_spec.1.2.1 F_law_spec.1.2.2 .none .none .none (.str "law_qd0102_01" 669) none (.ref 400) .none), #[]⟩
noncomputable def ko_402 (P : Params) : Obj := ⟨(.type "tuple"), none, (.seq (List.toArray []) 0), (List.toArray [])⟩
noncomputable def ko_403 (P : Params) : Obj := ⟨.none, none, (.fields (List.toArray [])), (List.toArray [])⟩
noncomputable def ko_404 (P : Params) : Obj := ⟨(.type "tuple"), none, (.seq (List.toArray [(.str ⟨⟨[116, 101, 120, 116]⟩⟩ 705), (.str ⟨⟨[102, 111, 117, 110, 100]⟩⟩ 706), (.str ⟨⟨[97, 116]⟩⟩ 707), (.str ⟨⟨[119, 111, 114, 100]⟩⟩ 708)]) 0), (List.toArray [])⟩
noncomputable def ko_405 (P : Params) : Obj := ⟨(.type "tuple"), none, (.seq (List.toArray []) 0), (List.toArray [])⟩
noncomputable def ko_407 (P : Params) : Obj := ⟨(.type "code"), none, (.fields (List.toArray [(.str ⟨⟨[95, 108, 97, 119, 95, 114, 111, 119]⟩⟩ 702), (.str ⟨⟨[95, 108, 97, 119, 95, 114, 111, 119]⟩⟩ 703), (.str ⟨⟨[47, 99, 108, 97, 105, 109, 47, 99, 117, 116, 46, 112, 121]⟩⟩ 704), (.int 276 0), (.int 1 0), (.int 0 0), (.int 0 0), (.int 3 0), (.ref 402), (.bool true), (.int 181 0), (.ref 403), .none, (.ref 404), (.ref 405), (.ref 406), (.int 709 0), (.int 276 0), (.str ⟨⟨[47, 99, 108, 97, 105, 109, 47, 99, 117, 116, 46, 112, 121]⟩⟩ 710)])), (List.toArray [])⟩
noncomputable def ko_408 (P : Params) : Obj := ⟨.type "function", none, .func (fnOf "_law_row" "_law_row" F_law_row.1.1 F_law_row.1.2.1 F_law_row.1.2.2 .none .none .none (.str "law_qd0102_01" 669) none (.ref 407) .none), #[]⟩
noncomputable def ko_409 (P : Params) : Obj := ⟨(.type "tuple"), none, (.seq (List.toArray []) 0), (List.toArray [])⟩
noncomputable def ko_410 (P : Params) : Obj := ⟨.none, none, (.fields (List.toArray [])), (List.toArray [])⟩
noncomputable def ko_411 (P : Params) : Obj := ⟨(.type "tuple"), none, (.seq (List.toArray [(.str ⟨⟨[116, 101, 120, 116]⟩⟩ 715), (.str ⟨⟨[114, 101, 97, 100, 101, 114]⟩⟩ 716), (.str ⟨⟨[115, 112, 101, 99]⟩⟩ 717), (.str ⟨⟨[101, 114, 114, 111, 114]⟩⟩ 718)]) 0), (List.toArray [])⟩
noncomputable def ko_412 (P : Params) : Obj := ⟨(.type "tuple"), none, (.seq (List.toArray []) 0), (List.toArray [])⟩
noncomputable def ko_414 (P : Params) : Obj := ⟨(.type "code"), none, (.fields (List.toArray [(.str ⟨⟨[95, 108, 97, 119, 95, 104, 101, 97, 114, 100]⟩⟩ 712), (.str ⟨⟨[95, 108, 97, 119, 95, 104, 101, 97, 114, 100]⟩⟩ 713), (.str ⟨⟨[47, 99, 108, 97, 105, 109, 47, 99, 117, 116, 46, 112, 121]⟩⟩ 714), (.int 284 0), (.int 1 0), (.int 0 0), (.int 0 0), (.int 3 0), (.ref 409), (.bool true), (.int 181 0), (.ref 410), .none, (.ref 411), (.ref 412), (.ref 413), (.int 719 0), (.int 284 0), (.str ⟨⟨[47, 99, 108, 97, 105, 109, 47, 99, 117, 116, 46, 112, 121]⟩⟩ 720)])), (List.toArray [])⟩
noncomputable def ko_415 (P : Params) : Obj := ⟨.type "function", none, .func (fnOf "_law_heard" "_law_heard" F_law_heard.1.1 F_law_heard.1.2.1 F_law_heard.1.2.2 .none .none .none (.str "law_qd0102_01" 669) none (.ref 414) .none), #[]⟩
noncomputable def ko_416 (P : Params) : Obj := ⟨(.type "tuple"), none, (.seq (List.toArray []) 0), (List.toArray [])⟩
noncomputable def ko_417 (P : Params) : Obj := ⟨.none, none, (.fields (List.toArray [])), (List.toArray [])⟩
noncomputable def ko_418 (P : Params) : Obj := ⟨(.type "tuple"), none, (.seq (List.toArray [(.str ⟨⟨[111, 114, 103, 97, 110, 105, 122, 97, 116, 105, 111, 110]⟩⟩ 725), (.str ⟨⟨[97, 99, 99, 101, 115, 115]⟩⟩ 726), (.str ⟨⟨[107, 101, 121]⟩⟩ 727), (.str ⟨⟨[97, 108, 116, 101, 114, 110, 97, 116, 101, 115]⟩⟩ 728), (.str ⟨⟨[114, 101, 108, 97, 116, 105, 118, 101, 95, 107, 101, 121]⟩⟩ 729)]) 0), (List.toArray [])⟩
noncomputable def ko_419 (P : Params) : Obj := ⟨(.type "tuple"), none, (.seq (List.toArray []) 0), (List.toArray [])⟩
noncomputable def ko_421 (P : Params) : Obj := ⟨(.type "code"), none, (.fields (List.toArray [(.str ⟨⟨[95, 108, 97, 119, 95, 103, 111, 101, 115, 95, 116, 111, 103, 101, 116, 104, 101, 114]⟩⟩ 722), (.str ⟨⟨[95, 108, 97, 119, 95, 103, 111, 101, 115, 95, 116, 111, 103, 101, 116, 104, 101, 114]⟩⟩ 723), (.str ⟨⟨[47, 99, 108, 97, 105, 109, 47, 99, 117, 116, 46, 112, 121]⟩⟩ 724), (.int 292 0), (.int 5 0), (.int 0 0), (.int 0 0), (.int 3 0), (.ref 416), (.bool true), (.int 181 0), (.ref 417), .none, (.ref 418), (.ref 419), (.ref 420), (.int 730 0), (.int 292 0), (.str ⟨⟨[47, 99, 108, 97, 105, 109, 47, 99, 117, 116, 46, 112, 121]⟩⟩ 731)])), (List.toArray [])⟩
noncomputable def ko_422 (P : Params) : Obj := ⟨.type "function", none, .func (fnOf "_law_goes_together" "_law_goes_together" F_law_goes_together.1.1 F_law_goes_together.1.2.1 F_law_goes_together.1.2.2 .none .none .none (.str "law_qd0102_01" 669) none (.ref 421) .none), #[]⟩
noncomputable def ko_423 (P : Params) : Obj := ⟨(.type "tuple"), none, (.seq (List.toArray []) 0), (List.toArray [])⟩
noncomputable def ko_424 (P : Params) : Obj := ⟨.none, none, (.fields (List.toArray [])), (List.toArray [])⟩
noncomputable def ko_425 (P : Params) : Obj := ⟨(.type "tuple"), none, (.seq (List.toArray [(.str ⟨⟨[115, 112, 101, 99]⟩⟩ 736), (.str ⟨⟨[116, 101, 120, 116]⟩⟩ 737), (.str ⟨⟨[100, 117, 101]⟩⟩ 738), (.str ⟨⟨[119, 111, 114, 100, 115]⟩⟩ 739)]) 0), (List.toArray [])⟩
noncomputable def ko_426 (P : Params) : Obj := ⟨(.type "tuple"), none, (.seq (List.toArray []) 0), (List.toArray [])⟩
noncomputable def ko_428 (P : Params) : Obj := ⟨(.type "code"), none, (.fields (List.toArray [(.str ⟨⟨[95, 108, 97, 119, 95, 105, 115, 95, 114, 105, 103, 104, 116]⟩⟩ 733), (.str ⟨⟨[95, 108, 97, 119, 95, 105, 115, 95, 114, 105, 103, 104, 116]⟩⟩ 734), (.str ⟨⟨[47, 99, 108, 97, 105, 109, 47, 99, 117, 116, 46, 112, 121]⟩⟩ 735), (.int 300 0), (.int 1 0), (.int 0 0), (.int 0 0), (.int 3 0), (.ref 423), (.bool true), (.int 181 0), (.ref 424), .none, (.ref 425), (.ref 426), (.ref 427), (.int 740 0), (.int 300 0), (.str ⟨⟨[47, 99, 108, 97, 105, 109, 47, 99, 117, 116, 46, 112, 121]⟩⟩ 741)])), (List.toArray [])⟩
noncomputable def ko_429 (P : Params) : Obj := ⟨.type "function", none, .func (fnOf "_law_is_right" "_law_is_right" F_law_is_right.1.1 F_law_is_right.1.2.1 F_law_is_right.1.2.2 .none .none .none (.str "law_qd0102_01" 669) none (.ref 428) .none), #[]⟩
noncomputable def ko_430 (P : Params) : Obj := ⟨(.type "tuple"), none, (.seq (List.toArray []) 0), (List.toArray [])⟩
noncomputable def ko_431 (P : Params) : Obj := ⟨.none, none, (.fields (List.toArray [])), (List.toArray [])⟩
noncomputable def ko_433 (P : Params) : Obj := ⟨(.type "code"), none, (.fields (List.toArray [(.str ⟨⟨[108, 97, 119]⟩⟩ 743), (.str ⟨⟨[108, 97, 119]⟩⟩ 744), (.str ⟨⟨[47, 99, 108, 97, 105, 109, 47, 99, 117, 116, 46, 112, 121]⟩⟩ 745), (.int 313 0), (.int 1 0), (.int 0 0), (.int 0 0), (.int 3 0), (.ref 430), (.bool true), (.int 181 0), (.ref 431), .none, .none, .none, (.ref 432), (.int 746 0), (.int 313 0), (.str ⟨⟨[47, 99, 108, 97, 105, 109, 47, 99, 117, 116, 46, 112, 121]⟩⟩ 747)])), (List.toArray [])⟩
noncomputable def ko_434 (P : Params) : Obj := ⟨.type "function", none, .func (fnOf "law" "law" F_law.1.1 F_law.1.2.1 F_law.1.2.2 .none .none .none (.str "law_qd0102_01" 669) none (.ref 433) .none), #[]⟩
/-- what the lemmas need of the heap behind the top -/
noncomputable def KK : Params → Frag := fun P => (nat_lit 1, ko_1 P) :: (nat_lit 2, ko_2 P) :: (nat_lit 3, ko_3 P) :: (nat_lit 4, ko_4 P) :: (nat_lit 5, ko_5 P) :: (nat_lit 6, ko_6 P) :: (nat_lit 7, ko_7 P) :: (nat_lit 8, ko_8 P) :: (nat_lit 9, ko_9 P) :: (nat_lit 10, ko_10 P) :: (nat_lit 11, ko_11 P) :: (nat_lit 12, ko_12 P) :: (nat_lit 13, ko_13 P) :: (nat_lit 14, ko_14 P) :: (nat_lit 15, ko_15 P) :: (nat_lit 16, ko_16 P) :: (nat_lit 17, ko_17 P) :: (nat_lit 18, ko_18 P) :: (nat_lit 20, ko_20 P) :: (nat_lit 22, ko_22 P) :: (nat_lit 23, ko_23 P) :: (nat_lit 25, ko_25 P) :: (nat_lit 26, ko_26 P) :: (nat_lit 27, ko_27 P) :: (nat_lit 28, ko_28 P) :: (nat_lit 29, ko_29 P) :: (nat_lit 30, ko_30 P) :: (nat_lit 32, ko_32 P) :: (nat_lit 33, ko_33 P) :: (nat_lit 41, ko_41 P) :: (nat_lit 42, ko_42 P) :: (nat_lit 43, ko_43 P) :: (nat_lit 44, ko_44 P) :: (nat_lit 45, ko_45 P) :: (nat_lit 46, ko_46 P) :: (nat_lit 48, ko_48 P) :: (nat_lit 49, ko_49 P) :: (nat_lit 50, ko_50 P) :: (nat_lit 51, ko_51 P) :: (nat_lit 52, ko_52 P) :: (nat_lit 53, ko_53 P) :: (nat_lit 55, ko_55 P) :: (nat_lit 56, ko_56 P) :: (nat_lit 57, ko_57 P) :: (nat_lit 58, ko_58 P) :: (nat_lit 59, ko_59 P) :: (nat_lit 60, ko_60 P) :: (nat_lit 61, ko_61 P) :: (nat_lit 64, ko_64 P) :: (nat_lit 65, ko_65 P) :: (nat_lit 66, ko_66 P) :: (nat_lit 67, ko_67 P) :: (nat_lit 69, ko_69 P) :: (nat_lit 70, ko_70 P) :: (nat_lit 71, ko_71 P) :: (nat_lit 72, ko_72 P) :: (nat_lit 73, ko_73 P) :: (nat_lit 74, ko_74 P) :: (nat_lit 76, ko_76 P) :: (nat_lit 77, ko_77 P) :: (nat_lit 78, ko_78 P) :: (nat_lit 85, ko_85 P) :: (nat_lit 86, ko_86 P) :: (nat_lit 87, ko_87 P) :: (nat_lit 88, ko_88 P) :: (nat_lit 89, ko_89 P) :: (nat_lit 90, ko_90 P) :: (nat_lit 92, ko_92 P) :: (nat_lit 93, ko_93 P) :: (nat_lit 94, ko_94 P) :: (nat_lit 95, ko_95 P) :: (nat_lit 96, ko_96 P) :: (nat_lit 97, ko_97 P) :: (nat_lit 99, ko_99 P) :: (nat_lit 101, ko_101 P) :: (nat_lit 102, ko_102 P) :: (nat_lit 103, ko_103 P) :: (nat_lit 104, ko_104 P) :: (nat_lit 107, ko_107 P) :: (nat_lit 114, ko_114 P) :: (nat_lit 115, ko_115 P) :: (nat_lit 116, ko_116 P) :: (nat_lit 119, ko_119 P) :: (nat_lit 120, ko_120 P) :: (nat_lit 128, ko_128 P) :: (nat_lit 129, ko_129 P) :: (nat_lit 130, ko_130 P) :: (nat_lit 131, ko_131 P) :: (nat_lit 133, ko_133 P) :: (nat_lit 134, ko_134 P) :: (nat_lit 135, ko_135 P) :: (nat_lit 136, ko_136 P) :: (nat_lit 137, ko_137 P) :: (nat_lit 138, ko_138 P) :: (nat_lit 140, ko_140 P) :: (nat_lit 141, ko_141 P) :: (nat_lit 142, ko_142 P) :: (nat_lit 143, ko_143 P) :: (nat_lit 144, ko_144 P) :: (nat_lit 145, ko_145 P) :: (nat_lit 146, ko_146 P) :: (nat_lit 149, ko_149 P) :: (nat_lit 150, ko_150 P) :: (nat_lit 151, ko_151 P) :: (nat_lit 152, ko_152 P) :: (nat_lit 154, ko_154 P) :: (nat_lit 155, ko_155 P) :: (nat_lit 156, ko_156 P) :: (nat_lit 157, ko_157 P) :: (nat_lit 158, ko_158 P) :: (nat_lit 159, ko_159 P) :: (nat_lit 161, ko_161 P) :: (nat_lit 162, ko_162 P) :: (nat_lit 163, ko_163 P) :: (nat_lit 164, ko_164 P) :: (nat_lit 165, ko_165 P) :: (nat_lit 166, ko_166 P) :: (nat_lit 168, ko_168 P) :: (nat_lit 169, ko_169 P) :: (nat_lit 170, ko_170 P) :: (nat_lit 171, ko_171 P) :: (nat_lit 173, ko_173 P) :: (nat_lit 174, ko_174 P) :: (nat_lit 175, ko_175 P) :: (nat_lit 176, ko_176 P) :: (nat_lit 177, ko_177 P) :: (nat_lit 178, ko_178 P) :: (nat_lit 180, ko_180 P) :: (nat_lit 181, ko_181 P) :: (nat_lit 182, ko_182 P) :: (nat_lit 183, ko_183 P) :: (nat_lit 184, ko_184 P) :: (nat_lit 185, ko_185 P) :: (nat_lit 187, ko_187 P) :: (nat_lit 188, ko_188 P) :: (nat_lit 189, ko_189 P) :: (nat_lit 190, ko_190 P) :: (nat_lit 191, ko_191 P) :: (nat_lit 192, ko_192 P) :: (nat_lit 194, ko_194 P) :: (nat_lit 195, ko_195 P) :: (nat_lit 196, ko_196 P) :: (nat_lit 197, ko_197 P) :: (nat_lit 198, ko_198 P) :: (nat_lit 199, ko_199 P) :: (nat_lit 201, ko_201 P) :: (nat_lit 202, ko_202 P) :: (nat_lit 203, ko_203 P) :: (nat_lit 204, ko_204 P) :: (nat_lit 205, ko_205 P) :: (nat_lit 206, ko_206 P) :: (nat_lit 208, ko_208 P) :: (nat_lit 209, ko_209 P) :: (nat_lit 217, ko_217 P) :: (nat_lit 218, ko_218 P) :: (nat_lit 219, ko_219 P) :: (nat_lit 220, ko_220 P) :: (nat_lit 221, ko_221 P) :: (nat_lit 223, ko_223 P) :: (nat_lit 224, ko_224 P) :: (nat_lit 225, ko_225 P) :: (nat_lit 226, ko_226 P) :: (nat_lit 227, ko_227 P) :: (nat_lit 228, ko_228 P) :: (nat_lit 229, ko_229 P) :: (nat_lit 231, ko_231 P) :: (nat_lit 232, ko_232 P) :: (nat_lit 233, ko_233 P) :: (nat_lit 234, ko_234 P) :: (nat_lit 235, ko_235 P) :: (nat_lit 236, ko_236 P) :: (nat_lit 238, ko_238 P) :: (nat_lit 239, ko_239 P) :: (nat_lit 240, ko_240 P) :: (nat_lit 241, ko_241 P) :: (nat_lit 242, ko_242 P) :: (nat_lit 243, ko_243 P) :: (nat_lit 245, ko_245 P) :: (nat_lit 246, ko_246 P) :: (nat_lit 247, ko_247 P) :: (nat_lit 248, ko_248 P) :: (nat_lit 249, ko_249 P) :: (nat_lit 250, ko_250 P) :: (nat_lit 252, ko_252 P) :: (nat_lit 253, ko_253 P) :: (nat_lit 254, ko_254 P) :: (nat_lit 255, ko_255 P) :: (nat_lit 256, ko_256 P) :: (nat_lit 257, ko_257 P) :: (nat_lit 258, ko_258 P) :: (nat_lit 260, ko_260 P) :: (nat_lit 261, ko_261 P) :: (nat_lit 262, ko_262 P) :: (nat_lit 263, ko_263 P) :: (nat_lit 264, ko_264 P) :: (nat_lit 265, ko_265 P) :: (nat_lit 267, ko_267 P) :: (nat_lit 268, ko_268 P) :: (nat_lit 269, ko_269 P) :: (nat_lit 270, ko_270 P) :: (nat_lit 271, ko_271 P) :: (nat_lit 272, ko_272 P) :: (nat_lit 274, ko_274 P) :: (nat_lit 275, ko_275 P) :: (nat_lit 276, ko_276 P) :: (nat_lit 277, ko_277 P) :: (nat_lit 278, ko_278 P) :: (nat_lit 279, ko_279 P) :: (nat_lit 281, ko_281 P) :: (nat_lit 282, ko_282 P) :: (nat_lit 283, ko_283 P) :: (nat_lit 284, ko_284 P) :: (nat_lit 285, ko_285 P) :: (nat_lit 286, ko_286 P) :: (nat_lit 288, ko_288 P) :: (nat_lit 290, ko_290 P) :: (nat_lit 291, ko_291 P) :: (nat_lit 292, ko_292 P) :: (nat_lit 293, ko_293 P) :: (nat_lit 295, ko_295 P) :: (nat_lit 296, ko_296 P) :: (nat_lit 297, ko_297 P) :: (nat_lit 298, ko_298 P) :: (nat_lit 299, ko_299 P) :: (nat_lit 300, ko_300 P) :: (nat_lit 301, ko_301 P) :: (nat_lit 303, ko_303 P) :: (nat_lit 304, ko_304 P) :: (nat_lit 305, ko_305 P) :: (nat_lit 306, ko_306 P) :: (nat_lit 307, ko_307 P) :: (nat_lit 308, ko_308 P) :: (nat_lit 310, ko_310 P) :: (nat_lit 311, ko_311 P) :: (nat_lit 312, ko_312 P) :: (nat_lit 313, ko_313 P) :: (nat_lit 314, ko_314 P) :: (nat_lit 315, ko_315 P) :: (nat_lit 317, ko_317 P) :: (nat_lit 319, ko_319 P) :: (nat_lit 320, ko_320 P) :: (nat_lit 321, ko_321 P) :: (nat_lit 322, ko_322 P) :: (nat_lit 323, ko_323 P) :: (nat_lit 325, ko_325 P) :: (nat_lit 326, ko_326 P) :: (nat_lit 327, ko_327 P) :: (nat_lit 328, ko_328 P) :: (nat_lit 329, ko_329 P) :: (nat_lit 330, ko_330 P) :: (nat_lit 332, ko_332 P) :: (nat_lit 333, ko_333 P) :: (nat_lit 334, ko_334 P) :: (nat_lit 335, ko_335 P) :: (nat_lit 336, ko_336 P) :: (nat_lit 337, ko_337 P) :: (nat_lit 339, ko_339 P) :: (nat_lit 341, ko_341 P) :: (nat_lit 342, ko_342 P) :: (nat_lit 343, ko_343 P) :: (nat_lit 344, ko_344 P) :: (nat_lit 346, ko_346 P) :: (nat_lit 348, ko_348 P) :: (nat_lit 349, ko_349 P) :: (nat_lit 350, ko_350 P) :: (nat_lit 351, ko_351 P) :: (nat_lit 353, ko_353 P) :: (nat_lit 355, ko_355 P) :: (nat_lit 356, ko_356 P) :: (nat_lit 357, ko_357 P) :: (nat_lit 358, ko_358 P) :: (nat_lit 360, ko_360 P) :: (nat_lit 362, ko_362 P) :: (nat_lit 363, ko_363 P) :: (nat_lit 364, ko_364 P) :: (nat_lit 365, ko_365 P) :: (nat_lit 367, ko_367 P) :: (nat_lit 368, ko_368 P) :: (nat_lit 369, ko_369 P) :: (nat_lit 370, ko_370 P) :: (nat_lit 371, ko_371 P) :: (nat_lit 372, ko_372 P) :: (nat_lit 374, ko_374 P) :: (nat_lit 376, ko_376 P) :: (nat_lit 377, ko_377 P) :: (nat_lit 378, ko_378 P) :: (nat_lit 379, ko_379 P) :: (nat_lit 380, ko_380 P) :: (nat_lit 383, ko_383 P) :: (nat_lit 384, ko_384 P) :: (nat_lit 386, ko_386 P) :: (nat_lit 387, ko_387 P) :: (nat_lit 388, ko_388 P) :: (nat_lit 389, ko_389 P) :: (nat_lit 390, ko_390 P) :: (nat_lit 391, ko_391 P) :: (nat_lit 393, ko_393 P) :: (nat_lit 394, ko_394 P) :: (nat_lit 395, ko_395 P) :: (nat_lit 396, ko_396 P) :: (nat_lit 397, ko_397 P) :: (nat_lit 398, ko_398 P) :: (nat_lit 400, ko_400 P) :: (nat_lit 401, ko_401 P) :: (nat_lit 402, ko_402 P) :: (nat_lit 403, ko_403 P) :: (nat_lit 404, ko_404 P) :: (nat_lit 405, ko_405 P) :: (nat_lit 407, ko_407 P) :: (nat_lit 408, ko_408 P) :: (nat_lit 409, ko_409 P) :: (nat_lit 410, ko_410 P) :: (nat_lit 411, ko_411 P) :: (nat_lit 412, ko_412 P) :: (nat_lit 414, ko_414 P) :: (nat_lit 415, ko_415 P) :: (nat_lit 416, ko_416 P) :: (nat_lit 417, ko_417 P) :: (nat_lit 418, ko_418 P) :: (nat_lit 419, ko_419 P) :: (nat_lit 421, ko_421 P) :: (nat_lit 422, ko_422 P) :: (nat_lit 423, ko_423 P) :: (nat_lit 424, ko_424 P) :: (nat_lit 425, ko_425 P) :: (nat_lit 426, ko_426 P) :: (nat_lit 428, ko_428 P) :: (nat_lit 429, ko_429 P) :: (nat_lit 430, ko_430 P) :: (nat_lit 431, ko_431 P) :: (nat_lit 433, ko_433 P) :: (nat_lit 434, ko_434 P) :: []
theorem k_joined (P : Params) : (Mine.KK P).lookup 26 = some ⟨.type "function", none, .func (fnOf "joined" "joined" F_joined.1.1 F_joined.1.2.1 F_joined.1.2.2 .none .none .none (.str "ledgerspeak.showing" 194) none (.ref 25) .none), #[]⟩ := by kernel_rfl
theorem k_worded (P : Params) : (Mine.KK P).lookup 33 = some ⟨.type "function", none, .func (fnOf "worded" "worded" F_worded.1.1 F_worded.1.2.1 F_worded.1.2.2 .none .none .none (.str "ledgerspeak.showing" 194) none (.ref 32) .none), #[]⟩ := by kernel_rfl
theorem k_Token_init (P : Params) : (Mine.KK P).lookup 49 = some ⟨.type "function", none, .func (fnOf "__init__" "Token.__init__" F_Token_init.1.1 F_Token_init.1.2.1 F_Token_init.1.2.2 (.ref 42) .none .none (.str "ledgerspeak.tokens" 210) none (.ref 48) .none), #[]⟩ := by kernel_rfl
theorem k_Token_told (P : Params) : (Mine.KK P).lookup 56 = some ⟨.type "function", none, .func (fnOf "told" "Token.told" F_Token_told.1.1 F_Token_told.1.2.1 F_Token_told.1.2.2 .none .none .none (.str "ledgerspeak.tokens" 210) none (.ref 55) .none), #[]⟩ := by kernel_rfl
theorem k_quoted (P : Params) : (Mine.KK P).lookup 70 = some ⟨.type "function", none, .func (fnOf "quoted" "quoted" F_quoted.1.1 F_quoted.1.2.1 F_quoted.1.2.2 .none .none .none (.str "ledgerspeak.tokens" 210) none (.ref 69) .none), #[]⟩ := by kernel_rfl
theorem k_show_select (P : Params) : (Mine.KK P).lookup 77 = some ⟨.type "function", none, .func (fnOf "show_select" "show_select" F_show_select.1.1 F_show_select.1.2.1 F_show_select.1.2.2 .none .none .none (.str "ledgerspeak.showprog" 263) none (.ref 76) .none), #[]⟩ := by kernel_rfl
theorem k_LedgerError_init (P : Params) : (Mine.KK P).lookup 93 = some ⟨.type "function", none, .func (fnOf "__init__" "LedgerError.__init__" F_LedgerError_init.1.1 F_LedgerError_init.1.2.1 F_LedgerError_init.1.2.2 (.ref 86) .none .none (.str "ledgerspeak.errors" 275) none (.ref 92) .none), #[]⟩ := by kernel_rfl
theorem k_FileSpec_init (P : Params) : (Mine.KK P).lookup 134 = some ⟨.type "function", none, .func (fnOf "__init__" "FileSpec.__init__" F_FileSpec_init.1.1 F_FileSpec_init.1.2.1 F_FileSpec_init.1.2.2 .none .none .none (.str "ledgerspeak.envread" 333) none (.ref 133) .none), #[]⟩ := by kernel_rfl
theorem k_FileSpec_told (P : Params) : (Mine.KK P).lookup 141 = some ⟨.type "function", none, .func (fnOf "told" "FileSpec.told" F_FileSpec_told.1.1 F_FileSpec_told.1.2.1 F_FileSpec_told.1.2.2 .none .none .none (.str "ledgerspeak.envread" 333) none (.ref 140) .none), #[]⟩ := by kernel_rfl
theorem k_one_word (P : Params) : (Mine.KK P).lookup 155 = some ⟨.type "function", none, .func (fnOf "one_word" "one_word" F_one_word.1.1 F_one_word.1.2.1 F_one_word.1.2.2 .none .none .none (.str "ledgerspeak.envread" 333) none (.ref 154) .none), #[]⟩ := by kernel_rfl
theorem k_read_assign (P : Params) : (Mine.KK P).lookup 162 = some ⟨.type "function", none, .func (fnOf "read_assign" "read_assign" F_read_assign.1.1 F_read_assign.1.2.1 F_read_assign.1.2.2 .none .none .none (.str "ledgerspeak.envread" 333) none (.ref 161) .none), #[]⟩ := by kernel_rfl
theorem k_read_record_key (P : Params) : (Mine.KK P).lookup 169 = some ⟨.type "function", none, .func (fnOf "read_record_key" "read_record_key" F_read_record_key.1.1 F_read_record_key.1.2.1 F_read_record_key.1.2.2 .none .none .none (.str "ledgerspeak.envread" 333) none (.ref 168) .none), #[]⟩ := by kernel_rfl
theorem k_read_alternate (P : Params) : (Mine.KK P).lookup 174 = some ⟨.type "function", none, .func (fnOf "read_alternate" "read_alternate" F_read_alternate.1.1 F_read_alternate.1.2.1 F_read_alternate.1.2.2 .none .none .none (.str "ledgerspeak.envread" 333) none (.ref 173) .none), #[]⟩ := by kernel_rfl
theorem k_read_relative (P : Params) : (Mine.KK P).lookup 181 = some ⟨.type "function", none, .func (fnOf "read_relative" "read_relative" F_read_relative.1.1 F_read_relative.1.2.1 F_read_relative.1.2.2 .none .none .none (.str "ledgerspeak.envread" 333) none (.ref 180) .none), #[]⟩ := by kernel_rfl
theorem k_read_clause (P : Params) : (Mine.KK P).lookup 188 = some ⟨.type "function", none, .func (fnOf "read_clause" "read_clause" F_read_clause.1.1 F_read_clause.1.2.1 F_read_clause.1.2.2 .none .none .none (.str "ledgerspeak.envread" 333) none (.ref 187) .none), #[]⟩ := by kernel_rfl
theorem k_is_whole_spec (P : Params) : (Mine.KK P).lookup 195 = some ⟨.type "function", none, .func (fnOf "is_whole_spec" "is_whole_spec" F_is_whole_spec.1.1 F_is_whole_spec.1.2.1 F_is_whole_spec.1.2.2 .none .none .none (.str "ledgerspeak.envread" 333) none (.ref 194) .none), #[]⟩ := by kernel_rfl
theorem k_read_select (P : Params) : (Mine.KK P).lookup 202 = some ⟨.type "function", none, .func (fnOf "read_select" "read_select" F_read_select.1.1 F_read_select.1.2.1 F_read_select.1.2.2 .none .none .none (.str "ledgerspeak.envread" 333) none (.ref 201) .none), #[]⟩ := by kernel_rfl
theorem k_is_reserved (P : Params) : (Mine.KK P).lookup 209 = some ⟨.type "function", none, .func (fnOf "is_reserved" "is_reserved" F_is_reserved.1.1 F_is_reserved.1.2.1 F_is_reserved.1.2.2 .none .none .none (.str "ledgerspeak.reader" 455) none (.ref 208) .none), #[]⟩ := by kernel_rfl
theorem k_R_init (P : Params) : (Mine.KK P).lookup 224 = some ⟨.type "function", none, .func (fnOf "__init__" "Reader.__init__" F_R_init.1.1 F_R_init.1.2.1 F_R_init.1.2.2 (.ref 217) .none .none (.str "ledgerspeak.reader" 455) none (.ref 223) .none), #[]⟩ := by kernel_rfl
theorem k_R_peek (P : Params) : (Mine.KK P).lookup 232 = some ⟨.type "function", none, .func (fnOf "peek" "Reader.peek" F_R_peek.1.1 F_R_peek.1.2.1 F_R_peek.1.2.2 (.ref 225) .none .none (.str "ledgerspeak.reader" 455) none (.ref 231) .none), #[]⟩ := by kernel_rfl
theorem k_R_is_done (P : Params) : (Mine.KK P).lookup 239 = some ⟨.type "function", none, .func (fnOf "is_done" "Reader.is_done" F_R_is_done.1.1 F_R_is_done.1.2.1 F_R_is_done.1.2.2 .none .none .none (.str "ledgerspeak.reader" 455) none (.ref 238) .none), #[]⟩ := by kernel_rfl
theorem k_R_fault (P : Params) : (Mine.KK P).lookup 246 = some ⟨.type "function", none, .func (fnOf "fault" "Reader.fault" F_R_fault.1.1 F_R_fault.1.2.1 F_R_fault.1.2.2 .none .none .none (.str "ledgerspeak.reader" 455) none (.ref 245) .none), #[]⟩ := by kernel_rfl
theorem k_R_take (P : Params) : (Mine.KK P).lookup 253 = some ⟨.type "function", none, .func (fnOf "take" "Reader.take" F_R_take.1.1 F_R_take.1.2.1 F_R_take.1.2.2 .none .none .none (.str "ledgerspeak.reader" 455) none (.ref 252) .none), #[]⟩ := by kernel_rfl
theorem k_R_is_kind (P : Params) : (Mine.KK P).lookup 261 = some ⟨.type "function", none, .func (fnOf "is_kind" "Reader.is_kind" F_R_is_kind.1.1 F_R_is_kind.1.2.1 F_R_is_kind.1.2.2 (.ref 254) .none .none (.str "ledgerspeak.reader" 455) none (.ref 260) .none), #[]⟩ := by kernel_rfl
theorem k_R_is_word (P : Params) : (Mine.KK P).lookup 268 = some ⟨.type "function", none, .func (fnOf "is_word" "Reader.is_word" F_R_is_word.1.1 F_R_is_word.1.2.1 F_R_is_word.1.2.2 .none .none .none (.str "ledgerspeak.reader" 455) none (.ref 267) .none), #[]⟩ := by kernel_rfl
theorem k_R_skip (P : Params) : (Mine.KK P).lookup 275 = some ⟨.type "function", none, .func (fnOf "skip" "Reader.skip" F_R_skip.1.1 F_R_skip.1.2.1 F_R_skip.1.2.2 .none .none .none (.str "ledgerspeak.reader" 455) none (.ref 274) .none), #[]⟩ := by kernel_rfl
theorem k_R_need (P : Params) : (Mine.KK P).lookup 282 = some ⟨.type "function", none, .func (fnOf "need" "Reader.need" F_R_need.1.1 F_R_need.1.2.1 F_R_need.1.2.2 .none .none .none (.str "ledgerspeak.reader" 455) none (.ref 281) .none), #[]⟩ := by kernel_rfl
theorem k_R_word (P : Params) : (Mine.KK P).lookup 296 = some ⟨.type "function", none, .func (fnOf "word" "Reader.word" F_R_word.1.1 F_R_word.1.2.1 F_R_word.1.2.2 .none .none .none (.str "ledgerspeak.reader" 455) none (.ref 295) .none), #[]⟩ := by kernel_rfl
theorem k_R_is_name (P : Params) : (Mine.KK P).lookup 304 = some ⟨.type "function", none, .func (fnOf "is_name" "Reader.is_name" F_R_is_name.1.1 F_R_is_name.1.2.1 F_R_is_name.1.2.2 (.ref 297) .none .none (.str "ledgerspeak.reader" 455) none (.ref 303) .none), #[]⟩ := by kernel_rfl
theorem k_R_name (P : Params) : (Mine.KK P).lookup 311 = some ⟨.type "function", none, .func (fnOf "name" "Reader.name" F_R_name.1.1 F_R_name.1.2.1 F_R_name.1.2.2 .none .none .none (.str "ledgerspeak.reader" 455) none (.ref 310) .none), #[]⟩ := by kernel_rfl
theorem k_R_is_sign (P : Params) : (Mine.KK P).lookup 326 = some ⟨.type "function", none, .func (fnOf "is_sign" "Reader.is_sign" F_R_is_sign.1.1 F_R_is_sign.1.2.1 F_R_is_sign.1.2.2 (.ref 319) .none .none (.str "ledgerspeak.reader" 455) none (.ref 325) .none), #[]⟩ := by kernel_rfl
theorem k_R_skip_sign (P : Params) : (Mine.KK P).lookup 333 = some ⟨.type "function", none, .func (fnOf "skip_sign" "Reader.skip_sign" F_R_skip_sign.1.1 F_R_skip_sign.1.2.1 F_R_skip_sign.1.2.2 .none .none .none (.str "ledgerspeak.reader" 455) none (.ref 332) .none), #[]⟩ := by kernel_rfl
theorem k_R_literal (P : Params) : (Mine.KK P).lookup 368 = some ⟨.type "function", none, .func (fnOf "literal" "Reader.literal" F_R_literal.1.1 F_R_literal.1.2.1 F_R_literal.1.2.2 .none .none .none (.str "ledgerspeak.reader" 455) none (.ref 367) .none), #[]⟩ := by kernel_rfl
theorem k_law_box (P : Params) : (Mine.KK P).lookup 387 = some ⟨.type "function", none, .func (fnOf "_law_box" "_law_box" F_law_box.1.1 F_law_box.1.2.1 F_law_box.1.2.2 .none .none .none (.str "law_qd0102_01" 669) none (.ref 386) .none), #[]⟩ := by kernel_rfl
theorem k_law_draw (P : Params) : (Mine.KK P).lookup 394 = some ⟨.type "function", none, .func (fnOf "_law_draw" "_law_draw" F_law_draw.1.1 F_law_draw.1.2.1 F_law_draw.1.2.2 .none .none .none (.str "law_qd0102_01" 669) none (.ref 393) .none), #[]⟩ := by kernel_rfl
theorem k_law_spec (P : Params) : (Mine.KK P).lookup 401 = some ⟨.type "function", none, .func (fnOf "_law_spec" "_law_spec" F_law_spec.1.1 F_law_spec.1.2.1 F_law_spec.1.2.2 .none .none .none (.str "law_qd0102_01" 669) none (.ref 400) .none), #[]⟩ := by kernel_rfl
theorem k_law_row (P : Params) : (Mine.KK P).lookup 408 = some ⟨.type "function", none, .func (fnOf "_law_row" "_law_row" F_law_row.1.1 F_law_row.1.2.1 F_law_row.1.2.2 .none .none .none (.str "law_qd0102_01" 669) none (.ref 407) .none), #[]⟩ := by kernel_rfl
theorem k_law_heard (P : Params) : (Mine.KK P).lookup 415 = some ⟨.type "function", none, .func (fnOf "_law_heard" "_law_heard" F_law_heard.1.1 F_law_heard.1.2.1 F_law_heard.1.2.2 .none .none .none (.str "law_qd0102_01" 669) none (.ref 414) .none), #[]⟩ := by kernel_rfl
theorem k_law_goes_together (P : Params) : (Mine.KK P).lookup 422 = some ⟨.type "function", none, .func (fnOf "_law_goes_together" "_law_goes_together" F_law_goes_together.1.1 F_law_goes_together.1.2.1 F_law_goes_together.1.2.2 .none .none .none (.str "law_qd0102_01" 669) none (.ref 421) .none), #[]⟩ := by kernel_rfl
theorem k_law_is_right (P : Params) : (Mine.KK P).lookup 429 = some ⟨.type "function", none, .func (fnOf "_law_is_right" "_law_is_right" F_law_is_right.1.1 F_law_is_right.1.2.1 F_law_is_right.1.2.2 .none .none .none (.str "law_qd0102_01" 669) none (.ref 428) .none), #[]⟩ := by kernel_rfl
theorem k_law (P : Params) : (Mine.KK P).lookup 434 = some ⟨.type "function", none, .func (fnOf "law" "law" F_law.1.1 F_law.1.2.1 F_law.1.2.2 .none .none .none (.str "law_qd0102_01" 669) none (.ref 433) .none), #[]⟩ := by kernel_rfl
end
section
set_option maxRecDepth 100000
set_option maxHeartbeats 8000000
/-! the head, at once: what the top leaves, component by component -/
noncomputable abbrev pw0 : Program := PySem.Challenge.pw_qd0102_01
noncomputable abbrev keep0 : List Nat := [0, 2, 3, 5, 6, 8, 10, 11, 13, 14, 15, 16, 17, 18, 19, 20, 21, 22, 23, 25, 26, 27, 29, 30, 31, 32, 33, 34, 35, 36]
noncomputable abbrev loose0 : List PySem.Str := [⟨⟨[84, 111, 107, 101, 110]⟩⟩, ⟨⟨[76, 101, 100, 103, 101, 114, 69, 114, 114, 111, 114]⟩⟩]
noncomputable def asK : List Nat := [1, 2, 3, 4, 5, 6, 7, 8, 9, 10, 11, 12, 13, 14, 15, 16, 17, 18, 20, 22, 23, 25, 26, 27, 28, 29, 30, 32, 33, 41, 42, 43, 44, 45, 46, 48, 49, 50, 51, 52, 53, 55, 56, 57, 58, 59, 60, 61, 64, 65, 66, 67, 69, 70, 71, 72, 73, 74, 76, 77, 78, 85, 86, 87, 88, 89, 90, 92, 93, 94, 95, 96, 97, 99, 101, 102, 103, 104, 107, 114, 115, 116, 119, 120, 128, 129, 130, 131, 133, 134, 135, 136, 137, 138, 140, 141, 142, 143, 144, 145, 146, 149, 150, 151, 152, 154, 155, 156, 157, 158, 159, 161, 162, 163, 164, 165, 166, 168, 169, 170, 171, 173, 174, 175, 176, 177, 178, 180, 181, 182, 183, 184, 185, 187, 188, 189, 190, 191, 192, 194, 195, 196, 197, 198, 199, 201, 202, 203, 204, 205, 206, 208, 209, 217, 218, 219, 220, 221, 223, 224, 225, 226, 227, 228, 229, 231, 232, 233, 234, 235, 236, 238, 239, 240, 241, 242, 243, 245, 246, 247, 248, 249, 250, 252, 253, 254, 255, 256, 257, 258, 260, 261, 262, 263, 264, 265, 267, 268, 269, 270, 271, 272, 274, 275, 276, 277, 278, 279, 281, 282, 283, 284, 285, 286, 288, 290, 291, 292, 293, 295, 296, 297, 298, 299, 300, 301, 303, 304, 305, 306, 307, 308, 310, 311, 312, 313, 314, 315, 317, 319, 320, 321, 322, 323, 325, 326, 327, 328, 329, 330, 332, 333, 334, 335, 336, 337, 339, 341, 342, 343, 344, 346, 348, 349, 350, 351, 353, 355, 356, 357, 358, 360, 362, 363, 364, 365, 367, 368, 369, 370, 371, 372, 374, 376, 377, 378, 379, 380, 383, 384, 386, 387, 388, 389, 390, 391, 393, 394, 395, 396, 397, 398, 400, 401, 402, 403, 404, 405, 407, 408, 409, 410, 411, 412, 414, 415, 416, 417, 418, 419, 421, 422, 423, 424, 425, 426, 428, 429, 430, 431, 433, 434]
theorem as_is (P : Params) : asK = (KK P).map (·.1) := by kernel_rfl
theorem e_tree : treeTable = PySem.W.Fast.tw14364793385576792824 := PySem.W.Fast.te14364793385576792824
theorem e_seen : @openSeen = @PySem.W.Fast.tw4187177175401517315 := PySem.W.Fast.te4187177175401517315
theorem e_imp : @importedModules = @PySem.W.Fast.tw5923862056798008813 := PySem.W.Fast.te5923862056798008813
noncomputable def topRunT (tb : String → Option Builtin) (p : Program) (w : World) (n₀ : Nat) (ann : Option Value) : Nat → SharedT → Thread → Option SharedT
  | 0, _, _ => none
  | n + 1, s, t => match through t with
    | true => some s
    | false => match stepOk n₀ ann t with
      | false => none
      | true => match stepT (denote tb) p w s t with
        | some (s', t') => topRunT tb p w n₀ ann n s' t'
        | none => none
theorem topRunT_of {tb : String → Option Builtin} {p : Program} {w : World} {n₀ : Nat} {ann : Option Value} : ∀ {n : Nat} {s r : SharedT} {t : Thread}, topRunT tb p w n₀ ann n s t = some r → topRun tb p w n₀ ann n s.abs t = some r.abs
  | 0, _, _, _, h => by cases h
  | n + 1, s, r, t, h => by
    unfold topRunT at h
    unfold topRun
    cases ht : through t with
    | true => rw [ht] at h; cases h; rfl
    | false =>
      rw [ht] at h
      cases hk : stepOk n₀ ann t with
      | false => rw [hk] at h; cases h
      | true =>
        rw [hk] at h
        cases hs : stepT (denote tb) p w s t with
        | none => rw [hs] at h; cases h
        | some q => obtain ⟨s₂, t₂⟩ := q; rw [hs] at h; rw [stepT_spec hs]; exact topRunT_of h
noncomputable def treeOf : List Obj → Nat → BT → BT
  | [], _, t => t
  | o :: l, i, t => treeOf l (i + 1) (t.ins i o)
noncomputable def startT (P : Params) (os : OsState) : SharedT := ⟨treeOf (boot_heap P).objs.toList 0 .nil, (boot_heap P).objs.size, (boot_heap P).life, #[], boot_drawn, boot_toks, os⟩
theorem start_abs (P : Params) (os : OsState) : (startT P os).abs = ⟨boot_heap P, #[], boot_drawn, boot_toks, os⟩ := by kernel_rfl
theorem is_plain : opening PySem.Challenge.pw_qd0102_01 = plainProg PySem.Challenge.pw_qd0102_01.main.scope.names := by kernel_rfl
theorem no_fence : ∀ s, fenceModules? PySem.Challenge.pw_qd0102_01 s = some s := by intro s; kernel_rfl
theorem opens : ∀ w : World, (fencedOpening treeTable PySem.Challenge.pw_qd0102_01 w 5474).map (fun s => (s.heap, s.gens, s.drawn, s.toks)) = some (boot_heap w.params, #[], boot_drawn, boot_toks) := boot_open is_plain (by rfl) no_fence
theorem size1 (P : Params) : (boot_heap P).isNs mainGlobals = true := by kernel_rfl
theorem hA : ∀ w os, (topRunT treeTable PySem.Challenge.pw_qd0102_01 w (boot_heap w.params).objs.size ((boot_heap w.params).nsMap mainGlobals "__annotations__") 5474 (startT w.params os) (topStub PySem.Challenge.pw_qd0102_01)).map (fun r => (staticsOk (importedModules PySem.Challenge.pw_qd0102_01.main.body) (boot_heap w.params) r.abs.heap && namesBound PySem.Challenge.pw_qd0102_01 r.abs.heap && gensDone r.abs && laidKept (boot_heap w.params) r.abs.heap, seen ((recsOf (PySem.W.view PySem.Challenge.pw_qd0102_01 keep0)).map (·.name)) (ownsOf (PySem.W.view PySem.Challenge.pw_qd0102_01 keep0)) [] { r.abs with gens := #[] }, r.abs.heap.bltView, pinSeenD (PySem.W.view PySem.Challenge.pw_qd0102_01 keep0) (drecsOf (PySem.W.view PySem.Challenge.pw_qd0102_01 keep0)) r.abs, plainSeenE (PySem.W.view PySem.Challenge.pw_qd0102_01 keep0) (looseW (PySem.W.view PySem.Challenge.pw_qd0102_01 keep0) loose0) r.abs, plainSeenD (PySem.W.view PySem.Challenge.pw_qd0102_01 keep0) loose0 r.abs, wideSeen (PySem.W.view PySem.Challenge.pw_qd0102_01 keep0) r.abs, clsSeenW (PySem.W.view PySem.Challenge.pw_qd0102_01 keep0) loose0 r.abs)) = some (true, expectedOf (PySem.W.view PySem.Challenge.pw_qd0102_01 keep0), bltViewBooted, pinGoodD (drecsOf (PySem.W.view PySem.Challenge.pw_qd0102_01 keep0)), plainGoodE (PySem.W.view PySem.Challenge.pw_qd0102_01 keep0) (looseW (PySem.W.view PySem.Challenge.pw_qd0102_01 keep0) loose0), plainGoodD (PySem.W.view PySem.Challenge.pw_qd0102_01 keep0) loose0, wideGood (PySem.W.view PySem.Challenge.pw_qd0102_01 keep0), clsGoodW (PySem.W.view PySem.Challenge.pw_qd0102_01 keep0) loose0) := by
  rw [e_imp, e_tree, e_pw3]
  intro w os
  kernel_rfl
theorem hB : ∀ w os, (topRunT treeTable PySem.Challenge.pw_qd0102_01 w (boot_heap w.params).objs.size ((boot_heap w.params).nsMap mainGlobals "__annotations__") 5474 (startT w.params os) (topStub PySem.Challenge.pw_qd0102_01)).map (fun r => ((openSeen (PySem.W.view PySem.Challenge.pw_qd0102_01 keep0) loose0 (importedModules PySem.Challenge.pw_qd0102_01.main.body) (fun s => xlAt (PySem.W.view PySem.Challenge.pw_qd0102_01 keep0) [] s && recOk [] s) true r.abs).2.2.1, (openSeen (PySem.W.view PySem.Challenge.pw_qd0102_01 keep0) loose0 (importedModules PySem.Challenge.pw_qd0102_01.main.body) (fun s => xlAt (PySem.W.view PySem.Challenge.pw_qd0102_01 keep0) [] s && recOk [] s) true r.abs).2.2.2.1, X.obsZ asK r.abs)) = some (true, true, X.valZ KK 435 749 w) := by
  rw [e_seen, e_imp, e_tree, e_pw3]
  intro w os
  kernel_rfl
theorem of_tree {p q : Program} {loose : List PySem.Str} {Xt : Shared → Bool} {α : Type} {Yf : Shared → α} {Ya : World → α} {N : Nat} {g0 : Bool}
    (open_ : ∀ w : World, (fencedOpening treeTable p w N).map (fun s => (s.heap, s.gens, s.drawn, s.toks)) = some (boot_heap w.params, #[], boot_drawn, boot_toks))
    (h : ∀ w os, ∃ r, topRunT treeTable p w (boot_heap w.params).objs.size ((boot_heap w.params).nsMap mainGlobals "__annotations__") N (startT w.params os) (topStub p) = some r ∧ (staticsOk (importedModules p.main.body) (boot_heap w.params) r.abs.heap && namesBound p r.abs.heap && gensDone r.abs && laidKept (boot_heap w.params) r.abs.heap) = true ∧ openSeen q loose (importedModules p.main.body) Xt g0 r.abs = openGood q loose ∧ Yf r.abs = Ya w) :
    LeftO p q loose Xt Yf Ya N g0 := fun w => by
  obtain ⟨⟨hp, gs, d, k, os⟩, e, e'⟩ := Option.map_eq_some_iff.mp (open_ w)
  obtain ⟨rfl, rfl, rfl, rfl⟩ : hp = boot_heap w.params ∧ gs = #[] ∧ d = boot_drawn ∧ k = boot_toks := by simpa using e'
  obtain ⟨r, hr, c, s1, y⟩ := h w os
  have R := topRunT_of hr
  rw [start_abs] at R
  have t : topFrom treeTable p w N ⟨boot_heap w.params, #[], boot_drawn, boot_toks, os⟩ = some r.abs := by
    unfold topFrom
    dsimp only
    rw [size1, R]
    show (match staticsOk (importedModules p.main.body) (boot_heap w.params) r.abs.heap && namesBound p r.abs.heap && gensDone r.abs && laidKept (boot_heap w.params) r.abs.heap with | true => some r.abs | false => none) = some r.abs
    rw [c]
  unfold openEnds
  rw [e]
  show (topFrom treeTable p w N _).map _ = _
  rw [t]
  exact congrArg some (Prod.ext s1 y)
theorem tup3 {α₁ α₂ α₃ : Type} {a a' : α₁} {b b' : α₂} {c c' : α₃} (h : (a, b, c) = (a', b', c')) : a = a' ∧ b = b' ∧ c = c' := by cases h; exact ⟨rfl, rfl, rfl⟩
theorem tup8 {α₁ α₂ α₃ α₄ : Type} {a a' : α₁} {b b' : α₂} {c c' : α₃} {d d' : α₄} (h : (a, b, c, d) = (a', b', c', d')) : a = a' ∧ b = b' ∧ c = c' ∧ d = d' := by cases h; exact ⟨rfl, rfl, rfl, rfl⟩
theorem five {α₁ α₂ α₃ α₄ α₅ : Type} {a a' : α₁} {b b' : α₂} {c c' : α₃} {d d' : α₄} {e e' : α₅} (h1 : a = a') (h2 : b = b') (h3 : c = c') (h4 : d = d') (h5 : e = e') : (a, b, c, d, e) = (a', b', c', d', e') := by cases h1; cases h2; cases h3; cases h4; cases h5; rfl
theorem left0 : LeftO PySem.Challenge.pw_qd0102_01 (PySem.W.view PySem.Challenge.pw_qd0102_01 keep0) loose0 (fun s => xlAt (PySem.W.view PySem.Challenge.pw_qd0102_01 keep0) [] s && recOk [] s) (X.obsZ asK) (X.valZ KK 435 749) 5474 := of_tree opens fun w os => by
  obtain ⟨r, hr, ha⟩ := Option.map_eq_some_iff.mp (hA w os)
  obtain ⟨r', hr', hb⟩ := Option.map_eq_some_iff.mp (hB w os)
  obtain rfl : r = r' := Option.some.inj (hr.symm.trans hr')
  obtain ⟨a1, a2, a3, a4⟩ := tup8 ha
  obtain ⟨b1, b2, b3⟩ := tup3 hb
  exact ⟨r, hr, a1, five a2 a3 b1 b2 a4, b3⟩
end
section
set_option maxRecDepth 100000
set_option maxHeartbeats 4000000
noncomputable def lk1 : Look := { strict := false, foot := none, bare := [] }
theorem nr1 : noRoadLSs lk1 (body0.take 25) = true := by kernel_rfl
theorem nr3 : noRoadLSs lk1 (body0.drop 26) = true := by kernel_rfl
theorem rs1 : RsN.any (fun c => c == 123 || c == 125) = false := by decide +kernel
theorem rs1' : RsN.any (fun c => c == 46) = false := by decide +kernel
theorem rs2 : RsN.take 1 = [32] := by decide +kernel
theorem rs4 : frameAttrs.all (fun y => y.cps.toList.take 1 != [32]) = true := by decide +kernel
theorem rs5 : frameAttrs.contains (PySem.Str.mk ⟨RsN⟩) = false := by
  rw [Bool.eq_false_iff]
  intro h
  have h1 := List.all_eq_true.mp rs4 _ (List.contains_iff_mem.mp h)
  have h2 : (PySem.Str.mk ⟨RsN⟩).cps.toList.take 1 = [32] := rs2
  rw [h2] at h1
  exact absurd h1 (by decide)
theorem rs6 : PySem.Str.opensWith (PySem.Str.mk ⟨RsN⟩) "__" = false := by decide +kernel
theorem rs7 : attrL (PySem.Str.mk ⟨RsN⟩) = true := by
  unfold attrL
  rw [rs5, rs6]; rfl
theorem rs8 : roadStr (PySem.Str.mk ⟨RsN⟩) = false := by
  unfold roadStr
  have e1 : (PySem.Str.mk ⟨RsN⟩).cps.any (fun c => c == 123 || c == 125) = false := by
    rw [← Array.any_toList]; exact rs1
  have e2 : (PySem.Str.mk ⟨RsN⟩).cps.any (fun c => c == 46) = false := by
    rw [← Array.any_toList]; exact rs1'
  rw [e1, e2]; rfl
theorem rs9 : lk1.str (PySem.Str.ofString RsX.1.1) = true := by
  rw [rs3]
  unfold Look.str Look.word
  rw [rs7, rs8]
  have hb : (lk1.but != some (PySem.Str.mk ⟨RsN⟩)) = true := rfl
  have hs : lk1.strict = false := rfl
  have hf : lk1.foot.isSome = false := rfl
  rw [hb, hs, hf, Bool.false_and, Bool.false_and, Bool.not_false, Bool.true_and, Bool.true_and, Bool.true_and, Bool.or_true, Bool.true_and, Bool.true_or]
theorem nr_str (x : PySem.Str) (p1 p2 p3 : Pos) (h : lk1.str x = true) : noRoadLSs lk1 [PySem.Stmt.Assign [PySem.Expr.Name "RESERVED" p1] (PySem.Expr.Constant (PySem.Const.str x) 0 p2) p3] = true := by
  have e : noRoadLSs lk1 [PySem.Stmt.Assign [PySem.Expr.Name "RESERVED" p1] (PySem.Expr.Constant (PySem.Const.str x) 0 p2) p3] = ((lk1.stores [PySem.Expr.Name "RESERVED" p1] && noRoadLs lk1 [PySem.Expr.Name "RESERVED" p1] && lk1.str x) && true) := rfl
  have e2 : (lk1.stores [PySem.Expr.Name "RESERVED" p1] && noRoadLs lk1 [PySem.Expr.Name "RESERVED" p1]) = true := by kernel_rfl
  rw [e, h, e2]
  rfl
theorem nr2 : noRoadLSs lk1 ((body0.drop 25).take 1) = true := by
  rw [RsX.2.1]
  exact nr_str _ _ _ _ rs9
theorem lk_is : ({ strict := !(importedModules body0).all cThrough.contains, foot := none, bare := (["vars", "dir", "locals"] : List PySem.Str).filter (readsOut PySem.Challenge.rw_qd0102_01.prog body0) } : Look) = lk1 := by
  rw [bare_is, strict_is]; rfl
theorem noRoad0 : noRoadLSs { strict := !(importedModules body0).all cThrough.contains, foot := none, bare := (["vars", "dir", "locals"] : List PySem.Str).filter (readsOut PySem.Challenge.rw_qd0102_01.prog body0) } body0 = true := by
  rw [lk_is]
  exact nr_split lk1 body0 25 nr1 nr2 nr3
theorem looks0 : looksOpen PySem.Challenge.rw_qd0102_01.prog = true := by
  have h1 : (sreFenced PySem.Challenge.rw_qd0102_01.prog.main && ((moduleNames PySem.Challenge.rw_qd0102_01.prog.main.body).isEmpty || lookedIntoSs (moduleNames PySem.Challenge.rw_qd0102_01.prog.main.body) PySem.Challenge.rw_qd0102_01.prog.main.body) && namesResolve PySem.Challenge.rw_qd0102_01.prog && PySem.Challenge.rw_qd0102_01.prog.boundNames.all (fun n => !worldNames.contains n)) = true := by kernel_rfl
  have h2 : (namesMeet PySem.Challenge.rw_qd0102_01.prog PySem.Challenge.rw_qd0102_01.prog.main.body fun _ n => attrL n) = true := by kernel_rfl
  unfold looksOpen
  rw [h1, noRoad0, h2]
  rfl
end
section
set_option maxRecDepth 100000
set_option maxHeartbeats 4000000
theorem looks0r : looksOpen PySem.Challenge.rw_qd0102_01.row.prog = true := looks0
theorem said0 : PySem.W.OpenLaw.wellSaid PySem.Challenge.rw_qd0102_01 = true := by
  unfold OpenLaw.wellSaid OpenRow.wellSaid OpenRow.partSaid
  rw [looks0r]
  kernel_rfl
end
end
section
open PySem PySem.Spec PySem.W PyProof.Rows PySem.Calls
set_option maxRecDepth 100000
set_option maxHeartbeats 4000000
set_option rowWalk.seconds 0
local macro_rules | `(tactic| walk_at "kF") => `(tactic| repeat' (first | (with_reducible refine gen_tkE ?_; intro tk9) | ((fail_if_success (fail_if_success k_unfold)); first | ((with_reducible refine (?_ : wpAny _ _ _ _ _ _)); (try dsimp only)) | (k_unfold; (try dsimp only))) | (k_end; wrow_close) | (walk1; walk_at "kQ") | (dsimp only [List.cons_append, List.nil_append]; walk1; walk_at "kQ") | (leave1; try dsimp only) | fail "no step"))
local macro_rules | `(tactic| walk_at "kQ") => `(tactic| all_goals (first | (fail_if_success k_fold) | refine (let q := _; (?_ : wpAny _ _ _ q _ _))))
theorem rm0 {d D l : Nat} (h : d + D < l) : d < l := Nat.lt_of_le_of_lt (Nat.le_add_right d D) h
theorem rm1 {d a D l : Nat} (h : d + D < l) (k : Nat.ble a D = true) : d + a < l := Nat.lt_of_le_of_lt (Nat.add_le_add_left (Nat.le_of_ble_eq_true k) d) h
theorem rm2 {d a b D l : Nat} (h : d + D < l) (k : Nat.ble (a + b) D = true) : d + a + b < l := Nat.add_assoc d a b ▸ rm1 h k
theorem gen_tkE {M : Model} {A : Around} {b : List PySem.Stmt} {env : PySem.Env} {Q : Flow → Shared → Prop} {E : Value → Shared → Prop} {h : Heap} {g : Array GenState} {d : Drawn} {n k : Nat} {os : OsState} (H : ∀ t, wpAny M A (execs b env) Q E ⟨h, g, d, t, os⟩) : wpAny M A (execs b env) Q E ⟨h, g, d, n + k, os⟩ := H _
noncomputable def bK : { k : FuncData → List Value → Option (Array Value) → Sem (List (Str × Value)) // ∀ fd pos, bindArgs fd ⟨pos, []⟩ = (seqItems? fd.defaults >>= k fd pos) } := ⟨_, fun _ _ => rfl⟩
theorem binds_KK {K : Frag} {s : Shared} {fd : FuncData} {pos : List Value} {binds : List (Str × Value)} {T : Addr} {o : Obj} {items : Array Value} {n : Nat} (X : K.In s.heap) (hd : fd.defaults = .ref T) (ho : K.lookup T = some o) (hs : o.data = .seq items n)
    (h : bK.1 fd pos (some items) = pure binds) : BindsTo s fd ⟨pos, []⟩ binds := binds_K X hd ho hs (bK.2 fd pos) h
/-- what is told of a call of the def at f: depth D, C units U, the ledger before, what comes back -/
noncomputable def Tell (w : World) (D U : Nat) (f : Addr) (args : List Value) (news : List (Addr × Obj)) (post : Value → List (Addr × Obj) → Prop) : Prop :=
  ∀ {p : Program} {loose : List Str} {mean : ExcName → Option Value} {mg mb : Str → Option Value} (dp un : Nat) (gd : Option (List Code)) (cn : Str) (cs : Scope) (a : Addr) (ccd : Value) (cl : List (Str × Addr)) (outer : List Env)
    (A₀ : Around) (base h₀ : Heap) (L : Addr) (m : Str → Option Value) (s : Shared) (Q E : Value → Shared → Prop),
    Below A₀ base outer h₀ → Fr h₀ L s.heap m → (Mine.KK w.params).In h₀ → News h₀ L s.heap news → Top p loose mean mg mb h₀ → cs.kind = .function → dp + D < recursionLimit → un + U < cLine →
    (∀ r news' h' tk', post r news' → Fr h₀ L h' m → News h₀ L h' news' → Q r { s with heap := h', toks := tk' }) →
    wpAny (model PySem.Challenge.rw_qd0102_01.prog w) (ktrTop dp un gd cn cs L a ccd cl outer) (call (.ref f) args) Q E s
theorem Tell.use {w : World} {D U : Nat} {f : Addr} {args : List Value} {news : List (Addr × Obj)} {post : Value → List (Addr × Obj) → Prop} {p : Program} {loose : List Str} {mean : ExcName → Option Value} {mg mb : Str → Option Value} {dp un : Nat} {gd : Option (List Code)} {cn : Str} {cs : Scope} {a : Addr} {ccd : Value} {cl : List (Str × Addr)} {outer : List Env}
    {A₀ : Around} {base h₀ : Heap} {L : Addr} {m : Str → Option Value} {s : Shared} {Q E : Value → Shared → Prop}
    (hT : Tell w D U f args news post) (B : Below A₀ base outer h₀) (F : Fr h₀ L s.heap m) (X : (Mine.KK w.params).In h₀) (N : News h₀ L s.heap news) (T : Top p loose mean mg mb h₀) (hk : cs.kind = .function) (hd : dp + D < recursionLimit) (hu : un + U < cLine)
    (ret : ∀ r news' h' tk', post r news' → Fr h₀ L h' m → News h₀ L h' news' → Q r { s with heap := h', toks := tk' }) :
    wpAny (model PySem.Challenge.rw_qd0102_01.prog w) (ktrTop dp un gd cn cs L a ccd cl outer) (call (.ref f) args) Q E s := hT _ _ _ _ _ _ _ _ _ _ _ _ _ _ _ _ _ B F X N T hk hd hu ret
theorem Tell.uze {w : World} {D U : Nat} {f : Addr} {args : List Value} {news : List (Addr × Obj)} {post : Value → List (Addr × Obj) → Prop} {p : Program} {loose : List Str} {mean : ExcName → Option Value} {mg mb : Str → Option Value} {dp un : Nat} {gd : Option (List Code)} {cn : Str} {cs : Scope} {a : Addr} {ccd : Value} {cl : List (Str × Addr)} {outer : List Env}
    {A₀ : Around} {base h₀ : Heap} {L : Addr} {m : Str → Option Value} {s : Shared} {Q E : Value → Shared → Prop}
    (hT : Tell w D U f args news post) (kB : Below A₀ base outer h₀ ∧ Fr h₀ L s.heap m ∧ (Mine.KK w.params).In h₀ ∧ News h₀ L s.heap news ∧ Top p loose mean mg mb h₀) (kC : cs.kind = .function ∧ dp + D < recursionLimit ∧ un + U < cLine)
    (ret : ∀ r news' h' tk', post r news' → Fr h₀ L h' m → News h₀ L h' news' → Q r { s with heap := h', toks := tk' }) :
    wpAny (model PySem.Challenge.rw_qd0102_01.prog w) (ktrTop dp un gd cn cs L a ccd cl outer) (call (.ref f) args) Q E s := hT _ _ _ _ _ _ _ _ _ _ _ _ _ _ _ _ _ kB.1 kB.2.1 kB.2.2.1 kB.2.2.2.1 kB.2.2.2.2 kC.1 kC.2.1 kC.2.2 ret
structure RC where
  t1 : Tok
  t2 : Tok
  t3 : Tok
  t4 : Tok
  nd : Addr
  sd : Addr
/-- the dict of a Reader -/
noncomputable abbrev RD (P : Params) (rc : RC) (tl : Addr) (z : Int) (tk : Tok) : Obj :=
  dictOf [⟨PyData.keyHash P "tokens", .str "tokens" rc.t1, .ref tl⟩, ⟨PyData.keyHash P "at", .str "at" rc.t2, .int z tk⟩, ⟨PyData.keyHash P "named", .str "named" rc.t3, .ref rc.nd⟩, ⟨PyData.keyHash P "shared", .str "shared" rc.t4, .ref rc.sd⟩] 4
/-- the dict of a Token -/
noncomputable abbrev TD (P : Params) (t1 t2 t3 t4 u1 u2 : Tok) (kd wo : Str) (pl : Addr) : Obj :=
  dictOf [⟨PyData.keyHash P "kind", .str "kind" t1, .str kd u1⟩, ⟨PyData.keyHash P "worth", .str "worth" t2, .str wo u2⟩, ⟨PyData.keyHash P "at", .str "at" t3, .ref pl⟩, ⟨PyData.keyHash P "is_in_a", .str "is_in_a" t4, .bool false⟩] 4
/-- the form of a reader's dict -/
inductive RdForm (P : Params) (tl : Addr) (o : Int → Tok → Obj) : Prop where
  | mk (rc : RC) (e : o = RD P rc tl) : RdForm P tl o
/-- the reader r, its list of tokens vs, where it stands -/
structure RdAt (P : Params) (news : List (Addr × Obj)) (r rd tl : Addr) (o : Int → Tok → Obj) (z : Int) (tk : Tok) (vs : List Value) : Prop where
  inst : (r, instObj 378 rd) ∈ news
  dict : (rd, o z tk) ∈ news
  form : RdForm P tl o
  list : ∃ n, (tl, listOf vs.toArray n) ∈ news
  few : vs.length ≤ 1000
/-- the token at place z -/
inductive TokZ (P : Params) (news : List (Addr × Obj)) (vs : List Value) (z : Int) (kd wo : Str) : Prop where
  | mk (h0 : 0 ≤ z) (t d : Addr) (t1 t2 t3 t4 u1 u2 : Tok) (pl : Addr) (a : vs[z.toNat]? = some (.ref t)) (b : (t, instObj 59 d) ∈ news) (c : (d, TD P t1 t2 t3 t4 u1 u2 kd wo pl) ∈ news) : TokZ P news vs z kd wo
theorem TokZ.mono {P : Params} {O news : List (Addr × Obj)} {vs : List Value} {z : Int} {kd wo : Str} (h : TokZ P O vs z kd wo) (hs : ∀ p ∈ O, p ∈ news) : TokZ P news vs z kd wo :=
  let ⟨h0, t, d, t1, t2, t3, t4, u1, u2, pl, a, b, c⟩ := h
  ⟨h0, t, d, t1, t2, t3, t4, u1, u2, pl, a, hs _ b, hs _ c⟩
local macro_rules | `(tactic| k_mem) => `(tactic| assumption)
theorem RdAt.mono {P : Params} {O news : List (Addr × Obj)} {r rd tl : Addr} {o : Int → Tok → Obj} {z : Int} {tk : Tok} {vs : List Value} (h : RdAt P O r rd tl o z tk vs) (hs : ∀ p ∈ O, p ∈ news) : RdAt P news r rd tl o z tk vs :=
  ⟨hs _ h.inst, hs _ h.dict, h.form, let ⟨n, x⟩ := h.list; ⟨n, hs _ x⟩, h.few⟩
/-- what never turns of a reader -/
structure RdBase (P : Params) (O : List (Addr × Obj)) (r rd tl : Addr) (o : Int → Tok → Obj) (vs : List Value) : Prop where
  inst : (r, instObj 378 rd) ∈ O
  form : RdForm P tl o
  list : ∃ n, (tl, listOf vs.toArray n) ∈ O
  few : vs.length ≤ 1000
theorem rdat_of {P : Params} {O news : List (Addr × Obj)} {r rd tl : Addr} {o : Int → Tok → Obj} {z : Int} {tk : Tok} {vs : List Value} (h : RdBase P O r rd tl o vs) (hd : (rd, o z tk) ∈ news) (hs : ∀ p ∈ O, p ∈ news) : RdAt P news r rd tl o z tk vs :=
  ⟨hs _ h.inst, hd, h.form, let ⟨n, x⟩ := h.list; ⟨n, hs _ x⟩, h.few⟩
theorem upd_keep {d a : Addr} {o o' x : Obj} {l l' : List (Addr × Obj)} (U : Upd d o o' l l') (hm : (a, x) ∈ l) (ha : a ≠ d) : (a, x) ∈ l' := by
  obtain ⟨pre, post, rfl, rfl, _, _⟩ := U.split
  rcases List.mem_append.mp hm with h | h
  · exact List.mem_append_left _ h
  · rcases List.mem_cons.mp h with e | h
    · exact absurd (congrArg Prod.fst e) ha
    · exact List.mem_append_right _ (List.mem_cons_of_mem _ h)
theorem news_ne {h₀ h : Heap} {L a b : Addr} {x y : Obj} {news : List (Addr × Obj)} (N : News h₀ L h news) (ha : (a, x) ∈ news) (hb : (b, y) ∈ news) (hxy : x ≠ y) : a ≠ b := by
  intro e
  subst e
  exact hxy (Option.some.inj ((N.get ha).symm.trans (N.get hb)))
noncomputable def keyOf (o : Obj) : Option Str := match o.data with
  | .dict es _ => (match es.toList with | ⟨_, .str x _, _⟩ :: _ => some x | _ => none)
  | _ => none
theorem obj_ne {x y : Obj} (h : keyOf x ≠ keyOf y) : x ≠ y := fun e => h (congrArg keyOf e)
theorem td_ne {P Q : Params} {t1 t2 t3 t4 u1 u2 tk : Tok} {kd wo : Str} {rc : RC} {pl tl : Addr} {z : Int} : TD P t1 t2 t3 t4 u1 u2 kd wo pl ≠ RD Q rc tl z tk :=
  obj_ne (by show (some (Str.ofString "kind")) ≠ some (Str.ofString "tokens"); decide)
theorem mem_all {p : Addr × Obj} {g : Tok → List (Addr × Obj)} (h : ∀ t, p ∈ g t) (t : Tok) : p ∈ g t := h t
theorem off_of {l : List (Addr × Obj)} {I : Addr} (h : ∀ p ∈ l, p.1 < I) : ∀ p ∈ l, p.1 ≠ I := fun p hp => Nat.ne_of_lt (h p hp)
theorem unrEnd_top {h₀ : Heap} {L I : Addr} {it : Obj} {rest : (Str → Option Value) → List (Addr × Obj) → Prop} {s₁ : Shared} {h' : Heap} {tk : Nat} {m' : Str → Option Value} {news' : List (Addr × Obj)} (F : Fr h₀ L h' m') (N : News h₀ L h' ((I, it) :: news'))
    (off : ∀ p ∈ news', p.1 < I) (r : rest m' news') : UnrEnd h₀ L s₁ I it rest { s₁ with heap := h', toks := tk } := UnrEnd.intro F N news' (fun _ h => h) (off_of off) r
theorem unrEndW_top {h₀ : Heap} {L I : Addr} {it : Obj} {rest : (Str → Option Value) → List (Addr × Obj) → Prop} {s₁ : Shared} {h' : Heap} {tk : Nat} {m' : Str → Option Value} {news' : List (Addr × Obj)} (F : Fr h₀ L h' m') (N : News h₀ L h' ((I, it) :: news'))
    (off : ∀ p ∈ news', p.1 < I) (r : rest m' news') : UnrEndW h₀ L s₁ [(I, it)] rest { s₁ with heap := h', toks := tk } :=
  ⟨h', tk, m', news', rfl, F, N, fun p hp q hq => by rw [List.mem_singleton.mp hq]; exact Nat.ne_of_lt (off p hp), r⟩
theorem ne_mem {l : List (Addr × Obj)} {d a : Addr} {o : Obj} (h : ∀ p ∈ l, p.1 < d) (hm : (a, o) ∈ l) : d ≠ a := Nat.ne_of_gt (h _ hm)
theorem upd_rd {P : Params} {rc : RC} {tk : Tok} {tl rd : Addr} {z z' : Int} {l : List (Addr × Obj)} {g : Tok → List (Addr × Obj)} (h : ∀ t, Upd rd (RD P rc tl z tk) (RD P rc tl z' t) l (g t)) (t : Tok) :
    Upd rd (RD P rc tl z tk) (RD P rc tl z' t) l (g t) := h t
theorem sub_list {w : World} {A : Around} {E : Value → Shared → Prop} {s : Shared} {value slice : PySem.Expr} {l : Addr} {items : Array Value} {k : Int} {u : Tok} {v : Value} {Q : Value → Shared → Prop}
    (hl : s.heap.IsList l items) (h0 : 0 ≤ k) (hhi : k < 2 ^ 63) (hx : items[k.toNat]? = some v) (h : Q v s)
    (hs : subscripted slice false (.ref l) (.int k u) = operate [.ref l, .int k u] (getItem (.ref l) (.int k u)) := by with_unfolding_all rfl) :
    wpAny (model PySem.Challenge.rw_qd0102_01.prog w) A (subscriptTail value slice (.ref l) (.int k u)) Q E s :=
  tail_any hl.typeIs slot_list_getitem.lookup (wpAny_getItem_list hl h0 hhi hx h) hs
local macro_rules | `(tactic| walk_at "call builtin:len") => `(tactic| (k_here; (with_reducible show wpAny _ _ (call (Value.builtin "len") [Value.ref _]) _ _ _); k_dflt (refine' len_list (items := _) ?k1 ?k2 ?_; (case k1 => (refine' News.isList ?a ?b; (case a => k_asm); (case b => k_mem))); (case k2 => assumption); k_whole)))
local macro_rules | `(tactic| walk_at "subscriptTail") => `(tactic| (k_here; (with_reducible show wpAny _ _ (subscriptTail _ _ (Value.ref _) (Value.int _ _)) _ _ _); k_dflt (refine' sub_list (items := _) ?k1 ?k2 ?k3 ?k4 ?_ ?k6; (case k1 => (refine' News.isList ?a ?b; (case a => k_asm); (case b => k_mem))); (case k4 => assumption); (case k2 => omega); (case k3 => omega); (case k6 => with_unfolding_all rfl); k_whole)))
local macro_rules | `(tactic| ktr_room) => `(tactic| first | exact rm2 (by assumption) (by rfl) | exact rm1 (by assumption) (by rfl) | exact rm0 (by assumption))
local macro_rules | `(tactic| ktr_units) => `(tactic| first | exact rm2 (by assumption) (by rfl) | exact rm1 (by assumption) (by rfl) | exact rm0 (by assumption))
theorem t_peek {w : World} {news : List (Addr × Obj)} {r rd tl : Addr} {o : Int → Tok → Obj} {z j : Int} {tk tj : Tok} {vs : List Value} {v : Value}
    (R : RdAt w.params news r rd tl o z tk vs) (h0 : 0 ≤ z + j) (hv : vs[(z + j).toNat]? = some v) :
    Tell w 1 8 232 [.ref r, .int j tj] news (fun x news' => x = v ∧ news' = news) := by
  obtain ⟨hr, hd, ⟨rc, rfl⟩, ⟨n, hl⟩, few⟩ := R
  have hfit : (vs.toArray.size : Int) < 2 ^ 63 := by simp; omega
  have hsz : vs.toArray.size = vs.length := by simp
  have hlt : (z + j).toNat < vs.length := (List.getElem?_eq_some_iff.mp hv).1
  have hv' : vs.toArray[(z + j).toNat]? = some v := by simpa using hv
  intro p loose mean mg mb dp un gd cn cs a ccd cl outer A₀ base h₀ L m s Q E B F X N T hk hdp hun ret
  refine wpAny_call ?_
  revert X N; k_fill; intro X N
  k_dflt (refine' code_def (binds := [("self", .ref r), ("ahead", .int j tj)]) ?k1 ?k2 ?k3 ?k4 ?k5 ?kA ?kF ?kK ?k6 ?k7 ?k8 ?k9 ?kB ?_ ?c2 ?c3 ?c4 ?c5; (case kA => exact rfl); (case kF => exact rfl); (case kK => assumption); (case k1 => k_asm); (case k2 => k_asm); (case k3 => k_asm); (case k4 => k_asm); (case k5 => k_asm); (case k6 => exact k_R_peek _); (case k7 => k_is); (case k8 => ktr_room); (case k9 => first | exact BindsTo.of_eq rfl | exact binds_KK (by k_in) rfl (by k_is) rfl rfl); (case c5 => decide); (case kB => exact locs rfl); (case c2 => exact rfl); (case c3 => exact rfl); (case c4 => exact rfl); k_whole; intro g' L' h' FG' F' N' B' X' T'; (try dsimp only); (try k_fold))
  walk_at "kF"
  all_goals (exact ret _ _ _ _ ⟨rfl, rfl⟩ (by k_asm) (by k_asm))
theorem t_peek0 {w : World} {news : List (Addr × Obj)} {r rd tl : Addr} {o : Int → Tok → Obj} {z : Int} {tk : Tok} {vs : List Value} {v : Value}
    (R : RdAt w.params news r rd tl o z tk vs) (h0 : 0 ≤ z) (hv : vs[z.toNat]? = some v) :
    Tell w 1 8 232 [.ref r] news (fun x news' => x = v ∧ news' = news) := by
  obtain ⟨hr, hd, ⟨rc, rfl⟩, ⟨n, hl⟩, few⟩ := R
  have hfit : (vs.toArray.size : Int) < 2 ^ 63 := by simp; omega
  have hsz : vs.toArray.size = vs.length := by simp
  have hlt : z.toNat < vs.length := (List.getElem?_eq_some_iff.mp hv).1
  have hv' : vs.toArray[(z + 0).toNat]? = some v := by simpa using hv
  intro p loose mean mg mb dp un gd cn cs a ccd cl outer A₀ base h₀ L m s Q E B F X N T hk hdp hun ret
  refine wpAny_call ?_
  revert X N; k_fill; intro X N
  k_dflt (refine' code_def (binds := [("self", .ref r), ("ahead", .int 0 488)]) ?k1 ?k2 ?k3 ?k4 ?k5 ?kA ?kF ?kK ?k6 ?k7 ?k8 ?k9 ?kB ?_ ?c2 ?c3 ?c4 ?c5; (case kA => exact rfl); (case kF => exact rfl); (case kK => assumption); (case k1 => k_asm); (case k2 => k_asm); (case k3 => k_asm); (case k4 => k_asm); (case k5 => k_asm); (case k6 => exact k_R_peek _); (case k7 => k_is); (case k8 => ktr_room); (case k9 => first | exact BindsTo.of_eq rfl | exact binds_KK (by k_in) rfl (by k_is) rfl rfl); (case c5 => decide); (case kB => exact locs rfl); (case c2 => exact rfl); (case c3 => exact rfl); (case c4 => exact rfl); k_whole; intro g' L' h' FG' F' N' B' X' T'; (try dsimp only); (try k_fold))
  walk_at "kF"
  all_goals (exact ret _ _ _ _ ⟨rfl, rfl⟩ (by k_asm) (by k_asm))
local macro_rules | `(tactic| walk_at "mB") => `(tactic| (refine ⟨?_, ?_, ?_, ?_, ?_⟩; all_goals k_asm))
local macro_rules | `(tactic| walk_at "mC") => `(tactic| (refine ⟨?_, ?_, ?_⟩; (first | exact rfl | assumption); ktr_room; ktr_units))
local macro_rules | `(tactic| walk_at "mQ") => `(tactic| first | assumption | decide +kernel)
local macro_rules | `(tactic| walk_at "mE") => `(tactic| ((try dsimp only); (try k_fold)))
local macro_rules | `(tactic| walk_at "mS") => `(tactic| (intro p9 hp9; (repeat (first | exact hp9 | refine List.mem_cons_of_mem _ ?_))))
local macro_rules | `(tactic| walk_at "mM") => `(tactic| (repeat (first | assumption | exact List.mem_cons_self .. | refine List.mem_cons_of_mem _ ?_)))
local macro_rules | `(tactic| walk_at "mR") => `(tactic| first | assumption | exact RdAt.mono (by assumption) (by walk_at "mS") | exact rdat_of (by assumption) (by k_mem) (by walk_at "mS"))
local macro_rules | `(tactic| walk_at "mT") => `(tactic| first | assumption | exact TokZ.mono (by assumption) (by walk_at "mS"))
theorem t_is_kind {w : World} {news : List (Addr × Obj)} {r rd tl : Addr} {o : Int → Tok → Obj} {z j : Int} {tk tj tq : Tok} {vs : List Value} {kd wo kind : Str} {b : Bool}
    (R : RdAt w.params news r rd tl o z tk vs) (ht : TokZ w.params news vs (z + j) kd wo) (hb : (kd == kind) = b) :
    Tell w 2 16 261 [.ref r, .str kind tq, .int j tj] news (fun x news' => x = .bool b ∧ news' = news) := by
  subst hb
  have R' := R
  obtain ⟨hr, hd, ⟨rc, rfl⟩, ⟨n, hl⟩, few⟩ := R
  obtain ⟨h0, t, d, t1', t2', t3', t4', u1, u2, pl, hv, hti, htd⟩ := ht
  intro p loose mean mg mb dp un gd cn cs a ccd cl outer A₀ base h₀ L m s Q E B F X N T hk hdp hun ret
  refine wpAny_call ?_
  revert X N; k_fill; intro X N
  k_dflt (refine' code_def (binds := [("self", .ref r), ("kind", .str kind tq), ("ahead", .int j tj)]) ?k1 ?k2 ?k3 ?k4 ?k5 ?kA ?kF ?kK ?k6 ?k7 ?k8 ?k9 ?kB ?_ ?c2 ?c3 ?c4 ?c5; (case kA => exact rfl); (case kF => exact rfl); (case kK => assumption); (case k1 => k_asm); (case k2 => k_asm); (case k3 => k_asm); (case k4 => k_asm); (case k5 => k_asm); (case k6 => exact k_R_is_kind _); (case k7 => k_is); (case k8 => ktr_room); (case k9 => first | exact BindsTo.of_eq rfl | exact binds_KK (by k_in) rfl (by k_is) rfl rfl); (case c5 => decide); (case kB => exact locs rfl); (case c2 => exact rfl); (case c3 => exact rfl); (case c4 => exact rfl); k_whole; intro g' L' h' FG' F' N' B' X' T'; (try dsimp only); (try k_fold))
  (walk_at "kF"; repeat' ((first | (refine' Tell.use (t_peek (o := _) ?R ?h0 ?hv) ?k1 ?k2 ?k3 ?k4 ?k5 ?kK ?kd ?ku ?_; (case k1 | k2 | k3 | k4 | k5 => k_asm); (case R => walk_at "mR"); (case h0 => assumption); (case hv => assumption); (case kK => first | exact rfl | assumption); (case kd => ktr_room); (case ku => ktr_units); k_whole; intro r9 n9 h9 tk9 e9 F9 N9; (obtain ⟨e8, e7⟩ := e9); (subst e8); (subst e7); walk_at "mE")); walk_at "kF"))
  all_goals (exact ret _ _ _ _ ⟨rfl, rfl⟩ (by k_asm) (by k_asm))
theorem t_is_kind0 {w : World} {news : List (Addr × Obj)} {r rd tl : Addr} {o : Int → Tok → Obj} {z : Int} {tk tq : Tok} {vs : List Value} {kd wo kind : Str} {b : Bool}
    (R : RdAt w.params news r rd tl o z tk vs) (ht : TokZ w.params news vs z kd wo) (hb : (kd == kind) = b) :
    Tell w 2 16 261 [.ref r, .str kind tq] news (fun x news' => x = .bool b ∧ news' = news) := by
  subst hb
  have R' := R
  obtain ⟨hr, hd, ⟨rc, rfl⟩, ⟨n, hl⟩, few⟩ := R
  obtain ⟨h0', t, d, t1', t2', t3', t4', u1, u2, pl, hv', hti, htd⟩ := ht
  have h0 : 0 ≤ z + 0 := by omega
  have hv : vs[(z + 0).toNat]? = some (.ref t) := by simpa using hv'
  intro p loose mean mg mb dp un gd cn cs a ccd cl outer A₀ base h₀ L m s Q E B F X N T hk hdp hun ret
  refine wpAny_call ?_
  revert X N; k_fill; intro X N
  k_dflt (refine' code_def (binds := [("self", .ref r), ("kind", .str kind tq), ("ahead", .int 0 520)]) ?k1 ?k2 ?k3 ?k4 ?k5 ?kA ?kF ?kK ?k6 ?k7 ?k8 ?k9 ?kB ?_ ?c2 ?c3 ?c4 ?c5; (case kA => exact rfl); (case kF => exact rfl); (case kK => assumption); (case k1 => k_asm); (case k2 => k_asm); (case k3 => k_asm); (case k4 => k_asm); (case k5 => k_asm); (case k6 => exact k_R_is_kind _); (case k7 => k_is); (case k8 => ktr_room); (case k9 => first | exact BindsTo.of_eq rfl | exact binds_KK (by k_in) rfl (by k_is) rfl rfl); (case c5 => decide); (case kB => exact locs rfl); (case c2 => exact rfl); (case c3 => exact rfl); (case c4 => exact rfl); k_whole; intro g' L' h' FG' F' N' B' X' T'; (try dsimp only); (try k_fold))
  (walk_at "kF"; repeat' ((first | (refine' Tell.use (t_peek (o := _) ?R ?h0 ?hv) ?k1 ?k2 ?k3 ?k4 ?k5 ?kK ?kd ?ku ?_; (case k1 | k2 | k3 | k4 | k5 => k_asm); (case R => walk_at "mR"); (case h0 => assumption); (case hv => assumption); (case kK => first | exact rfl | assumption); (case kd => ktr_room); (case ku => ktr_units); k_whole; intro r9 n9 h9 tk9 e9 F9 N9; (obtain ⟨e8, e7⟩ := e9); (subst e8); (subst e7); walk_at "mE")); walk_at "kF"))
  all_goals (exact ret _ _ _ _ ⟨rfl, rfl⟩ (by k_asm) (by k_asm))
set_option maxRecDepth 100000
set_option maxHeartbeats 4000000
set_option rowWalk.seconds 0
local macro_rules | `(tactic| k_mem) => `(tactic| first | assumption | exact mem_all (by assumption) _)
local macro_rules | `(tactic| walk_at "call builtin:str.split") => `(tactic| (k_here; (with_reducible show wpAny _ _ (call (Value.builtin "str.split") _) _ _ _); k_dflt (refine KSpl.split1 (by k_asm) (by k_asm) (by decide) ?_ (by assumption)); intro D' l' h' k' e' a' F' N' l1; (try k_lt l1); (have e2 := e'.trans (by assumption)); clear e'; (kspl_open e2); (simp only [strValues, List.map_cons, List.map_nil] at N' a')))
local macro_rules | `(tactic| walk_at "pyIter ref") => `(tactic| (k_here; (with_reducible show wpAny _ _ (pyIter (Value.ref _)) (fun it s₂ => LoopAtV _ _ _ _ _ _ _ _ _ it s₂) _ _); (with_unfolding_all (refine' iter_listUnr ?hh ?F ?N ?hm ?hc ?hd ?_; (case hh => exact rfl); (case F => k_asm); (case N => k_asm); (case hm => k_mem); (case hc => exact rfl); (case hd => exact rfl))); intro i' hI'))
local macro_rules | `(tactic| walk_at "UnrEnd") => `(tactic| (k_here; (refine' unrEnd_top ?F ?N ?off ?_; (case F => k_asm); (case N => k_asm); (case off => assumption)); (refine ⟨by k_mem, ?_⟩)))
local macro_rules | `(tactic| k_ne) => `(tactic| first | assumption | exact ne_mem (by assumption) (by k_mem))
local macro_rules | `(tactic| k_all) => `(tactic| first | assumption | exact off_of (by assumption))
local macro_rules | `(tactic| k_upd) => `(tactic| exact upd_rd (by assumption) _)
local macro_rules | `(tactic| walk_at "exec While") => `(tactic| (k_here; k_dflt (refine whl_start 100 ?_)))
local macro_rules | `(tactic| walk_at "WhlIf") => `(tactic| (k_here; first | refine WhlIf.yes (by assumption) ?_ | refine WhlIf.no (by assumption) ?_))
local macro_rules | `(tactic| walk_at "exec For Name Name cons nil") => `(tactic| (k_here; (rename Fr _ _ _ _ => lF'); (with_unfolding_all refine' For_turns lF' ?_; k_whole)))
local macro_rules | `(tactic| walk_at "pyIter ref") => `(tactic| (k_here; (with_reducible show wpAny _ _ (pyIter (Value.ref _)) (fun it s₂ => TurnsAt _ _ _ _ _ _ _ _ _ it s₂) _ _); (with_unfolding_all refine' iter_tupK ?h ?F ?N ?X ?k ?c ?d ?z ?_; (case h => with_unfolding_all rfl); (case F => k_asm); (case N => k_asm); (case X => k_asm); (case k => k_is); (case c => exact rfl); (case d => exact rfl); (case z => decide); k_whole); intro i' hI'))
local macro_rules | `(tactic| walk_at "UnrEndW") => `(tactic| (k_here; (refine' unrEndW_top ?F ?N ?off ?_; (case F => k_asm); (case N => k_asm); (case off => assumption)); (refine ⟨by k_subL, ?_⟩)))
theorem t_is_word1 {w : World} {news : List (Addr × Obj)} {r rd tl : Addr} {o : Int → Tok → Obj} {z : Int} {tk tq : Tok} {vs : List Value} {kd wo q : Str}
    (R : RdAt w.params news r rd tl o z tk vs) (ht : TokZ w.params news vs z kd wo) (hq : Txt.split q " " = [q]) (hqs : q.length + 2 ≤ sizeLine) :
    Tell w 3 24 268 [.ref r, .str q tq] news (fun x news' => x = .bool (kd == "word" && wo == q) ∧ news' = news) := by
  have R' := R
  obtain ⟨hr, hd, ⟨rc, rfl⟩, ⟨n, hl⟩, few⟩ := R
  have ht' := ht
  obtain ⟨h0, t, d, t1', t2', t3', t4', u1, u2, pl, hv, hti, htd⟩ := ht
  have hz0 : TokZ w.params news vs (z + 0) kd wo := by simpa using ht'
  have h00 : 0 ≤ z + 0 := by omega
  have hv0 : vs[(z + 0).toNat]? = some (.ref t) := by simpa using hv
  intro p loose mean mg mb dp un gd cn cs a ccd cl outer A₀ base h₀ L m s Q E B F X N T hk hdp hun ret
  refine wpAny_call ?_
  revert X N; k_fill; intro X N
  k_dflt (refine' code_def (binds := [("self", .ref r), ("words", .str q tq)]) ?k1 ?k2 ?k3 ?k4 ?k5 ?kA ?kF ?kK ?k6 ?k7 ?k8 ?k9 ?kB ?_ ?c2 ?c3 ?c4 ?c5; (case kA => exact rfl); (case kF => exact rfl); (case kK => assumption); (case k1 => k_asm); (case k2 => k_asm); (case k3 => k_asm); (case k4 => k_asm); (case k5 => k_asm); (case k6 => exact k_R_is_word _); (case k7 => k_is); (case k8 => ktr_room); (case k9 => first | exact BindsTo.of_eq rfl | exact binds_KK (by k_in) rfl (by k_is) rfl rfl); (case c5 => decide); (case kB => exact locs rfl); (case c2 => exact rfl); (case c3 => exact rfl); (case c4 => exact rfl); k_whole; intro g' L' h' FG' F' N' B' X' T'; (try dsimp only); (try k_fold))
  (walk_at "kF"; repeat' ((first | (refine' Tell.use (t_is_kind (o := _) ?R ?ht ?hb) ?k1 ?k2 ?k3 ?k4 ?k5 ?kK ?kd ?ku ?_; (case k1 | k2 | k3 | k4 | k5 => k_asm); (case R => walk_at "mR"); (case ht => walk_at "mT"); (case hb => first | rfl | assumption | decide +kernel); (case kK => first | exact rfl | assumption); (case kd => ktr_room); (case ku => ktr_units); k_whole; intro r9 n9 h9 tk9 e9 F9 N9; (obtain ⟨e8, e7⟩ := e9); (subst e8); (subst e7); walk_at "mE") | (refine' Tell.use (t_peek (o := _) ?R ?h0 ?hv) ?k1 ?k2 ?k3 ?k4 ?k5 ?kK ?kd ?ku ?_; (case k1 | k2 | k3 | k4 | k5 => k_asm); (case R => walk_at "mR"); (case h0 => assumption); (case hv => assumption); (case kK => first | exact rfl | assumption); (case kd => ktr_room); (case ku => ktr_units); k_whole; intro r9 n9 h9 tk9 e9 F9 N9; (obtain ⟨e8, e7⟩ := e9); (subst e8); (subst e7); walk_at "mE")); walk_at "kF"))
  all_goals (refine ret _ _ _ _ ⟨?_, rfl⟩ (by k_asm) (by first | k_asm | exact cb_drop (by assumption) (by (intro p9 hp9; (repeat (first | exact hp9 | refine List.mem_cons_of_mem _ ?_)))))<;> simp_all)
theorem t_skip_no {w : World} {news : List (Addr × Obj)} {r rd tl : Addr} {o : Int → Tok → Obj} {z : Int} {tk tq : Tok} {vs : List Value} {kd wo q : Str}
    (R : RdAt w.params news r rd tl o z tk vs) (ht : TokZ w.params news vs z kd wo) (hq : Txt.split q " " = [q]) (hqs : q.length + 2 ≤ sizeLine) (hb : (kd == "word" && wo == q) = false) :
    Tell w 4 32 275 [.ref r, .str q tq] news (fun x news' => x = .bool false ∧ news' = news) := by
  have R' := R
  obtain ⟨hr, hd, ⟨rc, rfl⟩, ⟨n, hl⟩, few⟩ := R
  intro p loose mean mg mb dp un gd cn cs a ccd cl outer A₀ base h₀ L m s Q E B F X N T hk hdp hun ret
  refine wpAny_call ?_
  revert X N; k_fill; intro X N
  k_dflt (refine' code_def (binds := [("self", .ref r), ("words", .str q tq)]) ?k1 ?k2 ?k3 ?k4 ?k5 ?kA ?kF ?kK ?k6 ?k7 ?k8 ?k9 ?kB ?_ ?c2 ?c3 ?c4 ?c5; (case kA => exact rfl); (case kF => exact rfl); (case kK => assumption); (case k1 => k_asm); (case k2 => k_asm); (case k3 => k_asm); (case k4 => k_asm); (case k5 => k_asm); (case k6 => exact k_R_skip _); (case k7 => k_is); (case k8 => ktr_room); (case k9 => first | exact BindsTo.of_eq rfl | exact binds_KK (by k_in) rfl (by k_is) rfl rfl); (case c5 => decide); (case kB => exact locs rfl); (case c2 => exact rfl); (case c3 => exact rfl); (case c4 => exact rfl); k_whole; intro g' L' h' FG' F' N' B' X' T'; (try dsimp only); (try k_fold))
  (walk_at "kF"; repeat' ((first | (refine' Tell.use (t_is_word1 (o := _) ?R ?ht ?hq ?hqs) ?k1 ?k2 ?k3 ?k4 ?k5 ?kK ?kd ?ku ?_; (case k1 | k2 | k3 | k4 | k5 => k_asm); (case R => walk_at "mR"); (case ht => walk_at "mT"); (case hq => walk_at "mQ"); (case hqs => walk_at "mQ"); (case kK => first | exact rfl | assumption); (case kd => ktr_room); (case ku => ktr_units); k_whole; intro r9 n9 h9 tk9 e9 F9 N9; (obtain ⟨e8, e7⟩ := e9); (subst e8); (subst e7); walk_at "mE")); walk_at "kF"))
  all_goals (refine ret _ _ _ _ ⟨?_, rfl⟩ (by k_asm) (by first | k_asm | exact cb_drop (by assumption) (by (intro p9 hp9; (repeat (first | exact hp9 | refine List.mem_cons_of_mem _ ?_)))))<;> simp_all)
theorem t_skip_yes {w : World} {news : List (Addr × Obj)} {news2 : Tok → List (Addr × Obj)} {r rd tl : Addr} {o : Int → Tok → Obj} {z : Int} {tk tq : Tok} {vs : List Value} {q : Str}
    (R : RdAt w.params news r rd tl o z tk vs) (ht : TokZ w.params news vs z "word" q) (hq : Txt.split q " " = [q]) (hqs : q.length + 2 ≤ sizeLine) (U : ∀ t, Upd rd (o z tk) (o (z + 1) t) news (news2 t)) :
    Tell w 4 32 275 [.ref r, .str q tq] news (fun x news' => x = .bool true ∧ ∃ t, news' = news2 t) := by
  have R' := R
  obtain ⟨hr, hd, ⟨rc, rfl⟩, ⟨n, hl⟩, few⟩ := R
  have hb : (("word" : Str) == "word" && q == q) = true := by simp
  intro p loose mean mg mb dp un gd cn cs a ccd cl outer A₀ base h₀ L m s Q E B F X N T hk hdp hun ret
  refine wpAny_call ?_
  revert X N; k_fill; intro X N
  k_dflt (refine' code_def (binds := [("self", .ref r), ("words", .str q tq)]) ?k1 ?k2 ?k3 ?k4 ?k5 ?kA ?kF ?kK ?k6 ?k7 ?k8 ?k9 ?kB ?_ ?c2 ?c3 ?c4 ?c5; (case kA => exact rfl); (case kF => exact rfl); (case kK => assumption); (case k1 => k_asm); (case k2 => k_asm); (case k3 => k_asm); (case k4 => k_asm); (case k5 => k_asm); (case k6 => exact k_R_skip _); (case k7 => k_is); (case k8 => ktr_room); (case k9 => first | exact BindsTo.of_eq rfl | exact binds_KK (by k_in) rfl (by k_is) rfl rfl); (case c5 => decide); (case kB => exact locs rfl); (case c2 => exact rfl); (case c3 => exact rfl); (case c4 => exact rfl); k_whole; intro g' L' h' FG' F' N' B' X' T'; (try dsimp only); (try k_fold))
  (walk_at "kF"; repeat' ((first | (refine' Tell.use (t_is_word1 (o := _) ?R ?ht ?hq ?hqs) ?k1 ?k2 ?k3 ?k4 ?k5 ?kK ?kd ?ku ?_; (case k1 | k2 | k3 | k4 | k5 => k_asm); (case R => walk_at "mR"); (case ht => walk_at "mT"); (case hq => walk_at "mQ"); (case hqs => walk_at "mQ"); (case kK => first | exact rfl | assumption); (case kd => ktr_room); (case ku => ktr_units); k_whole; intro r9 n9 h9 tk9 e9 F9 N9; (obtain ⟨e8, e7⟩ := e9); (subst e8); (subst e7); walk_at "mE")); walk_at "kF"))
  all_goals (refine ret _ _ _ _ ⟨?_, _, rfl⟩ (by k_asm) (by first | k_asm | exact cb_drop (by assumption) (by (intro p9 hp9; (repeat (first | exact hp9 | refine List.mem_cons_of_mem _ ?_)))))<;> simp_all)
section
set_option maxRecDepth 100000
set_option maxHeartbeats 4000000
set_option rowWalk.seconds 0
theorem t_take {w : World} {news : List (Addr × Obj)} {news2 : Tok → List (Addr × Obj)} {r rd tl : Addr} {o : Int → Tok → Obj} {z : Int} {tk : Tok} {vs : List Value} {t0 : Addr}
    (R : RdAt w.params news r rd tl o z tk vs) (h0 : 0 ≤ z) (hv : vs[z.toNat]? = some (.ref t0)) (U : ∀ t, Upd rd (o z tk) (o (z + 1) t) news (news2 t)) :
    Tell w 2 16 253 [.ref r] news (fun x news' => x = .ref t0 ∧ ∃ t, news' = news2 t) := by
  have R' := R
  obtain ⟨hr, hd, ⟨rc, rfl⟩, ⟨n, hl⟩, few⟩ := R
  intro p loose mean mg mb dp un gd cn cs a ccd cl outer A₀ base h₀ L m s Q E B F X N T hk hdp hun ret
  refine wpAny_call ?_
  revert X N; k_fill; intro X N
  k_dflt (refine' code_def (binds := [("self", .ref r)]) ?k1 ?k2 ?k3 ?k4 ?k5 ?kA ?kF ?kK ?k6 ?k7 ?k8 ?k9 ?kB ?_ ?c2 ?c3 ?c4 ?c5; (case kA => exact rfl); (case kF => exact rfl); (case kK => assumption); (case k1 => k_asm); (case k2 => k_asm); (case k3 => k_asm); (case k4 => k_asm); (case k5 => k_asm); (case k6 => exact k_R_take _); (case k7 => k_is); (case k8 => ktr_room); (case k9 => first | exact BindsTo.of_eq rfl | exact binds_KK (by k_in) rfl (by k_is) rfl rfl); (case c5 => decide); (case kB => exact locs rfl); (case c2 => exact rfl); (case c3 => exact rfl); (case c4 => exact rfl); k_whole; intro g' L' h' FG' F' N' B' X' T'; (try dsimp only); (try k_fold))
  (walk_at "kF"; repeat' ((first | (refine' Tell.use (t_peek0 (o := _) ?R ?h0 ?hv) ?k1 ?k2 ?k3 ?k4 ?k5 ?kK ?kd ?ku ?_; (case k1 | k2 | k3 | k4 | k5 => k_asm); (case R => walk_at "mR"); (case h0 => assumption); (case hv => assumption); (case kK => first | exact rfl | assumption); (case kd => ktr_room); (case ku => ktr_units); k_whole; intro r9 n9 h9 tk9 e9 F9 N9; (obtain ⟨e8, e7⟩ := e9); (subst e8); (subst e7); walk_at "mE")); walk_at "kF"))
  all_goals (refine ret _ _ _ _ ⟨?_, _, rfl⟩ (by k_asm) (by first | k_asm | exact cb_drop (by assumption) (by (intro p9 hp9; (repeat (first | exact hp9 | refine List.mem_cons_of_mem _ ?_)))))<;> simp_all)
theorem t_literal {w : World} {news : List (Addr × Obj)} {news2 : Tok → List (Addr × Obj)} {r rd tl : Addr} {o : Int → Tok → Obj} {z : Int} {tk : Tok} {vs : List Value} {wo : Str}
    (R : RdAt w.params news r rd tl o z tk vs) (ht : TokZ w.params news vs z "literal" wo) (U : ∀ t, Upd rd (o z tk) (o (z + 1) t) news (news2 t)) :
    Tell w 3 24 368 [.ref r] news (fun x news' => ∃ u, x = .str wo u ∧ ∃ t, news' = news2 t) := by
  have R' := R
  obtain ⟨hr, hd, ⟨rc, rfl⟩, ⟨n, hl⟩, few⟩ := R
  have ht' := ht
  obtain ⟨h0, t, d, t1', t2', t3', t4', u1, u2, pl, hv, hti, htd⟩ := ht
  intro p loose mean mg mb dp un gd cn cs a ccd cl outer A₀ base h₀ L m s Q E B F X N T hk hdp hun ret
  have hne : t ≠ rd := news_ne N hti hd (by intro e; cases e)
  have hne2 : d ≠ rd := news_ne N htd hd td_ne
  have hti2 := fun t' => upd_keep (U t') hti hne
  have htd2 := fun t' => upd_keep (U t') htd hne2
  refine wpAny_call ?_
  revert X N; k_fill; intro X N
  k_dflt (refine' code_def (binds := [("self", .ref r)]) ?k1 ?k2 ?k3 ?k4 ?k5 ?kA ?kF ?kK ?k6 ?k7 ?k8 ?k9 ?kB ?_ ?c2 ?c3 ?c4 ?c5; (case kA => exact rfl); (case kF => exact rfl); (case kK => assumption); (case k1 => k_asm); (case k2 => k_asm); (case k3 => k_asm); (case k4 => k_asm); (case k5 => k_asm); (case k6 => exact k_R_literal _); (case k7 => k_is); (case k8 => ktr_room); (case k9 => first | exact BindsTo.of_eq rfl | exact binds_KK (by k_in) rfl (by k_is) rfl rfl); (case c5 => decide); (case kB => exact locs rfl); (case c2 => exact rfl); (case c3 => exact rfl); (case c4 => exact rfl); k_whole; intro g' L' h' FG' F' N' B' X' T'; (try dsimp only); (try k_fold))
  (walk_at "kF"; repeat' ((first | (refine' Tell.use (t_take (o := _) ?R ?h0 ?hv ?U) ?k1 ?k2 ?k3 ?k4 ?k5 ?kK ?kd ?ku ?_; (case k1 | k2 | k3 | k4 | k5 => k_asm); (case R => walk_at "mR"); (case h0 => assumption); (case hv => assumption); (case U => (intro t9; k_upd)); (case kK => first | exact rfl | assumption); (case kd => ktr_room); (case ku => ktr_units); k_whole; intro r9 n9 h9 tk9 e9 F9 N9; (obtain ⟨e8, t9, e7⟩ := e9); (subst e8); (subst e7); (try dsimp only at N9); walk_at "mE") | (refine' Tell.use (t_is_kind0 (o := _) ?R ?ht ?hb) ?k1 ?k2 ?k3 ?k4 ?k5 ?kK ?kd ?ku ?_; (case k1 | k2 | k3 | k4 | k5 => k_asm); (case R => walk_at "mR"); (case ht => walk_at "mT"); (case hb => first | rfl | assumption | decide +kernel); (case kK => first | exact rfl | assumption); (case kd => ktr_room); (case ku => ktr_units); k_whole; intro r9 n9 h9 tk9 e9 F9 N9; (obtain ⟨e8, e7⟩ := e9); (subst e8); (subst e7); walk_at "mE")); walk_at "kF"))
  all_goals (refine ret _ _ _ _ ⟨_, rfl, _, rfl⟩ (by k_asm) (by first | k_asm | exact cb_drop (by assumption) (by (intro p9 hp9; (repeat (first | exact hp9 | refine List.mem_cons_of_mem _ ?_))))))
theorem t_is_sign {w : World} {news : List (Addr × Obj)} {r rd tl : Addr} {o : Int → Tok → Obj} {z : Int} {tk tq : Tok} {vs : List Value} {kd wo q : Str}
    (R : RdAt w.params news r rd tl o z tk vs) (ht : TokZ w.params news vs z kd wo) :
    Tell w 3 24 326 [.ref r, .str q tq] news (fun x news' => x = .bool (kd == "sign" && wo == q) ∧ news' = news) := by
  have R' := R
  obtain ⟨hr, hd, ⟨rc, rfl⟩, ⟨n, hl⟩, few⟩ := R
  have ht' := ht
  obtain ⟨h0, t, d, t1', t2', t3', t4', u1, u2, pl, hv, hti, htd⟩ := ht
  have hz0 : TokZ w.params news vs (z + 0) kd wo := by simpa using ht'
  have h00 : 0 ≤ z + 0 := by omega
  have hv0 : vs[(z + 0).toNat]? = some (.ref t) := by simpa using hv
  intro p loose mean mg mb dp un gd cn cs a ccd cl outer A₀ base h₀ L m s Q E B F X N T hk hdp hun ret
  refine wpAny_call ?_
  revert X N; k_fill; intro X N
  k_dflt (refine' code_def (binds := [("self", .ref r), ("sign", .str q tq), ("ahead", .int 0 596)]) ?k1 ?k2 ?k3 ?k4 ?k5 ?kA ?kF ?kK ?k6 ?k7 ?k8 ?k9 ?kB ?_ ?c2 ?c3 ?c4 ?c5; (case kA => exact rfl); (case kF => exact rfl); (case kK => assumption); (case k1 => k_asm); (case k2 => k_asm); (case k3 => k_asm); (case k4 => k_asm); (case k5 => k_asm); (case k6 => exact k_R_is_sign _); (case k7 => k_is); (case k8 => ktr_room); (case k9 => first | exact BindsTo.of_eq rfl | exact binds_KK (by k_in) rfl (by k_is) rfl rfl); (case c5 => decide); (case kB => exact locs rfl); (case c2 => exact rfl); (case c3 => exact rfl); (case c4 => exact rfl); k_whole; intro g' L' h' FG' F' N' B' X' T'; (try dsimp only); (try k_fold))
  (walk_at "kF"; repeat' ((first | (refine' Tell.use (t_is_kind (o := _) ?R ?ht ?hb) ?k1 ?k2 ?k3 ?k4 ?k5 ?kK ?kd ?ku ?_; (case k1 | k2 | k3 | k4 | k5 => k_asm); (case R => walk_at "mR"); (case ht => walk_at "mT"); (case hb => first | rfl | assumption | decide +kernel); (case kK => first | exact rfl | assumption); (case kd => ktr_room); (case ku => ktr_units); k_whole; intro r9 n9 h9 tk9 e9 F9 N9; (obtain ⟨e8, e7⟩ := e9); (subst e8); (subst e7); walk_at "mE") | (refine' Tell.use (t_peek (o := _) ?R ?h0 ?hv) ?k1 ?k2 ?k3 ?k4 ?k5 ?kK ?kd ?ku ?_; (case k1 | k2 | k3 | k4 | k5 => k_asm); (case R => walk_at "mR"); (case h0 => assumption); (case hv => assumption); (case kK => first | exact rfl | assumption); (case kd => ktr_room); (case ku => ktr_units); k_whole; intro r9 n9 h9 tk9 e9 F9 N9; (obtain ⟨e8, e7⟩ := e9); (subst e8); (subst e7); walk_at "mE")); walk_at "kF"))
  all_goals (refine ret _ _ _ _ ⟨?_, rfl⟩ (by k_asm) (by first | k_asm | exact cb_drop (by assumption) (by (intro p9 hp9; (repeat (first | exact hp9 | refine List.mem_cons_of_mem _ ?_)))))<;> simp_all)
theorem t_skip_sign_no {w : World} {news : List (Addr × Obj)} {r rd tl : Addr} {o : Int → Tok → Obj} {z : Int} {tk tq : Tok} {vs : List Value} {kd wo q : Str}
    (R : RdAt w.params news r rd tl o z tk vs) (ht : TokZ w.params news vs z kd wo) (hb : (kd == "sign" && wo == q) = false) :
    Tell w 4 32 333 [.ref r, .str q tq] news (fun x news' => x = .bool false ∧ news' = news) := by
  have R' := R
  obtain ⟨hr, hd, ⟨rc, rfl⟩, ⟨n, hl⟩, few⟩ := R
  intro p loose mean mg mb dp un gd cn cs a ccd cl outer A₀ base h₀ L m s Q E B F X N T hk hdp hun ret
  refine wpAny_call ?_
  revert X N; k_fill; intro X N
  k_dflt (refine' code_def (binds := [("self", .ref r), ("sign", .str q tq)]) ?k1 ?k2 ?k3 ?k4 ?k5 ?kA ?kF ?kK ?k6 ?k7 ?k8 ?k9 ?kB ?_ ?c2 ?c3 ?c4 ?c5; (case kA => exact rfl); (case kF => exact rfl); (case kK => assumption); (case k1 => k_asm); (case k2 => k_asm); (case k3 => k_asm); (case k4 => k_asm); (case k5 => k_asm); (case k6 => exact k_R_skip_sign _); (case k7 => k_is); (case k8 => ktr_room); (case k9 => first | exact BindsTo.of_eq rfl | exact binds_KK (by k_in) rfl (by k_is) rfl rfl); (case c5 => decide); (case kB => exact locs rfl); (case c2 => exact rfl); (case c3 => exact rfl); (case c4 => exact rfl); k_whole; intro g' L' h' FG' F' N' B' X' T'; (try dsimp only); (try k_fold))
  (walk_at "kF"; repeat' ((first | (refine' Tell.use (t_is_sign (o := _) ?R ?ht) ?k1 ?k2 ?k3 ?k4 ?k5 ?kK ?kd ?ku ?_; (case k1 | k2 | k3 | k4 | k5 => k_asm); (case R => walk_at "mR"); (case ht => walk_at "mT"); (case kK => first | exact rfl | assumption); (case kd => ktr_room); (case ku => ktr_units); k_whole; intro r9 n9 h9 tk9 e9 F9 N9; (obtain ⟨e8, e7⟩ := e9); (subst e8); (subst e7); walk_at "mE")); walk_at "kF"))
  all_goals (refine ret _ _ _ _ ⟨?_, rfl⟩ (by k_asm) (by first | k_asm | exact cb_drop (by assumption) (by (intro p9 hp9; (repeat (first | exact hp9 | refine List.mem_cons_of_mem _ ?_)))))<;> simp_all)
theorem t_skip_sign_yes {w : World} {news : List (Addr × Obj)} {news2 : Tok → List (Addr × Obj)} {r rd tl : Addr} {o : Int → Tok → Obj} {z : Int} {tk tq : Tok} {vs : List Value} {q : Str}
    (R : RdAt w.params news r rd tl o z tk vs) (ht : TokZ w.params news vs z "sign" q) (U : ∀ t, Upd rd (o z tk) (o (z + 1) t) news (news2 t)) :
    Tell w 4 32 333 [.ref r, .str q tq] news (fun x news' => x = .bool true ∧ ∃ t, news' = news2 t) := by
  have R' := R
  obtain ⟨hr, hd, ⟨rc, rfl⟩, ⟨n, hl⟩, few⟩ := R
  have hb : (("sign" : Str) == "sign" && q == q) = true := by simp
  intro p loose mean mg mb dp un gd cn cs a ccd cl outer A₀ base h₀ L m s Q E B F X N T hk hdp hun ret
  refine wpAny_call ?_
  revert X N; k_fill; intro X N
  k_dflt (refine' code_def (binds := [("self", .ref r), ("sign", .str q tq)]) ?k1 ?k2 ?k3 ?k4 ?k5 ?kA ?kF ?kK ?k6 ?k7 ?k8 ?k9 ?kB ?_ ?c2 ?c3 ?c4 ?c5; (case kA => exact rfl); (case kF => exact rfl); (case kK => assumption); (case k1 => k_asm); (case k2 => k_asm); (case k3 => k_asm); (case k4 => k_asm); (case k5 => k_asm); (case k6 => exact k_R_skip_sign _); (case k7 => k_is); (case k8 => ktr_room); (case k9 => first | exact BindsTo.of_eq rfl | exact binds_KK (by k_in) rfl (by k_is) rfl rfl); (case c5 => decide); (case kB => exact locs rfl); (case c2 => exact rfl); (case c3 => exact rfl); (case c4 => exact rfl); k_whole; intro g' L' h' FG' F' N' B' X' T'; (try dsimp only); (try k_fold))
  (walk_at "kF"; repeat' ((first | (refine' Tell.use (t_is_sign (o := _) ?R ?ht) ?k1 ?k2 ?k3 ?k4 ?k5 ?kK ?kd ?ku ?_; (case k1 | k2 | k3 | k4 | k5 => k_asm); (case R => walk_at "mR"); (case ht => walk_at "mT"); (case kK => first | exact rfl | assumption); (case kd => ktr_room); (case ku => ktr_units); k_whole; intro r9 n9 h9 tk9 e9 F9 N9; (obtain ⟨e8, e7⟩ := e9); (subst e8); (subst e7); walk_at "mE")); walk_at "kF"))
  all_goals (refine ret _ _ _ _ ⟨?_, _, rfl⟩ (by k_asm) (by first | k_asm | exact cb_drop (by assumption) (by (intro p9 hp9; (repeat (first | exact hp9 | refine List.mem_cons_of_mem _ ?_)))))<;> simp_all)
theorem k_RES (P : Params) : nsIn (Mine.KK P) mainGlobals "RESERVED" = some (some (.str (PySem.Str.mk ⟨RsN⟩) 457)) := by kernel_rfl
/-- the word is none of the reserved ones -/
noncomputable def FreeName (q : PySem.Str) : Prop := q.length ≤ 100 ∧ (Builtin.Str.occurrences (PySem.Str.mk ⟨RsN⟩) (PySem.Str.ofString " " ++ q ++ PySem.Str.ofString " ") 0 (PySem.Str.mk ⟨RsN⟩).length 1).isEmpty = true
local macro_rules | `(tactic| walk_at "eval Name") => `(tactic| (k_here; (with_reducible show wpAny _ _ (eval (PySem.Expr.Name (PySem.Str.ofString "RESERVED") _) _) _ _ _); k_dflt (refine' name_K ?k0 ?k1 ?k2 (k_RES _) ?_; (case k0 => k_asm); (case k1 => k_asm); (case k2 => k_asm); k_whole)))
theorem t_is_reserved {w : World} {news : List (Addr × Obj)} {tq : Tok} {q : PySem.Str} (hf : FreeName q) :
    Tell w 1 8 209 [.str q tq] news (fun x news' => x = .bool false ∧ news' = news) := by
  obtain ⟨hlen, hres⟩ := hf
  intro p loose mean mg mb dp un gd cn cs a ccd cl outer A₀ base h₀ L m s Q E B F X N T hk hdp hun ret
  refine wpAny_call ?_
  revert X N; k_fill; intro X N
  k_dflt (refine' code_def (binds := [("word", .str q tq)]) ?k1 ?k2 ?k3 ?k4 ?k5 ?kA ?kF ?kK ?k6 ?k7 ?k8 ?k9 ?kB ?_ ?c2 ?c3 ?c4 ?c5; (case kA => exact rfl); (case kF => exact rfl); (case kK => assumption); (case k1 => k_asm); (case k2 => k_asm); (case k3 => k_asm); (case k4 => k_asm); (case k5 => k_asm); (case k6 => exact k_is_reserved _); (case k7 => k_is); (case k8 => ktr_room); (case k9 => first | exact BindsTo.of_eq rfl | exact binds_KK (by k_in) rfl (by k_is) rfl rfl); (case c5 => decide); (case kB => exact locs rfl); (case c2 => exact rfl); (case c3 => exact rfl); (case c4 => exact rfl); k_whole; intro g' L' h' FG' F' N' B' X' T'; (try dsimp only); (try k_fold))
  walk_at "kF"
  all_goals (refine ret _ _ _ _ ⟨?_, rfl⟩ (by k_asm) (by first | k_asm | exact cb_drop (by assumption) (by (intro p9 hp9; (repeat (first | exact hp9 | refine List.mem_cons_of_mem _ ?_))))); rw [hres]; rfl)
end
section
set_option maxRecDepth 100000
set_option maxHeartbeats 4000000
set_option rowWalk.seconds 0
theorem t_is_name {w : World} {news : List (Addr × Obj)} {r rd tl : Addr} {o : Int → Tok → Obj} {z : Int} {tk : Tok} {vs : List Value} {wo : PySem.Str}
    (R : RdAt w.params news r rd tl o z tk vs) (ht : TokZ w.params news vs z "word" wo) (hf : FreeName wo) :
    Tell w 3 24 304 [.ref r] news (fun x news' => x = .bool true ∧ news' = news) := by
  have R' := R
  obtain ⟨hr, hd, ⟨rc, rfl⟩, ⟨n, hl⟩, few⟩ := R
  have ht' := ht
  obtain ⟨h0, t, d, t1', t2', t3', t4', u1, u2, pl, hv, hti, htd⟩ := ht
  have hz0 : TokZ w.params news vs (z + 0) "word" wo := by simpa using ht'
  have h00 : 0 ≤ z + 0 := by omega
  have hv0 : vs[(z + 0).toNat]? = some (.ref t) := by simpa using hv
  intro p loose mean mg mb dp un gd cn cs a ccd cl outer A₀ base h₀ L m s Q E B F X N T hk hdp hun ret
  refine wpAny_call ?_
  revert X N; k_fill; intro X N
  k_dflt (refine' code_def (binds := [("self", .ref r), ("ahead", .int 0 572)]) ?k1 ?k2 ?k3 ?k4 ?k5 ?kA ?kF ?kK ?k6 ?k7 ?k8 ?k9 ?kB ?_ ?c2 ?c3 ?c4 ?c5; (case kA => exact rfl); (case kF => exact rfl); (case kK => assumption); (case k1 => k_asm); (case k2 => k_asm); (case k3 => k_asm); (case k4 => k_asm); (case k5 => k_asm); (case k6 => exact k_R_is_name _); (case k7 => k_is); (case k8 => ktr_room); (case k9 => first | exact BindsTo.of_eq rfl | exact binds_KK (by k_in) rfl (by k_is) rfl rfl); (case c5 => decide); (case kB => exact locs rfl); (case c2 => exact rfl); (case c3 => exact rfl); (case c4 => exact rfl); k_whole; intro g' L' h' FG' F' N' B' X' T'; (try dsimp only); (try k_fold))
  (walk_at "kF"; repeat' ((first | (refine' Tell.use (t_is_reserved ?hf) ?k1 ?k2 ?k3 ?k4 ?k5 ?kK ?kd ?ku ?_; (case k1 | k2 | k3 | k4 | k5 => k_asm); (case hf => assumption); (case kK => first | exact rfl | assumption); (case kd => ktr_room); (case ku => ktr_units); k_whole; intro r9 n9 h9 tk9 e9 F9 N9; (obtain ⟨e8, e7⟩ := e9); (subst e8); (subst e7); walk_at "mE") | (refine' Tell.use (t_is_kind (o := _) ?R ?ht ?hb) ?k1 ?k2 ?k3 ?k4 ?k5 ?kK ?kd ?ku ?_; (case k1 | k2 | k3 | k4 | k5 => k_asm); (case R => walk_at "mR"); (case ht => walk_at "mT"); (case hb => first | rfl | assumption | decide +kernel); (case kK => first | exact rfl | assumption); (case kd => ktr_room); (case ku => ktr_units); k_whole; intro r9 n9 h9 tk9 e9 F9 N9; (obtain ⟨e8, e7⟩ := e9); (subst e8); (subst e7); walk_at "mE") | (refine' Tell.use (t_peek (o := _) ?R ?h0 ?hv) ?k1 ?k2 ?k3 ?k4 ?k5 ?kK ?kd ?ku ?_; (case k1 | k2 | k3 | k4 | k5 => k_asm); (case R => walk_at "mR"); (case h0 => assumption); (case hv => assumption); (case kK => first | exact rfl | assumption); (case kd => ktr_room); (case ku => ktr_units); k_whole; intro r9 n9 h9 tk9 e9 F9 N9; (obtain ⟨e8, e7⟩ := e9); (subst e8); (subst e7); walk_at "mE")); walk_at "kF"))
  all_goals (refine ret _ _ _ _ ⟨?_, rfl⟩ (by k_asm) (by first | k_asm | exact cb_drop (by assumption) (by (intro p9 hp9; (repeat (first | exact hp9 | refine List.mem_cons_of_mem _ ?_)))))<;> simp_all)
theorem t_name {w : World} {news : List (Addr × Obj)} {news2 : Tok → List (Addr × Obj)} {r rd tl : Addr} {o : Int → Tok → Obj} {z : Int} {tk : Tok} {vs : List Value} {wo : PySem.Str}
    (R : RdAt w.params news r rd tl o z tk vs) (ht : TokZ w.params news vs z "word" wo) (hf : FreeName wo) (U : ∀ t, Upd rd (o z tk) (o (z + 1) t) news (news2 t)) :
    Tell w 4 32 311 [.ref r] news (fun x news' => ∃ u, x = .str wo u ∧ ∃ t, news' = news2 t) := by
  have R' := R
  obtain ⟨hr, hd, ⟨rc, rfl⟩, ⟨n, hl⟩, few⟩ := R
  have ht' := ht
  obtain ⟨h0, t, d, t1', t2', t3', t4', u1, u2, pl, hv, hti, htd⟩ := ht
  intro p loose mean mg mb dp un gd cn cs a ccd cl outer A₀ base h₀ L m s Q E B F X N T hk hdp hun ret
  have hne : t ≠ rd := news_ne N hti hd (by intro e; cases e)
  have hne2 : d ≠ rd := news_ne N htd hd td_ne
  have hti2 := fun t' => upd_keep (U t') hti hne
  have htd2 := fun t' => upd_keep (U t') htd hne2
  refine wpAny_call ?_
  revert X N; k_fill; intro X N
  k_dflt (refine' code_def (binds := [("self", .ref r)]) ?k1 ?k2 ?k3 ?k4 ?k5 ?kA ?kF ?kK ?k6 ?k7 ?k8 ?k9 ?kB ?_ ?c2 ?c3 ?c4 ?c5; (case kA => exact rfl); (case kF => exact rfl); (case kK => assumption); (case k1 => k_asm); (case k2 => k_asm); (case k3 => k_asm); (case k4 => k_asm); (case k5 => k_asm); (case k6 => exact k_R_name _); (case k7 => k_is); (case k8 => ktr_room); (case k9 => first | exact BindsTo.of_eq rfl | exact binds_KK (by k_in) rfl (by k_is) rfl rfl); (case c5 => decide); (case kB => exact locs rfl); (case c2 => exact rfl); (case c3 => exact rfl); (case c4 => exact rfl); k_whole; intro g' L' h' FG' F' N' B' X' T'; (try dsimp only); (try k_fold))
  (walk_at "kF"; repeat' ((first | (refine' Tell.use (t_is_name (o := _) ?R ?ht ?hf) ?k1 ?k2 ?k3 ?k4 ?k5 ?kK ?kd ?ku ?_; (case k1 | k2 | k3 | k4 | k5 => k_asm); (case R => walk_at "mR"); (case ht => walk_at "mT"); (case hf => assumption); (case kK => first | exact rfl | assumption); (case kd => ktr_room); (case ku => ktr_units); k_whole; intro r9 n9 h9 tk9 e9 F9 N9; (obtain ⟨e8, e7⟩ := e9); (subst e8); (subst e7); walk_at "mE") | (refine' Tell.use (t_take (o := _) ?R ?h0 ?hv ?U) ?k1 ?k2 ?k3 ?k4 ?k5 ?kK ?kd ?ku ?_; (case k1 | k2 | k3 | k4 | k5 => k_asm); (case R => walk_at "mR"); (case h0 => assumption); (case hv => assumption); (case U => (intro t9; k_upd)); (case kK => first | exact rfl | assumption); (case kd => ktr_room); (case ku => ktr_units); k_whole; intro r9 n9 h9 tk9 e9 F9 N9; (obtain ⟨e8, t9, e7⟩ := e9); (subst e8); (subst e7); (try dsimp only at N9); walk_at "mE")); walk_at "kF"))
  all_goals (refine ret _ _ _ _ ⟨_, rfl, _, rfl⟩ (by k_asm) (by first | k_asm | exact cb_drop (by assumption) (by (intro p9 hp9; (repeat (first | exact hp9 | refine List.mem_cons_of_mem _ ?_))))))
theorem t_need {w : World} {news : List (Addr × Obj)} {news2 : Tok → List (Addr × Obj)} {r rd tl : Addr} {o : Int → Tok → Obj} {z : Int} {tk tq : Tok} {vs : List Value} {q : PySem.Str}
    (R : RdAt w.params news r rd tl o z tk vs) (ht : TokZ w.params news vs z "word" q) (hq : Txt.split q " " = [q]) (hqs : q.length + 2 ≤ sizeLine) (U : ∀ t, Upd rd (o z tk) (o (z + 1) t) news (news2 t)) :
    Tell w 5 40 282 [.ref r, .str q tq] news (fun x news' => x = .none ∧ ∃ t, news' = news2 t) := by
  have R' := R
  obtain ⟨hr, hd, ⟨rc, rfl⟩, ⟨n, hl⟩, few⟩ := R
  intro p loose mean mg mb dp un gd cn cs a ccd cl outer A₀ base h₀ L m s Q E B F X N T hk hdp hun ret
  refine wpAny_call ?_
  revert X N; k_fill; intro X N
  k_dflt (refine' code_def (binds := [("self", .ref r), ("words", .str q tq)]) ?k1 ?k2 ?k3 ?k4 ?k5 ?kA ?kF ?kK ?k6 ?k7 ?k8 ?k9 ?kB ?_ ?c2 ?c3 ?c4 ?c5; (case kA => exact rfl); (case kF => exact rfl); (case kK => assumption); (case k1 => k_asm); (case k2 => k_asm); (case k3 => k_asm); (case k4 => k_asm); (case k5 => k_asm); (case k6 => exact k_R_need _); (case k7 => k_is); (case k8 => ktr_room); (case k9 => first | exact BindsTo.of_eq rfl | exact binds_KK (by k_in) rfl (by k_is) rfl rfl); (case c5 => decide); (case kB => exact locs rfl); (case c2 => exact rfl); (case c3 => exact rfl); (case c4 => exact rfl); k_whole; intro g' L' h' FG' F' N' B' X' T'; (try dsimp only); (try k_fold))
  (walk_at "kF"; repeat' ((first | (refine' Tell.use (t_skip_yes (o := _) ?R ?ht ?hq ?hqs ?U) ?k1 ?k2 ?k3 ?k4 ?k5 ?kK ?kd ?ku ?_; (case k1 | k2 | k3 | k4 | k5 => k_asm); (case R => walk_at "mR"); (case ht => walk_at "mT"); (case hq => walk_at "mQ"); (case hqs => walk_at "mQ"); (case U => (intro t9; k_upd)); (case kK => first | exact rfl | assumption); (case kd => ktr_room); (case ku => ktr_units); k_whole; intro r9 n9 h9 tk9 e9 F9 N9; (obtain ⟨e8, t9, e7⟩ := e9); (subst e8); (subst e7); (try dsimp only at N9); walk_at "mE")); walk_at "kF"))
  all_goals (refine ret _ _ _ _ ⟨?_, _, rfl⟩ (by k_asm) (by first | k_asm | exact cb_drop (by assumption) (by (intro p9 hp9; (repeat (first | exact hp9 | refine List.mem_cons_of_mem _ ?_)))))<;> simp_all)
end
section
set_option maxRecDepth 100000
set_option maxHeartbeats 4000000
set_option rowWalk.seconds 0
theorem t_is_word2_k {w : World} {news : List (Addr × Obj)} {r rd tl : Addr} {o : Int → Tok → Obj} {z : Int} {tk tq : Tok} {vs : List Value} {kd wo q q1 q2 : PySem.Str}
    (R : RdAt w.params news r rd tl o z tk vs) (ht : TokZ w.params news vs z kd wo) (hq : Txt.split q " " = [q1, q2]) (hqs : q.length + 2 ≤ sizeLine) (hb : (kd == (PySem.Str.ofString "word")) = false) :
    Tell w 3 24 268 [.ref r, .str q tq] news (fun x news' => x = .bool false ∧ news' = news) := by
  have R' := R
  obtain ⟨hr, hd, ⟨rc, rfl⟩, ⟨n, hl⟩, few⟩ := R
  have hz0 : TokZ w.params news vs (z + 0) kd wo := by simpa using ht
  intro p loose mean mg mb dp un gd cn cs a ccd cl outer A₀ base h₀ L m s Q E B F X N T hk hdp hun ret
  refine wpAny_call ?_
  revert X N; k_fill; intro X N
  k_dflt (refine' code_def (binds := [("self", .ref r), ("words", .str q tq)]) ?k1 ?k2 ?k3 ?k4 ?k5 ?kA ?kF ?kK ?k6 ?k7 ?k8 ?k9 ?kB ?_ ?c2 ?c3 ?c4 ?c5; (case kA => exact rfl); (case kF => exact rfl); (case kK => assumption); (case k1 => k_asm); (case k2 => k_asm); (case k3 => k_asm); (case k4 => k_asm); (case k5 => k_asm); (case k6 => exact k_R_is_word _); (case k7 => k_is); (case k8 => ktr_room); (case k9 => first | exact BindsTo.of_eq rfl | exact binds_KK (by k_in) rfl (by k_is) rfl rfl); (case c5 => decide); (case kB => exact locs rfl); (case c2 => exact rfl); (case c3 => exact rfl); (case c4 => exact rfl); k_whole; intro g' L' h' FG' F' N' B' X' T'; (try dsimp only); (try k_fold))
  (walk_at "kF"; repeat' ((first | (refine' Tell.use (t_is_kind (o := _) ?R ?ht ?hb) ?k1 ?k2 ?k3 ?k4 ?k5 ?kK ?kd ?ku ?_; (case k1 | k2 | k3 | k4 | k5 => k_asm); (case R => walk_at "mR"); (case ht => walk_at "mT"); (case hb => first | rfl | assumption | decide +kernel); (case kK => first | exact rfl | assumption); (case kd => ktr_room); (case ku => ktr_units); k_whole; intro r9 n9 h9 tk9 e9 F9 N9; (obtain ⟨e8, e7⟩ := e9); (subst e8); (subst e7); walk_at "mE")); walk_at "kF"))
  all_goals (refine ret _ _ _ _ ⟨?_, rfl⟩ (by k_asm) (by first | k_asm | exact cb_drop (by assumption) (by (intro p9 hp9; (repeat (first | exact hp9 | refine List.mem_cons_of_mem _ ?_)))))<;> simp_all)
theorem t_is_word2_w {w : World} {news : List (Addr × Obj)} {r rd tl : Addr} {o : Int → Tok → Obj} {z : Int} {tk tq : Tok} {vs : List Value} {wo q q1 q2 : PySem.Str}
    (R : RdAt w.params news r rd tl o z tk vs) (ht : TokZ w.params news vs z "word" wo) (hq : Txt.split q " " = [q1, q2]) (hqs : q.length + 2 ≤ sizeLine) (hb : (wo != q1) = true) :
    Tell w 3 24 268 [.ref r, .str q tq] news (fun x news' => x = .bool false ∧ news' = news) := by
  have R' := R
  obtain ⟨hr, hd, ⟨rc, rfl⟩, ⟨n, hl⟩, few⟩ := R
  have ht' := ht
  obtain ⟨h0, t, d, t1', t2', t3', t4', u1, u2, pl, hv, hti, htd⟩ := ht
  have hz0 : TokZ w.params news vs (z + 0) "word" wo := by simpa using ht'
  have h00 : 0 ≤ z + 0 := by omega
  have hv0 : vs[(z + 0).toNat]? = some (.ref t) := by simpa using hv
  intro p loose mean mg mb dp un gd cn cs a ccd cl outer A₀ base h₀ L m s Q E B F X N T hk hdp hun ret
  refine wpAny_call ?_
  revert X N; k_fill; intro X N
  k_dflt (refine' code_def (binds := [("self", .ref r), ("words", .str q tq)]) ?k1 ?k2 ?k3 ?k4 ?k5 ?kA ?kF ?kK ?k6 ?k7 ?k8 ?k9 ?kB ?_ ?c2 ?c3 ?c4 ?c5; (case kA => exact rfl); (case kF => exact rfl); (case kK => assumption); (case k1 => k_asm); (case k2 => k_asm); (case k3 => k_asm); (case k4 => k_asm); (case k5 => k_asm); (case k6 => exact k_R_is_word _); (case k7 => k_is); (case k8 => ktr_room); (case k9 => first | exact BindsTo.of_eq rfl | exact binds_KK (by k_in) rfl (by k_is) rfl rfl); (case c5 => decide); (case kB => exact locs rfl); (case c2 => exact rfl); (case c3 => exact rfl); (case c4 => exact rfl); k_whole; intro g' L' h' FG' F' N' B' X' T'; (try dsimp only); (try k_fold))
  (walk_at "kF"; repeat' ((first | (refine' Tell.use (t_is_kind (o := _) ?R ?ht ?hb) ?k1 ?k2 ?k3 ?k4 ?k5 ?kK ?kd ?ku ?_; (case k1 | k2 | k3 | k4 | k5 => k_asm); (case R => walk_at "mR"); (case ht => walk_at "mT"); (case hb => first | rfl | assumption | decide +kernel); (case kK => first | exact rfl | assumption); (case kd => ktr_room); (case ku => ktr_units); k_whole; intro r9 n9 h9 tk9 e9 F9 N9; (obtain ⟨e8, e7⟩ := e9); (subst e8); (subst e7); walk_at "mE") | (refine' Tell.use (t_peek (o := _) ?R ?h0 ?hv) ?k1 ?k2 ?k3 ?k4 ?k5 ?kK ?kd ?ku ?_; (case k1 | k2 | k3 | k4 | k5 => k_asm); (case R => walk_at "mR"); (case h0 => assumption); (case hv => assumption); (case kK => first | exact rfl | assumption); (case kd => ktr_room); (case ku => ktr_units); k_whole; intro r9 n9 h9 tk9 e9 F9 N9; (obtain ⟨e8, e7⟩ := e9); (subst e8); (subst e7); walk_at "mE")); walk_at "kF"))
  all_goals (refine ret _ _ _ _ ⟨?_, rfl⟩ (by k_asm) (by first | k_asm | exact cb_drop (by assumption) (by (intro p9 hp9; (repeat (first | exact hp9 | refine List.mem_cons_of_mem _ ?_)))))<;> simp_all)
theorem t_is_word2_y {w : World} {news : List (Addr × Obj)} {r rd tl : Addr} {o : Int → Tok → Obj} {z : Int} {tk tq : Tok} {vs : List Value} {q q1 q2 : PySem.Str}
    (R : RdAt w.params news r rd tl o z tk vs) (ht : TokZ w.params news vs z "word" q1) (ht2 : TokZ w.params news vs (z + 1) "word" q2) (hq : Txt.split q " " = [q1, q2]) (hqs : q.length + 2 ≤ sizeLine) :
    Tell w 3 24 268 [.ref r, .str q tq] news (fun x news' => x = .bool true ∧ news' = news) := by
  have R' := R
  obtain ⟨hr, hd, ⟨rc, rfl⟩, ⟨n, hl⟩, few⟩ := R
  have ht' := ht
  have ht2' := ht2
  obtain ⟨h0, t, d, t1', t2', t3', t4', u1, u2, pl, hv, hti, htd⟩ := ht
  obtain ⟨h0', tt, dd, t1'', t2'', t3'', t4'', u1', u2', pl', hv', hti', htd'⟩ := ht2
  have hz0 : TokZ w.params news vs (z + 0) "word" q1 := by simpa using ht'
  have hz1 : TokZ w.params news vs (z + (0 + 1)) "word" q2 := by simpa using ht2'
  have h00 : 0 ≤ z + 0 := by omega
  have hv0 : vs[(z + 0).toNat]? = some (.ref t) := by simpa using hv
  have h01 : 0 ≤ z + (0 + 1) := by omega
  have hv1 : vs[(z + (0 + 1)).toNat]? = some (.ref tt) := by simpa using hv'
  have hb1 : (q1 != q1) = false := by simp
  have hb2 : (q2 != q2) = false := by simp
  intro p loose mean mg mb dp un gd cn cs a ccd cl outer A₀ base h₀ L m s Q E B F X N T hk hdp hun ret
  refine wpAny_call ?_
  revert X N; k_fill; intro X N
  k_dflt (refine' code_def (binds := [("self", .ref r), ("words", .str q tq)]) ?k1 ?k2 ?k3 ?k4 ?k5 ?kA ?kF ?kK ?k6 ?k7 ?k8 ?k9 ?kB ?_ ?c2 ?c3 ?c4 ?c5; (case kA => exact rfl); (case kF => exact rfl); (case kK => assumption); (case k1 => k_asm); (case k2 => k_asm); (case k3 => k_asm); (case k4 => k_asm); (case k5 => k_asm); (case k6 => exact k_R_is_word _); (case k7 => k_is); (case k8 => ktr_room); (case k9 => first | exact BindsTo.of_eq rfl | exact binds_KK (by k_in) rfl (by k_is) rfl rfl); (case c5 => decide); (case kB => exact locs rfl); (case c2 => exact rfl); (case c3 => exact rfl); (case c4 => exact rfl); k_whole; intro g' L' h' FG' F' N' B' X' T'; (try dsimp only); (try k_fold))
  (walk_at "kF"; repeat' ((first | (refine' Tell.use (t_is_kind (o := _) ?R ?ht ?hb) ?k1 ?k2 ?k3 ?k4 ?k5 ?kK ?kd ?ku ?_; (case k1 | k2 | k3 | k4 | k5 => k_asm); (case R => walk_at "mR"); (case ht => walk_at "mT"); (case hb => first | rfl | assumption | decide +kernel); (case kK => first | exact rfl | assumption); (case kd => ktr_room); (case ku => ktr_units); k_whole; intro r9 n9 h9 tk9 e9 F9 N9; (obtain ⟨e8, e7⟩ := e9); (subst e8); (subst e7); walk_at "mE") | (refine' Tell.use (t_peek (o := _) ?R ?h0 ?hv) ?k1 ?k2 ?k3 ?k4 ?k5 ?kK ?kd ?ku ?_; (case k1 | k2 | k3 | k4 | k5 => k_asm); (case R => walk_at "mR"); (case h0 => assumption); (case hv => assumption); (case kK => first | exact rfl | assumption); (case kd => ktr_room); (case ku => ktr_units); k_whole; intro r9 n9 h9 tk9 e9 F9 N9; (obtain ⟨e8, e7⟩ := e9); (subst e8); (subst e7); walk_at "mE")); walk_at "kF"))
  all_goals (refine ret _ _ _ _ ⟨?_, rfl⟩ (by k_asm) (by first | k_asm | exact cb_drop (by assumption) (by (intro p9 hp9; (repeat (first | exact hp9 | refine List.mem_cons_of_mem _ ?_)))))<;> simp_all)
theorem t_is_word2_no {w : World} {news : List (Addr × Obj)} {r rd tl : Addr} {o : Int → Tok → Obj} {z : Int} {tk tq : Tok} {vs : List Value} {kd wo q q1 q2 : PySem.Str}
    (R : RdAt w.params news r rd tl o z tk vs) (ht : TokZ w.params news vs z kd wo) (hq : Txt.split q " " = [q1, q2]) (hqs : q.length + 2 ≤ sizeLine) (hb : (kd == "word" && wo == q1) = false) :
    Tell w 3 24 268 [.ref r, .str q tq] news (fun x news' => x = .bool false ∧ news' = news) := by
  cases hk : (kd == (PySem.Str.ofString "word")) with
  | false => intro p loose mean mg mb; exact t_is_word2_k R ht hq hqs hk
  | true =>
    have e : kd = "word" := by simpa using hk
    subst e
    have hw : (wo != q1) = true := by simpa using hb
    intro p loose mean mg mb
    exact t_is_word2_w R ht hq hqs hw
theorem t_skip2_no {w : World} {news : List (Addr × Obj)} {r rd tl : Addr} {o : Int → Tok → Obj} {z : Int} {tk tq : Tok} {vs : List Value} {kd wo q q1 q2 : PySem.Str}
    (R : RdAt w.params news r rd tl o z tk vs) (ht : TokZ w.params news vs z kd wo) (hq : Txt.split q " " = [q1, q2]) (hqs : q.length + 2 ≤ sizeLine) (hb : (kd == "word" && wo == q1) = false) :
    Tell w 4 32 275 [.ref r, .str q tq] news (fun x news' => x = .bool false ∧ news' = news) := by
  have R' := R
  obtain ⟨hr, hd, ⟨rc, rfl⟩, ⟨n, hl⟩, few⟩ := R
  intro p loose mean mg mb dp un gd cn cs a ccd cl outer A₀ base h₀ L m s Q E B F X N T hk hdp hun ret
  refine wpAny_call ?_
  revert X N; k_fill; intro X N
  k_dflt (refine' code_def (binds := [("self", .ref r), ("words", .str q tq)]) ?k1 ?k2 ?k3 ?k4 ?k5 ?kA ?kF ?kK ?k6 ?k7 ?k8 ?k9 ?kB ?_ ?c2 ?c3 ?c4 ?c5; (case kA => exact rfl); (case kF => exact rfl); (case kK => assumption); (case k1 => k_asm); (case k2 => k_asm); (case k3 => k_asm); (case k4 => k_asm); (case k5 => k_asm); (case k6 => exact k_R_skip _); (case k7 => k_is); (case k8 => ktr_room); (case k9 => first | exact BindsTo.of_eq rfl | exact binds_KK (by k_in) rfl (by k_is) rfl rfl); (case c5 => decide); (case kB => exact locs rfl); (case c2 => exact rfl); (case c3 => exact rfl); (case c4 => exact rfl); k_whole; intro g' L' h' FG' F' N' B' X' T'; (try dsimp only); (try k_fold))
  (walk_at "kF"; repeat' ((first | (refine' Tell.use (t_is_word2_no (o := _) ?R ?ht ?hq ?hqs ?hb) ?k1 ?k2 ?k3 ?k4 ?k5 ?kK ?kd ?ku ?_; (case k1 | k2 | k3 | k4 | k5 => k_asm); (case R => walk_at "mR"); (case ht => walk_at "mT"); (case hq => walk_at "mQ"); (case hqs => walk_at "mQ"); (case hb => first | rfl | assumption | decide +kernel); (case kK => first | exact rfl | assumption); (case kd => ktr_room); (case ku => ktr_units); k_whole; intro r9 n9 h9 tk9 e9 F9 N9; (obtain ⟨e8, e7⟩ := e9); (subst e8); (subst e7); walk_at "mE")); walk_at "kF"))
  all_goals (refine ret _ _ _ _ ⟨?_, rfl⟩ (by k_asm) (by first | k_asm | exact cb_drop (by assumption) (by (intro p9 hp9; (repeat (first | exact hp9 | refine List.mem_cons_of_mem _ ?_)))))<;> simp_all)
theorem t_skip2_yes {w : World} {news : List (Addr × Obj)} {news2 : Tok → List (Addr × Obj)} {r rd tl : Addr} {o : Int → Tok → Obj} {z : Int} {tk tq : Tok} {vs : List Value} {q q1 q2 : PySem.Str}
    (R : RdAt w.params news r rd tl o z tk vs) (ht : TokZ w.params news vs z "word" q1) (ht2 : TokZ w.params news vs (z + 1) "word" q2) (hq : Txt.split q " " = [q1, q2]) (hqs : q.length + 2 ≤ sizeLine) (U : ∀ t, Upd rd (o z tk) (o (z + 2) t) news (news2 t)) :
    Tell w 4 32 275 [.ref r, .str q tq] news (fun x news' => x = .bool true ∧ ∃ t, news' = news2 t) := by
  have R' := R
  obtain ⟨hr, hd, ⟨rc, rfl⟩, ⟨n, hl⟩, few⟩ := R
  intro p loose mean mg mb dp un gd cn cs a ccd cl outer A₀ base h₀ L m s Q E B F X N T hk hdp hun ret
  refine wpAny_call ?_
  revert X N; k_fill; intro X N
  k_dflt (refine' code_def (binds := [("self", .ref r), ("words", .str q tq)]) ?k1 ?k2 ?k3 ?k4 ?k5 ?kA ?kF ?kK ?k6 ?k7 ?k8 ?k9 ?kB ?_ ?c2 ?c3 ?c4 ?c5; (case kA => exact rfl); (case kF => exact rfl); (case kK => assumption); (case k1 => k_asm); (case k2 => k_asm); (case k3 => k_asm); (case k4 => k_asm); (case k5 => k_asm); (case k6 => exact k_R_skip _); (case k7 => k_is); (case k8 => ktr_room); (case k9 => first | exact BindsTo.of_eq rfl | exact binds_KK (by k_in) rfl (by k_is) rfl rfl); (case c5 => decide); (case kB => exact locs rfl); (case c2 => exact rfl); (case c3 => exact rfl); (case c4 => exact rfl); k_whole; intro g' L' h' FG' F' N' B' X' T'; (try dsimp only); (try k_fold))
  (walk_at "kF"; repeat' ((first | (refine' Tell.use (t_is_word2_y (o := _) ?R ?ht ?ht2 ?hq ?hqs) ?k1 ?k2 ?k3 ?k4 ?k5 ?kK ?kd ?ku ?_; (case k1 | k2 | k3 | k4 | k5 => k_asm); (case R => walk_at "mR"); (case ht => walk_at "mT"); (case ht2 => walk_at "mT"); (case hq => walk_at "mQ"); (case hqs => walk_at "mQ"); (case kK => first | exact rfl | assumption); (case kd => ktr_room); (case ku => ktr_units); k_whole; intro r9 n9 h9 tk9 e9 F9 N9; (obtain ⟨e8, e7⟩ := e9); (subst e8); (subst e7); walk_at "mE")); walk_at "kF"))
  all_goals (refine ret _ _ _ _ ⟨?_, _, rfl⟩ (by k_asm) (by first | k_asm | exact cb_drop (by assumption) (by (intro p9 hp9; (repeat (first | exact hp9 | refine List.mem_cons_of_mem _ ?_)))))<;> simp_all)
end
section
set_option maxRecDepth 100000
set_option maxHeartbeats 4000000
set_option rowWalk.seconds 0
theorem split_WD : Txt.split (PySem.Str.ofString "WITH DUPLICATES") (PySem.Str.ofString " ") = [(PySem.Str.ofString "WITH"), (PySem.Str.ofString "DUPLICATES")] := by decide +kernel
theorem split_FS : Txt.split (PySem.Str.ofString "FILE STATUS") (PySem.Str.ofString " ") = [(PySem.Str.ofString "FILE"), (PySem.Str.ofString "STATUS")] := by decide +kernel
structure SC where
  a0 : Tok
  a1 : Tok
  a2 : Tok
  a3 : Tok
  a4 : Tok
  a5 : Tok
  a6 : Tok
  a7 : Tok
  a8 : Tok
  a9 : Tok
/-- the dict of a FileSpec -/
noncomputable abbrev SD (P : Params) (aa : SC) (v0 v1 v2 v3 v4 v5 v6 v7 v8 v9 : Value) : Obj :=
  dictOf [⟨PyData.keyHash P "name", .str "name" aa.a0, v0⟩, ⟨PyData.keyHash P "path", .str "path" aa.a1, v1⟩, ⟨PyData.keyHash P "organization", .str "organization" aa.a2, v2⟩, ⟨PyData.keyHash P "access", .str "access" aa.a3, v3⟩, ⟨PyData.keyHash P "key", .str "key" aa.a4, v4⟩,
    ⟨PyData.keyHash P "alternates", .str "alternates" aa.a5, v5⟩, ⟨PyData.keyHash P "relative_key", .str "relative_key" aa.a6, v6⟩, ⟨PyData.keyHash P "status", .str "status" aa.a7, v7⟩, ⟨PyData.keyHash P "is_sort", .str "is_sort" aa.a8, v8⟩, ⟨PyData.keyHash P "records", .str "records" aa.a9, v9⟩] 10
/-- a reader and a spec over a ledger O that they do not touch -/
structure Both (P : Params) (O : List (Addr × Obj)) (r rd tl sp sd : Addr) (o : Int → Tok → Obj) (vs : List Value) : Prop where
  base : RdBase P O r rd tl o vs
  spec : (sp, instObj 144 sd) ∈ O
  offR : ∀ p ∈ O, p.1 ≠ rd
  offS : ∀ p ∈ O, p.1 ≠ sd
  ne : sd ≠ rd
theorem t_read_assign {w : World} {O : List (Addr × Obj)} {r rd tl sp sd : Addr} {o : Int → Tok → Obj} {z : Int} {tk : Tok} {vs : List Value} {aa : SC} {v0 v1 v2 v3 v4 v5 v6 v7 v8 v9 : Value} {path kd wo : PySem.Str}
    (B0 : Both w.params O r rd tl sp sd o vs) (h1 : TokZ w.params O vs z "word" "TO") (h2 : TokZ w.params O vs (z + 1) "literal" path) (h3 : TokZ w.params O vs (z + 1 + 1) kd wo) (h4 : (kd == (PySem.Str.ofString "literal")) = false) :
    Tell w 5 40 162 [.ref r, .ref sp] ((rd, o z tk) :: (sd, SD w.params aa v0 v1 v2 v3 v4 v5 v6 v7 v8 v9) :: O)
      (fun x news' => x = .none ∧ ∃ t u, news' = (rd, o (z + 1 + 1) t) :: (sd, SD w.params aa v0 (.str path u) v2 v3 v4 v5 v6 v7 v8 v9) :: O) := by
  obtain ⟨hbase, hsp, hoR, hoS, hne⟩ := B0
  have hinst := hbase.inst
  have hne' := hne.symm
  obtain ⟨rc, rfl⟩ := hbase.form
  intro p loose mean mg mb dp un gd cn cs a ccd cl outer A₀ base h₀ L m s Q E B F X N T hk hdp hun ret
  refine wpAny_call ?_
  revert X N; k_fill; intro X N
  k_dflt (refine' code_def (binds := [("reader", .ref r), ("spec", .ref sp)]) ?k1 ?k2 ?k3 ?k4 ?k5 ?kA ?kF ?kK ?k6 ?k7 ?k8 ?k9 ?kB ?_ ?c2 ?c3 ?c4 ?c5; (case kA => exact rfl); (case kF => exact rfl); (case kK => assumption); (case k1 => k_asm); (case k2 => k_asm); (case k3 => k_asm); (case k4 => k_asm); (case k5 => k_asm); (case k6 => exact k_read_assign _); (case k7 => k_is); (case k8 => ktr_room); (case k9 => first | exact BindsTo.of_eq rfl | exact binds_KK (by k_in) rfl (by k_is) rfl rfl); (case c5 => decide); (case kB => exact locs rfl); (case c2 => exact rfl); (case c3 => exact rfl); (case c4 => exact rfl); k_whole; intro g' L' h' FG' F' N' B' X' T'; (try dsimp only); (try k_fold))
  (walk_at "kF"; repeat' ((first | (refine' Tell.use (t_skip_yes (o := _) ?R ?ht ?hq ?hqs ?U) ?k1 ?k2 ?k3 ?k4 ?k5 ?kK ?kd ?ku ?_; (case k1 | k2 | k3 | k4 | k5 => k_asm); (case R => walk_at "mR"); (case ht => walk_at "mT"); (case hq => first | exact split_WD | exact split_FS | walk_at "mQ"); (case hqs => walk_at "mQ"); (case U => (intro t9; k_upd)); (case kK => first | exact rfl | assumption); (case kd => ktr_room); (case ku => ktr_units); k_whole; intro r9 n9 h9 tk9 e9 F9 N9; (obtain ⟨e8, t9, e7⟩ := e9); (subst e8); (subst e7); (try dsimp only at N9); walk_at "mE") | (refine' Tell.use (t_literal (o := _) ?R ?ht ?U) ?k1 ?k2 ?k3 ?k4 ?k5 ?kK ?kd ?ku ?_; (case k1 | k2 | k3 | k4 | k5 => k_asm); (case R => walk_at "mR"); (case ht => walk_at "mT"); (case U => (intro t9; k_upd)); (case kK => first | exact rfl | assumption); (case kd => ktr_room); (case ku => ktr_units); k_whole; intro r9 n9 h9 tk9 e9 F9 N9; (obtain ⟨u9, e8, t9, e7⟩ := e9); (subst e8); (subst e7); (try dsimp only at N9); walk_at "mE") | (refine' Tell.use (t_is_kind0 (o := _) ?R ?ht ?hb) ?k1 ?k2 ?k3 ?k4 ?k5 ?kK ?kd ?ku ?_; (case k1 | k2 | k3 | k4 | k5 => k_asm); (case R => walk_at "mR"); (case ht => walk_at "mT"); (case hb => first | rfl | assumption | decide +kernel); (case kK => first | exact rfl | assumption); (case kd => ktr_room); (case ku => ktr_units); k_whole; intro r9 n9 h9 tk9 e9 F9 N9; (obtain ⟨e8, e7⟩ := e9); (subst e8); (subst e7); walk_at "mE")); walk_at "kF"))
  all_goals (refine ret _ _ _ _ ⟨rfl, _, _, rfl⟩ (by k_asm) (by k_asm))
theorem t_read_record_key {w : World} {O : List (Addr × Obj)} {r rd tl sp sd : Addr} {o : Int → Tok → Obj} {z : Int} {tk : Tok} {vs : List Value} {aa : SC} {v0 v1 v2 v3 v4 v5 v6 v7 v8 v9 : Value} {key : PySem.Str}
    (B0 : Both w.params O r rd tl sp sd o vs) (h1 : TokZ w.params O vs z "word" "KEY") (h2 : TokZ w.params O vs (z + 1) "word" "IS") (h3 : TokZ w.params O vs (z + 1 + 1) "word" key) (hf : FreeName key) :
    Tell w 5 40 169 [.ref r, .ref sp] ((rd, o z tk) :: (sd, SD w.params aa v0 v1 v2 v3 v4 v5 v6 v7 v8 v9) :: O)
      (fun x news' => x = .none ∧ ∃ t u, news' = (rd, o (z + 1 + 1 + 1) t) :: (sd, SD w.params aa v0 v1 v2 v3 (.str key u) v5 v6 v7 v8 v9) :: O) := by
  obtain ⟨hbase, hsp, hoR, hoS, hne⟩ := B0
  have hinst := hbase.inst
  have hne' := hne.symm
  obtain ⟨rc, rfl⟩ := hbase.form
  intro p loose mean mg mb dp un gd cn cs a ccd cl outer A₀ base h₀ L m s Q E B F X N T hk hdp hun ret
  refine wpAny_call ?_
  revert X N; k_fill; intro X N
  k_dflt (refine' code_def (binds := [("reader", .ref r), ("spec", .ref sp)]) ?k1 ?k2 ?k3 ?k4 ?k5 ?kA ?kF ?kK ?k6 ?k7 ?k8 ?k9 ?kB ?_ ?c2 ?c3 ?c4 ?c5; (case kA => exact rfl); (case kF => exact rfl); (case kK => assumption); (case k1 => k_asm); (case k2 => k_asm); (case k3 => k_asm); (case k4 => k_asm); (case k5 => k_asm); (case k6 => exact k_read_record_key _); (case k7 => k_is); (case k8 => ktr_room); (case k9 => first | exact BindsTo.of_eq rfl | exact binds_KK (by k_in) rfl (by k_is) rfl rfl); (case c5 => decide); (case kB => exact locs rfl); (case c2 => exact rfl); (case c3 => exact rfl); (case c4 => exact rfl); k_whole; intro g' L' h' FG' F' N' B' X' T'; (try dsimp only); (try k_fold))
  (walk_at "kF"; repeat' ((first | (refine' Tell.use (t_skip_yes (o := _) ?R ?ht ?hq ?hqs ?U) ?k1 ?k2 ?k3 ?k4 ?k5 ?kK ?kd ?ku ?_; (case k1 | k2 | k3 | k4 | k5 => k_asm); (case R => walk_at "mR"); (case ht => walk_at "mT"); (case hq => first | exact split_WD | exact split_FS | walk_at "mQ"); (case hqs => walk_at "mQ"); (case U => (intro t9; k_upd)); (case kK => first | exact rfl | assumption); (case kd => ktr_room); (case ku => ktr_units); k_whole; intro r9 n9 h9 tk9 e9 F9 N9; (obtain ⟨e8, t9, e7⟩ := e9); (subst e8); (subst e7); (try dsimp only at N9); walk_at "mE") | (refine' Tell.use (t_name (o := _) ?R ?ht ?hf ?U) ?k1 ?k2 ?k3 ?k4 ?k5 ?kK ?kd ?ku ?_; (case k1 | k2 | k3 | k4 | k5 => k_asm); (case R => walk_at "mR"); (case ht => walk_at "mT"); (case hf => assumption); (case U => (intro t9; k_upd)); (case kK => first | exact rfl | assumption); (case kd => ktr_room); (case ku => ktr_units); k_whole; intro r9 n9 h9 tk9 e9 F9 N9; (obtain ⟨u9, e8, t9, e7⟩ := e9); (subst e8); (subst e7); (try dsimp only at N9); walk_at "mE")); walk_at "kF"))
  all_goals (refine ret _ _ _ _ ⟨rfl, _, _, rfl⟩ (by k_asm) (by k_asm))
theorem t_read_relative {w : World} {O : List (Addr × Obj)} {r rd tl sp sd : Addr} {o : Int → Tok → Obj} {z : Int} {tk : Tok} {vs : List Value} {aa : SC} {v0 v1 v2 v3 v4 v5 v6 v7 v8 v9 : Value} {key : PySem.Str}
    (B0 : Both w.params O r rd tl sp sd o vs) (h1 : TokZ w.params O vs z "word" "KEY") (h2 : TokZ w.params O vs (z + 1) "word" "IS") (h3 : TokZ w.params O vs (z + 1 + 1) "word" key) (hf : FreeName key) :
    Tell w 5 40 181 [.ref r, .ref sp] ((rd, o z tk) :: (sd, SD w.params aa v0 v1 v2 v3 v4 v5 v6 v7 v8 v9) :: O)
      (fun x news' => ∃ u9, x = .str "RELATIVE KEY" u9 ∧ ∃ t u, news' = (rd, o (z + 1 + 1 + 1) t) :: (sd, SD w.params aa v0 v1 v2 v3 v4 v5 (.str key u) v7 v8 v9) :: O) := by
  obtain ⟨hbase, hsp, hoR, hoS, hne⟩ := B0
  have hinst := hbase.inst
  have hne' := hne.symm
  obtain ⟨rc, rfl⟩ := hbase.form
  intro p loose mean mg mb dp un gd cn cs a ccd cl outer A₀ base h₀ L m s Q E B F X N T hk hdp hun ret
  refine wpAny_call ?_
  revert X N; k_fill; intro X N
  k_dflt (refine' code_def (binds := [("reader", .ref r), ("spec", .ref sp)]) ?k1 ?k2 ?k3 ?k4 ?k5 ?kA ?kF ?kK ?k6 ?k7 ?k8 ?k9 ?kB ?_ ?c2 ?c3 ?c4 ?c5; (case kA => exact rfl); (case kF => exact rfl); (case kK => assumption); (case k1 => k_asm); (case k2 => k_asm); (case k3 => k_asm); (case k4 => k_asm); (case k5 => k_asm); (case k6 => exact k_read_relative _); (case k7 => k_is); (case k8 => ktr_room); (case k9 => first | exact BindsTo.of_eq rfl | exact binds_KK (by k_in) rfl (by k_is) rfl rfl); (case c5 => decide); (case kB => exact locs rfl); (case c2 => exact rfl); (case c3 => exact rfl); (case c4 => exact rfl); k_whole; intro g' L' h' FG' F' N' B' X' T'; (try dsimp only); (try k_fold))
  (walk_at "kF"; repeat' ((first | (refine' Tell.use (t_skip_yes (o := _) ?R ?ht ?hq ?hqs ?U) ?k1 ?k2 ?k3 ?k4 ?k5 ?kK ?kd ?ku ?_; (case k1 | k2 | k3 | k4 | k5 => k_asm); (case R => walk_at "mR"); (case ht => walk_at "mT"); (case hq => first | exact split_WD | exact split_FS | walk_at "mQ"); (case hqs => walk_at "mQ"); (case U => (intro t9; k_upd)); (case kK => first | exact rfl | assumption); (case kd => ktr_room); (case ku => ktr_units); k_whole; intro r9 n9 h9 tk9 e9 F9 N9; (obtain ⟨e8, t9, e7⟩ := e9); (subst e8); (subst e7); (try dsimp only at N9); walk_at "mE") | (refine' Tell.use (t_name (o := _) ?R ?ht ?hf ?U) ?k1 ?k2 ?k3 ?k4 ?k5 ?kK ?kd ?ku ?_; (case k1 | k2 | k3 | k4 | k5 => k_asm); (case R => walk_at "mR"); (case ht => walk_at "mT"); (case hf => assumption); (case U => (intro t9; k_upd)); (case kK => first | exact rfl | assumption); (case kd => ktr_room); (case ku => ktr_units); k_whole; intro r9 n9 h9 tk9 e9 F9 N9; (obtain ⟨u9, e8, t9, e7⟩ := e9); (subst e8); (subst e7); (try dsimp only at N9); walk_at "mE")); walk_at "kF"))
  all_goals (refine ret _ _ _ _ ⟨_, rfl, _, _, rfl⟩ (by k_asm) (by k_asm))
theorem t_one_word_119_SEQUENTIAL {w : World} {O : List (Addr × Obj)} {r rd tl : Addr} {o : Int → Tok → Obj} {z : Int} {tk : Tok} {vs : List Value} {x0 : Addr × Obj}
    (B0 : RdBase w.params O r rd tl o vs) (hoR : ∀ p ∈ O, p.1 ≠ rd) (hx0 : x0.1 ≠ rd) (h1 : TokZ w.params O vs z "word" "SEQUENTIAL") :
    Tell w 5 40 155 [.ref r, .ref 119] ((rd, o z tk) :: x0 :: O)
      (fun x news' => ∃ u9, x = .str "sequential" u9 ∧ ∃ t, news' = (rd, o (z + 1) t) :: x0 :: O) := by
  have hinst := B0.inst
  obtain ⟨rc, rfl⟩ := B0.form
  intro p loose mean mg mb dp un gd cn cs a ccd cl outer A₀ base h₀ L m s Q E B F X N T hk hdp hun ret
  refine wpAny_call ?_
  revert X N; k_fill; intro X N
  k_dflt (refine' code_def (binds := [("reader", .ref r), ("words", .ref 119)]) ?k1 ?k2 ?k3 ?k4 ?k5 ?kA ?kF ?kK ?k6 ?k7 ?k8 ?k9 ?kB ?_ ?c2 ?c3 ?c4 ?c5; (case kA => exact rfl); (case kF => exact rfl); (case kK => assumption); (case k1 => k_asm); (case k2 => k_asm); (case k3 => k_asm); (case k4 => k_asm); (case k5 => k_asm); (case k6 => exact k_one_word _); (case k7 => k_is); (case k8 => ktr_room); (case k9 => first | exact BindsTo.of_eq rfl | exact binds_KK (by k_in) rfl (by k_is) rfl rfl); (case c5 => decide); (case kB => exact locs rfl); (case c2 => exact rfl); (case c3 => exact rfl); (case c4 => exact rfl); k_whole; intro g' L' h' FG' F' N' B' X' T'; (try dsimp only); (try k_fold))
  (walk_at "kF"; repeat' ((first | (refine' Tell.use (t_skip_yes (o := _) ?R ?ht ?hq ?hqs ?U) ?k1 ?k2 ?k3 ?k4 ?k5 ?kK ?kd ?ku ?_; (case k1 | k2 | k3 | k4 | k5 => k_asm); (case R => walk_at "mR"); (case ht => walk_at "mT"); (case hq => first | exact split_WD | exact split_FS | walk_at "mQ"); (case hqs => walk_at "mQ"); (case U => (intro t9; k_upd)); (case kK => first | exact rfl | assumption); (case kd => ktr_room); (case ku => ktr_units); k_whole; intro r9 n9 h9 tk9 e9 F9 N9; (obtain ⟨e8, t9, e7⟩ := e9); (subst e8); (subst e7); (try dsimp only at N9); walk_at "mE")); walk_at "kF"))
  all_goals (refine ret _ _ _ _ ⟨_, rfl, _, rfl⟩ (by k_asm) (by first | k_asm | exact cb_drop (by assumption) (by (intro p9 hp9; (repeat (first | exact hp9 | refine List.mem_cons_of_mem _ ?_))))))
theorem t_one_word_119_RELATIVE {w : World} {O : List (Addr × Obj)} {r rd tl : Addr} {o : Int → Tok → Obj} {z : Int} {tk : Tok} {vs : List Value} {x0 : Addr × Obj}
    (B0 : RdBase w.params O r rd tl o vs) (hoR : ∀ p ∈ O, p.1 ≠ rd) (hx0 : x0.1 ≠ rd) (h1 : TokZ w.params O vs z "word" "RELATIVE") :
    Tell w 5 40 155 [.ref r, .ref 119] ((rd, o z tk) :: x0 :: O)
      (fun x news' => ∃ u9, x = .str "relative" u9 ∧ ∃ t, news' = (rd, o (z + 1) t) :: x0 :: O) := by
  have hinst := B0.inst
  obtain ⟨rc, rfl⟩ := B0.form
  intro p loose mean mg mb dp un gd cn cs a ccd cl outer A₀ base h₀ L m s Q E B F X N T hk hdp hun ret
  refine wpAny_call ?_
  revert X N; k_fill; intro X N
  k_dflt (refine' code_def (binds := [("reader", .ref r), ("words", .ref 119)]) ?k1 ?k2 ?k3 ?k4 ?k5 ?kA ?kF ?kK ?k6 ?k7 ?k8 ?k9 ?kB ?_ ?c2 ?c3 ?c4 ?c5; (case kA => exact rfl); (case kF => exact rfl); (case kK => assumption); (case k1 => k_asm); (case k2 => k_asm); (case k3 => k_asm); (case k4 => k_asm); (case k5 => k_asm); (case k6 => exact k_one_word _); (case k7 => k_is); (case k8 => ktr_room); (case k9 => first | exact BindsTo.of_eq rfl | exact binds_KK (by k_in) rfl (by k_is) rfl rfl); (case c5 => decide); (case kB => exact locs rfl); (case c2 => exact rfl); (case c3 => exact rfl); (case c4 => exact rfl); k_whole; intro g' L' h' FG' F' N' B' X' T'; (try dsimp only); (try k_fold))
  (walk_at "kF"; repeat' ((first | (refine' Tell.use (t_skip_yes (o := _) ?R ?ht ?hq ?hqs ?U) ?k1 ?k2 ?k3 ?k4 ?k5 ?kK ?kd ?ku ?_; (case k1 | k2 | k3 | k4 | k5 => k_asm); (case R => walk_at "mR"); (case ht => walk_at "mT"); (case hq => first | exact split_WD | exact split_FS | walk_at "mQ"); (case hqs => walk_at "mQ"); (case U => (intro t9; k_upd)); (case kK => first | exact rfl | assumption); (case kd => ktr_room); (case ku => ktr_units); k_whole; intro r9 n9 h9 tk9 e9 F9 N9; (obtain ⟨e8, t9, e7⟩ := e9); (subst e8); (subst e7); (try dsimp only at N9); walk_at "mE") | (refine' Tell.use (t_skip_no (o := _) ?R ?ht ?hq ?hqs ?hb) ?k1 ?k2 ?k3 ?k4 ?k5 ?kK ?kd ?ku ?_; (case k1 | k2 | k3 | k4 | k5 => k_asm); (case R => walk_at "mR"); (case ht => walk_at "mT"); (case hq => first | exact split_WD | exact split_FS | walk_at "mQ"); (case hqs => walk_at "mQ"); (case hb => first | rfl | assumption | decide +kernel); (case kK => first | exact rfl | assumption); (case kd => ktr_room); (case ku => ktr_units); k_whole; intro r9 n9 h9 tk9 e9 F9 N9; (obtain ⟨e8, e7⟩ := e9); (subst e8); (subst e7); walk_at "mE")); walk_at "kF"))
  all_goals (refine ret _ _ _ _ ⟨_, rfl, _, rfl⟩ (by k_asm) (by first | k_asm | exact cb_drop (by assumption) (by (intro p9 hp9; (repeat (first | exact hp9 | refine List.mem_cons_of_mem _ ?_))))))
theorem t_one_word_119_INDEXED {w : World} {O : List (Addr × Obj)} {r rd tl : Addr} {o : Int → Tok → Obj} {z : Int} {tk : Tok} {vs : List Value} {x0 : Addr × Obj}
    (B0 : RdBase w.params O r rd tl o vs) (hoR : ∀ p ∈ O, p.1 ≠ rd) (hx0 : x0.1 ≠ rd) (h1 : TokZ w.params O vs z "word" "INDEXED") :
    Tell w 5 40 155 [.ref r, .ref 119] ((rd, o z tk) :: x0 :: O)
      (fun x news' => ∃ u9, x = .str "indexed" u9 ∧ ∃ t, news' = (rd, o (z + 1) t) :: x0 :: O) := by
  have hinst := B0.inst
  obtain ⟨rc, rfl⟩ := B0.form
  intro p loose mean mg mb dp un gd cn cs a ccd cl outer A₀ base h₀ L m s Q E B F X N T hk hdp hun ret
  refine wpAny_call ?_
  revert X N; k_fill; intro X N
  k_dflt (refine' code_def (binds := [("reader", .ref r), ("words", .ref 119)]) ?k1 ?k2 ?k3 ?k4 ?k5 ?kA ?kF ?kK ?k6 ?k7 ?k8 ?k9 ?kB ?_ ?c2 ?c3 ?c4 ?c5; (case kA => exact rfl); (case kF => exact rfl); (case kK => assumption); (case k1 => k_asm); (case k2 => k_asm); (case k3 => k_asm); (case k4 => k_asm); (case k5 => k_asm); (case k6 => exact k_one_word _); (case k7 => k_is); (case k8 => ktr_room); (case k9 => first | exact BindsTo.of_eq rfl | exact binds_KK (by k_in) rfl (by k_is) rfl rfl); (case c5 => decide); (case kB => exact locs rfl); (case c2 => exact rfl); (case c3 => exact rfl); (case c4 => exact rfl); k_whole; intro g' L' h' FG' F' N' B' X' T'; (try dsimp only); (try k_fold))
  (walk_at "kF"; repeat' ((first | (refine' Tell.use (t_skip_yes (o := _) ?R ?ht ?hq ?hqs ?U) ?k1 ?k2 ?k3 ?k4 ?k5 ?kK ?kd ?ku ?_; (case k1 | k2 | k3 | k4 | k5 => k_asm); (case R => walk_at "mR"); (case ht => walk_at "mT"); (case hq => first | exact split_WD | exact split_FS | walk_at "mQ"); (case hqs => walk_at "mQ"); (case U => (intro t9; k_upd)); (case kK => first | exact rfl | assumption); (case kd => ktr_room); (case ku => ktr_units); k_whole; intro r9 n9 h9 tk9 e9 F9 N9; (obtain ⟨e8, t9, e7⟩ := e9); (subst e8); (subst e7); (try dsimp only at N9); walk_at "mE") | (refine' Tell.use (t_skip_no (o := _) ?R ?ht ?hq ?hqs ?hb) ?k1 ?k2 ?k3 ?k4 ?k5 ?kK ?kd ?ku ?_; (case k1 | k2 | k3 | k4 | k5 => k_asm); (case R => walk_at "mR"); (case ht => walk_at "mT"); (case hq => first | exact split_WD | exact split_FS | walk_at "mQ"); (case hqs => walk_at "mQ"); (case hb => first | rfl | assumption | decide +kernel); (case kK => first | exact rfl | assumption); (case kd => ktr_room); (case ku => ktr_units); k_whole; intro r9 n9 h9 tk9 e9 F9 N9; (obtain ⟨e8, e7⟩ := e9); (subst e8); (subst e7); walk_at "mE")); walk_at "kF"))
  all_goals (refine ret _ _ _ _ ⟨_, rfl, _, rfl⟩ (by k_asm) (by first | k_asm | exact cb_drop (by assumption) (by (intro p9 hp9; (repeat (first | exact hp9 | refine List.mem_cons_of_mem _ ?_))))))
theorem t_one_word_120_SEQUENTIAL {w : World} {O : List (Addr × Obj)} {r rd tl : Addr} {o : Int → Tok → Obj} {z : Int} {tk : Tok} {vs : List Value} {x0 : Addr × Obj}
    (B0 : RdBase w.params O r rd tl o vs) (hoR : ∀ p ∈ O, p.1 ≠ rd) (hx0 : x0.1 ≠ rd) (h1 : TokZ w.params O vs z "word" "SEQUENTIAL") :
    Tell w 5 40 155 [.ref r, .ref 120] ((rd, o z tk) :: x0 :: O)
      (fun x news' => ∃ u9, x = .str "sequential" u9 ∧ ∃ t, news' = (rd, o (z + 1) t) :: x0 :: O) := by
  have hinst := B0.inst
  obtain ⟨rc, rfl⟩ := B0.form
  intro p loose mean mg mb dp un gd cn cs a ccd cl outer A₀ base h₀ L m s Q E B F X N T hk hdp hun ret
  refine wpAny_call ?_
  revert X N; k_fill; intro X N
  k_dflt (refine' code_def (binds := [("reader", .ref r), ("words", .ref 120)]) ?k1 ?k2 ?k3 ?k4 ?k5 ?kA ?kF ?kK ?k6 ?k7 ?k8 ?k9 ?kB ?_ ?c2 ?c3 ?c4 ?c5; (case kA => exact rfl); (case kF => exact rfl); (case kK => assumption); (case k1 => k_asm); (case k2 => k_asm); (case k3 => k_asm); (case k4 => k_asm); (case k5 => k_asm); (case k6 => exact k_one_word _); (case k7 => k_is); (case k8 => ktr_room); (case k9 => first | exact BindsTo.of_eq rfl | exact binds_KK (by k_in) rfl (by k_is) rfl rfl); (case c5 => decide); (case kB => exact locs rfl); (case c2 => exact rfl); (case c3 => exact rfl); (case c4 => exact rfl); k_whole; intro g' L' h' FG' F' N' B' X' T'; (try dsimp only); (try k_fold))
  (walk_at "kF"; repeat' ((first | (refine' Tell.use (t_skip_yes (o := _) ?R ?ht ?hq ?hqs ?U) ?k1 ?k2 ?k3 ?k4 ?k5 ?kK ?kd ?ku ?_; (case k1 | k2 | k3 | k4 | k5 => k_asm); (case R => walk_at "mR"); (case ht => walk_at "mT"); (case hq => first | exact split_WD | exact split_FS | walk_at "mQ"); (case hqs => walk_at "mQ"); (case U => (intro t9; k_upd)); (case kK => first | exact rfl | assumption); (case kd => ktr_room); (case ku => ktr_units); k_whole; intro r9 n9 h9 tk9 e9 F9 N9; (obtain ⟨e8, t9, e7⟩ := e9); (subst e8); (subst e7); (try dsimp only at N9); walk_at "mE")); walk_at "kF"))
  all_goals (refine ret _ _ _ _ ⟨_, rfl, _, rfl⟩ (by k_asm) (by first | k_asm | exact cb_drop (by assumption) (by (intro p9 hp9; (repeat (first | exact hp9 | refine List.mem_cons_of_mem _ ?_))))))
theorem t_one_word_120_RANDOM {w : World} {O : List (Addr × Obj)} {r rd tl : Addr} {o : Int → Tok → Obj} {z : Int} {tk : Tok} {vs : List Value} {x0 : Addr × Obj}
    (B0 : RdBase w.params O r rd tl o vs) (hoR : ∀ p ∈ O, p.1 ≠ rd) (hx0 : x0.1 ≠ rd) (h1 : TokZ w.params O vs z "word" "RANDOM") :
    Tell w 5 40 155 [.ref r, .ref 120] ((rd, o z tk) :: x0 :: O)
      (fun x news' => ∃ u9, x = .str "random" u9 ∧ ∃ t, news' = (rd, o (z + 1) t) :: x0 :: O) := by
  have hinst := B0.inst
  obtain ⟨rc, rfl⟩ := B0.form
  intro p loose mean mg mb dp un gd cn cs a ccd cl outer A₀ base h₀ L m s Q E B F X N T hk hdp hun ret
  refine wpAny_call ?_
  revert X N; k_fill; intro X N
  k_dflt (refine' code_def (binds := [("reader", .ref r), ("words", .ref 120)]) ?k1 ?k2 ?k3 ?k4 ?k5 ?kA ?kF ?kK ?k6 ?k7 ?k8 ?k9 ?kB ?_ ?c2 ?c3 ?c4 ?c5; (case kA => exact rfl); (case kF => exact rfl); (case kK => assumption); (case k1 => k_asm); (case k2 => k_asm); (case k3 => k_asm); (case k4 => k_asm); (case k5 => k_asm); (case k6 => exact k_one_word _); (case k7 => k_is); (case k8 => ktr_room); (case k9 => first | exact BindsTo.of_eq rfl | exact binds_KK (by k_in) rfl (by k_is) rfl rfl); (case c5 => decide); (case kB => exact locs rfl); (case c2 => exact rfl); (case c3 => exact rfl); (case c4 => exact rfl); k_whole; intro g' L' h' FG' F' N' B' X' T'; (try dsimp only); (try k_fold))
  (walk_at "kF"; repeat' ((first | (refine' Tell.use (t_skip_yes (o := _) ?R ?ht ?hq ?hqs ?U) ?k1 ?k2 ?k3 ?k4 ?k5 ?kK ?kd ?ku ?_; (case k1 | k2 | k3 | k4 | k5 => k_asm); (case R => walk_at "mR"); (case ht => walk_at "mT"); (case hq => first | exact split_WD | exact split_FS | walk_at "mQ"); (case hqs => walk_at "mQ"); (case U => (intro t9; k_upd)); (case kK => first | exact rfl | assumption); (case kd => ktr_room); (case ku => ktr_units); k_whole; intro r9 n9 h9 tk9 e9 F9 N9; (obtain ⟨e8, t9, e7⟩ := e9); (subst e8); (subst e7); (try dsimp only at N9); walk_at "mE") | (refine' Tell.use (t_skip_no (o := _) ?R ?ht ?hq ?hqs ?hb) ?k1 ?k2 ?k3 ?k4 ?k5 ?kK ?kd ?ku ?_; (case k1 | k2 | k3 | k4 | k5 => k_asm); (case R => walk_at "mR"); (case ht => walk_at "mT"); (case hq => first | exact split_WD | exact split_FS | walk_at "mQ"); (case hqs => walk_at "mQ"); (case hb => first | rfl | assumption | decide +kernel); (case kK => first | exact rfl | assumption); (case kd => ktr_room); (case ku => ktr_units); k_whole; intro r9 n9 h9 tk9 e9 F9 N9; (obtain ⟨e8, e7⟩ := e9); (subst e8); (subst e7); walk_at "mE")); walk_at "kF"))
  all_goals (refine ret _ _ _ _ ⟨_, rfl, _, rfl⟩ (by k_asm) (by first | k_asm | exact cb_drop (by assumption) (by (intro p9 hp9; (repeat (first | exact hp9 | refine List.mem_cons_of_mem _ ?_))))))
theorem t_one_word_120_DYNAMIC {w : World} {O : List (Addr × Obj)} {r rd tl : Addr} {o : Int → Tok → Obj} {z : Int} {tk : Tok} {vs : List Value} {x0 : Addr × Obj}
    (B0 : RdBase w.params O r rd tl o vs) (hoR : ∀ p ∈ O, p.1 ≠ rd) (hx0 : x0.1 ≠ rd) (h1 : TokZ w.params O vs z "word" "DYNAMIC") :
    Tell w 5 40 155 [.ref r, .ref 120] ((rd, o z tk) :: x0 :: O)
      (fun x news' => ∃ u9, x = .str "dynamic" u9 ∧ ∃ t, news' = (rd, o (z + 1) t) :: x0 :: O) := by
  have hinst := B0.inst
  obtain ⟨rc, rfl⟩ := B0.form
  intro p loose mean mg mb dp un gd cn cs a ccd cl outer A₀ base h₀ L m s Q E B F X N T hk hdp hun ret
  refine wpAny_call ?_
  revert X N; k_fill; intro X N
  k_dflt (refine' code_def (binds := [("reader", .ref r), ("words", .ref 120)]) ?k1 ?k2 ?k3 ?k4 ?k5 ?kA ?kF ?kK ?k6 ?k7 ?k8 ?k9 ?kB ?_ ?c2 ?c3 ?c4 ?c5; (case kA => exact rfl); (case kF => exact rfl); (case kK => assumption); (case k1 => k_asm); (case k2 => k_asm); (case k3 => k_asm); (case k4 => k_asm); (case k5 => k_asm); (case k6 => exact k_one_word _); (case k7 => k_is); (case k8 => ktr_room); (case k9 => first | exact BindsTo.of_eq rfl | exact binds_KK (by k_in) rfl (by k_is) rfl rfl); (case c5 => decide); (case kB => exact locs rfl); (case c2 => exact rfl); (case c3 => exact rfl); (case c4 => exact rfl); k_whole; intro g' L' h' FG' F' N' B' X' T'; (try dsimp only); (try k_fold))
  (walk_at "kF"; repeat' ((first | (refine' Tell.use (t_skip_yes (o := _) ?R ?ht ?hq ?hqs ?U) ?k1 ?k2 ?k3 ?k4 ?k5 ?kK ?kd ?ku ?_; (case k1 | k2 | k3 | k4 | k5 => k_asm); (case R => walk_at "mR"); (case ht => walk_at "mT"); (case hq => first | exact split_WD | exact split_FS | walk_at "mQ"); (case hqs => walk_at "mQ"); (case U => (intro t9; k_upd)); (case kK => first | exact rfl | assumption); (case kd => ktr_room); (case ku => ktr_units); k_whole; intro r9 n9 h9 tk9 e9 F9 N9; (obtain ⟨e8, t9, e7⟩ := e9); (subst e8); (subst e7); (try dsimp only at N9); walk_at "mE") | (refine' Tell.use (t_skip_no (o := _) ?R ?ht ?hq ?hqs ?hb) ?k1 ?k2 ?k3 ?k4 ?k5 ?kK ?kd ?ku ?_; (case k1 | k2 | k3 | k4 | k5 => k_asm); (case R => walk_at "mR"); (case ht => walk_at "mT"); (case hq => first | exact split_WD | exact split_FS | walk_at "mQ"); (case hqs => walk_at "mQ"); (case hb => first | rfl | assumption | decide +kernel); (case kK => first | exact rfl | assumption); (case kd => ktr_room); (case ku => ktr_units); k_whole; intro r9 n9 h9 tk9 e9 F9 N9; (obtain ⟨e8, e7⟩ := e9); (subst e8); (subst e7); walk_at "mE")); walk_at "kF"))
  all_goals (refine ret _ _ _ _ ⟨_, rfl, _, rfl⟩ (by k_asm) (by first | k_asm | exact cb_drop (by assumption) (by (intro p9 hp9; (repeat (first | exact hp9 | refine List.mem_cons_of_mem _ ?_))))))
end
section
set_option maxRecDepth 100000
set_option maxHeartbeats 4000000
set_option rowWalk.seconds 0
noncomputable abbrev tupO (vs : List Value) : Obj := { cls := .type "tuple", data := .seq vs.toArray 0 }
inductive FSPost (w : World) (O : List (Addr × Obj)) (name : PySem.Str) (tn : Tok) (x : Value) (news' : List (Addr × Obj)) : Prop where
  | mk (sp sd ta tr : Addr) (aa : SC) (u1 u2 u3 u4 u5 u6 : Tok) (e : x = .ref sp)
      (e' : news' = (tr, tupO []) :: (ta, tupO []) :: (sp, instObj 144 sd) :: (sd, SD w.params aa (.str name tn) (.str "" u1) (.str "sequential" u2) (.str "sequential" u3) (.str "" u4) (.ref ta) (.str "" u5) (.str "" u6) (.bool false) (.ref tr)) :: O) (h1 : ∀ p ∈ O, p.1 ≠ sd) (h2 : sp ≠ sd) (h3 : ta ≠ sd) (h4 : tr ≠ sd) : FSPost w O name tn x news'
theorem t_FileSpec {w : World} {O : List (Addr × Obj)} {name : PySem.Str} {tn : Tok} :
    Tell w 5 40 144 [.str name tn] O (FSPost w O name tn) := by
  intro p loose mean mg mb dp un gd cn cs a ccd cl outer A₀ base h₀ L m s Q E B F X N T hk hdp hun ret
  revert X N; k_fill; intro X N
  k_dflt (refine' call_cls ?q1 ?q2 ?q3 ?q4 ?q5 ?q6 ?_; (case q1 => k_asm); (case q2 => k_asm); (case q3 => k_asm); (case q4 => k_is); (case q5 => k_is); (case q6 => k_is); k_whole)
  intro x0 d0 h0' F0 N0 lt1 lt2
  replace lt2 := ltN lt2
  k_dflt (refine' code_def (binds := [("self", .ref x0), ("name", .str name tn)]) ?k1 ?k2 ?k3 ?k4 ?k5 ?kA ?kF ?kK ?k6 ?k7 ?k8 ?k9 ?kB ?_ ?c2 ?c3 ?c4 ?c5; (case kA => exact rfl); (case kF => exact rfl); (case kK => assumption); (case k1 => k_asm); (case k2 => k_asm); (case k3 => k_asm); (case k4 => k_asm); (case k5 => k_asm); (case k6 => exact k_FileSpec_init _); (case k7 => k_is); (case k8 => ktr_room); (case k9 => first | exact BindsTo.of_eq rfl | exact binds_KK (by k_in) rfl (by k_is) rfl rfl); (case c5 => decide); (case kB => exact locs rfl); (case c2 => exact rfl); (case c3 => exact rfl); (case c4 => exact rfl); k_whole; intro g' L' h' FG' F' N' B' X' T'; (try dsimp only); (try k_fold))
  walk_at "kF"
  all_goals (refine ret _ _ _ _ ⟨_, _, _, _, ⟨_, _, _, _, _, _, _, _, _, _⟩, _, _, _, _, _, _, rfl, rfl, fun p hp => Nat.ne_of_lt (lt1 p hp), Nat.ne_of_gt lt2, ?_, ?_⟩ (by k_asm) (by k_asm))
  all_goals (refine neN ?_; omega)
end
section
set_option maxRecDepth 100000
set_option maxHeartbeats 4000000
noncomputable def TupSrc (ax : Addr) (its : Array Value) (news : List (Addr × Obj)) : Prop := ∃ o, (ax, o) ∈ news ∧ o.cls = .type "tuple" ∧ ∃ n, o.data = .seq its n
theorem TupSrc.tup {h₀ h : Heap} {L ax : Addr} {its : Array Value} {news : List (Addr × Obj)} (x : TupSrc ax its news) (N : News h₀ L h news) : h.IsTuple ax its :=
  let ⟨o, hm, r⟩ := x; ⟨o, (N _ hm).1, r⟩
theorem tup_st {h₀ : Heap} {L ax I : Addr} {its : Array Value} : ∀ i (h h' : Heap) (o : Obj) (nw : List (Addr × Obj)), (h.IsTupleIter I ax i ∧ h.IsTuple ax its) → h.get? I = some o → h'.get? I = some o → (∀ b o, h₀.get? b = some o → h'.get? b = some o) → News h₀ L h' nw → TupSrc ax its nw → (h'.IsTupleIter I ax i ∧ h'.IsTuple ax its) :=
  fun i h h' o nw st e e' k N S => ⟨by obtain ⟨o', q, r⟩ := st.1; rw [e] at q; cases q; exact ⟨o, e', r⟩, S.tup N⟩
theorem ListComp_T {prog : Program} {w : World} {A : Around} {E : Value → Shared → Prop} {s : Shared} {h₀ : Heap} {L : Addr} {m : PySem.Str → Option Value} {env : PySem.Env} {elt iter : PySem.Expr} {x : PySem.Str} {px : Pos} {scope : Scope} {cl : List (PySem.Str × Addr)} {pos : Pos} {Q : Value → Shared → Prop} (F₀ : Fr h₀ L s.heap m)
    (hclos : closureFor scope env = pure cl) (hcell : ∀ y ∈ scope.names, y.2 ≠ .cell) (hkind : scope.kind = .function)
    (hnames : ∀ y ∈ scope.names, y.2 = .local → scope.names.lookup y.1 = some .local) (hx : scope.names.lookup x = some .local)
    (h : wpAny (model prog w) A (eval iter env) (fun xv s₁ => ∃ ax its news, xv = .ref ax ∧ A.handled = none ∧ Fr h₀ L s₁.heap m ∧ News h₀ L s₁.heap news ∧ TupSrc ax its news ∧ its.size ≤ sizeLine ∧
      ∀ g, LCg.CompRest prog w A h₀ L m env elt x scope cl { s₁ with heap := g } (TupSrc ax its) (fun i v => its[i]? = some v) (LCg.FinE h₀ L m { s₁ with heap := g } Q) its.size 0 [] news) E s)
    (hs : ∀ x, foldedSetIterable iter env x = pure x := by intro _; rfl) :
    wpAny (model prog w) A (eval (.ListComp elt [⟨.Name x px, iter, [], 0⟩] scope pos) env) Q E s := by
  rw [eval_ListComp]
  refine wpAny_comprehension_free (use := none) rfl hs hclos hkind hnames (wpAny_mono h (fun xv s₁ h₁ => ?_) fun _ _ e => e)
  obtain ⟨ax, its, news, rfl, hh, F, N, S, hsz, R⟩ := h₁
  have hl := S.tup N
  have hlt : ax < s₁.heap.objs.size := by obtain ⟨_, e, _⟩ := hl; exact Heap.lt_size e
  refine wpAny_pyIter_tuple hl ?_
  have up : ∀ b o, s₁.heap.get? b = some o → (s₁.heap.push { cls := .type "tuple_iterator", data := .fields #[.ref ax, .int 0 0] }).get? b = some o := fun b o e => Heap.get?_push_of_some _ e
  refine LCg.block_U (Walks.tuple hh s₁.heap.objs.size ax (Nat.ne_of_lt hlt) its) hsz (fun i h st => by obtain ⟨o, e, _⟩ := st.1; exact ⟨o, e⟩) tup_st hcell hkind hx ⟨⟨_, Heap.get?_push_size _ rfl, rfl, rfl⟩, hl.at fun o e => Heap.get?_push_of_some _ e⟩ (fun b hb => ?_)
    (F.keeps up) (N.grown up) (Nat.ne_of_lt F.ns.lt) (next_is_new F) (fun p hp => Nat.ne_of_lt (Heap.lt_size (N p hp).1)) S (R _) ?_
  · show b < (s₁.heap.push _).objs.size
    rw [Heap.size_push]
    rcases List.mem_cons.mp hb with rfl | hb
    · exact Nat.lt_succ_self _
    · rw [List.mem_singleton.mp hb]; exact Nat.lt_succ_of_lt hlt
  · intro D C h tk m' ys news' F' N' o1 hn hC₀ hD₀ hCL hDL hCD offC fin
    refine ⟨m', hn, fun h'' hs'' => fin D h'' tk (F'.change hs'' hCL hC₀) (fun p hp => ?_) o1⟩
    refine ⟨hs''.extBut _ _ ?_ (N' p hp).1, (N' p hp).2⟩
    rcases List.mem_cons.mp hp with rfl | hp
    · exact Ne.symm hCD
    · exact offC p hp
end
section
set_option maxRecDepth 100000
set_option maxHeartbeats 4000000
/-- pairs (a text, a bool) over the ledger -/
inductive PairsAt (news : List (Addr × Obj)) : List Value → List (PySem.Str × Bool) → Prop where
  | nil : PairsAt news [] []
  | cons {p : Addr} {n : PySem.Str} {u : Tok} {b : Bool} {ps : List Value} {al : List (PySem.Str × Bool)} : (p, tupO [.str n u, .bool b]) ∈ news → PairsAt news ps al → PairsAt news (.ref p :: ps) ((n, b) :: al)
theorem PairsAt.mono {O news : List (Addr × Obj)} {ps : List Value} {al : List (PySem.Str × Bool)} (h : PairsAt O ps al) (hs : ∀ p ∈ O, p ∈ news) : PairsAt news ps al := by
  induction h with
  | nil => exact .nil
  | cons hm _ ih => exact .cons (hs _ hm) ih
theorem PairsAt.snoc {news : List (Addr × Obj)} {ps : List Value} {al : List (PySem.Str × Bool)} {p : Addr} {n : PySem.Str} {u : Tok} {b : Bool} (h : PairsAt news ps al) (hm : (p, tupO [.str n u, .bool b]) ∈ news) : PairsAt news (ps ++ [.ref p]) (al ++ [(n, b)]) := by
  induction h with
  | nil => exact .cons hm .nil
  | cons hm' _ ih => exact .cons hm' ih
theorem PairsAt.len {news : List (Addr × Obj)} {ps : List Value} {al : List (PySem.Str × Bool)} (h : PairsAt news ps al) : ps.length = al.length := by
  induction h with
  | nil => rfl
  | cons _ _ ih => simp [ih]
theorem PairsAt.at {news : List (Addr × Obj)} {ps : List Value} {al : List (PySem.Str × Bool)} (h : PairsAt news ps al) : ∀ {i : Nat} {v : Value}, ps[i]? = some v → ∃ p n u b, v = .ref p ∧ al[i]? = some (n, b) ∧ (p, tupO [.str n u, .bool b]) ∈ news := by
  induction h with
  | nil => intro i v h; simp at h
  | cons hm _ ih =>
    intro i v hv
    cases i with
    | zero => simp at hv; exact ⟨_, _, _, _, hv.symm, by simp, hm⟩
    | succ i => simp at hv; obtain ⟨p, n, u, b, e, ha, hm'⟩ := ih hv; exact ⟨p, n, u, b, e, by simpa using ha, hm'⟩
theorem strs_snoc {vs : List Value} {ys : List PySem.Str} {n : PySem.Str} {u : Tok} (h : StrsAre vs ys) : StrsAre (vs ++ [.str n u]) (ys ++ [n]) := StrsAre.append' h (.cons n u .nil)
theorem comp_names {prog : Program} {w : World} {A : Around} {s : Shared} {h₀ : Heap} {L : Addr} {m : PySem.Str → Option Value} {env : PySem.Env} {p1 p2 p3 : Pos} {scope : Scope} {cl : List (PySem.Str × Addr)}
    {ax : Addr} {ps : List Value} {al : List (PySem.Str × Bool)} {news : List (Addr × Obj)} {Fin : List Value → List (Addr × Obj) → Prop}
    (hk : ∀ C, (compEnvC scope cl C env).scope.kind = .function) (hl : ∀ C, (compEnvC scope cl C env).kindOf "pair" = some .local)
    (hall : PairsAt news ps al) (hS : TupSrc ax ps.toArray news) (hfin : ∀ ys, StrsAre ys (al.map (·.1)) → Fin ys news) :
    LCg.CompRest prog w A h₀ L m env (.Subscript (.Name "pair" p1) (.Constant (.int 0) 0 p2) p3) "pair" scope cl s (TupSrc ax ps.toArray) (fun i v => ps.toArray[i]? = some v) Fin ps.toArray.size 0 [] news := by
  have all : ∀ k i ys, i + k = ps.length → StrsAre ys ((al.map (·.1)).take i) →
      LCg.CompRest prog w A h₀ L m env (.Subscript (.Name "pair" p1) (.Constant (.int 0) 0 p2) p3) "pair" scope cl s (TupSrc ax ps.toArray) (fun i v => ps.toArray[i]? = some v) Fin k i ys news := by
    intro k
    induction k with
    | zero =>
      intro i ys hi hy
      refine LCg.CompRest.zero (hfin ys ?_)
      rw [List.take_of_length_le (by rw [List.length_map, ← hall.len]; omega)] at hy
      exact hy
    | succ k ih =>
      intro i ys hi hy
      refine LCg.CompRest.succ ?_
      intro v I oI C oC D m₂ h tk E' hP hC hx F N off ne
      have hv : ps[i]? = some v := by simpa using hP
      obtain ⟨p, n, u, b, rfl, ha, hm⟩ := hall.at hv
      refine Subscript_ ?_
      refine LCgL.ld_own N (List.mem_cons_of_mem _ (List.mem_cons_self ..)) hC hx ?_ (hk C) (hl C) (by decide)
      refine wpAny_Constant_int ?_
      have ht : IsTup h p [Value.str n u, .bool b].toArray := News.isTup N (List.mem_cons_of_mem _ (List.mem_cons_of_mem _ (List.mem_cons_of_mem _ hm)))
      refine item_tupleT ht (by decide) (by decide) (by rfl) (by rfl) ?_ (by with_unfolding_all rfl)
      refine LCg.CompEnd.intro F N news (fun p hp => hp) off hS (ih (i + 1) _ (by omega) ?_)
      have e : (al.map (·.1)).take (i + 1) = (al.map (·.1)).take i ++ [n] := by
        rw [List.take_add_one]
        congr 1
        rw [List.getElem?_map, ha]; rfl
      rw [e]
      exact strs_snoc hy
  have hsz : ps.toArray.size = ps.length := by simp
  rw [hsz]
  exact all _ 0 [] (by omega) .nil
end
section
set_option maxRecDepth 100000
set_option maxHeartbeats 4000000
set_option rowWalk.seconds 0
noncomputable def TupPost (prog : Program) (w : World) (A : Around) (h₀ : Heap) (L : Addr) (m : PySem.Str → Option Value) (env : PySem.Env) (elt : PySem.Expr) (x : PySem.Str) (scope : Scope) (cl : List (PySem.Str × Addr)) (Q : Value → Shared → Prop) (xv : Value) (s₁ : Shared) : Prop :=
  ∃ ax its news, xv = .ref ax ∧ A.handled = none ∧ Fr h₀ L s₁.heap m ∧ News h₀ L s₁.heap news ∧ TupSrc ax its news ∧ its.size ≤ sizeLine ∧
      ∀ g, LCg.CompRest prog w A h₀ L m env elt x scope cl { s₁ with heap := g } (TupSrc ax its) (fun i v => its[i]? = some v) (LCg.FinE h₀ L m { s₁ with heap := g } Q) its.size 0 [] news
theorem ListComp_TP {prog : Program} {w : World} {A : Around} {E : Value → Shared → Prop} {s : Shared} {h₀ : Heap} {L : Addr} {m : PySem.Str → Option Value} {env : PySem.Env} {elt iter : PySem.Expr} {x : PySem.Str} {px : Pos} {scope : Scope} {cl : List (PySem.Str × Addr)} {pos : Pos} {Q : Value → Shared → Prop} (F₀ : Fr h₀ L s.heap m)
    (hclos : closureFor scope env = pure cl) (hcell : ∀ y ∈ scope.names, y.2 ≠ .cell) (hkind : scope.kind = .function)
    (hnames : ∀ y ∈ scope.names, y.2 = .local → scope.names.lookup y.1 = some .local) (hx : scope.names.lookup x = some .local)
    (h : wpAny (model prog w) A (eval iter env) (TupPost prog w A h₀ L m env elt x scope cl Q) E s)
    (hs : ∀ x, foldedSetIterable iter env x = pure x := by intro _; rfl) :
    wpAny (model prog w) A (eval (.ListComp elt [⟨.Name x px, iter, [], 0⟩] scope pos) env) Q E s := ListComp_T F₀ hclos hcell hkind hnames hx h hs
theorem tupPost_names {prog : Program} {w : World} {A : Around} {s : Shared} {h₀ : Heap} {L : Addr} {m : PySem.Str → Option Value} {env : PySem.Env} {p1 p2 p3 : Pos} {scope : Scope} {cl : List (PySem.Str × Addr)}
    {ta : Addr} {ps : List Value} {al : List (PySem.Str × Bool)} {news : List (Addr × Obj)} {Q : Value → Shared → Prop}
    (F : Fr h₀ L s.heap m) (N : News h₀ L s.heap news) (hta : (ta, tupO ps) ∈ news) (hps : PairsAt news ps al) (hsz : ps.length ≤ 100) (hh : A.handled = none)
    (hk : ∀ C, (compEnvC scope cl C env).scope.kind = .function) (hl : ∀ C, (compEnvC scope cl C env).kindOf "pair" = some .local)
    (h : ∀ ys, StrsAre ys (al.map (·.1)) → ∀ D h tk, Fr h₀ L h m → News h₀ L h ((D, LCg.lst ys) :: news) → LCg.Off1 D news → (∀ p ∈ news, p.1 ≠ D) → Q (.ref D) { s with heap := h, toks := tk }) :
    TupPost prog w A h₀ L m env (.Subscript (.Name "pair" p1) (.Constant (.int 0) 0 p2) p3) "pair" scope cl Q (.ref ta) s := by
  refine ⟨ta, ps.toArray, news, rfl, hh, F, N, ⟨_, hta, rfl, _, rfl⟩, by rw [sizeLine_eq]; simp; omega, fun g => comp_names hk hl hps ⟨_, hta, rfl, _, rfl⟩ fun ys hy => ?_⟩
  intro D h' tk F' N' o1
  refine h ys hy D h' tk F' N' o1 ?_
  clear F' N' N F hta hps h
  intro p hp
  induction news with
  | nil => simp at hp
  | cons q l ih =>
    rcases List.mem_cons.mp hp with rfl | hp
    · exact o1.1
    · exact ih o1.2 hp
local macro_rules | `(tactic| walk_at "eval ListComp") => `(tactic| (k_here; k_dflt (refine ListComp_TP (F₀ := by k_asm) (by rfl) (by decide) (by rfl) (by decide) (by rfl) ?_)))
local macro_rules | `(tactic| walk_at "TupPost") => `(tactic| (k_here; k_dflt (refine tupPost_names (by k_asm) (by k_asm) (by k_mem) (by first | assumption | exact PairsAt.mono (by assumption) (by (intro p9 hp9; (repeat (first | exact hp9 | refine List.mem_cons_of_mem _ ?_))))) (by assumption) (by rfl) (by intro C; rfl) (by intro C; rfl) ?_); intro y9 z9 D' h' tk' F' N' o1' o2'; (try simp only [LCg.Off1] at o1')))
theorem addT0 {prog : Program} {w : World} {A : Around} {E : Value → Shared → Prop} {s : Shared} {h₀ : Heap} {L : Addr} {m : PySem.Str → Option Value} {t b : Addr} {ps qs : List Value} {news : List (Addr × Obj)} {Q : Value → Shared → Prop}
    (F : Fr h₀ L s.heap m) (N : News h₀ L s.heap news) (ht : (t, tupO ps) ∈ news) (hb : (b, tupO qs) ∈ news) (hv : ps = []) (hz : qs.length ≤ 100) (h : Q (.ref b) s) : wpAny (model prog w) A (binaryOp .Add (.ref t) (.ref b)) Q E s :=
  kde_addT0 F N (News.isTup N ht) (News.isTup N hb) hv (by subst hv; show 0 + qs.length ≤ _; omega) h
theorem addT1 {prog : Program} {w : World} {A : Around} {E : Value → Shared → Prop} {s : Shared} {h₀ : Heap} {L : Addr} {m : PySem.Str → Option Value} {t b : Addr} {ps qs : List Value} {news : List (Addr × Obj)} {Q : Value → Shared → Prop}
    (F : Fr h₀ L s.heap m) (N : News h₀ L s.heap news) (ht : (t, tupO ps) ∈ news) (hb : (b, tupO qs) ∈ news) (hv : ps ≠ []) (hw : qs ≠ []) (hz : ps.length ≤ 100) (hz2 : qs.length ≤ 100)
    (h : ∀ D h', Fr h₀ L h' m → News h₀ L h' ((D, tupO (ps ++ qs)) :: news) → (∀ p ∈ news, p.1 < D) → Q (.ref D) { s with heap := h' }) : wpAny (model prog w) A (binaryOp .Add (.ref t) (.ref b)) Q E s :=
  kde_addT F N (News.isTup N ht) (News.isTup N hb) hv hw (by show ps.length + qs.length ≤ _; omega) rfl h
local macro_rules | `(tactic| walk_at "binaryOp Add ref ref") => `(tactic| (k_here; k_dflt (refine addT1 (by k_asm) (by k_asm) (by k_mem) (by k_mem) (by assumption) (by simp) (by assumption) (by simp) ?_); intro D' h' F' N' l1))
local macro_rules | `(tactic| walk_at "binaryOp Add ref ref") => `(tactic| (k_here; k_dflt (refine addT0 (by k_asm) (by k_asm) (by k_mem) (by k_mem) (by assumption) (by simp) ?_)))
theorem Both.more {P : Params} {O NN news : List (Addr × Obj)} {r rd tl sp sd : Addr} {o : Int → Tok → Obj} {vs : List Value} {h₀ h : Heap} {L : Addr} {x y : Obj} (B : Both P O r rd tl sp sd o vs) (N : News h₀ L h news)
    (hs : ∀ p ∈ NN, p ∈ news) (hk : ∀ p ∈ NN, keyOf p.2 = none) (hr : (rd, x) ∈ news) (hx : keyOf x ≠ none) (hsd : (sd, y) ∈ news) (hy : keyOf y ≠ none) : Both P (NN ++ O) r rd tl sp sd o vs := by
  have off : ∀ {a : Addr} {x : Obj}, (a, x) ∈ news → keyOf x ≠ none → ∀ p ∈ NN, p.1 ≠ a := fun ha hx p hp => news_ne N (hs p hp) ha (obj_ne (by rw [hk p hp]; exact hx.symm))
  have sub : ∀ p ∈ O, p ∈ NN ++ O := fun p hp => List.mem_append_right _ hp
  refine ⟨⟨sub _ B.base.inst, B.base.form, let ⟨n, h⟩ := B.base.list; ⟨n, sub _ h⟩, B.base.few⟩, sub _ B.spec, fun p hp => ?_, fun p hp => ?_, B.ne⟩
  · rcases List.mem_append.mp hp with hp | hp
    · exact off hr hx p hp
    · exact B.offR p hp
  · rcases List.mem_append.mp hp with hp | hp
    · exact off hsd hy p hp
    · exact B.offS p hp
theorem news_cons {h₀ h : Heap} {L a : Addr} {o : Obj} {all l : List (Addr × Obj)} (N : News h₀ L h all) (hm : (a, o) ∈ all) (hl : News h₀ L h l) : News h₀ L h ((a, o) :: l) := fun p hp => by
  rcases List.mem_cons.mp hp with rfl | hp
  · exact N _ hm
  · exact hl p hp
/-- what is told of an alternate key read -/
inductive AltPost (w : World) (O : List (Addr × Obj)) (r rd tl sp sd : Addr) (o : Int → Tok → Obj) (z' : Int) (vs ps : List Value) (S : Value → Obj) (nm : PySem.Str) (b : Bool) (x : Value) (news' : List (Addr × Obj)) : Prop where
  | mk (e : x = .none) (t : Tok) (ta' p' : Addr) (u' : Tok) (NN : List (Addr × Obj)) (e' : news' = (rd, o z' t) :: (sd, S (.ref ta')) :: (NN ++ O)) (B : Both w.params (NN ++ O) r rd tl sp sd o vs) (m1 : (ta', tupO (ps ++ [.ref p'])) ∈ NN ++ O) (m2 : (p', tupO [.str nm u', .bool b]) ∈ NN ++ O) (tp : ∀ p ∈ NN, p.2.cls = .type "tuple") : AltPost w O r rd tl sp sd o z' vs ps S nm b x news'
theorem alt_order {h₀ h : Heap} {L : Addr} {NN l : List (Addr × Obj)} {a b c : Addr × Obj} (N : News h₀ L h (NN ++ a :: b :: c :: l)) : News h₀ L h (b :: c :: (NN ++ l)) := fun p hp => N p (by
  rcases List.mem_cons.mp hp with rfl | hp
  · simp
  rcases List.mem_cons.mp hp with rfl | hp
  · simp
  rcases List.mem_append.mp hp with hp | hp <;> simp [hp])
theorem alt_close {w : World} {O NN : List (Addr × Obj)} {r rd tl sp sd : Addr} {o : Int → Tok → Obj} {z' : Int} {vs ps : List Value} {S : Value → Obj} {nm : PySem.Str} {b : Bool} {h₀ h : Heap} {L ta' p' : Addr} {t u' : Tok} {d : Addr × Obj}
    (B : Both w.params O r rd tl sp sd o vs) (N : News h₀ L h (NN ++ d :: (rd, o z' t) :: (sd, S (.ref ta')) :: O)) (hk : ∀ p ∈ NN, keyOf p.2 = none) (hcl : ∀ p ∈ NN, p.2.cls = .type "tuple") (hS : keyOf (S (.ref ta')) ≠ none) (h1 : (ta', tupO (ps ++ [.ref p'])) ∈ NN) (h2 : (p', tupO [.str nm u', .bool b]) ∈ NN) :
    ∃ news', AltPost w O r rd tl sp sd o z' vs ps S nm b .none news' ∧ News h₀ L h news' := by
  refine ⟨_, ⟨rfl, t, ta', p', u', NN, rfl, ?_, List.mem_append_left _ h1, List.mem_append_left _ h2, hcl⟩, alt_order N⟩
  refine B.more (x := o z' t) (y := S (.ref ta')) N (fun p hp => List.mem_append_left _ hp) hk (by simp) ?_ (by simp) hS
  obtain ⟨rc, rfl⟩ := B.base.form
  intro h
  cases h
theorem alt_close0 {w : World} {O : List (Addr × Obj)} {r rd tl sp sd : Addr} {o : Int → Tok → Obj} {z' : Int} {vs : List Value} {S : Value → Obj} {nm : PySem.Str} {b : Bool} {h₀ h : Heap} {L ta' p' : Addr} {t u' : Tok} {d : Addr × Obj}
    (B : Both w.params O r rd tl sp sd o vs) (N : News h₀ L h ((ta', tupO [.ref p']) :: (p', tupO [.str nm u', .bool b]) :: d :: (rd, o z' t) :: (sd, S (.ref ta')) :: O)) (hS : keyOf (S (.ref ta')) ≠ none) :
    ∃ news', AltPost w O r rd tl sp sd o z' vs [] S nm b .none news' ∧ News h₀ L h news' :=
  alt_close (NN := [_, _]) B N (by intro p hp; simp at hp; rcases hp with rfl | rfl <;> rfl) (by intro p hp; simp at hp; rcases hp with rfl | rfl <;> rfl) hS (List.mem_cons_self ..) (List.mem_cons_of_mem _ (List.mem_cons_self ..))
theorem alt_close1 {w : World} {O : List (Addr × Obj)} {r rd tl sp sd : Addr} {o : Int → Tok → Obj} {z' : Int} {vs ps : List Value} {S : Value → Obj} {nm : PySem.Str} {b : Bool} {h₀ h : Heap} {L ta' q' p' : Addr} {t u' : Tok} {d : Addr × Obj}
    (B : Both w.params O r rd tl sp sd o vs) (N : News h₀ L h ((ta', tupO (ps ++ [.ref p'])) :: (q', tupO [.ref p']) :: (p', tupO [.str nm u', .bool b]) :: d :: (rd, o z' t) :: (sd, S (.ref ta')) :: O)) (hS : keyOf (S (.ref ta')) ≠ none) :
    ∃ news', AltPost w O r rd tl sp sd o z' vs ps S nm b .none news' ∧ News h₀ L h news' :=
  alt_close (NN := [_, _, _]) B N (by intro p hp; simp at hp; rcases hp with rfl | rfl | rfl <;> rfl) (by intro p hp; simp at hp; rcases hp with rfl | rfl | rfl <;> rfl) hS (List.mem_cons_self ..) (List.mem_cons_of_mem _ (List.mem_cons_of_mem _ (List.mem_cons_self ..)))
theorem t_alt0 {w : World} {O : List (Addr × Obj)} {r rd tl sp sd ta : Addr} {o : Int → Tok → Obj} {z : Int} {tk : Tok} {vs ps : List Value} {al : List (PySem.Str × Bool)} {aa : SC} {v0 v1 v2 v3 v4 v6 v7 v8 v9 : Value} {nm kd wo : PySem.Str}
    (B0 : Both w.params O r rd tl sp sd o vs) (h1 : TokZ w.params O vs z "word" "RECORD") (h2 : TokZ w.params O vs (z + 1) "word" "KEY") (h3 : TokZ w.params O vs (z + 1 + 1) "word" "IS") (h4 : TokZ w.params O vs (z + 1 + 1 + 1) "word" nm) (hf : FreeName nm)
    (h5 : TokZ w.params O vs (z + 1 + 1 + 1 + 1) kd wo) (h6 : (kd == (PySem.Str.ofString "word") && wo == (PySem.Str.ofString "WITH")) = false) (h7 : (kd == (PySem.Str.ofString "word") && wo == (PySem.Str.ofString "DUPLICATES")) = false) (hta : (ta, tupO ps) ∈ O) (hps : PairsAt O ps al) (hsz : ps.length ≤ 100) (hnin : (al.map (·.1)).any (· == nm) = false) :
    Tell w 5 40 174 [.ref r, .ref sp] ((rd, o z tk) :: (sd, SD w.params aa v0 v1 v2 v3 v4 (.ref ta) v6 v7 v8 v9) :: O)
      (AltPost w O r rd tl sp sd o (z + 1 + 1 + 1 + 1) vs ps (fun v5 => SD w.params aa v0 v1 v2 v3 v4 v5 v6 v7 v8 v9) nm false) := by
  have B0' := B0
  obtain ⟨hbase, hsp, hoR, hoS, hne⟩ := B0
  have hinst := hbase.inst
  have hne' := hne.symm
  obtain ⟨rc, rfl⟩ := hbase.form
  intro p loose mean mg mb dp un gd cn cs a ccd cl outer A₀ base h₀ L m s Q E B F X N T hk hdp hun ret
  refine wpAny_call ?_
  revert X N; k_fill; intro X N
  k_dflt (refine' code_def (binds := [("reader", .ref r), ("spec", .ref sp)]) ?k1 ?k2 ?k3 ?k4 ?k5 ?kA ?kF ?kK ?k6 ?k7 ?k8 ?k9 ?kB ?_ ?c2 ?c3 ?c4 ?c5; (case kA => exact rfl); (case kF => exact rfl); (case kK => assumption); (case k1 => k_asm); (case k2 => k_asm); (case k3 => k_asm); (case k4 => k_asm); (case k5 => k_asm); (case k6 => exact k_read_alternate _); (case k7 => k_is); (case k8 => ktr_room); (case k9 => first | exact BindsTo.of_eq rfl | exact binds_KK (by k_in) rfl (by k_is) rfl rfl); (case c5 => decide); (case kB => exact locs rfl); (case c2 => exact rfl); (case c3 => exact rfl); (case c4 => exact rfl); k_whole; intro g' L' h' FG' F' N' B' X' T'; (try dsimp only); (try k_fold))
  by_cases hv : ps = []
  all_goals (walk_at "kF"; repeat' ((first | (refine' Tell.use (t_skip_yes (o := _) ?R ?ht ?hq ?hqs ?U) ?k1 ?k2 ?k3 ?k4 ?k5 ?kK ?kd ?ku ?_; (case k1 | k2 | k3 | k4 | k5 => k_asm); (case R => walk_at "mR"); (case ht => walk_at "mT"); (case hq => first | exact split_WD | exact split_FS | walk_at "mQ"); (case hqs => walk_at "mQ"); (case U => (intro t9; k_upd)); (case kK => first | exact rfl | assumption); (case kd => ktr_room); (case ku => ktr_units); k_whole; intro r9 n9 h9 tk9 e9 F9 N9; (obtain ⟨e8, t9, e7⟩ := e9); (subst e8); (subst e7); (try dsimp only at N9); walk_at "mE") | (refine' Tell.use (t_skip_no (o := _) ?R ?ht ?hq ?hqs ?hb) ?k1 ?k2 ?k3 ?k4 ?k5 ?kK ?kd ?ku ?_; (case k1 | k2 | k3 | k4 | k5 => k_asm); (case R => walk_at "mR"); (case ht => walk_at "mT"); (case hq => first | exact split_WD | exact split_FS | walk_at "mQ"); (case hqs => walk_at "mQ"); (case hb => first | rfl | assumption | decide +kernel); (case kK => first | exact rfl | assumption); (case kd => ktr_room); (case ku => ktr_units); k_whole; intro r9 n9 h9 tk9 e9 F9 N9; (obtain ⟨e8, e7⟩ := e9); (subst e8); (subst e7); walk_at "mE") | (refine' Tell.use (t_skip2_no (o := _) ?R ?ht ?hq ?hqs ?hb) ?k1 ?k2 ?k3 ?k4 ?k5 ?kK ?kd ?ku ?_; (case k1 | k2 | k3 | k4 | k5 => k_asm); (case R => walk_at "mR"); (case ht => walk_at "mT"); (case hq => first | exact split_WD | exact split_FS | walk_at "mQ"); (case hqs => walk_at "mQ"); (case hb => first | rfl | assumption | decide +kernel); (case kK => first | exact rfl | assumption); (case kd => ktr_room); (case ku => ktr_units); k_whole; intro r9 n9 h9 tk9 e9 F9 N9; (obtain ⟨e8, e7⟩ := e9); (subst e8); (subst e7); walk_at "mE") | (refine' Tell.use (t_name (o := _) ?R ?ht ?hf ?U) ?k1 ?k2 ?k3 ?k4 ?k5 ?kK ?kd ?ku ?_; (case k1 | k2 | k3 | k4 | k5 => k_asm); (case R => walk_at "mR"); (case ht => walk_at "mT"); (case hf => assumption); (case U => (intro t9; k_upd)); (case kK => first | exact rfl | assumption); (case kd => ktr_room); (case ku => ktr_units); k_whole; intro r9 n9 h9 tk9 e9 F9 N9; (obtain ⟨u9, e8, t9, e7⟩ := e9); (subst e8); (subst e7); (try dsimp only at N9); walk_at "mE")); walk_at "kF"))
  all_goals (rename News _ _ _ _ => lN9)
  · subst hv
    obtain ⟨_, q9, m9⟩ := alt_close0 (S := fun v5 => SD w.params aa v0 v1 v2 v3 v4 v5 v6 v7 v8 v9) (o := RD w.params rc tl) B0' lN9 (by intro h; cases h)
    exact ret _ _ _ _ q9 (by k_asm) m9
  · obtain ⟨_, q9, m9⟩ := alt_close1 (S := fun v5 => SD w.params aa v0 v1 v2 v3 v4 v5 v6 v7 v8 v9) (o := RD w.params rc tl) B0' lN9 (by intro h; cases h)
    exact ret _ _ _ _ q9 (by k_asm) m9
theorem t_alt1 {w : World} {O : List (Addr × Obj)} {r rd tl sp sd ta : Addr} {o : Int → Tok → Obj} {z : Int} {tk : Tok} {vs ps : List Value} {al : List (PySem.Str × Bool)} {aa : SC} {v0 v1 v2 v3 v4 v6 v7 v8 v9 : Value} {nm : PySem.Str}
    (B0 : Both w.params O r rd tl sp sd o vs) (h1 : TokZ w.params O vs z "word" "RECORD") (h2 : TokZ w.params O vs (z + 1) "word" "KEY") (h3 : TokZ w.params O vs (z + 1 + 1) "word" "IS") (h4 : TokZ w.params O vs (z + 1 + 1 + 1) "word" nm) (hf : FreeName nm)
    (h5 : TokZ w.params O vs (z + 1 + 1 + 1 + 1) "word" "WITH") (h6 : TokZ w.params O vs (z + 1 + 1 + 1 + 1 + 1) "word" "DUPLICATES") (hta : (ta, tupO ps) ∈ O) (hps : PairsAt O ps al) (hsz : ps.length ≤ 100) (hnin : (al.map (·.1)).any (· == nm) = false) :
    Tell w 5 40 174 [.ref r, .ref sp] ((rd, o z tk) :: (sd, SD w.params aa v0 v1 v2 v3 v4 (.ref ta) v6 v7 v8 v9) :: O)
      (AltPost w O r rd tl sp sd o (z + 1 + 1 + 1 + 1 + 2) vs ps (fun v5 => SD w.params aa v0 v1 v2 v3 v4 v5 v6 v7 v8 v9) nm true) := by
  have B0' := B0
  obtain ⟨hbase, hsp, hoR, hoS, hne⟩ := B0
  have hinst := hbase.inst
  have hne' := hne.symm
  obtain ⟨rc, rfl⟩ := hbase.form
  intro p loose mean mg mb dp un gd cn cs a ccd cl outer A₀ base h₀ L m s Q E B F X N T hk hdp hun ret
  refine wpAny_call ?_
  revert X N; k_fill; intro X N
  k_dflt (refine' code_def (binds := [("reader", .ref r), ("spec", .ref sp)]) ?k1 ?k2 ?k3 ?k4 ?k5 ?kA ?kF ?kK ?k6 ?k7 ?k8 ?k9 ?kB ?_ ?c2 ?c3 ?c4 ?c5; (case kA => exact rfl); (case kF => exact rfl); (case kK => assumption); (case k1 => k_asm); (case k2 => k_asm); (case k3 => k_asm); (case k4 => k_asm); (case k5 => k_asm); (case k6 => exact k_read_alternate _); (case k7 => k_is); (case k8 => ktr_room); (case k9 => first | exact BindsTo.of_eq rfl | exact binds_KK (by k_in) rfl (by k_is) rfl rfl); (case c5 => decide); (case kB => exact locs rfl); (case c2 => exact rfl); (case c3 => exact rfl); (case c4 => exact rfl); k_whole; intro g' L' h' FG' F' N' B' X' T'; (try dsimp only); (try k_fold))
  by_cases hv : ps = []
  all_goals (walk_at "kF"; repeat' ((first | (refine' Tell.use (t_skip_yes (o := _) ?R ?ht ?hq ?hqs ?U) ?k1 ?k2 ?k3 ?k4 ?k5 ?kK ?kd ?ku ?_; (case k1 | k2 | k3 | k4 | k5 => k_asm); (case R => walk_at "mR"); (case ht => walk_at "mT"); (case hq => first | exact split_WD | exact split_FS | walk_at "mQ"); (case hqs => walk_at "mQ"); (case U => (intro t9; k_upd)); (case kK => first | exact rfl | assumption); (case kd => ktr_room); (case ku => ktr_units); k_whole; intro r9 n9 h9 tk9 e9 F9 N9; (obtain ⟨e8, t9, e7⟩ := e9); (subst e8); (subst e7); (try dsimp only at N9); walk_at "mE") | (refine' Tell.use (t_skip2_yes (o := _) ?R ?ht ?ht2 ?hq ?hqs ?U) ?k1 ?k2 ?k3 ?k4 ?k5 ?kK ?kd ?ku ?_; (case k1 | k2 | k3 | k4 | k5 => k_asm); (case R => walk_at "mR"); (case ht => walk_at "mT"); (case ht2 => walk_at "mT"); (case hq => first | exact split_WD | exact split_FS | walk_at "mQ"); (case hqs => walk_at "mQ"); (case U => (intro t9; k_upd)); (case kK => first | exact rfl | assumption); (case kd => ktr_room); (case ku => ktr_units); k_whole; intro r9 n9 h9 tk9 e9 F9 N9; (obtain ⟨e8, t9, e7⟩ := e9); (subst e8); (subst e7); (try dsimp only at N9); walk_at "mE") | (refine' Tell.use (t_name (o := _) ?R ?ht ?hf ?U) ?k1 ?k2 ?k3 ?k4 ?k5 ?kK ?kd ?ku ?_; (case k1 | k2 | k3 | k4 | k5 => k_asm); (case R => walk_at "mR"); (case ht => walk_at "mT"); (case hf => assumption); (case U => (intro t9; k_upd)); (case kK => first | exact rfl | assumption); (case kd => ktr_room); (case ku => ktr_units); k_whole; intro r9 n9 h9 tk9 e9 F9 N9; (obtain ⟨u9, e8, t9, e7⟩ := e9); (subst e8); (subst e7); (try dsimp only at N9); walk_at "mE")); walk_at "kF"))
  all_goals (rename News _ _ _ _ => lN9)
  · subst hv
    obtain ⟨_, q9, m9⟩ := alt_close0 (S := fun v5 => SD w.params aa v0 v1 v2 v3 v4 v5 v6 v7 v8 v9) (o := RD w.params rc tl) B0' lN9 (by intro h; cases h)
    exact ret _ _ _ _ q9 (by k_asm) m9
  · obtain ⟨_, q9, m9⟩ := alt_close1 (S := fun v5 => SD w.params aa v0 v1 v2 v3 v4 v5 v6 v7 v8 v9) (o := RD w.params rc tl) B0' lN9 (by intro h; cases h)
    exact ret _ _ _ _ q9 (by k_asm) m9
end
section
set_option maxRecDepth 100000
set_option maxHeartbeats 4000000
set_option rowWalk.seconds 0
theorem t_rc_assign {w : World} {O : List (Addr × Obj)} {r rd tl sp sd : Addr} {o : Int → Tok → Obj} {z : Int} {tk : Tok} {vs : List Value} {aa : SC} {v0 v1 v2 v3 v4 v5 v6 v7 v8 v9 : Value} {path kd wo : PySem.Str}
    (B0 : Both w.params O r rd tl sp sd o vs) (h0 : TokZ w.params O vs z "word" "ASSIGN") (h1 : TokZ w.params O vs (z + 1) "word" "TO") (h2 : TokZ w.params O vs (z + 1 + 1) "literal" path) (h3 : TokZ w.params O vs (z + 1 + 1 + 1) kd wo) (h4 : (kd == (PySem.Str.ofString "literal")) = false) :
    Tell w 7 60 188 [.ref r, .ref sp] ((rd, o z tk) :: (sd, SD w.params aa v0 v1 v2 v3 v4 v5 v6 v7 v8 v9) :: O)
      (fun x news' => ∃ u8, x = .str "ASSIGN" u8 ∧ ∃ t u, news' = (rd, o (z + 1 + 1 + 1) t) :: (sd, SD w.params aa v0 (.str path u) v2 v3 v4 v5 v6 v7 v8 v9) :: O) := by
  have B0' := B0
  obtain ⟨hbase, hsp, hoR, hoS, hne⟩ := B0
  have hinst := hbase.inst
  have hne' := hne.symm
  obtain ⟨rc, rfl⟩ := hbase.form
  intro p loose mean mg mb dp un gd cn cs a ccd cl outer A₀ base h₀ L m s Q E B F X N T hk hdp hun ret
  refine wpAny_call ?_
  revert X N; k_fill; intro X N
  k_dflt (refine' code_def (binds := [("reader", .ref r), ("spec", .ref sp)]) ?k1 ?k2 ?k3 ?k4 ?k5 ?kA ?kF ?kK ?k6 ?k7 ?k8 ?k9 ?kB ?_ ?c2 ?c3 ?c4 ?c5; (case kA => exact rfl); (case kF => exact rfl); (case kK => assumption); (case k1 => k_asm); (case k2 => k_asm); (case k3 => k_asm); (case k4 => k_asm); (case k5 => k_asm); (case k6 => exact k_read_clause _); (case k7 => k_is); (case k8 => ktr_room); (case k9 => first | exact BindsTo.of_eq rfl | exact binds_KK (by k_in) rfl (by k_is) rfl rfl); (case c5 => decide); (case kB => exact locs rfl); (case c2 => exact rfl); (case c3 => exact rfl); (case c4 => exact rfl); k_whole; intro g' L' h' FG' F' N' B' X' T'; (try dsimp only); (try k_fold))
  (walk_at "kF"; repeat' ((first | (refine' Tell.use (t_read_assign ?Bb ?tA ?tB ?tC ?nn) ?k1 ?k2 ?k3 ?k4 ?k5 ?kK ?kd ?ku ?_; (case k1 | k2 | k3 | k4 | k5 => k_asm); (case Bb => assumption); (case tA => walk_at "mT"); (case tB => walk_at "mT"); (case tC => walk_at "mT"); (case nn => assumption); (case kK => first | exact rfl | assumption); (case kd => ktr_room); (case ku => ktr_units); k_whole; intro r9 n9 h9 tk9 e9 F9 N9; (obtain ⟨e8, t9, u9, e7⟩ := e9); (subst e8); (subst e7); (try dsimp only at N9); walk_at "mE") | (refine' Tell.use (t_skip_yes (o := _) ?R ?ht ?hq ?hqs ?U) ?k1 ?k2 ?k3 ?k4 ?k5 ?kK ?kd ?ku ?_; (case k1 | k2 | k3 | k4 | k5 => k_asm); (case R => walk_at "mR"); (case ht => walk_at "mT"); (case hq => first | exact split_WD | exact split_FS | walk_at "mQ"); (case hqs => walk_at "mQ"); (case U => (intro t9; k_upd)); (case kK => first | exact rfl | assumption); (case kd => ktr_room); (case ku => ktr_units); k_whole; intro r9 n9 h9 tk9 e9 F9 N9; (obtain ⟨e8, t9, e7⟩ := e9); (subst e8); (subst e7); (try dsimp only at N9); walk_at "mE")); walk_at "kF"))
  all_goals (refine ret _ _ _ _ ⟨_, rfl, _, _, rfl⟩ (by k_asm) (by k_asm))
theorem t_rc_record {w : World} {O : List (Addr × Obj)} {r rd tl sp sd : Addr} {o : Int → Tok → Obj} {z : Int} {tk : Tok} {vs : List Value} {aa : SC} {v0 v1 v2 v3 v4 v5 v6 v7 v8 v9 : Value} {nm : PySem.Str}
    (B0 : Both w.params O r rd tl sp sd o vs) (g0 : TokZ w.params O vs z "word" "RECORD") (g1 : TokZ w.params O vs (z + 1) "word" "KEY") (g2 : TokZ w.params O vs (z + 1 + 1) "word" "IS") (g3 : TokZ w.params O vs (z + 1 + 1 + 1) "word" nm) (hf : FreeName nm) :
    Tell w 7 60 188 [.ref r, .ref sp] ((rd, o z tk) :: (sd, SD w.params aa v0 v1 v2 v3 v4 v5 v6 v7 v8 v9) :: O)
      (fun x news' => ∃ u8, x = .str "RECORD" u8 ∧ ∃ t u, news' = (rd, o (z + 1 + 1 + 1 + 1) t) :: (sd, SD w.params aa v0 v1 v2 v3 (.str nm u) v5 v6 v7 v8 v9) :: O) := by
  have B0' := B0
  obtain ⟨hbase, hsp, hoR, hoS, hne⟩ := B0
  have hinst := hbase.inst
  have hne' := hne.symm
  obtain ⟨rc, rfl⟩ := hbase.form
  intro p loose mean mg mb dp un gd cn cs a ccd cl outer A₀ base h₀ L m s Q E B F X N T hk hdp hun ret
  refine wpAny_call ?_
  revert X N; k_fill; intro X N
  k_dflt (refine' code_def (binds := [("reader", .ref r), ("spec", .ref sp)]) ?k1 ?k2 ?k3 ?k4 ?k5 ?kA ?kF ?kK ?k6 ?k7 ?k8 ?k9 ?kB ?_ ?c2 ?c3 ?c4 ?c5; (case kA => exact rfl); (case kF => exact rfl); (case kK => assumption); (case k1 => k_asm); (case k2 => k_asm); (case k3 => k_asm); (case k4 => k_asm); (case k5 => k_asm); (case k6 => exact k_read_clause _); (case k7 => k_is); (case k8 => ktr_room); (case k9 => first | exact BindsTo.of_eq rfl | exact binds_KK (by k_in) rfl (by k_is) rfl rfl); (case c5 => decide); (case kB => exact locs rfl); (case c2 => exact rfl); (case c3 => exact rfl); (case c4 => exact rfl); k_whole; intro g' L' h' FG' F' N' B' X' T'; (try dsimp only); (try k_fold))
  (walk_at "kF"; repeat' ((first | (refine' Tell.use (t_read_record_key ?Bb ?tA ?tB ?tC ?nn) ?k1 ?k2 ?k3 ?k4 ?k5 ?kK ?kd ?ku ?_; (case k1 | k2 | k3 | k4 | k5 => k_asm); (case Bb => assumption); (case tA => walk_at "mT"); (case tB => walk_at "mT"); (case tC => walk_at "mT"); (case nn => assumption); (case kK => first | exact rfl | assumption); (case kd => ktr_room); (case ku => ktr_units); k_whole; intro r9 n9 h9 tk9 e9 F9 N9; (obtain ⟨e8, t9, u9, e7⟩ := e9); (subst e8); (subst e7); (try dsimp only at N9); walk_at "mE") | (refine' Tell.use (t_skip_yes (o := _) ?R ?ht ?hq ?hqs ?U) ?k1 ?k2 ?k3 ?k4 ?k5 ?kK ?kd ?ku ?_; (case k1 | k2 | k3 | k4 | k5 => k_asm); (case R => walk_at "mR"); (case ht => walk_at "mT"); (case hq => first | exact split_WD | exact split_FS | walk_at "mQ"); (case hqs => walk_at "mQ"); (case U => (intro t9; k_upd)); (case kK => first | exact rfl | assumption); (case kd => ktr_room); (case ku => ktr_units); k_whole; intro r9 n9 h9 tk9 e9 F9 N9; (obtain ⟨e8, t9, e7⟩ := e9); (subst e8); (subst e7); (try dsimp only at N9); walk_at "mE") | (refine' Tell.use (t_skip_no (o := _) ?R ?ht ?hq ?hqs ?hb) ?k1 ?k2 ?k3 ?k4 ?k5 ?kK ?kd ?ku ?_; (case k1 | k2 | k3 | k4 | k5 => k_asm); (case R => walk_at "mR"); (case ht => walk_at "mT"); (case hq => first | exact split_WD | exact split_FS | walk_at "mQ"); (case hqs => walk_at "mQ"); (case hb => first | rfl | assumption | decide +kernel); (case kK => first | exact rfl | assumption); (case kd => ktr_room); (case ku => ktr_units); k_whole; intro r9 n9 h9 tk9 e9 F9 N9; (obtain ⟨e8, e7⟩ := e9); (subst e8); (subst e7); walk_at "mE")); walk_at "kF"))
  all_goals (refine ret _ _ _ _ ⟨_, rfl, _, _, rfl⟩ (by k_asm) (by k_asm))
theorem t_rc_relative {w : World} {O : List (Addr × Obj)} {r rd tl sp sd : Addr} {o : Int → Tok → Obj} {z : Int} {tk : Tok} {vs : List Value} {aa : SC} {v0 v1 v2 v3 v4 v5 v6 v7 v8 v9 : Value} {nm : PySem.Str}
    (B0 : Both w.params O r rd tl sp sd o vs) (g0 : TokZ w.params O vs z "word" "RELATIVE") (g1 : TokZ w.params O vs (z + 1) "word" "KEY") (g2 : TokZ w.params O vs (z + 1 + 1) "word" "IS") (g3 : TokZ w.params O vs (z + 1 + 1 + 1) "word" nm) (hf : FreeName nm) :
    Tell w 7 60 188 [.ref r, .ref sp] ((rd, o z tk) :: (sd, SD w.params aa v0 v1 v2 v3 v4 v5 v6 v7 v8 v9) :: O)
      (fun x news' => ∃ u8, x = .str "RELATIVE KEY" u8 ∧ ∃ t u, news' = (rd, o (z + 1 + 1 + 1 + 1) t) :: (sd, SD w.params aa v0 v1 v2 v3 v4 v5 (.str nm u) v7 v8 v9) :: O) := by
  have B0' := B0
  obtain ⟨hbase, hsp, hoR, hoS, hne⟩ := B0
  have hinst := hbase.inst
  have hne' := hne.symm
  obtain ⟨rc, rfl⟩ := hbase.form
  intro p loose mean mg mb dp un gd cn cs a ccd cl outer A₀ base h₀ L m s Q E B F X N T hk hdp hun ret
  refine wpAny_call ?_
  revert X N; k_fill; intro X N
  k_dflt (refine' code_def (binds := [("reader", .ref r), ("spec", .ref sp)]) ?k1 ?k2 ?k3 ?k4 ?k5 ?kA ?kF ?kK ?k6 ?k7 ?k8 ?k9 ?kB ?_ ?c2 ?c3 ?c4 ?c5; (case kA => exact rfl); (case kF => exact rfl); (case kK => assumption); (case k1 => k_asm); (case k2 => k_asm); (case k3 => k_asm); (case k4 => k_asm); (case k5 => k_asm); (case k6 => exact k_read_clause _); (case k7 => k_is); (case k8 => ktr_room); (case k9 => first | exact BindsTo.of_eq rfl | exact binds_KK (by k_in) rfl (by k_is) rfl rfl); (case c5 => decide); (case kB => exact locs rfl); (case c2 => exact rfl); (case c3 => exact rfl); (case c4 => exact rfl); k_whole; intro g' L' h' FG' F' N' B' X' T'; (try dsimp only); (try k_fold))
  (walk_at "kF"; repeat' ((first | (refine' Tell.use (t_read_relative ?Bb ?tA ?tB ?tC ?nn) ?k1 ?k2 ?k3 ?k4 ?k5 ?kK ?kd ?ku ?_; (case k1 | k2 | k3 | k4 | k5 => k_asm); (case Bb => assumption); (case tA => walk_at "mT"); (case tB => walk_at "mT"); (case tC => walk_at "mT"); (case nn => assumption); (case kK => first | exact rfl | assumption); (case kd => ktr_room); (case ku => ktr_units); k_whole; intro r9 n9 h9 tk9 e9 F9 N9; (obtain ⟨u8, e8, t9, u9, e7⟩ := e9); (subst e8); (subst e7); (try dsimp only at N9); walk_at "mE") | (refine' Tell.use (t_skip_yes (o := _) ?R ?ht ?hq ?hqs ?U) ?k1 ?k2 ?k3 ?k4 ?k5 ?kK ?kd ?ku ?_; (case k1 | k2 | k3 | k4 | k5 => k_asm); (case R => walk_at "mR"); (case ht => walk_at "mT"); (case hq => first | exact split_WD | exact split_FS | walk_at "mQ"); (case hqs => walk_at "mQ"); (case U => (intro t9; k_upd)); (case kK => first | exact rfl | assumption); (case kd => ktr_room); (case ku => ktr_units); k_whole; intro r9 n9 h9 tk9 e9 F9 N9; (obtain ⟨e8, t9, e7⟩ := e9); (subst e8); (subst e7); (try dsimp only at N9); walk_at "mE") | (refine' Tell.use (t_skip_no (o := _) ?R ?ht ?hq ?hqs ?hb) ?k1 ?k2 ?k3 ?k4 ?k5 ?kK ?kd ?ku ?_; (case k1 | k2 | k3 | k4 | k5 => k_asm); (case R => walk_at "mR"); (case ht => walk_at "mT"); (case hq => first | exact split_WD | exact split_FS | walk_at "mQ"); (case hqs => walk_at "mQ"); (case hb => first | rfl | assumption | decide +kernel); (case kK => first | exact rfl | assumption); (case kd => ktr_room); (case ku => ktr_units); k_whole; intro r9 n9 h9 tk9 e9 F9 N9; (obtain ⟨e8, e7⟩ := e9); (subst e8); (subst e7); walk_at "mE") | (refine' Tell.use (t_skip2_no (o := _) ?R ?ht ?hq ?hqs ?hb) ?k1 ?k2 ?k3 ?k4 ?k5 ?kK ?kd ?ku ?_; (case k1 | k2 | k3 | k4 | k5 => k_asm); (case R => walk_at "mR"); (case ht => walk_at "mT"); (case hq => first | exact split_WD | exact split_FS | walk_at "mQ"); (case hqs => walk_at "mQ"); (case hb => first | rfl | assumption | decide +kernel); (case kK => first | exact rfl | assumption); (case kd => ktr_room); (case ku => ktr_units); k_whole; intro r9 n9 h9 tk9 e9 F9 N9; (obtain ⟨e8, e7⟩ := e9); (subst e8); (subst e7); walk_at "mE")); walk_at "kF"))
  all_goals (refine ret _ _ _ _ ⟨_, rfl, _, _, rfl⟩ (by k_asm) (by k_asm))
theorem t_rc_status {w : World} {O : List (Addr × Obj)} {r rd tl sp sd : Addr} {o : Int → Tok → Obj} {z : Int} {tk : Tok} {vs : List Value} {aa : SC} {v0 v1 v2 v3 v4 v5 v6 v7 v8 v9 : Value} {nm : PySem.Str}
    (B0 : Both w.params O r rd tl sp sd o vs) (g0 : TokZ w.params O vs z "word" "FILE") (g1 : TokZ w.params O vs (z + 1) "word" "STATUS") (g2 : TokZ w.params O vs (z + 2) "word" "IS") (g3 : TokZ w.params O vs (z + 2 + 1) "word" nm) (hf : FreeName nm) :
    Tell w 7 60 188 [.ref r, .ref sp] ((rd, o z tk) :: (sd, SD w.params aa v0 v1 v2 v3 v4 v5 v6 v7 v8 v9) :: O)
      (fun x news' => ∃ u8, x = .str "STATUS" u8 ∧ ∃ t u, news' = (rd, o (z + 2 + 1 + 1) t) :: (sd, SD w.params aa v0 v1 v2 v3 v4 v5 v6 (.str nm u) v8 v9) :: O) := by
  have B0' := B0
  obtain ⟨hbase, hsp, hoR, hoS, hne⟩ := B0
  have hinst := hbase.inst
  have hne' := hne.symm
  obtain ⟨rc, rfl⟩ := hbase.form
  intro p loose mean mg mb dp un gd cn cs a ccd cl outer A₀ base h₀ L m s Q E B F X N T hk hdp hun ret
  refine wpAny_call ?_
  revert X N; k_fill; intro X N
  k_dflt (refine' code_def (binds := [("reader", .ref r), ("spec", .ref sp)]) ?k1 ?k2 ?k3 ?k4 ?k5 ?kA ?kF ?kK ?k6 ?k7 ?k8 ?k9 ?kB ?_ ?c2 ?c3 ?c4 ?c5; (case kA => exact rfl); (case kF => exact rfl); (case kK => assumption); (case k1 => k_asm); (case k2 => k_asm); (case k3 => k_asm); (case k4 => k_asm); (case k5 => k_asm); (case k6 => exact k_read_clause _); (case k7 => k_is); (case k8 => ktr_room); (case k9 => first | exact BindsTo.of_eq rfl | exact binds_KK (by k_in) rfl (by k_is) rfl rfl); (case c5 => decide); (case kB => exact locs rfl); (case c2 => exact rfl); (case c3 => exact rfl); (case c4 => exact rfl); k_whole; intro g' L' h' FG' F' N' B' X' T'; (try dsimp only); (try k_fold))
  (walk_at "kF"; repeat' ((first | (refine' Tell.use (t_skip_yes (o := _) ?R ?ht ?hq ?hqs ?U) ?k1 ?k2 ?k3 ?k4 ?k5 ?kK ?kd ?ku ?_; (case k1 | k2 | k3 | k4 | k5 => k_asm); (case R => walk_at "mR"); (case ht => walk_at "mT"); (case hq => first | exact split_WD | exact split_FS | walk_at "mQ"); (case hqs => walk_at "mQ"); (case U => (intro t9; k_upd)); (case kK => first | exact rfl | assumption); (case kd => ktr_room); (case ku => ktr_units); k_whole; intro r9 n9 h9 tk9 e9 F9 N9; (obtain ⟨e8, t9, e7⟩ := e9); (subst e8); (subst e7); (try dsimp only at N9); walk_at "mE") | (refine' Tell.use (t_skip2_yes (o := _) ?R ?ht ?ht2 ?hq ?hqs ?U) ?k1 ?k2 ?k3 ?k4 ?k5 ?kK ?kd ?ku ?_; (case k1 | k2 | k3 | k4 | k5 => k_asm); (case R => walk_at "mR"); (case ht => walk_at "mT"); (case ht2 => walk_at "mT"); (case hq => first | exact split_WD | exact split_FS | walk_at "mQ"); (case hqs => walk_at "mQ"); (case U => (intro t9; k_upd)); (case kK => first | exact rfl | assumption); (case kd => ktr_room); (case ku => ktr_units); k_whole; intro r9 n9 h9 tk9 e9 F9 N9; (obtain ⟨e8, t9, e7⟩ := e9); (subst e8); (subst e7); (try dsimp only at N9); walk_at "mE") | (refine' Tell.use (t_skip_no (o := _) ?R ?ht ?hq ?hqs ?hb) ?k1 ?k2 ?k3 ?k4 ?k5 ?kK ?kd ?ku ?_; (case k1 | k2 | k3 | k4 | k5 => k_asm); (case R => walk_at "mR"); (case ht => walk_at "mT"); (case hq => first | exact split_WD | exact split_FS | walk_at "mQ"); (case hqs => walk_at "mQ"); (case hb => first | rfl | assumption | decide +kernel); (case kK => first | exact rfl | assumption); (case kd => ktr_room); (case ku => ktr_units); k_whole; intro r9 n9 h9 tk9 e9 F9 N9; (obtain ⟨e8, e7⟩ := e9); (subst e8); (subst e7); walk_at "mE") | (refine' Tell.use (t_name (o := _) ?R ?ht ?hf ?U) ?k1 ?k2 ?k3 ?k4 ?k5 ?kK ?kd ?ku ?_; (case k1 | k2 | k3 | k4 | k5 => k_asm); (case R => walk_at "mR"); (case ht => walk_at "mT"); (case hf => assumption); (case U => (intro t9; k_upd)); (case kK => first | exact rfl | assumption); (case kd => ktr_room); (case ku => ktr_units); k_whole; intro r9 n9 h9 tk9 e9 F9 N9; (obtain ⟨u9, e8, t9, e7⟩ := e9); (subst e8); (subst e7); (try dsimp only at N9); walk_at "mE")); walk_at "kF"))
  all_goals (refine ret _ _ _ _ ⟨_, rfl, _, _, rfl⟩ (by k_asm) (by k_asm))
/-- one word of a few, as one_word reads it -/
noncomputable def OneWord (w : World) (O : List (Addr × Obj)) (r rd : Addr) (o : Int → Tok → Obj) (vs : List Value) (a : Addr) (q low : PySem.Str) (x0 : Addr × Obj) : Prop :=
  ∀ {z' : Int} {tk' : Tok}, TokZ w.params O vs z' "word" q → Tell w 5 40 155 [.ref r, .ref a] ((rd, o z' tk') :: x0 :: O) (fun x news' => ∃ u9, x = .str low u9 ∧ ∃ t, news' = (rd, o (z' + 1) t) :: x0 :: O)
theorem OneWord.tell {w : World} {O : List (Addr × Obj)} {r rd : Addr} {o : Int → Tok → Obj} {vs : List Value} {a : Addr} {q low : PySem.Str} {x0 : Addr × Obj} (H : OneWord w O r rd o vs a q low x0) {z' : Int} {tk' : Tok} (h : TokZ w.params O vs z' "word" q) :
    Tell w 5 40 155 [.ref r, .ref a] ((rd, o z' tk') :: x0 :: O) (fun x news' => ∃ u9, x = .str low u9 ∧ ∃ t, news' = (rd, o (z' + 1) t) :: x0 :: O) := H h
/-- an alternate key, as read_alternate reads it -/
noncomputable def AltTell (w : World) (O : List (Addr × Obj)) (r rd tl sp sd : Addr) (o : Int → Tok → Obj) (z z' : Int) (vs ps : List Value) (x0 : Obj) (S : Value → Obj) (nm : PySem.Str) (b : Bool) : Prop :=
  ∀ {tk' : Tok}, Tell w 5 40 174 [.ref r, .ref sp] ((rd, o z tk') :: (sd, x0) :: O) (AltPost w O r rd tl sp sd o z' vs ps S nm b)
theorem AltTell.tell {w : World} {O : List (Addr × Obj)} {r rd tl sp sd : Addr} {o : Int → Tok → Obj} {z z' : Int} {vs ps : List Value} {x0 : Obj} {S : Value → Obj} {nm : PySem.Str} {b : Bool} (H : AltTell w O r rd tl sp sd o z z' vs ps x0 S nm b) {tk' : Tok} :
    Tell w 5 40 174 [.ref r, .ref sp] ((rd, o z tk') :: (sd, x0) :: O) (AltPost w O r rd tl sp sd o z' vs ps S nm b) := H
theorem t_rc_access {w : World} {O : List (Addr × Obj)} {r rd tl sp sd : Addr} {o : Int → Tok → Obj} {z : Int} {tk : Tok} {vs : List Value} {aa : SC} {v0 v1 v2 v3 v4 v5 v6 v7 v8 v9 : Value} {q low : PySem.Str}
    (B0 : Both w.params O r rd tl sp sd o vs) (g0 : TokZ w.params O vs z "word" "ACCESS") (g1 : TokZ w.params O vs (z + 1) "word" "MODE") (g2 : TokZ w.params O vs (z + 1 + 1) "word" "IS") (g3 : TokZ w.params O vs (z + 1 + 1 + 1) "word" q) (hone : OneWord w O r rd o vs 120 q low (sd, SD w.params aa v0 v1 v2 v3 v4 v5 v6 v7 v8 v9)) :
    Tell w 7 60 188 [.ref r, .ref sp] ((rd, o z tk) :: (sd, SD w.params aa v0 v1 v2 v3 v4 v5 v6 v7 v8 v9) :: O)
      (fun x news' => ∃ u8, x = .str "ACCESS" u8 ∧ ∃ t u, news' = (rd, o (z + 1 + 1 + 1 + 1) t) :: (sd, SD w.params aa v0 v1 v2 (.str low u) v4 v5 v6 v7 v8 v9) :: O) := by
  have B0' := B0
  obtain ⟨hbase, hsp, hoR, hoS, hne⟩ := B0
  have hinst := hbase.inst
  have hne' := hne.symm
  obtain ⟨rc, rfl⟩ := hbase.form
  intro p loose mean mg mb dp un gd cn cs a ccd cl outer A₀ base h₀ L m s Q E B F X N T hk hdp hun ret
  refine wpAny_call ?_
  revert X N; k_fill; intro X N
  k_dflt (refine' code_def (binds := [("reader", .ref r), ("spec", .ref sp)]) ?k1 ?k2 ?k3 ?k4 ?k5 ?kA ?kF ?kK ?k6 ?k7 ?k8 ?k9 ?kB ?_ ?c2 ?c3 ?c4 ?c5; (case kA => exact rfl); (case kF => exact rfl); (case kK => assumption); (case k1 => k_asm); (case k2 => k_asm); (case k3 => k_asm); (case k4 => k_asm); (case k5 => k_asm); (case k6 => exact k_read_clause _); (case k7 => k_is); (case k8 => ktr_room); (case k9 => first | exact BindsTo.of_eq rfl | exact binds_KK (by k_in) rfl (by k_is) rfl rfl); (case c5 => decide); (case kB => exact locs rfl); (case c2 => exact rfl); (case c3 => exact rfl); (case c4 => exact rfl); k_whole; intro g' L' h' FG' F' N' B' X' T'; (try dsimp only); (try k_fold))
  (walk_at "kF"; repeat' ((first | (refine' Tell.use (OneWord.tell ?nn ?tA) ?k1 ?k2 ?k3 ?k4 ?k5 ?kK ?kd ?ku ?_; (case k1 | k2 | k3 | k4 | k5 => k_asm); (case nn => assumption); (case tA => walk_at "mT"); (case kK => first | exact rfl | assumption); (case kd => ktr_room); (case ku => ktr_units); k_whole; intro r9 n9 h9 tk9 e9 F9 N9; (obtain ⟨u9, e8, t9, e7⟩ := e9); (subst e8); (subst e7); (try dsimp only at N9); walk_at "mE") | (refine' Tell.use (t_skip_yes (o := _) ?R ?ht ?hq ?hqs ?U) ?k1 ?k2 ?k3 ?k4 ?k5 ?kK ?kd ?ku ?_; (case k1 | k2 | k3 | k4 | k5 => k_asm); (case R => walk_at "mR"); (case ht => walk_at "mT"); (case hq => first | exact split_WD | exact split_FS | walk_at "mQ"); (case hqs => walk_at "mQ"); (case U => (intro t9; k_upd)); (case kK => first | exact rfl | assumption); (case kd => ktr_room); (case ku => ktr_units); k_whole; intro r9 n9 h9 tk9 e9 F9 N9; (obtain ⟨e8, t9, e7⟩ := e9); (subst e8); (subst e7); (try dsimp only at N9); walk_at "mE") | (refine' Tell.use (t_skip_no (o := _) ?R ?ht ?hq ?hqs ?hb) ?k1 ?k2 ?k3 ?k4 ?k5 ?kK ?kd ?ku ?_; (case k1 | k2 | k3 | k4 | k5 => k_asm); (case R => walk_at "mR"); (case ht => walk_at "mT"); (case hq => first | exact split_WD | exact split_FS | walk_at "mQ"); (case hqs => walk_at "mQ"); (case hb => first | rfl | assumption | decide +kernel); (case kK => first | exact rfl | assumption); (case kd => ktr_room); (case ku => ktr_units); k_whole; intro r9 n9 h9 tk9 e9 F9 N9; (obtain ⟨e8, e7⟩ := e9); (subst e8); (subst e7); walk_at "mE")); walk_at "kF"))
  all_goals (refine ret _ _ _ _ ⟨_, rfl, _, _, rfl⟩ (by k_asm) (by k_asm))
theorem t_rc_org {w : World} {O : List (Addr × Obj)} {r rd tl sp sd : Addr} {o : Int → Tok → Obj} {z : Int} {tk : Tok} {vs : List Value} {aa : SC} {v0 v1 v2 v3 v4 v5 v6 v7 v8 v9 : Value} {q low : PySem.Str}
    (B0 : Both w.params O r rd tl sp sd o vs) (g0 : TokZ w.params O vs z "word" "ORGANIZATION") (g1 : TokZ w.params O vs (z + 1) "word" "IS") (g2 : TokZ w.params O vs (z + 1 + 1) "word" q) (hq9 : (q == (PySem.Str.ofString "LINE")) = false) (hq8 : ((PySem.Str.ofString "word") == (PySem.Str.ofString "word") && q == (PySem.Str.ofString "LINE")) = false) (hone : OneWord w O r rd o vs 119 q low (sd, SD w.params aa v0 v1 v2 v3 v4 v5 v6 v7 v8 v9)) :
    Tell w 7 60 188 [.ref r, .ref sp] ((rd, o z tk) :: (sd, SD w.params aa v0 v1 v2 v3 v4 v5 v6 v7 v8 v9) :: O)
      (fun x news' => ∃ u8, x = .str "ORGANIZATION" u8 ∧ ∃ t u, news' = (rd, o (z + 1 + 1 + 1) t) :: (sd, SD w.params aa v0 v1 (.str low u) v3 v4 v5 v6 v7 v8 v9) :: O) := by
  have B0' := B0
  obtain ⟨hbase, hsp, hoR, hoS, hne⟩ := B0
  have hinst := hbase.inst
  have hne' := hne.symm
  obtain ⟨rc, rfl⟩ := hbase.form
  intro p loose mean mg mb dp un gd cn cs a ccd cl outer A₀ base h₀ L m s Q E B F X N T hk hdp hun ret
  refine wpAny_call ?_
  revert X N; k_fill; intro X N
  k_dflt (refine' code_def (binds := [("reader", .ref r), ("spec", .ref sp)]) ?k1 ?k2 ?k3 ?k4 ?k5 ?kA ?kF ?kK ?k6 ?k7 ?k8 ?k9 ?kB ?_ ?c2 ?c3 ?c4 ?c5; (case kA => exact rfl); (case kF => exact rfl); (case kK => assumption); (case k1 => k_asm); (case k2 => k_asm); (case k3 => k_asm); (case k4 => k_asm); (case k5 => k_asm); (case k6 => exact k_read_clause _); (case k7 => k_is); (case k8 => ktr_room); (case k9 => first | exact BindsTo.of_eq rfl | exact binds_KK (by k_in) rfl (by k_is) rfl rfl); (case c5 => decide); (case kB => exact locs rfl); (case c2 => exact rfl); (case c3 => exact rfl); (case c4 => exact rfl); k_whole; intro g' L' h' FG' F' N' B' X' T'; (try dsimp only); (try k_fold))
  (walk_at "kF"; repeat' ((first | (refine' Tell.use (OneWord.tell ?nn ?tA) ?k1 ?k2 ?k3 ?k4 ?k5 ?kK ?kd ?ku ?_; (case k1 | k2 | k3 | k4 | k5 => k_asm); (case nn => assumption); (case tA => walk_at "mT"); (case kK => first | exact rfl | assumption); (case kd => ktr_room); (case ku => ktr_units); k_whole; intro r9 n9 h9 tk9 e9 F9 N9; (obtain ⟨u9, e8, t9, e7⟩ := e9); (subst e8); (subst e7); (try dsimp only at N9); walk_at "mE") | (refine' Tell.use (t_skip_yes (o := _) ?R ?ht ?hq ?hqs ?U) ?k1 ?k2 ?k3 ?k4 ?k5 ?kK ?kd ?ku ?_; (case k1 | k2 | k3 | k4 | k5 => k_asm); (case R => walk_at "mR"); (case ht => walk_at "mT"); (case hq => first | exact split_WD | exact split_FS | walk_at "mQ"); (case hqs => walk_at "mQ"); (case U => (intro t9; k_upd)); (case kK => first | exact rfl | assumption); (case kd => ktr_room); (case ku => ktr_units); k_whole; intro r9 n9 h9 tk9 e9 F9 N9; (obtain ⟨e8, t9, e7⟩ := e9); (subst e8); (subst e7); (try dsimp only at N9); walk_at "mE") | (refine' Tell.use (t_skip_no (o := _) ?R ?ht ?hq ?hqs ?hb) ?k1 ?k2 ?k3 ?k4 ?k5 ?kK ?kd ?ku ?_; (case k1 | k2 | k3 | k4 | k5 => k_asm); (case R => walk_at "mR"); (case ht => walk_at "mT"); (case hq => first | exact split_WD | exact split_FS | walk_at "mQ"); (case hqs => walk_at "mQ"); (case hb => first | rfl | assumption | decide +kernel); (case kK => first | exact rfl | assumption); (case kd => ktr_room); (case ku => ktr_units); k_whole; intro r9 n9 h9 tk9 e9 F9 N9; (obtain ⟨e8, e7⟩ := e9); (subst e8); (subst e7); walk_at "mE") | (refine' Tell.use (t_skip2_no (o := _) ?R ?ht ?hq ?hqs ?hb) ?k1 ?k2 ?k3 ?k4 ?k5 ?kK ?kd ?ku ?_; (case k1 | k2 | k3 | k4 | k5 => k_asm); (case R => walk_at "mR"); (case ht => walk_at "mT"); (case hq => first | exact split_WD | exact split_FS | walk_at "mQ"); (case hqs => walk_at "mQ"); (case hb => first | rfl | assumption | decide +kernel); (case kK => first | exact rfl | assumption); (case kd => ktr_room); (case ku => ktr_units); k_whole; intro r9 n9 h9 tk9 e9 F9 N9; (obtain ⟨e8, e7⟩ := e9); (subst e8); (subst e7); walk_at "mE")); walk_at "kF"))
  all_goals (refine ret _ _ _ _ ⟨_, rfl, _, _, rfl⟩ (by k_asm) (by k_asm))
theorem t_rc_alt {w : World} {O : List (Addr × Obj)} {r rd tl sp sd : Addr} {o : Int → Tok → Obj} {z : Int} {tk : Tok} {vs : List Value} {aa : SC} {v0 v1 v2 v3 v4 v5 v6 v7 v8 v9 : Value} {ps : List Value} {z' : Int} {S : Value → Obj} {nm : PySem.Str} {b : Bool}
    (B0 : Both w.params O r rd tl sp sd o vs) (g0 : TokZ w.params O vs z "word" "ALTERNATE") (hA : AltTell w O r rd tl sp sd o (z + 1) z' vs ps (SD w.params aa v0 v1 v2 v3 v4 v5 v6 v7 v8 v9) S nm b) :
    Tell w 7 60 188 [.ref r, .ref sp] ((rd, o z tk) :: (sd, SD w.params aa v0 v1 v2 v3 v4 v5 v6 v7 v8 v9) :: O)
      (fun x news' => ∃ u8, x = .str "ALTERNATE" u8 ∧ AltPost w O r rd tl sp sd o z' vs ps S nm b .none news') := by
  have B0' := B0
  obtain ⟨hbase, hsp, hoR, hoS, hne⟩ := B0
  have hinst := hbase.inst
  have hne' := hne.symm
  obtain ⟨rc, rfl⟩ := hbase.form
  intro p loose mean mg mb dp un gd cn cs a ccd cl outer A₀ base h₀ L m s Q E B F X N T hk hdp hun ret
  refine wpAny_call ?_
  revert X N; k_fill; intro X N
  k_dflt (refine' code_def (binds := [("reader", .ref r), ("spec", .ref sp)]) ?k1 ?k2 ?k3 ?k4 ?k5 ?kA ?kF ?kK ?k6 ?k7 ?k8 ?k9 ?kB ?_ ?c2 ?c3 ?c4 ?c5; (case kA => exact rfl); (case kF => exact rfl); (case kK => assumption); (case k1 => k_asm); (case k2 => k_asm); (case k3 => k_asm); (case k4 => k_asm); (case k5 => k_asm); (case k6 => exact k_read_clause _); (case k7 => k_is); (case k8 => ktr_room); (case k9 => first | exact BindsTo.of_eq rfl | exact binds_KK (by k_in) rfl (by k_is) rfl rfl); (case c5 => decide); (case kB => exact locs rfl); (case c2 => exact rfl); (case c3 => exact rfl); (case c4 => exact rfl); k_whole; intro g' L' h' FG' F' N' B' X' T'; (try dsimp only); (try k_fold))
  (walk_at "kF"; repeat' ((first | (refine' Tell.use (AltTell.tell ?nn) ?k1 ?k2 ?k3 ?k4 ?k5 ?kK ?kd ?ku ?_; (case k1 | k2 | k3 | k4 | k5 => k_asm); (case nn => assumption); (case kK => first | exact rfl | assumption); (case kd => ktr_room); (case ku => ktr_units); k_whole; intro r9 n9 h9 tk9 e9 F9 N9; (obtain ⟨e8, t9, ta9, p9, u9, NN9, e7, B9, m9, l9, c9⟩ := e9); (subst e8); (subst e7); (try dsimp only at N9); walk_at "mE") | (refine' Tell.use (t_skip_yes (o := _) ?R ?ht ?hq ?hqs ?U) ?k1 ?k2 ?k3 ?k4 ?k5 ?kK ?kd ?ku ?_; (case k1 | k2 | k3 | k4 | k5 => k_asm); (case R => walk_at "mR"); (case ht => walk_at "mT"); (case hq => first | exact split_WD | exact split_FS | walk_at "mQ"); (case hqs => walk_at "mQ"); (case U => (intro t9; k_upd)); (case kK => first | exact rfl | assumption); (case kd => ktr_room); (case ku => ktr_units); k_whole; intro r9 n9 h9 tk9 e9 F9 N9; (obtain ⟨e8, t9, e7⟩ := e9); (subst e8); (subst e7); (try dsimp only at N9); walk_at "mE") | (refine' Tell.use (t_skip_no (o := _) ?R ?ht ?hq ?hqs ?hb) ?k1 ?k2 ?k3 ?k4 ?k5 ?kK ?kd ?ku ?_; (case k1 | k2 | k3 | k4 | k5 => k_asm); (case R => walk_at "mR"); (case ht => walk_at "mT"); (case hq => first | exact split_WD | exact split_FS | walk_at "mQ"); (case hqs => walk_at "mQ"); (case hb => first | rfl | assumption | decide +kernel); (case kK => first | exact rfl | assumption); (case kd => ktr_room); (case ku => ktr_units); k_whole; intro r9 n9 h9 tk9 e9 F9 N9; (obtain ⟨e8, e7⟩ := e9); (subst e8); (subst e7); walk_at "mE")); walk_at "kF"))
  all_goals (refine ret _ _ _ _ ⟨_, rfl, rfl, _, _, _, _, _, rfl, by assumption, by assumption, by assumption, by assumption⟩ (by k_asm) (by k_asm))
end
section
set_option maxRecDepth 100000
set_option maxHeartbeats 4000000
set_option rowWalk.seconds 0
inductive TokPost (w : World) (O : List (Addr × Obj)) (kd wo : PySem.Str) (u1 u2 : Tok) (pl : Addr) (x : Value) (news' : List (Addr × Obj)) : Prop where
  | mk (t d : Addr) (t1 t2 t3 t4 : Tok) (e : x = .ref t) (e' : news' = (t, instObj 59 d) :: (d, TD w.params t1 t2 t3 t4 u1 u2 kd wo pl) :: O) : TokPost w O kd wo u1 u2 pl x news'
theorem t_Token {w : World} {O : List (Addr × Obj)} {kd wo : PySem.Str} {u1 u2 : Tok} {pl : Addr} :
    Tell w 5 40 59 [.str kd u1, .str wo u2, .ref pl] O (TokPost w O kd wo u1 u2 pl) := by
  intro p loose mean mg mb dp un gd cn cs a ccd cl outer A₀ base h₀ L m s Q E B F X N T hk hdp hun ret
  revert X N; k_fill; intro X N
  k_dflt (refine' call_cls ?q1 ?q2 ?q3 ?q4 ?q5 ?q6 ?_; (case q1 => k_asm); (case q2 => k_asm); (case q3 => k_asm); (case q4 => k_is); (case q5 => k_is); (case q6 => k_is); k_whole)
  intro x0 d0 h0' F0 N0 lt1 lt2
  replace lt2 := ltN lt2
  k_dflt (refine' code_def (binds := [("self", .ref x0), ("kind", .str kd u1), ("worth", .str wo u2), ("at", .ref pl), ("is_in_a", .bool false)]) ?k1 ?k2 ?k3 ?k4 ?k5 ?kA ?kF ?kK ?k6 ?k7 ?k8 ?k9 ?kB ?_ ?c2 ?c3 ?c4 ?c5; (case kA => exact rfl); (case kF => exact rfl); (case kK => assumption); (case k1 => k_asm); (case k2 => k_asm); (case k3 => k_asm); (case k4 => k_asm); (case k5 => k_asm); (case k6 => exact k_Token_init _); (case k7 => k_is); (case k8 => ktr_room); (case k9 => first | exact BindsTo.of_eq rfl | exact binds_KK (by k_in) rfl (by k_is) rfl rfl); (case c5 => decide); (case kB => exact locs rfl); (case c2 => exact rfl); (case c3 => exact rfl); (case c4 => exact rfl); k_whole; intro g' L' h' FG' F' N' B' X' T'; (try dsimp only); (try k_fold))
  walk_at "kF"
  all_goals (refine ret _ _ _ _ ⟨_, _, _, _, _, _, rfl, rfl⟩ (by k_asm) (by k_asm))
inductive RdrPost (w : World) (O : List (Addr × Obj)) (tl : Addr) (x : Value) (news' : List (Addr × Obj)) : Prop where
  | mk (r rd nd sh : Addr) (on os : Obj) (t1 t2 t3 t4 u : Tok) (e : x = .ref r) (e' : news' = (sh, os) :: (nd, on) :: (r, instObj 378 rd) :: (rd, RD w.params ⟨t1, t2, t3, t4, nd, sh⟩ tl 0 u) :: O) (h1 : ∀ p ∈ O, p.1 ≠ rd) (h2 : r ≠ rd) (h3 : nd ≠ rd) (h4 : sh ≠ rd) : RdrPost w O tl x news'
theorem t_Reader {w : World} {O : List (Addr × Obj)} {tl : Addr} :
    Tell w 5 40 378 [.ref tl] O (RdrPost w O tl) := by
  intro p loose mean mg mb dp un gd cn cs a ccd cl outer A₀ base h₀ L m s Q E B F X N T hk hdp hun ret
  revert X N; k_fill; intro X N
  k_dflt (refine' call_cls ?q1 ?q2 ?q3 ?q4 ?q5 ?q6 ?_; (case q1 => k_asm); (case q2 => k_asm); (case q3 => k_asm); (case q4 => k_is); (case q5 => k_is); (case q6 => k_is); k_whole)
  intro x0 d0 h0' F0 N0 lt1 lt2
  replace lt2 := ltN lt2
  k_dflt (refine' code_def (binds := [("self", .ref x0), ("tokens", .ref tl), ("at", .int 0 478)]) ?k1 ?k2 ?k3 ?k4 ?k5 ?kA ?kF ?kK ?k6 ?k7 ?k8 ?k9 ?kB ?_ ?c2 ?c3 ?c4 ?c5; (case kA => exact rfl); (case kF => exact rfl); (case kK => assumption); (case k1 => k_asm); (case k2 => k_asm); (case k3 => k_asm); (case k4 => k_asm); (case k5 => k_asm); (case k6 => exact k_R_init _); (case k7 => k_is); (case k8 => ktr_room); (case k9 => first | exact BindsTo.of_eq rfl | exact binds_KK (by k_in) rfl (by k_is) rfl rfl); (case c5 => decide); (case kB => exact locs rfl); (case c2 => exact rfl); (case c3 => exact rfl); (case c4 => exact rfl); k_whole; intro g' L' h' FG' F' N' B' X' T'; (try dsimp only); (try k_fold))
  walk_at "kF"
  all_goals (refine ret _ _ _ _ ⟨_, _, _, _, _, _, _, _, _, _, _, rfl, rfl, fun p hp => Nat.ne_of_lt (lt1 p hp), Nat.ne_of_gt lt2, ?_, ?_⟩ (by k_asm) (by k_asm))
  all_goals (refine neN ?_; omega)
theorem t_worded0 {w : World} {O : List (Addr × Obj)} {wd : PySem.Str} {u1 u2 : Tok} :
    Tell w 5 40 33 [.str wd u1, .str "" u2] O (fun x news' => ∃ u, x = .str "" u ∧ news' = O) := by
  intro p loose mean mg mb dp un gd cn cs a ccd cl outer A₀ base h₀ L m s Q E B F X N T hk hdp hun ret
  refine wpAny_call ?_
  revert X N; k_fill; intro X N
  k_dflt (refine' code_def (binds := [("word", .str wd u1), ("text", .str "" u2)]) ?k1 ?k2 ?k3 ?k4 ?k5 ?kA ?kF ?kK ?k6 ?k7 ?k8 ?k9 ?kB ?_ ?c2 ?c3 ?c4 ?c5; (case kA => exact rfl); (case kF => exact rfl); (case kK => assumption); (case k1 => k_asm); (case k2 => k_asm); (case k3 => k_asm); (case k4 => k_asm); (case k5 => k_asm); (case k6 => exact k_worded _); (case k7 => k_is); (case k8 => ktr_room); (case k9 => first | exact BindsTo.of_eq rfl | exact binds_KK (by k_in) rfl (by k_is) rfl rfl); (case c5 => decide); (case kB => exact locs rfl); (case c2 => exact rfl); (case c3 => exact rfl); (case c4 => exact rfl); k_whole; intro g' L' h' FG' F' N' B' X' T'; (try dsimp only); (try k_fold))
  walk_at "kF"
  all_goals (refine ret _ _ _ _ ⟨_, rfl, rfl⟩ (by k_asm) (by k_asm))
theorem t_worded1 {w : World} {O : List (Addr × Obj)} {wd x : PySem.Str} {u1 u2 : Tok} (hx : (x == (PySem.Str.ofString "")) = false) (h1 : wd.length ≤ 100) (h2 : x.length ≤ 100) :
    Tell w 5 40 33 [.str wd u1, .str x u2] O (fun v news' => ∃ u, v = .str (wd ++ " " ++ x) u ∧ news' = O) := by
  intro p loose mean mg mb dp un gd cn cs a ccd cl outer A₀ base h₀ L m s Q E B F X N T hk hdp hun ret
  refine wpAny_call ?_
  revert X N; k_fill; intro X N
  k_dflt (refine' code_def (binds := [("word", .str wd u1), ("text", .str x u2)]) ?k1 ?k2 ?k3 ?k4 ?k5 ?kA ?kF ?kK ?k6 ?k7 ?k8 ?k9 ?kB ?_ ?c2 ?c3 ?c4 ?c5; (case kA => exact rfl); (case kF => exact rfl); (case kK => assumption); (case k1 => k_asm); (case k2 => k_asm); (case k3 => k_asm); (case k4 => k_asm); (case k5 => k_asm); (case k6 => exact k_worded _); (case k7 => k_is); (case k8 => ktr_room); (case k9 => first | exact BindsTo.of_eq rfl | exact binds_KK (by k_in) rfl (by k_is) rfl rfl); (case c5 => decide); (case kB => exact locs rfl); (case c2 => exact rfl); (case c3 => exact rfl); (case c4 => exact rfl); k_whole; intro g' L' h' FG' F' N' B' X' T'; (try dsimp only); (try k_fold))
  walk_at "kF"
  all_goals (refine ret _ _ _ _ ⟨_, rfl, rfl⟩ (by k_asm) (by k_asm))
theorem t_quoted {w : World} {O : List (Addr × Obj)} {x : PySem.Str} {u2 : Tok} (hx : Txt.replace x "\"" "\"\"" = x) (h2 : x.length ≤ 100) :
    Tell w 5 40 70 [.str x u2] O (fun v news' => ∃ u, v = .str ("\"" ++ x ++ "\"") u ∧ news' = O) := by
  have h3 : (Txt.replace x "\"" "\"\"").length ≤ 100 := by rw [hx]; exact h2
  intro p loose mean mg mb dp un gd cn cs a ccd cl outer A₀ base h₀ L m s Q E B F X N T hk hdp hun ret
  refine wpAny_call ?_
  revert X N; k_fill; intro X N
  k_dflt (refine' code_def (binds := [("text", .str x u2)]) ?k1 ?k2 ?k3 ?k4 ?k5 ?kA ?kF ?kK ?k6 ?k7 ?k8 ?k9 ?kB ?_ ?c2 ?c3 ?c4 ?c5; (case kA => exact rfl); (case kF => exact rfl); (case kK => assumption); (case k1 => k_asm); (case k2 => k_asm); (case k3 => k_asm); (case k4 => k_asm); (case k5 => k_asm); (case k6 => exact k_quoted _); (case k7 => k_is); (case k8 => ktr_room); (case k9 => first | exact BindsTo.of_eq rfl | exact binds_KK (by k_in) rfl (by k_is) rfl rfl); (case c5 => decide); (case kB => exact locs rfl); (case c2 => exact rfl); (case c3 => exact rfl); (case c4 => exact rfl); k_whole; intro g' L' h' FG' F' N' B' X' T'; (try dsimp only); (try k_fold))
  walk_at "kF"
  all_goals (refine ret _ _ _ _ ⟨_, by rw [hx], rfl⟩ (by k_asm) (by k_asm))
end
section
set_option maxRecDepth 100000
set_option maxHeartbeats 4000000
set_option rowWalk.seconds 0
/-- the alternates as data -/
noncomputable def pairsL (al : List (PySem.Str × Bool)) : List PyData := al.map fun p => .tuple [.str p.1, .bool p.2]
theorem PairsAt.reads {h₀ h : Heap} {L : Addr} {news : List (Addr × Obj)} {ps : List Value} {al : List (PySem.Str × Bool)} (N : News h₀ L h news) (x : PairsAt news ps al) : ∃ as, ReadsAll h ps (pairsL al) as := by
  induction x with
  | nil => exact ⟨_, .nil⟩
  | cons hm _ ih =>
    obtain ⟨as, r⟩ := ih
    exact ⟨_, .cons (reads_tuple_at (N.get hm) rfl rfl (.cons (.str _ _) (.cons (.bool _) .nil))) r⟩
theorem pairs_lay : ∀ al : List (PySem.Str × Bool), (al.all fun p => PyData.strOk p.1) = true → PyData.canLayAll0 (pairsL al) = true ∧ PyData.depthAll (pairsL al) ≤ 1
  | [], _ => ⟨rfl, by decide⟩
  | p :: r, hok => by
    rw [List.all_cons, Bool.and_eq_true] at hok
    obtain ⟨h1, h2⟩ := pairs_lay r hok.2
    have h3 := hok.1
    unfold pairsL at *
    simp only [List.map_cons, PyData.canLayAll0, PyData.canLay0, PyData.depthAll, PyData.depth, h1, h3, Bool.and_true]
    exact ⟨trivial, Nat.max_le.mpr ⟨by decide, h2⟩⟩
theorem shaped_pairs (al : List (PySem.Str × Bool)) (hok : (al.all fun p => PyData.strOk p.1) = true) : SeqAt.shaped (.tuple (pairsL al)) = true := by
  obtain ⟨h1, h2⟩ := pairs_lay al hok
  unfold SeqAt.shaped
  simp only [PyData.canLay0, PyData.depth, h1, Bool.true_and]
  exact decide_eq_true (by omega)
theorem ne_pairs0 {prog : Program} {w : World} {A : Around} {E : Value → Shared → Prop} {s : Shared} {h₀ : Heap} {L ta tb : Addr} {news : List (Addr × Obj)} {ps : List Value} {al : List (PySem.Str × Bool)} {Q : Value → Shared → Prop}
    (N : News h₀ L s.heap news) (ht : (ta, tupO ps) ∈ news) (hp : PairsAt news ps al) (hb : (tb, tupO []) ∈ news) (hok : (al.all fun p => PyData.strOk p.1) = true) (hu : A.units + 64 < cLine) (h : Q (.bool (!al.isEmpty)) s) :
    wpAny (model prog w) A (compareOp .NotEq (.ref ta) (.ref tb)) Q E s := by
  obtain ⟨as, ra⟩ := hp.reads N
  refine ne_dataH (reads_tuple_at (N.get ht) rfl rfl (by simpa using ra)) (reads_tuple_at (N.get hb) rfl rfl .nil) (shaped_pairs al hok) rfl hu ?_
  cases al with
  | nil => exact h
  | cons p r => exact h
/-- whether keys and organization go together, as is_whole_spec says -/
noncomputable def whole (path org acc key rel : PySem.Str) (al : List (PySem.Str × Bool)) : Bool :=
  if path == (PySem.Str.ofString "") || ((key != (PySem.Str.ofString "")) != (org == (PySem.Str.ofString "indexed"))) then false
  else if !al.isEmpty && org != (PySem.Str.ofString "indexed") then false
  else if org != (PySem.Str.ofString "relative") then rel == (PySem.Str.ofString "") && (org == (PySem.Str.ofString "indexed") || acc == (PySem.Str.ofString "sequential"))
  else rel != (PySem.Str.ofString "") || acc == (PySem.Str.ofString "sequential")
local macro_rules | `(tactic| walk_at "compareOp NotEq ref ref") => `(tactic| (k_here; (with_reducible show wpAny _ _ (compareOp CmpOp.NotEq (Value.ref _) (Value.ref _)) _ _ _); k_dflt (refine ne_pairs0 (by k_asm) (by k_mem) (by first | assumption | exact PairsAt.mono (by assumption) (by (intro p9 hp9; (repeat (first | exact hp9 | refine List.mem_cons_of_mem _ ?_))))) (by k_mem) (by assumption) (by ke_room) ?_)))
theorem t_whole {w : World} {O : List (Addr × Obj)} {sp sd ta : Addr} {aa : SC} {u1 u2 u3 u4 u6 : Tok} {v0 v7 v8 v9 : Value} {path org acc key rel : PySem.Str} {ps : List Value} {al : List (PySem.Str × Bool)}
    (hsp : (sp, instObj 144 sd) ∈ O) (hsd : (sd, SD w.params aa v0 (.str path u1) (.str org u2) (.str acc u3) (.str key u4) (.ref ta) (.str rel u6) v7 v8 v9) ∈ O) (hta : (ta, tupO ps) ∈ O) (hps : PairsAt O ps al) (hok : (al.all fun p => PyData.strOk p.1) = true) :
    Tell w 5 200 195 [.ref sp] O (fun x news' => x = .bool (whole path org acc key rel al) ∧ news' = O) := by
  intro p loose mean mg mb dp un gd cn cs a ccd cl outer A₀ base h₀ L m s Q E B F X N T hk hdp hun ret
  refine wpAny_call ?_
  revert X N; k_fill; intro X N
  k_dflt (refine' code_def (binds := [("spec", .ref sp)]) ?k1 ?k2 ?k3 ?k4 ?k5 ?kA ?kF ?kK ?k6 ?k7 ?k8 ?k9 ?kB ?_ ?c2 ?c3 ?c4 ?c5; (case kA => exact rfl); (case kF => exact rfl); (case kK => assumption); (case k1 => k_asm); (case k2 => k_asm); (case k3 => k_asm); (case k4 => k_asm); (case k5 => k_asm); (case k6 => exact k_is_whole_spec _); (case k7 => k_is); (case k8 => ktr_room); (case k9 => first | exact BindsTo.of_eq rfl | exact binds_KK (by k_in) rfl (by k_is) rfl rfl); (case c5 => decide); (case kB => exact locs rfl); (case c2 => exact rfl); (case c3 => exact rfl); (case c4 => exact rfl); k_whole; intro g' L' h' FG' F' N' B' X' T'; (try dsimp only); (try k_fold))
  walk_at "kF"
  all_goals (refine ret _ _ _ _ ⟨?_, rfl⟩ (by k_asm) (by first | k_asm | exact cb_drop (by assumption) (by (intro p9 hp9; (repeat (first | exact hp9 | refine List.mem_cons_of_mem _ ?_))))))
  all_goals (simp_all [whole]; done)
end
section
set_option maxRecDepth 100000
set_option maxHeartbeats 4000000
set_option rowWalk.seconds 0
local macro_rules | `(tactic| walk_at "compareOp NotEq ref ref") => `(tactic| (k_here; (with_reducible show wpAny _ _ (compareOp CmpOp.NotEq (Value.ref _) (Value.ref _)) _ _ _); k_dflt (refine ne_pairs0 (by k_asm) (by k_mem) (by first | assumption | exact PairsAt.mono (by assumption) (by (intro p9 hp9; (repeat (first | exact hp9 | refine List.mem_cons_of_mem _ ?_))))) (by k_mem) (by assumption) (by ke_room) ?_)))
/-- the law's own table -/
noncomputable def together (org acc key rel : PySem.Str) (al : List (PySem.Str × Bool)) : Bool :=
  if org == (PySem.Str.ofString "indexed") then key != (PySem.Str.ofString "") && rel == (PySem.Str.ofString "")
  else if key != (PySem.Str.ofString "") || !al.isEmpty then false
  else if org == (PySem.Str.ofString "sequential") then acc == (PySem.Str.ofString "sequential") && rel == (PySem.Str.ofString "")
  else acc == (PySem.Str.ofString "sequential") || rel != (PySem.Str.ofString "")
theorem t_goes {w : World} {O : List (Addr × Obj)} {ta : Addr} {u2 u3 u4 u6 : Tok} {org acc key rel : PySem.Str} {ps : List Value} {al : List (PySem.Str × Bool)}
    (hta : (ta, tupO ps) ∈ O) (hps : PairsAt O ps al) (hok : (al.all fun p => PyData.strOk p.1) = true) :
    Tell w 5 200 422 [.str org u2, .str acc u3, .str key u4, .ref ta, .str rel u6] O (fun x news' => x = .bool (together org acc key rel al) ∧ news' = O) := by
  intro p loose mean mg mb dp un gd cn cs a ccd cl outer A₀ base h₀ L m s Q E B F X N T hk hdp hun ret
  refine wpAny_call ?_
  revert X N; k_fill; intro X N
  k_dflt (refine' code_def (binds := [("organization", .str org u2), ("access", .str acc u3), ("key", .str key u4), ("alternates", .ref ta), ("relative_key", .str rel u6)]) ?k1 ?k2 ?k3 ?k4 ?k5 ?kA ?kF ?kK ?k6 ?k7 ?k8 ?k9 ?kB ?_ ?c2 ?c3 ?c4 ?c5; (case kA => exact rfl); (case kF => exact rfl); (case kK => assumption); (case k1 => k_asm); (case k2 => k_asm); (case k3 => k_asm); (case k4 => k_asm); (case k5 => k_asm); (case k6 => exact k_law_goes_together _); (case k7 => k_is); (case k8 => ktr_room); (case k9 => first | exact BindsTo.of_eq rfl | exact binds_KK (by k_in) rfl (by k_is) rfl rfl); (case c5 => decide); (case kB => exact locs rfl); (case c2 => exact rfl); (case c3 => exact rfl); (case c4 => exact rfl); k_whole; intro g' L' h' FG' F' N' B' X' T'; (try dsimp only); (try k_fold))
  walk_at "kF"
  all_goals (refine ret _ _ _ _ ⟨?_, rfl⟩ (by k_asm) (by first | k_asm | exact cb_drop (by assumption) (by (intro p9 hp9; (repeat (first | exact hp9 | refine List.mem_cons_of_mem _ ?_))))))
  all_goals (simp_all [together]; done)
inductive LawSpecPost (w : World) (O : List (Addr × Obj)) (v0 v1 v2 v3 v4 v5 v6 v7 : Value) (x : Value) (news' : List (Addr × Obj)) : Prop where
  | mk (sp sd t0 tr : Addr) (aa : SC) (e : x = .ref sp) (e' : news' = (tr, tupO []) :: (t0, tupO []) :: (sp, instObj 144 sd) :: (sd, SD w.params aa v0 v1 v2 v3 v4 v5 v6 v7 (.bool false) (.ref tr)) :: O) : LawSpecPost w O v0 v1 v2 v3 v4 v5 v6 v7 x news'
theorem t_law_spec {w : World} {O : List (Addr × Obj)} {ta : Addr} {u0 u1 u2 u3 u4 u6 u7 : Tok} {name path org acc key rel status : PySem.Str} :
    Tell w 7 200 401 [.str name u0, .str path u1, .str org u2, .str acc u3, .str key u4, .ref ta, .str rel u6, .str status u7] O
      (LawSpecPost w O (.str name u0) (.str path u1) (.str org u2) (.str acc u3) (.str key u4) (.ref ta) (.str rel u6) (.str status u7)) := by
  intro p loose mean mg mb dp un gd cn cs a ccd cl outer A₀ base h₀ L m s Q E B F X N T hk hdp hun ret
  refine wpAny_call ?_
  revert X N; k_fill; intro X N
  k_dflt (refine' code_def (binds := [("name", .str name u0), ("path", .str path u1), ("organization", .str org u2), ("access", .str acc u3), ("key", .str key u4), ("alternates", .ref ta), ("relative_key", .str rel u6), ("status", .str status u7)]) ?k1 ?k2 ?k3 ?k4 ?k5 ?kA ?kF ?kK ?k6 ?k7 ?k8 ?k9 ?kB ?_ ?c2 ?c3 ?c4 ?c5; (case kA => exact rfl); (case kF => exact rfl); (case kK => assumption); (case k1 => k_asm); (case k2 => k_asm); (case k3 => k_asm); (case k4 => k_asm); (case k5 => k_asm); (case k6 => exact k_law_spec _); (case k7 => k_is); (case k8 => ktr_room); (case k9 => first | exact BindsTo.of_eq rfl | exact binds_KK (by k_in) rfl (by k_is) rfl rfl); (case c5 => decide); (case kB => exact locs rfl); (case c2 => exact rfl); (case c3 => exact rfl); (case c4 => exact rfl); k_whole; intro g' L' h' FG' F' N' B' X' T'; (try dsimp only); (try k_fold))
  (walk_at "kF"; repeat' ((first | (refine' Tell.use (t_FileSpec) ?k1 ?k2 ?k3 ?k4 ?k5 ?kK ?kd ?ku ?_; (case k1 | k2 | k3 | k4 | k5 => k_asm);  (case kK => first | exact rfl | assumption); (case kd => ktr_room); (case ku => ktr_units); k_whole; intro r9 n9 h9 tk9 e9 F9 N9; (obtain ⟨sp9, sd9, ta9, tr9, aa, u1, u2, u3, u4, u5, u6, e8, e7, o9, n91, n92, n93⟩ := e9); (subst e8); (subst e7); walk_at "mE")); walk_at "kF"))
  all_goals (refine ret _ _ _ _ ⟨_, _, _, _, _, rfl, rfl⟩ (by k_asm) (by first | k_asm | exact cb_drop (by assumption) (by (intro p9 hp9; (repeat (first | exact hp9 | refine List.mem_cons_of_mem _ ?_))))))
local macro_rules | `(tactic| walk_at "call type:tuple") => `(tactic| (k_here; (with_reducible show wpAny _ _ (call (Value.type _) [Value.ref _]) _ _ _); k_dflt (refine call_tuple_tup (News.isTup (by k_asm) (by k_mem)) ?_)))
theorem t_told {w : World} {O : List (Addr × Obj)} {sp sd ta tr : Addr} {aa : SC} {u0 u1 u2 u3 u4 u6 u7 : Tok} {name path org acc key rel status : PySem.Str}
    (hsp : (sp, instObj 144 sd) ∈ O) (hsd : (sd, SD w.params aa (.str name u0) (.str path u1) (.str org u2) (.str acc u3) (.str key u4) (.ref ta) (.str rel u6) (.str status u7) (.bool false) (.ref tr)) ∈ O) (htr : (tr, tupO []) ∈ O) :
    Tell w 7 200 141 [.ref sp] O (fun x news' => ∃ q1, x = .ref q1 ∧ news' = (q1, tupO [.str name u0, .str path u1, .str org u2, .str acc u3, .str key u4, .ref ta, .str rel u6, .str status u7, .bool false, .ref tr]) :: O) := by
  intro p loose mean mg mb dp un gd cn cs a ccd cl outer A₀ base h₀ L m s Q E B F X N T hk hdp hun ret
  refine wpAny_call ?_
  revert X N; k_fill; intro X N
  k_dflt (refine' code_def (binds := [("self", .ref sp)]) ?k1 ?k2 ?k3 ?k4 ?k5 ?kA ?kF ?kK ?k6 ?k7 ?k8 ?k9 ?kB ?_ ?c2 ?c3 ?c4 ?c5; (case kA => exact rfl); (case kF => exact rfl); (case kK => assumption); (case k1 => k_asm); (case k2 => k_asm); (case k3 => k_asm); (case k4 => k_asm); (case k5 => k_asm); (case k6 => exact k_FileSpec_told _); (case k7 => k_is); (case k8 => ktr_room); (case k9 => first | exact BindsTo.of_eq rfl | exact binds_KK (by k_in) rfl (by k_is) rfl rfl); (case c5 => decide); (case kB => exact locs rfl); (case c2 => exact rfl); (case c3 => exact rfl); (case c4 => exact rfl); k_whole; intro g' L' h' FG' F' N' B' X' T'; (try dsimp only); (try k_fold))
  walk_at "kF"
  all_goals (refine ret _ _ _ _ ⟨_, rfl, rfl⟩ (by k_asm) (cb_drop (by assumption) (by (intro p9 hp9; (rcases List.mem_cons.mp hp9 with e9 | hp9); (focus (subst e9; exact List.mem_cons_self ..)); (repeat (first | exact hp9 | refine List.mem_cons_of_mem _ ?_))))))
end
section
set_option maxRecDepth 100000
set_option maxHeartbeats 4000000
/-- an exception of the class C, its arguments at t -/
noncomputable abbrev excO (C t : Addr) : Obj := { cls := .ref C, data := .fields #[.ref t, .none, .none, .none, .bool false, .none] }
/-- what is asked of an exception class -/
structure ExcC (M : Model) (h : Heap) (C fI : Addr) : Prop where
  obj : ∃ nm q N bs bm hdct sn sub ab col dd k0 k1 k2 k3 k5, h.get? C = some (excClassObj nm q C N bs bm hdct sn sub ab col dd k0 k1 k2 k3 k5 "Exception.__new__") ∧
    (Value.ref C :: bm).contains (.type "Exception") = true ∧ (Value.ref C :: bm).contains (.type "AttributeError") = false ∧ (Value.ref C :: bm).contains (.type "NameError") = false
  init : Looks M h (typeLookup (.ref C) "__init__") (some (.ref fI))
  fn : Looks M h (typeOf (.ref fI)) (.type "function")
section
variable {prog : Program} {w : World} {A : Around} {R : Result → Shared → Prop} {h : Heap} {g : Array GenState} {d : Drawn} {t : Nat} {os : OsState} {C fI : Addr}
theorem exc_new {rest : List Value} (X : ExcC (model prog w) h C fI) (hsz : rest.length ≤ sizeLine)
    (hq : R (.ok (.ret (.ref (h.objs.size + 1)))) ⟨(h.push { cls := .type "tuple", data := .seq rest.toArray }).push (excO C h.objs.size), g, d, t, os⟩) :
    codeAny (model prog w) A (.call (.builtin "Exception.__new__") ⟨.ref C :: rest, []⟩) R ⟨h, g, d, t, os⟩ := by
  obtain ⟨⟨nm, q, N, bs, bm, hdct, sn, sub, ab, col, dd, k0, k1, k2, k3, k5, hC, c1, c2, c3⟩, _, _⟩ := X
  have F := PySem.F.excBase_Exception
  have hstar := F.noStar
  refine codeAny_call_builtin_code (Code.quiet_builtin _ F.quiet) ?_
  simp only [checkBuiltinCall, F.newKind, F.newSplit, F.newRow]
  repeat (first | with_reducible refine wpAny_loadPart_at hC ?_ | (with_reducible refine wpAny_isSubtype_exc hC ?_; rw [c1]) | with_reducible refine wpAny_staticBase_exc hC ?_ | with_reducible refine wpAny_madeBy_exc hC ?_ | simp only [bne_self_eq_false, Bool.false_eq_true, if_false] | wp_step)
  refine codeAny_builtinAt F.entry ?_
  unfold Builtin.«BaseException.__new__»
  refine PySem.wpAt_bind ?_
  show PySem.wpAt _ _ _ (stack >>= _) _ _ _
  refine PySem.wpAt_bind (PySem.wpAt_stack fun p below => PySem.wpAt_of_wpAny ?_)
  have hends := F.ends
  wp_walk
  refine PySem.wpAt_of_wpAny ?_
  rw [F.owner]
  repeat (first | with_reducible refine wpAny_madeHere_exc F.canon hC ?_ | with_reducible refine wpAny_loadPart_at hC ?_ | (with_reducible refine wpAny_isSubtype_exc hC ?_; first | rw [c1] | rw [c2] | rw [c3]) | wp_step)
  show R _ _
  rw [Heap.size_push]
  exact hq
/-- an exception class with an __init__ of its own: it is called with the object just made -/
theorem exc_make {rest : List Value} (X : ExcC (model prog w) h C fI) (hsz : rest.length ≤ sizeLine)
    (hq : codeAny (model prog w) (A.under (.builtin "type.__call__" ⟨.ref C :: rest, []⟩)) (.call (.ref fI) ⟨.ref (h.objs.size + 1) :: rest, []⟩) (InitBack (h.objs.size + 1) R)
      ⟨(h.push { cls := .type "tuple", data := .seq rest.toArray }).push (excO C h.objs.size), g, d, t, os⟩) :
    codeAny (model prog w) A (.call (.ref C) ⟨rest, []⟩) R ⟨h, g, d, t, os⟩ := by
  have X' := X
  obtain ⟨⟨nm, q, N, bs, bm, hdct, sn, sub, ab, col, dd, k0, k1, k2, k3, k5, hC, c1, c2, c3⟩, hi, hf⟩ := X
  have f1 := tc_lookup
  have f2 := tc_bind (.ref C)
  have hT : (⟨h, g, d, t, os⟩ : Shared).TypeIs (.ref C) "type" := ⟨_, hC, rfl⟩
  refine codeAny_of_tree ?_
  show wpAny _ _ (callAny (.ref C) _) _ _ _
  repeat (any_goals (first | assumption | with_reducible refine wpAny_loadPart_at hC ?_ | wp_step))
  refine ⟨rfl, ?_⟩
  refine codeAny_call_builtin_at (Code.quiet_builtin _ (by decide +kernel)) entry_typeCall (wpAny_check_type_call_sub hC ?_)
  repeat (first | with_reducible refine wpAny_loadPart_at hC ?_ | with_reducible refine wpAny_madeBy_exc hC ?_ | wp_step)
  refine exc_new X' hsz ?_
  show wpAny _ _ _ _ _ _
  have hC₁ := Heap.get?_push_of_some (excO C h.objs.size) (Heap.get?_push_of_some { cls := .type "tuple", data := .seq rest.toArray } hC)
  have kk : ∀ b o, h.get? b = some o → ((h.push { cls := .type "tuple", data := .seq rest.toArray }).push (excO C h.objs.size)).get? b = some o := fun b o e => Heap.get?_push_of_some _ (Heap.get?_push_of_some _ e)
  have hi₁ := hi.keeps kk
  have hf₁ := hf.keeps kk
  have hget : ((h.push { cls := .type "tuple", data := .seq rest.toArray }).push (excO C h.objs.size)).get? (h.objs.size + 1) = some (excO C h.objs.size) := by heap_get
  have hcC : (Value.ref C :: bm).contains (.ref C) = true := by simp
  unfold isInstance
  repeat (first | with_reducible refine wpAny_loadPart_at hget ?_ | (with_reducible refine wpAny_isSubtype_exc hC₁ ?_; rw [hcC]) | wp_step)
  refine wpAny_isSubtype_exc hC₁ ?_
  rw [hcC]
  repeat (first | with_reducible refine wpAny_loadPart_at hget ?_ | wp_step)
  refine hi₁.at ?_
  refine wpAny_holding (wpAny_bind ?_)
  unfold bindSpecial
  refine wpAny_bind (hf₁.at ?_)
  rw [if_pos (by decide)]
  refine wpAny_pure (wpAny_bind (wpAny_call (codeAny_mono hq fun r s' z => ?_)))
  rcases r with e | (v | _ | _ | _) <;> first | exact z | exact z.elim | skip
  obtain ⟨rfl, z⟩ := z
  wp_walk
  exact z
end
section
variable {prog : Program} {w : World} {A : Around} {K : Frag} {C L : Addr} {h₀ : Heap} {m : Str → Option Value} {news : List (Addr × Obj)} {s : Shared} {E : Value → Shared → Prop} {Q : Value → Shared → Prop}
/-- a call of an exception class that has an __init__ of its own, over the ledger -/
theorem call_exc {pos : List Value} {fI : Addr} (F : Fr h₀ L s.heap m) (X₀ : K.In h₀) (N : News h₀ L s.heap news) (X : ExcC (model prog w) s.heap C fI) (hsz : pos.length ≤ sizeLine)
    (h : ∀ x t h', Fr h₀ L h' m → News h₀ L h' ((x, excO C t) :: (t, tupO pos) :: news) → (∀ p ∈ news, p.1 < t) → t < x →
      codeAny (model prog w) (A.under (.builtin "type.__call__" ⟨.ref C :: pos, []⟩)) (.call (.ref fI) ⟨.ref x :: pos, []⟩) (InitBack x fun r s' => match r with | .ok (.ret v) => Q v s' | .ok _ => False | .error e => E e s') { s with heap := h' }) :
    wpAny (model prog w) A (call (.ref C) pos) Q E s := by
  obtain ⟨hh, g, d, t, os⟩ := s
  refine wpAny_call (exc_make X hsz (h _ hh.objs.size _ ((F.push _).push _) ?_ (fun p hp => Heap.lt_size (N p hp).1) (Nat.lt_succ_self _)))
  have := (N.push F { cls := .type "tuple", data := .seq pos.toArray }).push (F.push _) (excO C hh.objs.size)
  rwa [Heap.size_push] at this
theorem excC_of {h : Heap} {fI : Addr} (X : K.In h) {nm q : Str} {N : Addr} {bs bm : List Value} {hdct : Bool} {sn : List Str} {sub : List Value} {ab : Bool} {col : Option Bool} {dd : Option Addr} {k0 k1 k2 k3 k5 : Option Value}
    (hC : K.lookup C = some (excClassObj nm q C N bs bm hdct sn sub ab col dd k0 k1 k2 k3 k5 "Exception.__new__")) (c1 : (Value.ref C :: bm).contains (.type "Exception") = true) (c2 : (Value.ref C :: bm).contains (.type "AttributeError") = false) (c3 : (Value.ref C :: bm).contains (.type "NameError") = false)
    (hi : findIn K (.ref C) "__init__" = some (some (.ref fI))) (hf : typeIn K (.ref fI) = some (.type "function")) : ExcC (model prog w) h C fI :=
  ⟨⟨nm, q, N, bs, bm, hdct, sn, sub, ab, col, dd, k0, k1, k2, k3, k5, X _ _ hC, c1, c2, c3⟩, looks_findIn X hi, looks_typeIn X hf⟩
end
theorem gf_excC {w : World} {h : Heap} (X : (Mine.KK w.params).In h) : ExcC (model PySem.Challenge.rw_qd0102_01.prog w) h 116 93 :=
  by
  obtain ⟨nm, q, N, bs, bm, hdct, sn, sub, ab, col, dd, k0, k1, k2, k3, k5, e, c1, c2, c3⟩ : ∃ nm q N bs bm hdct sn sub ab col dd k0 k1 k2 k3 k5, (Mine.KK w.params).lookup 116 = some (excClassObj nm q 116 N bs bm hdct sn sub ab col dd k0 k1 k2 k3 k5 "Exception.__new__") ∧ (Value.ref 116 :: bm).contains (.type "Exception") = true ∧ (Value.ref 116 :: bm).contains (.type "AttributeError") = false ∧ (Value.ref 116 :: bm).contains (.type "NameError") = false :=
    ⟨_, _, _, _, _, _, _, _, _, _, _, _, _, _, _, _, rfl, by decide +kernel, by decide +kernel, by decide +kernel⟩
  exact excC_of X e c1 c2 c3 (by kernel_rfl) (by kernel_rfl)
end
section
set_option maxRecDepth 100000
set_option maxHeartbeats 4000000
set_option rowWalk.seconds 0
theorem strs_at {vs : List Value} {ys : List PySem.Str} (h : StrsAre vs ys) : ∀ {i : Nat} {v : Value}, vs[i]? = some v → ∃ y t, v = .str y t ∧ ys[i]? = some y := by
  induction h with
  | nil => intro i v h; simp at h
  | cons y t _ ih =>
    intro i v hv
    cases i with
    | zero => simp at hv; exact ⟨y, t, hv.symm, by simp⟩
    | succ i => simp at hv; obtain ⟨y, t, e, hy⟩ := ih hv; exact ⟨y, t, e, by simpa using hy⟩
theorem strs_len {vs : List Value} {ys : List PySem.Str} (h : StrsAre vs ys) : vs.length = ys.length := by
  induction h with
  | nil => rfl
  | cons _ _ _ ih => simp [ih]
/-- the texts that are not empty -/
noncomputable def kept (ys : List PySem.Str) : List PySem.Str := ys.filter fun y => y != (PySem.Str.ofString "")
theorem comp_kept {prog : Program} {w : World} {A : Around} {s : Shared} {h₀ : Heap} {L : Addr} {m : PySem.Str → Option Value} {env : PySem.Env} {p1 p2 p3 p4 : Pos} {k0 : Nat} {scope : Scope} {cl : List (PySem.Str × Addr)}
    {ax : Addr} {vs : List Value} {ys : List PySem.Str} {news : List (Addr × Obj)} {Fin : List Value → List (Addr × Obj) → Prop}
    (hk : ∀ C, (compEnvC scope cl C env).scope.kind = .function) (hl : ∀ C, (compEnvC scope cl C env).kindOf "part" = some .local)
    (hv : StrsAre vs ys) (hS : LCg.SrcAt h₀ ax vs.toArray news) (hfin : ∀ out, StrsAre out (kept ys) → Fin out news) :
    LCt.CompRestT prog w A h₀ L m env (.Compare (.Name "part" p1) [.NotEq] [.Constant (.str (PySem.Str.ofString "")) k0 p2] p3) (.Name "part" p4) "part" scope cl s (LCg.SrcAt h₀ ax vs.toArray) (fun i v => vs.toArray[i]? = some v) Fin vs.toArray.size 0 [] news := by
  have all : ∀ k i out, i + k = vs.length → StrsAre out (kept (ys.take i)) →
      LCt.CompRestT prog w A h₀ L m env (.Compare (.Name "part" p1) [.NotEq] [.Constant (.str (PySem.Str.ofString "")) k0 p2] p3) (.Name "part" p4) "part" scope cl s (LCg.SrcAt h₀ ax vs.toArray) (fun i v => vs.toArray[i]? = some v) Fin k i out news := by
    intro k
    induction k with
    | zero =>
      intro i out hi hy
      refine LCt.CompRestT.zero (hfin out ?_)
      rw [List.take_of_length_le (by rw [← strs_len hv]; omega)] at hy
      exact hy
    | succ k ih =>
      intro i out hi hy
      refine LCt.CompRestT.succ ?_
      intro v I oI C oC D m₂ h tk E' hP hC hx F N off ne
      have hv' : vs[i]? = some v := by simpa using hP
      obtain ⟨y, t, rfl, hyi⟩ := strs_at hv hv'
      have e : kept (ys.take (i + 1)) = kept (ys.take i) ++ kept [y] := by
        rw [List.take_add_one, hyi]
        unfold kept
        rw [List.filter_append]; rfl
      refine wpAny_isTrue_Compare1 (LCgL.ld_own N (List.mem_cons_of_mem _ (List.mem_cons_self ..)) hC hx ?_ (hk C) (hl C) (by decide))
      refine wpAny_Constant_str (ne_str (wpAny_truthy_bool ?_))
      by_cases hb : (y != (PySem.Str.ofString "")) = true
      · rw [if_pos hb]
        refine LCgL.ld_own N (List.mem_cons_of_mem _ (List.mem_cons_self ..)) hC hx ?_ (hk C) (hl C) (by decide)
        refine LCg.CompEnd.intro F N news (fun p hp => hp) off hS (ih (i + 1) _ (by omega) ?_)
        rw [e, show kept [y] = [y] by unfold kept; rw [List.filter_cons, if_pos hb]; rfl]
        exact strs_snoc hy
      · rw [if_neg hb]
        refine LCg.CompEnd.intro F N news (fun p hp => hp) off hS (ih (i + 1) _ (by omega) ?_)
        rw [e, show kept [y] = [] by unfold kept; rw [List.filter_cons, if_neg hb]; rfl, List.append_nil]
        exact hy
  have hsz : vs.toArray.size = vs.length := by simp
  rw [hsz]
  exact all _ 0 [] (by omega) .nil
theorem kept_weight (ys : List PySem.Str) : ((kept ys).map (·.length)).sum + (kept ys).length ≤ (ys.map (·.length)).sum + ys.length := by
  induction ys with
  | nil => exact Nat.le_refl _
  | cons y r ih =>
    unfold kept at *
    rw [List.filter_cons]
    split
    · simp only [List.map_cons, List.sum_cons, List.length_cons]; omega
    · simp only [List.map_cons, List.sum_cons, List.length_cons]; omega
local macro_rules | `(tactic| walk_at "eval ListComp") => `(tactic| (k_here; k_dflt (refine LCt.ListComp_T (F₀ := by k_asm) (by rfl) (by decide) (by rfl) (by decide) (by rfl) ?_)))
theorem t_joined {w : World} {O : List (Addr × Obj)} {l : Addr} {vs : List Value} {n : Nat} {ys : List PySem.Str}
    (hl : (l, listOf vs.toArray n) ∈ O) (hv : StrsAre vs ys) (hw : (ys.map (·.length)).sum + ys.length ≤ 1048576) :
    Tell w 7 100 26 [.ref l] O (fun x news' => ∃ u, x = .str (Txt.join (PySem.Str.ofString " ") (kept ys)) u ∧ news' = O) := by
  have hw2 := Nat.le_trans (kept_weight ys) hw
  intro p loose mean mg mb dp un gd cn cs a ccd cl outer A₀ base h₀ L m s Q E B F X N T hk hdp hun ret
  refine wpAny_call ?_
  revert X N; k_fill; intro X N
  k_dflt (refine' code_def (binds := [("parts", .ref l)]) ?k1 ?k2 ?k3 ?k4 ?k5 ?kA ?kF ?kK ?k6 ?k7 ?k8 ?k9 ?kB ?_ ?c2 ?c3 ?c4 ?c5; (case kA => exact rfl); (case kF => exact rfl); (case kK => assumption); (case k1 => k_asm); (case k2 => k_asm); (case k3 => k_asm); (case k4 => k_asm); (case k5 => k_asm); (case k6 => exact k_joined _); (case k7 => k_is); (case k8 => ktr_room); (case k9 => first | exact BindsTo.of_eq rfl | exact binds_KK (by k_in) rfl (by k_is) rfl rfl); (case c5 => decide); (case kB => exact locs rfl); (case c2 => exact rfl); (case c3 => exact rfl); (case c4 => exact rfl); k_whole; intro g' L' h' FG' F' N' B' X' T'; (try dsimp only); (try k_fold))
  walk_at "kF"
  refine LCt.CompSrcT.ledger rfl (by k_asm) (by k_asm) hl (by rw [sizeLine_eq]; simp; rw [strs_len hv]; omega) fun g => comp_kept (fun C => rfl) (fun C => rfl) hv (.inr ⟨_, hl, rfl, _, rfl⟩) fun out hout => ?_
  intro D9 h' tk' F' N' o1
  walk_at "kF"
  refine join_listW (items := out.toArray) ⟨_, (N' _ (List.mem_cons_self ..)).1, rfl, _, rfl⟩ (by simpa using hout) (by decide +kernel) hw2 ?_
  intro t9 k9
  walk_at "kF"
  exact ret _ _ _ _ ⟨_, rfl, rfl⟩ (by k_asm) (cb_drop (by assumption) (by (intro p9 hp9; (repeat (first | exact hp9 | refine List.mem_cons_of_mem _ ?_)))))
end
section
set_option maxRecDepth 100000
set_option maxHeartbeats 4000000
set_option rowWalk.seconds 0
/-- a loop over pairs, turn by turn: J says what holds behind each turn -/
theorem items_fold {prog : Program} {w : World} {A : Around} {E : Value → Shared → Prop} {h₀ : Heap} {env : PySem.Env} {target : PySem.Expr} {body : List PySem.Stmt} {Q : Flow → Shared → Prop} {s : Shared} {ws : List (Addr × String)} {keep O : List (Addr × Obj)} {tot : Nat}
    (J : List (PySem.Str × Bool) → (PySem.Str → Option Value) → List (Addr × Obj) → Prop) (P : PySem.Str × Bool → Prop)
    (step : ∀ (done : List (PySem.Str × Bool)) (n : PySem.Str) (b : Bool) (p : Addr) (u : Tok) (m : PySem.Str → Option Value) (news : List (Addr × Obj)) (R : (PySem.Str → Option Value) → List (Addr × Obj) → Prop),
      J done m news → P (n, b) → done.length < tot → (p, tupO [.str n u, .bool b]) ∈ O → (∀ m' news', J (done ++ [(n, b)]) m' news' → R m' news') →
      ∀ h tk, Fr h₀ env.locals h m → AllObj ws (fun its => News h₀ env.locals h (its ++ news) →
      wpAny (model prog w) A (assign target env (.ref p)) (fun _ s₂ => wpAny (model prog w) A (execs body env) (UnrPostW h₀ env.locals { s with heap := h, toks := tk } its (fun m' n' => SubL keep n' ∧ R m' n') Q) E s₂) E { s with heap := h, toks := tk })) :
    ∀ (ps : List Value) (al done : List (PySem.Str × Bool)) (m : PySem.Str → Option Value) (news : List (Addr × Obj)), PairsAt O ps al → (∀ q ∈ al, P q) → (done ++ al).length ≤ tot → J done m news →
      (∀ m' news' h tk, J (done ++ al) m' news' → Fr h₀ env.locals h m' → News h₀ env.locals h news' → Q .next { s with heap := h, toks := tk }) →
      ItemsRest prog w A E h₀ env target body Q s ws keep (ps.map .val) m news := by
  intro ps al done m news hp hP hlen hJ fin
  induction hp generalizing done m news with
  | nil =>
    refine ItemsRest.zero fun h tk F N => fin m news h tk ?_ F N
    rw [List.append_nil]
    exact hJ
  | @cons p n u b ps al hm _ ih =>
    refine ItemsRest.val fun h tk F => step done n b p u m news _ hJ (hP _ (List.mem_cons_self ..)) (by simp at hlen; omega) hm (fun m' news' hJ' => ?_) h tk F
    refine ih (done ++ [(n, b)]) m' news' (fun q hq => hP q (List.mem_cons_of_mem _ hq)) (by simpa using hlen) hJ' fun m'' news'' h tk hJ'' => fin m'' news'' h tk ?_
    rw [List.append_assoc] at hJ''
    exact hJ''
local macro_rules | `(tactic| walk_at "exec For Tuple Attribute cons nil") => `(tactic| (k_here; (rename Fr _ _ _ _ => lF'); (with_unfolding_all refine' For_turns lF' ?_; k_whole)))
theorem Tell.mono {w : World} {D U : Nat} {f : Addr} {args : List Value} {news : List (Addr × Obj)} {post post' : Value → List (Addr × Obj) → Prop} (h : Tell w D U f args news post) (hp : ∀ r n, post r n → post' r n) : Tell w D U f args news post' := by
  intro p loose mean mg mb dp un gd cn cs a ccd cl outer A₀ base h₀ L m s Q E b1 b2 b3 b4 b5 b6 b7 b8 ret
  exact h dp un gd cn cs a ccd cl outer A₀ base h₀ L m s Q E b1 b2 b3 b4 b5 b6 b7 b8 fun r n h' tk' hp' => ret r n h' tk' (hp _ _ hp')
/-- what worded answers -/
noncomputable def wordT (wd x : PySem.Str) : PySem.Str := if x == (PySem.Str.ofString "") then (PySem.Str.ofString "") else wd ++ (PySem.Str.ofString " ") ++ x
theorem t_worded {w : World} {O : List (Addr × Obj)} {wd x : PySem.Str} {u1 u2 : Tok} (h1 : wd.length ≤ 100) (h2 : x.length ≤ 100) :
    Tell w 5 40 33 [.str wd u1, .str x u2] O (fun v news' => ∃ u, v = .str (wordT wd x) u ∧ news' = O) := by
  by_cases hx : (x == (PySem.Str.ofString "")) = true
  · have e : x = PySem.Str.ofString "" := by simpa using hx
    subst e
    exact Tell.mono t_worded0 fun v n h => h
  · have hx' : (x == (PySem.Str.ofString "")) = false := by simpa using hx
    refine Tell.mono (t_worded1 hx' h1 h2) fun v n h => ?_
    obtain ⟨u, e, r⟩ := h
    refine ⟨u, ?_, r⟩
    rw [e]
    unfold wordT
    rw [hx']
    rfl
local macro_rules | `(tactic| walk_at "pyIter ref") => `(tactic| (k_here; (with_reducible show wpAny _ _ (pyIter (Value.ref _)) (fun it s₂ => TurnsAt _ _ _ _ _ _ _ _ _ it s₂) _ _); (with_unfolding_all refine' iter_tupTurns ?hh ?F ?N ?hm ?hc ?hd ?_; (case hh => exact rfl); (case F => k_asm); (case N => k_asm); (case hm => k_mem); (case hc => exact rfl); (case hd => exact rfl)); intro I' hI'))
local macro_rules | `(tactic| walk_at "ItemsRest") => `(tactic| fail "here")
/-- the parts ahead of the alternates -/
noncomputable def showPre (name path org acc key : PySem.Str) : List PySem.Str :=
  [(PySem.Str.ofString "SELECT ") ++ name ++ (PySem.Str.ofString " ASSIGN TO ") ++ ((PySem.Str.ofString "\"") ++ path ++ (PySem.Str.ofString "\"")), (PySem.Str.ofString "ORGANIZATION IS ") ++ Txt.upper org, (PySem.Str.ofString "ACCESS MODE IS ") ++ Txt.upper acc, wordT (PySem.Str.ofString "RECORD KEY IS") key]
theorem m_split2 {m : PySem.Str → Option Value} {a b : PySem.Str} {va vb : Value} (ha : m a = some va) (hb : m b = some vb) : ∃ m9 : PySem.Str → Option Value, m = fun y => if y = a then some va else if y = b then some vb else m9 y := by
  refine ⟨m, funext fun y => ?_⟩
  by_cases h : y = a
  · subst h; rw [if_pos rfl, ha]
  · rw [if_neg h]
    by_cases h2 : y = b
    · subst h2; rw [if_pos rfl, hb]
    · rw [if_neg h2]
noncomputable def altT (q : PySem.Str × Bool) : PySem.Str := (PySem.Str.ofString "ALTERNATE RECORD KEY IS ") ++ q.1 ++ (if q.2 then (PySem.Str.ofString " WITH DUPLICATES") else (PySem.Str.ofString ""))
theorem off_head {l I : Addr} {x y : Obj} {O : List (Addr × Obj)} (h : ∀ p ∈ (l, x) :: O, p.1 < I) : ∀ p ∈ (l, y) :: O, p.1 < I := fun p hp => by
  rcases List.mem_cons.mp hp with rfl | hp
  · exact h (l, x) (List.mem_cons_self ..)
  · exact h p (List.mem_cons_of_mem _ hp)
theorem strs_concat {vs : List Value} {pre : List PySem.Str} {done : List (PySem.Str × Bool)} {q : PySem.Str × Bool} {t : Tok} (h : StrsAre vs (pre ++ done.map altT)) : StrsAre (vs.toArray.toList.concat (.str (altT q) t)) (pre ++ (done ++ [q]).map altT) := by
  have e : vs.toArray.toList.concat (.str (altT q) t) = vs ++ [.str (altT q) t] := by simp
  rw [e, List.map_append, ← List.append_assoc]
  exact strs_snoc h
/-- all the parts -/
noncomputable def showParts (name path org acc key rel status : PySem.Str) (al : List (PySem.Str × Bool)) : List PySem.Str :=
  (showPre name path org acc key ++ al.map altT ++ [wordT (PySem.Str.ofString "RELATIVE KEY IS") rel]) ++ [wordT (PySem.Str.ofString "FILE STATUS IS") status, (PySem.Str.ofString ".")]
noncomputable def showText (name path org acc key rel status : PySem.Str) (al : List (PySem.Str × Bool)) : PySem.Str := Txt.join (PySem.Str.ofString " ") (kept (showParts name path org acc key rel status al))
/-- what holds behind each alternate shown -/
inductive ShowJ (D sp : Addr) (pre : List PySem.Str) (O : List (Addr × Obj)) (done : List (PySem.Str × Bool)) (m : PySem.Str → Option Value) (news : List (Addr × Obj)) : Prop where
  | mk (q1 : m (PySem.Str.ofString "parts") = some (.ref D)) (q2 : m (PySem.Str.ofString "spec") = some (.ref sp)) (vs : List Value) (c : Nat) (h1 : StrsAre vs (pre ++ done.map altT)) (h2 : vs.length ≤ 10 + done.length) (e : news = (D, listOf vs.toArray c) :: O) : ShowJ D sp pre O done m news
theorem showJ_step {D sp : Addr} {pre : List PySem.Str} {O : List (Addr × Obj)} {done : List (PySem.Str × Bool)} {m : PySem.Str → Option Value} {vs : List Value} {c : Nat} (q : PySem.Str × Bool) {t : Tok} {sh : PySem.Str} (e : sh = altT q)
    (hp1 : m (PySem.Str.ofString "parts") = some (.ref D)) (hp2 : m (PySem.Str.ofString "spec") = some (.ref sp)) (hvs : StrsAre vs (pre ++ done.map altT)) (hlen : vs.length ≤ 10 + done.length) :
    ShowJ D sp pre O (done ++ [q]) m ((D, listOf (vs.toArray.push (.str sh t)) (c + 1)) :: O) := by
  subst e
  refine ⟨hp1, hp2, vs ++ [.str (altT q) t], c + 1, ?_, ?_, by rw [List.push_toArray]⟩
  · rw [List.map_append, ← List.append_assoc]
    exact strs_snoc hvs
  · rw [List.length_append, List.length_append, List.length_singleton, List.length_singleton]; omega
theorem t_show {w : World} {O : List (Addr × Obj)} {sp sd ta : Addr} {aa : SC} {u0 u1 u2 u3 u4 u6 u7 : Tok} {v8 v9 : Value} {name path org acc key rel status : PySem.Str} {ps : List Value} {al : List (PySem.Str × Bool)}
    (hsp : (sp, instObj 144 sd) ∈ O) (hsd : (sd, SD w.params aa (.str name u0) (.str path u1) (.str org u2) (.str acc u3) (.str key u4) (.ref ta) (.str rel u6) (.str status u7) v8 v9) ∈ O) (hta : (ta, tupO ps) ∈ O) (hps : PairsAt O ps al)
    (hpath : Txt.replace path "\"" "\"\"" = path) (hL1 : path.length ≤ 100) (hL2 : name.length ≤ 100) (hL3 : org.length ≤ 100) (hL4 : acc.length ≤ 100) (hL5 : key.length ≤ 100) (hL6 : rel.length ≤ 100) (hL7 : status.length ≤ 100) (hal : ∀ q ∈ al, q.1.length ≤ 100) (hal2 : al.length ≤ 50)
    (hW : ((showParts name path org acc key rel status al).map (·.length)).sum + (showParts name path org acc key rel status al).length ≤ 1048576) :
    Tell w 8 200 77 [.ref sp] O (fun x news' => ∃ u, x = .str (showText name path org acc key rel status al) u ∧ news' = O) := by
  intro p loose mean mg mb dp un gd cn cs a ccd cl outer A₀ base h₀ L m s Q E B F X N T hk hdp hun ret
  refine wpAny_call ?_
  revert X N; k_fill; intro X N
  k_dflt (refine' code_def (binds := [("spec", .ref sp)]) ?k1 ?k2 ?k3 ?k4 ?k5 ?kA ?kF ?kK ?k6 ?k7 ?k8 ?k9 ?kB ?_ ?c2 ?c3 ?c4 ?c5; (case kA => exact rfl); (case kF => exact rfl); (case kK => assumption); (case k1 => k_asm); (case k2 => k_asm); (case k3 => k_asm); (case k4 => k_asm); (case k5 => k_asm); (case k6 => exact k_show_select _); (case k7 => k_is); (case k8 => ktr_room); (case k9 => first | exact BindsTo.of_eq rfl | exact binds_KK (by k_in) rfl (by k_is) rfl rfl); (case c5 => decide); (case kB => exact locs rfl); (case c2 => exact rfl); (case c3 => exact rfl); (case c4 => exact rfl); k_whole; intro g' L' h' FG' F' N' B' X' T'; (try dsimp only); (try k_fold))
  (k_steps; repeat' ((first | (refine' Tell.use (t_quoted ?hR ?hL2) ?k1 ?k2 ?k3 ?k4 ?k5 ?kK ?kd ?ku ?_; (case k1 | k2 | k3 | k4 | k5 => k_asm); (case hR => walk_at "mQ"); (case hL2 => walk_at "mQ"); (case kK => first | exact rfl | assumption); (case kd => ktr_room); (case ku => ktr_units); k_whole; intro r9 n9 h9 tk9 e9 F9 N9; (obtain ⟨u9, e8, e7⟩ := e9); (subst e8); (replace e7 := e7.symm); (subst e7); walk_at "mE") | (refine' Tell.use (t_worded ?hL1 ?hL2) ?k1 ?k2 ?k3 ?k4 ?k5 ?kK ?kd ?ku ?_; (case k1 | k2 | k3 | k4 | k5 => k_asm); (case hL1 => walk_at "mQ"); (case hL2 => walk_at "mQ"); (case kK => first | exact rfl | assumption); (case kd => ktr_room); (case ku => ktr_units); k_whole; intro r9 n9 h9 tk9 e9 F9 N9; (obtain ⟨u9, e8, e7⟩ := e9); (subst e8); (replace e7 := e7.symm); (subst e7); walk_at "mE")); k_steps))
  rename_i I9 hI9
  refine items_fold (tot := 50) (ShowJ _ sp (showPre name path org acc key) O) (fun q => q.1.length ≤ 100) ?_ _ _ [] _ _ hps hal (by simpa using hal2) ⟨rfl, rfl, [_, _, _, _], _, .cons _ _ (.cons _ _ (.cons _ _ (.cons _ _ .nil))), by simp, rfl⟩ ?_
  · intro done n b p u m news R hJ hn hd hm hR h tk F
    obtain ⟨hp1, hp2, vs, c, hvs, hlen, rfl⟩ := hJ
    obtain ⟨m9, rfl⟩ := m_split2 hp1 hp2
    ktu_objs
    cases b
    all_goals walk_at "kF"
    · exact unrEndW_top (by k_asm) (by k_asm) (off_head hI9) ⟨⟨List.mem_cons_of_mem _ hta, trivial⟩, hR _ _ (showJ_step (n, false) rfl rfl rfl hvs hlen)⟩
    · exact unrEndW_top (by k_asm) (by k_asm) (off_head hI9) ⟨⟨List.mem_cons_of_mem _ hta, trivial⟩, hR _ _ (showJ_step (n, true) rfl rfl rfl hvs hlen)⟩
  · intro m news h tk hJ F N
    obtain ⟨hp1, hp2, vs, c, hvs, hlen, rfl⟩ := hJ
    obtain ⟨m9, rfl⟩ := m_split2 hp1 hp2
    simp only [List.nil_append] at hvs hlen
    (k_steps; repeat' ((first | (refine' Tell.use (t_quoted ?hR ?hL2) ?k1 ?k2 ?k3 ?k4 ?k5 ?kK ?kd ?ku ?_; (case k1 | k2 | k3 | k4 | k5 => k_asm); (case hR => walk_at "mQ"); (case hL2 => walk_at "mQ"); (case kK => first | exact rfl | assumption); (case kd => ktr_room); (case ku => ktr_units); k_whole; intro r9 n9 h9 tk9 e9 F9 N9; (obtain ⟨u9, e8, e7⟩ := e9); (subst e8); (replace e7 := e7.symm); (subst e7); walk_at "mE") | (refine' Tell.use (t_worded ?hL1 ?hL2) ?k1 ?k2 ?k3 ?k4 ?k5 ?kK ?kd ?ku ?_; (case k1 | k2 | k3 | k4 | k5 => k_asm); (case hL1 => walk_at "mQ"); (case hL2 => walk_at "mQ"); (case kK => first | exact rfl | assumption); (case kd => ktr_room); (case ku => ktr_units); k_whole; intro r9 n9 h9 tk9 e9 F9 N9; (obtain ⟨u9, e8, e7⟩ := e9); (subst e8); (replace e7 := e7.symm); (subst e7); walk_at "mE")); k_steps))
    rename_i N9
    refine Tell.use (t_joined (n := 0) (List.mem_cons_self ..) (ys := showParts name path org acc key rel status al) ?_ hW) (by k_asm) (by k_asm) (by k_asm) N9 (by k_asm) rfl (by ktr_room) (by ktr_units) ?_
    · rename StrsAre vs _ => hvs
      simp only [List.toList_toArray, List.push_toArray]
      unfold showParts
      exact StrsAre.append' (strs_snoc hvs) (.cons _ _ (.cons _ _ .nil))
    · intro r9 n9 h9 tk9 e9 F9 N9'
      obtain ⟨u9, rfl, rfl⟩ := e9
      walk_at "kF"
      exact ret _ _ _ _ ⟨_, rfl, rfl⟩ (by k_asm) (cb_drop (by assumption) (by (intro p9 hp9; (repeat (first | exact hp9 | refine List.mem_cons_of_mem _ ?_)))))
end
section
set_option maxRecDepth 100000
set_option maxHeartbeats 4000000
section
variable {prog : Program} {w : World} {A : Around} {E : Value → Shared → Prop} {s : Shared} {K : Frag} {h₀ : Heap} {L : Addr} {m : PySem.Str → Option Value} {news : List (Addr × Obj)}
theorem exc_getm {pl : Sem Bool} {Q : Value × List Value → Shared → Prop} (F : Fr h₀ L s.heap m) (X₀ : K.In h₀)
    (e : findCls K (.type "Exception") (.type "type") (PySem.Str.ofString "__init__") = some (.val (.builtin "Exception.__init__")))
    (h : Q (.builtin "Exception.__init__", []) { s with toks := s.toks + 1 }) :
    wpAny (model prog w) A (getMethod (.type "Exception") (PySem.Str.ofString "__init__") pl) Q E s := by
  have X := X₀.keeps F.keep
  have hstub : opaqueClassAbove (.type "Exception") = pure none := by unfold opaqueClassAbove; dsimp only; rw [show Manifest.isStub "Exception" = false by decide +kernel]; rfl
  have ht : typeOf (.type "Exception") = pure (.type "type") := by first | rfl | kernel_rfl
  have L0 : Looks (model prog w) s.heap (typeOf (.type "Exception")) (.type "type") := Looks.of_pure ht
  have hg : findIn K (.type "type") "__getattribute__" = some (some (.builtin "type.__getattribute__")) := type_tga
  unfold getMethod specialOf
  refine wpAny_bind (wpAny_bind (L0.here ((looks_findIn X hg).here ?_)))
  dsimp only
  rw [if_pos canon_tga]
  refine wpAny_bind (wpAny_mono (Q := fun v => Q (v, [])) (E := E) ?_ (fun _ _ z => wpAny_pure z) fun _ _ z => z)
  refine cls_open X (Looks.of_pure hstub) L0 hg (looks_hook X (r := none) (by rfl)) (by show subIn K _ _ = _; rfl) e ?_
  show wpAny _ _ (ret _) _ _ _
  refine wpAny_pure ?_
  show wpAny _ _ (handedOut (.builtin "Exception.__init__")) _ _ _
  rw [handedOut_of (by decide +kernel)]
  exact wpAny_pure h
end
section
variable {prog : Program} {w : World} {A : Around} {E : Value → Shared → Prop} {h : Heap} {g : Array GenState} {d : Drawn} {t : Nat} {os : OsState}
variable {nm q : PySem.Str} {C N : Addr} {bs bm : List Value} {hdct : Bool} {sn : List PySem.Str} {sub : List Value} {ab : Bool} {col : Option Bool} {dd : Option Addr} {k0 k1 k2 k3 k5 : Option Value} {newId : String}
theorem exc_initc {e t0 : Addr} {rest : List Value} {Q : Value → Shared → Prop} (hC : h.get? C = some (excClassObj nm q C N bs bm hdct sn sub ab col dd k0 k1 k2 k3 k5 newId)) (c1 : (Value.ref C :: bm).contains (.type "Exception") = true)
    (he : h.get? e = some (excO C t0)) (hsz : rest.length ≤ sizeLine)
    (hq : Q .none ⟨(h.push { cls := .type "tuple", data := .seq rest.toArray }).update e (Obj.mapFields (·.setIfInBounds 0 (.ref h.objs.size))), g, d, t, os⟩) :
    wpAny (model prog w) A (call (.builtin "Exception.__init__") (.ref e :: rest)) Q E ⟨h, g, d, t, os⟩ := by
  have F := PySem.F.excBase_Exception
  have hshort := F.noStar
  have hget := Heap.get?_push_of_some { cls := .type "tuple", data := .seq rest.toArray } he
  refine wpAny_call (codeAny_call_builtin F.init.plain F.initEntry ?_)
  simp only [checkBuiltinCall, F.initKind, F.initSplit, F.initRow]
  refine wpAny_bind ?_
  unfold isInstance
  repeat (first | (with_reducible refine wpAny_loadPart_at he ?_) | with_reducible refine wpAny_loadPart_at hC ?_ | (with_reducible refine wpAny_isSubtype_exc hC ?_; rw [c1]) | wp_step)
  refine wpAny_onRaise (wpAny_of_eq (a := ()) (check_star_args _ _ _ _ _ _) ?_)
  unfold Builtin.«BaseException.__init__»
  wp_walk
  exact hq
end
open Builtin Builtin.ObjectAttr
section
variable {prog : Program} {w : World} {A : Around} {E : Value → Shared → Prop} {s : Shared} {K : Frag} {x C : Addr} {ox : Obj} {od : Option Obj} {name : PySem.Str} {expr : Bool} {Q : Value → Shared → Prop} {h₀ : Heap} {L : Addr} {m : PySem.Str → Option Value}
theorem exc_get {v : Value} (X : K.In s.heap) (I : InstAt s.heap x ox C od) (hga : findIn K (.ref C) "__getattribute__" = some (some (.builtin "BaseException.__getattribute__"))) (hgh : findIn K (.ref C) "__getattr__" = some none)
    (hb : mroIn K C (.type "BaseException") = some true) (hf : findObj K C od name = some (.value v)) (hh : handedIn v = true) (h : Q v { s with toks := s.toks + 1 }) :
    wpAny (model prog w) A (getAttr (.ref x) name expr) Q E s := by
  obtain ⟨hh', g, d, t, os⟩ := s
  have FA := PySem.F.attr_Exception
  have hk : builtinKind "BaseException.__getattribute__" = some .slot := by decide +kernel
  have hsplit : splitId "BaseException.__getattribute__" = some ("BaseException", "__getattribute__") := by decide +kernel
  have L0 := I.type (M := model prog w)
  have L1 := looks_findIn (M := model prog w) X hga
  have L2 := looks_findIn (M := model prog w) X hgh
  have L3 := looks_find (M := model prog w) X I hf
  have sub : Looks (model prog w) hh' (isInstance (.ref x) (.type "BaseException")) true := L0.andThen (looks_mroIn X hb)
  unfold getAttr getAttrBy
  refine wpAny_bind (wpAny_mkText (wpAny_holding (wpAny_bind (L0.at (wpAny_bind (L1.at ?_))))))
  dsimp only
  rw [show (onTheHeap (Value.ref C) && Value.builtin "BaseException.__getattribute__" == Value.builtin "object.__getattribute__") = false from by rw [show (Value.builtin "BaseException.__getattribute__" == Value.builtin "object.__getattribute__") = false from by decide +kernel, Bool.and_false], if_neg (by decide)]
  unfold getAttrByItsOwn
  refine wpAny_bind ?_
  show wpAny _ _ (typeLookup (.ref C) _) _ _ _
  refine L2.at (wpAny_bind (wpAny_attempt (wpAny_holding ?_)))
  unfold callGetattribute
  rw [show (expr && onTheHeap (Value.builtin "BaseException.__getattribute__")) = false from Bool.and_false _, if_neg (by decide)]
  unfold boundAndCalled
  rw [FA.ga.bind]
  refine wpAny_bind (wpAny_pure (wpAny_call (codeAny_call_builtin FA.ga.plain PySem.F.entry_bexc_ga (@check_slot (model prog w) _ _ _ "BaseException.__getattribute__" "BaseException" "__getattribute__" (.ref x) [.str name _] [] _ hk hsplit (sub.keeps fun _ _ e => e) (PySem.F.args_bexc_ga _ _) ?_))))
  unfold Builtin.«object.__getattribute__»
  refine wpAny_bind (wpAny_of_eq (a := (.ref x, [.str name t])) (by kernel_rfl) ?_)
  refine wpAny_bind (wpAny_pure (wpAny_bind (L0.at (wpAny_bind (L3.at ?_)))))
  refine wpAny_pure ?_
  show wpAny _ _ (handedOut v) _ _ _
  rw [handedOut_of hh]
  exact wpAny_pure h
theorem sid {od' : Obj} {od₁ : Obj} {dx : Addr} {tk : Tok} {v : Value} {pre post : List (Addr × Obj)} {es : List DictEntry} {n : Nat} {Q : Fin → Shared → Prop} (F : Fr h₀ L s.heap m) (N : News h₀ L s.heap (pre ++ (dx, od₁) :: post))
    (hl : (lookIn name od₁).isSome = true) (h1 : ∀ p ∈ pre, p.1 ≠ dx) (h2 : ∀ p ∈ post, p.1 ≠ dx)
    (e : Obj.putName name (PyData.keyHash w.params name) (.str name s.toks) v od₁ = od') (e' : od'.data = .dict es.toArray n) (hz : es.length ≤ 1000)
    (h : ∀ h', Fr h₀ L h' m → News h₀ L h' (pre ++ (dx, od') :: post) → Q (.done (.ret .none)) { s with heap := h', toks := s.toks + 1 }) :
    wpAny (model prog w) A (storeInDict dx (.str name tk) name v) Q E s := by
  obtain ⟨U1, U2⟩ := news_upd (f := Obj.putName name (PyData.keyHash w.params name) (.str name s.toks) v) F N h1 h2 e (by obtain ⟨_, _, dd, _⟩ := od'; cases e'; rfl)
  have D := (N (dx, od₁) (by simp)).1
  have D' := (U2 (dx, od') (by simp)).1
  refine wpAny_bind (wpAny_pure (wpAny_bind ?_))
  unfold nsSet
  refine wpAny_bind (wpAny_bind (wpAny_askSetting (wpAny_pure (wpAny_bind (wpAny_mkText (wpAny_bind (wpAny_loadPart D ?_)))))))
  unfold lookIn at hl
  split at hl
  · rename_i es₀ n₀ q
    rw [q]
    dsimp only
    have c : (!es₀.any (·.key.isStr name) && es₀.any (·.refKey)) = false := by
      rw [← Array.any_toList, ← Array.any_toList]
      split at hl
      · rename_i en he
        rw [List.any_eq_true.mpr ⟨en, List.mem_of_find?_eq_some he, List.find?_some he⟩]; rfl
      · split at hl
        · cases hl
        · rename_i z; rw [Bool.not_eq_true] at z; rw [z, Bool.and_false]
    rw [aRefKeyMayBeTheName_at, c]
    refine wpAny_updatePart D ?_
    refine wpAny_bind (wpAny_lookBehind D' (by rw [e']; exact pastItsLine_dict (by rw [List.size_toArray, sizeLine_eq]; omega)) ?_)
    exact wpAny_pure (h _ U1 U2)
  · cases hl
theorem exc_osa {R : Result → Shared → Prop} {cd : ClassData} {c2 : Addr} {tk : Tok} {v : Value} (X : K.In s.heap) (I : InstAt s.heap x ox C od) (hc : clsIn K C = some cd) (hm : cd.mro = [.ref C, .ref c2, .type "Exception", .type "BaseException", .type "object"]) (ht : findIn K (.ref C) name = some none)
    (h : wpAny (model prog w) A.in1 (storeInOwnDict (.ref x) (.ref C) (.str name tk) name v false)
      (fun fin s' => match fin with | .done f => R (.ok f) s' | .again c' => c'.quiet = true ∧ codeAny (model prog w) A c' R s') (fun e s' => R (.error e) s') s) :
    codeAny (model prog w) A (.call (.builtin "object.__setattr__") ⟨[.ref x, .str name tk, v], []⟩) R s := by
  have SF := PySem.F.store_Exception
  have sub : Looks (model prog w) s.heap (isInstance (.ref x) (.type "object")) true := I.type.andThen (looks_mroIn X (by unfold mroIn; rw [hc, Option.bind_some, hm]; rfl))
  refine codeAny_call_builtin SF.slot.plain SF.entry (@check_slot (model prog w) _ _ s "object.__setattr__" "object" "__setattr__" (.ref x) [.str name tk, v] [] _ SF.kind SF.split sub (SF.args (.ref x) (.str name tk) v) ?_)
  have hl : Looks (model prog w) s.heap (mroOf (.ref C)) [.ref C, .ref c2, .type "Exception", .type "BaseException", .type "object"] := hm ▸ (looks_clsIn X hc).andThen .now
  rw [osa_eq, refuse_eq]
  refine wpAny_bind (wpAny_bind (I.type.here (wpAny_bind (hl.here ?_))))
  rw [refuseLoop_ref, refuseLoop_ref, SF.passes]
  refine wpAny_pure (wpAny_bind (I.type.here (wpAny_bind ((looks_findIn X ht).here (wpAny_bind (wpAny_pure ?_))))))
  exact h
/-- the first store into an exception makes its dict -/
theorem exc_set1 {cd : ClassData} {c2 t0 : Addr} {v : Value} {news : List (Addr × Obj)} {Q : Unit → Shared → Prop} (F : Fr h₀ L s.heap m) (X₀ : K.In h₀) (N : News h₀ L s.heap ((x, excO C t0) :: news)) (off : ∀ p ∈ news, p.1 ≠ x) (hc : clsIn K C = some cd) (hm : cd.mro = [.ref C, .ref c2, .type "Exception", .type "BaseException", .type "object"]) (ht : findIn K (.ref C) name = some none)
    (hd : cd.hasDict = true) (hs : findIn K (.ref C) "__setattr__" = some (some (.builtin "object.__setattr__")))
    (h : ∀ dx h' tk', Fr h₀ L h' m → News h₀ L h' ((dx, dictOf [⟨PyData.keyHash w.params name, .str name (s.toks + 1), v⟩] 1) :: (x, { cls := .ref C, dict := some dx, data := .fields #[.ref t0, .none, .none, .none, .bool false, .none] }) :: news) → x < dx → (∀ p ∈ news, p.1 < dx) → Q () { s with heap := h', toks := tk' }) :
    wpAny (model prog w) A (setAttr (.ref x) name v) Q E s := by
  have X := X₀.keeps F.keep
  have I : InstAt s.heap x (excO C t0) C none := ⟨(N _ (List.mem_cons_self ..)).1, rfl, rfl, trivial⟩
  refine set_plain X I hs ?_
  refine exc_osa (s := { s with toks := s.toks + 1 }) X I hc hm ht ?_
  unfold storeInOwnDict ownDictForStores instanceDict
  have hx : s.heap.get? x = some (excO C t0) := (N _ (List.mem_cons_self ..)).1
  have X' : K.In s.heap := X
  refine wpAny_bind (wpAny_pure ?_)
  dsimp only
  rw [if_neg (by intro q; cases q)]
  refine wpAny_bind (wpAny_bind (wpAny_loadPart hx (wpAny_bind (looks_clsIn X' hc _ _ _ _ (fun _ _ e => e) ?_))))
  dsimp only
  rw [hd]
  refine wpAny_bind (wpAny_alloc ?_)
  have F1 := F.push (emptyDict)
  have N1 := N.push F emptyDict
  have hlt : ∀ p ∈ (x, excO C t0) :: news, p.1 < s.heap.objs.size := fun p hp => Heap.lt_size (N p hp).1
  have hxs : x < s.heap.objs.size := hlt (x, excO C t0) (List.mem_cons_self ..)
  obtain ⟨F2, N2⟩ := news_upd (d := x) (o' := { cls := .ref C, dict := some s.heap.objs.size, data := .fields #[.ref t0, .none, .none, .none, .bool false, .none] }) (f := fun o => { cls := o.cls, dict := some s.heap.objs.size, data := o.data, slots := o.slots }) (pre := [(s.heap.objs.size, emptyDict)]) (post := news) F1 N1
    (fun p hp => by rw [List.mem_singleton.mp hp]; exact Nat.ne_of_gt hxs) off rfl rfl
  refine wpAny_bind (wpAny_update (o := excO C t0) (N1 _ (List.mem_cons_of_mem _ (List.mem_cons_self ..))).1 ?_)
  refine wpAny_pure ?_
  show wpAny _ _ (storeInDict _ _ _ _) _ _ _
  refine sid (s := { s with heap := _, toks := s.toks + 1 }) (od₁ := emptyDict) (pre := []) (es := [_]) (n := 1) F2 N2 rfl (fun p hp => nomatch hp) (fun p hp => ?_) rfl rfl (Nat.le_of_ble_eq_true rfl) (fun h' F' N' => ?_)
  · rcases List.mem_cons.mp hp with rfl | hp
    · exact Nat.ne_of_lt hxs
    · exact Nat.ne_of_lt (hlt _ (List.mem_cons_of_mem _ hp))
  · exact h _ h' _ F' N' hxs (fun p hp => hlt _ (List.mem_cons_of_mem _ hp))
/-- a later store into an exception -/
theorem exc_set2 {cd : ClassData} {c2 t0 dx : Addr} {v : Value} {es : List DictEntry} {n n' : Nat} {es' : List DictEntry} {news : List (Addr × Obj)} {Q : Unit → Shared → Prop} (F : Fr h₀ L s.heap m) (X₀ : K.In h₀) (N : News h₀ L s.heap ((dx, dictOf es n) :: (x, { cls := .ref C, dict := some dx, data := .fields #[.ref t0, .none, .none, .none, .bool false, .none] }) :: news))
    (offd : ∀ p ∈ news, p.1 ≠ dx) (hxd : x ≠ dx) (hc : clsIn K C = some cd) (hm : cd.mro = [.ref C, .ref c2, .type "Exception", .type "BaseException", .type "object"]) (ht : findIn K (.ref C) name = some none)
    (hd : cd.hasDict = true) (hs : findIn K (.ref C) "__setattr__" = some (some (.builtin "object.__setattr__")))
    (hl : (lookIn name (dictOf es n)).isSome = true) (e : Obj.putName name (PyData.keyHash w.params name) (.str name (s.toks + 1)) v (dictOf es n) = dictOf es' n') (hz : es'.length ≤ 1000)
    (h : ∀ h' tk', Fr h₀ L h' m → News h₀ L h' ((dx, dictOf es' n') :: (x, { cls := .ref C, dict := some dx, data := .fields #[.ref t0, .none, .none, .none, .bool false, .none] }) :: news) → Q () { s with heap := h', toks := tk' }) :
    wpAny (model prog w) A (setAttr (.ref x) name v) Q E s := by
  have X := X₀.keeps F.keep
  have hx := (N _ (List.mem_cons_of_mem _ (List.mem_cons_self ..))).1
  have hdx := (N _ (List.mem_cons_self ..)).1
  have I : InstAt s.heap x { cls := .ref C, dict := some dx, data := .fields #[.ref t0, .none, .none, .none, .bool false, .none] } C (some (dictOf es n)) := ⟨hx, rfl, rfl, hdx⟩
  refine set_plain X I hs ?_
  refine exc_osa (s := { s with toks := s.toks + 1 }) X I hc hm ht ?_
  unfold storeInOwnDict ownDictForStores instanceDict
  have X' : K.In s.heap := X
  refine wpAny_bind (wpAny_pure ?_)
  dsimp only
  rw [if_neg (by intro q; cases q)]
  refine wpAny_bind (wpAny_bind (wpAny_loadPart hx (wpAny_bind (looks_clsIn X' hc _ _ _ _ (fun _ _ e => e) ?_))))
  dsimp only
  rw [hd]
  refine wpAny_pure ?_
  show wpAny _ _ (storeInDict _ _ _ _) _ _ _
  refine sid (s := { s with toks := s.toks + 1 }) (od₁ := dictOf es n) (pre := []) (es := es') (n := n') F N hl (fun p hp => nomatch hp) (fun p hp => ?_) e rfl hz (fun h' F' N' => h h' _ F' N')
  rcases List.mem_cons.mp hp with rfl | hp
  · exact hxd
  · exact offd p hp
end
end
section
set_option maxRecDepth 100000
set_option maxHeartbeats 4000000
set_option rowWalk.seconds 0
section
variable {prog : Program} {w : World} {A : Around} {E : Value → Shared → Prop} {s : Shared} {K : Frag} {h₀ : Heap} {L : Addr} {m : PySem.Str → Option Value}
theorem exc_initN {C e t0 fI : Addr} {rest : List Value} {news : List (Addr × Obj)} {Q : Value → Shared → Prop} (F : Fr h₀ L s.heap m) (N : News h₀ L s.heap ((e, excO C t0) :: news)) (off : ∀ p ∈ news, p.1 < e) (G : ExcC (model prog w) s.heap C fI) (hsz : rest.length ≤ sizeLine)
    (h : ∀ t1 h', Fr h₀ L h' m → News h₀ L h' ((e, excO C t1) :: (t1, tupO rest) :: news) → (∀ p ∈ news, p.1 < t1) → e < t1 → Q .none { s with heap := h' }) :
    wpAny (model prog w) A (call (.builtin "Exception.__init__") (.ref e :: rest)) Q E s := by
  obtain ⟨hh, g, d, t, os⟩ := s
  obtain ⟨⟨nm, q, N0, bs, bm, hdct, sn, sub, ab, col, dd, k0, k1, k2, k3, k5, hC, c1, c2, c3⟩, _, _⟩ := G
  have hlt : ∀ p ∈ (e, excO C t0) :: news, p.1 < hh.objs.size := fun p hp => Heap.lt_size (N p hp).1
  have hes : e < hh.objs.size := hlt (e, excO C t0) (List.mem_cons_self ..)
  refine exc_initc hC c1 (N _ (List.mem_cons_self ..)).1 hsz ?_
  obtain ⟨F2, N2⟩ := news_upd (d := e) (o' := excO C hh.objs.size) (f := Obj.mapFields (·.setIfInBounds 0 (.ref hh.objs.size))) (pre := [(hh.objs.size, { cls := .type "tuple", data := .seq rest.toArray })]) (post := news) (F.push _) (N.push F _)
    (fun p hp => by rw [List.mem_singleton.mp hp]; exact Nat.ne_of_gt hes) (fun p hp => Nat.ne_of_lt (off p hp)) rfl rfl
  refine h _ _ F2 (fun p hp => N2 p ?_) (fun p hp => hlt _ (List.mem_cons_of_mem _ hp)) hes
  rcases List.mem_cons.mp hp with rfl | hp
  · exact List.mem_cons_of_mem _ (List.mem_cons_self ..)
  · rcases List.mem_cons.mp hp with rfl | hp
    · exact List.mem_cons_self ..
    · exact List.mem_cons_of_mem _ (List.mem_cons_of_mem _ hp)
end
/-- an exception with a dict -/
noncomputable abbrev excD (C t dx : Addr) : Obj := { cls := .ref C, dict := some dx, data := .fields #[.ref t, .none, .none, .none, .bool false, .none] }
/-- the dict of a GrammarFault -/
noncomputable abbrev GD (P : Params) (t1 t2 u : Tok) (what : PySem.Str) (pl : Addr) : Obj := dictOf [⟨PyData.keyHash P "what", .str "what" t1, .str what u⟩, ⟨PyData.keyHash P "at", .str "at" t2, .ref pl⟩] 2
theorem gf_cls (P : Params) : ∃ cd, clsIn (Mine.KK P) 116 = some cd ∧ cd.mro = [.ref 116, .ref 103, .type "Exception", .type "BaseException", .type "object"] ∧ cd.hasDict = true := ⟨_, rfl, rfl, rfl⟩
theorem exc_tail {news : List (Addr × Obj)} {e t1 : Addr} {o : Obj} (l1 : ∀ p ∈ news, p.1 < e) (l2 : e < t1) : ∀ p ∈ (t1, o) :: news, p.1 ≠ e := fun p hp => by
  rcases List.mem_cons.mp hp with rfl | hp
  · exact Nat.ne_of_gt l2
  · exact Nat.ne_of_lt (l1 p hp)
theorem exc_tail2 {news : List (Addr × Obj)} {e t0 : Addr} {o : Obj} (l1 : ∀ p ∈ news, p.1 < t0) (l2 : t0 < e) : ∀ p ∈ (t0, o) :: news, p.1 < e := fun p hp => by
  rcases List.mem_cons.mp hp with rfl | hp
  · exact l2
  · exact Nat.lt_trans (l1 p hp) l2
theorem t_GF {w : World} {O : List (Addr × Obj)} {what : PySem.Str} {u : Tok} {pl : Addr} :
    Tell w 5 80 116 [.str what u, .ref pl] O (fun x news' => ∃ e t dx t1 t2, x = .ref e ∧ news' = (dx, GD w.params t1 t2 u what pl) :: (e, excD 116 t dx) :: O ∧ (∀ p ∈ O, p.1 < e) ∧ ∀ p ∈ (e, excD 116 t dx) :: O, p.1 < dx) := by
  obtain ⟨cd, hcd, hmro, hdict⟩ := gf_cls w.params
  intro p loose mean mg mb dp un gd cn cs a ccd cl outer A₀ base h₀ L m s Q E B F X N T hk hdp hun ret
  revert X N; k_fill; intro X N
  refine call_exc F (by k_asm) N (gf_excC (X.keeps F.keep)) (by size_fits) ?_
  intro x0 t0 h0' F0 N0 lt1 lt2
  replace lt2 := ltN lt2
  k_dflt (refine' code_def (binds := [("self", .ref x0), ("what", .str what u), ("at", .ref pl)]) ?k1 ?k2 ?k3 ?k4 ?k5 ?kA ?kF ?kK ?k6 ?k7 ?k8 ?k9 ?kB ?_ ?c2 ?c3 ?c4 ?c5; (case kA => exact rfl); (case kF => exact rfl); (case kK => assumption); (case k1 => k_asm); (case k2 => k_asm); (case k3 => k_asm); (case k4 => k_asm); (case k5 => k_asm); (case k6 => exact k_LedgerError_init _); (case k7 => k_is); (case k8 => ktr_room); (case k9 => first | exact BindsTo.of_eq rfl | exact binds_KK (by k_in) rfl (by k_is) rfl rfl); (case c5 => decide); (case kB => exact locs rfl); (case c2 => exact rfl); (case c3 => exact rfl); (case c4 => exact rfl); k_whole; intro g' L' h' FG' F' N' B' X' T'; (try dsimp only); (try k_fold))
  walk_at "kF"
  refine exc_getm (by k_asm) (by k_asm) (by rfl) ?_
  walk_at "kF"
  refine exc_initN (by k_asm) N' (exc_tail2 lt1 lt2) (gf_excC (X'.keeps F'.keep)) (by size_fits) ?_
  intro t1 h1 F1 N1 l1 l2
  walk_at "kF"
  refine exc_set1 (by k_asm) (by k_asm) N1 (exc_tail (exc_tail2 lt1 lt2) l2) hcd hmro (by rfl) hdict (by rfl) ?_
  intro dx h2 tk2 F2 N2 l3 l4
  have e1 : ∀ p ∈ (t1, tupO [.str what u]) :: (t0, tupO [.str what u, .ref pl]) :: O, p.1 ≠ dx := fun p hp => Nat.ne_of_lt (l4 p hp)
  walk_at "kF"
  refine exc_set2 (es' := [⟨PyData.keyHash w.params "what", .str "what" _, .str what u⟩, ⟨PyData.keyHash w.params "at", .str "at" _, .ref pl⟩]) (n' := 2) (by k_asm) (by k_asm) N2 e1 (Nat.ne_of_lt l3) hcd hmro (by rfl) hdict (by rfl) (by rfl) rfl (Nat.le_of_ble_eq_true rfl) ?_
  intro h3 tk3 F3 N3
  walk_at "kF"
  all_goals (refine ret _ _ _ _ ⟨_, _, _, _, _, rfl, rfl, fun p hp => Nat.lt_trans (lt1 p hp) lt2, fun p hp => (List.mem_cons.mp hp).elim (fun q => q ▸ l3) fun hp => Nat.lt_trans (Nat.lt_trans (lt1 p hp) lt2) l3⟩ (by k_asm) (cb_drop (by assumption) (fun p9 hp9 => by
    rcases List.mem_cons.mp hp9 with e9 | hp9
    · subst e9; exact List.mem_cons_self ..
    · rcases List.mem_cons.mp hp9 with e9 | hp9
      · subst e9; exact List.mem_cons_of_mem _ (List.mem_cons_self ..)
      · exact List.mem_cons_of_mem _ (List.mem_cons_of_mem _ (List.mem_cons_of_mem _ (List.mem_cons_of_mem _ hp9))))))
end
section
set_option maxRecDepth 100000
set_option maxHeartbeats 4000000
set_option rowWalk.seconds 0
theorem truthy_more {prog : Program} {w : World} {A : Around} {E : Value → Shared → Prop} {s : Shared} {l : Addr} {items : Array Value} {Q : Bool → Shared → Prop} (hl : s.heap.IsList l items) (hfit : (items.size : Int) < 2 ^ 63) (hne : 0 < items.size)
    (h : Q true { s with toks := s.toks + 1 + 1 }) : wpAny (model prog w) A (truthy (.ref l)) Q E s :=
  wpAny_truthy_list hl hfit (by rw [show (!items.isEmpty) = true by rw [Bool.not_eq_true', Array.isEmpty]; exact decide_eq_false (Nat.pos_iff_ne_zero.mp hne)]; exact h)
local macro_rules | `(tactic| walk_at "truthy ref") => `(tactic| (k_here; (with_reducible show wpAny _ _ (truthy (Value.ref _)) _ _ _); k_dflt (refine' truthy_more (items := _) ?k1 ?k2 ?k3 ?_; (case k1 => (refine' News.isList ?a ?b; (case a => k_asm); (case b => k_mem))); (case k2 => assumption); (case k3 => omega); k_whole)))
/-- a fault at the token where the reader stands -/
theorem t_fault {w : World} {news : List (Addr × Obj)} {r rd tl t d pl : Addr} {o : Int → Tok → Obj} {z : Int} {tk u : Tok} {vs : List Value} {t1 t2 t3 t4 u1 u2 : Tok} {kd wo what : PySem.Str}
    (R : RdAt w.params news r rd tl o z tk vs) (h0 : 0 ≤ z) (hv : vs[z.toNat]? = some (.ref t)) (hti : (t, instObj 59 d) ∈ news) (htd : (d, TD w.params t1 t2 t3 t4 u1 u2 kd wo pl) ∈ news) :
    Tell w 7 120 246 [.ref r, .str what u] news (fun x news' => ∃ e t dx t1 t2, x = .ref e ∧ news' = (dx, GD w.params t1 t2 u what pl) :: (e, excD 116 t dx) :: news ∧ (∀ p ∈ news, p.1 < e) ∧ ∀ p ∈ (e, excD 116 t dx) :: news, p.1 < dx) := by
  obtain ⟨hr, hd, ⟨rc, rfl⟩, ⟨n, hl⟩, few⟩ := R
  have hfit : (vs.toArray.size : Int) < 2 ^ 63 := by simp; omega
  have hsz : vs.toArray.size = vs.length := by simp
  have hlt : z.toNat < vs.length := (List.getElem?_eq_some_iff.mp hv).1
  have hv' : vs.toArray[z.toNat]? = some (.ref t) := by simpa using hv
  intro p loose mean mg mb dp un gd cn cs a ccd cl outer A₀ base h₀ L m s Q E B F X N T hk hdp hun ret
  refine wpAny_call ?_
  revert X N; k_fill; intro X N
  k_dflt (refine' code_def (binds := [("self", .ref r), ("what", .str what u)]) ?k1 ?k2 ?k3 ?k4 ?k5 ?kA ?kF ?kK ?k6 ?k7 ?k8 ?k9 ?kB ?_ ?c2 ?c3 ?c4 ?c5; (case kA => exact rfl); (case kF => exact rfl); (case kK => assumption); (case k1 => k_asm); (case k2 => k_asm); (case k3 => k_asm); (case k4 => k_asm); (case k5 => k_asm); (case k6 => exact k_R_fault _); (case k7 => k_is); (case k8 => ktr_room); (case k9 => first | exact BindsTo.of_eq rfl | exact binds_KK (by k_in) rfl (by k_is) rfl rfl); (case c5 => decide); (case kB => exact locs rfl); (case c2 => exact rfl); (case c3 => exact rfl); (case c4 => exact rfl); k_whole; intro g' L' h' FG' F' N' B' X' T'; (try dsimp only); (try k_fold))
  (walk_at "kF"; repeat' ((first | (refine' Tell.use (t_GF) ?k1 ?k2 ?k3 ?k4 ?k5 ?kK ?kd ?ku ?_; (case k1 | k2 | k3 | k4 | k5 => k_asm);  (case kK => first | exact rfl | assumption); (case kd => ktr_room); (case ku => ktr_units); k_whole; intro r9 n9 h9 tk9 e9 F9 N9; (obtain ⟨ge9, gt9, gd9, g19, g29, e8, e7, gl9, gm9⟩ := e9); (subst e8); (subst e7); walk_at "mE")); walk_at "kF"))
  have hcond : ¬ ((vs.toArray.size : Int) - 1 < z) := by omega
  simp only [if_neg hcond]
  (walk_at "kF"; repeat' ((first | (refine' Tell.use (t_GF) ?k1 ?k2 ?k3 ?k4 ?k5 ?kK ?kd ?ku ?_; (case k1 | k2 | k3 | k4 | k5 => k_asm);  (case kK => first | exact rfl | assumption); (case kd => ktr_room); (case ku => ktr_units); k_whole; intro r9 n9 h9 tk9 e9 F9 N9; (obtain ⟨ge9, gt9, gd9, g19, g29, e8, e7, gl9, gm9⟩ := e9); (subst e8); (subst e7); walk_at "mE")); walk_at "kF"))
  all_goals (exact ret _ _ _ _ ⟨_, _, _, _, _, rfl, rfl, by assumption, by assumption⟩ (by k_asm) (by k_asm))
end
section
set_option maxRecDepth 100000
set_option maxHeartbeats 4000000
/-- an exception with a dict, whatever its fields -/
noncomputable abbrev excF (C dx : Addr) (vs : Array Value) : Obj := { cls := .ref C, dict := some dx, data := .fields vs }
/-- an exception in flight whose dict is known; B stays, fl says in which frame it is looked at -/
inductive FlyD (B : Heap) (l : List Env) (e C dx : Addr) (fl : Value) (h : Heap) : Prop where
  | mk (a1 : B.StaysIn h) (a2 : B.get? e = none) (a3 : h.FunFrames B l) (vs : Array Value) (T : Addr) (oT : Obj) (ts : Array Value) (b1 : h.get? e = some (excF C dx vs)) (b2 : vs[1]? = some (.ref T)) (b3 : B.get? T = none) (b4 : T ≠ e) (b5 : h.get? T = some oT) (b6 : oT.data = .fields ts) (b7 : ts[3]? = some fl) : FlyD B l e C dx fl h
theorem FlyD.stay {B : Heap} {l : List Env} {e C dx : Addr} {fl : Value} {h : Heap} (x : FlyD B l e C dx fl h) : B.StaysIn h := let ⟨a, _, _, _, _, _, _, _, _, _, _, _, _, _⟩ := x; a
theorem FlyD.fr {B : Heap} {l : List Env} {e C dx : Addr} {fl : Value} {h : Heap} (x : FlyD B l e C dx fl h) : h.FunFrames B l := let ⟨_, _, a, _, _, _, _, _, _, _, _, _, _, _⟩ := x; a
section
variable {M : Model} {A : Around} {E : Value → Shared → Prop} {s : Shared} {B : Heap} {l outer : List Env} {env : Env} {L e C dx : Addr} {Q : Unit → Shared → Prop}
theorem fly_entry {vs : Array Value} {head : Value} {hadNext : Bool} (hfr : A.frames = some (env :: outer)) (hl : s.heap.FunFrames B (env :: outer)) (hf : env.frame = some L) (he : s.heap.get? e = some (excF C dx vs)) (hkb : B.StaysIn s.heap) (hen : B.get? e = none) (hsz : 1 < vs.size)
    (h : ∀ h', FlyD B (env :: outer) e C dx (rawInt L) h' → s.heap.UpToSlots h' → Q () { s with heap := h' }) :
    wpAny M A (do let a ← frameOf env; let pl ← entryPlaceOf L hadNext; let b ← EntryCells.newEntry head a .none (rawInt L) .none pl; setField (.ref e) 1 b) Q E s := by
  have off : e ∉ (env :: outer).filterMap (·.frame) := fun hm => by
    obtain ⟨_, o, ho, hnf⟩ := hl.mem hm
    rw [he] at ho
    cases ho
    exact hnf vs rfl
  refine wpAny_bind (wpAny_frameOf_fun hfr hl hf fun g hg => wpAny_bind (wpAny_entryPlaceOf fun pl hpl => ?_))
  unfold EntryCells.newEntry newFields
  refine wpAny_bind (wpAny_newObj_type ?_ (hpl.sizeOk5 _ _ _ _ _))
  generalize hTS : ([head, .ref L, .none, rawInt L, .none] ++ (if pl.isEmpty then List.replicate 6 Value.none else pl)).toArray = ts
  have h3 : ts[3]? = some (rawInt L) := by
    subst hTS
    rcases hpl with rfl | ⟨_, _, _, _, _, _, _, rfl⟩ <;> simp
  generalize hTO : ({ cls := .type "traceback", dict := none, data := .fields ts } : Obj) = TO
  have he1 : g.get? e = some (excF C dx vs) := (hg.2.1 e off).trans he
  have he2 : (g.push TO).get? e = some (excF C dx vs) := Heap.get?_push_of_some TO he1
  have hT : g.objs.size ≠ e := Nat.ne_of_gt (Heap.lt_size he1)
  have stay : B.StaysIn g := fun b o hb => (hg.2.1 b fun hm => by rw [(hl.mem hm).1] at hb; cases hb).trans (hkb b o hb)
  have keep : ∀ b o, b ≠ e → g.get? b = some o → ((g.push TO).update e (Obj.mapFields (·.setIfInBounds 1 (.ref g.objs.size)))).get? b = some o := fun b o hb ho => (Heap.get?_update_other _ _ (Ne.symm hb)).trans (Heap.get?_push_of_some TO ho)
  have noE : ∀ b o, s.heap.get? b = some o → (∀ vs, o.data ≠ .fields vs) → b ≠ e := fun b o ho hn q => by
    rw [q, he] at ho
    cases ho
    exact hn vs rfl
  have up : s.heap.UpToSlots ((g.push TO).update e (Obj.mapFields (·.setIfInBounds 1 (.ref g.objs.size)))) := fun b o ho hn => by
    obtain ⟨sl, hs⟩ := hg.2.2 b o ho
    exact ⟨sl, keep b _ (noE b o ho hn) hs⟩
  refine wpAny_setField he2 rfl hsz (h _ ⟨fun b o hb => keep b o (fun q => by rw [q, hen] at hb; cases hb) (stay b o hb), hen, hl.of_keeps fun b o ho hn => ?_, vs.setIfInBounds 1 (.ref g.objs.size), g.objs.size, TO, ts, ?_, by simp [hsz], stay.fresh, hT, ?_, by subst hTO; rfl, h3⟩ up)
  · obtain ⟨sl, hs⟩ := up b o ho hn
    exact ⟨_, hs, rfl⟩
  · exact Heap.get?_update_self _ he2 rfl
  · exact (Heap.get?_update_other _ _ (Ne.symm hT)).trans (Heap.get?_push_size g (by subst hTO; rfl))
/-- the mark of the frame that looks at it is wiped -/
theorem fly_none {fl : Value} (R : FlyD B l e C dx fl s.heap) (h : ∀ h', FlyD B l e C dx .none h' → s.heap.UpToSlots h' → Q () { s with heap := h' }) : wpAny M A (setFlight (.ref e) none) Q E s := by
  obtain ⟨hkb, hen, hl, vs, T, oT, ts, he, h1, hnT, hTe, hT, hdT, h3⟩ := R
  have hsz : 3 < ts.size := (Array.getElem?_eq_some_iff.mp h3).1
  have other : ∀ b, b ≠ T → (s.heap.update T (Obj.mapFields (·.setIfInBounds 3 ((none : Option Addr).elim Value.none fun f => rawInt f)))).get? b = s.heap.get? b := fun b hb => Heap.get?_update_other _ _ (Ne.symm hb)
  have noT : ∀ b o, s.heap.get? b = some o → (∀ vs, o.data ≠ .fields vs) → b ≠ T := fun b o ho hn q => by
    rw [q, hT] at ho
    cases ho
    exact hn ts hdT
  unfold setFlight
  refine wpAny_bind (wpAny_field he rfl h1 ?_)
  rw [if_pos (show (Value.ref T != Value.none) = true from by simp)]
  refine wpAny_setField hT hdT hsz (h _ ⟨fun b o hb => (other b fun q => by rw [q, hnT] at hb; cases hb).trans (hkb b o hb), hen, hl.of_keeps fun b o ho hn => ⟨o, (other b (noT b o ho hn)).trans ho, rfl⟩, vs, T, _, _, (other e (Ne.symm hTe)).trans he, h1, hnT, hTe,
    Heap.get?_update_self _ hT (Obj.isFreed_of_fields (Obj.data_mapFields hdT _)), Obj.data_mapFields hdT _, by simp [hsz]⟩ fun b o ho hn => ⟨o.slots, (other b (noT b o ho hn)).trans ho⟩)
/-- it leaves the frame that raised it -/
theorem fly_leave {vs : Array Value} (hfr : A.frames = some (env :: outer)) (hl : s.heap.FunFrames B (env :: outer)) (hf : env.frame = some L) (he : s.heap.get? e = some (excF C dx vs)) (hkb : B.StaysIn s.heap) (hen : B.get? e = none) (h1 : vs[1]? = some .none)
    (h : ∀ h', FlyD B outer e C dx .none h' → s.heap.UpToSlots h' → Q () { s with heap := h' }) : wpAny M A (leaving env (.ref e)) Q E s := by
  unfold leaving noteFrame
  simp only [hf]
  refine wpAny_bind (wpAny_bind (wpAny_field he rfl h1 ?_))
  rw [if_neg (by decide)]
  refine fly_entry hfr hl hf he hkb hen (Array.getElem?_eq_some_iff.mp h1).1 fun h1 R1 u1 => ?_
  refine fly_none (s := { s with heap := h1 }) R1 fun h2 R2 u2 => h h2 ?_ (u1.trans u2)
  obtain ⟨k1, k2, ⟨_, _, k3⟩, v, T, o, ts, b1, b2, b3, b4, b5, b6, b7⟩ := R2
  exact ⟨k1, k2, k3, v, T, o, ts, b1, b2, b3, b4, b5, b6, b7⟩
/-- the next frame looks at it -/
theorem fly_looks (hfr : A.frames = some (env :: outer)) (hf : env.frame = some L) (R : FlyD B (env :: outer) e C dx .none s.heap) (h : ∀ h', FlyD B (env :: outer) e C dx (rawInt L) h' → s.heap.UpToSlots h' → Q () { s with heap := h' }) :
    wpAny M A (noteFrame (.ref e) env) Q E s := by
  obtain ⟨hkb, hen, hl, vs, T, oT, ts, he, h1, hnT, hTe, hT, hdT, h3⟩ := R
  have hsz : 3 < ts.size := (Array.getElem?_eq_some_iff.mp h3).1
  have other : ∀ b, b ≠ T → (s.heap.update T (Obj.mapFields (·.setIfInBounds 3 Value.none))).get? b = s.heap.get? b := fun b hb => Heap.get?_update_other _ _ (Ne.symm hb)
  have noT : ∀ b o, s.heap.get? b = some o → (∀ vs, o.data ≠ .fields vs) → b ≠ T := fun b o ho hn q => by
    rw [q, hT] at ho
    cases ho
    exact hn ts hdT
  unfold noteFrame
  simp only [hf]
  refine wpAny_bind (wpAny_field he rfl h1 ?_)
  rw [if_pos (show (Value.ref T != Value.none) = true from by simp)]
  refine wpAny_bind (wpAny_field hT hdT h3 ?_)
  rw [if_neg (show ¬ ((Value.none == rawInt L) = true) from by simp [rawInt])]
  refine wpAny_bind (wpAny_setField hT hdT hsz ?_)
  refine fly_entry hfr (hl.of_keeps fun b o ho hn => ⟨o, (other b (noT b o ho hn)).trans ho, rfl⟩) hf ((other e (Ne.symm hTe)).trans he) (fun b o hb => (other b fun q => by rw [q, hnT] at hb; cases hb).trans (hkb b o hb)) hen (Array.getElem?_eq_some_iff.mp h1).1 fun h' R' u' => h h' R' ?_
  exact Heap.UpToSlots.trans (fun b o ho hn => ⟨o.slots, (other b (noT b o ho hn)).trans ho⟩) u'
end
end
section
set_option maxRecDepth 100000
set_option maxHeartbeats 4000000
/-- an exception that has left the frames below l: what stays, what the ledger says -/
inductive RaisedD (base G : Heap) (l : List Env) (e C dx : Addr) (news : List (Addr × Obj)) (h : Heap) : Prop where
  | mk (B : Heap) (a1 : base.StaysIn B) (a2 : ∀ b o, G.get? b = some o → b ∉ l.filterMap (·.frame) → B.get? b = some o) (a3 : ∀ q ∈ news, B.get? q.1 = some q.2 ∧ G.get? q.1 = none ∧ base.get? q.1 = none) (a4 : FlyD B l e C dx .none h) : RaisedD base G l e C dx news h
section
variable {M : Model} {A : Around} {E : Value → Shared → Prop} {s' : Shared} {base g : Heap} {outer : List Env} {L a e C dx : Addr} {m : PySem.Str → Option Value} {name : PySem.Str} {scope : Scope} {cd : Value} {Q : Unit → Shared → Prop} {news : List (Addr × Obj)}
theorem leave_D {vs : Array Value} (K : Below A base outer g) (F : Fr g L s'.heap m) (N : News g L s'.heap ((e, excF C dx vs) :: news)) (off : ∀ q ∈ news, q.1 ≠ e) (h1 : vs[1]? = some .none) (hk : scope.kind = .function)
    (hQ : ∀ h', RaisedD base g outer e C dx news h' → g.UpToSlots h' → Q () { s' with heap := h' }) :
    wpAny M (A.deeper (envOf name scope L a cd)) (leaving (envOf name scope L a cd) (.ref e)) Q E s' := by
  have K' := K.push (name := name) (a := a) (cd := cd) F hk
  obtain ⟨he, heL, heg⟩ := N _ (List.mem_cons_self ..)
  dsimp only at he heL heg
  have as_ : ∀ b, b ∈ e :: (envOf name scope L a cd :: outer).filterMap (·.frame) → b = e ∨ b = L ∨ b ∈ outer.filterMap (·.frame) := fun b hb => by
    rcases List.mem_cons.mp hb with q | q
    · exact .inl q
    · exact .inr (kts_mem q)
  have gone : ∀ b, g.get? b = none → base.get? b = none := fun b q => fresh_of_stays K.stays q
  have outerG : ∀ b, b ∈ outer.filterMap (·.frame) → ∃ o, g.get? b = some o ∧ base.get? b = none := fun b hb => by
    obtain ⟨h0, o, ho, _⟩ := K.frames.mem hb
    exact ⟨o, ho, h0⟩
  have hL : g.get? L = none := kts_self F
  have st : base.StaysIn (hideAll s'.heap (e :: (envOf name scope L a cd :: outer).filterMap (·.frame))) := fun b o q => hideAll_get _ (K'.stays b o q) fun hm => by
    rcases as_ b hm with z | z | z
    · rw [z, gone e heg] at q; cases q
    · rw [z, gone L hL] at q; cases q
    · obtain ⟨_, _, h0⟩ := outerG b z
      rw [h0] at q; cases q
  refine fly_leave (B := hideAll s'.heap (e :: (envOf name scope L a cd :: outer).filterMap (·.frame))) K'.stack (funFrames_hide K'.frames fun env hin b hb => List.mem_cons_of_mem _ (List.mem_filterMap.mpr ⟨env, hin, hb⟩)) rfl he (fun b o q => of_hideAll _ q) (hideAll_none _ (List.mem_cons_self ..)) h1 fun h' R u => hQ h' ⟨_, st, fun b o q nm => ?_, fun q hq => ?_, R⟩ ((Heap.UpToSlots.of_keeps F.keep).trans u)
  · refine hideAll_get _ (F.keep b o q) fun hm => ?_
    rcases as_ b hm with z | z | z
    · rw [z, heg] at q; cases q
    · rw [z, hL] at q; cases q
    · exact nm z
  · obtain ⟨n1, n2, n3⟩ := N q (List.mem_cons_of_mem _ hq)
    refine ⟨hideAll_get _ n1 fun hm => ?_, n3, gone _ n3⟩
    rcases as_ _ hm with z | z | z
    · exact off q hq z
    · exact n2 z
    · obtain ⟨o, ho, _⟩ := outerG _ z
      rw [n3] at ho; cases ho
end
section
variable {prog : Program} {w : World} {A₀ : Around} {E : Value → Shared → Prop} {s' : Shared} {base g g₀ G : Heap} {outer : List Env} {L a e C dx : Addr} {m : PySem.Str → Option Value} {name : PySem.Str} {scope : Scope} {cd : Value}
  {n : PySem.Str} {b₀ : PySem.Stmt} {suite : List PySem.Stmt} {pos np : Pos} {rest : List ExceptHandler} {Q : Flow → Shared → Prop} {news : List (Addr × Obj)} {KF : Frag}
  {p : Program} {loose : List PySem.Str} {mean : ExcName → Option Value} {mg mb : PySem.Str → Option Value} {x : PySem.Str}
theorem caught_D (R : RaisedD base G (envOf name scope L a cd :: outer) e C dx news s'.heap) (F : Fr g L G m) (K : Below A₀ base outer g) (hsm : G.UpToSlots s'.heap) (XB : KF.In base) (TB : Top p loose mean mg mb base)
    (D : KtsDicts (outer.filterMap (·.frame)) g) (T0 : KtsTurn (outer.filterMap (·.frame)) g₀ g)
    (ex : nsIn KF mainGlobals x = some (some (.ref C))) (q : ktsIn KF C "BaseException" = true)
    (k : ∀ h' g' vs tk, KtsTurn (outer.filterMap (·.frame)) g₀ g' → Fr g' L h' (fun y => if y = n then some (.ref e) else m y) → News g' L h' ((e, excF C dx vs) :: news) → Below A₀ base outer g' → KF.In g' → Top p loose mean mg mb g' → KtsDicts (outer.filterMap (·.frame)) g' →
      wpAny (model prog w) ((A₀.deeper (envOf name scope L a cd)).mark (some (.ref e))) (execs (b₀ :: suite) (envOf name scope L a cd))
        (fun f s₄ => wpAny (model prog w) (A₀.deeper (envOf name scope L a cd)) (do bindName (envOf name scope L a cd) n .none; unbindBehindTheSuite (envOf name scope L a cd) n pos) (fun _ s₅ => Q f s₅) E s₄)
        (AsSuiteRaised (model prog w) ((A₀.deeper (envOf name scope L a cd)).mark (some (.ref e))) (envOf name scope L a cd) n pos (notedBy (model prog w) ((A₀.deeper (envOf name scope L a cd)).mark (some (.ref e))) (envOf name scope L a cd) (cameBackBy (model prog w) (A₀.deeper (envOf name scope L a cd)) (envOf name scope L a cd) E)))
        { s' with heap := h', toks := tk })
    (hk : scope.kind = .function := by rfl) (hlo : (envOf name scope L a cd).kindOf n = some .local := by rfl) (hx : (envOf name scope L a cd).kindOf x = some .globalImplicit := by rfl) (hd : (x == ("__debug__" : PySem.Str)) = false := by decide) :
    wpAny (model prog w) (A₀.deeper (envOf name scope L a cd)) (noteFrame (.ref e) (envOf name scope L a cd))
      (fun _ s₂ => wpAny (model prog w) (A₀.deeper (envOf name scope L a cd)) (setFlight (.ref e) none) (fun _ s₃ =>
        wpAny (model prog w) (A₀.deeper (envOf name scope L a cd)) (handleBy (.ref e) (envOf name scope L a cd) (.ExceptHandler (some (.Name x np)) (some n) (b₀ :: suite) pos :: rest)) Q E s₃) E s₂) E s' := by
  obtain ⟨B, hB, hBG, hl, hfl⟩ := R
  have hL : B.get? L = none := by
    obtain ⟨_, ⟨L', _, hf, hn', _⟩, _⟩ := hfl.fr
    obtain rfl : L = L' := Option.some.inj hf
    exact hn'
  refine fly_looks (Around.frames_deeper K.stack) rfl hfl fun h1 R1 u1 => ?_
  refine fly_none (s := { s' with heap := h1 }) R1 fun h2 R2 u2 => ?_
  have u12 := hsm.trans (u1.trans u2)
  obtain ⟨g5, T5, F5, K5⟩ := kts_ground K F hBG R2.stay u12
  have X5 : KF.In g5 := XB.keeps K5.stays
  have P5 : TopRead p loose mg mb g5 := topRead_of (TB.keeps K5.stays)
  obtain ⟨nm, q', N, bs, bm, hdct, sn, sub, ab, col, dd, k0, k1, k2, k3, k5, newId, hC, hbase, hbT⟩ := kts_cls X5 q
  have hC5 := F5.keep _ _ hC
  have hob := R2
  obtain ⟨_, _, _, vs2, _, _, _, he2, _, _, _, _, _, _⟩ := hob
  refine wpAny_handleBy_cons (codeAny_handlers_test (name_K F5 X5 P5 ex ?_ hk hx hd)) (by intro q; cases q)
  refine wpAny_excMatches_sub_self hC5 he2 rfl hbase (codeAny_handlers_suite_as ?_)
  refine fly_none (s := { s' with heap := h2 }) R2 fun h3 R3 u3 => ?_
  have u13 := u12.trans u3
  obtain ⟨g6, T6, F6, K6⟩ := kts_ground K F hBG R3.stay u13
  obtain ⟨_, hen, _, vs3, _, _, _, he3, _⟩ := id R3
  have ne6 : g6.get? e = none := T6.none_ _ (kts_fresh F hBG hen fun o ho hm => by
    obtain ⟨_, o', ho', hd⟩ := K.frames.mem hm
    rw [ho] at ho'
    cases ho'
    obtain ⟨sl, hs⟩ := u13 _ _ (F.keep _ _ ho) hd
    rw [he3] at hs
    exact hd _ (congrArg Obj.data (Option.some.inj hs)).symm)
  have hLe : e ≠ L := fun z => by
    obtain ⟨oL, es, ep, hL6, hLd, _⟩ := F6.ns
    rw [← z, he3] at hL6
    cases hL6
    cases hLd
  have N6 : News g6 L h3 ((e, excF C dx vs3) :: news) := fun p hp => by
    rcases List.mem_cons.mp hp with rfl | hp
    · exact ⟨he3, hLe, ne6⟩
    · exact ⟨R3.stay _ _ (hl p hp).1, (fun z => by have := (hl p hp).1; rw [z, hL] at this; cases this), T6.none_ _ (kts_none F.keep (hl p hp).2.1)⟩
  refine stN F6 N6 (fun h7 F7 N7 => ?_) hk hlo
  exact k h7 g6 _ _ (T0.trans T6) F7 N7 K6 (XB.keeps K6.stays) (TB.keeps K6.stays) (D.turn T6)
end
end
section
set_option maxRecDepth 100000
set_option maxHeartbeats 4000000
/-- what is told of a file -/
structure Sp where
  path : PySem.Str
  org : PySem.Str
  acc : PySem.Str
  key : PySem.Str
  rel : PySem.Str
  stat : PySem.Str
  al : List (PySem.Str × Bool)
/-- a clause behind the name -/
inductive Cl where
  | assign (p : PySem.Str)
  | org (q low : PySem.Str)
  | acc (q low : PySem.Str)
  | key (n : PySem.Str)
  | alt (n : PySem.Str) (b : Bool)
  | rel (n : PySem.Str)
  | stat (n : PySem.Str)
noncomputable abbrev wrd (x : PySem.Str) : PySem.Str × PySem.Str := (PySem.Str.ofString "word", x)
noncomputable def Cl.words : Cl → List (PySem.Str × PySem.Str)
  | .assign p => [wrd "ASSIGN", wrd "TO", (PySem.Str.ofString "literal", p)]
  | .org q _ => [wrd "ORGANIZATION", wrd "IS", wrd q]
  | .acc q _ => [wrd "ACCESS", wrd "MODE", wrd "IS", wrd q]
  | .key n => [wrd "RECORD", wrd "KEY", wrd "IS", wrd n]
  | .alt n b => [wrd "ALTERNATE", wrd "RECORD", wrd "KEY", wrd "IS", wrd n] ++ (if b then [wrd "WITH", wrd "DUPLICATES"] else [])
  | .rel n => [wrd "RELATIVE", wrd "KEY", wrd "IS", wrd n]
  | .stat n => [wrd "FILE", wrd "STATUS", wrd "IS", wrd n]
noncomputable def Cl.label : Cl → PySem.Str
  | .assign _ => PySem.Str.ofString "ASSIGN"
  | .org _ _ => PySem.Str.ofString "ORGANIZATION"
  | .acc _ _ => PySem.Str.ofString "ACCESS"
  | .key _ => PySem.Str.ofString "RECORD"
  | .alt _ _ => PySem.Str.ofString "ALTERNATE"
  | .rel _ => PySem.Str.ofString "RELATIVE KEY"
  | .stat _ => PySem.Str.ofString "STATUS"
noncomputable def Cl.upd (σ : Sp) : Cl → Sp
  | .assign p => { σ with path := p }
  | .org _ l => { σ with org := l }
  | .acc _ l => { σ with acc := l }
  | .key n => { σ with key := n }
  | .alt n b => { σ with al := σ.al ++ [(n, b)] }
  | .rel n => { σ with rel := n }
  | .stat n => { σ with stat := n }
/-- the words that a clause may hold -/
noncomputable def Cl.Ok (σ : Sp) : Cl → Prop
  | .assign _ => True
  | .org q l => (q = PySem.Str.ofString "SEQUENTIAL" ∧ l = PySem.Str.ofString "sequential") ∨ (q = PySem.Str.ofString "RELATIVE" ∧ l = PySem.Str.ofString "relative") ∨ (q = PySem.Str.ofString "INDEXED" ∧ l = PySem.Str.ofString "indexed")
  | .acc q l => (q = PySem.Str.ofString "SEQUENTIAL" ∧ l = PySem.Str.ofString "sequential") ∨ (q = PySem.Str.ofString "RANDOM" ∧ l = PySem.Str.ofString "random") ∨ (q = PySem.Str.ofString "DYNAMIC" ∧ l = PySem.Str.ofString "dynamic")
  | .key n => FreeName n
  | .alt n _ => FreeName n ∧ (σ.al.map (·.1)).any (· == n) = false ∧ σ.al.length ≤ 20
  | .rel n => FreeName n
  | .stat n => FreeName n
/-- the tokens from z on -/
noncomputable def Toks (P : Params) (O : List (Addr × Obj)) (vs : List Value) : Int → List (PySem.Str × PySem.Str) → Prop
  | _, [] => True
  | z, (kd, wo) :: r => TokZ P O vs z kd wo ∧ Toks P O vs (z + 1) r
theorem Toks.mono {P : Params} {O news : List (Addr × Obj)} {vs : List Value} (hs : ∀ p ∈ O, p ∈ news) : ∀ {l : List (PySem.Str × PySem.Str)} {z : Int}, Toks P O vs z l → Toks P news vs z l
  | [], _, _ => trivial
  | (_, _) :: _, _, h => ⟨h.1.mono hs, Toks.mono hs h.2⟩
theorem Toks.drop {P : Params} {O : List (Addr × Obj)} {vs : List Value} : ∀ {l r : List (PySem.Str × PySem.Str)} {z : Int}, Toks P O vs z (l ++ r) → Toks P O vs (z + (l.length : Int)) r
  | [], _, z, h => by simpa using h
  | (_, _) :: l, r, z, h => by
    have e := Toks.drop (l := l) h.2
    rw [show z + (((_ :: l : List (PySem.Str × PySem.Str))).length : Int) = z + 1 + (l.length : Int) by rw [List.length_cons]; push_cast; omega]
    exact e
/-- the spec's dict says σ -/
inductive St (P : Params) (O : List (Addr × Obj)) (v0 v8 v9 : Value) (σ : Sp) (ob : Obj) : Prop where
  | mk (aa : SC) (u1 u2 u3 u4 u6 u7 : Tok) (ta : Addr) (ps : List Value) (e : ob = SD P aa v0 (.str σ.path u1) (.str σ.org u2) (.str σ.acc u3) (.str σ.key u4) (.ref ta) (.str σ.rel u6) (.str σ.stat u7) v8 v9) (h1 : (ta, tupO ps) ∈ O) (h2 : PairsAt O ps σ.al) : St P O v0 v8 v9 σ ob
theorem St.mono {P : Params} {O news : List (Addr × Obj)} {v0 v8 v9 : Value} {σ : Sp} {ob : Obj} (hs : ∀ p ∈ O, p ∈ news) (h : St P O v0 v8 v9 σ ob) : St P news v0 v8 v9 σ ob := by
  obtain ⟨aa, u1, u2, u3, u4, u6, u7, ta, ps, e, h1, h2⟩ := h
  exact ⟨aa, u1, u2, u3, u4, u6, u7, ta, ps, e, hs _ h1, h2.mono hs⟩
/-- what is told of a clause read -/
inductive ClPost (P : Params) (O : List (Addr × Obj)) (r rd tl sp sd : Addr) (o : Int → Tok → Obj) (vs : List Value) (z' : Int) (v0 v8 v9 : Value) (σ' : Sp) (lab : PySem.Str) (x : Value) (news' : List (Addr × Obj)) : Prop where
  | mk (u t : Tok) (NN : List (Addr × Obj)) (ob' : Obj) (e : x = .str lab u) (e' : news' = (rd, o z' t) :: (sd, ob') :: (NN ++ O)) (tp : ∀ p ∈ NN, p.2.cls = .type "tuple") (B : Both P (NN ++ O) r rd tl sp sd o vs) (S : St P (NN ++ O) v0 v8 v9 σ' ob') : ClPost P O r rd tl sp sd o vs z' v0 v8 v9 σ' lab x news'
theorem Tell.lift {w : World} {D U D' U' : Nat} {f : Addr} {args : List Value} {news : List (Addr × Obj)} {post post' : Value → List (Addr × Obj) → Prop} (h : Tell w D U f args news post) (hD : D ≤ D') (hU : U ≤ U') (hp : ∀ r n, post r n → post' r n) : Tell w D' U' f args news post' := by
  intro p loose mean mg mb dp un gd cn cs a ccd cl outer A₀ base h₀ L m s Q E b1 b2 b3 b4 b5 b6 b7 b8 ret
  exact h dp un gd cn cs a ccd cl outer A₀ base h₀ L m s Q E b1 b2 b3 b4 b5 b6 (by omega) (by omega) fun r n h' tk' hp' => ret r n h' tk' (hp _ _ hp')
theorem led {rd : Addr} {o : Int → Tok → Obj} {t : Tok} {l : List (Addr × Obj)} {a b : Int} (e : a = b) : (rd, o a t) :: l = (rd, o b t) :: l := congrArg (fun y => (rd, o y t) :: l) e
theorem zl3 (z : Int) : z + 1 + 1 + 1 = z + ((3 : Nat) : Int) := by omega
theorem zl4 (z : Int) : z + 1 + 1 + 1 + 1 = z + ((4 : Nat) : Int) := by omega
theorem zl5 (z : Int) : z + 2 + 1 + 1 = z + ((4 : Nat) : Int) := by omega
theorem zl6 (z : Int) : z + 1 + 1 + 1 + 1 + 1 = z + ((5 : Nat) : Int) := by omega
theorem zl7 (z : Int) : z + 1 + 1 + 1 + 1 + 1 + 2 = z + ((7 : Nat) : Int) := by omega
section
variable {w : World} {O : List (Addr × Obj)} {r rd tl sp sd : Addr} {o : Int → Tok → Obj} {z : Int} {tk : Tok} {vs : List Value} {v0 v8 v9 : Value} {σ : Sp} {ob : Obj} {nx : PySem.Str × PySem.Str} {rest : List (PySem.Str × PySem.Str)}
/-- one clause, whichever -/
theorem cl_step (B : Both w.params O r rd tl sp sd o vs) (S : St w.params O v0 v8 v9 σ ob) (c : Cl) (T : Toks w.params O vs z (c.words ++ nx :: rest)) (n1 : (nx.1 == (PySem.Str.ofString "literal")) = false)
    (n2 : (nx.1 == (PySem.Str.ofString "word") && nx.2 == (PySem.Str.ofString "WITH")) = false) (n3 : (nx.1 == (PySem.Str.ofString "word") && nx.2 == (PySem.Str.ofString "DUPLICATES")) = false) (ok : c.Ok σ) :
    Tell w 7 60 188 [.ref r, .ref sp] ((rd, o z tk) :: (sd, ob) :: O) (ClPost w.params O r rd tl sp sd o vs (z + (c.words.length : Int)) v0 v8 v9 (c.upd σ) c.label) := by
  obtain ⟨aa, u1, u2, u3, u4, u6, u7, ta, ps, rfl, hta, hps⟩ := S
  cases c with
  | assign p =>
    obtain ⟨T1, T2, T3, T4, -⟩ := T
    refine Tell.lift (t_rc_assign B T1 T2 T3 T4 n1) (Nat.le_refl _) (Nat.le_refl _) fun x n h => ?_
    obtain ⟨u8, rfl, t, u, rfl⟩ := h
    exact ⟨u8, t, [], _, rfl, (led (rd := rd) (o := o) (t := t) (zl3 z)), by simp, B, aa, u, u2, u3, u4, u6, u7, ta, ps, rfl, hta, hps⟩
  | org q l =>
    obtain ⟨T1, T2, T3, T4, -⟩ := T
    have one : OneWord w O r rd o vs 119 q l (sd, SD w.params aa v0 (.str σ.path u1) (.str σ.org u2) (.str σ.acc u3) (.str σ.key u4) (.ref ta) (.str σ.rel u6) (.str σ.stat u7) v8 v9) := by
      intro z' tk' hT
      rcases ok with ⟨rfl, rfl⟩ | ⟨rfl, rfl⟩ | ⟨rfl, rfl⟩
      · exact t_one_word_119_SEQUENTIAL B.base B.offR B.ne hT
      · exact t_one_word_119_RELATIVE B.base B.offR B.ne hT
      · exact t_one_word_119_INDEXED B.base B.offR B.ne hT
    have hq : (q == (PySem.Str.ofString "LINE")) = false := by
      rcases ok with ⟨rfl, rfl⟩ | ⟨rfl, rfl⟩ | ⟨rfl, rfl⟩ <;> decide +kernel
    refine @Tell.lift w 7 60 7 60 188 _ _ (fun x news' => ∃ u8, x = .str "ORGANIZATION" u8 ∧ ∃ t u, news' = (rd, o (z + 1 + 1 + 1) t) :: (sd, SD w.params aa v0 (.str σ.path u1) (.str l u) (.str σ.acc u3) (.str σ.key u4) (.ref ta) (.str σ.rel u6) (.str σ.stat u7) v8 v9) :: O) _ ?H1 (Nat.le_refl _) (Nat.le_refl _) ?K1
    case H1 => exact t_rc_org (tk := tk) (q := q) (low := l) B T1 T2 T3 hq (by rw [hq, Bool.and_false]) one
    intro x n h
    obtain ⟨u8, rfl, t, u, rfl⟩ := h
    exact ⟨u8, t, [], _, rfl, (led (rd := rd) (o := o) (t := t) (zl3 z)), by simp, B, aa, u1, u, u3, u4, u6, u7, ta, ps, rfl, hta, hps⟩
  | acc q l =>
    obtain ⟨T1, T2, T3, T4, -⟩ := T
    have one : OneWord w O r rd o vs 120 q l (sd, SD w.params aa v0 (.str σ.path u1) (.str σ.org u2) (.str σ.acc u3) (.str σ.key u4) (.ref ta) (.str σ.rel u6) (.str σ.stat u7) v8 v9) := by
      intro z' tk' hT
      rcases ok with ⟨rfl, rfl⟩ | ⟨rfl, rfl⟩ | ⟨rfl, rfl⟩
      · exact t_one_word_120_SEQUENTIAL B.base B.offR B.ne hT
      · exact t_one_word_120_RANDOM B.base B.offR B.ne hT
      · exact t_one_word_120_DYNAMIC B.base B.offR B.ne hT
    refine @Tell.lift w 7 60 7 60 188 _ _ (fun x news' => ∃ u8, x = .str "ACCESS" u8 ∧ ∃ t u, news' = (rd, o (z + 1 + 1 + 1 + 1) t) :: (sd, SD w.params aa v0 (.str σ.path u1) (.str σ.org u2) (.str l u) (.str σ.key u4) (.ref ta) (.str σ.rel u6) (.str σ.stat u7) v8 v9) :: O) _ ?H2 (Nat.le_refl _) (Nat.le_refl _) ?K2
    case H2 => exact t_rc_access (tk := tk) (q := q) (low := l) B T1 T2 T3 T4 one
    intro x n h
    obtain ⟨u8, rfl, t, u, rfl⟩ := h
    exact ⟨u8, t, [], _, rfl, (led (rd := rd) (o := o) (t := t) (zl4 z)), by simp, B, aa, u1, u2, u, u4, u6, u7, ta, ps, rfl, hta, hps⟩
  | key nm =>
    obtain ⟨T1, T2, T3, T4, -⟩ := T
    refine Tell.lift (t_rc_record B T1 T2 T3 T4 ok) (Nat.le_refl _) (Nat.le_refl _) fun x n h => ?_
    obtain ⟨u8, rfl, t, u, rfl⟩ := h
    exact ⟨u8, t, [], _, rfl, (led (rd := rd) (o := o) (t := t) (zl4 z)), by simp, B, aa, u1, u2, u3, u, u6, u7, ta, ps, rfl, hta, hps⟩
  | rel nm =>
    obtain ⟨T1, T2, T3, T4, -⟩ := T
    refine Tell.lift (t_rc_relative B T1 T2 T3 T4 ok) (Nat.le_refl _) (Nat.le_refl _) fun x n h => ?_
    obtain ⟨u8, rfl, t, u, rfl⟩ := h
    exact ⟨u8, t, [], _, rfl, (led (rd := rd) (o := o) (t := t) (zl4 z)), by simp, B, aa, u1, u2, u3, u4, u, u7, ta, ps, rfl, hta, hps⟩
  | stat nm =>
    obtain ⟨T1, T2, T3, T4, -⟩ := T
    rw [show z + 1 + 1 = z + 2 by omega] at T3 T4
    refine Tell.lift (t_rc_status B T1 T2 T3 T4 ok) (Nat.le_refl _) (Nat.le_refl _) fun x n h => ?_
    obtain ⟨u8, rfl, t, u, rfl⟩ := h
    exact ⟨u8, t, [], _, rfl, (led (rd := rd) (o := o) (t := t) (zl5 z)), by simp, B, aa, u1, u2, u3, u4, u6, u, ta, ps, rfl, hta, hps⟩
  | alt nm b =>
    obtain ⟨hf, hnin, hlen⟩ := ok
    have hsz : ps.length ≤ 100 := by rw [hps.len]; omega
    cases b with
    | false =>
      obtain ⟨T1, T2, T3, T4, T5, T6, -⟩ := T
      have hA : AltTell w O r rd tl sp sd o (z + 1) (z + 1 + 1 + 1 + 1 + 1) vs ps (SD w.params aa v0 (.str σ.path u1) (.str σ.org u2) (.str σ.acc u3) (.str σ.key u4) (.ref ta) (.str σ.rel u6) (.str σ.stat u7) v8 v9) (fun v5 => SD w.params aa v0 (.str σ.path u1) (.str σ.org u2) (.str σ.acc u3) (.str σ.key u4) v5 (.str σ.rel u6) (.str σ.stat u7) v8 v9) nm false := by
        intro tk'
        exact t_alt0 B T2 T3 T4 T5 hf T6 n2 n3 hta hps hsz hnin
      refine @Tell.lift w 7 60 7 60 188 _ _ (fun x news' => ∃ u8, x = .str "ALTERNATE" u8 ∧ AltPost w O r rd tl sp sd o (z + 1 + 1 + 1 + 1 + 1) vs ps (fun v5 => SD w.params aa v0 (.str σ.path u1) (.str σ.org u2) (.str σ.acc u3) (.str σ.key u4) v5 (.str σ.rel u6) (.str σ.stat u7) v8 v9) nm false .none news') _ ?H3 (Nat.le_refl _) (Nat.le_refl _) ?K3
      case H3 => exact t_rc_alt (tk := tk) (z' := (z + 1 + 1 + 1 + 1 + 1)) (ps := ps) (S := fun v5 => SD w.params aa v0 (.str σ.path u1) (.str σ.org u2) (.str σ.acc u3) (.str σ.key u4) v5 (.str σ.rel u6) (.str σ.stat u7) v8 v9) (nm := nm) (b := false) B T1 hA
      intro x n h
      obtain ⟨u8, rfl, -, t, ta', p', u', NN, rfl, hB, m1, m2, hc⟩ := h
      exact ⟨u8, t, NN, _, rfl, (led (rd := rd) (o := o) (t := t) (zl6 z)), hc, hB, aa, u1, u2, u3, u4, u6, u7, ta', _, rfl, m1, (hps.mono fun p hp => List.mem_append_right _ hp).snoc m2⟩
    | true =>
      obtain ⟨T1, T2, T3, T4, T5, T6, T7, -⟩ := T
      have hA : AltTell w O r rd tl sp sd o (z + 1) (z + 1 + 1 + 1 + 1 + 1 + 2) vs ps (SD w.params aa v0 (.str σ.path u1) (.str σ.org u2) (.str σ.acc u3) (.str σ.key u4) (.ref ta) (.str σ.rel u6) (.str σ.stat u7) v8 v9) (fun v5 => SD w.params aa v0 (.str σ.path u1) (.str σ.org u2) (.str σ.acc u3) (.str σ.key u4) v5 (.str σ.rel u6) (.str σ.stat u7) v8 v9) nm true := by
        intro tk'
        exact t_alt1 B T2 T3 T4 T5 hf T6 T7 hta hps hsz hnin
      refine @Tell.lift w 7 60 7 60 188 _ _ (fun x news' => ∃ u8, x = .str "ALTERNATE" u8 ∧ AltPost w O r rd tl sp sd o (z + 1 + 1 + 1 + 1 + 1 + 2) vs ps (fun v5 => SD w.params aa v0 (.str σ.path u1) (.str σ.org u2) (.str σ.acc u3) (.str σ.key u4) v5 (.str σ.rel u6) (.str σ.stat u7) v8 v9) nm true .none news') _ ?H4 (Nat.le_refl _) (Nat.le_refl _) ?K4
      case H4 => exact t_rc_alt (tk := tk) (z' := (z + 1 + 1 + 1 + 1 + 1 + 2)) (ps := ps) (S := fun v5 => SD w.params aa v0 (.str σ.path u1) (.str σ.org u2) (.str σ.acc u3) (.str σ.key u4) v5 (.str σ.rel u6) (.str σ.stat u7) v8 v9) (nm := nm) (b := true) B T1 hA
      intro x n h
      obtain ⟨u8, rfl, -, t, ta', p', u', NN, rfl, hB, m1, m2, hc⟩ := h
      exact ⟨u8, t, NN, _, rfl, (led (rd := rd) (o := o) (t := t) (zl7 z)), hc, hB, aa, u1, u2, u3, u4, u6, u7, ta', _, rfl, m1, (hps.mono fun p hp => List.mem_append_right _ hp).snoc m2⟩
end
end
section
set_option maxRecDepth 100000
set_option maxHeartbeats 4000000
/-- a while over a list, item by item -/
theorem whl_list {α : Type} {prog : Program} {w : World} {A : Around} {E : Value → Shared → Prop} {env : PySem.Env} {test : PySem.Expr} {body orelse : List PySem.Stmt} {Q : Flow → Shared → Prop} (I : List α → Shared → Prop) (hE : PassesOwn (model prog w) A env E)
    (step : ∀ c cs s, I (c :: cs) s → wpAny (model prog w) A (isTrue test env (eval test env)) (fun b s₂ => WhlIf b (wpAny (model prog w) A (execs body env) (fun f s₃ => f = .next ∧ I cs s₃) E s₂) False) E s)
    (last : ∀ s, I [] s → wpAny (model prog w) A (isTrue test env (eval test env)) (fun b s₂ => WhlIf b False (wpAny (model prog w) A (execs orelse env) Q E s₂)) E s) :
    ∀ (cs : List α) (s : Shared), I cs s → WhlRest prog w A E env test body orelse Q 1 s := by
  intro cs
  induction cs with
  | nil =>
    intro s h
    refine whl_turn hE (wpAny_mono (last s h) (fun b s₂ h₂ => ?_) fun _ _ e => e)
    cases b with
    | false => exact h₂
    | true => exact h₂.elim
  | cons c cs ih =>
    intro s h
    refine whl_turn hE (wpAny_mono (step c cs s h) (fun b s₂ h₂ => ?_) fun _ _ e => e)
    cases b with
    | false => exact h₂.elim
    | true =>
      refine wpAny_mono h₂ (fun f s₃ h₃ => ?_) fun _ _ e => e
      obtain ⟨rfl, h₃⟩ := h₃
      exact ih s₃ h₃
/-- what is told of a call that may raise a fault -/
noncomputable def TellX (w : World) (D U : Nat) (f : Addr) (args : List Value) (news : List (Addr × Obj)) (post : Value → List (Addr × Obj) → Prop) (postE : Addr → Addr → List (Addr × Obj) → Prop) : Prop :=
  ∀ {p : Program} {loose : List Str} {mean : ExcName → Option Value} {mg mb : Str → Option Value} (dp un : Nat) (gd : Option (List Code)) (cn : Str) (cs : Scope) (a : Addr) (ccd : Value) (cl : List (Str × Addr)) (outer : List Env)
    (A₀ : Around) (base h₀ : Heap) (L : Addr) (m : Str → Option Value) (s : Shared) (Q E : Value → Shared → Prop),
    Below A₀ base outer h₀ → Fr h₀ L s.heap m → (Mine.KK w.params).In h₀ → News h₀ L s.heap news → Top p loose mean mg mb h₀ → cs.kind = .function → dp + D < recursionLimit → un + U < cLine →
    (∀ r news' h' tk', post r news' → Fr h₀ L h' m → News h₀ L h' news' → Q r { s with heap := h', toks := tk' }) →
    (∀ e dx news' G h' tk', postE e dx news' → RaisedD base G (envX cn cs L a ccd cl :: outer) e 116 dx news' h' → G.UpToSlots h' → Fr h₀ L G m → E (.ref e) { s with heap := h', toks := tk' }) →
    wpAny (model PySem.Challenge.rw_qd0102_01.prog w) (ktrTop dp un gd cn cs L a ccd cl outer) (call (.ref f) args) Q E s
/-- each clause may stand where it stands -/
noncomputable def ClsOk : Sp → List PySem.Str → List Cl → Prop
  | _, _, [] => True
  | σ, labs, c :: cs => c.Ok σ ∧ (labs.any (· == c.label) = false ∨ c.label = PySem.Str.ofString "ALTERNATE") ∧ ClsOk (c.upd σ) (labs ++ [c.label]) cs
noncomputable def sp0 : Sp := { path := PySem.Str.ofString "", org := PySem.Str.ofString "sequential", acc := PySem.Str.ofString "sequential", key := PySem.Str.ofString "", rel := PySem.Str.ofString "", stat := PySem.Str.ofString "", al := [] }
noncomputable abbrev dot : PySem.Str × PySem.Str := (PySem.Str.ofString "sign", PySem.Str.ofString ".")
theorem PairsAt.monoT {O news : List (Addr × Obj)} {ps : List Value} {al : List (PySem.Str × Bool)} (h : PairsAt O ps al) (hs : ∀ p ∈ O, p.2.cls = .type "tuple" → p ∈ news) : PairsAt news ps al := by
  induction h with
  | nil => exact .nil
  | cons hm _ ih => exact .cons (hs _ hm rfl) ih
theorem St.monoT {P : Params} {O news : List (Addr × Obj)} {v0 v8 v9 : Value} {σ : Sp} {ob : Obj} (hs : ∀ p ∈ O, p.2.cls = .type "tuple" → p ∈ news) (h : St P O v0 v8 v9 σ ob) : St P news v0 v8 v9 σ ob := by
  obtain ⟨aa, u1, u2, u3, u4, u6, u7, ta, ps, e, h1, h2⟩ := h
  exact ⟨aa, u1, u2, u3, u4, u6, u7, ta, ps, e, hs _ h1 rfl, PairsAt.monoT h2 hs⟩
theorem Tell.sub {w : World} {D U : Nat} {f : Addr} {args : List Value} {news : List (Addr × Obj)} {post post' : Value → List (Addr × Obj) → Prop} (h : Tell w D U f args news post) (hp : ∀ r n, post r n → ∃ n', post' r n' ∧ ∀ p ∈ n', p ∈ n) : Tell w D U f args news post' := by
  intro p loose mean mg mb dp un gd cn cs a ccd cl outer A₀ base h₀ L m s Q E b1 b2 b3 b4 b5 b6 b7 b8 ret
  refine h dp un gd cn cs a ccd cl outer A₀ base h₀ L m s Q E b1 b2 b3 b4 b5 b6 b7 b8 fun r n h' tk' hp' F' N' => ?_
  obtain ⟨n', k1, k2⟩ := hp r n hp'
  exact ret r n' h' tk' k1 F' fun p hp => N' p (k2 p hp)
theorem Both.cons {P : Params} {O : List (Addr × Obj)} {r rd tl sp sd ml : Addr} {o : Int → Tok → Obj} {vs : List Value} {X : Obj} (B : Both P O r rd tl sp sd o vs) (h1 : ml ≠ rd) (h2 : ml ≠ sd) : Both P ((ml, X) :: O) r rd tl sp sd o vs :=
  ⟨⟨List.mem_cons_of_mem _ B.base.inst, B.base.form, let ⟨n, h⟩ := B.base.list; ⟨n, List.mem_cons_of_mem _ h⟩, B.base.few⟩, List.mem_cons_of_mem _ B.spec, fun p hp => by
    rcases List.mem_cons.mp hp with rfl | hp
    · exact h1
    · exact B.offR p hp, fun p hp => by
    rcases List.mem_cons.mp hp with rfl | hp
    · exact h2
    · exact B.offS p hp, B.ne⟩
/-- what is told of a clause read, a list beside it -/
noncomputable def ClPost2 (P : Params) (O : List (Addr × Obj)) (r rd tl sp sd ml : Addr) (X : Obj) (o : Int → Tok → Obj) (vs : List Value) (z' : Int) (v0 v8 v9 : Value) (σ' : Sp) (lab : PySem.Str) (x : Value) (news' : List (Addr × Obj)) : Prop :=
  ∃ u t O' ob', x = .str lab u ∧ news' = (rd, o z' t) :: (sd, ob') :: (ml, X) :: O' ∧ (∀ p ∈ O, p ∈ O') ∧ (∀ p ∈ O', p ∈ O ∨ p.2.cls = .type "tuple") ∧ Both P O' r rd tl sp sd o vs ∧ St P O' v0 v8 v9 σ' ob'
theorem cl_step2 {w : World} {O : List (Addr × Obj)} {r rd tl sp sd ml : Addr} {X : Obj} {o : Int → Tok → Obj} {z : Int} {tk : Tok} {vs : List Value} {v0 v8 v9 : Value} {σ : Sp} {ob : Obj} {nx : PySem.Str × PySem.Str} {rest : List (PySem.Str × PySem.Str)}
    (B : Both w.params O r rd tl sp sd o vs) (h1 : ml ≠ rd) (h2 : ml ≠ sd) (hX : X.cls = .type "list") (S : St w.params O v0 v8 v9 σ ob) (c : Cl) (T : Toks w.params O vs z (c.words ++ nx :: rest)) (n1 : (nx.1 == (PySem.Str.ofString "literal")) = false)
    (n2 : (nx.1 == (PySem.Str.ofString "word") && nx.2 == (PySem.Str.ofString "WITH")) = false) (n3 : (nx.1 == (PySem.Str.ofString "word") && nx.2 == (PySem.Str.ofString "DUPLICATES")) = false) (ok : c.Ok σ) :
    Tell w 7 60 188 [.ref r, .ref sp] ((rd, o z tk) :: (sd, ob) :: (ml, X) :: O) (ClPost2 w.params O r rd tl sp sd ml X o vs (z + (c.words.length : Int)) v0 v8 v9 (c.upd σ) c.label) := by
  have sub : ∀ p ∈ O, p ∈ (ml, X) :: O := fun p hp => List.mem_cons_of_mem _ hp
  have notT : ∀ {p : Addr × Obj}, p = (ml, X) → p.2.cls = .type "tuple" → False := fun e h => by
    subst e
    rw [hX] at h
    exact absurd h (by decide)
  refine @Tell.sub w 7 60 188 _ _ (ClPost w.params ((ml, X) :: O) r rd tl sp sd o vs (z + (c.words.length : Int)) v0 v8 v9 (c.upd σ) c.label) _ (cl_step (B.cons h1 h2) (S.mono sub) c (T.mono sub) n1 n2 n3 ok) fun x n h => ?_
  obtain ⟨u, t, NN, ob', rfl, rfl, hc, hB, hS⟩ := h
  refine ⟨(rd, o (z + (c.words.length : Int)) t) :: (sd, ob') :: (ml, X) :: (NN ++ O), ⟨u, t, NN ++ O, ob', rfl, rfl, fun p hp => List.mem_append_right _ hp, fun p hp => ?_, ?_, ?_⟩, fun p hp => ?_⟩
  · rcases List.mem_append.mp hp with hp | hp
    · exact .inr (hc p hp)
    · exact .inl hp
  · have off : ∀ p ∈ NN ++ O, p ∈ NN ++ (ml, X) :: O := fun p hp => by
      rcases List.mem_append.mp hp with hp | hp
      · exact List.mem_append_left _ hp
      · exact List.mem_append_right _ (List.mem_cons_of_mem _ hp)
    exact ⟨⟨List.mem_append_right _ B.base.inst, B.base.form, let ⟨n, h⟩ := B.base.list; ⟨n, List.mem_append_right _ h⟩, B.base.few⟩, List.mem_append_right _ B.spec, fun p hp => hB.offR p (off p hp), fun p hp => hB.offS p (off p hp), B.ne⟩
  · refine St.monoT (fun p hp ht => ?_) hS
    rcases List.mem_append.mp hp with hp | hp
    · exact List.mem_append_left _ hp
    · rcases List.mem_cons.mp hp with e | hp
      · exact (notT e ht).elim
      · exact List.mem_append_right _ hp
  · rcases List.mem_cons.mp hp with rfl | hp
    · exact List.mem_cons_self ..
    · rcases List.mem_cons.mp hp with rfl | hp
      · exact List.mem_cons_of_mem _ (List.mem_cons_self ..)
      · refine List.mem_cons_of_mem _ (List.mem_cons_of_mem _ ?_)
        rcases List.mem_cons.mp hp with rfl | hp
        · exact List.mem_append_right _ (List.mem_cons_self ..)
        · rcases List.mem_append.mp hp with hp | hp
          · exact List.mem_append_left _ hp
          · exact List.mem_append_right _ (List.mem_cons_of_mem _ hp)
/-- a clause begins with a word -/
theorem Cl.first (c : Cl) : ∃ W l, c.words = wrd W :: l ∧ (W == PySem.Str.ofString "WITH") = false ∧ (W == PySem.Str.ofString "DUPLICATES") = false := by
  cases c with
  | alt n b => exact ⟨_, _, rfl, by decide +kernel, by decide +kernel⟩
  | _ => exact ⟨_, _, rfl, by decide +kernel, by decide +kernel⟩
/-- what comes behind a clause -/
theorem cls_next (cs : List Cl) : ∃ nx rest, cs.flatMap Cl.words ++ [dot] = nx :: rest ∧ (nx.1 == (PySem.Str.ofString "literal")) = false ∧ (nx.1 == (PySem.Str.ofString "word") && nx.2 == (PySem.Str.ofString "WITH")) = false ∧ (nx.1 == (PySem.Str.ofString "word") && nx.2 == (PySem.Str.ofString "DUPLICATES")) = false := by
  cases cs with
  | nil => exact ⟨dot, [], rfl, by decide +kernel, by decide +kernel, by decide +kernel⟩
  | cons c cs =>
    obtain ⟨W, l, e, w1, w2⟩ := c.first
    exact ⟨wrd W, l ++ cs.flatMap Cl.words ++ [dot], by rw [List.flatMap_cons, e]; simp, by show ((PySem.Str.ofString "word") == (PySem.Str.ofString "literal")) = false; decide +kernel, by rw [w1, Bool.and_false], by rw [w2, Bool.and_false]⟩
/-- what holds between two clauses -/
inductive RsI (P : Params) (g' : Heap) (L' : Addr) (s0 : Shared) (O₁ : List (Addr × Obj)) (r rd tl sp sd ml e : Addr) (o : Int → Tok → Obj) (vs : List Value) (v0 v9 : Value) (σF : Sp) (zF : Int) (cs : List Cl) (s : Shared) : Prop where
  | mk (h : Heap) (tk : Nat) (m : PySem.Str → Option Value) (σ : Sp) (labs : List PySem.Str) (mvs : List Value) (c : Nat) (ob : Obj) (O₂ : List (Addr × Obj)) (z : Int) (t : Tok) (es : s = { s0 with heap := h, toks := tk }) (F : Fr g' L' h m)
      (q : m (PySem.Str.ofString "reader") = some (.ref r) ∧ m (PySem.Str.ofString "spec") = some (.ref sp) ∧ m (PySem.Str.ofString "met") = some (.ref ml) ∧ m (PySem.Str.ofString "place") = some (.ref e))
      (N : News g' L' h ((rd, o z t) :: (sd, ob) :: (ml, listOf mvs.toArray c) :: O₂)) (sub : ∀ p ∈ O₁, p ∈ O₂) (B : Both P O₂ r rd tl sp sd o vs) (ne : ml ≠ rd ∧ ml ≠ sd ∧ ∀ p ∈ O₂, p.1 ≠ ml) (S : St P O₂ v0 (.bool false) v9 σ ob) (sa : StrsAre mvs labs) (len : mvs.length + cs.length ≤ 100)
      (T : Toks P O₂ vs z (cs.flatMap Cl.words ++ [dot])) (ok : ClsOk σ labs cs) (fo : cs.foldl Cl.upd σ = σF) (ez : z + ((cs.flatMap Cl.words).length : Int) = zF) : RsI P g' L' s0 O₁ r rd tl sp sd ml e o vs v0 v9 σF zF cs s
theorem allLt_mem {d : Nat} : ∀ {l : List (Addr × Obj)}, AllLt d l → ∀ p ∈ l, @LT.lt Nat _ p.1 d
  | [], _, p, hp => nomatch hp
  | _ :: _, h, p, hp => by
    rcases List.mem_cons.mp hp with rfl | hp
    · exact h.1
    · exact allLt_mem h.2 p hp
theorem m_split4 {m : PySem.Str → Option Value} {a b c d : PySem.Str} {va vb vc vd : Value} (ha : m a = some va) (hb : m b = some vb) (hc : m c = some vc) (hd : m d = some vd) : ∃ m9 : PySem.Str → Option Value, m = fun y => if y = a then some va else if y = b then some vb else if y = c then some vc else if y = d then some vd else m9 y := by
  refine ⟨m, funext fun y => ?_⟩
  by_cases h : y = a
  · subst h; rw [if_pos rfl, ha]
  · rw [if_neg h]
    by_cases h2 : y = b
    · subst h2; rw [if_pos rfl, hb]
    · rw [if_neg h2]
      by_cases h3 : y = c
      · subst h3; rw [if_pos rfl, hc]
      · rw [if_neg h3]
        by_cases h4 : y = d
        · subst h4; rw [if_pos rfl, hd]
        · rw [if_neg h4]
end
section
set_option maxRecDepth 100000
set_option maxHeartbeats 4000000
section
variable {prog : Program} {w : World} {A : Around} {E : Value → Shared → Prop} {s : Shared} {env : PySem.Env} {C e t dx : Addr} {ex : PySem.Expr} {pos : Pos} {Q : Flow → Shared → Prop}
theorem exc_raise (hh : A.handled = none) (h : wpAny (model prog w) A (eval ex env) (fun v s₁ => v = .ref e ∧ Looks (model prog w) s₁.heap (isSubtype (.ref C) (.type "BaseException")) true ∧ (∃ oC, s₁.heap.get? C = some oC ∧ oC.cls = .type "type") ∧ s₁.heap.get? e = some (excD C t dx) ∧ E (.ref e) s₁) E s) :
    wpAny (model prog w) A (exec (.Raise (some ex) none pos) env) Q E s := by
  rw [arm_exec_Raise]
  simp only [evalOpt, Option.map]
  refine wpAny_bind (wpAny_standAt ?_)
  unfold raiseStmt
  refine wpAny_bind (wpAny_bind (wpAny_mono h (fun v s₁ h₁ => ?_) fun _ _ x => x))
  obtain ⟨rfl, hL, ⟨oC, hC, hCc⟩, he, hE⟩ := h₁
  obtain ⟨hp, g, d, tk, os⟩ := s₁
  repeat (first | with_reducible refine wpAny_loadPart_at he ?_ | with_reducible refine hL.at ?_ | (with_reducible refine wpAny_loadPart_at hC ?_; rw [hCc]) | wp_step)
  exact wpAny_raiseNew_none hh hE
end
theorem gf_sub {w : World} {h : Heap} (X : (Mine.KK w.params).In h) : Looks (model PySem.Challenge.rw_qd0102_01.prog w) h (isSubtype (.ref 116) (.type "BaseException")) true := looks_mroIn X (by rfl)
theorem gf_type {P : Params} {h : Heap} (X : (Mine.KK P).In h) : ∃ oC, h.get? 116 = some oC ∧ oC.cls = .type "type" := by
  obtain ⟨oC, e, c⟩ : ∃ oC, (Mine.KK P).lookup 116 = some oC ∧ oC.cls = .type "type" := ⟨_, rfl, rfl⟩
  exact ⟨oC, X _ _ e, c⟩
end
section
set_option maxRecDepth 100000
set_option maxHeartbeats 4000000
set_option rowWalk.seconds 0
noncomputable def Halt (P : Prop) : Prop := P
theorem halt {P : Prop} (h : Halt P) : P := h
local macro_rules | `(tactic| walk_at "exec While") => `(tactic| (k_here; k_dflt (refine whl_start 1 (halt ?_))))
theorem cls_ne {x y : Obj} (h : x.cls ≠ y.cls) : x ≠ y := fun e => h (congrArg Obj.cls e)
local macro_rules | `(tactic| walk_at "exec Raise some none") => `(tactic| (k_here; k_dflt (refine halt ?_)))
structure RaiseAt (M : Model) (h : Heap) (C e t dx : Addr) (Z : Prop) : Prop where
  sub : Looks M h (isSubtype (.ref C) (.type "BaseException")) true
  typ : ∃ oC, h.get? C = some oC ∧ oC.cls = .type "type"
  at_ : h.get? e = some (excD C t dx)
  go : Z
theorem exc_raise_at {prog : Program} {w : World} {A : Around} {E : Value → Shared → Prop} {s : Shared} {env : PySem.Env} {C e t dx : Addr} {ex : PySem.Expr} {pos : Pos} {Q : Flow → Shared → Prop} {O : List (Addr × Obj)} (_hm : (e, excD C t dx) ∈ O) (hh : A.handled = none)
    (h : wpAny (model prog w) A (eval ex env) (fun v s₁ => v = .ref e ∧ RaiseAt (model prog w) s₁.heap C e t dx (E (.ref e) s₁)) E s) :
    wpAny (model prog w) A (exec (.Raise (some ex) none pos) env) Q E s := exc_raise hh (wpAny_mono h (fun v s₁ h => ⟨h.1, h.2.sub, h.2.typ, h.2.at_, h.2.go⟩) fun _ _ x => x)
theorem rs_left {M : Model} {A : Around} {E : Value → Shared → Prop} {s' : Shared} {base g : Heap} {outer : List Env} {L a e gd gt rd : Addr} {m : PySem.Str → Option Value} {name : PySem.Str} {scope : Scope} {cd : Value} {Q : Unit → Shared → Prop} {all O O₂ : List (Addr × Obj)} {P : Params} {g1 g2 gu : Tok} {what : PySem.Str} {pl : Addr} {Y : Obj} {tr : Addr × Obj}
    (K : Below A base outer g) (F : Fr g L s'.heap m) (N : News g L s'.heap all) (h1 : ∀ p ∈ O₂, p ∈ all) (sub : ∀ p ∈ tr :: (gd, GD P g1 g2 gu what pl) :: (e, excD 116 gt gd) :: O, p ∈ O₂) (gl : ∀ p ∈ (rd, Y) :: O, p.1 < e) (gm : ∀ p ∈ (e, excD 116 gt gd) :: (rd, Y) :: O, p.1 < gd) (hk : scope.kind = .function)
    (hQ : ∀ h', RaisedD base g outer e 116 gd ((gd, GD P g1 g2 gu what pl) :: O) h' → g.UpToSlots h' → Q () { s' with heap := h' }) :
    wpAny M (A.deeper (envOf name scope L a cd)) (leaving (envOf name scope L a cd) (.ref e)) Q E s' := by
  refine leave_D (vs := #[.ref gt, .none, .none, .none, .bool false, .none]) (news := (gd, GD P g1 g2 gu what pl) :: O) K F (fun p hp => N p (h1 p (sub p ?_))) (fun q hq => ?_) rfl hk hQ
  · rcases List.mem_cons.mp hp with h | hp
    · subst h; exact List.mem_cons_of_mem _ (List.mem_cons_of_mem _ (List.mem_cons_self ..))
    rcases List.mem_cons.mp hp with h | hp
    · subst h; exact List.mem_cons_of_mem _ (List.mem_cons_self ..)
    · exact List.mem_cons_of_mem _ (List.mem_cons_of_mem _ (List.mem_cons_of_mem _ hp))
  · rcases List.mem_cons.mp hq with h | hq
    · subst h; exact Nat.ne_of_gt (gm _ (List.mem_cons_self ..))
    · exact Nat.ne_of_lt (gl q (List.mem_cons_of_mem _ hq))
/-- a spec read -/
inductive RsOk (P : Params) (O : List (Addr × Obj)) (rd : Addr) (o : Int → Tok → Obj) (nm : PySem.Str) (zF : Int) (σF : Sp) (x : Value) (news' : List (Addr × Obj)) : Prop where
  | mk (hw : whole σF.path σF.org σF.acc σF.key σF.rel σF.al = true) (sp sd : Addr) (t : Tok) (O' : List (Addr × Obj)) (ob : Obj) (u0 : Tok) (tr : Addr) (e : x = .ref sp) (e' : news' = (rd, o zF t) :: (sd, ob) :: O') (sub : ∀ p ∈ O, p ∈ O') (m1 : (sp, instObj 144 sd) ∈ O') (m2 : (tr, tupO []) ∈ O') (S : St P O' (.str nm u0) (.bool false) (.ref tr) σF ob) : RsOk P O rd o nm zF σF x news'
/-- a spec refused at the name's place -/
inductive RsBad (P : Params) (O : List (Addr × Obj)) (pl : Addr) (σF : Sp) (e dx : Addr) (news' : List (Addr × Obj)) : Prop where
  | mk (hw : whole σF.path σF.org σF.acc σF.key σF.rel σF.al = false) (t1 t2 u : Tok) (what : PySem.Str) (e' : news' = (dx, GD P t1 t2 u what pl) :: O) : RsBad P O pl σF e dx news'
theorem rs_done {P : Params} {O O₂ : List (Addr × Obj)} {h₀ h : Heap} {L rd sd ml sp tr : Addr} {o : Int → Tok → Obj} {nm : PySem.Str} {zF : Int} {σF : Sp} {t u0 : Tok} {ob X : Obj} (N : News h₀ L h ((rd, o zF t) :: (sd, ob) :: (ml, X) :: O₂)) (hw : whole σF.path σF.org σF.acc σF.key σF.rel σF.al = true)
    (sub : ∀ p ∈ O, p ∈ O₂) (hsp : (sp, instObj 144 sd) ∈ O₂) (htr : (tr, tupO []) ∈ O₂) (S : St P O₂ (.str nm u0) (.bool false) (.ref tr) σF ob) : ∃ n', RsOk P O rd o nm zF σF (.ref sp) n' ∧ News h₀ L h n' := by
  refine ⟨(rd, o zF t) :: (sd, ob) :: O₂, ⟨hw, sp, sd, t, O₂, ob, u0, tr, rfl, rfl, sub, hsp, htr, S⟩, fun p hp => N p ?_⟩
  rcases List.mem_cons.mp hp with h | hp
  · subst h; exact List.mem_cons_self ..
  rcases List.mem_cons.mp hp with h | hp
  · subst h; exact List.mem_cons_of_mem _ (List.mem_cons_self ..)
  · exact List.mem_cons_of_mem _ (List.mem_cons_of_mem _ (List.mem_cons_of_mem _ hp))
theorem rs_perm {A : Type} {a b c d e f g h : A} {O : List A} (q : A) (hq : q ∈ h :: e :: a :: c :: d :: b :: f :: g :: O) : q ∈ a :: b :: c :: d :: e :: f :: g :: h :: O := by
  simp only [List.mem_cons] at hq ⊢
  rcases hq with h | h | h | h | h | h | h | h | h <;> simp [h]
theorem rs_off {h₀ h : Heap} {L : Addr} {news O : List (Addr × Obj)} (N : News h₀ L h news) {d : Addr} {x : Obj} (hd : (d, x) ∈ news) (hO : ∀ p ∈ O, p.1 ≠ d) {a b c d' e : Addr × Obj} (ha : a ∈ news ∧ a.2 ≠ x) (hb : b ∈ news ∧ b.2 ≠ x) (hc : c ∈ news ∧ c.2 ≠ x) (hd' : d' ∈ news ∧ d'.2 ≠ x) (he : e ∈ news ∧ e.2 ≠ x) :
    ∀ p ∈ a :: b :: c :: d' :: e :: O, p.1 ≠ d := by
  have go : ∀ p : Addr × Obj, p ∈ news ∧ p.2 ≠ x → p.1 ≠ d := fun p hp => news_ne N (a := p.1) (x := p.2) hp.1 hd hp.2
  exact List.forall_mem_cons.mpr ⟨go _ ha, List.forall_mem_cons.mpr ⟨go _ hb, List.forall_mem_cons.mpr ⟨go _ hc, List.forall_mem_cons.mpr ⟨go _ hd', List.forall_mem_cons.mpr ⟨go _ he, hO⟩⟩⟩⟩⟩
structure RsCore (g' : Heap) (L' : Addr) (h : Heap) (ml tr ta sp sd gd e rd : Addr) (oM oT oI oS oG oE oR : Obj) (O : List (Addr × Obj)) : Prop where
  perm : News g' L' h ((rd, oR) :: (sd, oS) :: (ml, oM) :: (ta, oT) :: (sp, oI) :: (tr, oT) :: (gd, oG) :: (e, oE) :: O)
  nR : ∀ p ∈ (ta, oT) :: (sp, oI) :: (tr, oT) :: (gd, oG) :: (e, oE) :: O, p.1 ≠ rd
  nS : ∀ p ∈ (ta, oT) :: (sp, oI) :: (tr, oT) :: (gd, oG) :: (e, oE) :: O, p.1 ≠ sd
  nM : ∀ p ∈ (ta, oT) :: (sp, oI) :: (tr, oT) :: (gd, oG) :: (e, oE) :: O, p.1 ≠ ml
  sr : sd ≠ rd
  mr : ml ≠ rd
  ms : ml ≠ sd
theorem rs_core {g' h : Heap} {L' : Addr} {ml tr ta sp sd gd e rd : Addr} {oM oT oI oS oG oE oR : Obj} {O : List (Addr × Obj)}
    (N : News g' L' h ((ml, oM) :: (tr, oT) :: (ta, oT) :: (sp, oI) :: (sd, oS) :: (gd, oG) :: (e, oE) :: (rd, oR) :: O)) (hR : ∀ p ∈ O, p.1 ≠ rd) (hS : ∀ p ∈ O, p.1 ≠ sd) (hM : ∀ p ∈ O, p.1 ≠ ml)
    (tR : oT ≠ oR) (iR : oI ≠ oR) (gR : oG ≠ oR) (eR : oE ≠ oR) (tS : oT ≠ oS) (iS : oI ≠ oS) (gS : oG ≠ oS) (eS : oE ≠ oS) (tM : oT ≠ oM) (iM : oI ≠ oM) (gM : oG ≠ oM) (eM : oE ≠ oM) (sR : oS ≠ oR) (mR : oM ≠ oR) (mS : oM ≠ oS) : RsCore g' L' h ml tr ta sp sd gd e rd oM oT oI oS oG oE oR O := by
  have m0 := List.mem_cons_self (a := (ml, oM)) (l := (tr, oT) :: (ta, oT) :: (sp, oI) :: (sd, oS) :: (gd, oG) :: (e, oE) :: (rd, oR) :: O)
  have mtr : (tr, oT) ∈ (ml, oM) :: (tr, oT) :: (ta, oT) :: (sp, oI) :: (sd, oS) :: (gd, oG) :: (e, oE) :: (rd, oR) :: O := by walk_at "mM"
  have mta : (ta, oT) ∈ (ml, oM) :: (tr, oT) :: (ta, oT) :: (sp, oI) :: (sd, oS) :: (gd, oG) :: (e, oE) :: (rd, oR) :: O := by walk_at "mM"
  have msp : (sp, oI) ∈ (ml, oM) :: (tr, oT) :: (ta, oT) :: (sp, oI) :: (sd, oS) :: (gd, oG) :: (e, oE) :: (rd, oR) :: O := by walk_at "mM"
  have msd : (sd, oS) ∈ (ml, oM) :: (tr, oT) :: (ta, oT) :: (sp, oI) :: (sd, oS) :: (gd, oG) :: (e, oE) :: (rd, oR) :: O := by walk_at "mM"
  have mgd : (gd, oG) ∈ (ml, oM) :: (tr, oT) :: (ta, oT) :: (sp, oI) :: (sd, oS) :: (gd, oG) :: (e, oE) :: (rd, oR) :: O := by walk_at "mM"
  have me : (e, oE) ∈ (ml, oM) :: (tr, oT) :: (ta, oT) :: (sp, oI) :: (sd, oS) :: (gd, oG) :: (e, oE) :: (rd, oR) :: O := by walk_at "mM"
  have mrd : (rd, oR) ∈ (ml, oM) :: (tr, oT) :: (ta, oT) :: (sp, oI) :: (sd, oS) :: (gd, oG) :: (e, oE) :: (rd, oR) :: O := by walk_at "mM"
  exact ⟨fun p hp => N p (rs_perm p hp), rs_off N mrd hR ⟨mta, tR⟩ ⟨msp, iR⟩ ⟨mtr, tR⟩ ⟨mgd, gR⟩ ⟨me, eR⟩, rs_off N msd hS ⟨mta, tS⟩ ⟨msp, iS⟩ ⟨mtr, tS⟩ ⟨mgd, gS⟩ ⟨me, eS⟩, rs_off N m0 hM ⟨mta, tM⟩ ⟨msp, iM⟩ ⟨mtr, tM⟩ ⟨mgd, gM⟩ ⟨me, eM⟩, news_ne N msd mrd sR, news_ne N m0 mrd mR, news_ne N m0 msd mS⟩
theorem rsI_init {P : Params} {g' h : Heap} {L' : Addr} {s : Shared} {O : List (Addr × Obj)} {r rd tl sp sd ml e gd ta tr : Addr} {o : Int → Tok → Obj} {z : Int} {t : Tok} {vs : List Value} {m : PySem.Str → Option Value} {tk : Nat} {gt : Addr} {g1 g2 gu : Tok} {what nm : PySem.Str} {pl : Addr} {aa : SC} {u0 u1 u2 u3 u4 u5 u6 : Tok} {cs : List Cl}
    (F : Fr g' L' h m) (N : News g' L' h ((ml, listOf #[] 0) :: (tr, tupO []) :: (ta, tupO []) :: (sp, instObj 144 sd) :: (sd, SD P aa (.str nm u0) (.str (PySem.Str.ofString "") u1) (.str (PySem.Str.ofString "sequential") u2) (.str (PySem.Str.ofString "sequential") u3) (.str (PySem.Str.ofString "") u4) (.ref ta) (.str (PySem.Str.ofString "") u5) (.str (PySem.Str.ofString "") u6) (.bool false) (.ref tr)) :: (gd, GD P g1 g2 gu what pl) :: (e, excD 116 gt gd) :: (rd, o z t) :: O))
    (m1 : m (PySem.Str.ofString "reader") = some (.ref r)) (m2 : m (PySem.Str.ofString "spec") = some (.ref sp)) (m3 : m (PySem.Str.ofString "met") = some (.ref ml)) (m4 : m (PySem.Str.ofString "place") = some (.ref e))
    (B : RdBase P O r rd tl o vs) (hoR : ∀ p ∈ O, p.1 ≠ rd) (oS' : ∀ p ∈ (gd, GD P g1 g2 gu what pl) :: (e, excD 116 gt gd) :: (rd, o z t) :: O, p.1 ≠ sd) (lA : AllLt ml ((tr, tupO []) :: (ta, tupO []) :: (sp, instObj 144 sd) :: (sd, SD P aa (.str nm u0) (.str (PySem.Str.ofString "") u1) (.str (PySem.Str.ofString "sequential") u2) (.str (PySem.Str.ofString "sequential") u3) (.str (PySem.Str.ofString "") u4) (.ref ta) (.str (PySem.Str.ofString "") u5) (.str (PySem.Str.ofString "") u6) (.bool false) (.ref tr)) :: (gd, GD P g1 g2 gu what pl) :: (e, excD 116 gt gd) :: (rd, o z t) :: O)) (T : Toks P O vs z (cs.flatMap Cl.words ++ [dot])) (oks : ClsOk sp0 [] cs) (hlen : cs.length ≤ 100) :
    RsI P g' L' s ((tr, tupO []) :: (gd, GD P g1 g2 gu what pl) :: (e, excD 116 gt gd) :: O) r rd tl sp sd ml e o vs (.str nm u0) (.ref tr) (cs.foldl Cl.upd sp0) (z + ((cs.flatMap Cl.words).length : Int)) cs { s with heap := h, toks := tk } := by
  have oS : ∀ p ∈ O, p.1 ≠ sd := fun p hp => oS' p (List.mem_cons_of_mem _ (List.mem_cons_of_mem _ (List.mem_cons_of_mem _ hp)))
  have oM : ∀ p ∈ O, p.1 ≠ ml := fun p hp => Nat.ne_of_lt (allLt_mem lA p (by walk_at "mM"))
  obtain ⟨rc, rfl⟩ := B.form
  have C := rs_core N hoR oS oM (obj_ne (by intro h; cases h)) (obj_ne (by intro h; cases h)) (obj_ne (by show (some (PySem.Str.ofString "what")) ≠ some (PySem.Str.ofString "tokens"); decide)) (obj_ne (by intro h; cases h))
    (obj_ne (by intro h; cases h)) (obj_ne (by intro h; cases h)) (obj_ne (by show (some (PySem.Str.ofString "what")) ≠ some (PySem.Str.ofString "name"); decide)) (obj_ne (by intro h; cases h))
    (cls_ne (by decide)) (cls_ne (by intro h; cases h)) (cls_ne (by show (Value.type "dict") ≠ Value.type "list"; decide)) (cls_ne (by intro h; cases h))
    (obj_ne (by show (some (PySem.Str.ofString "name")) ≠ some (PySem.Str.ofString "tokens"); decide)) (obj_ne (by intro h; cases h)) (obj_ne (by intro h; cases h))
  have sub : ∀ p ∈ O, p ∈ (ta, tupO []) :: (sp, instObj 144 sd) :: (tr, tupO []) :: (gd, GD P g1 g2 gu what pl) :: (e, excD 116 gt gd) :: O := fun p hp => by walk_at "mM"
  refine ⟨h, tk, m, sp0, [], [], 0, _, (ta, tupO []) :: (sp, instObj 144 sd) :: (tr, tupO []) :: (gd, GD P g1 g2 gu what pl) :: (e, excD 116 gt gd) :: O, z, t, rfl, F, ⟨m1, m2, m3, m4⟩, C.perm, fun p hp => ?_, ⟨⟨sub _ B.inst, B.form, let ⟨n, h⟩ := B.list; ⟨n, sub _ h⟩, B.few⟩, by walk_at "mM", C.nR, C.nS, C.sr⟩,
    ⟨C.mr, C.ms, C.nM⟩, ⟨aa, u1, u2, u3, u4, u5, u6, ta, [], rfl, by walk_at "mM", .nil⟩, .nil, by simpa using hlen, T.mono sub, oks, rfl, rfl⟩
  exact List.mem_cons_of_mem _ (List.mem_cons_of_mem _ hp)
theorem rsI_next {P : Params} {g' h : Heap} {L' : Addr} {s0 : Shared} {O₁ O₂ O9 : List (Addr × Obj)} {r rd tl sp sd ml e : Addr} {o : Int → Tok → Obj} {vs : List Value} {v0 v9 : Value} {σF σ : Sp} {zF z5 : Int} {c : Cl} {ks' : List Cl} {m : PySem.Str → Option Value} {t u9 : Tok} {ob9 : Obj} {mvs : List Value} {labs : List PySem.Str} {c0 tk : Nat}
    (F : Fr g' L' h m) (m1 : m (PySem.Str.ofString "reader") = some (.ref r)) (m2 : m (PySem.Str.ofString "spec") = some (.ref sp)) (m3 : m (PySem.Str.ofString "met") = some (.ref ml)) (m4 : m (PySem.Str.ofString "place") = some (.ref e))
    (N : News g' L' h ((rd, o (z5 + (c.words.length : Int)) t) :: (sd, ob9) :: (ml, listOf (mvs.toArray.push (.str c.label u9)) (c0 + 1)) :: O9)) (sub5 : ∀ p ∈ O₁, p ∈ O₂) (c91 : ∀ p ∈ O₂, p ∈ O9) (c93 : Both P O9 r rd tl sp sd o vs) (c94 : St P O9 v0 (.bool false) v9 (c.upd σ) ob9) (hml : ∀ p ∈ O9, p.1 ≠ ml) (e1 : ml ≠ rd) (e2 : ml ≠ sd)
    (hsa : StrsAre mvs labs) (hlen5 : mvs.length + (c :: ks').length ≤ 100) (hT : Toks P O₂ vs z5 ((c :: ks').flatMap Cl.words ++ [dot])) (hoks : ClsOk (c.upd σ) (labs ++ [c.label]) ks') (hfold : (c :: ks').foldl Cl.upd σ = σF) (hz : z5 + (((c :: ks').flatMap Cl.words).length : Int) = zF) :
    RsI P g' L' s0 O₁ r rd tl sp sd ml e o vs v0 v9 σF zF ks' { s0 with heap := h, toks := tk } := by
  rw [List.push_toArray] at N
  refine ⟨h, tk, m, c.upd σ, labs ++ [c.label], mvs ++ [.str c.label u9], c0 + 1, ob9, O9, z5 + (c.words.length : Int), t, rfl, F, ⟨m1, m2, m3, m4⟩, N, fun p hp => c91 p (sub5 p hp), c93, ⟨e1, e2, hml⟩, c94, strs_snoc hsa, ?_, Toks.mono c91 ?_, hoks, hfold, ?_⟩
  · simp only [List.length_append, List.length_cons, List.length_nil] at hlen5 ⊢; omega
  · refine Toks.drop ?_
    rw [← List.append_assoc]
    rw [List.flatMap_cons] at hT
    exact hT
  · rw [List.flatMap_cons, List.length_append] at hz
    rw [← hz]; push_cast; omega
theorem t_read_select {w : World} {O : List (Addr × Obj)} {r rd tl t d pl : Addr} {o : Int → Tok → Obj} {z : Int} {tk : Tok} {vs : List Value} {x1 x2 x3 x4 y1 y2 : Tok} {nm : PySem.Str} {ks : List Cl}
    (B0 : RdBase w.params O r rd tl o vs) (hoR : ∀ p ∈ O, p.1 ≠ rd) (h0 : 0 ≤ z) (hv : vs[z.toNat]? = some (.ref t)) (hti : (t, instObj 59 d) ∈ O) (htd : (d, TD w.params x1 x2 x3 x4 y1 y2 (PySem.Str.ofString "word") nm pl) ∈ O) (hf : FreeName nm)
    (hopt : ((PySem.Str.ofString "word") == (PySem.Str.ofString "word") && nm == (PySem.Str.ofString "OPTIONAL")) = false)
    (TK : Toks w.params O vs (z + 1) (ks.flatMap Cl.words ++ [dot])) (oks : ClsOk sp0 [] ks) (hlen : ks.length ≤ 100) (hal : ((ks.foldl Cl.upd sp0).al.all fun p => PyData.strOk p.1) = true) :
    TellX w 9 300 202 [.ref r] ((rd, o z tk) :: O) (RsOk w.params O rd o nm (z + 1 + ((ks.flatMap Cl.words).length : Int) + 1) (ks.foldl Cl.upd sp0)) (RsBad w.params O pl (ks.foldl Cl.upd sp0)) := by
  have R0 : TokZ w.params O vs z "word" nm := ⟨h0, t, d, x1, x2, x3, x4, y1, y2, pl, hv, hti, htd⟩
  have hinst := B0.inst
  obtain ⟨rc, rfl⟩ := B0.form
  intro p loose mean mg mb dp un gd cn cs a ccd cl outer A₀ base h₀ L m s Q E B F X N T hk hdp hun ret exc
  refine wpAny_call ?_
  revert X N; k_fill; intro X N
  k_dflt (refine' code_def (binds := [("reader", .ref r)]) ?k1 ?k2 ?k3 ?k4 ?k5 ?kA ?kF ?kK ?k6 ?k7 ?k8 ?k9 ?kB ?_ ?c2 ?c3 ?c4 ?c5; (case kA => exact rfl); (case kF => exact rfl); (case kK => assumption); (case k1 => k_asm); (case k2 => k_asm); (case k3 => k_asm); (case k4 => k_asm); (case k5 => k_asm); (case k6 => exact k_read_select _); (case k7 => k_is); (case k8 => ktr_room); (case k9 => first | exact BindsTo.of_eq rfl | exact binds_KK (by k_in) rfl (by k_is) rfl rfl); (case c5 => decide); (case kB => exact locs rfl); (case c2 => exact rfl); (case c3 => exact rfl); (case c4 => exact rfl); k_whole; intro g' L' h' FG' F' N' B' X' T'; (try dsimp only); (try k_fold))
  (walk_at "kF"; repeat' ((first | (refine' Tell.use (t_whole ?mC ?mD ?mE ?cP ?cK) ?k1 ?k2 ?k3 ?k4 ?k5 ?kK ?kd ?ku ?_; (case k1 | k2 | k3 | k4 | k5 => k_asm); (case mC => walk_at "mM"); (case mD => walk_at "mM"); (case mE => walk_at "mM"); (case cP => first | assumption | exact PairsAt.mono (by assumption) (by walk_at "mS")); (case cK => assumption); (case kK => first | exact rfl | assumption); (case kd => ktr_room); (case ku => ktr_units); k_whole; intro r9 n9 h9 tk9 e9 F9 N9; (obtain ⟨e8, e7⟩ := e9); (subst e8); (subst e7); walk_at "mE") | (refine' Tell.use (t_fault (o := _) ?R ?h0 ?hv ?mA ?mB) ?k1 ?k2 ?k3 ?k4 ?k5 ?kK ?kd ?ku ?_; (case k1 | k2 | k3 | k4 | k5 => k_asm); (case R => walk_at "mR"); (case h0 => assumption); (case hv => assumption); (case mA => walk_at "mM"); (case mB => walk_at "mM"); (case kK => first | exact rfl | assumption); (case kd => ktr_room); (case ku => ktr_units); k_whole; intro r9 n9 h9 tk9 e9 F9 N9; (obtain ⟨ge9, gt9, gd9, g19, g29, e8, e7, gl9, gm9⟩ := e9); (subst e8); (subst e7); walk_at "mE") | (refine' Tell.use (t_FileSpec) ?k1 ?k2 ?k3 ?k4 ?k5 ?kK ?kd ?ku ?_; (case k1 | k2 | k3 | k4 | k5 => k_asm);  (case kK => first | exact rfl | assumption); (case kd => ktr_room); (case ku => ktr_units); k_whole; intro r9 n9 h9 tk9 e9 F9 N9; (obtain ⟨sp9, sd9, ta9, tr9, aa, u1, u2, u3, u4, u5, u6, e8, e7, o9, n91, n92, n93⟩ := e9); (subst e8); (subst e7); walk_at "mE") | (refine' Tell.use (t_skip_sign_yes (o := _) ?R ?ht ?U) ?k1 ?k2 ?k3 ?k4 ?k5 ?kK ?kd ?ku ?_; (case k1 | k2 | k3 | k4 | k5 => k_asm); (case R => walk_at "mR"); (case ht => walk_at "mT"); (case U => (intro t9; k_upd)); (case kK => first | exact rfl | assumption); (case kd => ktr_room); (case ku => ktr_units); k_whole; intro r9 n9 h9 tk9 e9 F9 N9; (obtain ⟨e8, t9, e7⟩ := e9); (subst e8); (subst e7); (try dsimp only at N9); walk_at "mE") | (refine' Tell.use (t_skip_sign_no (o := _) ?R ?ht ?hb) ?k1 ?k2 ?k3 ?k4 ?k5 ?kK ?kd ?ku ?_; (case k1 | k2 | k3 | k4 | k5 => k_asm); (case R => walk_at "mR"); (case ht => walk_at "mT"); (case hb => first | rfl | assumption | decide +kernel); (case kK => first | exact rfl | assumption); (case kd => ktr_room); (case ku => ktr_units); k_whole; intro r9 n9 h9 tk9 e9 F9 N9; (obtain ⟨e8, e7⟩ := e9); (subst e8); (subst e7); walk_at "mE") | (refine' Tell.use (t_skip_no (o := _) ?R ?ht ?hq ?hqs ?hb) ?k1 ?k2 ?k3 ?k4 ?k5 ?kK ?kd ?ku ?_; (case k1 | k2 | k3 | k4 | k5 => k_asm); (case R => walk_at "mR"); (case ht => walk_at "mT"); (case hq => first | exact split_WD | exact split_FS | walk_at "mQ"); (case hqs => walk_at "mQ"); (case hb => first | rfl | assumption | decide +kernel); (case kK => first | exact rfl | assumption); (case kd => ktr_room); (case ku => ktr_units); k_whole; intro r9 n9 h9 tk9 e9 F9 N9; (obtain ⟨e8, e7⟩ := e9); (subst e8); (subst e7); walk_at "mE") | (refine' Tell.use (t_name (o := _) ?R ?ht ?hf ?U) ?k1 ?k2 ?k3 ?k4 ?k5 ?kK ?kd ?ku ?_; (case k1 | k2 | k3 | k4 | k5 => k_asm); (case R => walk_at "mR"); (case ht => walk_at "mT"); (case hf => assumption); (case U => (intro t9; k_upd)); (case kK => first | exact rfl | assumption); (case kd => ktr_room); (case ku => ktr_units); k_whole; intro r9 n9 h9 tk9 e9 F9 N9; (obtain ⟨u9, e8, t9, e7⟩ := e9); (subst e8); (subst e7); (try dsimp only at N9); walk_at "mE") | (refine' Tell.use (t_peek0 (o := _) ?R ?h0 ?hv) ?k1 ?k2 ?k3 ?k4 ?k5 ?kK ?kd ?ku ?_; (case k1 | k2 | k3 | k4 | k5 => k_asm); (case R => walk_at "mR"); (case h0 => assumption); (case hv => assumption); (case kK => first | exact rfl | assumption); (case kd => ktr_room); (case ku => ktr_units); k_whole; intro r9 n9 h9 tk9 e9 F9 N9; (obtain ⟨e8, e7⟩ := e9); (subst e8); (subst e7); walk_at "mE")); walk_at "kF"))
  show WhlRest _ _ _ _ _ _ _ _ _ _ _
  rename Fr g' _ _ _ => lF
  rename News g' _ _ _ => lN
  have init := fun tk => rsI_init (s := s) (tk := tk) (cs := ks) lF lN rfl rfl rfl rfl B0 hoR (by assumption) (by assumption) TK oks hlen
  refine whl_list _ (by first | passes_own | with_unfolding_all passes_own) ?_ ?_ ks _ (init _)
  · intro c ks' s' hI
    obtain ⟨h5, tk5, m5, σ, labs, mvs, c0, ob, O₂, z5, t5, rfl, F5, ⟨q1, q2, q3, q4⟩, N5, sub5, hBoth, ⟨e1, e2, e3⟩, hSt, hsa, hlen5, hT, ⟨hok, hlab, hoks⟩, hfold, hz⟩ := hI
    obtain ⟨m9, rfl⟩ := m_split4 q1 q2 q3 q4
    obtain ⟨W, l, hW, -, -⟩ := c.first
    obtain ⟨nx, rest, hnx, n1, n2, n3⟩ := cls_next ks'
    have hT' : Toks w.params O₂ vs z5 (c.words ++ nx :: rest) := by rw [← hnx]; simpa using hT
    have hT1 : TokZ w.params O₂ vs z5 "word" W := by rw [hW] at hT'; exact hT'.1
    have hT1' := hT1
    obtain ⟨hz5, t6, d6, b1, b2, b3, b4, b5, b6, pl6, hv6, hti6, htd6⟩ := hT1'
    have hsg : ((PySem.Str.ofString "word") == (PySem.Str.ofString "sign") && W == (PySem.Str.ofString ".")) = false := by rw [show ((PySem.Str.ofString "word") == (PySem.Str.ofString "sign")) = false by decide +kernel, Bool.false_and]
    have hbase := hBoth.base
    have hinst5 := hbase.inst
    have hspec5 := hBoth.spec
    clear hv hti htd R0 TK oks B0 hinst lN lF init exc ret q1 q2 q3 q4
    (walk_at "kF"; repeat' ((first | (refine' Tell.use (t_whole ?mC ?mD ?mE ?cP ?cK) ?k1 ?k2 ?k3 ?k4 ?k5 ?kK ?kd ?ku ?_; (case k1 | k2 | k3 | k4 | k5 => k_asm); (case mC => walk_at "mM"); (case mD => walk_at "mM"); (case mE => walk_at "mM"); (case cP => first | assumption | exact PairsAt.mono (by assumption) (by walk_at "mS")); (case cK => assumption); (case kK => first | exact rfl | assumption); (case kd => ktr_room); (case ku => ktr_units); k_whole; intro r9 n9 h9 tk9 e9 F9 N9; (obtain ⟨e8, e7⟩ := e9); (subst e8); (subst e7); walk_at "mE") | (refine' Tell.use (t_fault (o := _) ?R ?h0 ?hv ?mA ?mB) ?k1 ?k2 ?k3 ?k4 ?k5 ?kK ?kd ?ku ?_; (case k1 | k2 | k3 | k4 | k5 => k_asm); (case R => walk_at "mR"); (case h0 => assumption); (case hv => assumption); (case mA => walk_at "mM"); (case mB => walk_at "mM"); (case kK => first | exact rfl | assumption); (case kd => ktr_room); (case ku => ktr_units); k_whole; intro r9 n9 h9 tk9 e9 F9 N9; (obtain ⟨ge9, gt9, gd9, g19, g29, e8, e7, gl9, gm9⟩ := e9); (subst e8); (subst e7); walk_at "mE") | (refine' Tell.use (t_FileSpec) ?k1 ?k2 ?k3 ?k4 ?k5 ?kK ?kd ?ku ?_; (case k1 | k2 | k3 | k4 | k5 => k_asm);  (case kK => first | exact rfl | assumption); (case kd => ktr_room); (case ku => ktr_units); k_whole; intro r9 n9 h9 tk9 e9 F9 N9; (obtain ⟨sp9, sd9, ta9, tr9, aa, u1, u2, u3, u4, u5, u6, e8, e7, o9, n91, n92, n93⟩ := e9); (subst e8); (subst e7); walk_at "mE") | (refine' Tell.use (t_skip_sign_yes (o := _) ?R ?ht ?U) ?k1 ?k2 ?k3 ?k4 ?k5 ?kK ?kd ?ku ?_; (case k1 | k2 | k3 | k4 | k5 => k_asm); (case R => walk_at "mR"); (case ht => walk_at "mT"); (case U => (intro t9; k_upd)); (case kK => first | exact rfl | assumption); (case kd => ktr_room); (case ku => ktr_units); k_whole; intro r9 n9 h9 tk9 e9 F9 N9; (obtain ⟨e8, t9, e7⟩ := e9); (subst e8); (subst e7); (try dsimp only at N9); walk_at "mE") | (refine' Tell.use (t_skip_sign_no (o := _) ?R ?ht ?hb) ?k1 ?k2 ?k3 ?k4 ?k5 ?kK ?kd ?ku ?_; (case k1 | k2 | k3 | k4 | k5 => k_asm); (case R => walk_at "mR"); (case ht => walk_at "mT"); (case hb => first | rfl | assumption | decide +kernel); (case kK => first | exact rfl | assumption); (case kd => ktr_room); (case ku => ktr_units); k_whole; intro r9 n9 h9 tk9 e9 F9 N9; (obtain ⟨e8, e7⟩ := e9); (subst e8); (subst e7); walk_at "mE") | (refine' Tell.use (t_skip_no (o := _) ?R ?ht ?hq ?hqs ?hb) ?k1 ?k2 ?k3 ?k4 ?k5 ?kK ?kd ?ku ?_; (case k1 | k2 | k3 | k4 | k5 => k_asm); (case R => walk_at "mR"); (case ht => walk_at "mT"); (case hq => first | exact split_WD | exact split_FS | walk_at "mQ"); (case hqs => walk_at "mQ"); (case hb => first | rfl | assumption | decide +kernel); (case kK => first | exact rfl | assumption); (case kd => ktr_room); (case ku => ktr_units); k_whole; intro r9 n9 h9 tk9 e9 F9 N9; (obtain ⟨e8, e7⟩ := e9); (subst e8); (subst e7); walk_at "mE") | (refine' Tell.use (t_name (o := _) ?R ?ht ?hf ?U) ?k1 ?k2 ?k3 ?k4 ?k5 ?kK ?kd ?ku ?_; (case k1 | k2 | k3 | k4 | k5 => k_asm); (case R => walk_at "mR"); (case ht => walk_at "mT"); (case hf => assumption); (case U => (intro t9; k_upd)); (case kK => first | exact rfl | assumption); (case kd => ktr_room); (case ku => ktr_units); k_whole; intro r9 n9 h9 tk9 e9 F9 N9; (obtain ⟨u9, e8, t9, e7⟩ := e9); (subst e8); (subst e7); (try dsimp only at N9); walk_at "mE") | (refine' Tell.use (t_peek0 (o := _) ?R ?h0 ?hv) ?k1 ?k2 ?k3 ?k4 ?k5 ?kK ?kd ?ku ?_; (case k1 | k2 | k3 | k4 | k5 => k_asm); (case R => walk_at "mR"); (case h0 => assumption); (case hv => assumption); (case kK => first | exact rfl | assumption); (case kd => ktr_room); (case ku => ktr_units); k_whole; intro r9 n9 h9 tk9 e9 F9 N9; (obtain ⟨e8, e7⟩ := e9); (subst e8); (subst e7); walk_at "mE")); walk_at "kF"))
    refine Tell.use (cl_step2 hBoth e1 e2 rfl hSt c hT' n1 n2 n3 hok) (by k_asm) (by k_asm) (by k_asm) (by k_asm) (by k_asm) rfl (by ktr_room) (by ktr_units) ?_
    intro r9 n9 h9 tk9 e9 F9 N9
    obtain ⟨u9, t9, O9, ob9, rfl, rfl, c91, c92, c93, c94⟩ := e9
    have hml : ∀ p ∈ O9, p.1 ≠ _ := fun p hp => by
      rcases c92 p hp with q | q
      · exact e3 p q
      · exact news_ne N9 (x := p.2) (y := listOf mvs.toArray c0) (List.mem_cons_of_mem _ (List.mem_cons_of_mem _ (List.mem_cons_of_mem _ hp))) (List.mem_cons_of_mem _ (List.mem_cons_of_mem _ (List.mem_cons_self ..))) (cls_ne (by rw [q]; show (Value.type "tuple") ≠ Value.type "list"; decide))
    (walk_at "kF"; repeat' ((first | (refine' Tell.use (t_whole ?mC ?mD ?mE ?cP ?cK) ?k1 ?k2 ?k3 ?k4 ?k5 ?kK ?kd ?ku ?_; (case k1 | k2 | k3 | k4 | k5 => k_asm); (case mC => walk_at "mM"); (case mD => walk_at "mM"); (case mE => walk_at "mM"); (case cP => first | assumption | exact PairsAt.mono (by assumption) (by walk_at "mS")); (case cK => assumption); (case kK => first | exact rfl | assumption); (case kd => ktr_room); (case ku => ktr_units); k_whole; intro r9 n9 h9 tk9 e9 F9 N9; (obtain ⟨e8, e7⟩ := e9); (subst e8); (subst e7); walk_at "mE") | (refine' Tell.use (t_fault (o := _) ?R ?h0 ?hv ?mA ?mB) ?k1 ?k2 ?k3 ?k4 ?k5 ?kK ?kd ?ku ?_; (case k1 | k2 | k3 | k4 | k5 => k_asm); (case R => walk_at "mR"); (case h0 => assumption); (case hv => assumption); (case mA => walk_at "mM"); (case mB => walk_at "mM"); (case kK => first | exact rfl | assumption); (case kd => ktr_room); (case ku => ktr_units); k_whole; intro r9 n9 h9 tk9 e9 F9 N9; (obtain ⟨ge9, gt9, gd9, g19, g29, e8, e7, gl9, gm9⟩ := e9); (subst e8); (subst e7); walk_at "mE") | (refine' Tell.use (t_FileSpec) ?k1 ?k2 ?k3 ?k4 ?k5 ?kK ?kd ?ku ?_; (case k1 | k2 | k3 | k4 | k5 => k_asm);  (case kK => first | exact rfl | assumption); (case kd => ktr_room); (case ku => ktr_units); k_whole; intro r9 n9 h9 tk9 e9 F9 N9; (obtain ⟨sp9, sd9, ta9, tr9, aa, u1, u2, u3, u4, u5, u6, e8, e7, o9, n91, n92, n93⟩ := e9); (subst e8); (subst e7); walk_at "mE") | (refine' Tell.use (t_skip_sign_yes (o := _) ?R ?ht ?U) ?k1 ?k2 ?k3 ?k4 ?k5 ?kK ?kd ?ku ?_; (case k1 | k2 | k3 | k4 | k5 => k_asm); (case R => walk_at "mR"); (case ht => walk_at "mT"); (case U => (intro t9; k_upd)); (case kK => first | exact rfl | assumption); (case kd => ktr_room); (case ku => ktr_units); k_whole; intro r9 n9 h9 tk9 e9 F9 N9; (obtain ⟨e8, t9, e7⟩ := e9); (subst e8); (subst e7); (try dsimp only at N9); walk_at "mE") | (refine' Tell.use (t_skip_sign_no (o := _) ?R ?ht ?hb) ?k1 ?k2 ?k3 ?k4 ?k5 ?kK ?kd ?ku ?_; (case k1 | k2 | k3 | k4 | k5 => k_asm); (case R => walk_at "mR"); (case ht => walk_at "mT"); (case hb => first | rfl | assumption | decide +kernel); (case kK => first | exact rfl | assumption); (case kd => ktr_room); (case ku => ktr_units); k_whole; intro r9 n9 h9 tk9 e9 F9 N9; (obtain ⟨e8, e7⟩ := e9); (subst e8); (subst e7); walk_at "mE") | (refine' Tell.use (t_skip_no (o := _) ?R ?ht ?hq ?hqs ?hb) ?k1 ?k2 ?k3 ?k4 ?k5 ?kK ?kd ?ku ?_; (case k1 | k2 | k3 | k4 | k5 => k_asm); (case R => walk_at "mR"); (case ht => walk_at "mT"); (case hq => first | exact split_WD | exact split_FS | walk_at "mQ"); (case hqs => walk_at "mQ"); (case hb => first | rfl | assumption | decide +kernel); (case kK => first | exact rfl | assumption); (case kd => ktr_room); (case ku => ktr_units); k_whole; intro r9 n9 h9 tk9 e9 F9 N9; (obtain ⟨e8, e7⟩ := e9); (subst e8); (subst e7); walk_at "mE") | (refine' Tell.use (t_name (o := _) ?R ?ht ?hf ?U) ?k1 ?k2 ?k3 ?k4 ?k5 ?kK ?kd ?ku ?_; (case k1 | k2 | k3 | k4 | k5 => k_asm); (case R => walk_at "mR"); (case ht => walk_at "mT"); (case hf => assumption); (case U => (intro t9; k_upd)); (case kK => first | exact rfl | assumption); (case kd => ktr_room); (case ku => ktr_units); k_whole; intro r9 n9 h9 tk9 e9 F9 N9; (obtain ⟨u9, e8, t9, e7⟩ := e9); (subst e8); (subst e7); (try dsimp only at N9); walk_at "mE") | (refine' Tell.use (t_peek0 (o := _) ?R ?h0 ?hv) ?k1 ?k2 ?k3 ?k4 ?k5 ?kK ?kd ?ku ?_; (case k1 | k2 | k3 | k4 | k5 => k_asm); (case R => walk_at "mR"); (case h0 => assumption); (case hv => assumption); (case kK => first | exact rfl | assumption); (case kd => ktr_room); (case ku => ktr_units); k_whole; intro r9 n9 h9 tk9 e9 F9 N9; (obtain ⟨e8, e7⟩ := e9); (subst e8); (subst e7); walk_at "mE")); walk_at "kF"))
    · rename ((labs.any fun x => x == c.label) = true) => w1
      rename ((c.label != Str.ofString "ALTERNATE") = true) => w2
      rcases hlab with q | q
      · rw [q] at w1; cases w1
      · rw [q] at w2; exact absurd w2 (by decide +kernel)
    all_goals (rename Fr g' _ _ _ => lF; rename News g' _ _ _ => lN; exact rsI_next lF rfl rfl rfl rfl lN sub5 c91 c93 c94 hml e1 e2 hsa hlen5 hT hoks hfold hz)
  · intro s' hI
    obtain ⟨h5, tk5, m5, σ, labs, mvs, c0, ob, O₂, z5, t5, rfl, F5, ⟨q1, q2, q3, q4⟩, N5, sub5, hBoth, ⟨e1, e2, e3⟩, hSt, hsa, hlen5, hT, -, hfold, hz⟩ := hI
    obtain ⟨m9, rfl⟩ := m_split4 q1 q2 q3 q4
    have hT1 : TokZ w.params O₂ vs z5 (PySem.Str.ofString "sign") (PySem.Str.ofString ".") := hT.1
    have hbase := hBoth.base
    have hinst5 := hbase.inst
    have hspec5 := hBoth.spec
    have hne5 := hBoth.ne
    have hne5' := hBoth.ne.symm
    have hoR5 := hBoth.offR
    have hoS5 := hBoth.offS
    have hfold' : σ = List.foldl Cl.upd sp0 ks := hfold
    subst hfold'
    obtain ⟨aa, u1, u2, u3, u4, u6, u7, ta, ps, rfl, hta, hps⟩ := hSt
    clear hv hti htd R0 TK oks B0 hinst lN lF init q1 q2 q3 q4
    have hz' : z5 = z + 1 + ((ks.flatMap Cl.words).length : Int) := by rw [← hz]; simp
    subst hz'
    (walk_at "kF"; repeat' ((first | (refine' Tell.use (t_whole ?mC ?mD ?mE ?cP ?cK) ?k1 ?k2 ?k3 ?k4 ?k5 ?kK ?kd ?ku ?_; (case k1 | k2 | k3 | k4 | k5 => k_asm); (case mC => walk_at "mM"); (case mD => walk_at "mM"); (case mE => walk_at "mM"); (case cP => first | assumption | exact PairsAt.mono (by assumption) (by walk_at "mS")); (case cK => assumption); (case kK => first | exact rfl | assumption); (case kd => ktr_room); (case ku => ktr_units); k_whole; intro r9 n9 h9 tk9 e9 F9 N9; (obtain ⟨e8, e7⟩ := e9); (subst e8); (subst e7); walk_at "mE") | (refine' Tell.use (t_fault (o := _) ?R ?h0 ?hv ?mA ?mB) ?k1 ?k2 ?k3 ?k4 ?k5 ?kK ?kd ?ku ?_; (case k1 | k2 | k3 | k4 | k5 => k_asm); (case R => walk_at "mR"); (case h0 => assumption); (case hv => assumption); (case mA => walk_at "mM"); (case mB => walk_at "mM"); (case kK => first | exact rfl | assumption); (case kd => ktr_room); (case ku => ktr_units); k_whole; intro r9 n9 h9 tk9 e9 F9 N9; (obtain ⟨ge9, gt9, gd9, g19, g29, e8, e7, gl9, gm9⟩ := e9); (subst e8); (subst e7); walk_at "mE") | (refine' Tell.use (t_FileSpec) ?k1 ?k2 ?k3 ?k4 ?k5 ?kK ?kd ?ku ?_; (case k1 | k2 | k3 | k4 | k5 => k_asm);  (case kK => first | exact rfl | assumption); (case kd => ktr_room); (case ku => ktr_units); k_whole; intro r9 n9 h9 tk9 e9 F9 N9; (obtain ⟨sp9, sd9, ta9, tr9, aa, u1, u2, u3, u4, u5, u6, e8, e7, o9, n91, n92, n93⟩ := e9); (subst e8); (subst e7); walk_at "mE") | (refine' Tell.use (t_skip_sign_yes (o := _) ?R ?ht ?U) ?k1 ?k2 ?k3 ?k4 ?k5 ?kK ?kd ?ku ?_; (case k1 | k2 | k3 | k4 | k5 => k_asm); (case R => walk_at "mR"); (case ht => walk_at "mT"); (case U => (intro t9; k_upd)); (case kK => first | exact rfl | assumption); (case kd => ktr_room); (case ku => ktr_units); k_whole; intro r9 n9 h9 tk9 e9 F9 N9; (obtain ⟨e8, t9, e7⟩ := e9); (subst e8); (subst e7); (try dsimp only at N9); walk_at "mE") | (refine' Tell.use (t_skip_sign_no (o := _) ?R ?ht ?hb) ?k1 ?k2 ?k3 ?k4 ?k5 ?kK ?kd ?ku ?_; (case k1 | k2 | k3 | k4 | k5 => k_asm); (case R => walk_at "mR"); (case ht => walk_at "mT"); (case hb => first | rfl | assumption | decide +kernel); (case kK => first | exact rfl | assumption); (case kd => ktr_room); (case ku => ktr_units); k_whole; intro r9 n9 h9 tk9 e9 F9 N9; (obtain ⟨e8, e7⟩ := e9); (subst e8); (subst e7); walk_at "mE") | (refine' Tell.use (t_skip_no (o := _) ?R ?ht ?hq ?hqs ?hb) ?k1 ?k2 ?k3 ?k4 ?k5 ?kK ?kd ?ku ?_; (case k1 | k2 | k3 | k4 | k5 => k_asm); (case R => walk_at "mR"); (case ht => walk_at "mT"); (case hq => first | exact split_WD | exact split_FS | walk_at "mQ"); (case hqs => walk_at "mQ"); (case hb => first | rfl | assumption | decide +kernel); (case kK => first | exact rfl | assumption); (case kd => ktr_room); (case ku => ktr_units); k_whole; intro r9 n9 h9 tk9 e9 F9 N9; (obtain ⟨e8, e7⟩ := e9); (subst e8); (subst e7); walk_at "mE") | (refine' Tell.use (t_name (o := _) ?R ?ht ?hf ?U) ?k1 ?k2 ?k3 ?k4 ?k5 ?kK ?kd ?ku ?_; (case k1 | k2 | k3 | k4 | k5 => k_asm); (case R => walk_at "mR"); (case ht => walk_at "mT"); (case hf => assumption); (case U => (intro t9; k_upd)); (case kK => first | exact rfl | assumption); (case kd => ktr_room); (case ku => ktr_units); k_whole; intro r9 n9 h9 tk9 e9 F9 N9; (obtain ⟨u9, e8, t9, e7⟩ := e9); (subst e8); (subst e7); (try dsimp only at N9); walk_at "mE") | (refine' Tell.use (t_peek0 (o := _) ?R ?h0 ?hv) ?k1 ?k2 ?k3 ?k4 ?k5 ?kK ?kd ?ku ?_; (case k1 | k2 | k3 | k4 | k5 => k_asm); (case R => walk_at "mR"); (case h0 => assumption); (case hv => assumption); (case kK => first | exact rfl | assumption); (case kd => ktr_room); (case ku => ktr_units); k_whole; intro r9 n9 h9 tk9 e9 F9 N9; (obtain ⟨e8, e7⟩ := e9); (subst e8); (subst e7); walk_at "mE")); walk_at "kF"))
    · rename News h₀ _ _ _ => lN
      obtain ⟨n9, k1, k2⟩ := rs_done (O := O) (o := RD w.params rc tl) lN (by assumption) (fun p hp => sub5 p (List.mem_cons_of_mem _ (List.mem_cons_of_mem _ (List.mem_cons_of_mem _ hp)))) hspec5 (sub5 _ (List.mem_cons_self ..)) ⟨aa, u1, u2, u3, u4, u6, u7, ta, ps, rfl, hta, hps⟩
      exact ret _ _ _ _ k1 (by k_asm) k2
    · show wpAny _ _ (exec _ _) _ _ _
      rename News g' _ _ _ => lN
      rename Fr g' _ _ _ => lF
      refine exc_raise_at (sub5 _ (List.mem_cons_of_mem _ (List.mem_cons_of_mem _ (List.mem_cons_self ..)))) rfl ?_
      (walk_at "kF"; repeat' ((first | (refine' Tell.use (t_whole ?mC ?mD ?mE ?cP ?cK) ?k1 ?k2 ?k3 ?k4 ?k5 ?kK ?kd ?ku ?_; (case k1 | k2 | k3 | k4 | k5 => k_asm); (case mC => walk_at "mM"); (case mD => walk_at "mM"); (case mE => walk_at "mM"); (case cP => first | assumption | exact PairsAt.mono (by assumption) (by walk_at "mS")); (case cK => assumption); (case kK => first | exact rfl | assumption); (case kd => ktr_room); (case ku => ktr_units); k_whole; intro r9 n9 h9 tk9 e9 F9 N9; (obtain ⟨e8, e7⟩ := e9); (subst e8); (subst e7); walk_at "mE") | (refine' Tell.use (t_fault (o := _) ?R ?h0 ?hv ?mA ?mB) ?k1 ?k2 ?k3 ?k4 ?k5 ?kK ?kd ?ku ?_; (case k1 | k2 | k3 | k4 | k5 => k_asm); (case R => walk_at "mR"); (case h0 => assumption); (case hv => assumption); (case mA => walk_at "mM"); (case mB => walk_at "mM"); (case kK => first | exact rfl | assumption); (case kd => ktr_room); (case ku => ktr_units); k_whole; intro r9 n9 h9 tk9 e9 F9 N9; (obtain ⟨ge9, gt9, gd9, g19, g29, e8, e7, gl9, gm9⟩ := e9); (subst e8); (subst e7); walk_at "mE") | (refine' Tell.use (t_FileSpec) ?k1 ?k2 ?k3 ?k4 ?k5 ?kK ?kd ?ku ?_; (case k1 | k2 | k3 | k4 | k5 => k_asm);  (case kK => first | exact rfl | assumption); (case kd => ktr_room); (case ku => ktr_units); k_whole; intro r9 n9 h9 tk9 e9 F9 N9; (obtain ⟨sp9, sd9, ta9, tr9, aa, u1, u2, u3, u4, u5, u6, e8, e7, o9, n91, n92, n93⟩ := e9); (subst e8); (subst e7); walk_at "mE") | (refine' Tell.use (t_skip_sign_yes (o := _) ?R ?ht ?U) ?k1 ?k2 ?k3 ?k4 ?k5 ?kK ?kd ?ku ?_; (case k1 | k2 | k3 | k4 | k5 => k_asm); (case R => walk_at "mR"); (case ht => walk_at "mT"); (case U => (intro t9; k_upd)); (case kK => first | exact rfl | assumption); (case kd => ktr_room); (case ku => ktr_units); k_whole; intro r9 n9 h9 tk9 e9 F9 N9; (obtain ⟨e8, t9, e7⟩ := e9); (subst e8); (subst e7); (try dsimp only at N9); walk_at "mE") | (refine' Tell.use (t_skip_sign_no (o := _) ?R ?ht ?hb) ?k1 ?k2 ?k3 ?k4 ?k5 ?kK ?kd ?ku ?_; (case k1 | k2 | k3 | k4 | k5 => k_asm); (case R => walk_at "mR"); (case ht => walk_at "mT"); (case hb => first | rfl | assumption | decide +kernel); (case kK => first | exact rfl | assumption); (case kd => ktr_room); (case ku => ktr_units); k_whole; intro r9 n9 h9 tk9 e9 F9 N9; (obtain ⟨e8, e7⟩ := e9); (subst e8); (subst e7); walk_at "mE") | (refine' Tell.use (t_skip_no (o := _) ?R ?ht ?hq ?hqs ?hb) ?k1 ?k2 ?k3 ?k4 ?k5 ?kK ?kd ?ku ?_; (case k1 | k2 | k3 | k4 | k5 => k_asm); (case R => walk_at "mR"); (case ht => walk_at "mT"); (case hq => first | exact split_WD | exact split_FS | walk_at "mQ"); (case hqs => walk_at "mQ"); (case hb => first | rfl | assumption | decide +kernel); (case kK => first | exact rfl | assumption); (case kd => ktr_room); (case ku => ktr_units); k_whole; intro r9 n9 h9 tk9 e9 F9 N9; (obtain ⟨e8, e7⟩ := e9); (subst e8); (subst e7); walk_at "mE") | (refine' Tell.use (t_name (o := _) ?R ?ht ?hf ?U) ?k1 ?k2 ?k3 ?k4 ?k5 ?kK ?kd ?ku ?_; (case k1 | k2 | k3 | k4 | k5 => k_asm); (case R => walk_at "mR"); (case ht => walk_at "mT"); (case hf => assumption); (case U => (intro t9; k_upd)); (case kK => first | exact rfl | assumption); (case kd => ktr_room); (case ku => ktr_units); k_whole; intro r9 n9 h9 tk9 e9 F9 N9; (obtain ⟨u9, e8, t9, e7⟩ := e9); (subst e8); (subst e7); (try dsimp only at N9); walk_at "mE") | (refine' Tell.use (t_peek0 (o := _) ?R ?h0 ?hv) ?k1 ?k2 ?k3 ?k4 ?k5 ?kK ?kd ?ku ?_; (case k1 | k2 | k3 | k4 | k5 => k_asm); (case R => walk_at "mR"); (case h0 => assumption); (case hv => assumption); (case kK => first | exact rfl | assumption); (case kd => ktr_room); (case ku => ktr_units); k_whole; intro r9 n9 h9 tk9 e9 F9 N9; (obtain ⟨e8, e7⟩ := e9); (subst e8); (subst e7); walk_at "mE")); walk_at "kF"))
      refine ⟨gf_sub (X'.keeps lF.keep), gf_type (X'.keeps lF.keep), (lN _ (List.mem_cons_of_mem _ (List.mem_cons_of_mem _ (List.mem_cons_of_mem _ (sub5 _ (List.mem_cons_of_mem _ (List.mem_cons_of_mem _ (List.mem_cons_self ..)))))))).1, ?_⟩
      refine rs_left (O := O) B' lF lN (fun p hp => List.mem_cons_of_mem _ (List.mem_cons_of_mem _ (List.mem_cons_of_mem _ hp))) sub5 (by assumption) (by assumption) rfl fun h' R U => ?_
      exact exc _ _ _ g' h' _ ⟨by assumption, _, _, _, _, rfl⟩ R U FG'
end
section
set_option maxRecDepth 100000
set_option maxHeartbeats 4000000
set_option rowWalk.seconds 0
inductive TokLPost (w : World) (O : List (Addr × Obj)) (kd wo : PySem.Str) (u1 u2 : Tok) (pl : Addr) (x : Value) (news' : List (Addr × Obj)) : Prop where
  | mk (t d : Addr) (t1 t2 t3 t4 : Tok) (e : x = .ref t) (e' : news' = (t, instObj 59 d) :: (d, TD w.params t1 t2 t3 t4 u1 u2 kd wo pl) :: O) (h1 : ∀ p ∈ O, p.1 < d) (h2 : ∀ p ∈ O, p.1 < t) : TokLPost w O kd wo u1 u2 pl x news'
theorem t_TokenL {w : World} {O : List (Addr × Obj)} {kd wo : PySem.Str} {u1 u2 : Tok} {pl : Addr} :
    Tell w 5 40 59 [.str kd u1, .str wo u2, .ref pl] O (TokLPost w O kd wo u1 u2 pl) := by
  intro p loose mean mg mb dp un gd cn cs a ccd cl outer A₀ base h₀ L m s Q E B F X N T hk hdp hun ret
  revert X N; k_fill; intro X N
  k_dflt (refine' call_cls ?q1 ?q2 ?q3 ?q4 ?q5 ?q6 ?_; (case q1 => k_asm); (case q2 => k_asm); (case q3 => k_asm); (case q4 => k_is); (case q5 => k_is); (case q6 => k_is); k_whole)
  intro x0 d0 h0' F0 N0 lt1 lt2
  replace lt2 := ltN lt2
  k_dflt (refine' code_def (binds := [("self", .ref x0), ("kind", .str kd u1), ("worth", .str wo u2), ("at", .ref pl), ("is_in_a", .bool false)]) ?k1 ?k2 ?k3 ?k4 ?k5 ?kA ?kF ?kK ?k6 ?k7 ?k8 ?k9 ?kB ?_ ?c2 ?c3 ?c4 ?c5; (case kA => exact rfl); (case kF => exact rfl); (case kK => assumption); (case k1 => k_asm); (case k2 => k_asm); (case k3 => k_asm); (case k4 => k_asm); (case k5 => k_asm); (case k6 => exact k_Token_init _); (case k7 => k_is); (case k8 => ktr_room); (case k9 => first | exact BindsTo.of_eq rfl | exact binds_KK (by k_in) rfl (by k_is) rfl rfl); (case c5 => decide); (case kB => exact locs rfl); (case c2 => exact rfl); (case c3 => exact rfl); (case c4 => exact rfl); k_whole; intro g' L' h' FG' F' N' B' X' T'; (try dsimp only); (try k_fold))
  walk_at "kF"
  all_goals (refine ret _ _ _ _ ⟨_, _, _, _, _, _, rfl, rfl, lt1, fun p hp => Nat.lt_trans (lt1 p hp) lt2⟩ (by k_asm) (by k_asm))
theorem allObj_mono : ∀ {ws : List (Addr × String)} {k k' : List (Addr × Obj) → Prop}, (∀ its, k its → k' its) → AllObj ws k → AllObj ws k'
  | [], _, _, h, x => h _ x
  | _ :: _, _, _, h, x => fun o ho => allObj_mono (fun its y => h _ y) (x o ho)
theorem items_weaken {prog : Program} {w : World} {A : Around} {E : Value → Shared → Prop} {h₀ : Heap} {env : PySem.Env} {target : PySem.Expr} {body : List PySem.Stmt} {Q : Flow → Shared → Prop} {s : Shared} {ws : List (Addr × String)} {keep : List (Addr × Obj)} {xs : List Itm} {m : PySem.Str → Option Value} {news news' : List (Addr × Obj)}
    (hs : ∀ p ∈ news', p ∈ news) (H : ItemsRest prog w A E h₀ env target body Q s ws keep xs m news') : ItemsRest prog w A E h₀ env target body Q s ws keep xs m news := by
  cases xs with
  | nil => exact fun h tk F N => H h tk F fun p hp => N p (hs p hp)
  | cons a r =>
    exact fun v h tk hv F => allObj_mono (fun its k N => k fun p hp => N p ((List.mem_append.mp hp).elim (fun q => List.mem_append_left _ q) fun q => List.mem_append_right _ (hs p q))) (H v h tk hv F)
/-- a loop over enumerated texts, turn by turn -/
theorem enum_fold {prog : Program} {w : World} {A : Around} {E : Value → Shared → Prop} {h₀ : Heap} {env : PySem.Env} {target : PySem.Expr} {body : List PySem.Stmt} {Q : Flow → Shared → Prop} {s : Shared} {ws : List (Addr × String)} {keep : List (Addr × Obj)} {α : Type} {raw : α → PySem.Str}
    (tot : Nat) (J : List α → (PySem.Str → Option Value) → List (Addr × Obj) → Prop) (Pw : α → Prop)
    (step : ∀ (done : List α) (a : α) (u : Tok) (m : PySem.Str → Option Value) (news : List (Addr × Obj)) (R : (PySem.Str → Option Value) → List (Addr × Obj) → Prop),
      J done m news → Pw a → done.length < tot → (∀ m' news', J (done ++ [a]) m' news' → R m' news') →
      ∀ T t h tk, IsTup h T #[.int (done.length : Int) t, .str (raw a) u] → Fr h₀ env.locals h m → AllObj ws (fun its => News h₀ env.locals h (its ++ news) →
      wpAny (model prog w) A (assign target env (.ref T)) (fun _ s₂ => wpAny (model prog w) A (execs body env) (UnrPostW h₀ env.locals { s with heap := h, toks := tk } its (fun m' n' => SubL keep n' ∧ R m' n') Q) E s₂) E { s with heap := h, toks := tk })) :
    ∀ (as : List α) (vs : List Value) (done : List α) (m : PySem.Str → Option Value) (news : List (Addr × Obj)), StrsAre vs (as.map raw) → (∀ q ∈ as, Pw q) → done.length + as.length ≤ tot → J done m news →
      (∀ m' news' h tk, J (done ++ as) m' news' → Fr h₀ env.locals h m' → News h₀ env.locals h news' → Q .next { s with heap := h, toks := tk }) →
      ItemsRest prog w A E h₀ env target body Q s ws keep (enumItems done.length vs) m news := by
  intro as
  induction as with
  | nil =>
    intro vs done m news hv _ _ hJ fin
    cases hv
    refine ItemsRest.zero fun h tk F N => fin m news h tk ?_ F N
    rw [List.append_nil]
    exact hJ
  | cons a as ih =>
    intro vs done m news hv hP hl hJ fin
    cases hv with
    | cons y u hv =>
      refine ItemsRest.pair fun T t h tk hT F => step done a u m news _ hJ (hP _ (List.mem_cons_self ..)) (by rw [List.length_cons] at hl; omega) (fun m' news' hJ' => ?_) T t h tk hT F
      have e : done.length + 1 = (done ++ [a]).length := by simp
      rw [e]
      refine ih _ (done ++ [a]) m' news' hv (fun q hq => hP q (List.mem_cons_of_mem _ hq)) (by rw [List.length_append, List.length_singleton]; rw [List.length_cons] at hl; omega) hJ' fun m'' news'' h tk hJ'' => fin m'' news'' h tk ?_
      rw [List.append_assoc] at hJ''
      exact hJ''
local macro_rules | `(tactic| walk_at "call builtin:str.split") => `(tactic| (k_here; (with_reducible show wpAny _ _ (call (Value.builtin "str.split") _) _ _ _); k_dflt (refine KSpl.split1 (by k_asm) (by k_asm) (by decide) ?_ (by assumption)); intro D' l' h' k' e' a' F' N' l1; (rw [e'.trans (by assumption)] at a'); (clear e'); (generalize strValues l' = vs' at a' N')))
local macro_rules | `(tactic| walk_at "call type:enumerate") => `(tactic| (k_here; (with_reducible show wpAny _ _ (call (Value.type _) [Value.ref _]) _ _ _); (with_unfolding_all refine' ktu_enum ?hh ?F ?N ?hm ?hc ?hd rfl ?_; (case hh => exact rfl); (case F => k_asm); (case N => k_asm); (case hm => k_mem); (case hc => exact rfl); (case hd => exact rfl)); intro I' hI'))
local macro_rules | `(tactic| walk_at "call builtin:list.append") => `(tactic| (k_here; (with_reducible show wpAny _ _ (call (Value.builtin _) [Value.ref _, _]) _ _ _); k_dflt (refine' append_K ?k1 ?k2 ?k3 ?_ ?z; (case k1 => k_asm); (case k2 => k_asm); (case k3 => k_upd); (case z => assumption); k_whole); intro h' F' N'; (try k_sweep)))
local macro_rules | `(tactic| walk_at "ItemsRest") => `(tactic| fail "here")
local macro_rules | `(tactic| walk_at "exec For Tuple Call") => `(tactic| (k_here; (rename Fr _ _ _ _ => lF'); (with_unfolding_all refine' For_turns lF' ?_; k_whole)))
/-- a token's text -/
noncomputable def raw (q : PySem.Str × PySem.Str) : PySem.Str := if q.1 == PySem.Str.ofString "literal" then PySem.Str.ofString "\"" ++ q.2 ++ PySem.Str.ofString "\"" else q.2
/-- what the row reads of a token's text -/
noncomputable def WOk (q : PySem.Str × PySem.Str) : Prop := 1 ≤ (raw q).length ∧ (raw q).length ≤ 200 ∧
  ((q.1 = PySem.Str.ofString "literal" ∧ (Txt.item (raw q) 0 == PySem.Str.ofString "\"") = true ∧ Txt.slice (raw q) (some 1) (some (-1)) = q.2) ∨ (q.1 = PySem.Str.ofString "sign" ∧ (Txt.item (raw q) 0 == PySem.Str.ofString "\"") = false ∧ (raw q == PySem.Str.ofString ".") = true ∧ raw q = q.2) ∨
   (q.1 = PySem.Str.ofString "word" ∧ (Txt.item (raw q) 0 == PySem.Str.ofString "\"") = false ∧ (raw q == PySem.Str.ofString ".") = false ∧ raw q = q.2))
/-- the tokens made so far -/
inductive RowTok (P : Params) (O' : List (Addr × Obj)) (tvs : List Value) (i : Nat) (q : PySem.Str × PySem.Str) : Prop where
  | mk (t d : Addr) (t1 t2 t3 t4 u1 u2 : Tok) (pl : Addr) (q1 q2 : Tok) (a : tvs[i]? = some (.ref t)) (b : (t, instObj 59 d) ∈ O') (c : (d, TD P t1 t2 t3 t4 u1 u2 q.1 q.2 pl) ∈ O') (e : (pl, tupO [.int 1 q1, .int ((i : Int) + 1) q2]) ∈ O') : RowTok P O' tvs i q
noncomputable def RowAt (P : Params) (O' : List (Addr × Obj)) (tvs : List Value) (done : List (PySem.Str × PySem.Str)) : Prop :=
  tvs.length = done.length ∧ ∀ (i : Nat) q, done[i]? = some q → RowTok P O' tvs i q
theorem RowAt.mono {P : Params} {O news : List (Addr × Obj)} {tvs : List Value} {done : List (PySem.Str × PySem.Str)} (h : RowAt P O tvs done) (hs : ∀ p ∈ O, p ∈ news) : RowAt P news tvs done :=
  ⟨h.1, fun i q hq => let ⟨t, d, t1, t2, t3, t4, u1, u2, pl, q1, q2, a, b, c, e⟩ := h.2 i q hq; ⟨t, d, t1, t2, t3, t4, u1, u2, pl, q1, q2, a, hs _ b, hs _ c, hs _ e⟩⟩
theorem RowAt.snoc {P : Params} {O : List (Addr × Obj)} {tvs : List Value} {done : List (PySem.Str × PySem.Str)} {q : PySem.Str × PySem.Str} {t d pl : Addr} {t1 t2 t3 t4 u1 u2 q1 q2 : Tok} (h : RowAt P O tvs done)
    (b : (t, instObj 59 d) ∈ O) (c : (d, TD P t1 t2 t3 t4 u1 u2 q.1 q.2 pl) ∈ O) (e : (pl, tupO [.int 1 q1, .int ((done.length : Int) + 1) q2]) ∈ O) : RowAt P O (tvs ++ [.ref t]) (done ++ [q]) := by
  refine ⟨by simp [h.1], fun i q' hq' => ?_⟩
  by_cases hi : i < done.length
  · rw [List.getElem?_append_left hi] at hq'
    obtain ⟨t, d, t1, t2, t3, t4, u1, u2, pl, q1, q2, a, b, c, e⟩ := h.2 i q' hq'
    exact ⟨t, d, t1, t2, t3, t4, u1, u2, pl, q1, q2, by rw [List.getElem?_append_left (by rw [h.1]; exact hi)]; exact a, b, c, e⟩
  · have hi2 : i < (done ++ [q]).length := (List.getElem?_eq_some_iff.mp hq').1
    have e3 : i = done.length := by simp at hi2; omega
    subst e3
    simp at hq'
    subst hq'
    exact ⟨t, d, t1, t2, t3, t4, u1, u2, pl, q1, q2, by rw [← h.1]; simp, b, c, e⟩
/-- a class of what a row makes -/
noncomputable def rowCls (v : Value) : Prop := v = .ref 59 ∨ v = .type "dict" ∨ v = .type "tuple"
/-- what holds behind each token made -/
inductive RowJ (P : Params) (D : Addr) (O : List (Addr × Obj)) (done : List (PySem.Str × PySem.Str)) (m : PySem.Str → Option Value) (news : List (Addr × Obj)) : Prop where
  | mk (q : m (PySem.Str.ofString "found") = some (.ref D)) (tvs : List Value) (c : Nat) (O' : List (Addr × Obj)) (e : news = (D, listOf tvs.toArray c) :: O') (h1 : ∀ p ∈ O, p ∈ O') (h2 : ∀ p ∈ O', p ∈ O ∨ rowCls p.2.cls) (h3 : ∀ p ∈ O', p.1 ≠ D) (h4 : RowAt P O' tvs done) : RowJ P D O done m news
theorem m_split1 {m : PySem.Str → Option Value} {a : PySem.Str} {va : Value} (ha : m a = some va) : ∃ m9 : PySem.Str → Option Value, m = fun y => if y = a then some va else m9 y := by
  refine ⟨m, funext fun y => ?_⟩
  by_cases h : y = a
  · subst h; rw [if_pos rfl, ha]
  · rw [if_neg h]
theorem row_turn {g' h : Heap} {L' : Addr} {s1 : Shared} {P : Params} {D l I t d pl : Addr} {O O5 : List (Addr × Obj)} {vs tvs : List Value} {done : List (PySem.Str × PySem.Str)} {q : PySem.Str × PySem.Str} {m : PySem.Str → Option Value} {R5 : (PySem.Str → Option Value) → List (Addr × Obj) → Prop} {t1 t2 t3 t4 u1 u2 q1 q2 : Tok} {kd wo : PySem.Str} {o1 o2 : Obj} {c tk : Nat}
    (F : Fr g' L' h m) (hm : m (PySem.Str.ofString "found") = some (.ref D))
    (N : News g' L' h ((t, instObj 59 d) :: (d, TD P t1 t2 t3 t4 u1 u2 kd wo pl) :: (pl, tupO [.int 1 q1, .int ((done.length : Int) + 1) q2]) :: (I + 1, o1) :: (I, o2) :: (D, listOf (tvs.toArray.push (.ref t)) (c + 1)) :: O5))
    (hc1 : o1.cls = .type "enumerate") (hc2 : o2.cls = .type "list_iterator") (hq : kd = q.1) (hw : wo = q.2) (sub5 : ∀ p ∈ (l, listOf vs.toArray 0) :: O, p ∈ O5) (cls5 : ∀ p ∈ O5, p ∈ (l, listOf vs.toArray 0) :: O ∨ rowCls p.2.cls) (off5 : ∀ p ∈ O5, p.1 ≠ D) (hrow : RowAt P O5 tvs done)
    (hO : ∀ p ∈ (D, listOf #[] 0) :: (l, listOf vs.toArray 0) :: O, p.1 < I) (hR : ∀ m' news', RowJ P D ((l, listOf vs.toArray 0) :: O) (done ++ [q]) m' news' → R5 m' news') :
    UnrEndW g' L' s1 [(I + 1, o1), (I, o2)] (fun m' n' => SubL [(l, listOf vs.toArray 0)] n' ∧ R5 m' n') { s1 with heap := h, toks := tk } := by
  subst hq hw
  rw [List.push_toArray] at N
  have i1 : (I + 1, o1) ∈ (t, instObj 59 d) :: (d, TD P t1 t2 t3 t4 u1 u2 q.1 q.2 pl) :: (pl, tupO [.int 1 q1, .int ((done.length : Int) + 1) q2]) :: (I + 1, o1) :: (I, o2) :: (D, listOf (tvs ++ [Value.ref t]).toArray (c + 1)) :: O5 := by simp
  have i2 : (I, o2) ∈ (t, instObj 59 d) :: (d, TD P t1 t2 t3 t4 u1 u2 q.1 q.2 pl) :: (pl, tupO [.int 1 q1, .int ((done.length : Int) + 1) q2]) :: (I + 1, o1) :: (I, o2) :: (D, listOf (tvs ++ [Value.ref t]).toArray (c + 1)) :: O5 := by simp
  have iD : (D, listOf (tvs ++ [Value.ref t]).toArray (c + 1)) ∈ (t, instObj 59 d) :: (d, TD P t1 t2 t3 t4 u1 u2 q.1 q.2 pl) :: (pl, tupO [.int 1 q1, .int ((done.length : Int) + 1) q2]) :: (I + 1, o1) :: (I, o2) :: (D, listOf (tvs ++ [Value.ref t]).toArray (c + 1)) :: O5 := by simp
  have all : ∀ p ∈ (t, instObj 59 d) :: (d, TD P t1 t2 t3 t4 u1 u2 q.1 q.2 pl) :: (pl, tupO [.int 1 q1, .int ((done.length : Int) + 1) q2]) :: O5, p ∈ (t, instObj 59 d) :: (d, TD P t1 t2 t3 t4 u1 u2 q.1 q.2 pl) :: (pl, tupO [.int 1 q1, .int ((done.length : Int) + 1) q2]) :: (I + 1, o1) :: (I, o2) :: (D, listOf (tvs ++ [Value.ref t]).toArray (c + 1)) :: O5 := fun p hp => by
    simp only [List.mem_cons] at hp ⊢
    rcases hp with h | h | h | h
    · exact .inl h
    · exact .inr (.inl h)
    · exact .inr (.inr (.inl h))
    · exact .inr (.inr (.inr (.inr (.inr (.inr h)))))
  have cl : ∀ p ∈ (t, instObj 59 d) :: (d, TD P t1 t2 t3 t4 u1 u2 q.1 q.2 pl) :: (pl, tupO [.int 1 q1, .int ((done.length : Int) + 1) q2]) :: O5, p ∈ (l, listOf vs.toArray 0) :: O ∨ rowCls p.2.cls := fun p hp => by
    simp only [List.mem_cons] at hp
    rcases hp with h | h | h | h
    · subst h; exact .inr (.inl rfl)
    · subst h; exact .inr (.inr (.inl rfl))
    · subst h; exact .inr (.inr (.inr rfl))
    · exact cls5 p h
  have neC : ∀ {v : Value} {n : String}, rowCls v → n ≠ "dict" → n ≠ "tuple" → v ≠ .type n := fun {v n} hv h1 h2 e => by
    rcases hv with h | h | h
    · rw [h] at e; cases e
    · rw [h] at e; cases e; exact h1 rfl
    · rw [h] at e; cases e; exact h2 rfl
  have hDI : D < I := hO _ (List.mem_cons_self ..)
  refine ⟨h, tk, m, (D, listOf (tvs ++ [Value.ref t]).toArray (c + 1)) :: (t, instObj 59 d) :: (d, TD P t1 t2 t3 t4 u1 u2 q.1 q.2 pl) :: (pl, tupO [.int 1 q1, .int ((done.length : Int) + 1) q2]) :: O5, rfl, F, fun p hp => ?_, fun p hp q' hq' => ?_, ⟨?_, trivial⟩, hR _ _ ⟨hm, tvs ++ [Value.ref t], c + 1, _, rfl, fun p hp => ?_, cl, fun p hp => ?_, RowAt.snoc (hrow.mono fun p hp => ?_) (List.mem_cons_self ..) (List.mem_cons_of_mem _ (List.mem_cons_self ..)) (List.mem_cons_of_mem _ (List.mem_cons_of_mem _ (List.mem_cons_self ..)))⟩⟩
  · refine N p ?_
    rcases List.mem_append.mp hp with hp | hp
    · simp only [List.mem_cons, List.not_mem_nil, or_false] at hp
      rcases hp with h | h
      · subst h; exact i1
      · subst h; exact i2
    · rcases List.mem_cons.mp hp with h | hp
      · subst h; exact iD
      · exact all p hp
  · rcases List.mem_cons.mp hp with h | hp
    · subst h
      simp only [List.mem_cons, List.not_mem_nil, or_false] at hq'
      rcases hq' with h | h
      · subst h; exact Nat.ne_of_lt (Nat.lt_succ_of_lt hDI)
      · subst h; exact Nat.ne_of_lt hDI
    · simp only [List.mem_cons, List.not_mem_nil, or_false] at hq'
      rcases cl p hp with k | k
      · have hlt := hO p (List.mem_cons_of_mem _ k)
        rcases hq' with h | h
        · subst h; exact Nat.ne_of_lt (Nat.lt_succ_of_lt hlt)
        · subst h; exact Nat.ne_of_lt hlt
      · rcases hq' with h | h
        · subst h; exact news_ne N (all p hp) i1 (cls_ne (by rw [hc1]; exact neC k (by decide) (by decide)))
        · subst h; exact news_ne N (all p hp) i2 (cls_ne (by rw [hc2]; exact neC k (by decide) (by decide)))
  · exact List.mem_cons_of_mem _ (List.mem_cons_of_mem _ (List.mem_cons_of_mem _ (List.mem_cons_of_mem _ (sub5 _ (List.mem_cons_self ..)))))
  · exact List.mem_cons_of_mem _ (List.mem_cons_of_mem _ (List.mem_cons_of_mem _ (sub5 p hp)))
  · rcases List.mem_cons.mp hp with h | hp'
    · subst h; exact news_ne N (all _ hp) iD (cls_ne (by intro e; cases e))
    rcases List.mem_cons.mp hp' with h | hp'
    · subst h; exact news_ne N (all _ hp) iD (cls_ne (by show (Value.type "dict") ≠ Value.type "list"; decide))
    rcases List.mem_cons.mp hp' with h | hp'
    · subst h; exact news_ne N (all _ hp) iD (cls_ne (by show (Value.type "tuple") ≠ Value.type "list"; decide))
    · exact off5 p hp'
  · exact List.mem_cons_of_mem _ (List.mem_cons_of_mem _ (List.mem_cons_of_mem _ hp))
theorem row_items {prog : Program} {w : World} {A : Around} {E : Value → Shared → Prop} {h₀ : Heap} {env : PySem.Env} {target : PySem.Expr} {body : List PySem.Stmt} {Q : Flow → Shared → Prop} {s : Shared} {keep : List (Addr × Obj)} {P : Params} {D l I : Addr} {O : List (Addr × Obj)} {vs : List Value} {as : List (PySem.Str × PySem.Str)} {m : PySem.Str → Option Value}
    (l1 : ∀ p ∈ O, p.1 < D) (l2 : ∀ p ∈ (D, listOf #[] 0) :: O, p.1 < l) (hI : ∀ p ∈ (l, listOf vs.toArray 0) :: (D, listOf #[] 0) :: O, p.1 < I) (hsa : StrsAre vs (as.map raw)) (hm : m (PySem.Str.ofString "found") = some (.ref D)) (hok : ∀ q ∈ as, WOk q) (hlen : as.length ≤ 200)
    (step : ∀ (done : List (PySem.Str × PySem.Str)) (q : PySem.Str × PySem.Str) (u : Tok) (m : PySem.Str → Option Value) (news : List (Addr × Obj)) (R : (PySem.Str → Option Value) → List (Addr × Obj) → Prop),
      RowJ P D ((l, listOf vs.toArray 0) :: O) done m news → WOk q → done.length < 200 → (∀ m' news', RowJ P D ((l, listOf vs.toArray 0) :: O) (done ++ [q]) m' news' → R m' news') → (∀ p ∈ (D, listOf #[] 0) :: (l, listOf vs.toArray 0) :: O, p.1 < I) → (@Ne Nat (I + 1) D) → (@Ne Nat I D) →
      ∀ T t h tk, IsTup h T #[.int (done.length : Int) t, .str (raw q) u] → Fr h₀ env.locals h m → AllObj [(I + 1, "enumerate"), (I, "list_iterator")] (fun its => News h₀ env.locals h (its ++ news) →
      wpAny (model prog w) A (assign target env (.ref T)) (fun _ s₂ => wpAny (model prog w) A (execs body env) (UnrPostW h₀ env.locals { s with heap := h, toks := tk } its (fun m' n' => SubL keep n' ∧ R m' n') Q) E s₂) E { s with heap := h, toks := tk }))
    (fin : ∀ m' news' h tk, RowJ P D ((l, listOf vs.toArray 0) :: O) as m' news' → Fr h₀ env.locals h m' → News h₀ env.locals h news' → Q .next { s with heap := h, toks := tk }) :
    ItemsRest prog w A E h₀ env target body Q s [(I + 1, "enumerate"), (I, "list_iterator")] keep (enumItems 0 vs) m ((l, listOf vs.toArray 0) :: (D, listOf #[] 0) :: O) := by
  have swap : ∀ p ∈ (D, listOf #[] 0) :: (l, listOf vs.toArray 0) :: O, p ∈ (l, listOf vs.toArray 0) :: (D, listOf #[] 0) :: O := fun p hp => by
    rcases List.mem_cons.mp hp with h | hp
    · subst h; exact List.mem_cons_of_mem _ (List.mem_cons_self ..)
    rcases List.mem_cons.mp hp with h | hp
    · subst h; exact List.mem_cons_self ..
    · exact List.mem_cons_of_mem _ (List.mem_cons_of_mem _ hp)
  refine items_weaken swap ?_
  refine enum_fold (raw := raw) 200 (RowJ P D ((l, listOf vs.toArray 0) :: O)) WOk (fun done q u m news R a b b2 c => step done q u m news R a b b2 c (fun p hp => hI p (swap p hp)) (Nat.ne_of_gt (Nat.lt_succ_of_lt (hI (D, listOf #[] 0) (swap _ (List.mem_cons_self ..))))) (Nat.ne_of_gt (hI (D, listOf #[] 0) (swap _ (List.mem_cons_self ..))))) as vs [] _ _ hsa hok (by simpa using hlen) ⟨hm, [], 0, _, rfl, fun p hp => hp, fun p hp => .inl hp, fun p hp => ?_, rfl, fun i q h => by simp at h⟩ fin
  rcases List.mem_cons.mp hp with h | hp
  · subst h; exact Nat.ne_of_gt (l2 _ (List.mem_cons_self ..))
  · exact Nat.ne_of_lt (l1 p hp)
theorem t_row {w : World} {O : List (Addr × Obj)} {x : PySem.Str} {u0 : Tok} {as : List (PySem.Str × PySem.Str)} (hx : Txt.split x " " = as.map raw) (hlen : as.length ≤ 200) (hsz : x.length + 2 ≤ sizeLine) (hok : ∀ q ∈ as, WOk q) :
    Tell w 7 200 408 [.str x u0] O (fun v news' => ∃ D tvs c O', v = .ref D ∧ news' = (D, listOf tvs.toArray c) :: O' ∧ (∀ p ∈ O, p ∈ O') ∧ RowAt w.params O' tvs as) := by
  intro p loose mean mg mb dp un gd cn cs a ccd cl outer A₀ base h₀ L m s Q E B F X N T hk hdp hun ret
  refine wpAny_call ?_
  revert X N; k_fill; intro X N
  k_dflt (refine' code_def (binds := [("text", .str x u0)]) ?k1 ?k2 ?k3 ?k4 ?k5 ?kA ?kF ?kK ?k6 ?k7 ?k8 ?k9 ?kB ?_ ?c2 ?c3 ?c4 ?c5; (case kA => exact rfl); (case kF => exact rfl); (case kK => assumption); (case k1 => k_asm); (case k2 => k_asm); (case k3 => k_asm); (case k4 => k_asm); (case k5 => k_asm); (case k6 => exact k_law_row _); (case k7 => k_is); (case k8 => ktr_room); (case k9 => first | exact BindsTo.of_eq rfl | exact binds_KK (by k_in) rfl (by k_is) rfl rfl); (case c5 => decide); (case kB => exact locs rfl); (case c2 => exact rfl); (case c3 => exact rfl); (case c4 => exact rfl); k_whole; intro g' L' h' FG' F' N' B' X' T'; (try dsimp only); (try k_fold))
  (walk_at "kF"; repeat' ((first | (refine' Tell.use (t_TokenL) ?k1 ?k2 ?k3 ?k4 ?k5 ?kK ?kd ?ku ?_; (case k1 | k2 | k3 | k4 | k5 => k_asm);  (case kK => first | exact rfl | assumption); (case kd => ktr_room); (case ku => ktr_units); k_whole; intro r9 n9 h9 tk9 e9 F9 N9; (obtain ⟨tt9, td9, ta9, tb9, tc9, te9, e8, e7, tl9, tm9⟩ := e9); (subst e8); (subst e7); walk_at "mE")); walk_at "kF"))
  refine row_items (P := w.params) (by assumption) (by assumption) (by assumption) (by assumption) rfl hok hlen ?_ ?_
  · intro done q u m5 news5 R5 hJ hW hlt5 hR hI5 hI6 hI7 T5 t5 h5 tk5 hT5 F5
    obtain ⟨hp1, tvs, c5, O5, rfl, sub5, cls5, off5, hrow⟩ := hJ
    obtain ⟨m9, rfl⟩ := m_split1 hp1
    obtain ⟨hW1, hW2, hW3⟩ := hW
    have hsz5 : tvs.toArray.size ≤ sizeLine := by rw [List.size_toArray, hrow.1, sizeLine_eq]; omega
    ktu_objs
    rcases hW3 with ⟨w1, w2, w3⟩ | ⟨w1, w2, w3, w4⟩ | ⟨w1, w2, w3, w4⟩
    all_goals (walk_at "kF"; repeat' ((first | (refine' Tell.use (t_TokenL) ?k1 ?k2 ?k3 ?k4 ?k5 ?kK ?kd ?ku ?_; (case k1 | k2 | k3 | k4 | k5 => k_asm);  (case kK => first | exact rfl | assumption); (case kd => ktr_room); (case ku => ktr_units); k_whole; intro r9 n9 h9 tk9 e9 F9 N9; (obtain ⟨tt9, td9, ta9, tb9, tc9, te9, e8, e7, tl9, tm9⟩ := e9); (subst e8); (subst e7); walk_at "mE")); walk_at "kF"))
    all_goals (rename News g' _ _ _ => lN; rename Fr g' _ _ _ => lF)
    · exact row_turn lF rfl lN (by assumption) (by assumption) w1.symm w3 sub5 cls5 off5 hrow hI5 hR
    · exact row_turn lF rfl lN (by assumption) (by assumption) w1.symm w4 sub5 cls5 off5 hrow hI5 hR
    · exact row_turn lF rfl lN (by assumption) (by assumption) w1.symm w4 sub5 cls5 off5 hrow hI5 hR
  · intro m5 news5 h5 tk5 hJ F5 N5
    obtain ⟨hp1, tvs, c5, O5, rfl, sub5, cls5, off5, hrow⟩ := hJ
    obtain ⟨m9, rfl⟩ := m_split1 hp1
    (walk_at "kF"; repeat' ((first | (refine' Tell.use (t_TokenL) ?k1 ?k2 ?k3 ?k4 ?k5 ?kK ?kd ?ku ?_; (case k1 | k2 | k3 | k4 | k5 => k_asm);  (case kK => first | exact rfl | assumption); (case kd => ktr_room); (case ku => ktr_units); k_whole; intro r9 n9 h9 tk9 e9 F9 N9; (obtain ⟨tt9, td9, ta9, tb9, tc9, te9, e8, e7, tl9, tm9⟩ := e9); (subst e8); (subst e7); walk_at "mE")); walk_at "kF"))
    exact ret _ _ _ _ ⟨_, tvs, c5, O5, rfl, rfl, fun p hp => sub5 p (List.mem_cons_of_mem _ hp), hrow⟩ (by k_asm) (by k_asm)
end
section
set_option maxRecDepth 100000
set_option maxHeartbeats 4000000
set_option rowWalk.seconds 0
/-- what is told of a call that catches: the ground turns -/
noncomputable def TellS (w : World) (D U : Nat) (f : Addr) (args : List Value) (news : List (Addr × Obj)) (post : Value → List (Addr × Obj) → Prop) : Prop :=
  ∀ {p : Program} {loose : List Str} {mean : ExcName → Option Value} {mg mb : Str → Option Value} (dp un : Nat) (gd : Option (List Code)) (cn : Str) (cs : Scope) (a : Addr) (ccd : Value) (outer : List Env)
    (A₀ : Around) (base h₀ : Heap) (L : Addr) (m : Str → Option Value) (s : Shared) (Q E : Value → Shared → Prop),
    Below A₀ base outer h₀ → Fr h₀ L s.heap m → (Mine.KK w.params).In h₀ → News h₀ L s.heap news → Top p loose mean mg mb h₀ → (Mine.KK w.params).In base → Top p loose mean mg mb base → KtsDicts (outer.filterMap (·.frame)) h₀ → cs.kind = .function → dp + D < recursionLimit → un + U < cLine →
    (∀ r news' h' tk' h₀', post r news' → KtsTurn (outer.filterMap (·.frame)) h₀ h₀' → Fr h₀' L h' m → News h₀' L h' news' → Below A₀ base outer h₀' → (Mine.KK w.params).In h₀' → Top p loose mean mg mb h₀' → KtsDicts (outer.filterMap (·.frame)) h₀' → Q r { s with heap := h', toks := tk' }) →
    wpAny (model PySem.Challenge.rw_qd0102_01.prog w) (ktrTop dp un gd cn cs L a ccd [] outer) (call (.ref f) args) Q E s
theorem t_is_done {w : World} {news : List (Addr × Obj)} {r rd tl : Addr} {o : Int → Tok → Obj} {z : Int} {tk : Tok} {vs : List Value} {b : Bool}
    (R : RdAt w.params news r rd tl o z tk vs) (hb : decide ((vs.toArray.size : Int) ≤ z) = b) :
    Tell w 1 8 239 [.ref r] news (fun x news' => x = .bool b ∧ news' = news) := by
  obtain ⟨hr, hd, ⟨rc, rfl⟩, ⟨n, hl⟩, few⟩ := R
  have hfit : (vs.toArray.size : Int) < 2 ^ 63 := by simp; omega
  intro p loose mean mg mb dp un gd cn cs a ccd cl outer A₀ base h₀ L m s Q E B F X N T hk hdp hun ret
  refine wpAny_call ?_
  revert X N; k_fill; intro X N
  k_dflt (refine' code_def (binds := [("self", .ref r)]) ?k1 ?k2 ?k3 ?k4 ?k5 ?kA ?kF ?kK ?k6 ?k7 ?k8 ?k9 ?kB ?_ ?c2 ?c3 ?c4 ?c5; (case kA => exact rfl); (case kF => exact rfl); (case kK => assumption); (case k1 => k_asm); (case k2 => k_asm); (case k3 => k_asm); (case k4 => k_asm); (case k5 => k_asm); (case k6 => exact k_R_is_done _); (case k7 => k_is); (case k8 => ktr_room); (case k9 => first | exact BindsTo.of_eq rfl | exact binds_KK (by k_in) rfl (by k_is) rfl rfl); (case c5 => decide); (case kB => exact locs rfl); (case c2 => exact rfl); (case c3 => exact rfl); (case c4 => exact rfl); k_whole; intro g' L' h' FG' F' N' B' X' T'; (try dsimp only); (try k_fold))
  walk_at "kF"
  all_goals (exact ret _ _ _ _ ⟨by rw [← hb], rfl⟩ (by k_asm) (by k_asm))
theorem row_tok {P : Params} {O : List (Addr × Obj)} {vs : List Value} {as : List (PySem.Str × PySem.Str)} (h : RowAt P O vs as) {i : Nat} {q : PySem.Str × PySem.Str} (hq : as[i]? = some q) : TokZ P O vs (i : Int) q.1 q.2 := by
  obtain ⟨t, d, t1, t2, t3, t4, u1, u2, pl, q1, q2, a, b, c, e⟩ := h.2 i q hq
  exact ⟨by omega, t, d, t1, t2, t3, t4, u1, u2, pl, by simpa using a, b, c⟩
theorem row_toks {P : Params} {O : List (Addr × Obj)} {vs : List Value} {as : List (PySem.Str × PySem.Str)} (h : RowAt P O vs as) : ∀ (l : List (PySem.Str × PySem.Str)) (k : Nat), as.drop k = l → Toks P O vs (k : Int) l
  | [], _, _ => trivial
  | (kd, wo) :: l, k, e => by
    have e0 : as[k]? = some (kd, wo) := by
      have := congrArg List.head? e
      rw [List.head?_drop] at this
      simpa using this
    refine ⟨row_tok h e0, ?_⟩
    have e1 := row_toks h l (k + 1) (by rw [← List.drop_drop, e]; rfl)
    rw [show (k : Int) + 1 = ((k + 1 : Nat) : Int) by push_cast; rfl]
    exact e1
theorem cls_len : ∀ ks : List Cl, 3 * ks.length ≤ (ks.flatMap Cl.words).length
  | [] => by simp
  | c :: ks => by
    have h := cls_len ks
    have h2 : 3 ≤ c.words.length := by cases c <;> simp [Cl.words]
    rw [List.flatMap_cons, List.length_append, List.length_cons]
    omega
theorem heard_order {h₀ h : Heap} {L : Addr} {a b c d : Addr × Obj} {l : List (Addr × Obj)} (N : News h₀ L h (a :: b :: c :: d :: l)) : News h₀ L h (d :: c :: l) := fun p hp => N p (by
  rcases List.mem_cons.mp hp with h | hp
  · subst h; exact List.mem_cons_of_mem _ (List.mem_cons_of_mem _ (List.mem_cons_of_mem _ (List.mem_cons_self ..)))
  rcases List.mem_cons.mp hp with h | hp
  · subst h; exact List.mem_cons_of_mem _ (List.mem_cons_of_mem _ (List.mem_cons_self ..))
  · exact List.mem_cons_of_mem _ (List.mem_cons_of_mem _ (List.mem_cons_of_mem _ (List.mem_cons_of_mem _ hp))))
theorem TellX.use {w : World} {D U : Nat} {f : Addr} {args : List Value} {news : List (Addr × Obj)} {post : Value → List (Addr × Obj) → Prop} {postE : Addr → Addr → List (Addr × Obj) → Prop} {p : Program} {loose : List Str} {mean : ExcName → Option Value} {mg mb : Str → Option Value} {dp un : Nat} {gd : Option (List Code)} {cn : Str} {cs : Scope} {a : Addr} {ccd : Value} {cl : List (Str × Addr)} {outer : List Env}
    {A₀ : Around} {base h₀ : Heap} {L : Addr} {m : Str → Option Value} {s : Shared} {Q E : Value → Shared → Prop}
    (hT : TellX w D U f args news post postE) (B : Below A₀ base outer h₀) (F : Fr h₀ L s.heap m) (X : (Mine.KK w.params).In h₀) (N : News h₀ L s.heap news) (T : Top p loose mean mg mb h₀) (hk : cs.kind = .function) (hd : dp + D < recursionLimit) (hu : un + U < cLine)
    (ret : ∀ r news' h' tk', post r news' → Fr h₀ L h' m → News h₀ L h' news' → Q r { s with heap := h', toks := tk' })
    (exc : ∀ e dx news' G h' tk', postE e dx news' → RaisedD base G (envX cn cs L a ccd cl :: outer) e 116 dx news' h' → G.UpToSlots h' → Fr h₀ L G m → E (.ref e) { s with heap := h', toks := tk' }) :
    wpAny (model PySem.Challenge.rw_qd0102_01.prog w) (ktrTop dp un gd cn cs L a ccd cl outer) (call (.ref f) args) Q E s := hT _ _ _ _ _ _ _ _ _ _ _ _ _ _ _ _ _ B F X N T hk hd hu ret exc
/-- what is heard of a text -/
inductive HeardGood (nm : PySem.Str) (σ : Sp) (x : Value) (news' : List (Addr × Obj)) : Prop where
  | mk (q ta tr : Addr) (ps : List Value) (u0 u1 u2 u3 u4 u6 u7 : Tok) (e : x = .ref q) (a : (q, tupO [.str nm u0, .str σ.path u1, .str σ.org u2, .str σ.acc u3, .str σ.key u4, .ref ta, .str σ.rel u6, .str σ.stat u7, .bool false, .ref tr]) ∈ news') (b : (ta, tupO ps) ∈ news') (c : PairsAt news' ps σ.al) (d : (tr, tupO []) ∈ news') : HeardGood nm σ x news'
noncomputable def HeardPost (O : List (Addr × Obj)) (nm : PySem.Str) (σ : Sp) (x : Value) (news' : List (Addr × Obj)) : Prop :=
  (∀ p ∈ O, p ∈ news') ∧ ((whole σ.path σ.org σ.acc σ.key σ.rel σ.al = true ∧ HeardGood nm σ x news') ∨
   (whole σ.path σ.org σ.acc σ.key σ.rel σ.al = false ∧ ∃ u, x = .int 2 u))
theorem t_heard {w : World} {O : List (Addr × Obj)} {x nm : PySem.Str} {u0 : Tok} {ks : List Cl} (hx : Txt.split x " " = (wrd (PySem.Str.ofString "SELECT") :: wrd nm :: (ks.flatMap Cl.words ++ [dot])).map raw) (hlen : (wrd (PySem.Str.ofString "SELECT") :: wrd nm :: (ks.flatMap Cl.words ++ [dot])).length ≤ 200) (hsz : x.length + 2 ≤ sizeLine)
    (hok : ∀ q ∈ wrd (PySem.Str.ofString "SELECT") :: wrd nm :: (ks.flatMap Cl.words ++ [dot]), WOk q) (hf : FreeName nm) (hopt : ((PySem.Str.ofString "word") == (PySem.Str.ofString "word") && nm == (PySem.Str.ofString "OPTIONAL")) = false) (oks : ClsOk sp0 [] ks) (hal : ((ks.foldl Cl.upd sp0).al.all fun p => PyData.strOk p.1) = true) :
    TellS w 12 400 415 [.str x u0] O (HeardPost O nm (ks.foldl Cl.upd sp0)) := by
  intro p loose mean mg mb dp un gd cn cs a ccd outer A₀ base h₀ L m s Q E B F X N T XB TB D hk hdp hun ret
  refine wpAny_call ?_
  revert X N; k_fill; intro X N
  k_dflt (refine' code_defS (binds := [("text", .str x u0)]) ?k1 ?k2 ?k3 ?k4 ?k5 ?XB ?TB ?D ?T0 ?kA ?k6 ?k7 ?k8 ?k9 ?kB ?_ ?cK ?c2 ?c3 ?c4 ?c5; (case kA => exact rfl); (case k2 => k_asm); (case k1 => k_asm); (case XB => assumption); (case TB => assumption); (case D => assumption); (case T0 => exact KtsTurn.refl); (case k3 => k_asm); (case k4 => k_asm); (case k5 => k_asm); (case k6 => exact k_law_heard _); (case k7 => k_is); (case k8 => ktr_room); (case k9 => first | exact BindsTo.of_eq rfl | exact binds_KK (by k_in) rfl (by k_is) rfl rfl); (case kB => exact locs rfl); (case cK => exact hk); (case c2 => exact rfl); (case c3 => exact rfl); (case c4 => exact rfl); (case c5 => decide); k_whole; intro g' L' h' FG' F' N' B' X' T' D'; (try dsimp only); (try k_fold))
  (walk_at "kF"; repeat' ((first | (refine' Tell.use (t_told ?mC ?mD ?mE) ?k1 ?k2 ?k3 ?k4 ?k5 ?kK ?kd ?ku ?_; (case k1 | k2 | k3 | k4 | k5 => k_asm); (case mC => walk_at "mM"); (case mD => walk_at "mM"); (case mE => walk_at "mM"); (case kK => first | exact rfl | assumption); (case kd => ktr_room); (case ku => ktr_units); k_whole; intro r9 n9 h9 tk9 e9 F9 N9; (obtain ⟨q9, e8, e7⟩ := e9); (subst e8); (subst e7); walk_at "mE") | (refine' Tell.use (t_is_done (o := _) ?R ?hb) ?k1 ?k2 ?k3 ?k4 ?k5 ?kK ?kd ?ku ?_; (case k1 | k2 | k3 | k4 | k5 => k_asm); (case R => walk_at "mR"); (case hb => first | rfl | assumption | decide +kernel); (case kK => first | exact rfl | assumption); (case kd => ktr_room); (case ku => ktr_units); k_whole; intro r9 n9 h9 tk9 e9 F9 N9; (obtain ⟨e8, e7⟩ := e9); (subst e8); (subst e7); walk_at "mE") | (refine' Tell.use (t_need (o := _) ?R ?ht ?hq ?hqs ?U) ?k1 ?k2 ?k3 ?k4 ?k5 ?kK ?kd ?ku ?_; (case k1 | k2 | k3 | k4 | k5 => k_asm); (case R => walk_at "mR"); (case ht => walk_at "mT"); (case hq => walk_at "mQ"); (case hqs => walk_at "mQ"); (case U => (intro t9; k_upd)); (case kK => first | exact rfl | assumption); (case kd => ktr_room); (case ku => ktr_units); k_whole; intro r9 n9 h9 tk9 e9 F9 N9; (obtain ⟨e8, t9, e7⟩ := e9); (subst e8); (subst e7); (try dsimp only at N9); walk_at "mE")); walk_at "kF"))
  refine Tell.use (t_row hx hlen hsz hok) (by k_asm) (by k_asm) (by k_asm) (by k_asm) (by k_asm) rfl (by ktr_room) (by ktr_units) ?_
  intro r1 n1 h1 tk1 e1 F1 N1
  obtain ⟨D1, tvs, c1, O1, rfl, rfl, sub1, row1⟩ := e1
  (walk_at "kF"; repeat' ((first | (refine' Tell.use (t_told ?mC ?mD ?mE) ?k1 ?k2 ?k3 ?k4 ?k5 ?kK ?kd ?ku ?_; (case k1 | k2 | k3 | k4 | k5 => k_asm); (case mC => walk_at "mM"); (case mD => walk_at "mM"); (case mE => walk_at "mM"); (case kK => first | exact rfl | assumption); (case kd => ktr_room); (case ku => ktr_units); k_whole; intro r9 n9 h9 tk9 e9 F9 N9; (obtain ⟨q9, e8, e7⟩ := e9); (subst e8); (subst e7); walk_at "mE") | (refine' Tell.use (t_is_done (o := _) ?R ?hb) ?k1 ?k2 ?k3 ?k4 ?k5 ?kK ?kd ?ku ?_; (case k1 | k2 | k3 | k4 | k5 => k_asm); (case R => walk_at "mR"); (case hb => first | rfl | assumption | decide +kernel); (case kK => first | exact rfl | assumption); (case kd => ktr_room); (case ku => ktr_units); k_whole; intro r9 n9 h9 tk9 e9 F9 N9; (obtain ⟨e8, e7⟩ := e9); (subst e8); (subst e7); walk_at "mE") | (refine' Tell.use (t_need (o := _) ?R ?ht ?hq ?hqs ?U) ?k1 ?k2 ?k3 ?k4 ?k5 ?kK ?kd ?ku ?_; (case k1 | k2 | k3 | k4 | k5 => k_asm); (case R => walk_at "mR"); (case ht => walk_at "mT"); (case hq => walk_at "mQ"); (case hqs => walk_at "mQ"); (case U => (intro t9; k_upd)); (case kK => first | exact rfl | assumption); (case kd => ktr_room); (case ku => ktr_units); k_whole; intro r9 n9 h9 tk9 e9 F9 N9; (obtain ⟨e8, t9, e7⟩ := e9); (subst e8); (subst e7); (try dsimp only at N9); walk_at "mE")); walk_at "kF"))
  refine Tell.use t_Reader (by k_asm) (by k_asm) (by k_asm) (by k_asm) (by k_asm) rfl (by ktr_room) (by ktr_units) ?_
  intro r2 n2 h2 tk2 e2 F2 N2
  obtain ⟨r, rd, nd, sh, on, os, t1, t2, t3, t4, u, rfl, rfl, off1, ne1, ne2, ne3⟩ := e2
  have hbase : RdBase w.params ((r, instObj 378 rd) :: (D1, listOf tvs.toArray c1) :: O1) r rd D1 (RD w.params ⟨t1, t2, t3, t4, nd, sh⟩ D1) tvs := ⟨List.mem_cons_self .., ⟨_, rfl⟩, ⟨c1, List.mem_cons_of_mem _ (List.mem_cons_self ..)⟩, by rw [row1.1]; omega⟩
  have hR0 : RdAt w.params ((sh, os) :: (nd, on) :: (r, instObj 378 rd) :: (rd, RD w.params ⟨t1, t2, t3, t4, nd, sh⟩ D1 0 u) :: (D1, listOf tvs.toArray c1) :: O1) r rd D1 (RD w.params ⟨t1, t2, t3, t4, nd, sh⟩ D1) 0 u tvs :=
    ⟨List.mem_cons_of_mem _ (List.mem_cons_of_mem _ (List.mem_cons_self ..)), List.mem_cons_of_mem _ (List.mem_cons_of_mem _ (List.mem_cons_of_mem _ (List.mem_cons_self ..))), ⟨_, rfl⟩, ⟨c1, List.mem_cons_of_mem _ (List.mem_cons_of_mem _ (List.mem_cons_of_mem _ (List.mem_cons_of_mem _ (List.mem_cons_self ..))))⟩, by rw [row1.1]; omega⟩
  have tok0 : TokZ w.params O1 tvs 0 (PySem.Str.ofString "word") (PySem.Str.ofString "SELECT") := row_tok (i := 0) row1 rfl
  obtain ⟨t5, d5, x1, x2, x3, x4, y1, y2, pl, q1, q2, hv5, hti5, htd5, hpl5⟩ := row1.2 1 (wrd nm) rfl
  have hTK := row_toks row1 (ks.flatMap Cl.words ++ [dot]) 2 rfl
  have sub2 : ∀ p ∈ O1, p ∈ (r, instObj 378 rd) :: (D1, listOf tvs.toArray c1) :: O1 := fun p hp => List.mem_cons_of_mem _ (List.mem_cons_of_mem _ hp)
  have off2 : ∀ p ∈ (r, instObj 378 rd) :: (D1, listOf tvs.toArray c1) :: O1, p.1 ≠ rd := fun p hp => by
    rcases List.mem_cons.mp hp with h | hp
    · subst h; exact ne1
    · exact off1 p hp
  have hkl : ks.length ≤ 100 := by
    have h := cls_len ks
    simp only [List.length_cons, List.length_append, List.length_nil] at hlen
    omega
  have hv5' : tvs[((0 : Int) + 1).toNat]? = some (.ref t5) := by simpa using hv5
  have e2 : ((0 : Int) + 1 + 1) = ((2 : Nat) : Int) := by decide
  have hTK' : Toks w.params O1 tvs ((0 : Int) + 1 + 1) (ks.flatMap Cl.words ++ [dot]) := by rw [e2]; exact hTK
  (walk_at "kF"; repeat' ((first | (refine' Tell.use (t_told ?mC ?mD ?mE) ?k1 ?k2 ?k3 ?k4 ?k5 ?kK ?kd ?ku ?_; (case k1 | k2 | k3 | k4 | k5 => k_asm); (case mC => walk_at "mM"); (case mD => walk_at "mM"); (case mE => walk_at "mM"); (case kK => first | exact rfl | assumption); (case kd => ktr_room); (case ku => ktr_units); k_whole; intro r9 n9 h9 tk9 e9 F9 N9; (obtain ⟨q9, e8, e7⟩ := e9); (subst e8); (subst e7); walk_at "mE") | (refine' Tell.use (t_is_done (o := _) ?R ?hb) ?k1 ?k2 ?k3 ?k4 ?k5 ?kK ?kd ?ku ?_; (case k1 | k2 | k3 | k4 | k5 => k_asm); (case R => walk_at "mR"); (case hb => first | rfl | assumption | decide +kernel); (case kK => first | exact rfl | assumption); (case kd => ktr_room); (case ku => ktr_units); k_whole; intro r9 n9 h9 tk9 e9 F9 N9; (obtain ⟨e8, e7⟩ := e9); (subst e8); (subst e7); walk_at "mE") | (refine' Tell.use (t_need (o := _) ?R ?ht ?hq ?hqs ?U) ?k1 ?k2 ?k3 ?k4 ?k5 ?kK ?kd ?ku ?_; (case k1 | k2 | k3 | k4 | k5 => k_asm); (case R => walk_at "mR"); (case ht => walk_at "mT"); (case hq => walk_at "mQ"); (case hqs => walk_at "mQ"); (case U => (intro t9; k_upd)); (case kK => first | exact rfl | assumption); (case kd => ktr_room); (case ku => ktr_units); k_whole; intro r9 n9 h9 tk9 e9 F9 N9; (obtain ⟨e8, t9, e7⟩ := e9); (subst e8); (subst e7); (try dsimp only at N9); walk_at "mE")); walk_at "kF"))
  rename News g' _ _ _ => lN
  rename Fr g' _ _ _ => lF
  refine TellX.use (t_read_select (z := 0 + 1) (nm := nm) hbase off2 (by decide) hv5' (sub2 _ hti5) (sub2 _ htd5) hf hopt (hTK'.mono sub2) oks hkl hal) (by k_asm) (by k_asm) (by k_asm) (heard_order lN) (by k_asm) rfl (by ktr_room) (by ktr_units) ?_ ?_
  · intro r9 n9 h9 tk9 e9 F9 N9
    obtain ⟨hw, sp, sd, t, O', ob, u0, tr, rfl, rfl, sub, hsp, htr, hSt⟩ := e9
    obtain ⟨aa, v1, v2, v3, v4, v6, v7, ta, ps, rfl, hta, hps⟩ := hSt
    have hr9 := sub _ (List.mem_cons_self ..)
    have hl9 := sub _ (List.mem_cons_of_mem _ (List.mem_cons_self ..))
    have hR9 : RdAt w.params ((rd, RD w.params ⟨t1, t2, t3, t4, nd, sh⟩ D1 (0 + 1 + 1 + ((ks.flatMap Cl.words).length : Int) + 1) t) :: (sd, SD w.params aa (.str nm u0) (.str (ks.foldl Cl.upd sp0).path v1) (.str (ks.foldl Cl.upd sp0).org v2) (.str (ks.foldl Cl.upd sp0).acc v3) (.str (ks.foldl Cl.upd sp0).key v4) (.ref ta) (.str (ks.foldl Cl.upd sp0).rel v6) (.str (ks.foldl Cl.upd sp0).stat v7) (.bool false) (.ref tr)) :: O') r rd D1 (RD w.params ⟨t1, t2, t3, t4, nd, sh⟩ D1) (0 + 1 + 1 + ((ks.flatMap Cl.words).length : Int) + 1) t tvs :=
      ⟨List.mem_cons_of_mem _ (List.mem_cons_of_mem _ hr9), List.mem_cons_self .., ⟨_, rfl⟩, ⟨c1, List.mem_cons_of_mem _ (List.mem_cons_of_mem _ hl9)⟩, by rw [row1.1]; omega⟩
    have hb9 : decide ((tvs.toArray.size : Int) ≤ 0 + 1 + 1 + ((ks.flatMap Cl.words).length : Int) + 1) = true := by
      have := row1.1
      simp only [List.length_cons, List.length_append, List.length_nil] at this
      rw [List.size_toArray, this]
      exact decide_eq_true (by push_cast; omega)
    (walk_at "kF"; repeat' ((first | (refine' Tell.use (t_told ?mC ?mD ?mE) ?k1 ?k2 ?k3 ?k4 ?k5 ?kK ?kd ?ku ?_; (case k1 | k2 | k3 | k4 | k5 => k_asm); (case mC => walk_at "mM"); (case mD => walk_at "mM"); (case mE => walk_at "mM"); (case kK => first | exact rfl | assumption); (case kd => ktr_room); (case ku => ktr_units); k_whole; intro r9 n9 h9 tk9 e9 F9 N9; (obtain ⟨q9, e8, e7⟩ := e9); (subst e8); (subst e7); walk_at "mE") | (refine' Tell.use (t_is_done (o := _) ?R ?hb) ?k1 ?k2 ?k3 ?k4 ?k5 ?kK ?kd ?ku ?_; (case k1 | k2 | k3 | k4 | k5 => k_asm); (case R => walk_at "mR"); (case hb => first | rfl | assumption | decide +kernel); (case kK => first | exact rfl | assumption); (case kd => ktr_room); (case ku => ktr_units); k_whole; intro r9 n9 h9 tk9 e9 F9 N9; (obtain ⟨e8, e7⟩ := e9); (subst e8); (subst e7); walk_at "mE") | (refine' Tell.use (t_need (o := _) ?R ?ht ?hq ?hqs ?U) ?k1 ?k2 ?k3 ?k4 ?k5 ?kK ?kd ?ku ?_; (case k1 | k2 | k3 | k4 | k5 => k_asm); (case R => walk_at "mR"); (case ht => walk_at "mT"); (case hq => walk_at "mQ"); (case hqs => walk_at "mQ"); (case U => (intro t9; k_upd)); (case kK => first | exact rfl | assumption); (case kd => ktr_room); (case ku => ktr_units); k_whole; intro r9 n9 h9 tk9 e9 F9 N9; (obtain ⟨e8, t9, e7⟩ := e9); (subst e8); (subst e7); (try dsimp only at N9); walk_at "mE")); walk_at "kF"))
    rename News h₀ _ _ _ => lN9
    rename Fr h₀ _ _ _ => lF9
    refine ret _ _ _ _ h₀ ⟨fun p hp => ?_, .inl ⟨hw, _, ta, tr, ps, u0, v1, v2, v3, v4, v6, v7, rfl, List.mem_cons_self .., ?_, hps.mono ?_, ?_⟩⟩ KtsTurn.refl lF9 lN9 B (by assumption) (by assumption) D
    · exact List.mem_cons_of_mem _ (List.mem_cons_of_mem _ (List.mem_cons_of_mem _ (sub _ (sub2 _ (sub1 p hp)))))
    · exact List.mem_cons_of_mem _ (List.mem_cons_of_mem _ (List.mem_cons_of_mem _ hta))
    · exact fun p hp => List.mem_cons_of_mem _ (List.mem_cons_of_mem _ (List.mem_cons_of_mem _ hp))
    · exact List.mem_cons_of_mem _ (List.mem_cons_of_mem _ (List.mem_cons_of_mem _ htr))
  · intro e dx news' G h9 tk9 e9 R U FG
    obtain ⟨hw, g1, g2, gu, what, rfl⟩ := e9
    refine caught_D R FG B' U XB TB D' KtsTurn.refl (by k_is) (by kts_isx) ?_
    intro h8 g8 vs8 tk8 T8 F8 N8 B8 X8 P8 D8
    have hpl8 : (pl, tupO [.int 1 q1, .int (((1 : Nat) : Int) + 1) q2]) ∈ (e, excF 116 dx vs8) :: (dx, GD w.params g1 g2 gu what pl) :: (r, instObj 378 rd) :: (D1, listOf tvs.toArray c1) :: O1 := List.mem_cons_of_mem _ (List.mem_cons_of_mem _ (sub2 _ hpl5))
    (walk_at "kF"; repeat' ((first | (refine' Tell.use (t_told ?mC ?mD ?mE) ?k1 ?k2 ?k3 ?k4 ?k5 ?kK ?kd ?ku ?_; (case k1 | k2 | k3 | k4 | k5 => k_asm); (case mC => walk_at "mM"); (case mD => walk_at "mM"); (case mE => walk_at "mM"); (case kK => first | exact rfl | assumption); (case kd => ktr_room); (case ku => ktr_units); k_whole; intro r9 n9 h9 tk9 e9 F9 N9; (obtain ⟨q9, e8, e7⟩ := e9); (subst e8); (subst e7); walk_at "mE") | (refine' Tell.use (t_is_done (o := _) ?R ?hb) ?k1 ?k2 ?k3 ?k4 ?k5 ?kK ?kd ?ku ?_; (case k1 | k2 | k3 | k4 | k5 => k_asm); (case R => walk_at "mR"); (case hb => first | rfl | assumption | decide +kernel); (case kK => first | exact rfl | assumption); (case kd => ktr_room); (case ku => ktr_units); k_whole; intro r9 n9 h9 tk9 e9 F9 N9; (obtain ⟨e8, e7⟩ := e9); (subst e8); (subst e7); walk_at "mE") | (refine' Tell.use (t_need (o := _) ?R ?ht ?hq ?hqs ?U) ?k1 ?k2 ?k3 ?k4 ?k5 ?kK ?kd ?ku ?_; (case k1 | k2 | k3 | k4 | k5 => k_asm); (case R => walk_at "mR"); (case ht => walk_at "mT"); (case hq => walk_at "mQ"); (case hqs => walk_at "mQ"); (case U => (intro t9; k_upd)); (case kK => first | exact rfl | assumption); (case kd => ktr_room); (case ku => ktr_units); k_whole; intro r9 n9 h9 tk9 e9 F9 N9; (obtain ⟨e8, t9, e7⟩ := e9); (subst e8); (subst e7); (try dsimp only at N9); walk_at "mE")); walk_at "kF"))
    refine exc_get (C := 116) (ox := excF 116 dx vs8) (od := some (GD w.params g1 g2 gu what pl)) (X8.keeps F8.keep) ⟨(N8 _ (List.mem_cons_self ..)).1, rfl, rfl, (N8 _ (List.mem_cons_of_mem _ (List.mem_cons_self ..))).1⟩ (by rfl) (by rfl) (by rfl) (by rfl) (by rfl) ?_
    (walk_at "kF"; repeat' ((first | (refine' Tell.use (t_told ?mC ?mD ?mE) ?k1 ?k2 ?k3 ?k4 ?k5 ?kK ?kd ?ku ?_; (case k1 | k2 | k3 | k4 | k5 => k_asm); (case mC => walk_at "mM"); (case mD => walk_at "mM"); (case mE => walk_at "mM"); (case kK => first | exact rfl | assumption); (case kd => ktr_room); (case ku => ktr_units); k_whole; intro r9 n9 h9 tk9 e9 F9 N9; (obtain ⟨q9, e8, e7⟩ := e9); (subst e8); (subst e7); walk_at "mE") | (refine' Tell.use (t_is_done (o := _) ?R ?hb) ?k1 ?k2 ?k3 ?k4 ?k5 ?kK ?kd ?ku ?_; (case k1 | k2 | k3 | k4 | k5 => k_asm); (case R => walk_at "mR"); (case hb => first | rfl | assumption | decide +kernel); (case kK => first | exact rfl | assumption); (case kd => ktr_room); (case ku => ktr_units); k_whole; intro r9 n9 h9 tk9 e9 F9 N9; (obtain ⟨e8, e7⟩ := e9); (subst e8); (subst e7); walk_at "mE") | (refine' Tell.use (t_need (o := _) ?R ?ht ?hq ?hqs ?U) ?k1 ?k2 ?k3 ?k4 ?k5 ?kK ?kd ?ku ?_; (case k1 | k2 | k3 | k4 | k5 => k_asm); (case R => walk_at "mR"); (case ht => walk_at "mT"); (case hq => walk_at "mQ"); (case hqs => walk_at "mQ"); (case U => (intro t9; k_upd)); (case kK => first | exact rfl | assumption); (case kd => ktr_room); (case ku => ktr_units); k_whole; intro r9 n9 h9 tk9 e9 F9 N9; (obtain ⟨e8, t9, e7⟩ := e9); (subst e8); (subst e7); (try dsimp only at N9); walk_at "mE")); walk_at "kF"))
    rename KtsTurn _ h₀ _ => kT9
    rename News _ L _ _ => lN9
    rename Fr _ L _ _ => lF9
    exact ret _ _ _ _ _ ⟨fun p hp => List.mem_cons_of_mem _ (List.mem_cons_of_mem _ (sub2 _ (sub1 p hp))), .inr ⟨hw, q2, rfl⟩⟩ kT9 lF9 lN9 (by assumption) (by assumption) (by assumption) (by assumption)
end
section
set_option maxRecDepth 100000
set_option maxHeartbeats 4000000
set_option rowWalk.seconds 0
local macro_rules | `(tactic| walk_at "call builtin:len") => `(tactic| (k_here; (with_reducible show wpAny _ _ (call (Value.builtin "len") [Value.ref _]) _ _ _); k_dflt (refine' KM.len_K ?F ?N ?e ?f ?_; (case F => k_asm); (case N => k_mem); (case e => assumption); (case f => omega))))
theorem fm0 {x y : Int} (h : 0 < y) : 0 ≤ x.fmod y := by rw [Int.fmod_eq_emod_of_nonneg _ (by omega)]; exact Int.emod_nonneg _ (by omega)
theorem fm1 {x y : Int} (h : 0 < y) : x.fmod y < y := by rw [Int.fmod_eq_emod_of_nonneg _ (by omega)]; exact Int.emod_lt_of_pos _ h
theorem fd0 {x y : Int} (hx : 0 ≤ x) (h : 0 < y) : 0 ≤ x.fdiv y := by rw [Int.fdiv_eq_ediv_of_nonneg _ (by omega)]; exact Int.ediv_nonneg hx (by omega)
theorem powb (x : Int) : ((x.fmod 2147483647).fdiv 3).natAbs < 2 ^ 64 := by
  have h0 := @fm0 x 2147483647 (by decide)
  have h1 := @fm1 x 2147483647 (by decide)
  generalize x.fmod 2147483647 = y at *
  rw [Int.fdiv_eq_ediv_of_nonneg _ (by decide)]
  omega
local macro_rules | `(tactic| walk_at "binaryOp Pow int int") => `(tactic| (k_here; (with_reducible refine pow_int_small (by decide) (by decide) (powb _) ?_)))
inductive DrawPost (O : List (Addr × Obj)) (b D : Addr) (c : Nat) (pl lim : Int) (x : Value) (news' : List (Addr × Obj)) : Prop where
  | mk (d : Int) (td : Tok) (g' st' : Int) (tg' ts' tp' : Tok) (e : x = .int d td) (h1 : 0 ≤ d) (h2 : d < lim) (h3 : 0 ≤ g') (h4 : 0 ≤ st') (h5 : st' < 2147483647) (e' : news' = (b, listOf #[.ref D, .int g' tg', .int st' ts', .int (pl + 1) tp'] c) :: O) : DrawPost O b D c pl lim x news'
theorem t_draw {w : World} {O : List (Addr × Obj)} {b D : Addr} {ns : List Int} {vs : List Value} {g st pl lim : Int} {tl tg ts tp : Tok} {c cD : Nat}
    (hD : (D, listOf vs.toArray cD) ∈ O) (hi : IntsAre vs ns) (hlen : vs.length ≤ 48) (hg : 0 ≤ g) (hs : 0 ≤ st) (hs2 : st < 2147483647) (hp : 0 ≤ pl) (hp2 : pl < 1000) (hlim : 0 < lim) (hlim2 : lim < 16) (hoff : ∀ p ∈ O, p.1 ≠ b) :
    Tell w 2 60 394 [.ref b, .int lim tl] ((b, listOf #[.ref D, .int g tg, .int st ts, .int pl tp] c) :: O)
      (DrawPost O b D c pl lim) := by
  intro p loose mean mg mb dp un gd cn cs a ccd cl outer A₀ base h₀ L m s Q E B F X N T hk hdp hun ret
  refine wpAny_call ?_
  revert X N; k_fill; intro X N
  k_dflt (refine' code_def (binds := [("box", .ref b), ("limit", .int lim tl)]) ?k1 ?k2 ?k3 ?k4 ?k5 ?kA ?kF ?kK ?k6 ?k7 ?k8 ?k9 ?kB ?_ ?c2 ?c3 ?c4 ?c5; (case kA => exact rfl); (case kF => exact rfl); (case kK => assumption); (case k1 => k_asm); (case k2 => k_asm); (case k3 => k_asm); (case k4 => k_asm); (case k5 => k_asm); (case k6 => exact k_law_draw _); (case k7 => k_is); (case k8 => ktr_room); (case k9 => first | exact BindsTo.of_eq rfl | exact binds_KK (by k_in) rfl (by k_is) rfl rfl); (case c5 => decide); (case kB => exact locs rfl); (case c2 => exact rfl); (case c3 => exact rfl); (case c4 => exact rfl); k_whole; intro g' L' h' FG' F' N' B' X' T'; (try dsimp only); (try k_fold))
  have hsz : vs.toArray.size = ns.length := by rw [List.size_toArray, hi.length]
  have hn : ns.length ≤ 48 := by rw [← hi.length]; exact hlen
  walk_at "kF"
  all_goals (refine ret _ _ _ _ ⟨_, _, _, _, _, _, _, rfl, fm0 hlim, fm1 hlim, ?_, ?_, ?_, rfl⟩ (by k_asm) (by k_asm))
  all_goals first | assumption | exact fd0 hg hlim | exact fm0 (by decide) | exact fm1 (by decide)
end
section
set_option maxRecDepth 100000
set_option maxHeartbeats 4000000
set_option rowWalk.seconds 0
theorem frame_one {env : PySem.Env} {L b : Addr} (hf : env.frame = some L) (hm : b ∈ [env].filterMap (·.frame)) : b = L := by
  obtain ⟨e, he, hb⟩ := List.mem_filterMap.mp hm
  cases List.mem_singleton.mp he
  exact Option.some.inj (hb.symm.trans hf)
/-- a def that will catch, called from a ground frame of any shape -/
theorem code_defE {prog : Program} {w : World} {A₀ A : Around} {s : Shared} {base h₀ : Heap} {env : PySem.Env} {L : Addr} {m : PySem.Str → Option Value} {news : List (Addr × Obj)} {K : Frag} {p : Program} {loose : List PySem.Str} {mean : ExcName → Option Value} {mg mb : PySem.Str → Option Value}
    {R : Result → Shared → Prop} {name qual : PySem.Str} {params : Arguments} {body : List PySem.Stmt} {scope : Scope} {dV kV doc pm cdv ct oc : Value} {an od : Option Addr} {osl : Array (Option Value)} {f : Addr} {args : Args} {binds : List (PySem.Str × Value)}
    (B : Below A₀ base [] h₀) (F : Fr h₀ L s.heap m) (X₀ : K.In h₀) (N : News h₀ L s.heap news) (T : Top p loose mean mg mb h₀) (hA : A.frames = some [env]) (hf : env.frame = some L) (hke : env.scope.kind = .function)
    (ho : K.lookup f = some ⟨oc, od, .func (fnOf name qual params body scope dV kV doc pm an cdv ct), osl⟩) (hcd : codeIn K cdv qual = true) (hroom : A.depth < recursionLimit)
    (hbind : BindsTo s (fnOf name qual params body scope dV kV doc pm an cdv ct) args binds) (hloc : ∀ y ∈ binds, scope.names.lookup y.1 = some .local)
    (h : ∀ g L' h₁, Fr h₀ L g m → Fr g L' h₁ (fun y => binds.reverse.lookup y) → News g L' h₁ news → Below A base [env] g → K.In g → Top p loose mean mg mb g → KtsDicts ([env].filterMap (·.frame)) g →
      wpAny (model prog w) (A.deeper (envOf qual scope L' f cdv)) (execs body (envOf qual scope L' f cdv))
        (fun fl s' => LeaveS0 ([env].filterMap (·.frame)) h₀ L m g R (match fl with | .ret v => v | _ => .none) s')
        (fun e s' => wpAny (model prog w) (A.deeper (envOf qual scope L' f cdv)) (leaving (envOf qual scope L' f cdv) e) (fun _ s'' => R (.error e) s'') (fun e' s'' => R (.error e') s'') s')
        { s with heap := h₁, toks := s.toks + binds.length })
    (hco : scope.isCoroutine = false) (hgen : scope.isGenerator = false) (hk : scope.kind = .function)
    (hcell : ∀ x ∈ scope.names, x.2 ≠ .cell) : codeAny (model prog w) A (.call (.ref f) args) R s := by
  obtain ⟨FG, BG, st, -⟩ := groundX (R := R) B F N hA hf hke
  obtain ⟨oL, es, ep, hL, hLd, hLk, hLf⟩ := F.ns
  have nL : L ∉ news.map (·.1) := fun q => by
    obtain ⟨y, hy, e⟩ := List.mem_map.mp q
    exact (N y hy).2.1 e
  have hLg := hideAll_get (news.map (·.1)) hL nL
  have back : ∀ (sl : Array (Option Value)) h', h'.get? L = some { oL with slots := sl } → Heap.Ns h' L m := fun sl h' e => ⟨_, es, ep, e, hLd, hLk, hLf⟩
  have none₀ : h₀.get? L = none := kts_self F
  refine codeAny_call_def (fd := fnOf name qual params body scope dV kV doc pm an cdv ct) (body := body) (binds := binds) hroom ((X₀.keeps F.keep) _ _ ho) rfl (T.nolimit.keeps F.keep) (codeRec_of (X₀.keeps F.keep) hcd) rfl hbind hcell hloc (fun h₁ hns hk₁ => ?_) hco hgen hk
  refine wpAny_mono (h _ s.heap.objs.size h₁ FG ⟨hns, fun b o e => hk₁ b o (of_hideAll _ e), Nat.le_of_eq (hideAll_size _ _)⟩
    (fun y hy => ⟨hk₁ _ _ (N y hy).1, Nat.ne_of_lt (Heap.lt_size (N y hy).1), hideAll_none _ (List.mem_map_of_mem hy)⟩) BG (X₀.keeps st) (T.keeps st) (fun b hb => by
      cases frame_one hf hb
      exact ⟨oL, es, ep, hLg, hLd⟩)) (fun fl s' hl => ?_) fun _ _ y => y
  obtain ⟨g', L', m', news', T', F', N', k⟩ := hl
  obtain ⟨sl, hs⟩ := T'.up hLg
  refine k ⟨back sl _ (F'.keep _ _ hs), fun b o e => F'.keep b o (T'.other b o (st b o e) fun q => ?_), F.above⟩ fun y hy => ⟨(N' y hy).1, fun q => ?_, ?_⟩
  · cases frame_one hf q
    rw [none₀] at e
    cases e
  · have z := (N' y hy).2.2
    rw [q, hs] at z
    cases z
  · cases q : h₀.get? y.1 with
    | none => rfl
    | some o =>
      obtain ⟨sl', hs'⟩ := T'.up (st _ _ q)
      have z := (N' y hy).2.2
      rw [hs'] at z
      cases z
end
section
set_option maxRecDepth 100000
set_option maxHeartbeats 4000000
set_option rowWalk.seconds 0
local macro_rules | `(tactic| walk_at "call builtin:str.split") => `(tactic| (k_here; (with_reducible show wpAny _ _ (call (Value.builtin "str.split") _) _ _ _); k_dflt (refine KSpl.split1 (by k_asm) (by k_asm) (by decide) ?_ (by assumption)); intro D' l' h' k' e' a' F' N' l1; (rw [e'.trans (by assumption)] at a'); (clear e'); (generalize strValues l' = vs' at a' N')))
local macro_rules | `(tactic| walk_at "compareOp NotEq ref ref") => `(tactic| (k_here; refine halt ?_))
local macro_rules | `(tactic| walk_at "compareOp Eq ref ref") => `(tactic| (k_here; refine halt ?_))
local macro_rules | `(tactic| walk_at "call builtin:list.count") => `(tactic| (k_here; (with_reducible show wpAny _ _ (call (Value.builtin _) [Value.ref _, Value.str _ _]) _ _ _); k_dflt (refine halt ?_)))
local macro_rules | `(tactic| walk_at "compareOp NotEq int int") => `(tactic| (refine halt ?_))
theorem strs_cons {vs : List Value} {a : PySem.Str} {r : List PySem.Str} (h : StrsAre vs (a :: r)) : ∃ u vs', vs = .str a u :: vs' ∧ StrsAre vs' r := by
  cases h with | cons _ u h => exact ⟨u, _, rfl, h⟩
theorem pick5 {a b c d e : Value} {r : List Value} : (slicePick (a :: b :: c :: d :: e :: r).toArray none (some 5) none).toList = [a, b, c, d, e] := by
  rw [show (some 5 : Option Int) = some ((5 : Nat) : Int) from rfl, slicePick_upto _ 5 (by simp)]
  rfl
theorem eq_five {prog : Program} {w : World} {A : Around} {E : Value → Shared → Prop} {s : Shared} {h₀ : Heap} {L d1 d2 : Addr} {news : List (Addr × Obj)} {a b c d e : PySem.Str} {t1 t2 t3 t4 t5 u1 u2 u3 u4 u5 : Tok} {n1 n2 : Nat} {Q : Value → Shared → Prop}
    (N : News h₀ L s.heap news) (m1 : (d1, listOf #[.str a t1, .str b t2, .str c t3, .str d t4, .str e t5] n1) ∈ news) (m2 : (d2, listOf #[.str a u1, .str b u2, .str c u3, .str d u4, .str e u5] n2) ∈ news)
    (hs : SeqAt.shaped (.list [.str a, .str b, .str c, .str d, .str e]) = true) (hu : A.units + 64 < cLine) (h : Q (.bool true) s) : wpAny (model prog w) A (compareOp .Eq (.ref d1) (.ref d2)) Q E s := by
  have r1 := reads_list_at (N.get m1) rfl rfl (xs := [.str a, .str b, .str c, .str d, .str e]) (.cons (.str _ _) (.cons (.str _ _) (.cons (.str _ _) (.cons (.str _ _) (.cons (.str _ _) .nil)))))
  have r2 := reads_list_at (N.get m2) rfl rfl (xs := [.str a, .str b, .str c, .str d, .str e]) (.cons (.str _ _) (.cons (.str _ _) (.cons (.str _ _) (.cons (.str _ _) (.cons (.str _ _) .nil)))))
  refine eq_dataH r1 r2 hs hs hu ?_
  rw [PySem.SeqAt.eqv_refl _ (PySem.SeqAt.canLay_of_shaped hs)]
  exact h
theorem few_size {vs : List Value} (h : vs.length ≤ 200) : vs.toArray.size ≤ sizeLine := by rw [List.size_toArray, sizeLine_eq]; omega
local macro_rules | `(tactic| walk_at "subscriptTail Name Slice ref ref") => `(tactic| (k_here; (with_reducible show wpAny _ _ (subscriptTail _ (PySem.Expr.Slice _ _ none _) (Value.ref _) (Value.ref _)) _ _ _); k_dflt (refine' kmk_slice_lit ?F ?N ?l ?p ?q ?e ?_ ?s ?t ?z; (case F => k_asm); (case N => k_asm); (case l => kmk_list); (case p => kmk_part); (case q => kmk_part); (case e => exact pick5); (case s => with_unfolding_all rfl); (case t => kmk_pure); (case z => exact few_size (by assumption))); intro D' h' F' N' l1; (try k_lt l1); (try k_sweep)))
/-- a mark at which the walk halts -/
noncomputable def HMark : Prop := True
local macro_rules | `(tactic| walk_at "eval BinOp") => `(tactic| (k_here; (rename HMark => hmk); refine halt ?_))
local macro_rules | `(tactic| walk_at "eval IfExp") => `(tactic| (k_here; (rename HMark => hmk); refine halt ?_))
/-- what is told of a call from the law's own frame -/
noncomputable def Tell0 (w : World) (D U : Nat) (f : Addr) (args : List Value) (news : List (Addr × Obj)) (post : Value → List (Addr × Obj) → Prop) : Prop :=
  ∀ {p : Program} {loose : List Str} {mean : ExcName → Option Value} {mg mb : Str → Option Value} (dp un : Nat) (gd : Option (List Code)) (cn : Str) (cs : Scope) (a : Addr) (ccd : Value) (cl : List (Str × Addr))
    (A₀ : Around) (base h₀ : Heap) (L : Addr) (m : Str → Option Value) (s : Shared) (Q E : Value → Shared → Prop),
    Below A₀ base [] h₀ → Fr h₀ L s.heap m → (Mine.KK w.params).In h₀ → News h₀ L s.heap news → Top p loose mean mg mb h₀ → (Mine.KK w.params).In base → Top p loose mean mg mb base → cs.kind = .function → dp + D < recursionLimit → un + U < cLine →
    (∀ r news' h' tk', post r news' → Fr h₀ L h' m → News h₀ L h' news' → Q r { s with heap := h', toks := tk' }) →
    wpAny (model PySem.Challenge.rw_qd0102_01.prog w) (ktrTop dp un gd cn cs L a ccd cl []) (call (.ref f) args) Q E s
theorem TellS.use {w : World} {D U : Nat} {f : Addr} {args : List Value} {news : List (Addr × Obj)} {post : Value → List (Addr × Obj) → Prop} {p : Program} {loose : List Str} {mean : ExcName → Option Value} {mg mb : Str → Option Value} {dp un : Nat} {gd : Option (List Code)} {cn : Str} {cs : Scope} {a : Addr} {ccd : Value} {outer : List Env}
    {A₀ : Around} {base h₀ : Heap} {L : Addr} {m : Str → Option Value} {s : Shared} {Q E : Value → Shared → Prop}
    (hT : TellS w D U f args news post) (B : Below A₀ base outer h₀) (F : Fr h₀ L s.heap m) (X : (Mine.KK w.params).In h₀) (N : News h₀ L s.heap news) (T : Top p loose mean mg mb h₀) (XB : (Mine.KK w.params).In base) (TB : Top p loose mean mg mb base) (DD : KtsDicts (outer.filterMap (·.frame)) h₀) (hk : cs.kind = .function) (hd : dp + D < recursionLimit) (hu : un + U < cLine)
    (ret : ∀ r news' h' tk' h₀', post r news' → KtsTurn (outer.filterMap (·.frame)) h₀ h₀' → Fr h₀' L h' m → News h₀' L h' news' → Below A₀ base outer h₀' → (Mine.KK w.params).In h₀' → Top p loose mean mg mb h₀' → KtsDicts (outer.filterMap (·.frame)) h₀' → Q r { s with heap := h', toks := tk' }) :
    wpAny (model PySem.Challenge.rw_qd0102_01.prog w) (ktrTop dp un gd cn cs L a ccd [] outer) (call (.ref f) args) Q E s := hT _ _ _ _ _ _ _ _ _ _ _ _ _ _ _ _ B F X N T XB TB DD hk hd hu ret
/-- the tokens of a spec shown -/
noncomputable def toksOf (nm : PySem.Str) (ks : List Cl) : List (PySem.Str × PySem.Str) := wrd (PySem.Str.ofString "SELECT") :: wrd nm :: (ks.flatMap Cl.words ++ [dot])
noncomputable abbrev textOf (nm : PySem.Str) (σ : Sp) : PySem.Str := showText nm σ.path σ.org σ.acc σ.key σ.rel σ.stat σ.al
/-- what is asked of a text shown -/
structure XF (x nm : PySem.Str) (σ : Sp) (ys : List PySem.Str) : Prop where
  split : Txt.split x (PySem.Str.ofString " ") = ys
  size : x.length + 2 ≤ sizeLine
  tail : (Txt.slice x (some (-2)) none != PySem.Str.ofString " .") = false
  dbl : (Builtin.Str.occurrences x (PySem.Str.ofString "  ") 0 x.length 1).isEmpty = true
  hd5 : ∃ rest, ys = PySem.Str.ofString "SELECT" :: nm :: PySem.Str.ofString "ASSIGN" :: PySem.Str.ofString "TO" :: (PySem.Str.ofString "\"" ++ σ.path ++ PySem.Str.ofString "\"") :: rest
  cR : countIn (.str (PySem.Str.ofString "RELATIVE")) (ys.map PyData.str) = (if (σ.rel != PySem.Str.ofString "") = true then 1 else 0) + (if (σ.org == PySem.Str.ofString "relative") = true then 1 else 0)
  cS : countIn (.str (PySem.Str.ofString "STATUS")) (ys.map PyData.str) = (if (σ.stat != PySem.Str.ofString "") = true then 1 else 0)
  cA : countIn (.str (PySem.Str.ofString "ALTERNATE")) (ys.map PyData.str) = σ.al.length
  few : ys.length ≤ 200
  five : SeqAt.shaped (.list [.str (PySem.Str.ofString "SELECT"), .str nm, .str (PySem.Str.ofString "ASSIGN"), .str (PySem.Str.ofString "TO"), .str (PySem.Str.ofString "\"" ++ σ.path ++ PySem.Str.ofString "\"")]) = true
  cC : countIn (.str (PySem.Str.ofString "ACCESS")) (ys.map PyData.str) = 1
/-- what is told of a spec -/
noncomputable def toldD (nm : PySem.Str) (σ : Sp) : PyData := .tuple [.str nm, .str σ.path, .str σ.org, .str σ.acc, .str σ.key, .tuple (pairsL σ.al), .str σ.rel, .str σ.stat, .bool false, .tuple []]
/-- what is asked of a spec, in plain words -/
structure Right (nm : PySem.Str) (σ : Sp) (ks : List Cl) : Prop where
  path : Txt.replace σ.path "\"" "\"\"" = σ.path
  l1 : σ.path.length ≤ 100
  l2 : nm.length ≤ 100
  l3 : σ.org.length ≤ 100
  l4 : σ.acc.length ≤ 100
  l5 : σ.key.length ≤ 100
  l6 : σ.rel.length ≤ 100
  l7 : σ.stat.length ≤ 100
  l8 : ∀ q ∈ σ.al, q.1.length ≤ 100
  l9 : σ.al.length ≤ 50
  weight : ((showParts nm σ.path σ.org σ.acc σ.key σ.rel σ.stat σ.al).map (·.length)).sum + (showParts nm σ.path σ.org σ.acc σ.key σ.rel σ.stat σ.al).length ≤ 1048576
  xf : XF (textOf nm σ) nm σ ((toksOf nm ks).map raw)
  len : (toksOf nm ks).length ≤ 200
  wok : ∀ q ∈ toksOf nm ks, WOk q
  free : FreeName nm
  opt : ((PySem.Str.ofString "word") == (PySem.Str.ofString "word") && nm == (PySem.Str.ofString "OPTIONAL")) = false
  oks : ClsOk sp0 [] ks
  back : ks.foldl Cl.upd sp0 = σ
  al : (σ.al.all fun p => PyData.strOk p.1) = true
  told : SeqAt.shaped (toldD nm σ) = true
  agree : whole σ.path σ.org σ.acc σ.key σ.rel σ.al = together σ.org σ.acc σ.key σ.rel σ.al
theorem ne_told {prog : Program} {w : World} {A : Around} {E : Value → Shared → Prop} {s : Shared} {h₀ : Heap} {L q q' ta ta' tr tr' : Addr} {news : List (Addr × Obj)} {ps ps' : List Value} {nm : PySem.Str} {σ : Sp} {u0 u1 u2 u3 u4 u6 u7 w0 w1 w2 w3 w4 w6 w7 : Tok} {Q : Value → Shared → Prop}
    (N : News h₀ L s.heap news) (hq : (q, tupO [.str nm u0, .str σ.path u1, .str σ.org u2, .str σ.acc u3, .str σ.key u4, .ref ta, .str σ.rel u6, .str σ.stat u7, .bool false, .ref tr]) ∈ news) (hta : (ta, tupO ps) ∈ news) (hps : PairsAt news ps σ.al) (htr : (tr, tupO []) ∈ news)
    (hq' : (q', tupO [.str nm w0, .str σ.path w1, .str σ.org w2, .str σ.acc w3, .str σ.key w4, .ref ta', .str σ.rel w6, .str σ.stat w7, .bool false, .ref tr']) ∈ news) (hta' : (ta', tupO ps') ∈ news) (hps' : PairsAt news ps' σ.al) (htr' : (tr', tupO []) ∈ news)
    (hs : SeqAt.shaped (toldD nm σ) = true) (hu : A.units + 64 < cLine) (h : Q (.bool false) s) :
    wpAny (model prog w) A (compareOp .NotEq (.ref q) (.ref q')) Q E s := by
  obtain ⟨as, ra⟩ := hps.reads N
  obtain ⟨as', ra'⟩ := hps'.reads N
  have r1 := reads_tuple_at (N.get hq) rfl rfl (xs := [.str nm, .str σ.path, .str σ.org, .str σ.acc, .str σ.key, .tuple (pairsL σ.al), .str σ.rel, .str σ.stat, .bool false, .tuple []]) (.cons (.str _ _) (.cons (.str _ _) (.cons (.str _ _) (.cons (.str _ _) (.cons (.str _ _) (.cons (reads_tuple_at (N.get hta) rfl rfl (by simpa using ra)) (.cons (.str _ _) (.cons (.str _ _) (.cons (.bool _) (.cons (reads_tuple_at (N.get htr) rfl rfl .nil) .nil))))))))))
  have r2 := reads_tuple_at (N.get hq') rfl rfl (xs := [.str nm, .str σ.path, .str σ.org, .str σ.acc, .str σ.key, .tuple (pairsL σ.al), .str σ.rel, .str σ.stat, .bool false, .tuple []]) (.cons (.str _ _) (.cons (.str _ _) (.cons (.str _ _) (.cons (.str _ _) (.cons (.str _ _) (.cons (reads_tuple_at (N.get hta') rfl rfl (by simpa using ra')) (.cons (.str _ _) (.cons (.str _ _) (.cons (.bool _) (.cons (reads_tuple_at (N.get htr') rfl rfl .nil) .nil))))))))))
  refine ne_dataH r1 r2 hs hs hu ?_
  have e := PySem.SeqAt.eqv_refl (toldD nm σ) (PySem.SeqAt.canLay_of_shaped hs)
  unfold toldD at e
  rw [e]
  exact h
noncomputable def IntMid (n : Int) (s : Shared) (v : Value) (s₁ : Shared) : Prop := ∃ t k, v = .int n t ∧ s₁ = { s with toks := k }
theorem pairsAt_len {O : List (Addr × Obj)} {ps : List Value} {al : List (PySem.Str × Bool)} (h : PairsAt O ps al) : ps.length = al.length := by
  induction h with
  | nil => rfl
  | cons _ _ ih => simp [ih]
theorem ev_mid {prog : Program} {w : World} {A : Around} {E : Value → Shared → Prop} {s : Shared} {e : PySem.Expr} {env : PySem.Env} {Q : Value → Shared → Prop} (n : Int)
    (h1 : wpAny (model prog w) A (eval e env) (IntMid n s) E s) (h2 : ∀ t k, Q (.int n t) { s with toks := k }) : wpAny (model prog w) A (eval e env) Q E s :=
  wpAny_mono h1 (fun v s₁ h => by obtain ⟨t, k, rfl, rfl⟩ := h; exact h2 t k) fun _ _ x => x
theorem ne_int_same {prog : Program} {w : World} {A : Around} {E : Value → Shared → Prop} {s : Shared} {n : Int} {t u : Tok} {Q : Value → Shared → Prop} (h : Q (.bool false) s) : wpAny (model prog w) A (compareOp .NotEq (.int n t) (.int n u)) Q E s := ne_int (by rw [show (n != n) = false by simp]; exact h)
theorem count_is {prog : Program} {w : World} {A : Around} {E : Value → Shared → Prop} {s : Shared} {l : Addr} {vs : List Value} {ys : List PySem.Str} {k : PySem.Str} {t : Tok} {n : Int} {Q : Value → Shared → Prop}
    (hl : s.heap.IsList l vs.toArray) (hi : StrsAre vs ys) (hc : countIn (.str k) (ys.map PyData.str) = n)
    (h : Q (.int n s.toks) { s with toks := s.toks + 1 }) : wpAny (model prog w) A (call (.builtin "list.count") [.ref l, .str k t]) Q E s := count_list_strs hl hi (by rw [hc]; exact h)
theorem t_right {w : World} {O : List (Addr × Obj)} {sp sd ta tr : Addr} {aa : SC} {u0 u1 u2 u3 u4 u6 u7 : Tok} {nm : PySem.Str} {σ : Sp} {ks : List Cl} {ps : List Value} (P : Right nm σ ks)
    (hsp : (sp, instObj 144 sd) ∈ O) (hsd : (sd, SD w.params aa (.str nm u0) (.str σ.path u1) (.str σ.org u2) (.str σ.acc u3) (.str σ.key u4) (.ref ta) (.str σ.rel u6) (.str σ.stat u7) (.bool false) (.ref tr)) ∈ O) (hta : (ta, tupO ps) ∈ O) (htr : (tr, tupO []) ∈ O) (hps : PairsAt O ps σ.al) :
    Tell0 w 22 700 429 [.ref sp] O (fun x news' => x = .bool true ∧ news' = O) := by
  intro p loose mean mg mb dp un gd cn cs a ccd cl A₀ base h₀ L m s Q E B F X N T XB TB hk hdp hun ret
  refine wpAny_call ?_
  revert X N; k_fill; intro X N
  k_dflt (refine' code_defE (binds := [("spec", .ref sp)]) ?k1 ?k2 ?k3 ?k4 ?k5 ?kA ?kF ?kK ?k6 ?k7 ?k8 ?k9 ?kB ?_ ?c2 ?c3 ?c4 ?c5; (case kA => exact rfl); (case kF => exact rfl); (case kK => exact hk); (case k2 => k_asm); (case k1 => k_asm); (case k3 => k_asm); (case k4 => k_asm); (case k5 => k_asm); (case k6 => exact k_law_is_right _); (case k7 => k_is); (case k8 => ktr_room); (case k9 => first | exact BindsTo.of_eq rfl | exact binds_KK (by k_in) rfl (by k_is) rfl rfl); (case kB => exact locs rfl); (case c2 => exact rfl); (case c3 => exact rfl); (case c4 => exact rfl); (case c5 => decide); k_whole; intro g' L' h' FG' F' N' B' X' T' D'; (try dsimp only); (try k_fold))
  have hok := P.al
  (walk_at "kF"; repeat' ((first | (refine' Tell.use (t_goes ?mC ?cP ?cK) ?k1 ?k2 ?k3 ?k4 ?k5 ?kK ?kd ?ku ?_; (case k1 | k2 | k3 | k4 | k5 => k_asm); (case mC => walk_at "mM"); (case cP => first | assumption | exact PairsAt.mono (by assumption) (by walk_at "mS")); (case cK => assumption); (case kK => first | exact rfl | assumption); (case kd => ktr_room); (case ku => ktr_units); k_whole; intro r9 n9 h9 tk9 e9 F9 N9; (obtain ⟨e8, e7⟩ := e9); (subst e8); (subst e7); walk_at "mE") | (refine' Tell.use (t_told ?mC ?mD ?mE) ?k1 ?k2 ?k3 ?k4 ?k5 ?kK ?kd ?ku ?_; (case k1 | k2 | k3 | k4 | k5 => k_asm); (case mC => walk_at "mM"); (case mD => walk_at "mM"); (case mE => walk_at "mM"); (case kK => first | exact rfl | assumption); (case kd => ktr_room); (case ku => ktr_units); k_whole; intro r9 n9 h9 tk9 e9 F9 N9; (obtain ⟨q9, e8, e7⟩ := e9); (subst e8); (subst e7); walk_at "mE")); walk_at "kF"))
  refine Tell.use (t_show hsp hsd hta hps P.path P.l1 P.l2 P.l3 P.l4 P.l5 P.l6 P.l7 P.l8 P.l9 P.weight) (by k_asm) (by k_asm) (by k_asm) (by k_asm) (by k_asm) rfl (by ktr_room) (by ktr_units) ?_
  intro r1 n1 h1 tk1 e1 F1 N1
  obtain ⟨v1, rfl, rfl⟩ := e1
  have H : ∀ n, TellS w 12 400 415 [.str (textOf nm σ) v1] n (HeardPost n nm σ) := by
    intro n
    have h8 : TellS w 12 400 415 [.str (textOf nm σ) v1] n (HeardPost n nm (ks.foldl Cl.upd sp0)) := @t_heard w n (textOf nm σ) nm v1 ks P.xf.split P.len P.xf.size P.wok P.free P.opt P.oks (by rw [P.back]; exact P.al)
    rw [P.back] at h8
    exact @h8
  have hagree := P.agree
  have htd := P.told
  have hal := P.l9
  have hpl := P.l1
  have hsize := P.xf.size
  have X9 := P.xf
  clear P
  unfold textOf at H X9 hsize
  revert H X9 hsize
  generalize showText nm σ.path σ.org σ.acc σ.key σ.rel σ.stat σ.al = x
  generalize (toksOf nm ks).map raw = ys
  intro H hsize X9
  rcases Bool.eq_false_or_eq_true (together σ.org σ.acc σ.key σ.rel σ.al) with ht | ht
  all_goals rw [ht] at hagree
  all_goals (walk_at "kF"; repeat' ((first | (refine' Tell.use (t_goes ?mC ?cP ?cK) ?k1 ?k2 ?k3 ?k4 ?k5 ?kK ?kd ?ku ?_; (case k1 | k2 | k3 | k4 | k5 => k_asm); (case mC => walk_at "mM"); (case cP => first | assumption | exact PairsAt.mono (by assumption) (by walk_at "mS")); (case cK => assumption); (case kK => first | exact rfl | assumption); (case kd => ktr_room); (case ku => ktr_units); k_whole; intro r9 n9 h9 tk9 e9 F9 N9; (obtain ⟨e8, e7⟩ := e9); (subst e8); (subst e7); walk_at "mE") | (refine' Tell.use (t_told ?mC ?mD ?mE) ?k1 ?k2 ?k3 ?k4 ?k5 ?kK ?kd ?ku ?_; (case k1 | k2 | k3 | k4 | k5 => k_asm); (case mC => walk_at "mM"); (case mD => walk_at "mM"); (case mE => walk_at "mM"); (case kK => first | exact rfl | assumption); (case kd => ktr_room); (case ku => ktr_units); k_whole; intro r9 n9 h9 tk9 e9 F9 N9; (obtain ⟨q9, e8, e7⟩ := e9); (subst e8); (subst e7); walk_at "mE")); walk_at "kF"))
  all_goals (refine TellS.use (@H _) (by k_asm) (by k_asm) (by k_asm) (by k_asm) (by k_asm) XB TB D' rfl (by ktr_room) (by ktr_units) ?_; intro r9 n9 h9 tk9 g9 e9 K9 F9 N9 B9 Y9 T9 D9; obtain ⟨sub9, e9⟩ := e9; have hsp9 := sub9 _ (List.mem_cons_of_mem _ hsp); have hsd9 := sub9 _ (List.mem_cons_of_mem _ hsd); have hta8 := sub9 _ (List.mem_cons_of_mem _ hta))
  · obtain ⟨-, q, ta9, tr9, ps9, w0, w1, w2, w3, w4, w6, w7, rfl, hq9, hta9, hps9, htr9⟩ := e9.resolve_right (fun h => by rw [h.1] at hagree; cases hagree)
    have htl := X9.tail
    have hdb := X9.dbl
    have hspl := X9.split
    (walk_at "kF"; repeat' ((first | (refine' Tell.use (t_goes ?mC ?cP ?cK) ?k1 ?k2 ?k3 ?k4 ?k5 ?kK ?kd ?ku ?_; (case k1 | k2 | k3 | k4 | k5 => k_asm); (case mC => walk_at "mM"); (case cP => first | assumption | exact PairsAt.mono (by assumption) (by walk_at "mS")); (case cK => assumption); (case kK => first | exact rfl | assumption); (case kd => ktr_room); (case ku => ktr_units); k_whole; intro r9 n9 h9 tk9 e9 F9 N9; (obtain ⟨e8, e7⟩ := e9); (subst e8); (subst e7); walk_at "mE") | (refine' Tell.use (t_told ?mC ?mD ?mE) ?k1 ?k2 ?k3 ?k4 ?k5 ?kK ?kd ?ku ?_; (case k1 | k2 | k3 | k4 | k5 => k_asm); (case mC => walk_at "mM"); (case mD => walk_at "mM"); (case mE => walk_at "mM"); (case kK => first | exact rfl | assumption); (case kd => ktr_room); (case ku => ktr_units); k_whole; intro r9 n9 h9 tk9 e9 F9 N9; (obtain ⟨q9, e8, e7⟩ := e9); (subst e8); (subst e7); walk_at "mE")); walk_at "kF"))
    show wpAny _ _ (compareOp CmpOp.NotEq (Value.ref _) (Value.ref _)) _ _ _
    refine ne_told (by k_asm) hq9 hta9 hps9 htr9 (sub9 _ (List.mem_cons_self ..)) (sub9 _ (List.mem_cons_of_mem _ hta)) (hps.mono fun p hp => sub9 _ (List.mem_cons_of_mem _ hp)) (sub9 _ (List.mem_cons_of_mem _ htr)) htd (by ktr_units) ?_
    (walk_at "kF"; repeat' ((first | (refine' Tell.use (t_goes ?mC ?cP ?cK) ?k1 ?k2 ?k3 ?k4 ?k5 ?kK ?kd ?ku ?_; (case k1 | k2 | k3 | k4 | k5 => k_asm); (case mC => walk_at "mM"); (case cP => first | assumption | exact PairsAt.mono (by assumption) (by walk_at "mS")); (case cK => assumption); (case kK => first | exact rfl | assumption); (case kd => ktr_room); (case ku => ktr_units); k_whole; intro r9 n9 h9 tk9 e9 F9 N9; (obtain ⟨e8, e7⟩ := e9); (subst e8); (subst e7); walk_at "mE") | (refine' Tell.use (t_told ?mC ?mD ?mE) ?k1 ?k2 ?k3 ?k4 ?k5 ?kK ?kd ?ku ?_; (case k1 | k2 | k3 | k4 | k5 => k_asm); (case mC => walk_at "mM"); (case mD => walk_at "mM"); (case mE => walk_at "mM"); (case kK => first | exact rfl | assumption); (case kd => ktr_room); (case ku => ktr_units); k_whole; intro r9 n9 h9 tk9 e9 F9 N9; (obtain ⟨q9, e8, e7⟩ := e9); (subst e8); (subst e7); walk_at "mE")); walk_at "kF"))
    show wpAny _ _ (call (Value.builtin _) [Value.ref _, Value.str _ _]) _ _ _
    clear htl hdb hspl
    have hmk : HMark := trivial
    obtain ⟨n, hn⟩ : ∃ n : Int, n = (if (σ.rel != PySem.Str.ofString "") = true then 1 else 0) + (if (σ.org == PySem.Str.ofString "relative") = true then 1 else 0) := ⟨_, rfl⟩
    refine count_is (by is_list) (by assumption) (X9.cR.trans hn.symm) ?_
    (walk_at "kF"; repeat' ((first | (refine' Tell.use (t_goes ?mC ?cP ?cK) ?k1 ?k2 ?k3 ?k4 ?k5 ?kK ?kd ?ku ?_; (case k1 | k2 | k3 | k4 | k5 => k_asm); (case mC => walk_at "mM"); (case cP => first | assumption | exact PairsAt.mono (by assumption) (by walk_at "mS")); (case cK => assumption); (case kK => first | exact rfl | assumption); (case kd => ktr_room); (case ku => ktr_units); k_whole; intro r9 n9 h9 tk9 e9 F9 N9; (obtain ⟨e8, e7⟩ := e9); (subst e8); (subst e7); walk_at "mE") | (refine' Tell.use (t_told ?mC ?mD ?mE) ?k1 ?k2 ?k3 ?k4 ?k5 ?kK ?kd ?ku ?_; (case k1 | k2 | k3 | k4 | k5 => k_asm); (case mC => walk_at "mM"); (case mD => walk_at "mM"); (case mE => walk_at "mM"); (case kK => first | exact rfl | assumption); (case kd => ktr_room); (case ku => ktr_units); k_whole; intro r9 n9 h9 tk9 e9 F9 N9; (obtain ⟨q9, e8, e7⟩ := e9); (subst e8); (subst e7); walk_at "mE")); walk_at "kF"))
    show wpAny _ _ (eval _ _) _ _ _
    refine ev_mid n ?_ ?_
    · rename HMark => hmk8
      clear X9 H hmk8
      rcases Bool.eq_false_or_eq_true (σ.rel != PySem.Str.ofString "") with b1 | b1
      all_goals rcases Bool.eq_false_or_eq_true (σ.org == PySem.Str.ofString "relative") with b2 | b2
      all_goals rw [b1, b2] at hn
      all_goals simp at hn
      all_goals subst hn
      all_goals (walk_at "kF"; repeat' ((first | (refine' Tell.use (t_goes ?mC ?cP ?cK) ?k1 ?k2 ?k3 ?k4 ?k5 ?kK ?kd ?ku ?_; (case k1 | k2 | k3 | k4 | k5 => k_asm); (case mC => walk_at "mM"); (case cP => first | assumption | exact PairsAt.mono (by assumption) (by walk_at "mS")); (case cK => assumption); (case kK => first | exact rfl | assumption); (case kd => ktr_room); (case ku => ktr_units); k_whole; intro r9 n9 h9 tk9 e9 F9 N9; (obtain ⟨e8, e7⟩ := e9); (subst e8); (subst e7); walk_at "mE") | (refine' Tell.use (t_told ?mC ?mD ?mE) ?k1 ?k2 ?k3 ?k4 ?k5 ?kK ?kd ?ku ?_; (case k1 | k2 | k3 | k4 | k5 => k_asm); (case mC => walk_at "mM"); (case mD => walk_at "mM"); (case mE => walk_at "mM"); (case kK => first | exact rfl | assumption); (case kd => ktr_room); (case ku => ktr_units); k_whole; intro r9 n9 h9 tk9 e9 F9 N9; (obtain ⟨q9, e8, e7⟩ := e9); (subst e8); (subst e7); walk_at "mE")); walk_at "kF"))
      all_goals exact ⟨_, _, rfl, rfl⟩
    intro t5 k5
    (walk_at "kF"; repeat' ((first | (refine' Tell.use (t_goes ?mC ?cP ?cK) ?k1 ?k2 ?k3 ?k4 ?k5 ?kK ?kd ?ku ?_; (case k1 | k2 | k3 | k4 | k5 => k_asm); (case mC => walk_at "mM"); (case cP => first | assumption | exact PairsAt.mono (by assumption) (by walk_at "mS")); (case cK => assumption); (case kK => first | exact rfl | assumption); (case kd => ktr_room); (case ku => ktr_units); k_whole; intro r9 n9 h9 tk9 e9 F9 N9; (obtain ⟨e8, e7⟩ := e9); (subst e8); (subst e7); walk_at "mE") | (refine' Tell.use (t_told ?mC ?mD ?mE) ?k1 ?k2 ?k3 ?k4 ?k5 ?kK ?kd ?ku ?_; (case k1 | k2 | k3 | k4 | k5 => k_asm); (case mC => walk_at "mM"); (case mD => walk_at "mM"); (case mE => walk_at "mM"); (case kK => first | exact rfl | assumption); (case kd => ktr_room); (case ku => ktr_units); k_whole; intro r9 n9 h9 tk9 e9 F9 N9; (obtain ⟨q9, e8, e7⟩ := e9); (subst e8); (subst e7); walk_at "mE")); walk_at "kF"))
    show wpAny _ _ (compareOp .NotEq (.int n _) (.int n _)) _ _ _
    refine ne_int_same ?_
    (walk_at "kF"; repeat' ((first | (refine' Tell.use (t_goes ?mC ?cP ?cK) ?k1 ?k2 ?k3 ?k4 ?k5 ?kK ?kd ?ku ?_; (case k1 | k2 | k3 | k4 | k5 => k_asm); (case mC => walk_at "mM"); (case cP => first | assumption | exact PairsAt.mono (by assumption) (by walk_at "mS")); (case cK => assumption); (case kK => first | exact rfl | assumption); (case kd => ktr_room); (case ku => ktr_units); k_whole; intro r9 n9 h9 tk9 e9 F9 N9; (obtain ⟨e8, e7⟩ := e9); (subst e8); (subst e7); walk_at "mE") | (refine' Tell.use (t_told ?mC ?mD ?mE) ?k1 ?k2 ?k3 ?k4 ?k5 ?kK ?kd ?ku ?_; (case k1 | k2 | k3 | k4 | k5 => k_asm); (case mC => walk_at "mM"); (case mD => walk_at "mM"); (case mE => walk_at "mM"); (case kK => first | exact rfl | assumption); (case kd => ktr_room); (case ku => ktr_units); k_whole; intro r9 n9 h9 tk9 e9 F9 N9; (obtain ⟨q9, e8, e7⟩ := e9); (subst e8); (subst e7); walk_at "mE")); walk_at "kF"))
    show wpAny _ _ (call (Value.builtin _) [Value.ref _, Value.str _ _]) _ _ _
    obtain ⟨n', hn'⟩ : ∃ n : Int, n = (if (σ.stat != PySem.Str.ofString "") = true then 1 else 0) := ⟨_, rfl⟩
    refine count_is (by is_list) (by assumption) (X9.cS.trans hn'.symm) ?_
    (walk_at "kF"; repeat' ((first | (refine' Tell.use (t_goes ?mC ?cP ?cK) ?k1 ?k2 ?k3 ?k4 ?k5 ?kK ?kd ?ku ?_; (case k1 | k2 | k3 | k4 | k5 => k_asm); (case mC => walk_at "mM"); (case cP => first | assumption | exact PairsAt.mono (by assumption) (by walk_at "mS")); (case cK => assumption); (case kK => first | exact rfl | assumption); (case kd => ktr_room); (case ku => ktr_units); k_whole; intro r9 n9 h9 tk9 e9 F9 N9; (obtain ⟨e8, e7⟩ := e9); (subst e8); (subst e7); walk_at "mE") | (refine' Tell.use (t_told ?mC ?mD ?mE) ?k1 ?k2 ?k3 ?k4 ?k5 ?kK ?kd ?ku ?_; (case k1 | k2 | k3 | k4 | k5 => k_asm); (case mC => walk_at "mM"); (case mD => walk_at "mM"); (case mE => walk_at "mM"); (case kK => first | exact rfl | assumption); (case kd => ktr_room); (case ku => ktr_units); k_whole; intro r9 n9 h9 tk9 e9 F9 N9; (obtain ⟨q9, e8, e7⟩ := e9); (subst e8); (subst e7); walk_at "mE")); walk_at "kF"))
    show wpAny _ _ (eval _ _) _ _ _
    refine ev_mid n' ?_ ?_
    · rename HMark => hmk8
      clear X9 H hmk8
      rcases Bool.eq_false_or_eq_true (σ.stat != PySem.Str.ofString "") with b1 | b1
      all_goals rw [b1] at hn'
      all_goals simp at hn'
      all_goals subst hn'
      all_goals (walk_at "kF"; repeat' ((first | (refine' Tell.use (t_goes ?mC ?cP ?cK) ?k1 ?k2 ?k3 ?k4 ?k5 ?kK ?kd ?ku ?_; (case k1 | k2 | k3 | k4 | k5 => k_asm); (case mC => walk_at "mM"); (case cP => first | assumption | exact PairsAt.mono (by assumption) (by walk_at "mS")); (case cK => assumption); (case kK => first | exact rfl | assumption); (case kd => ktr_room); (case ku => ktr_units); k_whole; intro r9 n9 h9 tk9 e9 F9 N9; (obtain ⟨e8, e7⟩ := e9); (subst e8); (subst e7); walk_at "mE") | (refine' Tell.use (t_told ?mC ?mD ?mE) ?k1 ?k2 ?k3 ?k4 ?k5 ?kK ?kd ?ku ?_; (case k1 | k2 | k3 | k4 | k5 => k_asm); (case mC => walk_at "mM"); (case mD => walk_at "mM"); (case mE => walk_at "mM"); (case kK => first | exact rfl | assumption); (case kd => ktr_room); (case ku => ktr_units); k_whole; intro r9 n9 h9 tk9 e9 F9 N9; (obtain ⟨q9, e8, e7⟩ := e9); (subst e8); (subst e7); walk_at "mE")); walk_at "kF"))
      all_goals exact ⟨_, _, rfl, rfl⟩
    intro t6 k6
    (walk_at "kF"; repeat' ((first | (refine' Tell.use (t_goes ?mC ?cP ?cK) ?k1 ?k2 ?k3 ?k4 ?k5 ?kK ?kd ?ku ?_; (case k1 | k2 | k3 | k4 | k5 => k_asm); (case mC => walk_at "mM"); (case cP => first | assumption | exact PairsAt.mono (by assumption) (by walk_at "mS")); (case cK => assumption); (case kK => first | exact rfl | assumption); (case kd => ktr_room); (case ku => ktr_units); k_whole; intro r9 n9 h9 tk9 e9 F9 N9; (obtain ⟨e8, e7⟩ := e9); (subst e8); (subst e7); walk_at "mE") | (refine' Tell.use (t_told ?mC ?mD ?mE) ?k1 ?k2 ?k3 ?k4 ?k5 ?kK ?kd ?ku ?_; (case k1 | k2 | k3 | k4 | k5 => k_asm); (case mC => walk_at "mM"); (case mD => walk_at "mM"); (case mE => walk_at "mM"); (case kK => first | exact rfl | assumption); (case kd => ktr_room); (case ku => ktr_units); k_whole; intro r9 n9 h9 tk9 e9 F9 N9; (obtain ⟨q9, e8, e7⟩ := e9); (subst e8); (subst e7); walk_at "mE")); walk_at "kF"))
    show wpAny _ _ (compareOp .NotEq (.int n' _) (.int n' _)) _ _ _
    refine ne_int_same ?_
    (walk_at "kF"; repeat' ((first | (refine' Tell.use (t_goes ?mC ?cP ?cK) ?k1 ?k2 ?k3 ?k4 ?k5 ?kK ?kd ?ku ?_; (case k1 | k2 | k3 | k4 | k5 => k_asm); (case mC => walk_at "mM"); (case cP => first | assumption | exact PairsAt.mono (by assumption) (by walk_at "mS")); (case cK => assumption); (case kK => first | exact rfl | assumption); (case kd => ktr_room); (case ku => ktr_units); k_whole; intro r9 n9 h9 tk9 e9 F9 N9; (obtain ⟨e8, e7⟩ := e9); (subst e8); (subst e7); walk_at "mE") | (refine' Tell.use (t_told ?mC ?mD ?mE) ?k1 ?k2 ?k3 ?k4 ?k5 ?kK ?kd ?ku ?_; (case k1 | k2 | k3 | k4 | k5 => k_asm); (case mC => walk_at "mM"); (case mD => walk_at "mM"); (case mE => walk_at "mM"); (case kK => first | exact rfl | assumption); (case kd => ktr_room); (case ku => ktr_units); k_whole; intro r9 n9 h9 tk9 e9 F9 N9; (obtain ⟨q9, e8, e7⟩ := e9); (subst e8); (subst e7); walk_at "mE")); walk_at "kF"))
    show wpAny _ _ (call (Value.builtin _) [Value.ref _, Value.str _ _]) _ _ _
    refine count_is (by is_list) (by assumption) X9.cA ?_
    (walk_at "kF"; repeat' ((first | (refine' Tell.use (t_goes ?mC ?cP ?cK) ?k1 ?k2 ?k3 ?k4 ?k5 ?kK ?kd ?ku ?_; (case k1 | k2 | k3 | k4 | k5 => k_asm); (case mC => walk_at "mM"); (case cP => first | assumption | exact PairsAt.mono (by assumption) (by walk_at "mS")); (case cK => assumption); (case kK => first | exact rfl | assumption); (case kd => ktr_room); (case ku => ktr_units); k_whole; intro r9 n9 h9 tk9 e9 F9 N9; (obtain ⟨e8, e7⟩ := e9); (subst e8); (subst e7); walk_at "mE") | (refine' Tell.use (t_told ?mC ?mD ?mE) ?k1 ?k2 ?k3 ?k4 ?k5 ?kK ?kd ?ku ?_; (case k1 | k2 | k3 | k4 | k5 => k_asm); (case mC => walk_at "mM"); (case mD => walk_at "mM"); (case mE => walk_at "mM"); (case kK => first | exact rfl | assumption); (case kd => ktr_room); (case ku => ktr_units); k_whole; intro r9 n9 h9 tk9 e9 F9 N9; (obtain ⟨q9, e8, e7⟩ := e9); (subst e8); (subst e7); walk_at "mE")); walk_at "kF"))
    show wpAny _ _ (call (Value.builtin "len") [Value.ref _]) _ _ _
    refine kun_lenT (News.isTup (by k_asm) (List.mem_cons_of_mem _ hta8)) (k := (σ.al.length : Int)) (by have := pairsAt_len hps; simp [this]) (by omega) ?_
    (walk_at "kF"; repeat' ((first | (refine' Tell.use (t_goes ?mC ?cP ?cK) ?k1 ?k2 ?k3 ?k4 ?k5 ?kK ?kd ?ku ?_; (case k1 | k2 | k3 | k4 | k5 => k_asm); (case mC => walk_at "mM"); (case cP => first | assumption | exact PairsAt.mono (by assumption) (by walk_at "mS")); (case cK => assumption); (case kK => first | exact rfl | assumption); (case kd => ktr_room); (case ku => ktr_units); k_whole; intro r9 n9 h9 tk9 e9 F9 N9; (obtain ⟨e8, e7⟩ := e9); (subst e8); (subst e7); walk_at "mE") | (refine' Tell.use (t_told ?mC ?mD ?mE) ?k1 ?k2 ?k3 ?k4 ?k5 ?kK ?kd ?ku ?_; (case k1 | k2 | k3 | k4 | k5 => k_asm); (case mC => walk_at "mM"); (case mD => walk_at "mM"); (case mE => walk_at "mM"); (case kK => first | exact rfl | assumption); (case kd => ktr_room); (case ku => ktr_units); k_whole; intro r9 n9 h9 tk9 e9 F9 N9; (obtain ⟨q9, e8, e7⟩ := e9); (subst e8); (subst e7); walk_at "mE")); walk_at "kF"))
    show wpAny _ _ (compareOp .NotEq (.int (σ.al.length : Int) _) (.int (σ.al.length : Int) _)) _ _ _
    refine ne_int_same ?_
    rename StrsAre _ _ => hSA
    obtain ⟨rest, hd5⟩ := X9.hd5
    have hcC := X9.cC
    have hfive := X9.five
    have hfew := X9.few
    have hz9 := hSA.length
    rw [← hz9] at hfew
    rw [hd5] at hSA hcC
    rename HMark => hmk8
    clear hd5 hz9 hmk8
    obtain ⟨y1, _, rfl, hS1⟩ := strs_cons hSA
    obtain ⟨y2, _, rfl, hS2⟩ := strs_cons hS1
    obtain ⟨y3, _, rfl, hS3⟩ := strs_cons hS2
    obtain ⟨y4, _, rfl, hS4⟩ := strs_cons hS3
    obtain ⟨y5, _, rfl, hS5⟩ := strs_cons hS4
    (walk_at "kF"; repeat' ((first | (refine' Tell.use (t_goes ?mC ?cP ?cK) ?k1 ?k2 ?k3 ?k4 ?k5 ?kK ?kd ?ku ?_; (case k1 | k2 | k3 | k4 | k5 => k_asm); (case mC => walk_at "mM"); (case cP => first | assumption | exact PairsAt.mono (by assumption) (by walk_at "mS")); (case cK => assumption); (case kK => first | exact rfl | assumption); (case kd => ktr_room); (case ku => ktr_units); k_whole; intro r9 n9 h9 tk9 e9 F9 N9; (obtain ⟨e8, e7⟩ := e9); (subst e8); (subst e7); walk_at "mE") | (refine' Tell.use (t_told ?mC ?mD ?mE) ?k1 ?k2 ?k3 ?k4 ?k5 ?kK ?kd ?ku ?_; (case k1 | k2 | k3 | k4 | k5 => k_asm); (case mC => walk_at "mM"); (case mD => walk_at "mM"); (case mE => walk_at "mM"); (case kK => first | exact rfl | assumption); (case kd => ktr_room); (case ku => ktr_units); k_whole; intro r9 n9 h9 tk9 e9 F9 N9; (obtain ⟨q9, e8, e7⟩ := e9); (subst e8); (subst e7); walk_at "mE")); walk_at "kF"))
    show wpAny _ _ (compareOp .Eq (.ref _) (.ref _)) _ _ _
    refine eq_five (by k_asm) (List.mem_cons_of_mem _ (List.mem_cons_self ..)) (List.mem_cons_self ..) hfive (by ktr_units) ?_
    (walk_at "kF"; repeat' ((first | (refine' Tell.use (t_goes ?mC ?cP ?cK) ?k1 ?k2 ?k3 ?k4 ?k5 ?kK ?kd ?ku ?_; (case k1 | k2 | k3 | k4 | k5 => k_asm); (case mC => walk_at "mM"); (case cP => first | assumption | exact PairsAt.mono (by assumption) (by walk_at "mS")); (case cK => assumption); (case kK => first | exact rfl | assumption); (case kd => ktr_room); (case ku => ktr_units); k_whole; intro r9 n9 h9 tk9 e9 F9 N9; (obtain ⟨e8, e7⟩ := e9); (subst e8); (subst e7); walk_at "mE") | (refine' Tell.use (t_told ?mC ?mD ?mE) ?k1 ?k2 ?k3 ?k4 ?k5 ?kK ?kd ?ku ?_; (case k1 | k2 | k3 | k4 | k5 => k_asm); (case mC => walk_at "mM"); (case mD => walk_at "mM"); (case mE => walk_at "mM"); (case kK => first | exact rfl | assumption); (case kd => ktr_room); (case ku => ktr_units); k_whole; intro r9 n9 h9 tk9 e9 F9 N9; (obtain ⟨q9, e8, e7⟩ := e9); (subst e8); (subst e7); walk_at "mE")); walk_at "kF"))
    show wpAny _ _ (call (Value.builtin _) [Value.ref _, Value.str _ _]) _ _ _
    refine count_is (by is_list) (.cons _ _ (.cons _ _ (.cons _ _ (.cons _ _ (.cons _ _ hS5))))) hcC ?_
    (walk_at "kF"; repeat' ((first | (refine' Tell.use (t_goes ?mC ?cP ?cK) ?k1 ?k2 ?k3 ?k4 ?k5 ?kK ?kd ?ku ?_; (case k1 | k2 | k3 | k4 | k5 => k_asm); (case mC => walk_at "mM"); (case cP => first | assumption | exact PairsAt.mono (by assumption) (by walk_at "mS")); (case cK => assumption); (case kK => first | exact rfl | assumption); (case kd => ktr_room); (case ku => ktr_units); k_whole; intro r9 n9 h9 tk9 e9 F9 N9; (obtain ⟨e8, e7⟩ := e9); (subst e8); (subst e7); walk_at "mE") | (refine' Tell.use (t_told ?mC ?mD ?mE) ?k1 ?k2 ?k3 ?k4 ?k5 ?kK ?kd ?ku ?_; (case k1 | k2 | k3 | k4 | k5 => k_asm); (case mC => walk_at "mM"); (case mD => walk_at "mM"); (case mE => walk_at "mM"); (case kK => first | exact rfl | assumption); (case kd => ktr_room); (case ku => ktr_units); k_whole; intro r9 n9 h9 tk9 e9 F9 N9; (obtain ⟨q9, e8, e7⟩ := e9); (subst e8); (subst e7); walk_at "mE")); walk_at "kF"))
    rename News h₀ _ _ _ => lN9
    rename Fr h₀ _ _ _ => lF9
    exact ret _ _ _ _ ⟨rfl, rfl⟩ lF9 (fun p hp => lN9 p (List.mem_cons_of_mem _ (List.mem_cons_of_mem _ (List.mem_cons_of_mem _ (sub9 p (List.mem_cons_of_mem _ hp))))))
  · obtain ⟨-, w9, rfl⟩ := e9.resolve_left (fun h => by rw [h.1] at hagree; cases hagree)
    have htl := X9.tail
    have hdb := X9.dbl
    have hspl := X9.split
    (walk_at "kF"; repeat' ((first | (refine' Tell.use (t_goes ?mC ?cP ?cK) ?k1 ?k2 ?k3 ?k4 ?k5 ?kK ?kd ?ku ?_; (case k1 | k2 | k3 | k4 | k5 => k_asm); (case mC => walk_at "mM"); (case cP => first | assumption | exact PairsAt.mono (by assumption) (by walk_at "mS")); (case cK => assumption); (case kK => first | exact rfl | assumption); (case kd => ktr_room); (case ku => ktr_units); k_whole; intro r9 n9 h9 tk9 e9 F9 N9; (obtain ⟨e8, e7⟩ := e9); (subst e8); (subst e7); walk_at "mE") | (refine' Tell.use (t_told ?mC ?mD ?mE) ?k1 ?k2 ?k3 ?k4 ?k5 ?kK ?kd ?ku ?_; (case k1 | k2 | k3 | k4 | k5 => k_asm); (case mC => walk_at "mM"); (case mD => walk_at "mM"); (case mE => walk_at "mM"); (case kK => first | exact rfl | assumption); (case kd => ktr_room); (case ku => ktr_units); k_whole; intro r9 n9 h9 tk9 e9 F9 N9; (obtain ⟨q9, e8, e7⟩ := e9); (subst e8); (subst e7); walk_at "mE")); walk_at "kF"))
    show wpAny _ _ (compareOp .NotEq (.int 2 _) (.int 2 _)) _ _ _
    refine ne_int_same ?_
    (walk_at "kF"; repeat' ((first | (refine' Tell.use (t_goes ?mC ?cP ?cK) ?k1 ?k2 ?k3 ?k4 ?k5 ?kK ?kd ?ku ?_; (case k1 | k2 | k3 | k4 | k5 => k_asm); (case mC => walk_at "mM"); (case cP => first | assumption | exact PairsAt.mono (by assumption) (by walk_at "mS")); (case cK => assumption); (case kK => first | exact rfl | assumption); (case kd => ktr_room); (case ku => ktr_units); k_whole; intro r9 n9 h9 tk9 e9 F9 N9; (obtain ⟨e8, e7⟩ := e9); (subst e8); (subst e7); walk_at "mE") | (refine' Tell.use (t_told ?mC ?mD ?mE) ?k1 ?k2 ?k3 ?k4 ?k5 ?kK ?kd ?ku ?_; (case k1 | k2 | k3 | k4 | k5 => k_asm); (case mC => walk_at "mM"); (case mD => walk_at "mM"); (case mE => walk_at "mM"); (case kK => first | exact rfl | assumption); (case kd => ktr_room); (case ku => ktr_units); k_whole; intro r9 n9 h9 tk9 e9 F9 N9; (obtain ⟨q9, e8, e7⟩ := e9); (subst e8); (subst e7); walk_at "mE")); walk_at "kF"))
    show wpAny _ _ (call (Value.builtin _) [Value.ref _, Value.str _ _]) _ _ _
    clear htl hdb hspl
    have hmk : HMark := trivial
    obtain ⟨n, hn⟩ : ∃ n : Int, n = (if (σ.rel != PySem.Str.ofString "") = true then 1 else 0) + (if (σ.org == PySem.Str.ofString "relative") = true then 1 else 0) := ⟨_, rfl⟩
    refine count_is (by is_list) (by assumption) (X9.cR.trans hn.symm) ?_
    (walk_at "kF"; repeat' ((first | (refine' Tell.use (t_goes ?mC ?cP ?cK) ?k1 ?k2 ?k3 ?k4 ?k5 ?kK ?kd ?ku ?_; (case k1 | k2 | k3 | k4 | k5 => k_asm); (case mC => walk_at "mM"); (case cP => first | assumption | exact PairsAt.mono (by assumption) (by walk_at "mS")); (case cK => assumption); (case kK => first | exact rfl | assumption); (case kd => ktr_room); (case ku => ktr_units); k_whole; intro r9 n9 h9 tk9 e9 F9 N9; (obtain ⟨e8, e7⟩ := e9); (subst e8); (subst e7); walk_at "mE") | (refine' Tell.use (t_told ?mC ?mD ?mE) ?k1 ?k2 ?k3 ?k4 ?k5 ?kK ?kd ?ku ?_; (case k1 | k2 | k3 | k4 | k5 => k_asm); (case mC => walk_at "mM"); (case mD => walk_at "mM"); (case mE => walk_at "mM"); (case kK => first | exact rfl | assumption); (case kd => ktr_room); (case ku => ktr_units); k_whole; intro r9 n9 h9 tk9 e9 F9 N9; (obtain ⟨q9, e8, e7⟩ := e9); (subst e8); (subst e7); walk_at "mE")); walk_at "kF"))
    show wpAny _ _ (eval _ _) _ _ _
    refine ev_mid n ?_ ?_
    · rename HMark => hmk8
      clear X9 H hmk8
      rcases Bool.eq_false_or_eq_true (σ.rel != PySem.Str.ofString "") with b1 | b1
      all_goals rcases Bool.eq_false_or_eq_true (σ.org == PySem.Str.ofString "relative") with b2 | b2
      all_goals rw [b1, b2] at hn
      all_goals simp at hn
      all_goals subst hn
      all_goals (walk_at "kF"; repeat' ((first | (refine' Tell.use (t_goes ?mC ?cP ?cK) ?k1 ?k2 ?k3 ?k4 ?k5 ?kK ?kd ?ku ?_; (case k1 | k2 | k3 | k4 | k5 => k_asm); (case mC => walk_at "mM"); (case cP => first | assumption | exact PairsAt.mono (by assumption) (by walk_at "mS")); (case cK => assumption); (case kK => first | exact rfl | assumption); (case kd => ktr_room); (case ku => ktr_units); k_whole; intro r9 n9 h9 tk9 e9 F9 N9; (obtain ⟨e8, e7⟩ := e9); (subst e8); (subst e7); walk_at "mE") | (refine' Tell.use (t_told ?mC ?mD ?mE) ?k1 ?k2 ?k3 ?k4 ?k5 ?kK ?kd ?ku ?_; (case k1 | k2 | k3 | k4 | k5 => k_asm); (case mC => walk_at "mM"); (case mD => walk_at "mM"); (case mE => walk_at "mM"); (case kK => first | exact rfl | assumption); (case kd => ktr_room); (case ku => ktr_units); k_whole; intro r9 n9 h9 tk9 e9 F9 N9; (obtain ⟨q9, e8, e7⟩ := e9); (subst e8); (subst e7); walk_at "mE")); walk_at "kF"))
      all_goals exact ⟨_, _, rfl, rfl⟩
    intro t5 k5
    (walk_at "kF"; repeat' ((first | (refine' Tell.use (t_goes ?mC ?cP ?cK) ?k1 ?k2 ?k3 ?k4 ?k5 ?kK ?kd ?ku ?_; (case k1 | k2 | k3 | k4 | k5 => k_asm); (case mC => walk_at "mM"); (case cP => first | assumption | exact PairsAt.mono (by assumption) (by walk_at "mS")); (case cK => assumption); (case kK => first | exact rfl | assumption); (case kd => ktr_room); (case ku => ktr_units); k_whole; intro r9 n9 h9 tk9 e9 F9 N9; (obtain ⟨e8, e7⟩ := e9); (subst e8); (subst e7); walk_at "mE") | (refine' Tell.use (t_told ?mC ?mD ?mE) ?k1 ?k2 ?k3 ?k4 ?k5 ?kK ?kd ?ku ?_; (case k1 | k2 | k3 | k4 | k5 => k_asm); (case mC => walk_at "mM"); (case mD => walk_at "mM"); (case mE => walk_at "mM"); (case kK => first | exact rfl | assumption); (case kd => ktr_room); (case ku => ktr_units); k_whole; intro r9 n9 h9 tk9 e9 F9 N9; (obtain ⟨q9, e8, e7⟩ := e9); (subst e8); (subst e7); walk_at "mE")); walk_at "kF"))
    show wpAny _ _ (compareOp .NotEq (.int n _) (.int n _)) _ _ _
    refine ne_int_same ?_
    (walk_at "kF"; repeat' ((first | (refine' Tell.use (t_goes ?mC ?cP ?cK) ?k1 ?k2 ?k3 ?k4 ?k5 ?kK ?kd ?ku ?_; (case k1 | k2 | k3 | k4 | k5 => k_asm); (case mC => walk_at "mM"); (case cP => first | assumption | exact PairsAt.mono (by assumption) (by walk_at "mS")); (case cK => assumption); (case kK => first | exact rfl | assumption); (case kd => ktr_room); (case ku => ktr_units); k_whole; intro r9 n9 h9 tk9 e9 F9 N9; (obtain ⟨e8, e7⟩ := e9); (subst e8); (subst e7); walk_at "mE") | (refine' Tell.use (t_told ?mC ?mD ?mE) ?k1 ?k2 ?k3 ?k4 ?k5 ?kK ?kd ?ku ?_; (case k1 | k2 | k3 | k4 | k5 => k_asm); (case mC => walk_at "mM"); (case mD => walk_at "mM"); (case mE => walk_at "mM"); (case kK => first | exact rfl | assumption); (case kd => ktr_room); (case ku => ktr_units); k_whole; intro r9 n9 h9 tk9 e9 F9 N9; (obtain ⟨q9, e8, e7⟩ := e9); (subst e8); (subst e7); walk_at "mE")); walk_at "kF"))
    show wpAny _ _ (call (Value.builtin _) [Value.ref _, Value.str _ _]) _ _ _
    obtain ⟨n', hn'⟩ : ∃ n : Int, n = (if (σ.stat != PySem.Str.ofString "") = true then 1 else 0) := ⟨_, rfl⟩
    refine count_is (by is_list) (by assumption) (X9.cS.trans hn'.symm) ?_
    (walk_at "kF"; repeat' ((first | (refine' Tell.use (t_goes ?mC ?cP ?cK) ?k1 ?k2 ?k3 ?k4 ?k5 ?kK ?kd ?ku ?_; (case k1 | k2 | k3 | k4 | k5 => k_asm); (case mC => walk_at "mM"); (case cP => first | assumption | exact PairsAt.mono (by assumption) (by walk_at "mS")); (case cK => assumption); (case kK => first | exact rfl | assumption); (case kd => ktr_room); (case ku => ktr_units); k_whole; intro r9 n9 h9 tk9 e9 F9 N9; (obtain ⟨e8, e7⟩ := e9); (subst e8); (subst e7); walk_at "mE") | (refine' Tell.use (t_told ?mC ?mD ?mE) ?k1 ?k2 ?k3 ?k4 ?k5 ?kK ?kd ?ku ?_; (case k1 | k2 | k3 | k4 | k5 => k_asm); (case mC => walk_at "mM"); (case mD => walk_at "mM"); (case mE => walk_at "mM"); (case kK => first | exact rfl | assumption); (case kd => ktr_room); (case ku => ktr_units); k_whole; intro r9 n9 h9 tk9 e9 F9 N9; (obtain ⟨q9, e8, e7⟩ := e9); (subst e8); (subst e7); walk_at "mE")); walk_at "kF"))
    show wpAny _ _ (eval _ _) _ _ _
    refine ev_mid n' ?_ ?_
    · rename HMark => hmk8
      clear X9 H hmk8
      rcases Bool.eq_false_or_eq_true (σ.stat != PySem.Str.ofString "") with b1 | b1
      all_goals rw [b1] at hn'
      all_goals simp at hn'
      all_goals subst hn'
      all_goals (walk_at "kF"; repeat' ((first | (refine' Tell.use (t_goes ?mC ?cP ?cK) ?k1 ?k2 ?k3 ?k4 ?k5 ?kK ?kd ?ku ?_; (case k1 | k2 | k3 | k4 | k5 => k_asm); (case mC => walk_at "mM"); (case cP => first | assumption | exact PairsAt.mono (by assumption) (by walk_at "mS")); (case cK => assumption); (case kK => first | exact rfl | assumption); (case kd => ktr_room); (case ku => ktr_units); k_whole; intro r9 n9 h9 tk9 e9 F9 N9; (obtain ⟨e8, e7⟩ := e9); (subst e8); (subst e7); walk_at "mE") | (refine' Tell.use (t_told ?mC ?mD ?mE) ?k1 ?k2 ?k3 ?k4 ?k5 ?kK ?kd ?ku ?_; (case k1 | k2 | k3 | k4 | k5 => k_asm); (case mC => walk_at "mM"); (case mD => walk_at "mM"); (case mE => walk_at "mM"); (case kK => first | exact rfl | assumption); (case kd => ktr_room); (case ku => ktr_units); k_whole; intro r9 n9 h9 tk9 e9 F9 N9; (obtain ⟨q9, e8, e7⟩ := e9); (subst e8); (subst e7); walk_at "mE")); walk_at "kF"))
      all_goals exact ⟨_, _, rfl, rfl⟩
    intro t6 k6
    (walk_at "kF"; repeat' ((first | (refine' Tell.use (t_goes ?mC ?cP ?cK) ?k1 ?k2 ?k3 ?k4 ?k5 ?kK ?kd ?ku ?_; (case k1 | k2 | k3 | k4 | k5 => k_asm); (case mC => walk_at "mM"); (case cP => first | assumption | exact PairsAt.mono (by assumption) (by walk_at "mS")); (case cK => assumption); (case kK => first | exact rfl | assumption); (case kd => ktr_room); (case ku => ktr_units); k_whole; intro r9 n9 h9 tk9 e9 F9 N9; (obtain ⟨e8, e7⟩ := e9); (subst e8); (subst e7); walk_at "mE") | (refine' Tell.use (t_told ?mC ?mD ?mE) ?k1 ?k2 ?k3 ?k4 ?k5 ?kK ?kd ?ku ?_; (case k1 | k2 | k3 | k4 | k5 => k_asm); (case mC => walk_at "mM"); (case mD => walk_at "mM"); (case mE => walk_at "mM"); (case kK => first | exact rfl | assumption); (case kd => ktr_room); (case ku => ktr_units); k_whole; intro r9 n9 h9 tk9 e9 F9 N9; (obtain ⟨q9, e8, e7⟩ := e9); (subst e8); (subst e7); walk_at "mE")); walk_at "kF"))
    show wpAny _ _ (compareOp .NotEq (.int n' _) (.int n' _)) _ _ _
    refine ne_int_same ?_
    (walk_at "kF"; repeat' ((first | (refine' Tell.use (t_goes ?mC ?cP ?cK) ?k1 ?k2 ?k3 ?k4 ?k5 ?kK ?kd ?ku ?_; (case k1 | k2 | k3 | k4 | k5 => k_asm); (case mC => walk_at "mM"); (case cP => first | assumption | exact PairsAt.mono (by assumption) (by walk_at "mS")); (case cK => assumption); (case kK => first | exact rfl | assumption); (case kd => ktr_room); (case ku => ktr_units); k_whole; intro r9 n9 h9 tk9 e9 F9 N9; (obtain ⟨e8, e7⟩ := e9); (subst e8); (subst e7); walk_at "mE") | (refine' Tell.use (t_told ?mC ?mD ?mE) ?k1 ?k2 ?k3 ?k4 ?k5 ?kK ?kd ?ku ?_; (case k1 | k2 | k3 | k4 | k5 => k_asm); (case mC => walk_at "mM"); (case mD => walk_at "mM"); (case mE => walk_at "mM"); (case kK => first | exact rfl | assumption); (case kd => ktr_room); (case ku => ktr_units); k_whole; intro r9 n9 h9 tk9 e9 F9 N9; (obtain ⟨q9, e8, e7⟩ := e9); (subst e8); (subst e7); walk_at "mE")); walk_at "kF"))
    show wpAny _ _ (call (Value.builtin _) [Value.ref _, Value.str _ _]) _ _ _
    refine count_is (by is_list) (by assumption) X9.cA ?_
    (walk_at "kF"; repeat' ((first | (refine' Tell.use (t_goes ?mC ?cP ?cK) ?k1 ?k2 ?k3 ?k4 ?k5 ?kK ?kd ?ku ?_; (case k1 | k2 | k3 | k4 | k5 => k_asm); (case mC => walk_at "mM"); (case cP => first | assumption | exact PairsAt.mono (by assumption) (by walk_at "mS")); (case cK => assumption); (case kK => first | exact rfl | assumption); (case kd => ktr_room); (case ku => ktr_units); k_whole; intro r9 n9 h9 tk9 e9 F9 N9; (obtain ⟨e8, e7⟩ := e9); (subst e8); (subst e7); walk_at "mE") | (refine' Tell.use (t_told ?mC ?mD ?mE) ?k1 ?k2 ?k3 ?k4 ?k5 ?kK ?kd ?ku ?_; (case k1 | k2 | k3 | k4 | k5 => k_asm); (case mC => walk_at "mM"); (case mD => walk_at "mM"); (case mE => walk_at "mM"); (case kK => first | exact rfl | assumption); (case kd => ktr_room); (case ku => ktr_units); k_whole; intro r9 n9 h9 tk9 e9 F9 N9; (obtain ⟨q9, e8, e7⟩ := e9); (subst e8); (subst e7); walk_at "mE")); walk_at "kF"))
    show wpAny _ _ (call (Value.builtin "len") [Value.ref _]) _ _ _
    refine kun_lenT (News.isTup (by k_asm) (List.mem_cons_of_mem _ hta8)) (k := (σ.al.length : Int)) (by have := pairsAt_len hps; simp [this]) (by omega) ?_
    (walk_at "kF"; repeat' ((first | (refine' Tell.use (t_goes ?mC ?cP ?cK) ?k1 ?k2 ?k3 ?k4 ?k5 ?kK ?kd ?ku ?_; (case k1 | k2 | k3 | k4 | k5 => k_asm); (case mC => walk_at "mM"); (case cP => first | assumption | exact PairsAt.mono (by assumption) (by walk_at "mS")); (case cK => assumption); (case kK => first | exact rfl | assumption); (case kd => ktr_room); (case ku => ktr_units); k_whole; intro r9 n9 h9 tk9 e9 F9 N9; (obtain ⟨e8, e7⟩ := e9); (subst e8); (subst e7); walk_at "mE") | (refine' Tell.use (t_told ?mC ?mD ?mE) ?k1 ?k2 ?k3 ?k4 ?k5 ?kK ?kd ?ku ?_; (case k1 | k2 | k3 | k4 | k5 => k_asm); (case mC => walk_at "mM"); (case mD => walk_at "mM"); (case mE => walk_at "mM"); (case kK => first | exact rfl | assumption); (case kd => ktr_room); (case ku => ktr_units); k_whole; intro r9 n9 h9 tk9 e9 F9 N9; (obtain ⟨q9, e8, e7⟩ := e9); (subst e8); (subst e7); walk_at "mE")); walk_at "kF"))
    show wpAny _ _ (compareOp .NotEq (.int (σ.al.length : Int) _) (.int (σ.al.length : Int) _)) _ _ _
    refine ne_int_same ?_
    rename StrsAre _ _ => hSA
    obtain ⟨rest, hd5⟩ := X9.hd5
    have hcC := X9.cC
    have hfive := X9.five
    have hfew := X9.few
    have hz9 := hSA.length
    rw [← hz9] at hfew
    rw [hd5] at hSA hcC
    rename HMark => hmk8
    clear hd5 hz9 hmk8
    obtain ⟨y1, _, rfl, hS1⟩ := strs_cons hSA
    obtain ⟨y2, _, rfl, hS2⟩ := strs_cons hS1
    obtain ⟨y3, _, rfl, hS3⟩ := strs_cons hS2
    obtain ⟨y4, _, rfl, hS4⟩ := strs_cons hS3
    obtain ⟨y5, _, rfl, hS5⟩ := strs_cons hS4
    (walk_at "kF"; repeat' ((first | (refine' Tell.use (t_goes ?mC ?cP ?cK) ?k1 ?k2 ?k3 ?k4 ?k5 ?kK ?kd ?ku ?_; (case k1 | k2 | k3 | k4 | k5 => k_asm); (case mC => walk_at "mM"); (case cP => first | assumption | exact PairsAt.mono (by assumption) (by walk_at "mS")); (case cK => assumption); (case kK => first | exact rfl | assumption); (case kd => ktr_room); (case ku => ktr_units); k_whole; intro r9 n9 h9 tk9 e9 F9 N9; (obtain ⟨e8, e7⟩ := e9); (subst e8); (subst e7); walk_at "mE") | (refine' Tell.use (t_told ?mC ?mD ?mE) ?k1 ?k2 ?k3 ?k4 ?k5 ?kK ?kd ?ku ?_; (case k1 | k2 | k3 | k4 | k5 => k_asm); (case mC => walk_at "mM"); (case mD => walk_at "mM"); (case mE => walk_at "mM"); (case kK => first | exact rfl | assumption); (case kd => ktr_room); (case ku => ktr_units); k_whole; intro r9 n9 h9 tk9 e9 F9 N9; (obtain ⟨q9, e8, e7⟩ := e9); (subst e8); (subst e7); walk_at "mE")); walk_at "kF"))
    show wpAny _ _ (compareOp .Eq (.ref _) (.ref _)) _ _ _
    refine eq_five (by k_asm) (List.mem_cons_of_mem _ (List.mem_cons_self ..)) (List.mem_cons_self ..) hfive (by ktr_units) ?_
    (walk_at "kF"; repeat' ((first | (refine' Tell.use (t_goes ?mC ?cP ?cK) ?k1 ?k2 ?k3 ?k4 ?k5 ?kK ?kd ?ku ?_; (case k1 | k2 | k3 | k4 | k5 => k_asm); (case mC => walk_at "mM"); (case cP => first | assumption | exact PairsAt.mono (by assumption) (by walk_at "mS")); (case cK => assumption); (case kK => first | exact rfl | assumption); (case kd => ktr_room); (case ku => ktr_units); k_whole; intro r9 n9 h9 tk9 e9 F9 N9; (obtain ⟨e8, e7⟩ := e9); (subst e8); (subst e7); walk_at "mE") | (refine' Tell.use (t_told ?mC ?mD ?mE) ?k1 ?k2 ?k3 ?k4 ?k5 ?kK ?kd ?ku ?_; (case k1 | k2 | k3 | k4 | k5 => k_asm); (case mC => walk_at "mM"); (case mD => walk_at "mM"); (case mE => walk_at "mM"); (case kK => first | exact rfl | assumption); (case kd => ktr_room); (case ku => ktr_units); k_whole; intro r9 n9 h9 tk9 e9 F9 N9; (obtain ⟨q9, e8, e7⟩ := e9); (subst e8); (subst e7); walk_at "mE")); walk_at "kF"))
    show wpAny _ _ (call (Value.builtin _) [Value.ref _, Value.str _ _]) _ _ _
    refine count_is (by is_list) (.cons _ _ (.cons _ _ (.cons _ _ (.cons _ _ (.cons _ _ hS5))))) hcC ?_
    (walk_at "kF"; repeat' ((first | (refine' Tell.use (t_goes ?mC ?cP ?cK) ?k1 ?k2 ?k3 ?k4 ?k5 ?kK ?kd ?ku ?_; (case k1 | k2 | k3 | k4 | k5 => k_asm); (case mC => walk_at "mM"); (case cP => first | assumption | exact PairsAt.mono (by assumption) (by walk_at "mS")); (case cK => assumption); (case kK => first | exact rfl | assumption); (case kd => ktr_room); (case ku => ktr_units); k_whole; intro r9 n9 h9 tk9 e9 F9 N9; (obtain ⟨e8, e7⟩ := e9); (subst e8); (subst e7); walk_at "mE") | (refine' Tell.use (t_told ?mC ?mD ?mE) ?k1 ?k2 ?k3 ?k4 ?k5 ?kK ?kd ?ku ?_; (case k1 | k2 | k3 | k4 | k5 => k_asm); (case mC => walk_at "mM"); (case mD => walk_at "mM"); (case mE => walk_at "mM"); (case kK => first | exact rfl | assumption); (case kd => ktr_room); (case ku => ktr_units); k_whole; intro r9 n9 h9 tk9 e9 F9 N9; (obtain ⟨q9, e8, e7⟩ := e9); (subst e8); (subst e7); walk_at "mE")); walk_at "kF"))
    rename News h₀ _ _ _ => lN9
    rename Fr h₀ _ _ _ => lF9
    exact ret _ _ _ _ ⟨rfl, rfl⟩ lF9 (fun p hp => lN9 p (List.mem_cons_of_mem _ (List.mem_cons_of_mem _ (List.mem_cons_of_mem _ (sub9 p (List.mem_cons_of_mem _ hp))))))
end
end
section
open PySem PySem.Spec PySem.W PyProof.Rows PySem.Calls
section
set_option maxRecDepth 100000
set_option maxHeartbeats 4000000
set_option rowWalk.seconds 0
local macro_rules | `(tactic| walk_at "kF") => `(tactic| repeat' (first | (with_reducible refine gen_tkE ?_; intro tk9) | ((fail_if_success (fail_if_success k_unfold)); first | ((with_reducible refine (?_ : wpAny _ _ _ _ _ _)); (try dsimp only)) | (k_unfold; (try dsimp only))) | (k_end; wrow_close) | (walk1; walk_at "kQ") | (dsimp only [List.cons_append, List.nil_append]; walk1; walk_at "kQ") | (leave1; try dsimp only) | fail "no step"))
local macro_rules | `(tactic| walk_at "kQ") => `(tactic| all_goals (first | (fail_if_success k_fold) | refine (let q := _; (?_ : wpAny _ _ _ q _ _))))
local macro_rules | `(tactic| ktr_room) => `(tactic| first | exact rm2 (by assumption) (by rfl) | exact rm1 (by assumption) (by rfl) | exact rm0 (by assumption))
local macro_rules | `(tactic| ktr_units) => `(tactic| first | exact rm2 (by assumption) (by rfl) | exact rm1 (by assumption) (by rfl) | exact rm0 (by assumption))
local macro_rules | `(tactic| k_mem) => `(tactic| first | assumption | exact mem_all (by assumption) _)
/-- what is told of a call, given facts of the heap below -/
noncomputable def TellB (w : World) (D U : Nat) (H : Heap → Prop) (f : Addr) (args : List Value) (news : List (Addr × Obj)) (post : Value → List (Addr × Obj) → Prop) : Prop :=
  ∀ {p : Program} {loose : List Str} {mean : ExcName → Option Value} {mg mb : Str → Option Value} (dp un : Nat) (gd : Option (List Code)) (cn : Str) (cs : Scope) (a : Addr) (ccd : Value) (cl : List (Str × Addr)) (outer : List Env)
    (A₀ : Around) (base h₀ : Heap) (L : Addr) (m : Str → Option Value) (s : Shared) (Q E : Value → Shared → Prop),
    Below A₀ base outer h₀ → Fr h₀ L s.heap m → (Mine.KK w.params).In h₀ → News h₀ L s.heap news → Top p loose mean mg mb h₀ → cs.kind = .function → dp + D < recursionLimit → un + U < cLine → H h₀ →
    (∀ r news' h' tk', post r news' → Fr h₀ L h' m → News h₀ L h' news' → Q r { s with heap := h', toks := tk' }) →
    wpAny (model PySem.Challenge.rw_qd0102_01.prog w) (ktrTop dp un gd cn cs L a ccd cl outer) (call (.ref f) args) Q E s
local macro_rules | `(tactic| walk_at "exec Assign cons ListComp") => `(tactic| (k_here; k_dflt (refine LCg.Assign_ListComp_U (F₀ := by k_asm) (by rfl) (by with_unfolding_all rfl) (by with_unfolding_all rfl) (by decide) (by rfl) (by decide) (by rfl) (by rfl) (by rfl) ?_)))
local macro_rules | `(tactic| walk_at "CompSrc") => `(tactic| (k_here; k_dflt (refine LCg.CompSrc.ledger (by rfl) (by k_asm) (by k_asm) (by k_mem) (by kcf_size) ?_; intro g'; (refine' kcf_list (fun k => k) (by assumption) (fun k' t' I' oI' C' oC' D' m' ys' h' tk' E' hk' hC' hx' F' N' off' ne' hMark' => ?_) ?_); (all_goals (try (simp only [LCg.Off3, and_true] at off'))); kcf_last)))
theorem fold_inv {σ : Type} {f : σ → Int → σ} {P : σ → Prop} (h : ∀ s n, P s → P (f s n)) : ∀ (l : List Int) (s : σ), P s → P (l.foldl f s)
  | [], _, x => x
  | n :: l, s, x => fold_inv h l (f s n) (h s n x)
theorem box2 (l : List Int) (c : Int) (hc : 0 ≤ c) : 0 ≤ (l.foldl (fun (σ : Int × Int × Unit) n => ((σ.fst * 48271 + n.fmod 2147483647 + 593).fmod 2147483647, σ.snd.fst, ())) (1, c, ())).fst ∧ (l.foldl (fun (σ : Int × Int × Unit) n => ((σ.fst * 48271 + n.fmod 2147483647 + 593).fmod 2147483647, σ.snd.fst, ())) (1, c, ())).fst < 2147483647 ∧ 0 ≤ (l.foldl (fun (σ : Int × Int × Unit) n => ((σ.fst * 48271 + n.fmod 2147483647 + 593).fmod 2147483647, σ.snd.fst, ())) (1, c, ())).snd.fst :=
  fold_inv (f := fun (σ : Int × Int × Unit) n => ((σ.fst * 48271 + n.fmod 2147483647 + 593).fmod 2147483647, σ.snd.fst, ())) (P := fun (σ : Int × Int × Unit) => 0 ≤ σ.1 ∧ σ.1 < 2147483647 ∧ 0 ≤ σ.2.1) (fun σ n h => ⟨fm0 (by decide), fm1 (by decide), h.2.2⟩) l _ ⟨by simp, by simp, hc⟩
theorem box3 (l : List Int) (c d : Int) (hc : 0 ≤ c) : 0 ≤ (l.foldl (fun (σ : Int × Int × Int × Unit) n => ((σ.fst * 48271 + n.fmod 2147483647 + 593).fmod 2147483647, σ.snd.fst, σ.snd.fst, ())) (1, c, d, ())).fst ∧ (l.foldl (fun (σ : Int × Int × Int × Unit) n => ((σ.fst * 48271 + n.fmod 2147483647 + 593).fmod 2147483647, σ.snd.fst, σ.snd.fst, ())) (1, c, d, ())).fst < 2147483647 ∧ 0 ≤ (l.foldl (fun (σ : Int × Int × Int × Unit) n => ((σ.fst * 48271 + n.fmod 2147483647 + 593).fmod 2147483647, σ.snd.fst, σ.snd.fst, ())) (1, c, d, ())).snd.fst :=
  fold_inv (f := fun (σ : Int × Int × Int × Unit) n => ((σ.fst * 48271 + n.fmod 2147483647 + 593).fmod 2147483647, σ.snd.fst, σ.snd.fst, ())) (P := fun (σ : Int × Int × Int × Unit) => 0 ≤ σ.1 ∧ σ.1 < 2147483647 ∧ 0 ≤ σ.2.1) (fun σ n h => ⟨fm0 (by decide), fm1 (by decide), h.2.2⟩) l _ ⟨by simp, by simp, hc⟩
theorem ten260 : (0 : Int) < 10 ^ Int.toNat 260 := by decide +kernel
inductive BoxPost (O : List (Addr × Obj)) (x : Value) (news' : List (Addr × Obj)) : Prop where
  | mk (b D D2 : Addr) (ws : List Value) (ms : List Int) (vs2 : Array Value) (cD : Nat) (g st : Int) (tg ts tp : Tok) (e : x = .ref b) (e' : news' = (b, listOf #[.ref D, .int g tg, .int st ts, .int 0 tp] 0) :: (D, listOf ws.toArray cD) :: (D2, listOf vs2 0) :: O) (h1 : IntsAre ws ms) (h2 : ws.length ≤ 48) (h3 : 0 ≤ g) (h4 : 0 ≤ st) (h5 : st < 2147483647) (h6 : D < b) (h7 : D2 < b) (h8 : AllLt b O) : BoxPost O x news'
theorem t_box {w : World} {O : List (Addr × Obj)} {sl : Addr} {ns : List Int} {vs : List Value} (hi : IntsAre vs ns) (hlen : ns.length ≤ 63) :
    TellB w 2 100 (fun h => h.IsList sl vs.toArray) 387 [.ref sl] O
      (BoxPost O) := by
  intro p loose mean mg mb dp un gd cn cs a ccd cl outer A₀ base h₀ L m s Q E B F X N T hk hdp hun hl ret
  refine wpAny_call ?_
  revert X N; k_fill; intro X N
  k_dflt (refine' code_def (binds := [("script", .ref sl)]) ?k1 ?k2 ?k3 ?k4 ?k5 ?kA ?kF ?kK ?k6 ?k7 ?k8 ?k9 ?kB ?_ ?c2 ?c3 ?c4 ?c5; (case kA => exact rfl); (case kF => exact rfl); (case kK => assumption); (case k1 => k_asm); (case k2 => k_asm); (case k3 => k_asm); (case k4 => k_asm); (case k5 => k_asm); (case k6 => exact k_law_box _); (case k7 => k_is); (case k8 => ktr_room); (case k9 => first | exact BindsTo.of_eq rfl | exact binds_KK (by k_in) rfl (by k_is) rfl rfl); (case c5 => decide); (case kB => exact locs rfl); (case c2 => exact rfl); (case c3 => exact rfl); (case c4 => exact rfl); k_whole; intro g' L' h' FG' F' N' B' X' T'; (try dsimp only); (try k_fold))
  have hl' := Fr.lst FG' hl
  walk_at "kF"
  all_goals rename IntsAre _ _ => hY
  all_goals rename News h₀ _ _ _ => lN
  all_goals rename Fr h₀ _ _ _ => lF
  all_goals rename _ < _ ∧ _ < _ ∧ AllLt _ _ => l9
  all_goals (
    have hys := hY.length
    simp only [List.length_map, List.length_take] at hys
    refine ret _ _ _ _ ⟨_, _, _, _, _, _, _, _, _, _, _, _, rfl, rfl, hY, by omega, ?_, ?_, ?_, l9.1, l9.2.1, l9.2.2⟩ lF lN)
  all_goals first
    | exact (box3 _ _ _ (fm0 ten260)).2.2
    | exact (box3 _ _ _ (fm0 ten260)).1
    | exact (box3 _ _ _ (fm0 ten260)).2.1
    | exact (box2 _ _ (Int.le_refl _)).2.2
    | exact (box2 _ _ (Int.le_refl _)).1
    | exact (box2 _ _ (Int.le_refl _)).2.1
end
end
section
open PySem PySem.Spec PySem.W PyProof.Rows PySem.Calls
section
set_option maxRecDepth 100000
set_option maxHeartbeats 4000000
section
variable {prog : Program} {w : World} {A : Around} {E : Value → Shared → Prop} {s : Shared} {env : PySem.Env} {R : Result → Shared → Prop} {elt t0 i0 t1 i1 : PySem.Expr} {scope : Scope} {pos : Pos} {it acc : Value}
theorem turn_inner : compTurn (.ListComp elt [⟨t0, i0, [], 0⟩, ⟨t1, i1, [], 0⟩] scope pos) 1 it acc env = (do
      standAt i1.pos
      match ← pyNext it with
      | none => pure (.done .next)
      | some v =>
        letOwnedTupleGo t1 it v
        assign t1 env v
        let mut ok := true
        for c in ([] : List PySem.Expr) do
          if ok then ok ← isTrue c env (eval c env)
        if ok then
          (do let _ ← call (.builtin "list.append") [acc, ← eval elt env])
        again (.compLoop (.ListComp elt [⟨t0, i0, [], 0⟩, ⟨t1, i1, [], 0⟩] scope pos) 1 it acc env)) := by rfl
theorem turn_outer : compTurn (.ListComp elt [⟨t0, i0, [], 0⟩, ⟨t1, i1, [], 0⟩] scope pos) 0 it acc env = (do
      standAt i0.pos
      match ← pyNext it with
      | none => pure (.done .next)
      | some v =>
        letOwnedTupleGo t0 it v
        assign t0 env v
        let mut ok := true
        for c in ([] : List PySem.Expr) do
          if ok then ok ← isTrue c env (eval c env)
        if ok then
          let x ← eval i1 env
          standAt i1.pos
          let x ← foldedSetIterable i1 env x
          let _ ← runOwn (.compStart (.ListComp elt [⟨t0, i0, [], 0⟩, ⟨t1, i1, [], 0⟩] scope pos) 1 (← holding [x] (pyIter x)) acc env) env
        again (.compLoop (.ListComp elt [⟨t0, i0, [], 0⟩, ⟨t1, i1, [], 0⟩] scope pos) 0 it acc env)) := by rfl
/-- the inner loop, turn by turn -/
theorem loop_inner (I : Nat → Shared → Prop)
    (turn : ∀ n s, I n s → wpAny (model prog w) A (pyNext it) (fun r s₁ => match r with
      | none => R (.ok .next) s₁
      | some v => wpAny (model prog w) A (letOwnedTupleGo t1 it v) (fun _ s₁' => wpAny (model prog w) A (assign t1 env v) (fun _ s₂ =>
          wpAny (model prog w) A (eval elt env) (fun x s₄ =>
              wpAny (model prog w) A (call (.builtin "list.append") [acc, x]) (fun _ s₅ => ∃ m, m < n ∧ I m s₅) (notedBy (model prog w) A env fun e s' => R (.error e) s') s₄) (notedBy (model prog w) A env fun e s' => R (.error e) s') s₂)
          (notedBy (model prog w) A env fun e s' => R (.error e) s') s₁') (notedBy (model prog w) A env fun e s' => R (.error e) s') s₁) (notedBy (model prog w) A env fun e s' => R (.error e) s') s)
    (n : Nat) (h : I n s) : codeAny (model prog w) A (.compLoop (.ListComp elt [⟨t0, i0, [], 0⟩, ⟨t1, i1, [], 0⟩] scope pos) 1 it acc env) R s := by
  refine codeAny_loop rfl I (fun n s hI => ?_) n h
  show wpAny _ A ((compTurn (.ListComp elt [⟨t0, i0, [], 0⟩, ⟨t1, i1, [], 0⟩] scope pos) 1 it acc env).onRaise (fun x => do noteFrame x env; theTreesLotGoes x)) _ _ s
  refine wpAny_noted ?_
  rw [turn_inner]
  refine wpAny_bind (wpAny_standAt (wpAny_bind (wpAny_mono (turn n s hI) (fun r s₁ h₁ => ?_) fun _ _ h' => h')))
  cases r with
  | none => exact wpAny_pure h₁
  | some v =>
    refine wpAny_bind (wpAny_mono h₁ (fun _ s₁' h₁' => ?_) fun _ _ h' => h')
    refine wpAny_bind (wpAny_mono h₁' (fun _ s₂ h₂ => wpAny_bind (wpAny_mono (wpAny_tests_nil (Q := fun ok s₃ => ok = true ∧ s₃ = s₂) ⟨rfl, rfl⟩) (fun ok s₃ h₃ => ?_) fun _ _ h' => h')) fun _ _ h' => h')
    obtain ⟨rfl, rfl⟩ := h₃
    exact wpAny_bind (wpAny_bind (wpAny_mono h₂ (fun x s₄ h₄ => wpAny_bind (wpAny_mono h₄ (fun _ s₅ h₅ => wpAny_pure (wpAny_pure ⟨rfl, h₅⟩)) fun _ _ h' => h')) fun _ _ h' => h'))
/-- the outer loop, turn by turn -/
theorem loop_outer (I : Nat → Shared → Prop)
    (turn : ∀ n s, I n s → wpAny (model prog w) A (pyNext it) (fun r s₁ => match r with
      | none => R (.ok .next) s₁
      | some v => wpAny (model prog w) A (letOwnedTupleGo t0 it v) (fun _ s₁' => wpAny (model prog w) A (assign t0 env v) (fun _ s₂ =>
          wpAny (model prog w) A (eval i1 env) (fun x s₃ => wpAny (model prog w) A (pyIter x) (fun it' s₄ =>
              codeAny (model prog w) A (.compStart (.ListComp elt [⟨t0, i0, [], 0⟩, ⟨t1, i1, [], 0⟩] scope pos) 1 it' acc env) (fun r s₅ => match r with
                | .ok _ => ∃ m, m < n ∧ I m s₅
                | .error e => cameBackBy (model prog w) A env (notedBy (model prog w) A env fun e s' => R (.error e) s') e s₅) s₄) (notedBy (model prog w) A env fun e s' => R (.error e) s') s₃) (notedBy (model prog w) A env fun e s' => R (.error e) s') s₂)
          (notedBy (model prog w) A env fun e s' => R (.error e) s') s₁') (notedBy (model prog w) A env fun e s' => R (.error e) s') s₁) (notedBy (model prog w) A env fun e s' => R (.error e) s') s)
    (n : Nat) (h : I n s) (hs : ∀ x, foldedSetIterable i1 env x = pure x) : codeAny (model prog w) A (.compLoop (.ListComp elt [⟨t0, i0, [], 0⟩, ⟨t1, i1, [], 0⟩] scope pos) 0 it acc env) R s := by
  refine codeAny_loop rfl I (fun n s hI => ?_) n h
  show wpAny _ A ((compTurn (.ListComp elt [⟨t0, i0, [], 0⟩, ⟨t1, i1, [], 0⟩] scope pos) 0 it acc env).onRaise (fun x => do noteFrame x env; theTreesLotGoes x)) _ _ s
  refine wpAny_noted ?_
  rw [turn_outer]
  refine wpAny_bind (wpAny_standAt (wpAny_bind (wpAny_mono (turn n s hI) (fun r s₁ h₁ => ?_) fun _ _ h' => h')))
  cases r with
  | none => exact wpAny_pure h₁
  | some v =>
    refine wpAny_bind (wpAny_mono h₁ (fun _ s₁' h₁' => ?_) fun _ _ h' => h')
    refine wpAny_bind (wpAny_mono h₁' (fun _ s₂ h₂ => wpAny_bind (wpAny_mono (wpAny_tests_nil (Q := fun ok s₃ => ok = true ∧ s₃ = s₂) ⟨rfl, rfl⟩) (fun ok s₃ h₃ => ?_) fun _ _ h' => h')) fun _ _ h' => h')
    obtain ⟨rfl, rfl⟩ := h₃
    refine wpAny_bind (wpAny_mono h₂ (fun x s₄ h₄ => ?_) fun _ _ h' => h')
    refine wpAny_bind (wpAny_standAt (wpAny_bind (wpAny_of_eq (hs x) ?_)))
    refine wpAny_bind (wpAny_holding (wpAny_mono h₄ (fun it' s₅ h₅ => ?_) fun _ _ h' => h'))
    refine wpAny_bind (wpAny_runOwn ?_)
    refine codeAny_mono h₅ fun r s₆ h₆ => ?_
    cases r with
    | ok f => exact wpAny_pure ⟨rfl, h₆⟩
    | error e => exact h₆
end
end
section
set_option maxRecDepth 100000
set_option maxHeartbeats 4000000
/-- the state of a comprehension: its frame C, its list D, the rest of the ledger -/
structure LSt (h₀ : Heap) (L : Addr) (m : PySem.Str → Option Value) (C : Addr) (cm : PySem.Str → Option Value) (D : Addr) (ys : List Value) (O : List (Addr × Obj)) (oC : Obj) (h : Heap) : Prop where
  fr : Fr h₀ L h m
  ns : LCg.NsObj oC cm
  news : News h₀ L h ((C, oC) :: (D, LCg.lst ys) :: O)
  ne : @Ne Nat C D
  off : ∀ p ∈ O, (@Ne Nat p.1 C) ∧ (@Ne Nat p.1 D)
inductive LState (h₀ : Heap) (L : Addr) (m : PySem.Str → Option Value) (s₀ : Shared) (C : Addr) (cm : PySem.Str → Option Value) (D : Addr) (ys : List Value) (O : List (Addr × Obj)) (s : Shared) : Prop where
  | mk (h : Heap) (tk : Nat) (oC : Obj) (e : s = { s₀ with heap := h, toks := tk }) (S : LSt h₀ L m C cm D ys O oC h) : LState h₀ L m s₀ C cm D ys O s
/-- an iterator over a tuple or a list -/
noncomputable def ItAt (kd : String) (oI : Obj) (ax : Addr) (i : Nat) : Prop := oI.cls = .type (kd ++ "_iterator") ∧ oI.data = .fields #[.ref ax, .int i 0]
noncomputable def SrcOf (kd : String) (ox : Obj) (its : Array Value) : Prop := ox.cls = .type kd ∧ ∃ n, ox.data = .seq its n
/-- one object of the ledger is changed, nothing else -/
theorem news_set {h₀ h h' : Heap} {L a : Addr} {o o' : Obj} {l r : List (Addr × Obj)} (N : News h₀ L h (l ++ (a, o) :: r)) (hl : ∀ p ∈ l ++ r, p.1 ≠ a) (hs : Heap.SameBut a h h') (ho : h'.get? a = some o') : News h₀ L h' (l ++ (a, o') :: r) := fun p hp => by
  have z := N (a, o) (List.mem_append_right _ (List.mem_cons_self ..))
  rcases List.mem_append.mp hp with h1 | h1
  · have y := N p (List.mem_append_left _ h1)
    exact ⟨hs.extBut _ _ (hl p (List.mem_append_left _ h1)) y.1, y.2⟩
  · rcases List.mem_cons.mp h1 with rfl | h1
    · exact ⟨ho, z.2⟩
    · have y := N p (List.mem_append_right _ (List.mem_cons_of_mem _ h1))
      exact ⟨hs.extBut _ _ (hl p (List.mem_append_right _ h1)) y.1, y.2⟩
section
variable {prog : Program} {w : World} {A : Around} {E : Value → Shared → Prop} {s₀ s : Shared} {h₀ : Heap} {L : Addr} {m : PySem.Str → Option Value} {C D I ax : Addr} {cm : PySem.Str → Option Value} {ys : List Value} {O : List (Addr × Obj)}
theorem LSt.set {h h' : Heap} {oC o o' : Obj} {a : Addr} {l r : List (Addr × Obj)} (S : LSt h₀ L m C cm D ys (l ++ (a, o) :: r) oC h) (hl : ∀ p ∈ l ++ r, p.1 ≠ a) (hs : Heap.SameBut a h h') (ho : h'.get? a = some o') : LSt h₀ L m C cm D ys (l ++ (a, o') :: r) oC h' := by
  have z := S.news (a, o) (List.mem_cons_of_mem _ (List.mem_cons_of_mem _ (List.mem_append_right _ (List.mem_cons_self ..))))
  have y := S.off (a, o) (List.mem_append_right _ (List.mem_cons_self ..))
  refine ⟨S.fr.change hs z.2.1 z.2.2, S.ns, ?_, S.ne, fun p hp => ?_⟩
  · refine news_set (l := (C, oC) :: (D, LCg.lst ys) :: l) (r := r) S.news (fun p hp => ?_) hs ho
    rcases List.mem_cons.mp hp with rfl | hp
    · exact Ne.symm y.1
    rcases List.mem_cons.mp hp with rfl | hp
    · exact Ne.symm y.2
    · exact hl p hp
  · rcases List.mem_append.mp hp with h1 | h1
    · exact S.off p (List.mem_append_left _ h1)
    · rcases List.mem_cons.mp h1 with rfl | h1
      · exact y
      · exact S.off p (List.mem_append_right _ (List.mem_cons_of_mem _ h1))
theorem next_some {kd : String} (hkd : kd = "tuple" ∨ kd = "list") {oI ox : Obj} {i : Nat} {its : Array Value} {v : Value} {Q : Option Value → Shared → Prop} (S : LState h₀ L m s₀ C cm D ys ((I, oI) :: O) s) (hI : ItAt kd oI ax i) (hx : SrcOf kd ox its) (hm : (ax, ox) ∈ O) (off : ∀ p ∈ O, p.1 ≠ I) (hv : its[i]? = some v)
    (h : ∀ s' oI', ItAt kd oI' ax (i + 1) → LState h₀ L m s₀ C cm D ys ((I, oI') :: O) s' → Q (some v) s') : wpAny (model prog w) A (pyNext (.ref I)) Q E s := by
  obtain ⟨hp, tk, oC, rfl, S⟩ := S
  have hgI := (S.news (I, oI) (List.mem_cons_of_mem _ (List.mem_cons_of_mem _ (List.mem_cons_self ..)))).1
  have hgx := (S.news (ax, ox) (List.mem_cons_of_mem _ (List.mem_cons_of_mem _ (List.mem_cons_of_mem _ hm)))).1
  obtain ⟨cx, n, dx⟩ := hx
  rcases hkd with rfl | rfl
  · refine wpAny_pyNext_tuple_item (t := ax) (i := i) (items := its) (x := v) ⟨oI, hgI, hI.1, hI.2⟩ ⟨ox, hgx, cx, n, dx⟩ hv fun h' hit hs => ?_
    obtain ⟨oI', ho, c1, c2⟩ := hit
    exact h _ oI' ⟨c1, c2⟩ ⟨h', tk, oC, rfl, LSt.set (l := []) S off hs ho⟩
  · refine wpAny_pyNext_list_item (l := ax) (i := i) (items := its) (x := v) ⟨oI, hgI, hI.1, hI.2⟩ ⟨ox, hgx, cx, n, dx⟩ hv fun h' hit hs => ?_
    obtain ⟨oI', ho, c1, c2⟩ := hit
    exact h _ oI' ⟨c1, c2⟩ ⟨h', tk, oC, rfl, LSt.set (l := []) S off hs ho⟩
/-- the ledger without the iterator, once that is spent -/
theorem LSt.drop {h h' : Heap} {oC oI : Obj} (S : LSt h₀ L m C cm D ys ((I, oI) :: O) oC h) (off : ∀ p ∈ O, p.1 ≠ I) (he : Heap.ExtBut I h h') : LSt h₀ L m C cm D ys O oC h' := by
  have z := S.news (I, oI) (List.mem_cons_of_mem _ (List.mem_cons_of_mem _ (List.mem_cons_self ..)))
  have y := S.off (I, oI) (List.mem_cons_self ..)
  have hk : ∀ b o, b ∉ [I] → h.get? b = some o → h'.get? b = some o := fun b o hb e => he b o (by simpa using hb) e
  refine ⟨LCg.fr_but S.fr hk (Ne.symm z.2.1) z.2.2, S.ns, ?_, S.ne, fun p hp => S.off p (List.mem_cons_of_mem _ hp)⟩
  intro p hp
  rcases List.mem_cons.mp hp with rfl | hp
  · have x := S.news _ (List.mem_cons_self ..)
    exact ⟨he _ _ (Ne.symm y.1) x.1, x.2⟩
  rcases List.mem_cons.mp hp with rfl | hp
  · have x := S.news _ (List.mem_cons_of_mem _ (List.mem_cons_self ..))
    exact ⟨he _ _ (Ne.symm y.2) x.1, x.2⟩
  · have x := S.news _ (List.mem_cons_of_mem _ (List.mem_cons_of_mem _ (List.mem_cons_of_mem _ hp)))
    exact ⟨he _ _ (off p hp) x.1, x.2⟩
theorem next_none {kd : String} (hkd : kd = "tuple" ∨ kd = "list") {oI ox : Obj} {i : Nat} {its : Array Value} {Q : Option Value → Shared → Prop} (hh : A.handled = none) (S : LState h₀ L m s₀ C cm D ys ((I, oI) :: O) s) (hI : ItAt kd oI ax i) (hx : SrcOf kd ox its) (hm : (ax, ox) ∈ O) (off : ∀ p ∈ O, p.1 ≠ I) (hv : its[i]? = none)
    (h : ∀ s', LState h₀ L m s₀ C cm D ys O s' → Q none s') : wpAny (model prog w) A (pyNext (.ref I)) Q E s := by
  obtain ⟨hp, tk, oC, rfl, S⟩ := S
  have hgI := (S.news (I, oI) (List.mem_cons_of_mem _ (List.mem_cons_of_mem _ (List.mem_cons_self ..)))).1
  have hgx := (S.news (ax, ox) (List.mem_cons_of_mem _ (List.mem_cons_of_mem _ (List.mem_cons_of_mem _ hm)))).1
  obtain ⟨cx, n, dx⟩ := hx
  rcases hkd with rfl | rfl
  · exact wpAny_pyNext_tuple_end hh (t := ax) (i := i) (items := its) ⟨oI, hgI, hI.1, hI.2⟩ ⟨ox, hgx, cx, n, dx⟩ hv fun h' he => h _ ⟨h', tk, oC, rfl, S.drop off he⟩
  · exact wpAny_pyNext_list_end hh (l := ax) (i := i) (items := its) ⟨oI, hgI, hI.1, hI.2⟩ ⟨ox, hgx, cx, n, dx⟩ hv fun h' he => h _ ⟨h', tk, oC, rfl, S.drop off he⟩
/-- a name of the comprehension's own -/
theorem own_store {scope : Scope} {cl : List (PySem.Str × Addr)} {env : PySem.Env} {x : PySem.Str} {px : Pos} {v : Value} {Q : Unit → Shared → Prop} (hx : scope.names.lookup x = some .local) (hkind : scope.kind = .function) (S : LState h₀ L m s₀ C cm D ys O s)
    (h : ∀ s', LState h₀ L m s₀ C (fun z => if z = x then some v else cm z) D ys O s' → Q () s') : wpAny (model prog w) A (assign (.Name x px) (compEnvC scope cl C env) v) Q E s := by
  obtain ⟨hp, tk, oC, rfl, S⟩ := S
  have z := S.news (C, oC) (List.mem_cons_self ..)
  refine wpAny_assign_Name (wpAny_storeName_local (lookup_relabel_local hx) (S.ns.ns z.1) (fun h₃ hn₃ hs₃ => ?_) (by simp [compEnvC, relabel, hkind]))
  obtain ⟨oC', e', n'⟩ := LCg.ns_obj hn₃
  refine h _ ⟨h₃, _, oC', rfl, S.fr.change hs₃ z.2.1 z.2.2, n', ?_, S.ne, S.off⟩
  refine news_set (l := []) (r := (D, LCg.lst ys) :: O) S.news (fun p hp => ?_) hs₃ e'
  rcases List.mem_cons.mp hp with rfl | hp
  · exact Ne.symm S.ne
  · exact (S.off p hp).1
end
end
section
set_option maxRecDepth 100000
set_option maxHeartbeats 4000000
/-- rows of texts, each a tuple of the ledger -/
inductive RowsAt (O : List (Addr × Obj)) : List Value → List (List PySem.Str) → Prop where
  | nil : RowsAt O [] []
  | cons {t : Addr} {vs ys : List Value} {r : List PySem.Str} {ls : List (List PySem.Str)} : (t, tupO vs) ∈ O → StrsAre vs r → RowsAt O ys ls → RowsAt O (.ref t :: ys) (r :: ls)
theorem RowsAt.mono {O O' : List (Addr × Obj)} {ys : List Value} {ls : List (List PySem.Str)} (h : RowsAt O ys ls) (hs : ∀ p ∈ O, p ∈ O') : RowsAt O' ys ls := by
  induction h with
  | nil => exact .nil
  | cons a b _ ih => exact .cons (hs _ a) b ih
theorem RowsAt.append {O : List (Addr × Obj)} {ys ys' : List Value} {ls ls' : List (List PySem.Str)} (h : RowsAt O ys ls) (h' : RowsAt O ys' ls') : RowsAt O (ys ++ ys') (ls ++ ls') := by
  induction h with
  | nil => exact h'
  | cons a b _ ih => exact .cons a b ih
section
variable {prog : Program} {w : World} {A : Around} {E : Value → Shared → Prop} {s₀ s : Shared} {h₀ : Heap} {L : Addr} {m : PySem.Str → Option Value} {C D I ax : Addr} {cm : PySem.Str → Option Value} {ys : List Value} {O : List (Addr × Obj)} {scope : Scope} {cl : List (PySem.Str × Addr)} {env : PySem.Env}
theorem LState.perm {O' : List (Addr × Obj)} (S : LState h₀ L m s₀ C cm D ys O s) (hs : ∀ p ∈ O', p ∈ O) : LState h₀ L m s₀ C cm D ys O' s := by
  obtain ⟨hp, tk, oC, rfl, S⟩ := S
  refine ⟨hp, tk, oC, rfl, S.fr, S.ns, fun p hp => S.news p ?_, S.ne, fun p hp => S.off p (hs p hp)⟩
  rcases List.mem_cons.mp hp with rfl | hp
  · exact List.mem_cons_self ..
  rcases List.mem_cons.mp hp with rfl | hp
  · exact List.mem_cons_of_mem _ (List.mem_cons_self ..)
  · exact List.mem_cons_of_mem _ (List.mem_cons_of_mem _ (hs p hp))
theorem star_name (x : PySem.Str) (px : Pos) (rest : List PySem.Expr) (env : PySem.Env) : starEach (.Name x px :: rest) env = (false, eval (.Name x px) env) :: starEach rest env := by rfl
/-- one more own name of a display -/
theorem own_more {x : PySem.Str} {px pos : Pos} {rest : List PySem.Expr} {v : Value} {Q : List Value → Shared → Prop} (hkind : scope.kind = .function) (S : LState h₀ L m s₀ C cm D ys O s) (hx : scope.names.lookup x = some .local) (hb : (x == PySem.Str.ofString "__debug__") = false) (he : cm x = some v)
    (h : wpAny (model prog w) A (spliced (backTo pos (starEach rest (compEnvC scope cl C env)))) (fun vs s' => Q (v :: vs) s') E s) : wpAny (model prog w) A (spliced (backTo pos (starEach (.Name x px :: rest) (compEnvC scope cl C env)))) Q E s := by
  obtain ⟨hp, tk, oC, rfl, S'⟩ := id S
  refine spliced_more ?_ (star_name _ _ _ _)
  exact LCgL.ld_own S'.news (List.mem_cons_self ..) S'.ns he h hkind (lookup_relabel_local hx) hb
/-- a tuple of the comprehension's own names -/
theorem own_tuple {pos : Pos} {kk : Nat} {elts : List PySem.Expr} {vs : List Value} {Q : Value → Shared → Prop} (S : LState h₀ L m s₀ C cm D ys O s) (hz : vs.length ≤ sizeLine)
    (hspl : ∀ {Q : List Value → Shared → Prop}, Q vs s → wpAny (model prog w) A (spliced (backTo pos (starEach elts (compEnvC scope cl C env)))) Q E s)
    (h : ∀ t s', (∀ p ∈ O, p.1 < t) → LState h₀ L m s₀ C cm D ys ((t, tupO vs) :: O) s' → Q (.ref t) s') : wpAny (model prog w) A (eval (.Tuple elts kk pos) (compEnvC scope cl C env)) Q E s := by
  refine Tuple_ (hspl ?_)
  obtain ⟨hp, tk, oC, rfl, S⟩ := S
  refine wpAny_newTuple ?_ hz
  have lt : ∀ p ∈ (C, oC) :: (D, LCg.lst ys) :: O, p.1 < hp.objs.size := fun p hp' => Heap.lt_size (S.news p hp').1
  have up : ∀ b o, hp.get? b = some o → (hp.push { cls := .type "tuple", data := .seq vs.toArray }).get? b = some o := fun b o e => Heap.get?_push_of_some _ e
  refine h _ _ (fun p hp' => lt p (List.mem_cons_of_mem _ (List.mem_cons_of_mem _ hp'))) ⟨_, tk, oC, rfl, S.fr.push _, S.ns, ?_, S.ne, ?_⟩
  · have N' := News.push S.fr S.news { cls := .type "tuple", data := .seq vs.toArray }
    intro p hp'
    rcases List.mem_cons.mp hp' with rfl | h1
    · exact N' _ (List.mem_cons_of_mem _ (List.mem_cons_self ..))
    rcases List.mem_cons.mp h1 with rfl | h1
    · exact N' _ (List.mem_cons_of_mem _ (List.mem_cons_of_mem _ (List.mem_cons_self ..)))
    rcases List.mem_cons.mp h1 with rfl | h1
    · exact N' _ (List.mem_cons_self ..)
    · exact N' _ (List.mem_cons_of_mem _ (List.mem_cons_of_mem _ (List.mem_cons_of_mem _ h1)))
  · intro p hp'
    rcases List.mem_cons.mp hp' with rfl | h1
    · exact ⟨Nat.ne_of_gt (lt (C, oC) (List.mem_cons_self ..)), Nat.ne_of_gt (lt (D, LCg.lst ys) (List.mem_cons_of_mem _ (List.mem_cons_self ..)))⟩
    · exact S.off p h1
theorem own_append {x : Value} {Q : Value → Shared → Prop} (S : LState h₀ L m s₀ C cm D ys O s) (hz : ys.length ≤ sizeLine) (h : ∀ s', LState h₀ L m s₀ C cm D (ys ++ [x]) O s' → Q .none s') :
    wpAny (model prog w) A (call (.builtin "list.append") [.ref D, x]) Q E s := by
  obtain ⟨hp, tk, oC, rfl, S⟩ := S
  have z := S.news (D, LCg.lst ys) (List.mem_cons_of_mem _ (List.mem_cons_self ..))
  refine append_at (hsz := by rw [List.size_toArray]; exact hz) z.1 fun h₅ hs₅ hD₅ => ?_
  refine h _ ⟨h₅, tk, oC, rfl, S.fr.change hs₅ z.2.1 z.2.2, S.ns, ?_, S.ne, S.off⟩
  refine news_set (l := [(C, oC)]) (r := O) S.news (fun p hp => ?_) hs₅ (hD₅.trans (congrArg some (LCg.lst_snoc ys x)))
  rcases List.mem_cons.mp hp with rfl | hp
  · exact S.ne
  · exact (S.off p hp).2
end
end
section
set_option maxRecDepth 100000
set_option maxHeartbeats 4000000
theorem RowsAt.length {O : List (Addr × Obj)} {ys : List Value} {ls : List (List PySem.Str)} (h : RowsAt O ys ls) : ys.length = ls.length := by
  induction h with
  | nil => rfl
  | cons _ _ _ ih => simp [ih]
section
variable {prog : Program} {w : World} {A : Around} {E : Value → Shared → Prop} {s₀ s : Shared} {h₀ : Heap} {L : Addr} {m : PySem.Str → Option Value} {C D I ax : Addr} {scope : Scope} {pos : Pos} {elt t0 i0 t1 i1 : PySem.Expr} {env : PySem.Env}
inductive InIv (h₀ : Heap) (L : Addr) (m : PySem.Str → Option Value) (s₀ : Shared) (C D I ax : Addr) (kd : String) (n : Nat) (rows : List (List PySem.Str)) (G : (PySem.Str → Option Value) → Prop) (B : List (Addr × Obj) → Prop) (ys : List Value) (O : List (Addr × Obj)) (i : Nat) (ls : List (List PySem.Str)) (k : Nat) (s : Shared) : Prop where
  | mk (j : Nat) (ys' : List Value) (cm' : PySem.Str → Option Value) (O' : List (Addr × Obj)) (oI' : Obj) (e : k = n + 1 - j) (h1 : i ≤ j) (h2 : j ≤ n) (h3 : ys'.length = ys.length + (j - i)) (h4 : G cm') (h5 : B O') (h6 : ∀ p ∈ O', p.1 ≠ I) (h7 : ∀ p ∈ O, p ∈ O') (h8 : ItAt kd oI' ax j) (h9 : LState h₀ L m s₀ C cm' D ys' ((I, oI') :: O') s) (h10 : RowsAt O' ys' (ls ++ (rows.drop i).take (j - i))) : InIv h₀ L m s₀ C D I ax kd n rows G B ys O i ls k s
/-- the inner clause: each item brings one row -/
theorem inner_go {kd : String} (hkd : kd = "tuple" ∨ kd = "list") (hh : A.handled = none) {its : List Value} {rows : List (List PySem.Str)} {G : (PySem.Str → Option Value) → Prop} {B : List (Addr × Obj) → Prop} {ox : Obj} {R : Result → Shared → Prop}
    (hlen : its.length = rows.length) (hx : SrcOf kd ox its.toArray) (hB : ∀ O, B O → (ax, ox) ∈ O) (hBm : ∀ O O', B O → (∀ p ∈ O, p ∈ O') → B O')
    (step : ∀ (i : Nat) v row cm ys O oI s (E' : Value → Shared → Prop), its[i]? = some v → rows[i]? = some row → G cm → B O → (∀ p ∈ O, p.1 ≠ I) → oI.cls = .type (kd ++ "_iterator") → LState h₀ L m s₀ C cm D ys ((I, oI) :: O) s →
      wpAny (model prog w) A (letOwnedTupleGo t1 (.ref I) v) (fun _ s₁ => wpAny (model prog w) A (assign t1 env v) (fun _ s₂ => wpAny (model prog w) A (eval elt env) (fun x s₃ =>
        ∃ cm' t vs, x = .ref t ∧ G cm' ∧ (∀ p ∈ (I, oI) :: O, p.1 < t) ∧ StrsAre vs row ∧ LState h₀ L m s₀ C cm' D ys ((t, tupO vs) :: (I, oI) :: O) s₃) E' s₂) E' s₁) E' s)
    (n : Nat) : ∀ (i : Nat) (ys : List Value) (ls : List (List PySem.Str)) cm O oI s, n = its.length + 1 - i → i ≤ its.length → ys.length ≤ 1000 → its.length ≤ 100 → G cm → B O → (∀ p ∈ O, p.1 ≠ I) → ItAt kd oI ax i → LState h₀ L m s₀ C cm D ys ((I, oI) :: O) s → RowsAt O ys ls →
      (∀ s' cm' ys' O', LState h₀ L m s₀ C cm' D ys' O' s' → G cm' → B O' → (∀ p ∈ O, p ∈ O') → RowsAt O' ys' (ls ++ rows.drop i) → R (.ok .next) s') →
      codeAny (model prog w) A (.compLoop (.ListComp elt [⟨t0, i0, [], 0⟩, ⟨t1, i1, [], 0⟩] scope pos) 1 (.ref I) (.ref D) env) R s := by
  intro i ys ls cm O oI s hn hi hys hits hG hBO off hI S hR fin
  refine loop_inner (InIv h₀ L m s₀ C D I ax kd its.length rows G B ys O i ls) ?_ n ⟨i, ys, cm, O, oI, hn, Nat.le_refl _, hi, by omega, hG, hBO, off, fun p hp => hp, hI, S, by simpa using hR⟩
  rintro k s ⟨j, ys', cm', O', oI', rfl, hij, hj, hl, hG, hBO', off', sub, hI, S, hR⟩
  by_cases hlt : j < its.length
  · obtain ⟨v, hv⟩ : ∃ v, its[j]? = some v := ⟨its[j], by simp [hlt]⟩
    obtain ⟨row, hrow⟩ : ∃ r, rows[j]? = some r := ⟨rows[j]'(by omega), by simp⟩
    refine next_some hkd S hI hx (hB _ hBO') off' (by simpa using hv) fun s₁ oI₁ hI₁ S₁ => ?_
    refine wpAny_mono (step j v row cm' ys' O' oI₁ s₁ _ hv hrow hG hBO' off' hI₁.1 S₁) (fun _ s₂ h₂ => wpAny_mono h₂ (fun _ s₃ h₃ => wpAny_mono h₃ (fun x s₄ h₄ => ?_) fun _ _ e => e) fun _ _ e => e) fun _ _ e => e
    obtain ⟨cm₂, t, vs, rfl, hG₂, lt, hvs, S₂⟩ := h₄
    refine own_append S₂ (by rw [sizeLine_eq]; omega) fun s₅ S₅ => ?_
    have low : ∀ p ∈ (t, tupO vs) :: O', p.1 ≠ I := fun p hp => by
      rcases List.mem_cons.mp hp with rfl | hp
      · exact Nat.ne_of_gt (lt _ (List.mem_cons_self ..))
      · exact off' p hp
    refine ⟨its.length + 1 - (j + 1), by omega, j + 1, ys' ++ [.ref t], cm₂, (t, tupO vs) :: O', oI₁, rfl, by omega, hlt, by rw [List.length_append, List.length_singleton, hl]; omega, hG₂, hBm _ _ hBO' fun p hp => List.mem_cons_of_mem _ hp, low, fun p hp => List.mem_cons_of_mem _ (sub p hp), hI₁, S₅.perm fun p hp => ?_, ?_⟩
    · rcases List.mem_cons.mp hp with rfl | hp
      · exact List.mem_cons_of_mem _ (List.mem_cons_self ..)
      rcases List.mem_cons.mp hp with rfl | hp
      · exact List.mem_cons_self ..
      · exact List.mem_cons_of_mem _ (List.mem_cons_of_mem _ hp)
    · have e : (rows.drop i).take (j + 1 - i) = (rows.drop i).take (j - i) ++ [row] := by
        rw [show j + 1 - i = (j - i) + 1 by omega, List.take_add_one, List.getElem?_drop, show i + (j - i) = j by omega, hrow]
        rfl
      rw [e, ← List.append_assoc]
      exact (hR.mono fun p hp => List.mem_cons_of_mem _ hp).append (.cons (List.mem_cons_self ..) hvs .nil)
  · obtain rfl : j = its.length := by omega
    refine next_none hkd hh S hI hx (hB _ hBO') off' (by simp) fun s' S' => ?_
    refine fin s' cm' ys' O' S' hG hBO' sub ?_
    rw [List.take_of_length_le (by rw [List.length_drop]; omega)] at hR
    exact hR
end
end
section
set_option maxRecDepth 100000
set_option maxHeartbeats 4000000
section
variable {prog : Program} {w : World} {A : Around} {E : Value → Shared → Prop} {s₀ s : Shared} {h₀ : Heap} {L : Addr} {m : PySem.Str → Option Value} {C D I ax : Addr} {scope : Scope} {pos : Pos} {elt t0 i0 t1 i1 : PySem.Expr} {env : PySem.Env} {it acc : Value} {R : Result → Shared → Prop}
theorem start_inner (h0 : codeAny (model prog w) A (.compLoop (.ListComp elt [⟨t0, i0, [], 0⟩, ⟨t1, i1, [], 0⟩] scope pos) 1 it acc env) R s)
    (h : wpAny (model prog w) A (pyIter it) (fun it' s' => codeAny (model prog w) A (.compLoop (.ListComp elt [⟨t0, i0, [], 0⟩, ⟨t1, i1, [], 0⟩] scope pos) 1 it' acc env) R s') (notedBy (model prog w) A env fun x s' => R (.error x) s') s) :
    codeAny (model prog w) A (.compStart (.ListComp elt [⟨t0, i0, [], 0⟩, ⟨t1, i1, [], 0⟩] scope pos) 1 it acc env) R s := by
  refine codeAny_of_tree ?_
  show wpAny _ _ ((compStart (.ListComp elt [⟨t0, i0, [], 0⟩, ⟨t1, i1, [], 0⟩] scope pos) 1 it acc env).onRaise (fun x => do noteFrame x env; standAt theWindowsPlace)) _ _ s
  refine wpAny_notedAt ?_
  unfold compStart
  show wpAny _ _ (ask >>= _) _ _ s
  refine wpAny_bind (wpAny_askSetting (wpAny_ite ?_))
  split
  · first
      | exact wpAny_bind (wpAny_pure (wpAny_pure (And.intro rfl h0)))
      | exact wpAny_pure (And.intro rfl h0)
  · refine wpAny_bind (wpAny_rule ?_)
    show wpAny _ _ (standAt i1.pos >>= _) _ _ s
    exact wpAny_bind (wpAny_standAt (wpAny_bind (wpAny_mono h (fun it' s' h' => wpAny_pure (And.intro rfl h')) fun _ _ x => x)))
theorem iter_self {kd : String} (hkd : kd = "tuple" ∨ kd = "list") {oI : Obj} {i : Nat} {cm : PySem.Str → Option Value} {ys : List Value} {O : List (Addr × Obj)} {Q : Value → Shared → Prop} (S : LState h₀ L m s₀ C cm D ys ((I, oI) :: O) s) (hI : ItAt kd oI ax i) (h : Q (.ref I) s) : wpAny (model prog w) A (pyIter (.ref I)) Q E s := by
  obtain ⟨hp, tk, oC, rfl, S⟩ := S
  have hgI := (S.news (I, oI) (List.mem_cons_of_mem _ (List.mem_cons_of_mem _ (List.mem_cons_self ..)))).1
  rcases hkd with rfl | rfl
  · exact wpAny_pyIter_tupleiter (t := ax) (i := i) ⟨oI, hgI, hI.1, hI.2⟩ h
  · exact wpAny_pyIter_listiter (l := ax) (i := i) ⟨oI, hgI, hI.1, hI.2⟩ h
theorem LSt.push {h : Heap} {oC : Obj} {cm : PySem.Str → Option Value} {ys : List Value} {O : List (Addr × Obj)} (S : LSt h₀ L m C cm D ys O oC h) (o : Obj) (hfree : o.isFreed = false) : LSt h₀ L m C cm D ys ((h.objs.size, o) :: O) oC (h.push o) := by
  have lt : ∀ p ∈ (C, oC) :: (D, LCg.lst ys) :: O, p.1 < h.objs.size := fun p hp' => Heap.lt_size (S.news p hp').1
  refine ⟨S.fr.push _, S.ns, ?_, S.ne, ?_⟩
  · have N' := News.push S.fr S.news o hfree
    intro p hp'
    rcases List.mem_cons.mp hp' with rfl | h1
    · exact N' _ (List.mem_cons_of_mem _ (List.mem_cons_self ..))
    rcases List.mem_cons.mp h1 with rfl | h1
    · exact N' _ (List.mem_cons_of_mem _ (List.mem_cons_of_mem _ (List.mem_cons_self ..)))
    rcases List.mem_cons.mp h1 with rfl | h1
    · exact N' _ (List.mem_cons_self ..)
    · exact N' _ (List.mem_cons_of_mem _ (List.mem_cons_of_mem _ (List.mem_cons_of_mem _ h1)))
  · intro p hp'
    rcases List.mem_cons.mp hp' with rfl | h1
    · exact ⟨Nat.ne_of_gt (lt (C, oC) (List.mem_cons_self ..)), Nat.ne_of_gt (lt (D, LCg.lst ys) (List.mem_cons_of_mem _ (List.mem_cons_self ..)))⟩
    · exact S.off p h1
theorem iter_make {kd : String} (hkd : kd = "tuple" ∨ kd = "list") {ox : Obj} {its : Array Value} {cm : PySem.Str → Option Value} {ys : List Value} {O : List (Addr × Obj)} {Q : Value → Shared → Prop} (S : LState h₀ L m s₀ C cm D ys O s) (hx : SrcOf kd ox its) (hm : (ax, ox) ∈ O)
    (h : ∀ I oI s', ItAt kd oI ax 0 → (∀ p ∈ O, p.1 < I) → LState h₀ L m s₀ C cm D ys ((I, oI) :: O) s' → Q (.ref I) s') : wpAny (model prog w) A (pyIter (.ref ax)) Q E s := by
  obtain ⟨hp, tk, oC, rfl, S⟩ := S
  have hgx := (S.news (ax, ox) (List.mem_cons_of_mem _ (List.mem_cons_of_mem _ hm))).1
  obtain ⟨cx, n, dx⟩ := hx
  have lt : ∀ p ∈ O, p.1 < hp.objs.size := fun p hp' => Heap.lt_size (S.news p (List.mem_cons_of_mem _ (List.mem_cons_of_mem _ hp'))).1
  rcases hkd with rfl | rfl
  · exact wpAny_pyIter_tuple (items := its) ⟨ox, hgx, cx, n, dx⟩ (h _ _ _ ⟨rfl, rfl⟩ lt ⟨_, tk, oC, rfl, S.push _ rfl⟩)
  · exact wpAny_pyIter_list (items := its) ⟨ox, hgx, cx, n, dx⟩ (h _ _ _ ⟨rfl, rfl⟩ lt ⟨_, tk, oC, rfl, S.push _ rfl⟩)
end
end
section
set_option maxRecDepth 100000
set_option maxHeartbeats 4000000
theorem RowsAt.keep {O O' : List (Addr × Obj)} {ys : List Value} {ls : List (List PySem.Str)} (h : RowsAt O ys ls) (hs : ∀ t vs, (t, tupO vs) ∈ O → True → (t, tupO vs) ∈ O') : RowsAt O' ys ls := by
  induction h with
  | nil => exact .nil
  | cons a b _ ih => exact .cons (hs _ _ a trivial) b ih
section
variable {prog : Program} {w : World} {A : Around} {E : Value → Shared → Prop} {s₀ s : Shared} {h₀ : Heap} {L : Addr} {m : PySem.Str → Option Value} {C D I ax : Addr} {scope : Scope} {pos : Pos} {elt t0 i0 t1 i1 : PySem.Expr} {env : PySem.Env}
inductive OutIv (h₀ : Heap) (L : Addr) (m : PySem.Str → Option Value) (s₀ : Shared) (C D I ax : Addr) (kd : String) (n : Nat) (blocks : List (List (List PySem.Str))) (G : (PySem.Str → Option Value) → Prop) (B : List (Addr × Obj) → Prop) (O : List (Addr × Obj)) (i : Nat) (ls : List (List PySem.Str)) (k : Nat) (s : Shared) : Prop where
  | mk (j : Nat) (ys' : List Value) (cm' : PySem.Str → Option Value) (O' : List (Addr × Obj)) (oI' : Obj) (e : k = n + 1 - j) (h1 : i ≤ j) (h2 : j ≤ n) (h3 : ys'.length ≤ j * 9) (h4 : G cm') (h5 : B O') (h6 : ∀ p ∈ O', p.1 ≠ I) (h7 : ∀ p ∈ O, p ∈ O') (h8 : ItAt kd oI' ax j) (h9 : LState h₀ L m s₀ C cm' D ys' ((I, oI') :: O') s) (h10 : RowsAt O' ys' (ls ++ ((blocks.drop i).take (j - i)).flatten)) : OutIv h₀ L m s₀ C D I ax kd n blocks G B O i ls k s
/-- the outer clause: each item brings a block of rows -/
theorem outer_go {kd : String} (hkd : kd = "tuple" ∨ kd = "list") (hh : A.handled = none) {its : List Value} {blocks : List (List (List PySem.Str))} {G : (PySem.Str → Option Value) → Prop} {B : List (Addr × Obj) → Prop} {ox : Obj} {R : Result → Shared → Prop}
    (hlen : its.length = blocks.length) (hx : SrcOf kd ox its.toArray) (hB : ∀ O, B O → (ax, ox) ∈ O) (hBm : ∀ O O', B O → (∀ p ∈ O, p ∈ O') → B O') (hits : its.length ≤ 9) (hblk : ∀ b ∈ blocks, b.length ≤ 9) (hs : ∀ x, foldedSetIterable i1 env x = pure x)
    (step : ∀ (i : Nat) v blk cm ys ls O oI s (E' : Value → Shared → Prop) (R' : Result → Shared → Prop), its[i]? = some v → blocks[i]? = some blk → G cm → B O → (∀ p ∈ O, p.1 ≠ I) → oI.cls = .type (kd ++ "_iterator") → LState h₀ L m s₀ C cm D ys ((I, oI) :: O) s → ys.length ≤ 200 → RowsAt O ys ls →
      (∀ s' cm' ys' O', LState h₀ L m s₀ C cm' D ys' O' s' → G cm' → (∀ p ∈ (I, oI) :: O, p ∈ O') → RowsAt O' ys' (ls ++ blk) → R' (.ok .next) s') →
      wpAny (model prog w) A (letOwnedTupleGo t0 (.ref I) v) (fun _ s₁ => wpAny (model prog w) A (assign t0 env v) (fun _ s₂ => wpAny (model prog w) A (eval i1 env) (fun x s₃ => wpAny (model prog w) A (pyIter x) (fun it' s₄ =>
        codeAny (model prog w) A (.compStart (.ListComp elt [⟨t0, i0, [], 0⟩, ⟨t1, i1, [], 0⟩] scope pos) 1 it' (.ref D) env) R' s₄) E' s₃) E' s₂) E' s₁) E' s)
    (n : Nat) : ∀ (i : Nat) (ys : List Value) (ls : List (List PySem.Str)) cm O oI s, n = its.length + 1 - i → i ≤ its.length → ys.length ≤ i * 9 → G cm → B O → (∀ p ∈ O, p.1 ≠ I) → ItAt kd oI ax i → LState h₀ L m s₀ C cm D ys ((I, oI) :: O) s → RowsAt O ys ls →
      (∀ s' cm' ys' O', LState h₀ L m s₀ C cm' D ys' O' s' → (∀ p ∈ O, p ∈ O') → RowsAt O' ys' (ls ++ (blocks.drop i).flatten) → R (.ok .next) s') →
      codeAny (model prog w) A (.compLoop (.ListComp elt [⟨t0, i0, [], 0⟩, ⟨t1, i1, [], 0⟩] scope pos) 0 (.ref I) (.ref D) env) R s := by
  intro i ys ls cm O oI s hn hi hys hG hBO off hI S hR fin
  refine loop_outer (OutIv h₀ L m s₀ C D I ax kd its.length blocks G B O i ls) ?_ n ⟨i, ys, cm, O, oI, hn, Nat.le_refl _, hi, hys, hG, hBO, off, fun p hp => hp, hI, S, by simpa using hR⟩ hs
  rintro k s ⟨j, ys', cm', O', oI', rfl, hij, hj, hl, hG, hBO', off', sub, hI, S, hR⟩
  by_cases hlt : j < its.length
  · obtain ⟨v, hv⟩ : ∃ v, its[j]? = some v := ⟨its[j], by simp [hlt]⟩
    obtain ⟨blk, hrow⟩ : ∃ r, blocks[j]? = some r := ⟨blocks[j]'(by omega), by simp⟩
    have hb9 : blk.length ≤ 9 := hblk _ (List.mem_of_getElem? hrow)
    refine next_some hkd S hI hx (hB _ hBO') off' (by simpa using hv) fun s₁ oI₁ hI₁ S₁ => ?_
    refine step j v blk cm' ys' _ O' oI₁ s₁ _ _ hv hrow hG hBO' off' hI₁.1 S₁ (by omega) hR fun s₂ cm₂ ys₂ O₂ S₂ hG₂ sub₂ hR₂ => ?_
    have keepR : ∀ {r : Addr × Obj}, r ∈ O₂ → r.1 ≠ I → r ∈ O₂.filter (fun p => decide (p.1 ≠ I)) := fun h1 h2 => List.mem_filter.mpr ⟨h1, decide_eq_true h2⟩
    refine ⟨its.length + 1 - (j + 1), by omega, j + 1, ys₂, cm₂, O₂.filter (fun p => decide (p.1 ≠ I)), oI₁, rfl, by omega, hlt, ?_, hG₂, ?_, ?_, ?_, hI₁, S₂.perm fun p hp => ?_, ?_⟩
    · have x1 := hR₂.length
      have x2 := hR.length
      rw [List.length_append] at x1
      omega
    · exact hBm _ _ hBO' fun p hp => keepR (sub₂ p (List.mem_cons_of_mem _ hp)) (off' p hp)
    · exact fun p hp => of_decide_eq_true (List.mem_filter.mp hp).2
    · exact fun p hp => keepR (sub₂ p (List.mem_cons_of_mem _ (sub p hp))) (off' p (sub p hp))
    · rcases List.mem_cons.mp hp with rfl | hp
      · exact sub₂ _ (List.mem_cons_self ..)
      · exact (List.mem_filter.mp hp).1
    · have e : (blocks.drop i).take (j + 1 - i) = (blocks.drop i).take (j - i) ++ [blk] := by
        rw [show j + 1 - i = (j - i) + 1 by omega, List.take_add_one, List.getElem?_drop, show i + (j - i) = j by omega, hrow]
        rfl
      have e2 : ls ++ ((blocks.drop i).take (j + 1 - i)).flatten = (ls ++ ((blocks.drop i).take (j - i)).flatten) ++ blk := by
        rw [e, List.flatten_append, List.append_assoc]
        simp
      rw [e2]
      refine hR₂.keep fun t vs hm ht => ?_
      refine keepR hm fun q => ?_
      obtain ⟨hp, tk, oC, rfl, S'⟩ := S₂
      have z1 := (S'.news (I, oI₁) (List.mem_cons_of_mem _ (List.mem_cons_of_mem _ (sub₂ _ (List.mem_cons_self ..))))).1
      have z2 := (S'.news (t, tupO vs) (List.mem_cons_of_mem _ (List.mem_cons_of_mem _ hm))).1
      have q' : t = I := q
      rw [q', z1] at z2
      have z3 := congrArg Obj.cls (Option.some.inj z2)
      rw [hI₁.1] at z3
      have z4 : Value.type (kd ++ "_iterator") = Value.type "tuple" := z3
      rcases hkd with rfl | rfl
      · exact absurd z4 (by decide)
      · exact absurd z4 (by decide)
  · obtain rfl : j = its.length := by omega
    refine next_none hkd hh S hI hx (hB _ hBO') off' (by simp) fun s' S' => ?_
    refine fin s' cm' ys' O' S' sub ?_
    rw [List.take_of_length_le (by rw [List.length_drop]; omega)] at hR
    exact hR
end
end
section
set_option maxRecDepth 100000
set_option maxHeartbeats 4000000
section
variable {prog : Program} {w : World} {A : Around} {E : Value → Shared → Prop} {s : Shared} {h₀ : Heap} {L : Addr} {m : PySem.Str → Option Value} {env : PySem.Env} {scope : Scope} {cl : List (PySem.Str × Addr)} {news : List (Addr × Obj)}
/-- a comprehension's frame and list are made -/
theorem comp_frame (hcell : ∀ y ∈ scope.names, y.2 ≠ .cell) (hkind : scope.kind = .function) {K : Value → PySem.Env → Shared → Prop} {E' : Value → Shared → Prop} (F : Fr h₀ L s.heap m) (N : News h₀ L s.heap news)
    (k : ∀ D C cm s', LState h₀ L m s C cm D [] news s' → C ≠ L → h₀.get? C = none → K (.ref D) (compEnvC scope cl C env) s') :
    wpAny (model prog w) A (newList []) (fun acc s₃ => wpAny (model prog w) A (newFunctionEnv scope env.globals cl [] env.qual none .none (some env)) (fun cenv s₄ => K acc { cenv with scope := relabel scope env } s₄) E' s₃) E s := by
  refine wpAny_newObj_type (wpAny_newFunctionEnv hcell (by intro y hy; simp at hy) (fun h₁ hns₁ hsb₁ => ?_) hkind)
  dsimp only at hns₁ hsb₁ ⊢
  generalize hH2 : s.heap.push { cls := .type "list", dict := none, data := .seq ([] : List Value).toArray } = H2 at hns₁ hsb₁ ⊢
  have hC : H2.objs.size = s.heap.objs.size + 1 := by rw [← hH2, Heap.size_push]
  have hDC : s.heap.objs.size ≠ H2.objs.size := by rw [hC]; exact Nat.ne_of_lt (Nat.lt_succ_self _)
  have below : ∀ b, b < s.heap.objs.size → b ≠ H2.objs.size ∧ b ≠ s.heap.objs.size := fun b hb => ⟨by rw [hC]; exact Nat.ne_of_lt (Nat.lt_succ_of_lt hb), Nat.ne_of_lt hb⟩
  have old : ∀ b o, s.heap.get? b = some o → h₁.get? b = some o := fun b o e => hsb₁.extBut b o (below b (Heap.lt_size e)).1 (Heap.get?_push_of_some _ (hH2 ▸ Heap.get?_push_of_some _ e))
  have hacc : h₁.get? s.heap.objs.size = some (LCg.lst []) := hsb₁.extBut _ _ hDC (Heap.get?_push_of_some _ (hH2 ▸ Heap.get?_push_size _ rfl))
  have fresh₀ : ∀ a, s.heap.objs.size ≤ a → h₀.get? a = none := fun a ha => by
    cases e : h₀.get? a with
    | none => rfl
    | some o' => exact absurd (Heap.lt_size (F.keep a o' e)) (Nat.not_lt.mpr ha)
  have hLlt : L < s.heap.objs.size := F.ns.lt
  have hCL : H2.objs.size ≠ L := Ne.symm (below L hLlt).1
  have hDL : s.heap.objs.size ≠ L := Ne.symm (below L hLlt).2
  have hC₀ : h₀.get? H2.objs.size = none := fresh₀ _ (by rw [hC]; exact Nat.le_succ _)
  obtain ⟨oC, heC, hoC⟩ := LCg.ns_obj hns₁
  refine k s.heap.objs.size H2.objs.size _ _ ⟨h₁, _, oC, rfl, F.keeps old, hoC, fun p hp => ?_, Ne.symm hDC, fun p hp => below _ (Heap.lt_size (N p hp).1)⟩ hCL hC₀
  rcases List.mem_cons.mp hp with rfl | hp
  · exact ⟨heC, hCL, hC₀⟩
  rcases List.mem_cons.mp hp with rfl | hp
  · exact ⟨hacc, hDL, fresh₀ _ (Nat.le_refl _)⟩
  · exact ⟨old _ _ (N p hp).1, (N p hp).2⟩
end
end
section
set_option maxRecDepth 100000
set_option maxHeartbeats 4000000
section
variable {prog : Program} {w : World} {A : Around} {E : Value → Shared → Prop} {s : Shared} {h₀ : Heap} {L : Addr} {m : PySem.Str → Option Value} {env : PySem.Env} {scope : Scope} {cl : List (PySem.Str × Addr)} {elt t0 i0 t1 i1 : PySem.Expr} {pos spos py : Pos} {y : PySem.Str} {Q : Flow → Shared → Prop}
/-- a name is bound to a list of two clauses -/
theorem assign_two (hLe : env.locals = L) (hsw : swapsWith (.ListComp elt [⟨t0, i0, [], 0⟩, ⟨t1, i1, [], 0⟩] scope pos) (some (.Name y py)) spos.line env = pure true)
    (hclos : closureFor scope env = pure cl) (hcell : ∀ z ∈ scope.names, z.2 ≠ .cell) (hkind : scope.kind = .function) (hnames : ∀ z ∈ scope.names, z.2 = .local → scope.names.lookup z.1 = some .local)
    (hy : env.kindOf y = some .local) (hp : (env.scope.kind == .class || (env.scope.kind == .module && env.locals != env.globals)) = false) (hs : ∀ x, foldedSetIterable i0 env x = pure x)
    (h : wpAny (model prog w) A (eval i0 env) (fun xv s₁ => wpAny (model prog w) A (pyIter xv) (fun it s₂ => ∃ kd I oI ax news, (kd = "tuple" ∨ kd = "list") ∧ it = .ref I ∧ ItAt kd oI ax 0 ∧ Fr h₀ L s₂.heap m ∧ News h₀ L s₂.heap ((I, oI) :: news) ∧
      ∀ D C cm s' (R : Result → Shared → Prop), LState h₀ L m s₂ C cm D [] ((I, oI) :: news) s' →
        (∀ s₄ cm' ys O', LState h₀ L m s₂ C cm' D ys O' s₄ → (∀ h tk, Fr h₀ L h (fun z => if z = y then some (.ref D) else m z) → News h₀ L h ((D, LCg.lst ys) :: O') → (∀ p ∈ O', p.1 ≠ D) → Q .next { s₂ with heap := h, toks := tk }) → R (.ok .next) s₄) →
        codeAny (model prog w) A (.compLoop (.ListComp elt [⟨t0, i0, [], 0⟩, ⟨t1, i1, [], 0⟩] scope pos) 0 (.ref I) (.ref D) (compEnvC scope cl C env)) R s') E s₁) E s) :
    wpAny (model prog w) A (exec (.Assign [.Name y py] (.ListComp elt [⟨t0, i0, [], 0⟩, ⟨t1, i1, [], 0⟩] scope pos) spos) env) Q E s := by
  subst hLe
  rw [exec_Assign_Name_used _ _ _ _ hsw]
  refine wpAny_bind (wpAny_standAt (wpAny_bind ?_))
  show wpAny _ A (do let _ ← comprehension (.ListComp elt [⟨t0, i0, [], 0⟩, ⟨t1, i1, [], 0⟩] scope pos) scope env _ (newList []) false (eval i0 env) (some (assign (.Name y py) env))) _ _ s
  refine wpAny_bind (wpAny_mono (wpAny_comprehension_free (use := some (assign (.Name y py) env)) (Q := fun _ s' => Q .next s') rfl hs hclos hkind hnames
    (wpAny_mono h (fun xv s₁ h₁ => wpAny_mono h₁ (fun it s₂ h₂ => ?_) fun _ _ e => e) fun _ _ e => e)) (fun _ s' hq => wpAny_pure (wpAny_pure hq)) fun _ _ e => e)
  obtain ⟨kd, I, oI, ax, news, hkd, rfl, hI, F, N, go⟩ := h₂
  refine comp_frame (K := fun acc cenv s₄ => codeAny (model prog w) A (.compStart (.ListComp elt [⟨t0, i0, [], 0⟩, ⟨t1, i1, [], 0⟩] scope pos) 0 (.ref I) acc cenv) (compPost (model prog w) A E (some (assign (.Name y py) env)) (fun _ s' => Q .next s') acc cenv.locals) s₄) hcell hkind F N fun D C cm s' S hCL hC₀ => ?_
  have loop : codeAny (model prog w) A (.compLoop (.ListComp elt [⟨t0, i0, [], 0⟩, ⟨t1, i1, [], 0⟩] scope pos) 0 (.ref I) (.ref D) (compEnvC scope cl C env)) (compPost (model prog w) A E (some (assign (.Name y py) env)) (fun _ s' => Q .next s') (.ref D) C) s' := by
    refine go D C cm s' _ S fun s₄ cm' ys O' S₄ fin => ?_
    obtain ⟨h', tk, oC, rfl, S₄⟩ := S₄
    show wpAny _ A (assign (.Name y py) env (.ref D)) _ _ _
    refine wpAny_assign_Name (wpAny_storeName_local hy S₄.fr.ns (fun h₂ hn₂ hs₂ => ?_) hp)
    have hL₀ : h₀.get? env.locals = none := Heap.get?_none_of_le S₄.fr.above
    have F₂ : Fr h₀ env.locals h₂ (fun z => if z = y then some (.ref D) else m z) := ⟨hn₂, fun b o e => hs₂.extBut b o (fun q => by rw [q, hL₀] at e; cases e) (S₄.fr.keep b o e), S₄.fr.above⟩
    have zC := S₄.news (C, oC) (List.mem_cons_self ..)
    refine ⟨cm', (S₄.ns.ns zC.1).sameBut hs₂ hCL, fun h'' hs'' => fin h'' _ (F₂.change hs'' hCL hC₀) (fun p hp => ?_) fun p hp => (S₄.off p hp).2⟩
    have z := S₄.news p (List.mem_cons_of_mem _ hp)
    refine ⟨hs''.extBut _ _ ?_ (hs₂.extBut _ _ z.2.1 z.1), z.2⟩
    rcases List.mem_cons.mp hp with rfl | hp
    · exact Ne.symm S₄.ne
    · exact (S₄.off p hp).1
  exact codeAny_compStart_list loop (iter_self hkd S hI loop)
end
end
section
set_option maxRecDepth 100000
set_option maxHeartbeats 4000000
section
variable {prog : Program} {w : World} {A : Around} {E : Value → Shared → Prop} {s₀ s : Shared} {h₀ : Heap} {L : Addr} {m : PySem.Str → Option Value} {C D I ax : Addr} {cm : PySem.Str → Option Value} {ys : List Value} {O : List (Addr × Obj)} {scope : Scope} {cl : List (PySem.Str × Addr)} {env : PySem.Env}
theorem LState.tick {k : Nat} (S : LState h₀ L m s₀ C cm D ys O s) : LState h₀ L m s₀ C cm D ys O { s with toks := k } := by
  obtain ⟨hp, tk, oC, rfl, S⟩ := S
  exact ⟨hp, k, oC, rfl, S⟩
theorem new_tup {vs : List Value} {Q : Value → Shared → Prop} (S : LState h₀ L m s₀ C cm D ys O s) (hz : vs.length ≤ sizeLine)
    (h : ∀ t s', (∀ p ∈ O, p.1 < t) → LState h₀ L m s₀ C cm D ys ((t, tupO vs) :: O) s' → Q (.ref t) s') : wpAny (model prog w) A (newTuple vs) Q E s := by
  obtain ⟨hp, tk, oC, rfl, S⟩ := S
  refine wpAny_newTuple ?_ hz
  have lt : ∀ p ∈ O, p.1 < hp.objs.size := fun p hp' => Heap.lt_size (S.news p (List.mem_cons_of_mem _ (List.mem_cons_of_mem _ hp'))).1
  exact h _ _ lt ⟨_, tk, oC, rfl, S.push _ rfl⟩
/-- a tuple of three constant texts -/
theorem own_lit3 {a b c : PySem.Str} {k1 k2 k3 kk : Nat} {p1 p2 p3 pos : Pos} {Q : Value → Shared → Prop} (S : LState h₀ L m s₀ C cm D ys O s)
    (h : ∀ t u1 u2 u3 s', (∀ p ∈ O, p.1 < t) → LState h₀ L m s₀ C cm D ys ((t, tupO [.str a u1, .str b u2, .str c u3]) :: O) s' → Q (.ref t) s') :
    wpAny (model prog w) A (eval (.Tuple [.Constant (.str a) k1 p1, .Constant (.str b) k2 p2, .Constant (.str c) k3 p3] kk pos) env) Q E s := by
  refine Tuple_ (spliced_more ?_ (by rfl))
  refine wpAny_Constant_str (spliced_more ?_ (by rfl))
  refine wpAny_Constant_str (spliced_more ?_ (by rfl))
  refine wpAny_Constant_str (spliced_none ?_)
  exact new_tup (S.tick.tick.tick) (by rw [sizeLine_eq]; simp) fun t s' lt S' => h t _ _ _ s' lt S'
end
end
section
set_option maxRecDepth 100000
set_option maxHeartbeats 4000000
section
variable {prog : Program} {w : World} {A : Around} {E : Value → Shared → Prop} {s₀ s : Shared} {h₀ : Heap} {L : Addr} {m : PySem.Str → Option Value} {news : List (Addr × Obj)} {scope : Scope} {cl : List (PySem.Str × Addr)} {env : PySem.Env}
theorem lit3_N {a b c : PySem.Str} {k1 k2 k3 kk : Nat} {p1 p2 p3 pos : Pos} {Q : Value → Shared → Prop} (F : Fr h₀ L s.heap m) (N : News h₀ L s.heap news)
    (h : ∀ t u1 u2 u3 h' tk, (∀ p ∈ news, p.1 < t) → Fr h₀ L h' m → News h₀ L h' ((t, tupO [.str a u1, .str b u2, .str c u3]) :: news) → Q (.ref t) { s with heap := h', toks := tk }) :
    wpAny (model prog w) A (eval (.Tuple [.Constant (.str a) k1 p1, .Constant (.str b) k2 p2, .Constant (.str c) k3 p3] kk pos) env) Q E s := by
  refine Tuple_ (spliced_more ?_ (by rfl))
  refine wpAny_Constant_str (spliced_more ?_ (by rfl))
  refine wpAny_Constant_str (spliced_more ?_ (by rfl))
  refine wpAny_Constant_str (spliced_none ?_)
  refine wpAny_newTuple ?_ (by rw [sizeLine_eq]; simp)
  exact h _ _ _ _ _ _ (fun p hp => Heap.lt_size (N p hp).1) (F.push _) (News.push F N _)
theorem iter_N {ax : Addr} {vs : List Value} {Q : Value → Shared → Prop} (F : Fr h₀ L s.heap m) (N : News h₀ L s.heap news) (hm : (ax, tupO vs) ∈ news)
    (h : ∀ I oI h', ItAt "tuple" oI ax 0 → (∀ p ∈ news, p.1 < I) → Fr h₀ L h' m → News h₀ L h' ((I, oI) :: news) → Q (.ref I) { s with heap := h' }) : wpAny (model prog w) A (pyIter (.ref ax)) Q E s :=
  wpAny_pyIter_tuple (items := vs.toArray) ⟨_, (N _ hm).1, rfl, _, rfl⟩ (h _ _ _ ⟨rfl, rfl⟩ (fun p hp => Heap.lt_size (N p hp).1) (F.push _) (News.push F N _))
end
end
section
set_option maxRecDepth 100000
set_option maxHeartbeats 4000000
section
variable {prog : Program} {w : World} {A : Around} {E : Value → Shared → Prop} {s₀ s : Shared} {h₀ : Heap} {L : Addr} {m : PySem.Str → Option Value} {news : List (Addr × Obj)} {scope : Scope} {cl : List (PySem.Str × Addr)} {env : PySem.Env}
/-- the inner clause over three texts -/
theorem ways_inner {C D I ax : Addr} {one other a b1 b2 b3 : PySem.Str} {ua u1 u2 u3 : Tok} {t0 i0 i1 : PySem.Expr} {q1 q2 q3 px pos : Pos} {kk : Nat} {R : Result → Shared → Prop} {B : List (Addr × Obj) → Prop} {cm : PySem.Str → Option Value} {ys : List Value} {ls : List (List PySem.Str)} {O : List (Addr × Obj)} {oI : Obj}
    (hh : A.handled = none) (hkind : scope.kind = .function) (h1 : scope.names.lookup one = some .local) (h2 : scope.names.lookup other = some .local) (hne : one ≠ other) (d1 : (one == PySem.Str.ofString "__debug__") = false) (d2 : (other == PySem.Str.ofString "__debug__") = false)
    (hBm : ∀ O O', B O → (∀ p ∈ O, p ∈ O') → B O') (hG : cm one = some (.str a ua)) (hBO : B O) (hax : (ax, tupO [.str b1 u1, .str b2 u2, .str b3 u3]) ∈ O) (off : ∀ p ∈ O, p.1 ≠ I) (hI : ItAt "tuple" oI ax 0) (hys : ys.length ≤ 200)
    (S : LState h₀ L m s₀ C cm D ys ((I, oI) :: O) s) (hR : RowsAt O ys ls)
    (fin : ∀ s' cm' ys' O', LState h₀ L m s₀ C cm' D ys' O' s' → B O' → (∀ p ∈ O, p ∈ O') → RowsAt O' ys' (ls ++ [[a, b1], [a, b2], [a, b3]]) → R (.ok .next) s') :
    codeAny (model prog w) A (.compLoop (.ListComp (.Tuple [.Name one q1, .Name other q2] kk q3) [⟨t0, i0, [], 0⟩, ⟨.Name other px, i1, [], 0⟩] scope pos) 1 (.ref I) (.ref D) (compEnvC scope cl C env)) R s := by
  refine inner_go (kd := "tuple") (ax := ax) (ox := tupO [.str b1 u1, .str b2 u2, .str b3 u3]) (its := [.str b1 u1, .str b2 u2, .str b3 u3]) (rows := [[a, b1], [a, b2], [a, b3]]) (G := fun cm => cm one = some (.str a ua)) (B := fun O => B O ∧ (ax, tupO [.str b1 u1, .str b2 u2, .str b3 u3]) ∈ O)
    (.inl rfl) hh rfl ⟨rfl, _, rfl⟩ (fun O h => h.2) (fun O O' h k => ⟨hBm O O' h.1 k, k _ h.2⟩) ?_ _ 0 ys ls cm O oI s rfl (Nat.zero_le _) (by omega) (by simp) hG ⟨hBO, hax⟩ off hI S hR (fun s' cm' ys' O' S' _ b sub r => fin s' cm' ys' O' S' b.1 sub r)
  intro i v row cm₁ ys₁ O₁ oI₁ s₁ E' hv hrow hG₁ hB₁ off₁ hc₁ S₁
  have key : ∃ b u, v = .str b u ∧ row = [a, b] := by
    match i, hv, hrow with
    | 0, hv, hrow => simp at hv hrow; exact ⟨_, _, hv.symm, hrow.symm⟩
    | 1, hv, hrow => simp at hv hrow; exact ⟨_, _, hv.symm, hrow.symm⟩
    | 2, hv, hrow => simp at hv hrow; exact ⟨_, _, hv.symm, hrow.symm⟩
    | n + 3, hv, hrow => simp at hv
  obtain ⟨b, u, rfl, rfl⟩ := key
  refine wpAny_pure (own_store h2 hkind S₁ fun s₂ S₂ => ?_)
  have g1 : (fun z => if z = other then some (Value.str b u) else cm₁ z) one = some (.str a ua) := (if_neg hne).trans hG₁
  have g2 : (fun z => if z = other then some (Value.str b u) else cm₁ z) other = some (.str b u) := if_pos rfl
  refine own_tuple (vs := [.str a ua, .str b u]) S₂ (by rw [sizeLine_eq]; simp) (fun {Q} hq => own_more hkind S₂ h1 d1 g1 (own_more hkind S₂ h2 d2 g2 (spliced_none hq))) fun t s' lt S' => ?_
  exact ⟨_, t, _, rfl, g1, lt, .cons _ _ (.cons _ _ .nil), S'⟩
end
end
section
set_option maxRecDepth 100000
set_option maxHeartbeats 4000000
section
variable {prog : Program} {w : World} {A : Around} {E : Value → Shared → Prop} {s₀ s : Shared} {h₀ : Heap} {L : Addr} {m : PySem.Str → Option Value} {news : List (Addr × Obj)} {scope : Scope} {cl : List (PySem.Str × Addr)} {env : PySem.Env}
/-- a name is bound to the pairs of three texts and three texts -/
theorem ways_go {y one other a1 a2 a3 b1 b2 b3 : PySem.Str} {k1 k2 k3 k4 k5 k6 kk kt1 kt2 : Nat} {p1 p2 p3 p4 p5 p6 pt1 pt2 q1 q2 q3 px px' pos spos py : Pos} {Q : Flow → Shared → Prop}
    (hh : A.handled = none) (hLe : env.locals = L)
    (hsw : swapsWith (.ListComp (.Tuple [.Name one q1, .Name other q2] kk q3) [⟨.Name one px, .Tuple [.Constant (.str a1) k1 p1, .Constant (.str a2) k2 p2, .Constant (.str a3) k3 p3] kt1 pt1, [], 0⟩, ⟨.Name other px', .Tuple [.Constant (.str b1) k4 p4, .Constant (.str b2) k5 p5, .Constant (.str b3) k6 p6] kt2 pt2, [], 0⟩] scope pos) (some (.Name y py)) spos.line env = pure true)
    (hclos : closureFor scope env = pure cl) (hcell : ∀ z ∈ scope.names, z.2 ≠ .cell) (hkind : scope.kind = .function) (hnames : ∀ z ∈ scope.names, z.2 = .local → scope.names.lookup z.1 = some .local)
    (hy : env.kindOf y = some .local) (hp : (env.scope.kind == .class || (env.scope.kind == .module && env.locals != env.globals)) = false)
    (h1 : scope.names.lookup one = some .local) (h2 : scope.names.lookup other = some .local) (hne : one ≠ other) (d1 : (one == PySem.Str.ofString "__debug__") = false) (d2 : (other == PySem.Str.ofString "__debug__") = false)
    (F : Fr h₀ L s.heap m) (N : News h₀ L s.heap news)
    (fin : ∀ D h tk ys O', Fr h₀ L h (fun z => if z = y then some (.ref D) else m z) → News h₀ L h ((D, LCg.lst ys) :: O') → (∀ p ∈ O', p.1 ≠ D) → (∀ p ∈ news, p ∈ O') →
      RowsAt O' ys [[a1, b1], [a1, b2], [a1, b3], [a2, b1], [a2, b2], [a2, b3], [a3, b1], [a3, b2], [a3, b3]] → Q .next { s with heap := h, toks := tk }) :
    wpAny (model prog w) A (exec (.Assign [.Name y py] (.ListComp (.Tuple [.Name one q1, .Name other q2] kk q3) [⟨.Name one px, .Tuple [.Constant (.str a1) k1 p1, .Constant (.str a2) k2 p2, .Constant (.str a3) k3 p3] kt1 pt1, [], 0⟩, ⟨.Name other px', .Tuple [.Constant (.str b1) k4 p4, .Constant (.str b2) k5 p5, .Constant (.str b3) k6 p6] kt2 pt2, [], 0⟩] scope pos) spos) env) Q E s := by
  refine assign_two (h₀ := h₀) (m := m) hLe hsw hclos hcell hkind hnames hy hp (fun _ => rfl) (lit3_N F N fun ax u1 u2 u3 h₁ tk₁ lt₁ F₁ N₁ => iter_N F₁ N₁ (List.mem_cons_self ..) fun I oI h₂ hI lt₂ F₂ N₂ => ?_)
  refine ⟨"tuple", I, oI, ax, _, .inl rfl, rfl, hI, F₂, N₂, fun D C cm s' R S fin' => ?_⟩
  have off0 : ∀ p ∈ (ax, tupO [.str a1 u1, .str a2 u2, .str a3 u3]) :: news, p.1 ≠ I := fun p hp => Nat.ne_of_lt (lt₂ p hp)
  refine outer_go (kd := "tuple") (ax := ax) (ox := tupO [.str a1 u1, .str a2 u2, .str a3 u3]) (its := [.str a1 u1, .str a2 u2, .str a3 u3]) (blocks := [[[a1, b1], [a1, b2], [a1, b3]], [[a2, b1], [a2, b2], [a2, b3]], [[a3, b1], [a3, b2], [a3, b3]]]) (G := fun _ => True) (B := fun O => ∀ p ∈ (ax, tupO [.str a1 u1, .str a2 u2, .str a3 u3]) :: news, p ∈ O)
    (.inl rfl) hh rfl ⟨rfl, _, rfl⟩ (fun O h => h _ (List.mem_cons_self ..)) (fun O O' h k p hp => k p (h p hp)) (by simp) (by simp) (fun _ => rfl) ?_ _ 0 [] [] cm _ oI s' rfl (Nat.zero_le _) (by simp) trivial (fun p hp => hp) off0 hI S .nil ?_
  · intro i v blk cm₁ ys₁ ls₁ O₁ oI₁ s₁ E' R' hv hblk _ hB₁ off₁ hc₁ S₁ hys₁ hR₁ fin₁
    have key : ∃ a u, v = .str a u ∧ blk = [[a, b1], [a, b2], [a, b3]] := by
      match i, hv, hblk with
      | 0, hv, hblk => simp at hv hblk; exact ⟨_, _, hv.symm, hblk.symm⟩
      | 1, hv, hblk => simp at hv hblk; exact ⟨_, _, hv.symm, hblk.symm⟩
      | 2, hv, hblk => simp at hv hblk; exact ⟨_, _, hv.symm, hblk.symm⟩
      | n + 3, hv, hblk => simp at hv
    obtain ⟨a, u, rfl, rfl⟩ := key
    refine wpAny_pure (own_store h1 hkind S₁ fun s₂ S₂ => ?_)
    refine own_lit3 S₂ fun t v1 v2 v3 s₃ lt₃ S₃ => ?_
    refine iter_make (.inl rfl) S₃ (its := #[.str b1 v1, .str b2 v2, .str b3 v3]) ⟨rfl, _, rfl⟩ (List.mem_cons_self ..) fun I₁ oJ s₄ hJ lt₄ S₄ => ?_
    have loop := ways_inner (prog := prog) (w := w) (env := env) (cl := cl) (one := one) (other := other) (q1 := q1) (q2 := q2) (q3 := q3) (kk := kk) (px := px') (pos := pos) (t0 := .Name one px) (i0 := .Tuple [.Constant (.str a1) k1 p1, .Constant (.str a2) k2 p2, .Constant (.str a3) k3 p3] kt1 pt1) (i1 := .Tuple [.Constant (.str b1) k4 p4, .Constant (.str b2) k5 p5, .Constant (.str b3) k6 p6] kt2 pt2) (a := a) (ua := u) (R := R') (ls := ls₁) (B := fun O => ∀ p ∈ (I, oI₁) :: O₁, p ∈ O) hh hkind h1 h2 hne d1 d2 (fun O O' h k p hp => k p (h p hp)) (if_pos rfl)
      (fun p hp => List.mem_cons_of_mem _ hp) (List.mem_cons_self ..) (fun p hp => Nat.ne_of_lt (lt₄ p hp)) hJ hys₁ S₄ (hR₁.mono fun p hp => List.mem_cons_of_mem _ (List.mem_cons_of_mem _ hp)) (fun s' cm' ys' O' S' b _ r => fin₁ s' cm' ys' O' S' trivial b r)
    exact start_inner loop (iter_self (.inl rfl) S₄ hJ loop)
  · intro s' cm' ys' O' S' sub r
    exact fin' s' cm' ys' O' S' fun h tk F' N' off' => fin D h tk ys' O' F' N' off' (fun p hp => sub p (List.mem_cons_of_mem _ hp)) r
end
end
section
set_option maxRecDepth 100000
set_option maxHeartbeats 4000000
/-- the ledger without what lies at an address -/
noncomputable def less (a : Addr) (O : List (Addr × Obj)) : List (Addr × Obj) := O.filter fun p => decide (p.1 ≠ a)
theorem less_off {a : Addr} {O : List (Addr × Obj)} : ∀ p ∈ less a O, p.1 ≠ a := fun _ hp => of_decide_eq_true (List.mem_filter.mp hp).2
theorem less_sub {a : Addr} {O : List (Addr × Obj)} : ∀ p ∈ less a O, p ∈ O := fun _ hp => (List.mem_filter.mp hp).1
theorem less_mem {a : Addr} {O : List (Addr × Obj)} {p : Addr × Obj} (h : p ∈ O) (n : p.1 ≠ a) : p ∈ less a O := List.mem_filter.mpr ⟨h, decide_eq_true n⟩
/-- one object of the ledger is brought to its head -/
theorem news_pull {h₀ h : Heap} {L a : Addr} {o : Obj} {O : List (Addr × Obj)} (N : News h₀ L h O) (hm : (a, o) ∈ O) : News h₀ L h ((a, o) :: less a O) := fun p hp => by
  rcases List.mem_cons.mp hp with rfl | hp
  · exact N _ hm
  · exact N _ (less_sub p hp)
theorem less_other {h₀ h : Heap} {L a b : Addr} {o x : Obj} {O : List (Addr × Obj)} (N : News h₀ L h O) (hm : (a, o) ∈ O) (hb : (b, x) ∈ O) (hx : x ≠ o) : (b, x) ∈ less a O := less_mem hb (news_ne N hb hm hx)
/-- rows stay, when what is taken away is no tuple -/
theorem RowsAt.less {h₀ h : Heap} {L a : Addr} {o : Obj} {O : List (Addr × Obj)} {ys : List Value} {ls : List (List PySem.Str)} (r : RowsAt O ys ls) (N : News h₀ L h O) (hm : (a, o) ∈ O) (ho : ∀ vs, tupO vs ≠ o) : RowsAt (less a O) ys ls :=
  r.keep fun _ vs hb _ => less_other N hm hb (ho vs)
end
section
set_option maxRecDepth 100000
set_option maxHeartbeats 4000000
section
variable {prog : Program} {w : World} {A : Around} {E : Value → Shared → Prop} {s₀ s : Shared} {h₀ : Heap} {L : Addr} {m : PySem.Str → Option Value} {C D : Addr} {cm : PySem.Str → Option Value} {ys : List Value} {O : List (Addr × Obj)} {scope : Scope} {cl : List (PySem.Str × Addr)} {env : PySem.Env}
theorem LState.ext {h' : Heap} (S : LState h₀ L m s₀ C cm D ys O s) (he : ∀ b o, s.heap.get? b = some o → h'.get? b = some o) : LState h₀ L m s₀ C cm D ys O { s with heap := h' } := by
  obtain ⟨hp, tk, oC, rfl, S⟩ := S
  exact ⟨h', tk, oC, rfl, S.fr.keeps he, S.ns, S.news.grown he, S.ne, S.off⟩
/-- two names of the comprehension's own, out of a pair of the ledger -/
theorem own_store2 {x x₂ : PySem.Str} {px px₂ tp : Pos} {kt : Nat} {t : Addr} {v₁ v₂ : Value} {Q : Unit → Shared → Prop} (hh : A.handled = none) (hx : scope.names.lookup x = some .local) (hx₂ : scope.names.lookup x₂ = some .local) (hkind : scope.kind = .function) (hm : (t, tupO [v₁, v₂]) ∈ O) (S : LState h₀ L m s₀ C cm D ys O s)
    (h : ∀ s', LState h₀ L m s₀ C (fun z => if z = x₂ then some v₂ else if z = x then some v₁ else cm z) D ys O s' → Q () s') : wpAny (model prog w) A (assign (.Tuple [.Name x px, .Name x₂ px₂] kt tp) (compEnvC scope cl C env) (.ref t)) Q E s := by
  have ht : IsTup s.heap t #[v₁, v₂] := by
    obtain ⟨hp, tk, oC, rfl, S1⟩ := id S
    exact News.isTup S1.news (List.mem_cons_of_mem _ (List.mem_cons_of_mem _ hm))
  refine assign_Tuple_tuple hh ht rfl rfl fun h₅ he => ?_
  have S₅ := S.ext (h' := h₅) fun b o e => he b o (Nat.ne_of_lt (Heap.lt_size e)) e
  refine assignInOrder_cons (own_store hx hkind S₅ fun s₆ S₆ => ?_)
  refine assignInOrder_cons (own_store hx₂ hkind S₆ fun s₇ S₇ => ?_)
  exact assignInOrder_nil (h _ S₇)
end
end
section
set_option maxRecDepth 100000
set_option maxHeartbeats 4000000
section
variable {prog : Program} {w : World} {A : Around} {E : Value → Shared → Prop} {s₀ s : Shared} {h₀ : Heap} {L : Addr} {m : PySem.Str → Option Value} {C D I : Addr} {cm : PySem.Str → Option Value} {ys : List Value} {O : List (Addr × Obj)}
/-- nothing is let go: the iterator owns no tuple -/
theorem let_go {kd : String} (hkd : kd = "tuple" ∨ kd = "list") {oI : Obj} {elts : List PySem.Expr} {x1 : Nat} {pos : Pos} {T : Addr} {Q : Unit → Shared → Prop} (hc : oI.cls = .type (kd ++ "_iterator")) (S : LState h₀ L m s₀ C cm D ys ((I, oI) :: O) s) (hQ : Q () s) :
    wpAny (model prog w) A (letOwnedTupleGo (.Tuple elts x1 pos) (.ref I) (.ref T)) Q E s := by
  obtain ⟨hp, tk, oC, rfl, S⟩ := S
  have hgI := (S.news (I, oI) (List.mem_cons_of_mem _ (List.mem_cons_of_mem _ (List.mem_cons_self ..)))).1
  unfold letOwnedTupleGo
  refine wpAny_bind (wpAny_load hgI ?_)
  dsimp only
  rw [hc]
  have no : ["enumerate", "zip", "dict_itemiterator", "dict_reverseitemiterator", "odict_iterator", "itertools.zip_longest", "itertools.pairwise"].contains (kd ++ "_iterator") = false := by
    rcases hkd with rfl | rfl
    · decide
    · decide
  cases hd : oI.data with
  | fields vs =>
    dsimp only
    rw [if_neg (by rw [no]; simp)]
    exact wpAny_pure hQ
  | _ => exact wpAny_pure hQ
end
end
section
set_option maxRecDepth 100000
set_option maxHeartbeats 4000000
section
variable {prog : Program} {w : World} {A : Around} {E : Value → Shared → Prop} {s₀ s : Shared} {h₀ : Heap} {L : Addr} {m : PySem.Str → Option Value} {C D : Addr} {cm : PySem.Str → Option Value} {ys : List Value} {O : List (Addr × Obj)} {scope : Scope} {cl : List (PySem.Str × Addr)} {env : PySem.Env}
/-- an item of a dict closed over, by a name of the comprehension's own -/
theorem own_item {kn one a : PySem.Str} {ua : Tok} {pk pn pos : Pos} {c dk : Addr} {oc od : Obj} {kvs : List (PySem.Str × Value)} {v : Value} {Q : Value → Shared → Prop} (hkind : scope.kind = .function) (hc : cl.lookup kn = some c) (hfree : (compEnvC scope cl C env).kindOf kn = some .cell) (h1 : scope.names.lookup one = some .local) (dk1 : (kn == PySem.Str.ofString "__debug__") = false) (d1 : (one == PySem.Str.ofString "__debug__") = false)
    (hmc : (c, oc) ∈ O) (hdc : oc.data = .cell (some (.ref dk))) (hmd : (dk, od) ∈ O) (hd : od.IsDictOf (PySem.strKind prog w) kvs) (ho : cm one = some (.str a ua)) (hl : valueAt kvs a = some v) (S : LState h₀ L m s₀ C cm D ys O s)
    (h : ∀ s', LState h₀ L m s₀ C cm D ys O s' → Q v s') : wpAny (model prog w) A (eval (.Subscript (.Name kn pk) (.Name one pn) pos) (compEnvC scope cl C env)) Q E s := by
  have S0 := S
  obtain ⟨hp, tk, oC, rfl, S1⟩ := S
  refine Subscript_ ?_
  refine kcf_cell S1.news hc (List.mem_cons_of_mem _ (List.mem_cons_of_mem _ hmc)) hdc ?_ hkind hfree dk1
  refine LCgL.ld_own S1.news (List.mem_cons_self ..) S1.ns ho ?_ hkind (lookup_relabel_local h1) d1
  refine kda_item S1.news (List.mem_cons_of_mem _ (List.mem_cons_of_mem _ hmd)) hd (k := a) (strKind_is _ _ _ _) hl (h _ S0.tick)
end
end
section
set_option maxRecDepth 100000
set_option maxHeartbeats 4000000
theorem RowsAt.at {O : List (Addr × Obj)} {ys : List Value} {ls : List (List PySem.Str)} (h : RowsAt O ys ls) : ∀ {i : Nat} {v : Value} {r : List PySem.Str}, ys[i]? = some v → ls[i]? = some r → ∃ t vs, v = .ref t ∧ (t, tupO vs) ∈ O ∧ StrsAre vs r := by
  induction h with
  | nil => intro i v r h; simp at h
  | cons a b _ ih =>
    intro i v r hv hr
    cases i with
    | zero => simp at hv hr; subst hv; subst hr; exact ⟨_, _, rfl, a, b⟩
    | succ i => simp at hv hr; exact ih hv hr
theorem strs_two {vs : List Value} {k r : PySem.Str} (h : StrsAre vs [k, r]) : ∃ u1 u2, vs = [.str k u1, .str r u2] := by
  cases h with
  | cons _ u1 h => cases h with
    | cons _ u2 h => cases h; exact ⟨u1, u2, rfl⟩
section
variable {prog : Program} {w : World} {A : Around} {E : Value → Shared → Prop} {s₀ s : Shared} {h₀ : Heap} {L : Addr} {m : PySem.Str → Option Value} {scope : Scope} {cl : List (PySem.Str × Addr)} {env : PySem.Env}
/-- the inner clause over a tuple of pairs -/
theorem written_inner {C D I ax : Addr} {one other key rest a b : PySem.Str} {ua ub : Tok} {t0 i0 i1 : PySem.Expr} {q1 q2 q3 q4 q5 px px2 tp pos : Pos} {kk kt : Nat} {R : Result → Shared → Prop} {B : List (Addr × Obj) → Prop} {cm : PySem.Str → Option Value} {ys : List Value} {ls : List (List PySem.Str)} {O : List (Addr × Obj)} {oI : Obj} {its : List Value} {prs : List (PySem.Str × PySem.Str)}
    (hh : A.handled = none) (hkind : scope.kind = .function) (h1 : scope.names.lookup one = some .local) (h2 : scope.names.lookup other = some .local) (h3 : scope.names.lookup key = some .local) (h4 : scope.names.lookup rest = some .local)
    (n13 : one ≠ key) (n14 : one ≠ rest) (n23 : other ≠ key) (n24 : other ≠ rest) (n34 : key ≠ rest) (d1 : (one == PySem.Str.ofString "__debug__") = false) (d2 : (other == PySem.Str.ofString "__debug__") = false) (d3 : (key == PySem.Str.ofString "__debug__") = false) (d4 : (rest == PySem.Str.ofString "__debug__") = false)
    (hBm : ∀ O O', B O → (∀ p ∈ O, p ∈ O') → B O') (hG : cm one = some (.str a ua)) (hG2 : cm other = some (.str b ub)) (hBO : B O) (hax : (ax, tupO its) ∈ O) (hpr : RowsAt O its (prs.map fun p => [p.1, p.2])) (hfew : prs.length ≤ 9) (off : ∀ p ∈ O, p.1 ≠ I) (hI : ItAt "tuple" oI ax 0) (hys : ys.length ≤ 200)
    (S : LState h₀ L m s₀ C cm D ys ((I, oI) :: O) s) (hR : RowsAt O ys ls)
    (fin : ∀ s' cm' ys' O', LState h₀ L m s₀ C cm' D ys' O' s' → B O' → (∀ p ∈ O, p ∈ O') → RowsAt O' ys' (ls ++ prs.map fun p => [a, b, p.1, p.2]) → R (.ok .next) s') :
    codeAny (model prog w) A (.compLoop (.ListComp (.Tuple [.Name one q1, .Name other q2, .Name key q3, .Name rest q4] kk q5) [⟨t0, i0, [], 0⟩, ⟨.Tuple [.Name key px, .Name rest px2] kt tp, i1, [], 0⟩] scope pos) 1 (.ref I) (.ref D) (compEnvC scope cl C env)) R s := by
  have hlen : its.length = prs.length := by rw [hpr.length, List.length_map]
  refine inner_go (kd := "tuple") (ax := ax) (ox := tupO its) (its := its) (rows := prs.map fun (p : PySem.Str × PySem.Str) => [a, b, p.1, p.2]) (G := fun cm => cm one = some (.str a ua) ∧ cm other = some (.str b ub)) (B := fun O => B O ∧ (ax, tupO its) ∈ O ∧ RowsAt O its (prs.map fun (p : PySem.Str × PySem.Str) => [p.1, p.2]))
    (.inl rfl) hh (by rw [hlen, List.length_map]) ⟨rfl, _, rfl⟩ (fun O h => h.2.1) (fun O O' h k => ⟨hBm O O' h.1 k, k _ h.2.1, h.2.2.mono k⟩) ?_ _ 0 ys ls cm O oI s rfl (Nat.zero_le _) (by omega) (by omega) ⟨hG, hG2⟩ ⟨hBO, hax, hpr⟩ off hI S hR (fun s' cm' ys' O' S' _ b sub r => fin s' cm' ys' O' S' b.1 sub r)
  intro i v row cm₁ ys₁ O₁ oI₁ s₁ E' hv hrow hG₁ hB₁ off₁ hc₁ S₁
  obtain ⟨p, hp, rfl⟩ : ∃ p, prs[i]? = some p ∧ row = [a, b, p.1, p.2] := by
    rw [List.getElem?_map] at hrow
    cases hq : prs[i]? with
    | none => rw [hq] at hrow; cases hrow
    | some p => rw [hq] at hrow; exact ⟨p, rfl, (Option.some.inj hrow).symm⟩
  obtain ⟨t, vs, rfl, hm, hvs⟩ := hB₁.2.2.at (r := [p.1, p.2]) hv (by rw [List.getElem?_map, hp]; rfl)
  obtain ⟨v1, v2, rfl⟩ := strs_two hvs
  refine let_go (.inl rfl) hc₁ S₁ (own_store2 hh h3 h4 hkind (List.mem_cons_of_mem _ hm) S₁ fun s₂ S₂ => ?_)
  have g1 : (fun z => if z = rest then some (Value.str p.2 v2) else if z = key then some (.str p.1 v1) else cm₁ z) one = some (.str a ua) := (if_neg n14).trans ((if_neg n13).trans hG₁.1)
  have g2 : (fun z => if z = rest then some (Value.str p.2 v2) else if z = key then some (.str p.1 v1) else cm₁ z) other = some (.str b ub) := (if_neg n24).trans ((if_neg n23).trans hG₁.2)
  have g3 : (fun z => if z = rest then some (Value.str p.2 v2) else if z = key then some (.str p.1 v1) else cm₁ z) key = some (.str p.1 v1) := (if_neg n34).trans (if_pos rfl)
  have g4 : (fun z => if z = rest then some (Value.str p.2 v2) else if z = key then some (.str p.1 v1) else cm₁ z) rest = some (.str p.2 v2) := if_pos rfl
  refine own_tuple (vs := [.str a ua, .str b ub, .str p.1 v1, .str p.2 v2]) S₂ (by rw [sizeLine_eq]; simp) (fun {Q} hq => own_more hkind S₂ h1 d1 g1 (own_more hkind S₂ h2 d2 g2 (own_more hkind S₂ h3 d3 g3 (own_more hkind S₂ h4 d4 g4 (spliced_none hq))))) fun t s' lt S' => ?_
  exact ⟨_, t, _, rfl, ⟨g1, g2⟩, lt, .cons _ _ (.cons _ _ (.cons _ _ (.cons _ _ .nil))), S'⟩
end
end
section
set_option maxRecDepth 100000
set_option maxHeartbeats 4000000
section
variable {prog : Program} {w : World} {A : Around} {E : Value → Shared → Prop} {s₀ s : Shared} {h₀ : Heap} {L : Addr} {m : PySem.Str → Option Value} {news : List (Addr × Obj)} {scope : Scope} {cl : List (PySem.Str × Addr)} {env : PySem.Env}
theorem iterL_N {ax : Addr} {vs : List Value} {Q : Value → Shared → Prop} (F : Fr h₀ L s.heap m) (N : News h₀ L s.heap news) (hm : (ax, LCg.lst vs) ∈ news)
    (h : ∀ I oI h', ItAt "list" oI ax 0 → (∀ p ∈ news, p.1 < I) → Fr h₀ L h' m → News h₀ L h' ((I, oI) :: news) → Q (.ref I) { s with heap := h' }) : wpAny (model prog w) A (pyIter (.ref ax)) Q E s :=
  wpAny_pyIter_list (items := vs.toArray) ⟨_, (N _ hm).1, rfl, _, rfl⟩ (h _ _ _ ⟨rfl, rfl⟩ (fun p hp => Heap.lt_size (N p hp).1) (F.push _) (News.push F N _))
/-- what a kind's own keys are, in the ledger -/
noncomputable def KeyedAt (O : List (Addr × Obj)) (kvs : List (PySem.Str × Value)) (a : PySem.Str) (prs : List (PySem.Str × PySem.Str)) : Prop :=
  ∃ t its, valueAt kvs a = some (.ref t) ∧ (t, tupO its) ∈ O ∧ RowsAt O its (prs.map fun (p : PySem.Str × PySem.Str) => [p.1, p.2]) ∧ prs.length ≤ 9
/-- a name is bound to the ways, each with the keys of its kind -/
theorem written_go {y wn kn one other key rest : PySem.Str} {q1 q2 q3 q4 q5 px1 px2 px3 px4 tp tp2 pw pk pn psub pos spos py : Pos} {kk kt kt2 : Nat} {W c dk : Addr} {oc od : Obj} {wys : List Value} {wp : List (PySem.Str × PySem.Str)} {prsOf : PySem.Str → List (PySem.Str × PySem.Str)} {kvs : List (PySem.Str × Value)} {Q : Flow → Shared → Prop}
    (hh : A.handled = none) (hLe : env.locals = L)
    (hsw : swapsWith (.ListComp (.Tuple [.Name one q1, .Name other q2, .Name key q3, .Name rest q4] kk q5) [⟨.Tuple [.Name one px1, .Name other px2] kt tp, .Name wn pw, [], 0⟩, ⟨.Tuple [.Name key px3, .Name rest px4] kt2 tp2, .Subscript (.Name kn pk) (.Name one pn) psub, [], 0⟩] scope pos) (some (.Name y py)) spos.line env = pure true)
    (hclos : closureFor scope env = pure cl) (hcell : ∀ z ∈ scope.names, z.2 ≠ .cell) (hkind : scope.kind = .function) (hnames : ∀ z ∈ scope.names, z.2 = .local → scope.names.lookup z.1 = some .local)
    (hy : env.kindOf y = some .local) (hp : (env.scope.kind == .class || (env.scope.kind == .module && env.locals != env.globals)) = false)
    (hfk : env.scope.kind = .function) (kw : env.kindOf wn = some .local) (hw : m wn = some (.ref W)) (dw : (wn == PySem.Str.ofString "__debug__") = false)
    (h1 : scope.names.lookup one = some .local) (h2 : scope.names.lookup other = some .local) (h3 : scope.names.lookup key = some .local) (h4 : scope.names.lookup rest = some .local)
    (n12 : one ≠ other) (n13 : one ≠ key) (n14 : one ≠ rest) (n23 : other ≠ key) (n24 : other ≠ rest) (n34 : key ≠ rest) (d1 : (one == PySem.Str.ofString "__debug__") = false) (d2 : (other == PySem.Str.ofString "__debug__") = false) (d3 : (key == PySem.Str.ofString "__debug__") = false) (d4 : (rest == PySem.Str.ofString "__debug__") = false)
    (hc : cl.lookup kn = some c) (hfree : ∀ C, (compEnvC scope cl C env).kindOf kn = some .cell) (dk1 : (kn == PySem.Str.ofString "__debug__") = false)
    (F : Fr h₀ L s.heap m) (N : News h₀ L s.heap news) (hmW : (W, LCg.lst wys) ∈ news) (rW : RowsAt news wys (wp.map fun (p : PySem.Str × PySem.Str) => [p.1, p.2])) (few : wp.length ≤ 9)
    (hmc : (c, oc) ∈ news) (hdc : oc.data = .cell (some (.ref dk))) (hmd : (dk, od) ∈ news) (hd : od.IsDictOf (PySem.strKind prog w) kvs) (hK : ∀ p ∈ wp, KeyedAt news kvs p.1 (prsOf p.1))
    (fin : ∀ D h tk ys O', Fr h₀ L h (fun z => if z = y then some (.ref D) else m z) → News h₀ L h ((D, LCg.lst ys) :: O') → (∀ p ∈ O', p.1 ≠ D) → (∀ p ∈ news, p ∈ O') →
      RowsAt O' ys (wp.map fun (p : PySem.Str × PySem.Str) => (prsOf p.1).map fun (q : PySem.Str × PySem.Str) => [p.1, p.2, q.1, q.2]).flatten → Q .next { s with heap := h, toks := tk }) :
    wpAny (model prog w) A (exec (.Assign [.Name y py] (.ListComp (.Tuple [.Name one q1, .Name other q2, .Name key q3, .Name rest q4] kk q5) [⟨.Tuple [.Name one px1, .Name other px2] kt tp, .Name wn pw, [], 0⟩, ⟨.Tuple [.Name key px3, .Name rest px4] kt2 tp2, .Subscript (.Name kn pk) (.Name one pn) psub, [], 0⟩] scope pos) spos) env) Q E s := by
  refine assign_two (h₀ := h₀) (m := m) hLe hsw hclos hcell hkind hnames hy hp (fun _ => rfl) (wpAny_Name (wpAny_loadName_local hfk kw (hLe.symm ▸ F.ns) hw (iterL_N F N hmW fun I oI h₂ hI lt₂ F₂ N₂ => ?_)) dw)
  refine ⟨"list", I, oI, W, _, .inr rfl, rfl, hI, F₂, N₂, fun D C cm s' R S fin' => ?_⟩
  have off0 : ∀ p ∈ news, p.1 ≠ I := fun p hp => Nat.ne_of_lt (lt₂ p hp)
  have hlen : wys.length = wp.length := by rw [rW.length, List.length_map]
  refine outer_go (kd := "list") (ax := W) (ox := LCg.lst wys) (its := wys) (blocks := wp.map fun (p : PySem.Str × PySem.Str) => (prsOf p.1).map fun (q : PySem.Str × PySem.Str) => [p.1, p.2, q.1, q.2]) (G := fun _ => True) (B := fun O => ∀ p ∈ news, p ∈ O)
    (.inr rfl) hh (by rw [hlen, List.length_map]) ⟨rfl, _, rfl⟩ (fun O h => h _ hmW) (fun O O' h k p hp => k p (h p hp)) (by omega) ?_ (fun _ => rfl) ?_ _ 0 [] [] cm _ oI s' rfl (Nat.zero_le _) (by simp) trivial (fun p hp => hp) off0 hI S .nil ?_
  · intro b hb
    obtain ⟨p, hp, rfl⟩ := List.mem_map.mp hb
    rw [List.length_map]
    exact (hK p hp).elim fun t k => k.elim fun its k => k.2.2.2
  · intro i v blk cm₁ ys₁ ls₁ O₁ oI₁ s₁ E' R' hv hblk _ hB₁ off₁ hc₁ S₁ hys₁ hR₁ fin₁
    obtain ⟨p, hp, rfl⟩ : ∃ p, wp[i]? = some p ∧ blk = (prsOf p.1).map fun (q : PySem.Str × PySem.Str) => [p.1, p.2, q.1, q.2] := by
      rw [List.getElem?_map] at hblk
      cases hq : wp[i]? with
      | none => rw [hq] at hblk; cases hblk
      | some p => rw [hq] at hblk; exact ⟨p, rfl, (Option.some.inj hblk).symm⟩
    obtain ⟨t, vs, rfl, hm, hvs⟩ := rW.at (r := [p.1, p.2]) hv (by rw [List.getElem?_map, hp]; rfl)
    obtain ⟨v1, v2, rfl⟩ := strs_two hvs
    obtain ⟨at1, its, hval, hmt, hrt, h9⟩ := hK p (List.mem_of_getElem? hp)
    refine let_go (.inr rfl) hc₁ S₁ (own_store2 hh h1 h2 hkind (List.mem_cons_of_mem _ (hB₁ _ hm)) S₁ fun s₂ S₂ => ?_)
    refine own_item hkind hc (hfree _) h1 dk1 d1 (List.mem_cons_of_mem _ (hB₁ _ hmc)) hdc (List.mem_cons_of_mem _ (hB₁ _ hmd)) hd ((if_neg n12).trans (if_pos rfl)) hval S₂ fun s₃ S₃ => ?_
    refine iter_make (.inl rfl) S₃ (its := its.toArray) ⟨rfl, _, rfl⟩ (List.mem_cons_of_mem _ (hB₁ _ hmt)) fun I₁ oJ s₄ hJ lt₄ S₄ => ?_
    have loop := written_inner (prog := prog) (w := w) (env := env) (cl := cl) (one := one) (other := other) (key := key) (rest := rest) (q1 := q1) (q2 := q2) (q3 := q3) (q4 := q4) (q5 := q5) (kk := kk) (px := px3) (px2 := px4) (tp := tp2) (kt := kt2) (pos := pos) (t0 := .Tuple [.Name one px1, .Name other px2] kt tp) (i0 := .Name wn pw) (i1 := .Subscript (.Name kn pk) (.Name one pn) psub) (a := p.1) (b := p.2) (ua := v1) (ub := v2) (R := R') (ls := ls₁) (B := fun O => ∀ p ∈ (I, oI₁) :: O₁, p ∈ O) (prs := prsOf p.1) hh hkind h1 h2 h3 h4 n13 n14 n23 n24 n34 d1 d2 d3 d4 (fun O O' h k p hp => k p (h p hp)) ((if_neg n12).trans (if_pos rfl)) (if_pos rfl)
      (fun p hp => hp) (List.mem_cons_of_mem _ (hB₁ _ hmt)) (hrt.mono fun p hp => List.mem_cons_of_mem _ (hB₁ p hp)) h9 (fun p hp => Nat.ne_of_lt (lt₄ p hp)) hJ hys₁ S₄ (hR₁.mono fun p hp => List.mem_cons_of_mem _ hp) (fun s' cm' ys' O' S' b _ r => fin₁ s' cm' ys' O' S' trivial b r)
    exact start_inner loop (iter_self (.inl rfl) S₄ hJ loop)
  · intro s' cm' ys' O' S' sub r
    exact fin' s' cm' ys' O' S' fun h tk F' N' off' => fin D h tk ys' O' F' N' off' sub r
end
end
section
set_option maxRecDepth 100000
set_option maxHeartbeats 4000000
/-! texts that are words with one space between -/
noncomputable abbrev sp1 : PySem.Str := ⟨#[32]⟩
theorem sp1_eq : PySem.Str.ofString " " = sp1 := by decide +kernel
/-- the signs of words with one space between -/
noncomputable def jl : List (List Nat) → List Nat
  | [] => []
  | [x] => x
  | x :: y :: r => x ++ 32 :: jl (y :: r)
noncomputable abbrev tl (x : PySem.Str) : List Nat := x.cps.toList
theorem tl_inj {x y : PySem.Str} (h : tl x = tl y) : x = y := PySem.Str.ext' (Array.toList_inj.mp h)
theorem tl_append (x y : PySem.Str) : tl (x ++ y) = tl x ++ tl y := by
  show (x.cps ++ y.cps).toList = _
  simp
theorem tl_join : ∀ ws : List PySem.Str, tl (PySem.Str.join sp1 ws) = jl (ws.map tl)
  | [] => rfl
  | [x] => rfl
  | x :: y :: r => by
    show tl (x ++ sp1 ++ PySem.Str.join sp1 (y :: r)) = _
    rw [tl_append, tl_append, tl_join (y :: r)]
    show _ = tl x ++ 32 :: jl (tl y :: r.map tl)
    rw [List.append_assoc]
    rfl
theorem jl_cons {x : List Nat} {r : List (List Nat)} (h : r ≠ []) : jl (x :: r) = x ++ 32 :: jl r := by
  cases r with
  | nil => exact absurd rfl h
  | cons y r => rfl
theorem cut_inj {a b r q : List Nat} (ha : 32 ∉ a) (hb : 32 ∉ b) (h : a ++ 32 :: r = b ++ 32 :: q) : a = b ∧ r = q := by
  induction a generalizing b with
  | nil =>
    cases b with
    | nil => exact ⟨rfl, (List.cons.inj h).2⟩
    | cons c b => exact absurd ((List.cons.inj h).1 ▸ List.mem_cons_self ..) hb
  | cons c a ih =>
    cases b with
    | nil => exact absurd ((List.cons.inj h).1 ▸ List.mem_cons_self ..) ha
    | cons d b =>
      obtain ⟨rfl, h'⟩ := List.cons.inj h
      obtain ⟨rfl, rfl⟩ := ih (fun m => ha (List.mem_cons_of_mem _ m)) (fun m => hb (List.mem_cons_of_mem _ m)) h'
      exact ⟨rfl, rfl⟩
theorem jl_inj : ∀ {a b : List (List Nat)}, a ≠ [] → b ≠ [] → (∀ x ∈ a, 32 ∉ x) → (∀ x ∈ b, 32 ∉ x) → jl a = jl b → a = b
  | [], _, h, _, _, _, _ => absurd rfl h
  | _, [], _, h, _, _, _ => absurd rfl h
  | [x], [y], _, _, _, _, h => by rw [show x = y from h]
  | [x], y :: z :: r, _, _, hx, _, h => by
    have e : x = y ++ 32 :: jl (z :: r) := h
    exact absurd (e ▸ List.mem_append_right _ (List.mem_cons_self ..)) (hx x (List.mem_cons_self ..))
  | x :: z :: r, [y], _, _, _, hy, h => by
    have e : x ++ 32 :: jl (z :: r) = y := h
    exact absurd (e ▸ List.mem_append_right _ (List.mem_cons_self ..)) (hy y (List.mem_cons_self ..))
  | x :: z :: r, y :: z' :: r', _, _, hx, hy, h => by
    obtain ⟨rfl, h'⟩ := cut_inj (hx _ (List.mem_cons_self ..)) (hy _ (List.mem_cons_self ..)) (show x ++ 32 :: jl (z :: r) = y ++ 32 :: jl (z' :: r') from h)
    rw [jl_inj (by simp) (by simp) (fun q m => hx q (List.mem_cons_of_mem _ m)) (fun q m => hy q (List.mem_cons_of_mem _ m)) h']
/-- words are what the split of their text is -/
theorem split_words {ws : List PySem.Str} (h0 : ws ≠ []) (h : ∀ x ∈ ws, 32 ∉ tl x) : Txt.split (Txt.join (PySem.Str.ofString " ") ws) (PySem.Str.ofString " ") = ws := by
  rw [sp1_eq]
  have e : PySem.Str.join sp1 (Txt.split (Txt.join sp1 ws) sp1) = PySem.Str.join sp1 ws := by
    rw [PySem.StrLaws.join_split]
    show PySem.Builtin.Str.glued _ _ = _
    rw [PySem.StrLaws.glued_eq_join]
  have e2 := congrArg tl e
  rw [tl_join, tl_join] at e2
  have ne : Txt.split (Txt.join sp1 ws) sp1 ≠ [] := by
    have := split_pos (Txt.join sp1 ws) sp1
    intro q
    rw [q] at this
    simp at this
  have e3 := jl_inj (by simpa using ne) (by simpa using h0) (fun x hx => by
    obtain ⟨p, hp, rfl⟩ := List.mem_map.mp hx
    exact PySem.StrLaws.split_free _ 32 p hp) (fun x hx => by
    obtain ⟨p, hp, rfl⟩ := List.mem_map.mp hx
    exact h p hp) e2
  exact (List.map_inj_right fun _ _ q => tl_inj q).mp e3
/-- no two spaces stand side by side -/
noncomputable def NoDbl (l : List Nat) : Prop := ∀ i, l[i]? = some 32 → l[i + 1]? = some 32 → False
theorem noDbl_jl : ∀ ws : List (List Nat), (∀ x ∈ ws, x ≠ [] ∧ 32 ∉ x) → NoDbl (jl ws) ∧ (jl ws)[0]? ≠ some 32
  | [], _ => ⟨fun i h => by simp [jl] at h, by simp [jl]⟩
  | [x], h => by
    have k := (h x (List.mem_cons_self ..)).2
    exact ⟨fun i h _ => k (List.mem_of_getElem? h), fun h => k (List.mem_of_getElem? h)⟩
  | x :: y :: r, h => by
    obtain ⟨h1, h2⟩ := noDbl_jl (y :: r) fun q m => h q (List.mem_cons_of_mem _ m)
    obtain ⟨k0, k⟩ := h x (List.mem_cons_self ..)
    have lt : 0 < x.length := List.length_pos_iff.mpr k0
    refine ⟨fun i ha hb => ?_, fun ha => ?_⟩
    · rw [jl_cons (by simp)] at ha hb
      by_cases hi : i < x.length
      · rw [List.getElem?_append_left hi] at ha
        exact k (List.mem_of_getElem? ha)
      · rw [List.getElem?_append_right (by omega)] at ha hb
        rw [show i + 1 - x.length = (i - x.length) + 1 by omega, List.getElem?_cons_succ] at hb
        cases hj : i - x.length with
        | zero => rw [hj] at hb; exact h2 hb
        | succ j =>
          rw [hj] at ha hb
          rw [List.getElem?_cons_succ] at ha
          exact h1 j ha hb
    · rw [jl_cons (by simp), List.getElem?_append_left lt] at ha
      exact k (List.mem_of_getElem? ha)
theorem no_dbl {ws : List PySem.Str} (h : ∀ x ∈ ws, tl x ≠ [] ∧ 32 ∉ tl x) : (PySem.Builtin.Str.occurrences (Txt.join (PySem.Str.ofString " ") ws) (PySem.Str.ofString "  ") 0 (Txt.join (PySem.Str.ofString " ") ws).length 1).isEmpty = true := by
  rw [sp1_eq, show PySem.Str.ofString "  " = ⟨#[32, 32]⟩ by decide +kernel]
  refine Classical.byContradiction fun hn => ?_
  have hf : (!(PySem.Builtin.Str.occurrences (Txt.join sp1 ws) ⟨#[32, 32]⟩ 0 (Txt.join sp1 ws).length 1).isEmpty) = true := by simpa using hn
  obtain ⟨i, hi, hs⟩ := (PySem.StrLaws.found_iff _ _).mp hf
  rw [PySem.StrLaws.subAt_eq] at hs
  have e : tl (Txt.join sp1 ws) = jl (ws.map tl) := by
    rw [← tl_join]
    show tl (PySem.Builtin.Str.glued _ _) = _
    rw [PySem.StrLaws.glued_eq_join]
  have hs' : ((tl (Txt.join sp1 ws)).drop i).take 2 = [32, 32] := eq_of_beq hs
  rw [e] at hs'
  have nd := (noDbl_jl (ws.map tl) fun x hx => by
    obtain ⟨p, hp, rfl⟩ := List.mem_map.mp hx
    exact h p hp).1
  refine nd i ?_ ?_
  · have := congrArg (·[0]?) hs'
    simpa [List.getElem?_take, List.getElem?_drop] using this
  · have := congrArg (·[1]?) hs'
    simpa [List.getElem?_take, List.getElem?_drop] using this
theorem join_eq (ws : List PySem.Str) : Txt.join (PySem.Str.ofString " ") ws = PySem.Str.join sp1 ws := by
  rw [sp1_eq]
  show PySem.Builtin.Str.glued _ _ = _
  rw [PySem.StrLaws.glued_eq_join]
theorem jl_append : ∀ {a b : List (List Nat)}, a ≠ [] → b ≠ [] → jl (a ++ b) = jl a ++ 32 :: jl b
  | [], _, h, _ => absurd rfl h
  | [x], b, _, h => jl_cons h
  | x :: y :: r, b, _, h => by
    show jl (x :: (y :: r ++ b)) = _
    rw [jl_cons (by simp), jl_append (by simp) h, jl_cons (x := x) (by simp), List.append_assoc]
    rfl
theorem jl_flat : ∀ wss : List (List (List Nat)), (∀ ws ∈ wss, ws ≠ []) → jl (wss.map jl) = jl wss.flatten
  | [], _ => rfl
  | [ws], _ => by simp [jl]
  | ws :: vs :: r, h => by
    have h2 : (vs :: r).flatten ≠ [] := by
      have := h vs (by simp)
      simp [this]
    show jl (jl ws :: (vs :: r).map jl) = jl (ws ++ (vs :: r).flatten)
    rw [jl_append (h ws (List.mem_cons_self ..)) h2, jl_cons (by simp), jl_flat (vs :: r) fun q m => h q (List.mem_cons_of_mem _ m)]
theorem join_flat (wss : List (List PySem.Str)) (h : ∀ ws ∈ wss, ws ≠ []) : PySem.Str.join sp1 (wss.map (PySem.Str.join sp1)) = PySem.Str.join sp1 wss.flatten := by
  refine tl_inj ?_
  rw [tl_join, tl_join, List.map_map]
  have e : (wss.map (tl ∘ PySem.Str.join sp1)) = (wss.map (List.map tl)).map jl := by
    rw [List.map_map]
    exact List.map_congr_left fun ws _ => tl_join ws
  rw [e, jl_flat _ (fun ws hws => by
    obtain ⟨q, hq, rfl⟩ := List.mem_map.mp hws
    simpa using h q hq), List.map_flatten]
/-- the last two signs of words that end in a point -/
theorem tail_dot {ws : List PySem.Str} (h : ws ≠ []) : (Txt.slice (Txt.join (PySem.Str.ofString " ") (ws ++ [PySem.Str.ofString "."])) (some (-2)) none != PySem.Str.ofString " .") = false := by
  rw [join_eq]
  have e : tl (PySem.Str.join sp1 (ws ++ [PySem.Str.ofString "."])) = tl (PySem.Str.join sp1 ws) ++ [32, 46] := by
    rw [tl_join, tl_join, List.map_append, jl_append (by simpa using h) (by simp)]
    congr 1
  generalize PySem.Str.join sp1 (ws ++ [PySem.Str.ofString "."]) = x at e
  generalize tl (PySem.Str.join sp1 ws) = l at e
  have hl : x.length = l.length + 2 := by
    have := congrArg List.length e
    simpa [PySem.Str.length] using this
  have s : Txt.slice x (some (-2)) none = ⟨((tl x).drop l.length).toArray⟩ := by
    refine (PySem.StrLaws.sliceText_from_neg (by decide) (by omega)).trans ?_
    have e1 : ((-2 : Int) + (x.length : Int)).toNat = l.length := by omega
    have e2 : (((tl x).length : Int) - (-2 + (x.length : Int))).toNat = 2 := by
      have : (tl x).length = x.length := by simp [PySem.Str.length]
      omega
    rw [e1, e2]
    congr 2
    refine List.take_of_length_le ?_
    show ((tl x).drop l.length).length ≤ 2
    rw [e]
    simp
  rw [s, e, List.drop_left]
  decide +kernel
theorem len_join {ws : List PySem.Str} {B : Nat} (h : ∀ x ∈ ws, x.length ≤ B) : (Txt.join (PySem.Str.ofString " ") ws).length ≤ ws.length * B + ws.length := by
  rw [join_eq]
  have h1 := PySem.StrLaws.join_length_le sp1 ws
  have h2 := PySem.StrLaws.sumLen_le ws h
  have h3 : sp1.length = 1 := rfl
  rw [h3] at h1
  omega
end
section
set_option maxRecDepth 100000
set_option maxHeartbeats 4000000
/-- a plain word of a text shown -/
noncomputable def base (x : PySem.Str) : Bool := decide (tl x ≠ []) && !(tl x).contains 32 && !(Txt.item x 0 == PySem.Str.ofString "\"") && !(x == PySem.Str.ofString ".") && decide (x.length ≤ 60) && PyData.strOk x
/-- a name: none of the words that are counted -/
noncomputable def gname (x : PySem.Str) : Bool := base x && !(x == PySem.Str.ofString "RELATIVE") && !(x == PySem.Str.ofString "STATUS") && !(x == PySem.Str.ofString "ALTERNATE") && !(x == PySem.Str.ofString "ACCESS") && !(x == PySem.Str.ofString "")
noncomputable abbrev qt (x : PySem.Str) : PySem.Str := PySem.Str.ofString "\"" ++ x ++ PySem.Str.ofString "\""
/-- a path -/
noncomputable def gpath (x : PySem.Str) : Bool := decide (tl (qt x) ≠ []) && !(tl (qt x)).contains 32 && (Txt.item (qt x) 0 == PySem.Str.ofString "\"") && (Txt.slice (qt x) (some 1) (some (-1)) == x) && decide (x.length ≤ 60) && PyData.strOk x && PyData.strOk (qt x) && (Txt.replace x "\"" "\"\"" == x) && !(x == PySem.Str.ofString "")
  && !(qt x == PySem.Str.ofString "RELATIVE") && !(qt x == PySem.Str.ofString "STATUS") && !(qt x == PySem.Str.ofString "ALTERNATE") && !(qt x == PySem.Str.ofString "ACCESS")
noncomputable def Good (x : PySem.Str) : Prop := gname x = true ∧ FreeName x
/-- the specs that the law asks about -/
structure Dom (nm : PySem.Str) (σ : Sp) : Prop where
  name : Good nm
  opt : (nm == PySem.Str.ofString "OPTIONAL") = false
  path : gpath σ.path = true
  org : σ.org = PySem.Str.ofString "sequential" ∨ σ.org = PySem.Str.ofString "relative" ∨ σ.org = PySem.Str.ofString "indexed"
  acc : σ.acc = PySem.Str.ofString "sequential" ∨ σ.acc = PySem.Str.ofString "random" ∨ σ.acc = PySem.Str.ofString "dynamic"
  key : σ.key = PySem.Str.ofString "" ∨ Good σ.key
  rel : σ.rel = PySem.Str.ofString "" ∨ Good σ.rel
  stat : σ.stat = PySem.Str.ofString "" ∨ Good σ.stat
  al : ∀ q ∈ σ.al, Good q.1
  nodup : (σ.al.map (·.1)).Nodup
  few : σ.al.length ≤ 3
noncomputable def optC (c : PySem.Str → Cl) (x : PySem.Str) : List Cl := if x == PySem.Str.ofString "" then [] else [c x]
/-- the clauses of a spec -/
noncomputable def clsOf (σ : Sp) : List Cl := [.assign σ.path, .org (Txt.upper σ.org) σ.org, .acc (Txt.upper σ.acc) σ.acc] ++ optC .key σ.key ++ σ.al.map (fun q => .alt q.1 q.2) ++ optC .rel σ.rel ++ optC .stat σ.stat
/-- a clause's words -/
noncomputable def cw (c : Cl) : List PySem.Str := c.words.map raw
theorem raw_wrd (x : PySem.Str) : raw (wrd x) = x := by
  unfold raw
  rw [if_neg (show ¬((PySem.Str.ofString "word" == PySem.Str.ofString "literal") = true) by decide +kernel)]
theorem raw_lit (x : PySem.Str) : raw (PySem.Str.ofString "literal", x) = qt x := by
  unfold raw
  rw [if_pos (show (PySem.Str.ofString "literal" == PySem.Str.ofString "literal") = true by decide +kernel)]
theorem raw_dot : raw dot = PySem.Str.ofString "." := by decide +kernel
theorem cw_assign (p : PySem.Str) : cw (.assign p) = [PySem.Str.ofString "ASSIGN", PySem.Str.ofString "TO", qt p] := by
  show [raw (wrd _), raw (wrd _), raw _] = _
  rw [raw_wrd, raw_wrd, raw_lit]
theorem cw_org (q l : PySem.Str) : cw (.org q l) = [PySem.Str.ofString "ORGANIZATION", PySem.Str.ofString "IS", q] := by
  show [raw (wrd _), raw (wrd _), raw (wrd _)] = _
  rw [raw_wrd, raw_wrd, raw_wrd]
theorem cw_acc (q l : PySem.Str) : cw (.acc q l) = [PySem.Str.ofString "ACCESS", PySem.Str.ofString "MODE", PySem.Str.ofString "IS", q] := by
  show [raw (wrd _), raw (wrd _), raw (wrd _), raw (wrd _)] = _
  rw [raw_wrd, raw_wrd, raw_wrd, raw_wrd]
theorem cw_key (q : PySem.Str) : cw (.key q) = [PySem.Str.ofString "RECORD", PySem.Str.ofString "KEY", PySem.Str.ofString "IS", q] := by
  show [raw (wrd _), raw (wrd _), raw (wrd _), raw (wrd _)] = _
  rw [raw_wrd, raw_wrd, raw_wrd, raw_wrd]
theorem cw_rel (q : PySem.Str) : cw (.rel q) = [PySem.Str.ofString "RELATIVE", PySem.Str.ofString "KEY", PySem.Str.ofString "IS", q] := by
  show [raw (wrd _), raw (wrd _), raw (wrd _), raw (wrd _)] = _
  rw [raw_wrd, raw_wrd, raw_wrd, raw_wrd]
theorem cw_stat (q : PySem.Str) : cw (.stat q) = [PySem.Str.ofString "FILE", PySem.Str.ofString "STATUS", PySem.Str.ofString "IS", q] := by
  show [raw (wrd _), raw (wrd _), raw (wrd _), raw (wrd _)] = _
  rw [raw_wrd, raw_wrd, raw_wrd, raw_wrd]
theorem cw_alt (q : PySem.Str) (b : Bool) : cw (.alt q b) = [PySem.Str.ofString "ALTERNATE", PySem.Str.ofString "RECORD", PySem.Str.ofString "KEY", PySem.Str.ofString "IS", q] ++ (if b then [PySem.Str.ofString "WITH", PySem.Str.ofString "DUPLICATES"] else []) := by
  cases b
  · show [raw (wrd _), raw (wrd _), raw (wrd _), raw (wrd _), raw (wrd _)] = _
    rw [raw_wrd, raw_wrd, raw_wrd, raw_wrd, raw_wrd]; rfl
  · show [raw (wrd _), raw (wrd _), raw (wrd _), raw (wrd _), raw (wrd _), raw (wrd _), raw (wrd _)] = _
    rw [raw_wrd, raw_wrd, raw_wrd, raw_wrd, raw_wrd, raw_wrd, raw_wrd]; rfl
/-- all words -/
noncomputable def wsOf (nm : PySem.Str) (ks : List Cl) : List PySem.Str := (PySem.Str.ofString "SELECT" :: nm :: ks.flatMap cw) ++ [PySem.Str.ofString "."]
theorem toks_raw (nm : PySem.Str) (ks : List Cl) : (toksOf nm ks).map raw = wsOf nm ks := by
  unfold toksOf wsOf
  rw [List.map_cons, List.map_cons, raw_wrd, raw_wrd, List.map_append, List.map_flatMap, List.map_singleton, raw_dot]
  rfl
/-! the clauses stand one by one -/
theorem upper_org {σ : Sp} (h : σ.org = PySem.Str.ofString "sequential" ∨ σ.org = PySem.Str.ofString "relative" ∨ σ.org = PySem.Str.ofString "indexed") (τ : Sp) : (Cl.org (Txt.upper σ.org) σ.org).Ok τ := by
  rcases h with e | e | e <;> rw [e]
  · exact .inl ⟨by decide +kernel, rfl⟩
  · exact .inr (.inl ⟨by decide +kernel, rfl⟩)
  · exact .inr (.inr ⟨by decide +kernel, rfl⟩)
theorem upper_acc {σ : Sp} (h : σ.acc = PySem.Str.ofString "sequential" ∨ σ.acc = PySem.Str.ofString "random" ∨ σ.acc = PySem.Str.ofString "dynamic") (τ : Sp) : (Cl.acc (Txt.upper σ.acc) σ.acc).Ok τ := by
  rcases h with e | e | e <;> rw [e]
  · exact .inl ⟨by decide +kernel, rfl⟩
  · exact .inr (.inl ⟨by decide +kernel, rfl⟩)
  · exact .inr (.inr ⟨by decide +kernel, rfl⟩)
theorem alts_ok (r : List Cl) : ∀ (al : List (PySem.Str × Bool)) (σ : Sp) (labs : List PySem.Str), (∀ q ∈ al, Good q.1) → ((σ.al ++ al).map (·.1)).Nodup → (σ.al ++ al).length ≤ 20 → ClsOk { σ with al := σ.al ++ al } (labs ++ al.map fun _ => PySem.Str.ofString "ALTERNATE") r →
    ClsOk σ labs (al.map (fun q => Cl.alt q.1 q.2) ++ r)
  | [], σ, labs, _, _, _, h => by simpa using h
  | q :: al, σ, labs, hg, hn, hl, h => by
    refine ⟨⟨(hg q (List.mem_cons_self ..)).2, ?_, ?_⟩, .inr rfl, ?_⟩
    · rw [List.map_append, List.map_cons, List.nodup_append] at hn
      rw [Bool.eq_false_iff]
      intro hc
      obtain ⟨x, hx, e⟩ := List.any_eq_true.mp hc
      exact hn.2.2 x hx q.1 (List.mem_cons_self ..) (eq_of_beq e)
    · rw [List.length_append, List.length_cons] at hl; omega
    · refine alts_ok r al _ _ (fun p hp => hg p (List.mem_cons_of_mem _ hp)) ?_ ?_ ?_
      · show ((σ.al ++ [(q.1, q.2)] ++ al).map (·.1)).Nodup
        simpa using hn
      · show (σ.al ++ [(q.1, q.2)] ++ al).length ≤ 20
        simpa using hl
      · show ClsOk { σ with al := σ.al ++ [(q.1, q.2)] ++ al } (labs ++ [PySem.Str.ofString "ALTERNATE"] ++ al.map fun _ => PySem.Str.ofString "ALTERNATE") r
        simpa using h
theorem alts_fold : ∀ (al : List (PySem.Str × Bool)) (σ : Sp), (al.map (fun q => Cl.alt q.1 q.2)).foldl Cl.upd σ = { σ with al := σ.al ++ al }
  | [], σ => by simp
  | q :: al, σ => by
    rw [List.map_cons, List.foldl_cons, alts_fold al]
    simp [Cl.upd]
theorem labs_alt (labs : List PySem.Str) (al : List (PySem.Str × Bool)) (x : PySem.Str) (h : labs.any (· == x) = false) (hx : (PySem.Str.ofString "ALTERNATE" == x) = false) : (labs ++ al.map fun _ => PySem.Str.ofString "ALTERNATE").any (· == x) = false := by
  rw [List.any_append, h, Bool.false_or, Bool.eq_false_iff]
  intro hc
  obtain ⟨y, hy, e⟩ := List.any_eq_true.mp hc
  obtain ⟨q, _, rfl⟩ := List.mem_map.mp hy
  rw [hx] at e
  cases e
theorem cls_back {nm : PySem.Str} {σ : Sp} (D : Dom nm σ) : (clsOf σ).foldl Cl.upd sp0 = σ := by
  have k0 : ∀ (τ : Sp), (optC .key σ.key).foldl Cl.upd { τ with key := PySem.Str.ofString "" } = { τ with key := σ.key } := fun τ => by
    unfold optC
    split
    · next h => rw [eq_of_beq h]; rfl
    · rfl
  have k1 : ∀ (τ : Sp), (optC .rel σ.rel).foldl Cl.upd { τ with rel := PySem.Str.ofString "" } = { τ with rel := σ.rel } := fun τ => by
    unfold optC
    split
    · next h => rw [eq_of_beq h]; rfl
    · rfl
  have k2 : ∀ (τ : Sp), (optC .stat σ.stat).foldl Cl.upd { τ with stat := PySem.Str.ofString "" } = { τ with stat := σ.stat } := fun τ => by
    unfold optC
    split
    · next h => rw [eq_of_beq h]; rfl
    · rfl
  unfold clsOf
  rw [List.foldl_append, List.foldl_append, List.foldl_append, List.foldl_append]
  have e0 : [Cl.assign σ.path, .org (Txt.upper σ.org) σ.org, .acc (Txt.upper σ.acc) σ.acc].foldl Cl.upd sp0 = { ({ sp0 with path := σ.path, org := σ.org, acc := σ.acc } : Sp) with key := PySem.Str.ofString "" } := rfl
  rw [e0, k0, alts_fold]
  show List.foldl Cl.upd (List.foldl Cl.upd ({ ({ path := σ.path, org := σ.org, acc := σ.acc, key := σ.key, rel := PySem.Str.ofString "", stat := PySem.Str.ofString "", al := [] ++ σ.al } : Sp) with rel := PySem.Str.ofString "" }) _) _ = _
  rw [k1]
  show List.foldl Cl.upd ({ ({ path := σ.path, org := σ.org, acc := σ.acc, key := σ.key, rel := σ.rel, stat := PySem.Str.ofString "", al := [] ++ σ.al } : Sp) with stat := PySem.Str.ofString "" }) _ = _
  rw [k2]
  rfl
theorem lb1 : ([PySem.Str.ofString "RELATIVE KEY"].any (· == PySem.Str.ofString "STATUS")) = false := by decide +kernel
theorem lb2 : ([PySem.Str.ofString "ASSIGN"].any (· == PySem.Str.ofString "ORGANIZATION")) = false := by decide +kernel
theorem lb3 : ([PySem.Str.ofString "ASSIGN", PySem.Str.ofString "ORGANIZATION"].any (· == PySem.Str.ofString "ACCESS")) = false := by decide +kernel
theorem lb4 : ([PySem.Str.ofString "ASSIGN", PySem.Str.ofString "ORGANIZATION", PySem.Str.ofString "ACCESS"].any (· == PySem.Str.ofString "RELATIVE KEY")) = false := by decide +kernel
theorem lb5 : ([PySem.Str.ofString "ASSIGN", PySem.Str.ofString "ORGANIZATION", PySem.Str.ofString "ACCESS"].any (· == PySem.Str.ofString "STATUS")) = false := by decide +kernel
theorem lb6 : ([PySem.Str.ofString "ASSIGN", PySem.Str.ofString "ORGANIZATION", PySem.Str.ofString "ACCESS"].any (· == PySem.Str.ofString "RECORD")) = false := by decide +kernel
theorem lb7 : ([PySem.Str.ofString "ASSIGN", PySem.Str.ofString "ORGANIZATION", PySem.Str.ofString "ACCESS", PySem.Str.ofString "RECORD"].any (· == PySem.Str.ofString "RELATIVE KEY")) = false := by decide +kernel
theorem lb8 : ([PySem.Str.ofString "ASSIGN", PySem.Str.ofString "ORGANIZATION", PySem.Str.ofString "ACCESS", PySem.Str.ofString "RECORD"].any (· == PySem.Str.ofString "STATUS")) = false := by decide +kernel
theorem cls_ok {nm : PySem.Str} {σ : Sp} (D : Dom nm σ) : ClsOk sp0 [] (clsOf σ) := by
  have tailOk : ∀ (τ : Sp) (labs : List PySem.Str), labs.any (· == PySem.Str.ofString "RELATIVE KEY") = false → labs.any (· == PySem.Str.ofString "STATUS") = false → ClsOk τ labs (optC .rel σ.rel ++ optC .stat σ.stat) := by
    intro τ labs h1 h2
    have st : ∀ (τ : Sp) (labs : List PySem.Str), labs.any (· == PySem.Str.ofString "STATUS") = false → ClsOk τ labs (optC .stat σ.stat) := by
      intro τ labs h2
      unfold optC
      split
      · trivial
      · next hne => exact ⟨(D.stat.resolve_left fun e => hne (by rw [e]; rfl)).2, .inl h2, trivial⟩
    by_cases hr : (σ.rel == PySem.Str.ofString "") = true
    · have : optC .rel σ.rel = [] := by unfold optC; rw [if_pos hr]
      rw [this]
      exact st τ labs h2
    · have : optC .rel σ.rel = [.rel σ.rel] := by unfold optC; rw [if_neg hr]
      rw [this]
      refine ⟨(D.rel.resolve_left fun e => hr (by rw [e]; rfl)).2, .inl h1, st _ _ ?_⟩
      rw [List.any_append, h2, Bool.false_or]
      exact lb1
  have altOk : ∀ (τ : Sp) (labs : List PySem.Str), τ.al = [] → labs.any (· == PySem.Str.ofString "RELATIVE KEY") = false → labs.any (· == PySem.Str.ofString "STATUS") = false → ClsOk τ labs (σ.al.map (fun q => .alt q.1 q.2) ++ (optC .rel σ.rel ++ optC .stat σ.stat)) := by
    intro τ labs h0 h1 h2
    refine alts_ok _ σ.al τ labs D.al ?_ ?_ (tailOk _ _ (labs_alt _ _ _ h1 (by decide +kernel)) (labs_alt _ _ _ h2 (by decide +kernel)))
    · rw [h0]; exact D.nodup
    · rw [h0]; have := D.few; show σ.al.length ≤ 20; omega
  unfold clsOf
  rw [List.append_assoc, List.append_assoc, List.append_assoc]
  refine ⟨trivial, .inl rfl, upper_org D.org _, .inl lb2, upper_acc D.acc _, .inl lb3, ?_⟩
  show ClsOk _ _ (optC .key σ.key ++ (σ.al.map (fun q => .alt q.1 q.2) ++ (optC .rel σ.rel ++ optC .stat σ.stat)))
  by_cases hr : (σ.key == PySem.Str.ofString "") = true
  · have : optC .key σ.key = [] := by unfold optC; rw [if_pos hr]
    rw [this]
    exact altOk _ _ rfl lb4 lb5
  · have : optC .key σ.key = [.key σ.key] := by unfold optC; rw [if_neg hr]
    rw [this]
    exact ⟨(D.key.resolve_left fun e => hr (by rw [e]; rfl)).2, .inl lb6, altOk _ _ rfl lb7 lb8⟩
end
section
set_option maxRecDepth 100000
set_option maxHeartbeats 4000000
/-! the text shown is the words of its clauses -/
noncomputable def wssOf (nm : PySem.Str) (σ : Sp) : List (List PySem.Str) :=
  [[PySem.Str.ofString "SELECT", nm, PySem.Str.ofString "ASSIGN", PySem.Str.ofString "TO", qt σ.path], [PySem.Str.ofString "ORGANIZATION", PySem.Str.ofString "IS", Txt.upper σ.org], [PySem.Str.ofString "ACCESS", PySem.Str.ofString "MODE", PySem.Str.ofString "IS", Txt.upper σ.acc]]
    ++ (optC .key σ.key).map cw ++ (σ.al.map (fun q => Cl.alt q.1 q.2)).map cw ++ (optC .rel σ.rel).map cw ++ (optC .stat σ.stat).map cw ++ [[PySem.Str.ofString "."]]
theorem wss_flat (nm : PySem.Str) (σ : Sp) : (wssOf nm σ).flatten = wsOf nm (clsOf σ) := by
  unfold wssOf wsOf clsOf
  generalize optC Cl.key σ.key = a
  generalize σ.al.map (fun q => Cl.alt q.1 q.2) = b
  generalize optC Cl.rel σ.rel = c
  generalize optC Cl.stat σ.stat = d
  simp [List.flatMap, cw_assign, cw_org, cw_acc]
theorem wss_ne (nm : PySem.Str) (σ : Sp) : ∀ ws ∈ wssOf nm σ, ws ≠ [] := by
  have key : ∀ c : Cl, cw c ≠ [] := fun c => by
    cases c with
    | assign p => rw [cw_assign]; simp
    | org q l => rw [cw_org]; simp
    | acc q l => rw [cw_acc]; simp
    | key n => rw [cw_key]; simp
    | alt n b => rw [cw_alt]; simp
    | rel n => rw [cw_rel]; simp
    | stat n => rw [cw_stat]; simp
  have m : ∀ (l : List Cl), ∀ ws ∈ l.map cw, ws ≠ [] := fun l ws h => by
    obtain ⟨c, _, rfl⟩ := List.mem_map.mp h
    exact key c
  intro ws h
  unfold wssOf at h
  rcases List.mem_append.mp h with h | h
  · rcases List.mem_append.mp h with h | h
    · rcases List.mem_append.mp h with h | h
      · rcases List.mem_append.mp h with h | h
        · rcases List.mem_append.mp h with h | h
          · simp at h
            rcases h with rfl | rfl | rfl <;> simp
          · exact m _ ws h
        · exact m _ ws h
      · exact m _ ws h
    · exact m _ ws h
  · simp at h; subst h; simp
theorem join_cons2 (x y : PySem.Str) (r : List PySem.Str) : PySem.Str.join sp1 (x :: y :: r) = x ++ sp1 ++ PySem.Str.join sp1 (y :: r) := rfl
theorem join_one (x : PySem.Str) : PySem.Str.join sp1 [x] = x := rfl
theorem ne_of_tl {x : PySem.Str} (h : tl x ≠ []) : (x != PySem.Str.ofString "") = true := by
  rw [bne_iff_ne]
  intro e
  rw [e] at h
  exact h (by decide +kernel)
theorem join_ne {x : PySem.Str} {r : List PySem.Str} (h : tl x ≠ []) : (PySem.Str.join sp1 (x :: r) != PySem.Str.ofString "") = true := by
  refine ne_of_tl ?_
  rw [tl_join]
  cases r with
  | nil => exact h
  | cons y r =>
    rw [List.map_cons, List.map_cons, jl_cons (by simp)]
    simp
theorem part1 (nm q : PySem.Str) : PySem.Str.ofString "SELECT " ++ nm ++ PySem.Str.ofString " ASSIGN TO " ++ q = PySem.Str.join sp1 [PySem.Str.ofString "SELECT", nm, PySem.Str.ofString "ASSIGN", PySem.Str.ofString "TO", q] := by
  rw [show PySem.Str.ofString "SELECT " = PySem.Str.ofString "SELECT" ++ sp1 by decide +kernel, show PySem.Str.ofString " ASSIGN TO " = sp1 ++ PySem.Str.ofString "ASSIGN" ++ sp1 ++ PySem.Str.ofString "TO" ++ sp1 by decide +kernel]
  simp only [join_cons2, join_one]
  refine tl_inj ?_
  simp only [tl_append, List.append_assoc]
theorem part2 (q : PySem.Str) : PySem.Str.ofString "ORGANIZATION IS " ++ q = PySem.Str.join sp1 [PySem.Str.ofString "ORGANIZATION", PySem.Str.ofString "IS", q] := by
  rw [show PySem.Str.ofString "ORGANIZATION IS " = PySem.Str.ofString "ORGANIZATION" ++ sp1 ++ PySem.Str.ofString "IS" ++ sp1 by decide +kernel]
  simp only [join_cons2, join_one]
  refine tl_inj ?_
  simp only [tl_append, List.append_assoc]
theorem part3 (q : PySem.Str) : PySem.Str.ofString "ACCESS MODE IS " ++ q = PySem.Str.join sp1 [PySem.Str.ofString "ACCESS", PySem.Str.ofString "MODE", PySem.Str.ofString "IS", q] := by
  rw [show PySem.Str.ofString "ACCESS MODE IS " = PySem.Str.ofString "ACCESS" ++ sp1 ++ PySem.Str.ofString "MODE" ++ sp1 ++ PySem.Str.ofString "IS" ++ sp1 by decide +kernel]
  simp only [join_cons2, join_one]
  refine tl_inj ?_
  simp only [tl_append, List.append_assoc]
theorem part_w (a b c q p : PySem.Str) (h : p = a ++ sp1 ++ b ++ sp1 ++ c) : p ++ PySem.Str.ofString " " ++ q = PySem.Str.join sp1 [a, b, c, q] := by
  rw [h, sp1_eq]
  simp only [join_cons2, join_one]
  refine tl_inj ?_
  simp only [tl_append, List.append_assoc]
theorem part_alt (q : PySem.Str × Bool) : altT q = PySem.Str.join sp1 (cw (.alt q.1 q.2)) := by
  rw [cw_alt]
  unfold altT
  rw [show PySem.Str.ofString "ALTERNATE RECORD KEY IS " = PySem.Str.ofString "ALTERNATE" ++ sp1 ++ PySem.Str.ofString "RECORD" ++ sp1 ++ PySem.Str.ofString "KEY" ++ sp1 ++ PySem.Str.ofString "IS" ++ sp1 by decide +kernel]
  cases q.2
  · rw [if_neg (by decide), if_neg (by decide)]
    simp only [List.cons_append, List.nil_append, join_cons2, join_one]
    refine tl_inj ?_
    simp only [tl_append, List.append_assoc, show tl (PySem.Str.ofString "") = [] by decide +kernel, List.append_nil]
  · rw [if_pos rfl, if_pos rfl, show PySem.Str.ofString " WITH DUPLICATES" = sp1 ++ PySem.Str.ofString "WITH" ++ sp1 ++ PySem.Str.ofString "DUPLICATES" by decide +kernel]
    simp only [List.cons_append, List.nil_append, join_cons2, join_one]
    refine tl_inj ?_
    simp only [tl_append, List.append_assoc]
theorem kept_word {wd x : PySem.Str} {c : PySem.Str → Cl} {a : PySem.Str} {r : PySem.Str → List PySem.Str} (h : ∀ x, wd ++ PySem.Str.ofString " " ++ x = PySem.Str.join sp1 (cw (c x))) (hc : ∀ x, cw (c x) = a :: r x) (ha : tl a ≠ []) : kept [wordT wd x] = ((optC c x).map cw).map (PySem.Str.join sp1) := by
  unfold kept wordT optC
  split
  · rfl
  · rw [h]
    have e : (PySem.Str.join sp1 (cw (c x)) != PySem.Str.ofString "") = true := by rw [hc]; exact join_ne ha
    rw [List.filter_cons, if_pos e]
    rfl
theorem kept_append (a b : List PySem.Str) : kept (a ++ b) = kept a ++ kept b := List.filter_append ..
theorem kept_parts (nm : PySem.Str) (σ : Sp) : kept (showParts nm σ.path σ.org σ.acc σ.key σ.rel σ.stat σ.al) = (wssOf nm σ).map (PySem.Str.join sp1) := by
  have ek : kept [wordT (PySem.Str.ofString "RECORD KEY IS") σ.key] = ((optC .key σ.key).map cw).map (PySem.Str.join sp1) :=
    kept_word (a := PySem.Str.ofString "RECORD") (r := fun q => [PySem.Str.ofString "KEY", PySem.Str.ofString "IS", q]) (fun x => by rw [cw_key]; exact part_w _ _ _ _ _ (by decide +kernel)) (fun x => cw_key x) (by decide +kernel)
  have er : kept [wordT (PySem.Str.ofString "RELATIVE KEY IS") σ.rel] = ((optC .rel σ.rel).map cw).map (PySem.Str.join sp1) :=
    kept_word (a := PySem.Str.ofString "RELATIVE") (r := fun q => [PySem.Str.ofString "KEY", PySem.Str.ofString "IS", q]) (fun x => by rw [cw_rel]; exact part_w _ _ _ _ _ (by decide +kernel)) (fun x => cw_rel x) (by decide +kernel)
  have es : kept [wordT (PySem.Str.ofString "FILE STATUS IS") σ.stat] = ((optC .stat σ.stat).map cw).map (PySem.Str.join sp1) :=
    kept_word (a := PySem.Str.ofString "FILE") (r := fun q => [PySem.Str.ofString "STATUS", PySem.Str.ofString "IS", q]) (fun x => by rw [cw_stat]; exact part_w _ _ _ _ _ (by decide +kernel)) (fun x => cw_stat x) (by decide +kernel)
  have ea : kept (σ.al.map altT) = ((σ.al.map (fun q => Cl.alt q.1 q.2)).map cw).map (PySem.Str.join sp1) := by
    unfold kept
    rw [List.filter_eq_self.mpr fun x hx => ?_, List.map_map, List.map_map]
    · exact List.map_congr_left fun q _ => part_alt q
    · obtain ⟨q, _, rfl⟩ := List.mem_map.mp hx
      rw [part_alt, cw_alt]
      exact join_ne (by decide +kernel)
  unfold showParts showPre
  show kept ((([_, _, _] ++ [_]) ++ _ ++ [_]) ++ ([_] ++ [_])) = _
  rw [kept_append, kept_append, kept_append, kept_append, kept_append, ek, er, es, ea]
  have e3 : kept [PySem.Str.ofString "SELECT " ++ nm ++ PySem.Str.ofString " ASSIGN TO " ++ (PySem.Str.ofString "\"" ++ σ.path ++ PySem.Str.ofString "\""), PySem.Str.ofString "ORGANIZATION IS " ++ Txt.upper σ.org, PySem.Str.ofString "ACCESS MODE IS " ++ Txt.upper σ.acc] =
      ([[PySem.Str.ofString "SELECT", nm, PySem.Str.ofString "ASSIGN", PySem.Str.ofString "TO", qt σ.path], [PySem.Str.ofString "ORGANIZATION", PySem.Str.ofString "IS", Txt.upper σ.org], [PySem.Str.ofString "ACCESS", PySem.Str.ofString "MODE", PySem.Str.ofString "IS", Txt.upper σ.acc]] : List (List PySem.Str)).map (PySem.Str.join sp1) := by
    rw [part1, part2, part3]
    unfold kept
    rw [List.filter_eq_self.mpr fun x hx => ?_]
    · rfl
    · simp at hx
      rcases hx with rfl | rfl | rfl
      · exact join_ne (by decide +kernel)
      · exact join_ne (by decide +kernel)
      · exact join_ne (by decide +kernel)
  rw [e3]
  unfold wssOf
  simp only [List.map_append, List.append_assoc]
  rfl
theorem text_words (nm : PySem.Str) (σ : Sp) : textOf nm σ = Txt.join (PySem.Str.ofString " ") (wsOf nm (clsOf σ)) := by
  show Txt.join (PySem.Str.ofString " ") (kept (showParts nm σ.path σ.org σ.acc σ.key σ.rel σ.stat σ.al)) = _
  rw [kept_parts, join_eq, join_flat _ (wss_ne nm σ), wss_flat, join_eq]
end
section
set_option maxRecDepth 100000
set_option maxHeartbeats 4000000
/-! what holds of each word -/
structure Base (x : PySem.Str) : Prop where
  ne : tl x ≠ []
  free : 32 ∉ tl x
  noq : (Txt.item x 0 == PySem.Str.ofString "\"") = false
  nodot : (x == PySem.Str.ofString ".") = false
  len : x.length ≤ 60
  ok : PyData.strOk x = true
theorem base_of {x : PySem.Str} (h : base x = true) : Base x := by
  unfold base at h
  simp only [Bool.and_eq_true, decide_eq_true_eq, Bool.not_eq_true'] at h
  obtain ⟨⟨⟨⟨⟨h1, h2⟩, h3⟩, h4⟩, h5⟩, h6⟩ := h
  exact ⟨h1, fun m => Bool.noConfusion ((List.contains_iff_mem.mpr m).symm.trans h2), h3, h4, h5, h6⟩
structure GPath (x : PySem.Str) : Prop where
  ne : tl (qt x) ≠ []
  free : 32 ∉ tl (qt x)
  q : (Txt.item (qt x) 0 == PySem.Str.ofString "\"") = true
  sl : Txt.slice (qt x) (some 1) (some (-1)) = x
  len : x.length ≤ 60
  ok : PyData.strOk x = true
  ok2 : PyData.strOk (qt x) = true
  rep : Txt.replace x "\"" "\"\"" = x
  nonempty : (x == PySem.Str.ofString "") = false
  k1 : (qt x == PySem.Str.ofString "RELATIVE") = false
  k2 : (qt x == PySem.Str.ofString "STATUS") = false
  k3 : (qt x == PySem.Str.ofString "ALTERNATE") = false
  k4 : (qt x == PySem.Str.ofString "ACCESS") = false
theorem path_of {x : PySem.Str} (h : gpath x = true) : GPath x := by
  unfold gpath at h
  simp only [Bool.and_eq_true, decide_eq_true_eq, Bool.not_eq_true'] at h
  obtain ⟨⟨⟨⟨⟨⟨⟨⟨⟨⟨⟨⟨h1, h2⟩, h3⟩, h4⟩, h5⟩, h6⟩, h7⟩, h8⟩, h9⟩, k1⟩, k2⟩, k3⟩, k4⟩ := h
  exact ⟨h1, fun m => Bool.noConfusion ((List.contains_iff_mem.mpr m).symm.trans h2), h3, eq_of_beq h4, h5, h6, h7, eq_of_beq h8, h9, k1, k2, k3, k4⟩
structure GName (x : PySem.Str) : Prop where
  b : Base x
  k1 : (x == PySem.Str.ofString "RELATIVE") = false
  k2 : (x == PySem.Str.ofString "STATUS") = false
  k3 : (x == PySem.Str.ofString "ALTERNATE") = false
  k4 : (x == PySem.Str.ofString "ACCESS") = false
  nonempty : (x == PySem.Str.ofString "") = false
theorem name_of {x : PySem.Str} (h : gname x = true) : GName x := by
  unfold gname at h
  simp only [Bool.and_eq_true, Bool.not_eq_true'] at h
  obtain ⟨⟨⟨⟨⟨h1, k1⟩, k2⟩, k3⟩, k4⟩, k5⟩ := h
  exact ⟨base_of h1, k1, k2, k3, k4, k5⟩
/-- the words that the shower writes of its own -/
noncomputable def kws : List PySem.Str := [PySem.Str.ofString "SELECT", PySem.Str.ofString "ASSIGN", PySem.Str.ofString "TO", PySem.Str.ofString "ORGANIZATION", PySem.Str.ofString "IS", PySem.Str.ofString "ACCESS", PySem.Str.ofString "MODE", PySem.Str.ofString "RECORD", PySem.Str.ofString "KEY", PySem.Str.ofString "ALTERNATE", PySem.Str.ofString "WITH", PySem.Str.ofString "DUPLICATES", PySem.Str.ofString "RELATIVE", PySem.Str.ofString "FILE", PySem.Str.ofString "STATUS"]
theorem kws_base : (kws.all base) = true := by decide +kernel
theorem kw_base {x : PySem.Str} (h : x ∈ kws) : Base x := base_of (List.all_eq_true.mp kws_base x h)
theorem upO {σ : Sp} (h : σ.org = PySem.Str.ofString "sequential" ∨ σ.org = PySem.Str.ofString "relative" ∨ σ.org = PySem.Str.ofString "indexed") : base (Txt.upper σ.org) = true ∧ PyData.strOk σ.org = true ∧ σ.org.length ≤ 60 := by
  rcases h with e | e | e <;> rw [e] <;> decide +kernel
theorem upA {σ : Sp} (h : σ.acc = PySem.Str.ofString "sequential" ∨ σ.acc = PySem.Str.ofString "random" ∨ σ.acc = PySem.Str.ofString "dynamic") : base (Txt.upper σ.acc) = true ∧ PyData.strOk σ.acc = true ∧ σ.acc.length ≤ 60 := by
  rcases h with e | e | e <;> rw [e] <;> decide +kernel
inductive TokGood : PySem.Str × PySem.Str → Prop where
  | word {x : PySem.Str} : Base x → TokGood (wrd x)
  | lit {x : PySem.Str} : GPath x → TokGood (PySem.Str.ofString "literal", x)
  | dot : TokGood dot
/-- a clause's own words are good -/
noncomputable def CGood : Cl → Prop
  | .assign p => GPath p
  | .org q _ => Base q
  | .acc q _ => Base q
  | .key n => Base n
  | .alt n _ => Base n
  | .rel n => Base n
  | .stat n => Base n
theorem words_good {c : Cl} (h : CGood c) : ∀ q ∈ c.words, TokGood q := by
  have k : ∀ {x : PySem.Str}, x ∈ kws → TokGood (wrd x) := fun m => .word (kw_base m)
  cases c with
  | assign p =>
    intro q hq
    rcases List.mem_cons.mp hq with rfl | hq
    · exact k (by decide +kernel)
    rcases List.mem_cons.mp hq with rfl | hq
    · exact k (by decide +kernel)
    rw [List.mem_singleton.mp hq]
    exact .lit h
  | org x l =>
    intro q hq
    rcases List.mem_cons.mp hq with rfl | hq
    · exact k (by decide +kernel)
    rcases List.mem_cons.mp hq with rfl | hq
    · exact k (by decide +kernel)
    rw [List.mem_singleton.mp hq]
    exact .word h
  | acc x l =>
    intro q hq
    rcases List.mem_cons.mp hq with rfl | hq
    · exact k (by decide +kernel)
    rcases List.mem_cons.mp hq with rfl | hq
    · exact k (by decide +kernel)
    rcases List.mem_cons.mp hq with rfl | hq
    · exact k (by decide +kernel)
    rw [List.mem_singleton.mp hq]
    exact .word h
  | key x =>
    intro q hq
    rcases List.mem_cons.mp hq with rfl | hq
    · exact k (by decide +kernel)
    rcases List.mem_cons.mp hq with rfl | hq
    · exact k (by decide +kernel)
    rcases List.mem_cons.mp hq with rfl | hq
    · exact k (by decide +kernel)
    rw [List.mem_singleton.mp hq]
    exact .word h
  | rel x =>
    intro q hq
    rcases List.mem_cons.mp hq with rfl | hq
    · exact k (by decide +kernel)
    rcases List.mem_cons.mp hq with rfl | hq
    · exact k (by decide +kernel)
    rcases List.mem_cons.mp hq with rfl | hq
    · exact k (by decide +kernel)
    rw [List.mem_singleton.mp hq]
    exact .word h
  | stat x =>
    intro q hq
    rcases List.mem_cons.mp hq with rfl | hq
    · exact k (by decide +kernel)
    rcases List.mem_cons.mp hq with rfl | hq
    · exact k (by decide +kernel)
    rcases List.mem_cons.mp hq with rfl | hq
    · exact k (by decide +kernel)
    rw [List.mem_singleton.mp hq]
    exact .word h
  | alt x b =>
    intro q hq
    rcases List.mem_append.mp hq with hq | hq
    · rcases List.mem_cons.mp hq with rfl | hq
      · exact k (by decide +kernel)
      rcases List.mem_cons.mp hq with rfl | hq
      · exact k (by decide +kernel)
      rcases List.mem_cons.mp hq with rfl | hq
      · exact k (by decide +kernel)
      rcases List.mem_cons.mp hq with rfl | hq
      · exact k (by decide +kernel)
      rw [List.mem_singleton.mp hq]
      exact .word h
    · cases b
      · exact absurd hq (by simp)
      · rcases List.mem_cons.mp hq with rfl | hq
        · exact k (by decide +kernel)
        rw [List.mem_singleton.mp hq]
        exact k (by decide +kernel)
theorem cls_good {nm : PySem.Str} {σ : Sp} (D : Dom nm σ) : ∀ c ∈ clsOf σ, CGood c := by
  have opt : ∀ (f : PySem.Str → Cl) (x : PySem.Str), (∀ x, Base x → CGood (f x)) → (x = PySem.Str.ofString "" ∨ Good x) → ∀ c ∈ optC f x, CGood c := by
    intro f x hf hx c hc
    unfold optC at hc
    split at hc
    · cases hc
    · next hne =>
      rw [List.mem_singleton.mp hc]
      exact hf _ (name_of (hx.resolve_left fun e => hne (by rw [e]; rfl)).1).b
  intro c hc
  unfold clsOf at hc
  rcases List.mem_append.mp hc with hc | hc
  · rcases List.mem_append.mp hc with hc | hc
    · rcases List.mem_append.mp hc with hc | hc
      · rcases List.mem_append.mp hc with hc | hc
        · simp at hc
          rcases hc with rfl | rfl | rfl
          · exact path_of D.path
          · exact base_of (upO D.org).1
          · exact base_of (upA D.acc).1
        · exact opt .key _ (fun _ h => h) D.key c hc
      · obtain ⟨q, hq, rfl⟩ := List.mem_map.mp hc
        exact (name_of (D.al q hq).1).b
    · exact opt .rel _ (fun _ h => h) D.rel c hc
  · exact opt .stat _ (fun _ h => h) D.stat c hc
theorem toks_good {nm : PySem.Str} {σ : Sp} (D : Dom nm σ) : ∀ q ∈ toksOf nm (clsOf σ), TokGood q := by
  intro q hq
  unfold toksOf at hq
  rcases List.mem_cons.mp hq with rfl | hq
  · exact .word (kw_base (by unfold kws; simp))
  rcases List.mem_cons.mp hq with rfl | hq
  · exact .word (name_of D.name.1).b
  rcases List.mem_append.mp hq with hq | hq
  · obtain ⟨c, hc, h⟩ := List.mem_flatMap.mp hq
    exact words_good (cls_good D c hc) q h
  · rw [List.mem_singleton.mp hq]
    exact .dot
theorem len_pos {x : PySem.Str} (h : tl x ≠ []) : 1 ≤ x.length := by
  have := List.length_pos_iff.mpr h
  rw [Array.length_toList] at this
  exact this
theorem qt_len (x : PySem.Str) : (qt x).length = x.length + 2 := by
  show (PySem.Str.ofString "\"" ++ x ++ PySem.Str.ofString "\"").length = _
  rw [PySem.Str.length_append, PySem.Str.length_append, show (PySem.Str.ofString "\"").length = 1 by decide +kernel]
  omega
theorem good_wok {q : PySem.Str × PySem.Str} (h : TokGood q) : WOk q := by
  cases h with
  | word b =>
    unfold WOk
    rw [raw_wrd]
    exact ⟨len_pos b.ne, by have := b.len; omega, .inr (.inr ⟨rfl, b.noq, b.nodot, rfl⟩)⟩
  | lit p =>
    unfold WOk
    rw [raw_lit]
    exact ⟨len_pos p.ne, by rw [qt_len]; have := p.len; omega, .inl ⟨rfl, p.q, p.sl⟩⟩
  | dot =>
    unfold WOk
    rw [raw_dot]
    exact ⟨by decide +kernel, by decide +kernel, .inr (.inl ⟨rfl, by decide +kernel, by decide +kernel, rfl⟩)⟩
theorem good_raw {q : PySem.Str × PySem.Str} (h : TokGood q) : tl (raw q) ≠ [] ∧ 32 ∉ tl (raw q) ∧ (raw q).length ≤ 62 := by
  cases h with
  | word b => rw [raw_wrd]; exact ⟨b.ne, b.free, by have := b.len; omega⟩
  | lit p => rw [raw_lit]; exact ⟨p.ne, p.free, by rw [qt_len]; have := p.len; omega⟩
  | dot => rw [raw_dot]; decide +kernel
theorem ws_good {nm : PySem.Str} {σ : Sp} (D : Dom nm σ) : ∀ x ∈ wsOf nm (clsOf σ), tl x ≠ [] ∧ 32 ∉ tl x ∧ x.length ≤ 62 := by
  rw [← toks_raw]
  intro x hx
  obtain ⟨q, hq, rfl⟩ := List.mem_map.mp hx
  exact good_raw (toks_good D q hq)
end
section
set_option maxRecDepth 100000
set_option maxHeartbeats 4000000
/-! counts -/
noncomputable def b2n (b : Bool) : Nat := if b then 1 else 0
theorem cnt_cons (k x : PySem.Str) (r : List PySem.Str) : (x :: r).count k = b2n (x == k) + r.count k := by
  rw [List.count_cons]
  unfold b2n
  omega
theorem b0 : b2n false = 0 := rfl
theorem cnt_nil (k : PySem.Str) : ([] : List PySem.Str).count k = 0 := rfl
/-- the words that are never counted -/
noncomputable def idle (k : PySem.Str) : Prop := (PySem.Str.ofString "SELECT" == k) = false ∧ (PySem.Str.ofString "ASSIGN" == k) = false ∧ (PySem.Str.ofString "TO" == k) = false ∧ (PySem.Str.ofString "ORGANIZATION" == k) = false ∧ (PySem.Str.ofString "IS" == k) = false ∧ (PySem.Str.ofString "MODE" == k) = false ∧ (PySem.Str.ofString "RECORD" == k) = false ∧ (PySem.Str.ofString "KEY" == k) = false ∧ (PySem.Str.ofString "WITH" == k) = false ∧ (PySem.Str.ofString "DUPLICATES" == k) = false ∧ (PySem.Str.ofString "FILE" == k) = false ∧ (PySem.Str.ofString "." == k) = false
/-- a name is not the word -/
noncomputable def Off (k x : PySem.Str) : Prop := (x == k) = false
theorem cnt_flat (k : PySem.Str) (f : Cl → List PySem.Str) (a b : List Cl) : ((a ++ b).flatMap f).count k = (a.flatMap f).count k + (b.flatMap f).count k := by
  rw [List.flatMap_append, List.count_append]
theorem cnt_opt {k : PySem.Str} {f : PySem.Str → Cl} {x : PySem.Str} {n : Nat} (h : x ≠ PySem.Str.ofString "" → (cw (f x)).count k = n) : ((optC f x).flatMap cw).count k = if x == PySem.Str.ofString "" then 0 else n := by
  unfold optC
  split
  · rfl
  · next hne =>
    show ([f x].flatMap cw).count k = n
    rw [List.flatMap_singleton]
    exact h fun e => hne (by rw [e]; rfl)
theorem cnt_alt {k x : PySem.Str} (I : idle k) (hx : Off k x) (b : Bool) : (cw (.alt x b)).count k = b2n (PySem.Str.ofString "ALTERNATE" == k) := by
  obtain ⟨i1, i2, i3, i4, i5, i6, i7, i8, i9, i10, i11, i12⟩ := I
  unfold Off at hx
  rw [cw_alt]
  cases b
  · rw [if_neg (by decide)]
    simp only [List.append_nil, cnt_cons, cnt_nil, i7, i8, i5, hx, b2n]
    rfl
  · rw [if_pos rfl]
    simp only [List.cons_append, List.nil_append, cnt_cons, cnt_nil, i7, i8, i5, i9, i10, hx, b2n]
    rfl
theorem cnt_alts {k : PySem.Str} (I : idle k) : ∀ al : List (PySem.Str × Bool), (∀ q ∈ al, Off k q.1) → ((al.map (fun q => Cl.alt q.1 q.2)).flatMap cw).count k = b2n (PySem.Str.ofString "ALTERNATE" == k) * al.length
  | [], _ => by simp
  | q :: al, h => by
    rw [List.map_cons, List.flatMap_cons, List.count_append, cnt_alt I (h q (List.mem_cons_self ..)), cnt_alts I al fun p hp => h p (List.mem_cons_of_mem _ hp), List.length_cons, Nat.mul_succ]
    omega
theorem cnt_ws {k nm : PySem.Str} {σ : Sp} (I : idle k) (hn : Off k nm) (hp : Off k (qt σ.path)) (ha : Off k (Txt.upper σ.acc)) (hk : σ.key ≠ PySem.Str.ofString "" → Off k σ.key) (hr : σ.rel ≠ PySem.Str.ofString "" → Off k σ.rel) (hs : σ.stat ≠ PySem.Str.ofString "" → Off k σ.stat) (hl : ∀ q ∈ σ.al, Off k q.1) :
    (wsOf nm (clsOf σ)).count k = b2n (Txt.upper σ.org == k) + b2n (PySem.Str.ofString "ACCESS" == k) + b2n (PySem.Str.ofString "ALTERNATE" == k) * σ.al.length + (if σ.rel == PySem.Str.ofString "" then 0 else b2n (PySem.Str.ofString "RELATIVE" == k)) + (if σ.stat == PySem.Str.ofString "" then 0 else b2n (PySem.Str.ofString "STATUS" == k)) := by
  have al := cnt_alts I σ.al hl
  obtain ⟨i1, i2, i3, i4, i5, i6, i7, i8, i9, i10, i11, i12⟩ := I
  unfold Off at *
  have ck : ((optC .key σ.key).flatMap cw).count k = if σ.key == PySem.Str.ofString "" then 0 else 0 := cnt_opt fun hne => by
    rw [cw_key]; simp only [cnt_cons, cnt_nil, i7, i8, i5, hk hne, b2n]; rfl
  have cr : ((optC .rel σ.rel).flatMap cw).count k = if σ.rel == PySem.Str.ofString "" then 0 else b2n (PySem.Str.ofString "RELATIVE" == k) := cnt_opt fun hne => by
    rw [cw_rel]; simp only [cnt_cons, cnt_nil, i8, i5, hr hne, b2n]; rfl
  have cs : ((optC .stat σ.stat).flatMap cw).count k = if σ.stat == PySem.Str.ofString "" then 0 else b2n (PySem.Str.ofString "STATUS" == k) := cnt_opt fun hne => by
    rw [cw_stat]; simp only [cnt_cons, cnt_nil, i11, i5, hs hne, b2n]
    cases (PySem.Str.ofString "STATUS" == k) <;> rfl
  have ck' : ((optC .key σ.key).flatMap cw).count k = 0 := by rw [ck]; split <;> rfl
  have c3 : ([Cl.assign σ.path, .org (Txt.upper σ.org) σ.org, .acc (Txt.upper σ.acc) σ.acc].flatMap cw).count k = b2n (Txt.upper σ.org == k) + b2n (PySem.Str.ofString "ACCESS" == k) := by
    rw [List.flatMap_cons, List.flatMap_cons, List.flatMap_cons, List.flatMap_nil, cw_assign, cw_org, cw_acc]
    simp only [List.cons_append, List.nil_append, cnt_cons, cnt_nil, i2, i3, i4, i5, i6, hp, ha, b0]
    omega
  unfold wsOf
  rw [List.count_append, cnt_cons, cnt_cons, cnt_cons, cnt_nil, i1, i12, hn]
  unfold clsOf
  rw [cnt_flat, cnt_flat, cnt_flat, cnt_flat, c3, ck', al, cr, cs, b0]
  omega
theorem idle_R : idle (PySem.Str.ofString "RELATIVE") := by unfold idle; decide +kernel
theorem idle_S : idle (PySem.Str.ofString "STATUS") := by unfold idle; decide +kernel
theorem idle_A : idle (PySem.Str.ofString "ALTERNATE") := by unfold idle; decide +kernel
theorem idle_C : idle (PySem.Str.ofString "ACCESS") := by unfold idle; decide +kernel
/-! sizes -/
theorem len_words (c : Cl) : c.words.length ≤ 7 := by
  cases c with
  | alt n b => cases b <;> simp [Cl.words]
  | _ => simp [Cl.words]
theorem len_flat : ∀ ks : List Cl, (ks.flatMap Cl.words).length ≤ 7 * ks.length
  | [] => by simp
  | c :: r => by
    rw [List.flatMap_cons, List.length_append, List.length_cons]
    have := len_words c
    have := len_flat r
    omega
theorem len_opt (f : PySem.Str → Cl) (x : PySem.Str) : (optC f x).length ≤ 1 := by
  unfold optC
  split <;> simp
theorem len_cls {nm : PySem.Str} {σ : Sp} (D : Dom nm σ) : (clsOf σ).length ≤ 9 := by
  unfold clsOf
  rw [List.length_append, List.length_append, List.length_append, List.length_append, List.length_map]
  have h1 := len_opt .key σ.key
  have h2 := len_opt .rel σ.rel
  have h3 := len_opt .stat σ.stat
  have h4 := D.few
  simp
  omega
theorem len_toks {nm : PySem.Str} {σ : Sp} (D : Dom nm σ) : (toksOf nm (clsOf σ)).length ≤ 66 := by
  unfold toksOf
  rw [List.length_cons, List.length_cons, List.length_append, List.length_singleton]
  have := len_flat (clsOf σ)
  have := len_cls D
  omega
theorem len_ws {nm : PySem.Str} {σ : Sp} (D : Dom nm σ) : (wsOf nm (clsOf σ)).length ≤ 66 := by
  rw [← toks_raw, List.length_map]
  exact len_toks D
end
section
set_option maxRecDepth 100000
set_option maxHeartbeats 4000000
theorem good_len {x : PySem.Str} (h : x = PySem.Str.ofString "" ∨ Good x) : x.length ≤ 60 ∧ PyData.strOk x = true := by
  rcases h with e | h
  · rw [e]; decide +kernel
  · have b := (name_of h.1).b
    exact ⟨b.len, b.ok⟩
theorem five_ok {a b c d e : PySem.Str} (h1 : PyData.strOk a = true) (h2 : PyData.strOk b = true) (h3 : PyData.strOk c = true) (h4 : PyData.strOk d = true) (h5 : PyData.strOk e = true) : SeqAt.shaped (.list [.str a, .str b, .str c, .str d, .str e]) = true := by
  unfold SeqAt.shaped
  simp only [PyData.canLay0, PyData.canLayAll0, PyData.depth, PyData.depthAll, h1, h2, h3, h4, h5, Bool.true_and]
  rfl
theorem dep_le {d : Nat} (h : d ≤ 1) : max 0 (max 0 (max 0 (max 0 (max 0 (max (d + 1) (max 0 (max 0 (max 0 (max (0 + 1) 0))))))))) + 1 ≤ 64 := by
  rcases Nat.le_one_iff_eq_zero_or_eq_one.mp h with rfl | rfl <;> decide
theorem told_ok {nm : PySem.Str} {σ : Sp} (h0 : PyData.strOk nm = true) (h1 : PyData.strOk σ.path = true) (h2 : PyData.strOk σ.org = true) (h3 : PyData.strOk σ.acc = true) (h4 : PyData.strOk σ.key = true) (h5 : PyData.strOk σ.rel = true) (h6 : PyData.strOk σ.stat = true) (hal : (σ.al.all fun p => PyData.strOk p.1) = true) : SeqAt.shaped (toldD nm σ) = true := by
  obtain ⟨k1, k2⟩ := pairs_lay σ.al hal
  unfold SeqAt.shaped toldD
  simp only [PyData.canLay0, PyData.canLayAll0, PyData.depth, PyData.depthAll, h0, h1, h2, h3, h4, h5, h6, k1, Bool.true_and, Bool.and_true]
  exact decide_eq_true (dep_le k2)
theorem agree_ok {nm : PySem.Str} {σ : Sp} (D : Dom nm σ) : whole σ.path σ.org σ.acc σ.key σ.rel σ.al = together σ.org σ.acc σ.key σ.rel σ.al := by
  have hp := (path_of D.path).nonempty
  unfold whole together
  rw [hp]
  rcases D.org with e | e | e <;> rw [e]
  · rw [show (PySem.Str.ofString "sequential" == PySem.Str.ofString "indexed") = false by decide +kernel, show (PySem.Str.ofString "sequential" != PySem.Str.ofString "indexed") = true by decide +kernel, show (PySem.Str.ofString "sequential" != PySem.Str.ofString "relative") = true by decide +kernel, show (PySem.Str.ofString "sequential" == PySem.Str.ofString "sequential") = true by decide +kernel]
    cases (σ.key != PySem.Str.ofString "") <;> cases σ.al.isEmpty <;> cases (σ.rel == PySem.Str.ofString "") <;> cases (σ.acc == PySem.Str.ofString "sequential") <;> rfl
  · rw [show (PySem.Str.ofString "relative" == PySem.Str.ofString "indexed") = false by decide +kernel, show (PySem.Str.ofString "relative" != PySem.Str.ofString "indexed") = true by decide +kernel, show (PySem.Str.ofString "relative" != PySem.Str.ofString "relative") = false by decide +kernel, show (PySem.Str.ofString "relative" == PySem.Str.ofString "sequential") = false by decide +kernel]
    cases (σ.key != PySem.Str.ofString "") <;> cases σ.al.isEmpty <;> cases (σ.rel != PySem.Str.ofString "") <;> cases (σ.acc == PySem.Str.ofString "sequential") <;> rfl
  · rw [show (PySem.Str.ofString "indexed" == PySem.Str.ofString "indexed") = true by decide +kernel, show (PySem.Str.ofString "indexed" != PySem.Str.ofString "indexed") = false by decide +kernel, show (PySem.Str.ofString "indexed" != PySem.Str.ofString "relative") = true by decide +kernel]
    cases (σ.key != PySem.Str.ofString "") <;> cases σ.al.isEmpty <;> cases (σ.rel == PySem.Str.ofString "") <;> cases (σ.acc == PySem.Str.ofString "sequential") <;> rfl
theorem word_len {wd x : PySem.Str} {n : Nat} (h1 : wd.length ≤ 20) (h2 : x.length ≤ 60) : (wordT wd x).length ≤ 400 := by
  unfold wordT
  split
  · decide +kernel
  · rw [PySem.Str.length_append, PySem.Str.length_append, show (PySem.Str.ofString " ").length = 1 by decide +kernel]; omega
theorem alt_len {q : PySem.Str × Bool} (h : q.1.length ≤ 60) : (altT q).length ≤ 400 := by
  unfold altT
  rw [PySem.Str.length_append, PySem.Str.length_append, show (PySem.Str.ofString "ALTERNATE RECORD KEY IS ").length = 24 by decide +kernel]
  have : (if q.2 = true then PySem.Str.ofString " WITH DUPLICATES" else PySem.Str.ofString "").length ≤ 16 := by
    split <;> decide +kernel
  omega
theorem weight_ok {nm : PySem.Str} {σ : Sp} (D : Dom nm σ) : ((showParts nm σ.path σ.org σ.acc σ.key σ.rel σ.stat σ.al).map (·.length)).sum + (showParts nm σ.path σ.org σ.acc σ.key σ.rel σ.stat σ.al).length ≤ 1048576 := by
  have few := D.few
  have hn := (name_of D.name.1).b.len
  have hp := (path_of D.path).len
  have ho := (base_of (upO D.org).1).len
  have ha := (base_of (upA D.acc).1).len
  have hk := (good_len D.key).1
  have hr := (good_len D.rel).1
  have hs := (good_len D.stat).1
  have hlen : (showParts nm σ.path σ.org σ.acc σ.key σ.rel σ.stat σ.al).length ≤ 10 := by
    unfold showParts showPre
    simp only [List.length_append, List.length_cons, List.length_nil, List.length_map]
    omega
  have all : ∀ y ∈ showParts nm σ.path σ.org σ.acc σ.key σ.rel σ.stat σ.al, y.length ≤ 400 := by
    intro y hy
    unfold showParts showPre at hy
    rcases List.mem_append.mp hy with hy | hy
    · rcases List.mem_append.mp hy with hy | hy
      · rcases List.mem_append.mp hy with hy | hy
        · rcases List.mem_cons.mp hy with rfl | hy
          · have q := qt_len σ.path
            rw [PySem.Str.length_append, PySem.Str.length_append, PySem.Str.length_append, show (PySem.Str.ofString "SELECT ").length = 7 by decide +kernel, show (PySem.Str.ofString " ASSIGN TO ").length = 11 by decide +kernel]
            have q' : (PySem.Str.ofString "\"" ++ σ.path ++ PySem.Str.ofString "\"").length = σ.path.length + 2 := q
            omega
          rcases List.mem_cons.mp hy with rfl | hy
          · rw [PySem.Str.length_append, show (PySem.Str.ofString "ORGANIZATION IS ").length = 16 by decide +kernel]; omega
          rcases List.mem_cons.mp hy with rfl | hy
          · rw [PySem.Str.length_append, show (PySem.Str.ofString "ACCESS MODE IS ").length = 15 by decide +kernel]; omega
          rw [List.mem_singleton.mp hy]
          exact word_len (n := 0) (by decide +kernel) hk
        · obtain ⟨q, hq, rfl⟩ := List.mem_map.mp hy
          exact alt_len (name_of (D.al q hq).1).b.len
      · rw [List.mem_singleton.mp hy]
        exact word_len (n := 0) (by decide +kernel) hr
    · rcases List.mem_cons.mp hy with rfl | hy
      · exact word_len (n := 0) (by decide +kernel) hs
      rw [List.mem_singleton.mp hy]
      decide +kernel
  have := PySem.StrLaws.sumLen_le _ all
  have : (showParts nm σ.path σ.org σ.acc σ.key σ.rel σ.stat σ.al).length * 400 ≤ 10 * 400 := Nat.mul_le_mul_right _ hlen
  omega
theorem off_key {k x : PySem.Str} (f : ∀ {x : PySem.Str}, GName x → (x == k) = false) (h : x = PySem.Str.ofString "" ∨ Good x) : x ≠ PySem.Str.ofString "" → Off k x := fun hne => f (name_of (h.resolve_left hne).1)
theorem xf_ok {nm : PySem.Str} {σ : Sp} (D : Dom nm σ) : XF (textOf nm σ) nm σ ((toksOf nm (clsOf σ)).map raw) := by
  have P := path_of D.path
  have good := ws_good D
  have hl := len_ws D
  have hw : wsOf nm (clsOf σ) = PySem.Str.ofString "SELECT" :: nm :: PySem.Str.ofString "ASSIGN" :: PySem.Str.ofString "TO" :: (PySem.Str.ofString "\"" ++ σ.path ++ PySem.Str.ofString "\"") :: (([Cl.org (Txt.upper σ.org) σ.org, .acc (Txt.upper σ.acc) σ.acc] ++ optC .key σ.key ++ σ.al.map (fun q => Cl.alt q.1 q.2) ++ optC .rel σ.rel ++ optC .stat σ.stat).flatMap cw ++ [PySem.Str.ofString "."]) := by
    have e : clsOf σ = Cl.assign σ.path :: ([Cl.org (Txt.upper σ.org) σ.org, .acc (Txt.upper σ.acc) σ.acc] ++ optC .key σ.key ++ σ.al.map (fun q => Cl.alt q.1 q.2) ++ optC .rel σ.rel ++ optC .stat σ.stat) := rfl
    unfold wsOf
    rw [e, List.flatMap_cons, cw_assign]
    rfl
  rw [toks_raw, text_words]
  have cc : ∀ (k : PySem.Str), idle k → Off k (qt σ.path) → Off k (Txt.upper σ.acc) → (∀ {x : PySem.Str}, GName x → (x == k) = false) → countIn (.str k) ((wsOf nm (clsOf σ)).map PyData.str) = ((b2n (Txt.upper σ.org == k) + b2n (PySem.Str.ofString "ACCESS" == k) + b2n (PySem.Str.ofString "ALTERNATE" == k) * σ.al.length + (if σ.rel == PySem.Str.ofString "" then 0 else b2n (PySem.Str.ofString "RELATIVE" == k)) + (if σ.stat == PySem.Str.ofString "" then 0 else b2n (PySem.Str.ofString "STATUS" == k)) : Nat) : Int) := by
    intro k I h1 h2 f
    rw [cnt_strs, cnt_ws I (f (name_of D.name.1)) h1 h2 (off_key f D.key) (off_key f D.rel) (off_key f D.stat) fun q hq => f (name_of (D.al q hq).1)]
  refine ⟨split_words (by rw [hw]; simp) fun x hx => (good x hx).2.1, ?_, ?_, no_dbl fun x hx => ⟨(good x hx).1, (good x hx).2.1⟩, ⟨_, hw⟩, ?_, ?_, ?_, by omega, ?_, ?_⟩
  · have h1 := len_join (B := 62) fun x hx => (good x hx).2.2
    have h2 : (wsOf nm (clsOf σ)).length * 62 ≤ 66 * 62 := Nat.mul_le_mul_right _ hl
    rw [sizeLine_eq]
    omega
  · exact tail_dot (by simp)
  · rw [cc _ idle_R P.k1 ?_ fun g => g.k1]
    · rw [show (PySem.Str.ofString "ACCESS" == PySem.Str.ofString "RELATIVE") = false by decide +kernel, show (PySem.Str.ofString "ALTERNATE" == PySem.Str.ofString "RELATIVE") = false by decide +kernel, show (PySem.Str.ofString "RELATIVE" == PySem.Str.ofString "RELATIVE") = true by decide +kernel, show (PySem.Str.ofString "STATUS" == PySem.Str.ofString "RELATIVE") = false by decide +kernel]
      have ho : (Txt.upper σ.org == PySem.Str.ofString "RELATIVE") = (σ.org == PySem.Str.ofString "relative") := by
        rcases D.org with e | e | e <;> rw [e] <;> decide +kernel
      rw [ho, bne]
      simp only [b2n]
      cases (σ.org == PySem.Str.ofString "relative") <;> cases (σ.rel == PySem.Str.ofString "") <;> cases (σ.stat == PySem.Str.ofString "") <;> simp
    · rcases D.acc with e | e | e <;> rw [e] <;> unfold Off <;> decide +kernel
  · rw [cc _ idle_S P.k2 ?_ fun g => g.k2]
    · rw [show (PySem.Str.ofString "ACCESS" == PySem.Str.ofString "STATUS") = false by decide +kernel, show (PySem.Str.ofString "ALTERNATE" == PySem.Str.ofString "STATUS") = false by decide +kernel, show (PySem.Str.ofString "RELATIVE" == PySem.Str.ofString "STATUS") = false by decide +kernel, show (PySem.Str.ofString "STATUS" == PySem.Str.ofString "STATUS") = true by decide +kernel]
      have ho : (Txt.upper σ.org == PySem.Str.ofString "STATUS") = false := by
        rcases D.org with e | e | e <;> rw [e] <;> decide +kernel
      rw [ho, bne]
      simp only [b2n]
      cases (σ.rel == PySem.Str.ofString "") <;> cases (σ.stat == PySem.Str.ofString "") <;> simp
    · rcases D.acc with e | e | e <;> rw [e] <;> unfold Off <;> decide +kernel
  · rw [cc _ idle_A P.k3 ?_ fun g => g.k3]
    · rw [show (PySem.Str.ofString "ACCESS" == PySem.Str.ofString "ALTERNATE") = false by decide +kernel, show (PySem.Str.ofString "ALTERNATE" == PySem.Str.ofString "ALTERNATE") = true by decide +kernel, show (PySem.Str.ofString "RELATIVE" == PySem.Str.ofString "ALTERNATE") = false by decide +kernel, show (PySem.Str.ofString "STATUS" == PySem.Str.ofString "ALTERNATE") = false by decide +kernel]
      have ho : (Txt.upper σ.org == PySem.Str.ofString "ALTERNATE") = false := by
        rcases D.org with e | e | e <;> rw [e] <;> decide +kernel
      rw [ho]
      simp only [b2n]
      cases (σ.rel == PySem.Str.ofString "") <;> cases (σ.stat == PySem.Str.ofString "") <;> simp
    · rcases D.acc with e | e | e <;> rw [e] <;> unfold Off <;> decide +kernel
  · exact five_ok (by decide +kernel) (name_of D.name.1).b.ok (by decide +kernel) (by decide +kernel) P.ok2
  · rw [cc _ idle_C P.k4 ?_ fun g => g.k4]
    · rw [show (PySem.Str.ofString "ACCESS" == PySem.Str.ofString "ACCESS") = true by decide +kernel, show (PySem.Str.ofString "ALTERNATE" == PySem.Str.ofString "ACCESS") = false by decide +kernel, show (PySem.Str.ofString "RELATIVE" == PySem.Str.ofString "ACCESS") = false by decide +kernel, show (PySem.Str.ofString "STATUS" == PySem.Str.ofString "ACCESS") = false by decide +kernel]
      have ho : (Txt.upper σ.org == PySem.Str.ofString "ACCESS") = false := by
        rcases D.org with e | e | e <;> rw [e] <;> decide +kernel
      rw [ho]
      simp only [b2n]
      cases (σ.rel == PySem.Str.ofString "") <;> cases (σ.stat == PySem.Str.ofString "") <;> simp
    · rcases D.acc with e | e | e <;> rw [e] <;> unfold Off <;> decide +kernel
/-- every spec of the law's is right -/
theorem right_ok {nm : PySem.Str} {σ : Sp} (D : Dom nm σ) : Right nm σ (clsOf σ) := by
  have P := path_of D.path
  have hn := (name_of D.name.1).b
  have hal : (σ.al.all fun p => PyData.strOk p.1) = true := List.all_eq_true.mpr fun q hq => (name_of (D.al q hq).1).b.ok
  have lift : ∀ {n : Nat}, n ≤ 60 → n ≤ 100 := fun h => by omega
  exact ⟨P.rep, lift P.len, lift hn.len, lift (upO D.org).2.2, lift (upA D.acc).2.2, lift (good_len D.key).1, lift (good_len D.rel).1, lift (good_len D.stat).1, fun q hq => lift (name_of (D.al q hq).1).b.len, by have := D.few; omega, weight_ok D, xf_ok D, by have := len_toks D; omega,
    fun q hq => good_wok (toks_good D q hq), D.name.2, by rw [D.opt, Bool.and_false], cls_ok D, cls_back D, hal, told_ok hn.ok P.ok (upO D.org).2.1 (upA D.acc).2.1 (good_len D.key).2 (good_len D.rel).2 (good_len D.stat).2 hal, agree_ok D⟩
end
section
set_option maxRecDepth 100000
set_option maxHeartbeats 4000000
/-! the law's own words -/
/-- the signs stand nowhere in a list -/
noncomputable def noSub (p : List Nat) : List Nat → Bool
  | [] => !p.isEmpty
  | a :: r => !(p.isPrefixOf (a :: r)) && noSub p r
theorem noSub_at {p : List Nat} : ∀ {l : List Nat} {i : Nat}, noSub p l = true → (l.drop i).take p.length = p → False
  | [], i, h, e => by
    rw [List.drop_nil, List.take_nil] at e
    rw [← e] at h
    cases h
  | a :: r, 0, h, e => by
    have h1 : p.isPrefixOf (a :: r) = true := by
      rw [List.isPrefixOf_iff_prefix, List.prefix_iff_eq_take]
      exact e.symm
    unfold noSub at h
    rw [h1] at h
    cases h
  | a :: r, i + 1, h, e => by
    unfold noSub at h
    exact noSub_at (l := r) (i := i) (Bool.and_eq_true _ _ ▸ h).2 e
theorem rsFree {q : PySem.Str} (h : noSub (32 :: (tl q ++ [32])) RsN = true) : (Builtin.Str.occurrences (PySem.Str.mk ⟨RsN⟩) (PySem.Str.ofString " " ++ q ++ PySem.Str.ofString " ") 0 (PySem.Str.mk ⟨RsN⟩).length 1).isEmpty = true := by
  refine Classical.byContradiction fun hn => ?_
  have hf : (!(PySem.Builtin.Str.occurrences (PySem.Str.mk ⟨RsN⟩) (PySem.Str.ofString " " ++ q ++ PySem.Str.ofString " ") 0 (PySem.Str.mk ⟨RsN⟩).length 1).isEmpty) = true := by simpa using hn
  obtain ⟨i, hi, hs⟩ := (PySem.StrLaws.found_iff _ _).mp hf
  rw [PySem.StrLaws.subAt_eq] at hs
  have e : tl (PySem.Str.ofString " " ++ q ++ PySem.Str.ofString " ") = 32 :: (tl q ++ [32]) := by
    rw [sp1_eq, tl_append, tl_append]
    rfl
  have e2 : (PySem.Str.ofString " " ++ q ++ PySem.Str.ofString " ").length = (32 :: (tl q ++ [32])).length := by
    rw [← e]
    simp [PySem.Str.length]
  refine noSub_at (i := i) h ?_
  rw [← e2]
  exact (eq_of_beq hs).trans e
noncomputable def goodB (x : PySem.Str) : Bool := gname x && decide (x.length ≤ 100) && noSub (32 :: (tl x ++ [32])) RsN
theorem good_of {x : PySem.Str} (h : goodB x = true) : Good x := by
  unfold goodB at h
  simp only [Bool.and_eq_true, decide_eq_true_eq] at h
  exact ⟨h.1.1, h.1.2, rsFree h.2⟩
theorem g_F : Good (PySem.Str.ofString "F") := good_of (by decide +kernel)
theorem g_F1 : Good (PySem.Str.ofString "F1") := good_of (by decide +kernel)
theorem g_MASTER : Good (PySem.Str.ofString "MASTER") := good_of (by decide +kernel)
theorem g_K : Good (PySem.Str.ofString "K") := good_of (by decide +kernel)
theorem g_K1 : Good (PySem.Str.ofString "K-1") := good_of (by decide +kernel)
theorem g_NO : Good (PySem.Str.ofString "NUMBER-OF") := good_of (by decide +kernel)
theorem g_R : Good (PySem.Str.ofString "R") := good_of (by decide +kernel)
theorem g_REL : Good (PySem.Str.ofString "REL") := good_of (by decide +kernel)
theorem g_STA : Good (PySem.Str.ofString "ST-A") := good_of (by decide +kernel)
theorem g_A1 : Good (PySem.Str.ofString "A1") := good_of (by decide +kernel)
theorem g_B2 : Good (PySem.Str.ofString "B2") := good_of (by decide +kernel)
theorem g_C3 : Good (PySem.Str.ofString "C3") := good_of (by decide +kernel)
theorem p_P : gpath (PySem.Str.ofString "P") = true := by decide +kernel
theorem p_D : gpath (PySem.Str.ofString "DATA1") = true := by decide +kernel
theorem p_x : gpath (PySem.Str.ofString "x") = true := by decide +kernel
theorem p_O : gpath (PySem.Str.ofString "OLD.DAT") = true := by decide +kernel
theorem p_q : gpath (PySem.Str.ofString "'q'") = true := by decide +kernel
theorem shown : showText (PySem.Str.ofString "F") (PySem.Str.ofString "P.1") (PySem.Str.ofString "indexed") (PySem.Str.ofString "dynamic") (PySem.Str.ofString "K") (PySem.Str.ofString "") (PySem.Str.ofString "ST") [(PySem.Str.ofString "A", true)] = PySem.Str.ofString "SELECT F ASSIGN TO \"P.1\" ORGANIZATION IS INDEXED ACCESS MODE IS DYNAMIC RECORD KEY IS K ALTERNATE RECORD KEY IS A WITH DUPLICATES FILE STATUS IS ST ." := by decide +kernel
/-- a spec in a row: its organization, its access, its key, its relative key -/
noncomputable def spOf (o a k r : PySem.Str) : Sp := { path := PySem.Str.ofString "P", org := o, acc := a, key := k, rel := r, stat := PySem.Str.ofString "", al := [] }
noncomputable def RowOk (o a k r : PySem.Str) : Prop := Dom (PySem.Str.ofString "F") (spOf o a k r)
noncomputable abbrev orgs : List PySem.Str := [PySem.Str.ofString "sequential", PySem.Str.ofString "relative", PySem.Str.ofString "indexed"]
noncomputable abbrev accs : List PySem.Str := [PySem.Str.ofString "sequential", PySem.Str.ofString "random", PySem.Str.ofString "dynamic"]
theorem three {P : PySem.Str → Prop} {x a b c : PySem.Str} (h : x ∈ [a, b, c]) (ha : P a) (hb : P b) (hc : P c) : P x := by
  rcases List.mem_cons.mp h with rfl | h
  · exact ha
  rcases List.mem_cons.mp h with rfl | h
  · exact hb
  exact (List.mem_singleton.mp h) ▸ hc
theorem two {P : PySem.Str → Prop} {x a b : PySem.Str} (h : x ∈ [a, b]) (ha : P a) (hb : P b) : P x := by
  rcases List.mem_cons.mp h with rfl | h
  · exact ha
  exact (List.mem_singleton.mp h) ▸ hb
theorem org3 {x : PySem.Str} (h : x ∈ orgs) : x = PySem.Str.ofString "sequential" ∨ x = PySem.Str.ofString "relative" ∨ x = PySem.Str.ofString "indexed" := three (P := fun x => x = PySem.Str.ofString "sequential" ∨ x = PySem.Str.ofString "relative" ∨ x = PySem.Str.ofString "indexed") h (.inl rfl) (.inr (.inl rfl)) (.inr (.inr rfl))
theorem acc3 {x : PySem.Str} (h : x ∈ accs) : x = PySem.Str.ofString "sequential" ∨ x = PySem.Str.ofString "random" ∨ x = PySem.Str.ofString "dynamic" := three (P := fun x => x = PySem.Str.ofString "sequential" ∨ x = PySem.Str.ofString "random" ∨ x = PySem.Str.ofString "dynamic") h (.inl rfl) (.inr (.inl rfl)) (.inr (.inr rfl))
theorem row_ok {o a k r : PySem.Str} (ho : o ∈ orgs) (ha : a ∈ accs) (hk : k ∈ [PySem.Str.ofString "", PySem.Str.ofString "K"]) (hr : r ∈ [PySem.Str.ofString "", PySem.Str.ofString "R"]) : RowOk o a k r :=
  { name := g_F, opt := by decide +kernel, path := p_P, org := org3 ho, acc := acc3 ha,
    key := two (P := fun x => x = PySem.Str.ofString "" ∨ Good x) hk (.inl rfl) (.inr g_K), rel := two (P := fun x => x = PySem.Str.ofString "" ∨ Good x) hr (.inl rfl) (.inr g_R), stat := .inl rfl,
    al := fun q hq => absurd hq (List.not_mem_nil), nodup := List.nodup_nil, few := Nat.zero_le _ }
theorem drawn_ok {nm path o a k r st : PySem.Str} {al : List (PySem.Str × Bool)} (hn : nm ∈ [PySem.Str.ofString "F1", PySem.Str.ofString "MASTER"]) (hp : path ∈ [PySem.Str.ofString "DATA1", PySem.Str.ofString "x", PySem.Str.ofString "OLD.DAT", PySem.Str.ofString "'q'"]) (ho : o ∈ orgs) (ha : a ∈ accs)
    (hk : k ∈ [PySem.Str.ofString "", PySem.Str.ofString "K-1", PySem.Str.ofString "NUMBER-OF"]) (hr : r ∈ [PySem.Str.ofString "", PySem.Str.ofString "REL"]) (hs : st ∈ [PySem.Str.ofString "", PySem.Str.ofString "ST-A"]) (hal : (al.map (·.1)).Sublist [PySem.Str.ofString "A1", PySem.Str.ofString "B2", PySem.Str.ofString "C3"]) :
    Dom nm { path := path, org := o, acc := a, key := k, rel := r, stat := st, al := al } :=
  { name := two (P := Good) hn g_F1 g_MASTER, opt := two (P := fun x => (x == PySem.Str.ofString "OPTIONAL") = false) hn (by decide +kernel) (by decide +kernel),
    path := by
      rcases List.mem_cons.mp hp with e | hp
      · show gpath path = true; rw [e]; exact p_D
      · exact three (P := fun x => gpath x = true) hp p_x p_O p_q
    org := org3 ho, acc := acc3 ha,
    key := three (P := fun x => x = PySem.Str.ofString "" ∨ Good x) hk (.inl rfl) (.inr g_K1) (.inr g_NO), rel := two (P := fun x => x = PySem.Str.ofString "" ∨ Good x) hr (.inl rfl) (.inr g_REL), stat := two (P := fun x => x = PySem.Str.ofString "" ∨ Good x) hs (.inl rfl) (.inr g_STA),
    al := fun q hq => three (P := Good) (hal.subset (List.mem_map_of_mem hq)) g_A1 g_B2 g_C3,
    nodup := hal.nodup (by decide +kernel), few := by simpa using hal.length_le }
/-- a row of the written specs -/
noncomputable def RowDom (l : List PySem.Str) : Prop := ∃ o a k r, l = [o, a, k, r] ∧ RowOk o a k r
end
end
section
open PySem PySem.Spec PySem.W PyProof.Rows PySem.Calls
set_option maxRecDepth 100000
set_option maxHeartbeats 4000000
set_option rowWalk.seconds 0
local macro_rules | `(tactic| walk_at "kF") => `(tactic| repeat' (first | (with_reducible refine gen_tkE ?_; intro tk9) | ((fail_if_success (fail_if_success k_unfold)); first | ((with_reducible refine (?_ : wpAny _ _ _ _ _ _)); (try dsimp only)) | (k_unfold; (try dsimp only))) | (k_end; wrow_close) | (walk1; walk_at "kQ") | (dsimp only [List.cons_append, List.nil_append]; walk1; walk_at "kQ") | (leave1; try dsimp only) | fail "no step"))
local macro_rules | `(tactic| walk_at "kQ") => `(tactic| all_goals (first | (fail_if_success k_fold) | refine (let q := _; (?_ : wpAny _ _ _ q _ _))))
local macro_rules | `(tactic| k_mem) => `(tactic| first | assumption | exact mem_all (by assumption) _)
local macro_rules | `(tactic| walk_at "call ref") => `(tactic| (k_here; refine halt ?_))
local macro_rules | `(tactic| walk_at "binaryOp Add ref ref") => `(tactic| (k_here; refine halt ?_))
local macro_rules | `(tactic| walk_at "exec For Tuple BinOp cons nil") => `(tactic| (k_here; (rename Fr _ _ _ _ => lF'); (with_unfolding_all refine' For_turns lF' ?_; k_whole)))
local macro_rules | `(tactic| walk_at "pyIter ref") => `(tactic| (k_here; (with_reducible show wpAny _ _ (pyIter (Value.ref _)) (fun it s₂ => TurnsAt _ _ _ _ _ _ _ _ _ it s₂) _ _); refine halt ?_))
local macro_rules | `(tactic| walk_at "ItemsRest") => `(tactic| fail "here")
theorem Tell0.use {w : World} {D U : Nat} {f : Addr} {args : List Value} {news : List (Addr × Obj)} {post : Value → List (Addr × Obj) → Prop} {p : Program} {loose : List Str} {mean : ExcName → Option Value} {mg mb : Str → Option Value} {dp un : Nat} {gd : Option (List Code)} {cn : Str} {cs : Scope} {a : Addr} {ccd : Value} {cl : List (Str × Addr)}
    {A₀ : Around} {base h₀ : Heap} {L : Addr} {m : Str → Option Value} {s : Shared} {Q E : Value → Shared → Prop}
    (hT : Tell0 w D U f args news post) (B : Below A₀ base [] h₀) (F : Fr h₀ L s.heap m) (X : (Mine.KK w.params).In h₀) (N : News h₀ L s.heap news) (T : Top p loose mean mg mb h₀) (XB : (Mine.KK w.params).In base) (TB : Top p loose mean mg mb base) (hk : cs.kind = .function) (hd : dp + D < recursionLimit) (hu : un + U < cLine)
    (ret : ∀ r news' h' tk', post r news' → Fr h₀ L h' m → News h₀ L h' news' → Q r { s with heap := h', toks := tk' }) :
    wpAny (model PySem.Challenge.rw_qd0102_01.prog w) (ktrTop dp un gd cn cs L a ccd cl []) (call (.ref f) args) Q E s := hT _ _ _ _ _ _ _ _ _ _ _ _ _ _ _ _ B F X N T XB TB hk hd hu ret
theorem right_use {w : World} {p : Program} {loose : List Str} {mean : ExcName → Option Value} {mg mb : Str → Option Value} {dp un : Nat} {gd : Option (List Code)} {cn : Str} {cs : Scope} {a : Addr} {ccd : Value} {cl : List (Str × Addr)}
    {A₀ : Around} {h₀ : Heap} {L : Addr} {m : Str → Option Value} {s : Shared} {Q E : Value → Shared → Prop} {O : List (Addr × Obj)} {sp sd ta tr t0 : Addr} {aa : SC} {u0 u1 u2 u3 u4 u6 u7 : Tok} {nm path org acc key rel stat : PySem.Str} {al : List (PySem.Str × Bool)} {ps : List Value}
    (D : Dom nm { path := path, org := org, acc := acc, key := key, rel := rel, stat := stat, al := al }) (B : Below A₀ h₀ [] h₀) (F : Fr h₀ L s.heap m) (X : (Mine.KK w.params).In h₀)
    (N : News h₀ L s.heap ((tr, tupO []) :: (t0, tupO []) :: (sp, instObj 144 sd) :: (sd, SD w.params aa (.str nm u0) (.str path u1) (.str org u2) (.str acc u3) (.str key u4) (.ref ta) (.str rel u6) (.str stat u7) (.bool false) (.ref tr)) :: O)) (hta : (ta, tupO ps) ∈ O) (hps : PairsAt O ps al)
    (T : Top p loose mean mg mb h₀) (hk : cs.kind = .function) (hd : dp + 22 < recursionLimit) (hu : un + 700 < cLine)
    (ret : ∀ h' tk', Fr h₀ L h' m → News h₀ L h' O → Q (.bool true) { s with heap := h', toks := tk' }) :
    wpAny (model PySem.Challenge.rw_qd0102_01.prog w) (ktrTop dp un gd cn cs L a ccd cl []) (call (.ref 429) [.ref sp]) Q E s := by
  have up : ∀ p ∈ O, p ∈ (tr, tupO []) :: (t0, tupO []) :: (sp, instObj 144 sd) :: (sd, SD w.params aa (.str nm u0) (.str path u1) (.str org u2) (.str acc u3) (.str key u4) (.ref ta) (.str rel u6) (.str stat u7) (.bool false) (.ref tr)) :: O := fun p hp => List.mem_cons_of_mem _ (List.mem_cons_of_mem _ (List.mem_cons_of_mem _ (List.mem_cons_of_mem _ hp)))
  have H := @t_right w _ sp sd ta tr aa u0 u1 u2 u3 u4 u6 u7 nm { path := path, org := org, acc := acc, key := key, rel := rel, stat := stat, al := al } _ ps (right_ok D) (List.mem_cons_of_mem _ (List.mem_cons_of_mem _ (List.mem_cons_self ..))) (List.mem_cons_of_mem _ (List.mem_cons_of_mem _ (List.mem_cons_of_mem _ (List.mem_cons_self ..)))) (up _ hta) (List.mem_cons_self ..) (hps.mono up)
  refine Tell0.use (@H) B F X N T X T hk hd hu ?_
  intro r6 n6 h6 tk6 e6 F6 N6
  obtain ⟨rfl, rfl⟩ := e6
  exact ret h6 tk6 F6 fun p hp => N6 p (up p hp)
/-- a loop over rows of the ledger: J says what holds of the frame behind each turn, the ledger stays -/
theorem rows_fold {prog : Program} {w : World} {A : Around} {E : Value → Shared → Prop} {h₀ : Heap} {env : PySem.Env} {target : PySem.Expr} {body : List PySem.Stmt} {Q : Flow → Shared → Prop} {s : Shared} {ws : List (Addr × String)} {keep O : List (Addr × Obj)}
    (J : (PySem.Str → Option Value) → Prop) (P : List PySem.Str → Prop)
    (step : ∀ (r : List PySem.Str) (t : Addr) (vs : List Value) (m : PySem.Str → Option Value) (R : (PySem.Str → Option Value) → List (Addr × Obj) → Prop),
      J m → P r → (t, tupO vs) ∈ O → StrsAre vs r → (∀ m', J m' → R m' O) →
      ∀ h tk, Fr h₀ env.locals h m → AllObj ws (fun its => News h₀ env.locals h (its ++ O) →
      wpAny (model prog w) A (assign target env (.ref t)) (fun _ s₂ => wpAny (model prog w) A (execs body env) (UnrPostW h₀ env.locals { s with heap := h, toks := tk } its (fun m' n' => SubL keep n' ∧ R m' n') Q) E s₂) E { s with heap := h, toks := tk })) 
    (fin : ∀ m' h tk, J m' → Fr h₀ env.locals h m' → News h₀ env.locals h O → Q .next { s with heap := h, toks := tk }) :
    ∀ (ys : List Value) (rows : List (List PySem.Str)) (m : PySem.Str → Option Value), RowsAt O ys rows → (∀ r ∈ rows, P r) → J m →
      ItemsRest prog w A E h₀ env target body Q s ws keep (ys.map .val) m O := by
  intro ys rows m hp hP hJ
  induction hp generalizing m with
  | nil => exact ItemsRest.zero fun h tk F N => fin m h tk hJ F N
  | @cons t vs ys r rows hm hs _ ih =>
    exact ItemsRest.val fun h tk F => step r t vs m _ hJ (hP _ (List.mem_cons_self ..)) hm hs (fun m' hJ' => ih m' (fun q hq => hP q (List.mem_cons_of_mem _ hq)) hJ') h tk F
theorem isL_of {h₀ h : Heap} {L a : Addr} {news : List (Addr × Obj)} {ys : List Value} (N : News h₀ L h news) (hm : (a, LCg.lst ys) ∈ news) : h.IsList a ys.toArray := ⟨_, (N _ hm).1, rfl, _, rfl⟩
theorem isL_lit {h₀ h : Heap} {L a : Addr} {news : List (Addr × Obj)} {ys : List Value} {n : Nat} (N : News h₀ L h news) (hm : (a, listOf ys.toArray n) ∈ news) : h.IsList a ys.toArray := ⟨_, (N _ hm).1, rfl, _, rfl⟩
theorem strs_four {vs : List Value} {a b c d : PySem.Str} (h : StrsAre vs [a, b, c, d]) : ∃ u1 u2 u3 u4, vs = [.str a u1, .str b u2, .str c u3, .str d u4] := by
  cases h with
  | cons _ u1 h => cases h with
    | cons _ u2 h => cases h with
      | cons _ u3 h => cases h with
        | cons _ u4 h => cases h; exact ⟨u1, u2, u3, u4, rfl⟩
theorem tail5 {w : World} {p : Program} {loose : List PySem.Str} {mean : ExcName → Option Value} {mg mb : PySem.Str → Option Value} {h₀ : Heap} {L fa W WL : Addr} {ccd : Value} {m : PySem.Str → Option Value} {s : Shared} {Q : Flow → Shared → Prop} {E : Value → Shared → Prop} {O : List (Addr × Obj)} {ys : List Value} {rows : List (List PySem.Str)} {nW : Nat}
    (hE : PassesOwn (model PySem.Challenge.rw_qd0102_01.prog w) (callerA.deeper (envOfC (PySem.Str.ofString "law") F_law.1.2.2 L fa ccd)) (envOfC (PySem.Str.ofString "law") F_law.1.2.2 L fa ccd) E)
    (X : (Mine.KK w.params).In h₀) (T : Top p loose mean mg mb h₀) (B : Below callerA h₀ [] h₀) (F : Fr h₀ L s.heap m) (N : News h₀ L s.heap O) (hw : m (PySem.Str.ofString "ways") = some (.ref W)) (hwr : m (PySem.Str.ofString "written") = some (.ref WL)) (hWL : (WL, listOf ys.toArray nW) ∈ O) (hr : RowsAt O ys rows) (hd : ∀ r ∈ rows, RowDom r) (hlen : ys.length ≤ 100)
    (fin : ∀ h' tk' m', Fr h₀ L h' m' → News h₀ L h' O → m' (PySem.Str.ofString "ways") = some (.ref W) → wpAny (model PySem.Challenge.rw_qd0102_01.prog w) (callerA.deeper (envOfC (PySem.Str.ofString "law") F_law.1.2.2 L fa ccd)) (execs (F_law.1.2.1.drop 6) (envOfC (PySem.Str.ofString "law") F_law.1.2.2 L fa ccd)) Q E { s with heap := h', toks := tk' }) :
    wpAny (model PySem.Challenge.rw_qd0102_01.prog w) (callerA.deeper (envOfC (PySem.Str.ofString "law") F_law.1.2.2 L fa ccd)) (execs (F_law.1.2.1.drop 5) (envOfC (PySem.Str.ofString "law") F_law.1.2.2 L fa ccd)) Q E s := by
  obtain ⟨m9, rfl⟩ := m_split2 hw hwr
  revert X N; k_fill; intro X N
  try k_fold
  k_steps
  rename_i D1 h1 l1 lst1 h2 F2 N2 l2
  show wpAny _ _ (binaryOp .Add (.ref WL) (.ref lst1)) _ _ _
  refine add_lists (vs := ys) (ws := [.ref D1]) F2 N2 (isL_lit N2 (List.mem_cons_of_mem _ (List.mem_cons_of_mem _ hWL))) (isL_lit N2 (List.mem_cons_self ..)) ?_ (by rw [sizeLine_eq]; simp; omega)
  intro h3 F3 N3
  obtain ⟨NN, sub9, k9, rows9, N4⟩ : ∃ NN : List (Addr × Obj), (∀ p ∈ O, p ∈ NN) ∧ (h2.objs.size, listOf (List.toArray (ys ++ [Value.ref D1])) 0) ∈ NN ∧ RowsAt NN (ys ++ [Value.ref D1]) (rows ++ [[PySem.Str.ofString "indexed", PySem.Str.ofString "random", PySem.Str.ofString "", PySem.Str.ofString "R"]]) ∧ News h₀ L h3 NN :=
    ⟨_, fun p hp => List.mem_cons_of_mem _ (List.mem_cons_of_mem _ (List.mem_cons_of_mem _ hp)), List.mem_cons_self .., (hr.mono fun p hp => List.mem_cons_of_mem _ (List.mem_cons_of_mem _ (List.mem_cons_of_mem _ hp))).append (.cons (vs := [.str _ _, .str _ _, .str _ _, .str _ _]) (List.mem_cons_of_mem _ (List.mem_cons_of_mem _ (List.mem_cons_self ..))) (.cons _ _ (.cons _ _ (.cons _ _ (.cons _ _ .nil)))) .nil), N3⟩
  clear N2 N3
  k_steps
  show wpAny _ _ (pyIter _) _ _ _
  refine iter_listTurns (vs := ys ++ [.ref D1]) rfl F3 N4 k9 rfl rfl ?_
  intro I hI
  refine rows_fold (fun m => m (PySem.Str.ofString "ways") = some (.ref W)) RowDom ?_ ?_ _ _ _ rows9 ?_ rfl
  · intro r t vs m R hJ hP hm hs hR h tk F
    ktu_objs
    obtain ⟨o, a, k, re, rfl, hD⟩ := hP
    obtain ⟨u1, u2, u3, u4, rfl⟩ := strs_four hs
    obtain ⟨m9, rfl⟩ := m_split1 hJ
    k_steps
    rename_i h9 D9 h8 F9 N9 l9
    show wpAny _ _ (call (.ref 401) _ _) _ _ _
    refine Tell.use t_law_spec B F9 (by k_asm) N9 T rfl (by ktr_room) (by ktr_units) ?_
    intro r1 n1 h7 tk7 e7 F7 N7
    obtain ⟨sp, sd, t0, tr, aa, rfl, rfl⟩ := e7
    walk_at "kF"
    show wpAny _ _ (call (.ref 429) _ _) _ _ _
    refine right_use (ps := []) hD B F7 (by k_asm) N7 (List.mem_cons_self ..) .nil T rfl (by ktr_room) (by ktr_units) ?_
    intro h6 tk6 F6 N6
    walk_at "kF"
    exact unrEndW_top F6 (cb_drop N6 (fun p hp => List.mem_cons_of_mem _ hp)) hI ⟨⟨k9, trivial⟩, hR _ rfl⟩
  · intro m' h tk hJ F N
    have N' : News h₀ L h O := fun p hp => N p (sub9 p hp)
    exact fin h tk m' F N' hJ
  · intro r hr9
    rcases List.mem_append.mp hr9 with h | h
    · exact hd r h
    · rw [List.mem_singleton.mp h]
      exact ⟨_, _, _, _, rfl, row_ok (by simp) (by simp) (by simp) (by simp)⟩
section
set_option maxRecDepth 100000
set_option maxHeartbeats 4000000
set_option rowWalk.seconds 0
local macro_rules | `(tactic| walk_at "execs cons") => `(tactic| (k_here; (with_reducible show wpAny _ _ (execs (PySem.Stmt.For _ (PySem.Expr.Call _ _ _ _) _ _ _ :: _) _) _ _ _); refine halt ?_))
theorem sh0 : Txt.replace (PySem.Str.ofString "P.1") "\"" "\"\"" = PySem.Str.ofString "P.1" := by decide +kernel
theorem sh1 : ∀ q ∈ [(PySem.Str.ofString "A", true)], q.1.length ≤ 100 := by decide +kernel
theorem sh2 : ((showParts (PySem.Str.ofString "F") (PySem.Str.ofString "P.1") (PySem.Str.ofString "indexed") (PySem.Str.ofString "dynamic") (PySem.Str.ofString "K") (PySem.Str.ofString "") (PySem.Str.ofString "ST") [(PySem.Str.ofString "A", true)]).map (·.length)).sum + (showParts (PySem.Str.ofString "F") (PySem.Str.ofString "P.1") (PySem.Str.ofString "indexed") (PySem.Str.ofString "dynamic") (PySem.Str.ofString "K") (PySem.Str.ofString "") (PySem.Str.ofString "ST") [(PySem.Str.ofString "A", true)]).length ≤ 1048576 := by decide +kernel
theorem sh3 : (PySem.Str.ofString "SELECT F ASSIGN TO \"P.1\" ORGANIZATION IS INDEXED ACCESS MODE IS DYNAMIC RECORD KEY IS K ALTERNATE RECORD KEY IS A WITH DUPLICATES FILE STATUS IS ST ." != PySem.Str.ofString "SELECT F ASSIGN TO \"P.1\" ORGANIZATION IS INDEXED ACCESS MODE IS DYNAMIC RECORD KEY IS K ALTERNATE RECORD KEY IS A WITH DUPLICATES FILE STATUS IS ST .") = false := by simp
theorem tail6 {w : World} {p : Program} {loose : List PySem.Str} {mean : ExcName → Option Value} {mg mb : PySem.Str → Option Value} {h₀ : Heap} {L fa W : Addr} {ccd : Value} {m : PySem.Str → Option Value} {s : Shared} {Q : Flow → Shared → Prop} {E : Value → Shared → Prop} {O : List (Addr × Obj)}
    (hE : PassesOwn (model PySem.Challenge.rw_qd0102_01.prog w) (callerA.deeper (envOfC (PySem.Str.ofString "law") F_law.1.2.2 L fa ccd)) (envOfC (PySem.Str.ofString "law") F_law.1.2.2 L fa ccd) E)
    (X : (Mine.KK w.params).In h₀) (T : Top p loose mean mg mb h₀) (B : Below callerA h₀ [] h₀) (F : Fr h₀ L s.heap m) (N : News h₀ L s.heap O) (hw : m (PySem.Str.ofString "ways") = some (.ref W))
    (fin : ∀ h' tk' m', Fr h₀ L h' m' → News h₀ L h' O → m' (PySem.Str.ofString "ways") = some (.ref W) → wpAny (model PySem.Challenge.rw_qd0102_01.prog w) (callerA.deeper (envOfC (PySem.Str.ofString "law") F_law.1.2.2 L fa ccd)) (execs (F_law.1.2.1.drop 7) (envOfC (PySem.Str.ofString "law") F_law.1.2.2 L fa ccd)) Q E { s with heap := h', toks := tk' }) :
    wpAny (model PySem.Challenge.rw_qd0102_01.prog w) (callerA.deeper (envOfC (PySem.Str.ofString "law") F_law.1.2.2 L fa ccd)) (execs (F_law.1.2.1.drop 6) (envOfC (PySem.Str.ofString "law") F_law.1.2.2 L fa ccd)) Q E s := by
  obtain ⟨m9, rfl⟩ := m_split1 hw
  revert X N; k_fill; intro X N
  try k_fold
  k_steps
  rename_i D1 h1 l1 D2 h2 F2 N2 l2
  show wpAny _ _ (call (.ref 401) _ _) _ _ _
  refine Tell.use t_law_spec B F2 (by k_asm) N2 T rfl (by ktr_room) (by ktr_units) ?_
  intro r1 n1 h7 tk7 e7 F7 N7
  obtain ⟨sp, sd, t0, tr, aa, rfl, rfl⟩ := e7
  k_steps
  show wpAny _ _ (call (.ref 77) _ _) _ _ _
  refine Tell.use (t_show (al := [(PySem.Str.ofString "A", true)]) (ps := [.ref D1]) (ta := D2) (List.mem_cons_of_mem _ (List.mem_cons_of_mem _ (List.mem_cons_self ..))) (List.mem_cons_of_mem _ (List.mem_cons_of_mem _ (List.mem_cons_of_mem _ (List.mem_cons_self ..)))) (List.mem_cons_of_mem _ (List.mem_cons_of_mem _ (List.mem_cons_of_mem _ (List.mem_cons_of_mem _ (List.mem_cons_self ..))))) (.cons (List.mem_cons_of_mem _ (List.mem_cons_of_mem _ (List.mem_cons_of_mem _ (List.mem_cons_of_mem _ (List.mem_cons_of_mem _ (List.mem_cons_self ..)))))) .nil) sh0 (by decide +kernel) (by decide +kernel) (by decide +kernel) (by decide +kernel) (by decide +kernel) (by decide +kernel) (by decide +kernel) sh1 (by decide) sh2) B F7 (by k_asm) N7 T rfl (by ktr_room) (by ktr_units) ?_
  intro r6 n6 h6 tk6 e6 F6 N6
  obtain ⟨u6, rfl, rfl⟩ := e6
  rw [shown]
  generalize hbig : PySem.Str.ofString "SELECT F ASSIGN TO \"P.1\" ORGANIZATION IS INDEXED ACCESS MODE IS DYNAMIC RECORD KEY IS K ALTERNATE RECORD KEY IS A WITH DUPLICATES FILE STATUS IS ST ." = big
  clear hbig
  have hne : (big != big) = false := by simp
  walk_at "kF"
  exact fin _ _ _ F6 (fun p hp => N6 p (List.mem_cons_of_mem _ (List.mem_cons_of_mem _ (List.mem_cons_of_mem _ (List.mem_cons_of_mem _ (List.mem_cons_of_mem _ (List.mem_cons_of_mem _ hp))))))) rfl
end
section
set_option maxRecDepth 100000
set_option maxHeartbeats 4000000
set_option rowWalk.seconds 0
/-- the list that the draws turn -/
inductive BoxO (D : Addr) (pl : Int) (o : Obj) : Prop where
  | mk (g st : Int) (tg ts tp : Tok) (c : Nat) (h1 : 0 ≤ g) (h2 : 0 ≤ st) (h3 : st < 2147483647) (e : o = listOf #[.ref D, .int g tg, .int st ts, .int pl tp] c) : BoxO D pl o
noncomputable abbrev ways9 : List (List PySem.Str) := [[PySem.Str.ofString "sequential", PySem.Str.ofString "sequential"], [PySem.Str.ofString "sequential", PySem.Str.ofString "random"], [PySem.Str.ofString "sequential", PySem.Str.ofString "dynamic"], [PySem.Str.ofString "relative", PySem.Str.ofString "sequential"], [PySem.Str.ofString "relative", PySem.Str.ofString "random"], [PySem.Str.ofString "relative", PySem.Str.ofString "dynamic"], [PySem.Str.ofString "indexed", PySem.Str.ofString "sequential"], [PySem.Str.ofString "indexed", PySem.Str.ofString "random"], [PySem.Str.ofString "indexed", PySem.Str.ofString "dynamic"]]
/-- what does not turn while the law draws -/
structure Draws (O : List (Addr × Obj)) (L b D W : Addr) (vs : List Value) (ns : List Int) (cD : Nat) (wys : List Value) (oc : Obj) : Prop where
  hD : (D, listOf vs.toArray cD) ∈ O
  hi : IntsAre vs ns
  hlen : vs.length ≤ 48
  hc : (L + 1, oc) ∈ O
  dc : oc.data = .cell (some (.ref b))
  hW : (W, LCg.lst wys) ∈ O
  rW : RowsAt O wys ways9
  off : ∀ p ∈ O, p.1 ≠ b
theorem Draws.mono {O O' : List (Addr × Obj)} {L b D W : Addr} {vs : List Value} {ns : List Int} {cD : Nat} {wys : List Value} {oc : Obj} (S : Draws O L b D W vs ns cD wys oc) (h : ∀ p ∈ O, p ∈ O') (off : ∀ p ∈ O', p.1 ≠ b) : Draws O' L b D W vs ns cD wys oc :=
  ⟨h _ S.hD, S.hi, S.hlen, h _ S.hc, S.dc, h _ S.hW, S.rW.mono h, off⟩
theorem draw_use {w : World} {p : Program} {loose : List Str} {mean : ExcName → Option Value} {mg mb : Str → Option Value} {dp un : Nat} {gd : Option (List Code)} {cn : Str} {cs : Scope} {a : Addr} {ccd : Value} {cl : List (Str × Addr)} {outer : List Env}
    {A₀ : Around} {base h₀ : Heap} {L b D W : Addr} {m : Str → Option Value} {s : Shared} {Q E : Value → Shared → Prop} {O N0 : List (Addr × Obj)} {o oc : Obj} {pl lim : Int} {tl : Tok} {vs wys : List Value} {ns : List Int} {cD : Nat}
    (ho : BoxO D pl o) (S : Draws O L b D W vs ns cD wys oc) (hp : 0 ≤ pl) (hp2 : pl < 1000) (hlim : 0 < lim) (hlim2 : lim < 16)
    (B : Below A₀ base outer h₀) (F : Fr h₀ L s.heap m) (X : (Mine.KK w.params).In h₀) (N : News h₀ L s.heap N0) (sub : ∀ p ∈ (b, o) :: O, p ∈ N0) (T : Top p loose mean mg mb h₀) (hk : cs.kind = .function) (hd : dp + 2 < recursionLimit) (hu : un + 60 < cLine)
    (ret : ∀ d td o' h' tk', 0 ≤ d → d < lim → BoxO D (pl + 1) o' → Fr h₀ L h' m → News h₀ L h' ((b, o') :: O) → Q (.int d td) { s with heap := h', toks := tk' }) :
    wpAny (model PySem.Challenge.rw_qd0102_01.prog w) (ktrTop dp un gd cn cs L a ccd cl outer) (call (.ref 394) [.ref b, .int lim tl]) Q E s := by
  obtain ⟨g, st, tg, ts, tp, c, hg, hs, hs2, rfl⟩ := ho
  refine Tell.use (t_draw S.hD S.hi S.hlen hg hs hs2 hp hp2 hlim hlim2 S.off) B F X (fun p hp => N p (sub p hp)) T hk hd hu ?_
  intro r n h' tk' e F' N'
  obtain ⟨d, td, g', st', tg', ts', tp', rfl, h1, h2, h3, h4, h5, rfl⟩ := e
  exact ret d td _ h' tk' h1 h2 ⟨g', st', tg', ts', tp', c, h3, h4, h5, rfl⟩ F' N'
/-- the body of the law's last loop -/
noncomputable def lawBody : List PySem.Stmt := match F_law.1.2.1.drop 7 with
  | .For _ _ b _ _ :: _ => b
  | _ => []
end
end
section
open PySem PySem.Spec PySem.W PyProof.Rows PySem.Calls
set_option maxRecDepth 100000
set_option maxHeartbeats 4000000
set_option rowWalk.seconds 0
local macro_rules | `(tactic| walk_at "kF") => `(tactic| repeat' (first | (with_reducible refine gen_tkE ?_; intro tk9) | ((fail_if_success (fail_if_success k_unfold)); first | ((with_reducible refine (?_ : wpAny _ _ _ _ _ _)); (try dsimp only)) | (k_unfold; (try dsimp only))) | (k_end; wrow_close) | (walk1; walk_at "kQ") | (dsimp only [List.cons_append, List.nil_append]; walk1; walk_at "kQ") | (leave1; try dsimp only) | fail "no step"))
local macro_rules | `(tactic| walk_at "kQ") => `(tactic| all_goals (first | (fail_if_success k_fold) | refine (let q := _; (?_ : wpAny _ _ _ q _ _))))
local macro_rules | `(tactic| k_mem) => `(tactic| first | assumption | exact mem_all (by assumption) _)
local macro_rules | `(tactic| walk_at "call ref") => `(tactic| (k_here; refine halt ?_))
local macro_rules | `(tactic| walk_at "execs cons") => `(tactic| (k_here; refine halt ?_))
section
variable {w : World} {p : Program} {loose : List PySem.Str} {mean : ExcName → Option Value} {mg mb : PySem.Str → Option Value} {h₀ : Heap} {L fa b D W : Addr} {ccd : Value} {m : PySem.Str → Option Value} {s : Shared} {Q : Flow → Shared → Prop} {E : Value → Shared → Prop} {O : List (Addr × Obj)} {o oc : Obj} {pl : Int} {vs wys : List Value} {ns : List Int} {cD : Nat}
theorem off_new {O : List (Addr × Obj)} {b l : Addr} {x : Obj} (h : ∀ p ∈ O, p.1 ≠ b) (hl : b < l) : ∀ p ∈ (l, x) :: O, p.1 ≠ b := fun p hp => by
  rcases List.mem_cons.mp hp with rfl | hp
  · exact Nat.ne_of_gt hl
  · exact h p hp
theorem swap_sub (x y : Addr × Obj) (O : List (Addr × Obj)) : ∀ p ∈ x :: y :: O, p ∈ y :: x :: O := fun p hp => by
  rcases List.mem_cons.mp hp with rfl | hp
  · exact List.mem_cons_of_mem _ (List.mem_cons_self ..)
  rcases List.mem_cons.mp hp with rfl | hp
  · exact List.mem_cons_self ..
  · exact List.mem_cons_of_mem _ (List.mem_cons_of_mem _ hp)
theorem drop_snd {h₀ h : Heap} {L : Addr} {x y : Addr × Obj} {O : List (Addr × Obj)} (N : News h₀ L h (x :: y :: O)) : News h₀ L h (x :: O) := fun p hp => N p (by
  rcases List.mem_cons.mp hp with rfl | hp
  · exact List.mem_cons_self ..
  · exact List.mem_cons_of_mem _ (List.mem_cons_of_mem _ hp))
theorem swap_sub3 (x y z : Addr × Obj) (O : List (Addr × Obj)) : ∀ p ∈ y :: x :: O, p ∈ x :: y :: z :: O := fun p hp => by
  rcases List.mem_cons.mp hp with rfl | hp
  · exact List.mem_cons_of_mem _ (List.mem_cons_self ..)
  rcases List.mem_cons.mp hp with rfl | hp
  · exact List.mem_cons_self ..
  · exact List.mem_cons_of_mem _ (List.mem_cons_of_mem _ (List.mem_cons_of_mem _ hp))
theorem drop_mid {h₀ h : Heap} {L : Addr} {x y z : Addr × Obj} {O : List (Addr × Obj)} (N : News h₀ L h (z :: x :: y :: O)) : News h₀ L h (x :: O) := fun p hp => N p (by
  rcases List.mem_cons.mp hp with rfl | hp
  · exact List.mem_cons_of_mem _ (List.mem_cons_self ..)
  · exact List.mem_cons_of_mem _ (List.mem_cons_of_mem _ (List.mem_cons_of_mem _ hp)))
theorem body1 (X : (Mine.KK w.params).In h₀) (T : Top p loose mean mg mb h₀) (B : Below callerA h₀ [] h₀) (S : Draws O L b D W vs ns cD wys oc) (ho : BoxO D pl o) (hp : 0 ≤ pl) (hp2 : pl < 900) (F : Fr h₀ L s.heap m) (N : News h₀ L s.heap ((b, o) :: O))
    (fin : ∀ k u o' h' tk', k ∈ [PySem.Str.ofString "", PySem.Str.ofString "K-1", PySem.Str.ofString "NUMBER-OF"] → BoxO D (pl + 1) o' → Fr h₀ L h' (fun y => if y = PySem.Str.ofString "key" then some (.str k u) else m y) → News h₀ L h' ((b, o') :: O) →
      wpAny (model PySem.Challenge.rw_qd0102_01.prog w) (callerA.deeper (envOfC (PySem.Str.ofString "law") F_law.1.2.2 L fa ccd)) (execs (lawBody.drop 2) (envOfC (PySem.Str.ofString "law") F_law.1.2.2 L fa ccd)) Q E { s with heap := h', toks := tk' }) :
    wpAny (model PySem.Challenge.rw_qd0102_01.prog w) (callerA.deeper (envOfC (PySem.Str.ofString "law") F_law.1.2.2 L fa ccd)) (execs (lawBody.drop 1) (envOfC (PySem.Str.ofString "law") F_law.1.2.2 L fa ccd)) Q E s := by
  revert X N; k_fill; intro X N
  have hc := S.hc
  have dc := S.dc
  with_unfolding_all refine wpAny_execs_cons ?_
  walk_at "kF"
  rename News h₀ L _ _ => N9
  rename Fr h₀ L _ _ => F9
  rename _ ∧ _ => l1
  show wpAny _ _ (call (.ref 394) _ _) _ _ _
  refine draw_use ho (S.mono (O' := _ :: O) (fun p hp => List.mem_cons_of_mem _ hp) (off_new S.off l1.1)) hp (by omega) (by decide) (by decide) B F9 (by k_asm) N9 (swap_sub _ _ _) T rfl (by ktr_room) (by ktr_units) ?_
  intro d td o' h' tk' hd0 hd1 ho' F' N'
  obtain rfl | rfl | rfl : d = 0 ∨ d = 1 ∨ d = 2 := by omega
  all_goals walk_at "kF"
  all_goals (rename News h₀ L _ _ => Nz; rename Fr h₀ L _ _ => Fz)
  all_goals exact fin _ _ _ _ _ (by simp) ho' Fz (drop_snd Nz)
theorem body5 (X : (Mine.KK w.params).In h₀) (T : Top p loose mean mg mb h₀) (B : Below callerA h₀ [] h₀) (S : Draws O L b D W vs ns cD wys oc) (ho : BoxO D pl o) (hp : 0 ≤ pl) (hp2 : pl < 900) (F : Fr h₀ L s.heap m) (N : News h₀ L s.heap ((b, o) :: O))
    (fin : ∀ k u o' h' tk', k ∈ [PySem.Str.ofString "DATA1", PySem.Str.ofString "x", PySem.Str.ofString "OLD.DAT", PySem.Str.ofString "'q'"] → BoxO D (pl + 1) o' → Fr h₀ L h' (fun y => if y = PySem.Str.ofString "path" then some (.str k u) else m y) → News h₀ L h' ((b, o') :: O) →
      wpAny (model PySem.Challenge.rw_qd0102_01.prog w) (callerA.deeper (envOfC (PySem.Str.ofString "law") F_law.1.2.2 L fa ccd)) (execs (lawBody.drop 6) (envOfC (PySem.Str.ofString "law") F_law.1.2.2 L fa ccd)) Q E { s with heap := h', toks := tk' }) :
    wpAny (model PySem.Challenge.rw_qd0102_01.prog w) (callerA.deeper (envOfC (PySem.Str.ofString "law") F_law.1.2.2 L fa ccd)) (execs (lawBody.drop 5) (envOfC (PySem.Str.ofString "law") F_law.1.2.2 L fa ccd)) Q E s := by
  revert X N; k_fill; intro X N
  have hc := S.hc
  have dc := S.dc
  with_unfolding_all refine wpAny_execs_cons ?_
  walk_at "kF"
  rename News h₀ L _ _ => N9
  rename Fr h₀ L _ _ => F9
  rename _ ∧ _ => l1
  show wpAny _ _ (call (.ref 394) _ _) _ _ _
  refine draw_use ho (S.mono (O' := _ :: O) (fun p hp => List.mem_cons_of_mem _ hp) (off_new S.off l1.1)) hp (by omega) (by decide) (by decide) B F9 (by k_asm) N9 (swap_sub _ _ _) T rfl (by ktr_room) (by ktr_units) ?_
  intro d td o' h' tk' hd0 hd1 ho' F' N'
  obtain rfl | rfl | rfl | rfl : d = 0 ∨ d = 1 ∨ d = 2 ∨ d = 3 := by omega
  all_goals walk_at "kF"
  all_goals (rename News h₀ L _ _ => Nz; rename Fr h₀ L _ _ => Fz)
  all_goals exact fin _ _ _ _ _ (by simp) ho' Fz (drop_snd Nz)
theorem body4 (X : (Mine.KK w.params).In h₀) (T : Top p loose mean mg mb h₀) (B : Below callerA h₀ [] h₀) (S : Draws O L b D W vs ns cD wys oc) (ho : BoxO D pl o) (hp : 0 ≤ pl) (hp2 : pl < 900) (F : Fr h₀ L s.heap m) (N : News h₀ L s.heap ((b, o) :: O))
    (fin : ∀ k u k2 u2 o' h' tk', k ∈ [PySem.Str.ofString "", PySem.Str.ofString "REL"] → k2 ∈ [PySem.Str.ofString "", PySem.Str.ofString "ST-A"] → BoxO D (pl + 1 + 1) o' → Fr h₀ L h' (fun y => if y = PySem.Str.ofString "relative_key" then some (.str k u) else if y = PySem.Str.ofString "status" then some (.str k2 u2) else m y) → News h₀ L h' ((b, o') :: O) →
      wpAny (model PySem.Challenge.rw_qd0102_01.prog w) (callerA.deeper (envOfC (PySem.Str.ofString "law") F_law.1.2.2 L fa ccd)) (execs (lawBody.drop 5) (envOfC (PySem.Str.ofString "law") F_law.1.2.2 L fa ccd)) Q E { s with heap := h', toks := tk' }) :
    wpAny (model PySem.Challenge.rw_qd0102_01.prog w) (callerA.deeper (envOfC (PySem.Str.ofString "law") F_law.1.2.2 L fa ccd)) (execs (lawBody.drop 4) (envOfC (PySem.Str.ofString "law") F_law.1.2.2 L fa ccd)) Q E s := by
  revert X N; k_fill; intro X N
  have hc := S.hc
  have dc := S.dc
  with_unfolding_all refine wpAny_execs_cons ?_
  walk_at "kF"
  rename News h₀ L _ _ => N9
  rename Fr h₀ L _ _ => F9
  rename _ ∧ _ => l1
  show wpAny _ _ (call (.ref 394) _ _) _ _ _
  refine draw_use ho (S.mono (O' := _ :: O) (fun p hp => List.mem_cons_of_mem _ hp) (off_new S.off l1.1)) hp (by omega) (by decide) (by decide) B F9 (by k_asm) N9 (swap_sub _ _ _) T rfl (by ktr_room) (by ktr_units) ?_
  intro d td o' h' tk' hd0 hd1 ho' F' N'
  obtain rfl | rfl : d = 0 ∨ d = 1 := by omega
  all_goals walk_at "kF"
  all_goals (rename News h₀ L _ _ => N8; rename Fr h₀ L _ _ => F8; rename _ ∧ _ => l2)
  all_goals show wpAny _ _ (call (.ref 394) _ _) _ _ _
  all_goals refine draw_use ho' (S.mono (O' := _ :: O) (fun p hp => List.mem_cons_of_mem _ hp) (off_new S.off l2.1)) (by omega) (by omega) (by decide) (by decide) B F8 (by k_asm) N8 (swap_sub3 _ _ _ _) T rfl (by ktr_room) (by ktr_units) ?_
  all_goals intro d2 td2 o'' h'' tk'' he0 he1 ho'' F'' N''
  all_goals obtain rfl | rfl : d2 = 0 ∨ d2 = 1 := by omega
  all_goals walk_at "kF"
  all_goals (rename News h₀ L _ _ => Nz; rename Fr h₀ L _ _ => Fz)
  all_goals exact fin _ _ _ _ _ _ _ (by simp) (by simp) ho'' Fz (drop_mid Nz)
end
section
set_option maxRecDepth 100000
set_option maxHeartbeats 4000000
set_option rowWalk.seconds 0
section
local macro_rules | `(tactic| walk_at "subscriptTail") => `(tactic| (k_here; refine halt ?_))
variable {w : World} {p : Program} {loose : List PySem.Str} {mean : ExcName → Option Value} {mg mb : PySem.Str → Option Value} {h₀ : Heap} {L fa b D W : Addr} {ccd : Value} {m : PySem.Str → Option Value} {s : Shared} {Q : Flow → Shared → Prop} {E : Value → Shared → Prop} {O : List (Addr × Obj)} {o oc : Obj} {pl : Int} {vs wys : List Value} {ns : List Int} {cD : Nat}
theorem ways_in : ∀ r ∈ ways9, ∃ og ac, r = [og, ac] ∧ og ∈ orgs ∧ ac ∈ accs := by
  intro r hr
  simp only [List.mem_cons, List.not_mem_nil, or_false] at hr
  rcases hr with rfl | rfl | rfl | rfl | rfl | rfl | rfl | rfl | rfl
  all_goals exact ⟨_, _, rfl, by simp, by simp⟩
theorem bodyA (X : (Mine.KK w.params).In h₀) (T : Top p loose mean mg mb h₀) (B : Below callerA h₀ [] h₀) (S : Draws O L b D W vs ns cD wys oc) (ho : BoxO D pl o) (hp : 0 ≤ pl) (hp2 : pl < 900) (F : Fr h₀ L s.heap m) (N : News h₀ L s.heap ((b, o) :: O)) (hw : m (PySem.Str.ofString "ways") = some (.ref W))
    (fin : ∀ og ac u u2 o' h' tk' (m' : PySem.Str → Option Value), og ∈ orgs → ac ∈ accs → BoxO D (pl + 1) o' → Fr h₀ L h' (fun y => if y = PySem.Str.ofString "access" then some (.str ac u2) else if y = PySem.Str.ofString "organization" then some (.str og u) else if y = PySem.Str.ofString "ways" then some (.ref W) else m' y) → News h₀ L h' ((b, o') :: O) →
      wpAny (model PySem.Challenge.rw_qd0102_01.prog w) (callerA.deeper (envOfC (PySem.Str.ofString "law") F_law.1.2.2 L fa ccd)) (execs (lawBody.drop 1) (envOfC (PySem.Str.ofString "law") F_law.1.2.2 L fa ccd)) Q E { s with heap := h', toks := tk' }) :
    wpAny (model PySem.Challenge.rw_qd0102_01.prog w) (callerA.deeper (envOfC (PySem.Str.ofString "law") F_law.1.2.2 L fa ccd)) (execs (lawBody.drop 0) (envOfC (PySem.Str.ofString "law") F_law.1.2.2 L fa ccd)) Q E s := by
  obtain ⟨m9, rfl⟩ := m_split1 hw
  revert X N; k_fill; intro X N
  have hc := S.hc
  have dc := S.dc
  with_unfolding_all refine wpAny_execs_cons ?_
  walk_at "kF"
  show wpAny _ _ (call (.ref 394) _ _) _ _ _
  refine draw_use ho S hp (by omega) (by decide) (by decide) B F (by k_asm) N (fun p hp => hp) T rfl (by ktr_room) (by ktr_units) ?_
  intro d td o' h' tk' hd0 hd1 ho' F' N'
  obtain ⟨n, rfl⟩ := Int.eq_ofNat_of_zero_le hd0
  have hn : n < 9 := by omega
  have hlen : wys.length = 9 := S.rW.length
  obtain ⟨v, hv⟩ : ∃ v, wys[n]? = some v := ⟨wys[n], by simp⟩
  obtain ⟨r, hr⟩ : ∃ r, ways9[n]? = some r := ⟨ways9[n]'(by simpa using hn), by simp⟩
  obtain ⟨t, tvs, rfl, hm, hs⟩ := S.rW.at hv hr
  obtain ⟨og, ac, rfl, hog, hac⟩ : ∃ og ac, r = [og, ac] ∧ og ∈ orgs ∧ ac ∈ accs := ways_in r (List.mem_of_getElem? hr)
  obtain ⟨u1, u2, rfl⟩ := strs_two hs
  walk_at "kF"
  show wpAny _ _ (subscriptTail _ _ (.ref W) (.int (n : Int) td)) _ _ _
  refine sub_list (items := wys.toArray) (isL_of N' (List.mem_cons_of_mem _ S.hW)) hd0 (by omega) (v := .ref t) (by simpa using hv) ?_ (by with_unfolding_all rfl)
  have hm' : (t, tupO [.str og u1, .str ac u2]) ∈ (b, o') :: O := List.mem_cons_of_mem _ hm
  walk_at "kF"
  rename News h₀ L _ _ => Nz
  rename Fr h₀ L _ _ => Fz
  exact fin _ _ _ _ _ _ _ m9 hog hac ho' Fz Nz
end
section
variable {w : World} {p : Program} {loose : List PySem.Str} {mean : ExcName → Option Value} {mg mb : PySem.Str → Option Value} {h₀ : Heap} {L fa b D W : Addr} {ccd : Value} {m : PySem.Str → Option Value} {s : Shared} {Q : Flow → Shared → Prop} {E : Value → Shared → Prop} {O : List (Addr × Obj)} {o oc : Obj} {pl : Int} {vs wys : List Value} {ns : List Int} {cD : Nat}
noncomputable abbrev names3 : List PySem.Str := [PySem.Str.ofString "A1", PySem.Str.ofString "B2", PySem.Str.ofString "C3"]
theorem body2 (X : (Mine.KK w.params).In h₀) (T : Top p loose mean mg mb h₀) (B : Below callerA h₀ [] h₀) (S : Draws O L b D W vs ns cD wys oc) (ho : BoxO D pl o) (hp : 0 ≤ pl) (hp2 : pl < 900) (F : Fr h₀ L s.heap m) (N : News h₀ L s.heap ((b, o) :: O))
    (fin : ∀ SL svs xs nn o' h' tk', xs.Sublist names3 → StrsAre svs xs → b < SL → BoxO D (pl + 1) o' → Fr h₀ L h' (fun y => if y = PySem.Str.ofString "some" then some (.ref SL) else m y) → News h₀ L h' ((b, o') :: (SL, listOf svs.toArray nn) :: O) →
      wpAny (model PySem.Challenge.rw_qd0102_01.prog w) (callerA.deeper (envOfC (PySem.Str.ofString "law") F_law.1.2.2 L fa ccd)) (execs (lawBody.drop 3) (envOfC (PySem.Str.ofString "law") F_law.1.2.2 L fa ccd)) Q E { s with heap := h', toks := tk' }) :
    wpAny (model PySem.Challenge.rw_qd0102_01.prog w) (callerA.deeper (envOfC (PySem.Str.ofString "law") F_law.1.2.2 L fa ccd)) (execs (lawBody.drop 2) (envOfC (PySem.Str.ofString "law") F_law.1.2.2 L fa ccd)) Q E s := by
  revert X N; k_fill; intro X N
  have hc := S.hc
  have dc := S.dc
  with_unfolding_all refine wpAny_execs_cons ?_
  k_steps
  rename News h₀ L _ _ => N9
  rename Fr h₀ L _ _ => F9
  rename _ ∧ _ => l1
  show wpAny _ _ (call (.ref 394) _ _) _ _ _
  refine draw_use ho (S.mono (O' := _ :: O) (fun p hp => List.mem_cons_of_mem _ hp) (off_new S.off l1.1)) hp (by omega) (by decide) (by decide) B F9 (by k_asm) N9 (swap_sub _ _ _) T rfl (by ktr_room) (by ktr_units) ?_
  intro d td o' h' tk' hd0 hd1 ho' F' N'
  obtain rfl | rfl | rfl : d = 0 ∨ d = 1 ∨ d = 2 := by omega
  all_goals k_steps
  all_goals (rename News h₀ L _ _ => Nz; rename Fr h₀ L _ _ => Fz; rename _ ∧ _ => l2)
  · exact fin _ _ names3 _ _ _ _ (List.Sublist.refl _) (.cons _ _ (.cons _ _ (.cons _ _ .nil))) l2.1 ho' Fz (fun p hp => Nz p (swap_sub3 _ _ _ _ p hp))
  · exact fin _ _ (names3.drop 1) _ _ _ _ (List.drop_sublist 1 names3) (.cons _ _ (.cons _ _ .nil)) l2.1 ho' Fz (fun p hp => Nz p (swap_sub3 _ _ _ _ p hp))
  · exact fin _ _ (names3.drop 2) _ _ _ _ (List.drop_sublist 2 names3) (.cons _ _ .nil) l2.1 ho' Fz (fun p hp => Nz p (swap_sub3 _ _ _ _ p hp))
end
end
section
set_option maxRecDepth 100000
set_option maxHeartbeats 4000000
set_option rowWalk.seconds 0
local macro_rules | `(tactic| walk_at "eval ListComp") => `(tactic| (k_here; k_dflt (refine LCg.ListComp_U (F₀ := by k_asm) (by with_unfolding_all rfl) (by decide) (by rfl) (by decide) (by rfl) ?_)))
local macro_rules | `(tactic| walk_at "subscriptTail Name Slice ref ref") => `(tactic| (k_here; (with_reducible show wpAny _ _ (subscriptTail _ (PySem.Expr.Slice none _ none _) (Value.ref _) (Value.ref _)) _ _ _); k_dflt (refine' kmk_slice_lit ?F ?N ?l ?p ?q ?e ?_ ?s ?t ?z; (case F => k_asm); (case N => k_asm); (case l => assumption); (case p => kmk_part); (case q => kmk_part); (case e => assumption); (case s => with_unfolding_all rfl); (case t => kmk_pure); (case z => assumption)); intro D' h' F' N' l1; (try k_lt l1)))
local macro_rules | `(tactic| walk_at "call type:tuple") => `(tactic| (k_here; refine halt ?_))
local macro_rules | `(tactic| walk_at "CompSrc") => `(tactic| (k_here; refine halt ?_))
theorem swap_sub4 (i c d x : Addr × Obj) (O : List (Addr × Obj)) : ∀ p ∈ x :: i :: c :: d :: O, p ∈ i :: c :: d :: x :: O := fun p hp => by
  simp only [List.mem_cons] at hp ⊢
  rcases hp with h | h | h | h | h
  · exact .inr (.inr (.inr (.inl h)))
  · exact .inl h
  · exact .inr (.inl h)
  · exact .inr (.inr (.inl h))
  · exact .inr (.inr (.inr (.inr h)))
theorem end_sub (t x i c d : Addr × Obj) (O : List (Addr × Obj)) : ∀ p ∈ i :: c :: d :: x :: t :: O, p ∈ t :: x :: i :: c :: d :: O := fun p hp => by
  simp only [List.mem_cons] at hp ⊢
  rcases hp with h | h | h | h | h | h
  · exact .inr (.inr (.inl h))
  · exact .inr (.inr (.inr (.inl h)))
  · exact .inr (.inr (.inr (.inr (.inl h))))
  · exact .inr (.inl h)
  · exact .inl h
  · exact .inr (.inr (.inr (.inr (.inr h))))
theorem strs_take {svs : List Value} {xs : List PySem.Str} (h : StrsAre svs xs) : ∀ n, StrsAre (svs.take n) (xs.take n) := by
  induction h with
  | nil => intro n; rw [List.take_nil, List.take_nil]; exact .nil
  | cons x t _ ih =>
    intro n
    cases n with
    | zero => exact .nil
    | succ n => exact .cons x t (ih n)
/-- a comprehension turn by turn: J says what holds behind each turn -/
theorem comp_fold {prog : Program} {w : World} {A : Around} {s : Shared} {h₀ : Heap} {L : Addr} {m : PySem.Str → Option Value} {env : PySem.Env} {elt : PySem.Expr} {x : PySem.Str} {scope : Scope} {cl : List (PySem.Str × Addr)} {S : List (Addr × Obj) → Prop} {its : Array Value} {Fin : List Value → List (Addr × Obj) → Prop} (J : Nat → List Value → List (Addr × Obj) → Prop)
    (step : ∀ i v ys news (R : Value → List (Addr × Obj) → Prop), its[i]? = some v → J i ys news → (∀ y news', J (i + 1) (ys ++ [y]) news' → R y news') →
      ∀ I oI C oC D m₂ h tk (E' : Value → Shared → Prop), LCg.NsObj oC m₂ → m₂ x = some v → Fr h₀ L h m → News h₀ L h ((I, oI) :: (C, oC) :: (D, LCg.lst ys) :: news) → LCg.Off3 I C D news → ((@Ne Nat I C) ∧ (@Ne Nat I D) ∧ (@Ne Nat C D)) →
      wpAny (model prog w) A (eval elt (compEnvC scope cl C env)) (LCg.CompEnd h₀ L m { s with heap := h, toks := tk } I oI C oC D (LCg.lst ys) S R) E' { s with heap := h, toks := tk })
    (fin : ∀ ys news, J its.size ys news → Fin ys news) :
    ∀ k i ys news, i + k = its.size → J i ys news → LCg.CompRest prog w A h₀ L m env elt x scope cl s S (fun i v => its[i]? = some v) Fin k i ys news := by
  intro k
  induction k with
  | zero =>
    intro i ys news hi hJ
    rw [Nat.add_zero] at hi
    subst hi
    exact LCg.CompRest.zero (fin ys news hJ)
  | succ k ih =>
    intro i ys news hi hJ
    exact LCg.CompRest.succ fun v I oI C oC D m₂ h tk E' hP hC hx F N off ne => step i v ys news _ hP hJ (fun y news' hJ' => ih (i + 1) _ _ (by omega) hJ') I oI C oC D m₂ h tk E' hC hx F N off ne
section
variable {w : World} {p : Program} {loose : List PySem.Str} {mean : ExcName → Option Value} {mg mb : PySem.Str → Option Value} {h₀ : Heap} {L fa b D W : Addr} {ccd : Value} {m : PySem.Str → Option Value} {s : Shared} {Q : Flow → Shared → Prop} {E : Value → Shared → Prop} {O : List (Addr × Obj)} {o oc : Obj} {pl : Int} {vs wys : List Value} {ns : List Int} {cD : Nat}
theorem body3 {SL : Addr} {svs : List Value} {xs : List PySem.Str} {nn : Nat} (X : (Mine.KK w.params).In h₀) (T : Top p loose mean mg mb h₀) (B : Below callerA h₀ [] h₀) (S : Draws O L b D W vs ns cD wys oc) (ho : BoxO D pl o) (hp : 0 ≤ pl) (hp2 : pl < 900) (F : Fr h₀ L s.heap m) (N : News h₀ L s.heap ((b, o) :: O))
    (hs : m (PySem.Str.ofString "some") = some (.ref SL)) (hSL : (SL, listOf svs.toArray nn) ∈ O) (hxs : StrsAre svs xs) (hx3 : xs.length ≤ 3)
    (fin : ∀ ta ps al o' h' tk' O' pl', (∀ p ∈ O, p ∈ O') → (∀ p ∈ O', p.1 ≠ b) → (ta, tupO ps) ∈ O' → PairsAt O' ps al → (al.map (·.1)).Sublist xs → BoxO D pl' o' → pl ≤ pl' → pl' ≤ pl + 5 → Fr h₀ L h' (fun y => if y = PySem.Str.ofString "alternates" then some (.ref ta) else m y) → News h₀ L h' ((b, o') :: O') →
      wpAny (model PySem.Challenge.rw_qd0102_01.prog w) (callerA.deeper (envOfC (PySem.Str.ofString "law") F_law.1.2.2 L fa ccd)) (execs (lawBody.drop 4) (envOfC (PySem.Str.ofString "law") F_law.1.2.2 L fa ccd)) Q E { s with heap := h', toks := tk' }) :
    wpAny (model PySem.Challenge.rw_qd0102_01.prog w) (callerA.deeper (envOfC (PySem.Str.ofString "law") F_law.1.2.2 L fa ccd)) (execs (lawBody.drop 3) (envOfC (PySem.Str.ofString "law") F_law.1.2.2 L fa ccd)) Q E s := by
  obtain ⟨m9, e9⟩ := m_split1 hs
  subst e9
  revert X N; k_fill; intro X N
  have hc := S.hc
  have dc := S.dc
  with_unfolding_all refine wpAny_execs_cons ?_
  k_steps
  show wpAny _ _ (call (.ref 394) _ _) _ _ _
  refine draw_use ho S hp (by omega) (by decide) (by decide) B F (by k_asm) N (fun p hp => hp) T rfl (by ktr_room) (by ktr_units) ?_
  intro d td o' h' tk' hd0 hd1 ho' F' N'
  obtain ⟨n, rfl⟩ := Int.eq_ofNat_of_zero_le hd0
  have hpick : (slicePick svs.toArray none (some (n : Int)) none).toList = svs.take n := by rw [slicePick_upto']
  have hsz : svs.toArray.size ≤ sizeLine := by rw [sizeLine_eq, List.size_toArray, strs_len hxs]; omega
  have hisl := isL_lit N' (List.mem_cons_of_mem _ hSL)
  k_steps
  rename_i DL h8 F8 N8 l8
  have hyt := strs_take hxs n
  have hlt := strs_len hyt
  have hl3 : (svs.take n).toArray.size ≤ 3 := by rw [List.size_toArray, hlt, List.length_take]; omega
  refine LCg.CompSrc.ledger (its := (svs.take n).toArray) (k := 0) (news := (b, o') :: (DL, listOf (svs.take n).toArray 0) :: O) rfl F8 (fun p hp => N8 p (swap_sub _ _ _ p hp)) (List.mem_cons_of_mem _ (List.mem_cons_self ..)) (by rw [sizeLine_eq]; omega) fun g => ?_
  refine comp_fold (fun i ys news => ∃ o1 al O1, news = (b, o1) :: O1 ∧ (∀ p ∈ (DL, listOf (svs.take n).toArray 0) :: O, p ∈ O1) ∧ (∀ p ∈ O1, p.1 ≠ b) ∧ BoxO D (pl + 1 + (i : Int)) o1 ∧ PairsAt O1 ys al ∧ al.map (·.1) = (xs.take n).take i) ?_ ?_ _ 0 [] _ (by simp) ⟨o', [], _, rfl, fun p hp => hp, off_new S.off l8.1, by simpa using ho', .nil, rfl⟩
  · intro i v ys news R hv hJ hR I oI C oC D9 m₂ h tk E' hC hx F N off ne
    obtain ⟨o1, al, O1, rfl, sub1, off1, ho1, hps, hal⟩ := hJ
    have hi3 : i < (svs.take n).length := by
      have := (Array.getElem?_eq_some_iff.mp hv).1
      simpa using this
    obtain ⟨q, u, rfl, hq⟩ := strs_at hyt (i := i) (by simpa using hv)
    have hi4 : i < 3 := by rw [List.size_toArray] at hl3; omega
    have hc1 : (L + 1, oc) ∈ O1 := sub1 _ (List.mem_cons_of_mem _ hc)
    walk_at "kF"
    have hb3 := LCg.Off3.mem off (b, o1) (List.mem_cons_self ..)
    have off2 : ∀ p ∈ (I, oI) :: (C, oC) :: (D9, LCg.lst ys) :: O1, p.1 ≠ b := fun p hp => by
      rcases List.mem_cons.mp hp with rfl | hp
      · exact Ne.symm hb3.1
      rcases List.mem_cons.mp hp with rfl | hp
      · exact Ne.symm hb3.2.1
      rcases List.mem_cons.mp hp with rfl | hp
      · exact Ne.symm hb3.2.2
      · exact off1 p hp
    show wpAny _ _ (call (.ref 394) _ _) _ _ _
    refine draw_use ho1 (S.mono (O' := (I, oI) :: (C, oC) :: (D9, LCg.lst ys) :: O1) (fun p hp => List.mem_cons_of_mem _ (List.mem_cons_of_mem _ (List.mem_cons_of_mem _ (sub1 _ (List.mem_cons_of_mem _ hp))))) off2) (by omega) (by omega) (by decide) (by decide) B F (by k_asm) N (swap_sub4 _ _ _ _ _) T rfl (by ktr_room) (by ktr_units) ?_
    intro d2 td2 o2 h2 tk2 he0 he1 ho2 F2 N2
    k_steps
    rename_i t hz Fz Nz lt
    have e8 : pl + 1 + (i : Int) + 1 = pl + 1 + ((i + 1 : Nat) : Int) := by push_cast; omega
    refine LCg.CompEnd.intro Fz Nz ((b, o2) :: (t, tupO [.str q u, .bool (d2 == 1)]) :: O1) (end_sub _ _ _ _ _ _) (LCg.Off3.of fun p hp => ?_) (.inr ⟨_, List.mem_cons_of_mem _ (List.mem_cons_of_mem _ (sub1 _ (List.mem_cons_self ..))), rfl, _, rfl⟩)
      (hR _ _ ⟨o2, al ++ [(q, d2 == 1)], _, rfl, fun p hp => List.mem_cons_of_mem _ (sub1 p hp), off_new off1 lt.1, e8 ▸ ho2, (hps.mono fun p hp => List.mem_cons_of_mem _ hp).snoc (List.mem_cons_self ..), by rw [List.map_append, hal, List.take_add_one, hq]; rfl⟩)
    rcases List.mem_cons.mp hp with rfl | hp
    · exact hb3
    rcases List.mem_cons.mp hp with rfl | hp
    · exact ⟨Nat.ne_of_gt lt.2.1, Nat.ne_of_gt lt.2.2.1, Nat.ne_of_gt lt.2.2.2.1⟩
    · exact LCg.Off3.mem off p (List.mem_cons_of_mem _ hp)
  · intro ys news hJ
    obtain ⟨o1, al, O1, rfl, sub1, off1, ho1, hps, hal⟩ := hJ
    intro D9 h tk F N off
    have hys : ys.length ≤ 3 := by
      have h1 := pairsAt_len hps
      have h2 := congrArg List.length hal
      rw [List.length_map, List.length_take] at h2
      omega
    walk_at "kF"
    show wpAny _ _ (call (.type "tuple") [.ref D9]) _ _ _
    refine' kde_tupleOf (items := ys.toArray) (zs := ys) ?qF ?qN ?ql ?qz ?qe ?_
    case qF => exact F
    case qN => exact N
    case ql => exact isL_of N (List.mem_cons_self ..)
    case qz => rw [List.size_toArray]; omega
    case qe => simp
    intro t h3 F3 N3 lt
    have hb9 : b < t := lt (b, o1) (List.mem_cons_of_mem _ (List.mem_cons_self ..))
    walk_at "kF"
    rename News h₀ L _ _ => Nz
    rename Fr h₀ L _ _ => Fz
    refine fin t ys al o1 _ _ ((t, tupO ys) :: O1) (pl + 1 + ((svs.take n).toArray.size : Int)) (fun p hp => List.mem_cons_of_mem _ (sub1 _ (List.mem_cons_of_mem _ hp))) (off_new off1 hb9) (List.mem_cons_self ..) (hps.mono fun p hp => List.mem_cons_of_mem _ hp) ?_ ho1 (by omega) (by omega) Fz (fun p hp => Nz p ?_)
    · rw [hal]
      exact (List.take_sublist _ _).trans (List.take_sublist _ _)
    · rcases List.mem_cons.mp hp with rfl | hp
      · exact List.mem_cons_of_mem _ (List.mem_cons_of_mem _ (List.mem_cons_self ..))
      rcases List.mem_cons.mp hp with rfl | hp
      · exact List.mem_cons_self ..
      · exact List.mem_cons_of_mem _ (List.mem_cons_of_mem _ (List.mem_cons_of_mem _ hp))
end
end
section
set_option maxRecDepth 100000
set_option maxHeartbeats 4000000
set_option rowWalk.seconds 0
/-- a name's value is put in front -/
theorem fr_ins {h₀ h : Heap} {L : Addr} {m m' : PySem.Str → Option Value} {a : PySem.Str} {v : Value} (F : Fr h₀ L h m') (e : m' = m) (hv : m a = some v) : Fr h₀ L h (fun y => if y = a then some v else m' y) ∧ (fun y => if y = a then some v else m' y) = m := by
  subst e
  have e2 : (fun y => if y = a then some v else m' y) = m' := funext fun y => by
    by_cases h : y = a
    · subst h; rw [if_pos rfl, hv]
    · rw [if_neg h]
  rw [e2]
  exact ⟨F, rfl⟩
section
variable {w : World} {p : Program} {loose : List PySem.Str} {mean : ExcName → Option Value} {mg mb : PySem.Str → Option Value} {h₀ : Heap} {L fa b D W : Addr} {ccd : Value} {m : PySem.Str → Option Value} {s : Shared} {Q : Flow → Shared → Prop} {E : Value → Shared → Prop} {O : List (Addr × Obj)} {o oc : Obj} {pl : Int} {vs wys : List Value} {ns : List Int} {cD : Nat}
theorem body6 {path og ac k re st : PySem.Str} {t1 t2 t3 t4 t6 t7 : Tok} {ta : Addr} {ps : List Value} {al : List (PySem.Str × Bool)} (X : (Mine.KK w.params).In h₀) (T : Top p loose mean mg mb h₀) (B : Below callerA h₀ [] h₀) (S : Draws O L b D W vs ns cD wys oc) (ho : BoxO D pl o) (hp : 0 ≤ pl) (hp2 : pl < 900) (F : Fr h₀ L s.heap m) (N : News h₀ L s.heap ((b, o) :: O))
    (hta : (ta, tupO ps) ∈ O) (hps : PairsAt O ps al) (dom : ∀ nm ∈ [PySem.Str.ofString "F1", PySem.Str.ofString "MASTER"], Dom nm { path := path, org := og, acc := ac, key := k, rel := re, stat := st, al := al })
    (m1 : m (PySem.Str.ofString "path") = some (.str path t1)) (m2 : m (PySem.Str.ofString "organization") = some (.str og t2)) (m3 : m (PySem.Str.ofString "access") = some (.str ac t3)) (m4 : m (PySem.Str.ofString "key") = some (.str k t4)) (m5 : m (PySem.Str.ofString "alternates") = some (.ref ta)) (m6 : m (PySem.Str.ofString "relative_key") = some (.str re t6)) (m7 : m (PySem.Str.ofString "status") = some (.str st t7))
    (fin : ∀ o' h' tk', BoxO D (pl + 1) o' → Fr h₀ L h' m → News h₀ L h' ((b, o') :: O) → Q .next { s with heap := h', toks := tk' }) :
    wpAny (model PySem.Challenge.rw_qd0102_01.prog w) (callerA.deeper (envOfC (PySem.Str.ofString "law") F_law.1.2.2 L fa ccd)) (execs (lawBody.drop 6) (envOfC (PySem.Str.ofString "law") F_law.1.2.2 L fa ccd)) Q E s := by
  obtain ⟨F1, e1⟩ := fr_ins F rfl m1
  obtain ⟨F2, e2⟩ := fr_ins F1 e1 m2
  obtain ⟨F3, e3⟩ := fr_ins F2 e2 m3
  obtain ⟨F4, e4⟩ := fr_ins F3 e3 m4
  obtain ⟨F5, e5⟩ := fr_ins F4 e4 m5
  obtain ⟨F6, e6⟩ := fr_ins F5 e5 m6
  obtain ⟨F7, e7⟩ := fr_ins F6 e6 m7
  clear F F1 F2 F3 F4 F5 F6 e1 e2 e3 e4 e5 e6
  revert X N; k_fill; intro X N
  have hc := S.hc
  have dc := S.dc
  with_unfolding_all refine wpAny_execs_cons ?_
  walk_at "kF"
  rename News h₀ L _ _ => N9
  rename Fr h₀ L _ _ => F9
  rename _ ∧ _ => l1
  show wpAny _ _ (call (.ref 394) _ _) _ _ _
  refine draw_use ho (S.mono (O' := _ :: O) (fun p hp => List.mem_cons_of_mem _ hp) (off_new S.off l1.1)) hp (by omega) (by decide) (by decide) B F9 (by k_asm) N9 (swap_sub _ _ _) T rfl (by ktr_room) (by ktr_units) ?_
  intro d td o' h' tk' hd0 hd1 ho' F' N'
  obtain ⟨nm, u0, hnm, hv⟩ : ∃ nm u0, nm ∈ [PySem.Str.ofString "F1", PySem.Str.ofString "MASTER"] ∧ ([Value.str (PySem.Str.ofString "F1") s.toks, Value.str (PySem.Str.ofString "MASTER") (s.toks + 1)] : List Value)[d.toNat]? = some (.str nm u0) := by
    obtain rfl | rfl : d = 0 ∨ d = 1 := by omega
    · exact ⟨_, _, List.mem_cons_self .., rfl⟩
    · exact ⟨_, _, List.mem_cons_of_mem _ (List.mem_cons_self ..), rfl⟩
  have D6 := dom nm hnm
  walk_at "kF"
  refine sub_list (items := [Value.str (PySem.Str.ofString "F1") s.toks, Value.str (PySem.Str.ofString "MASTER") (s.toks + 1)].toArray) (isL_lit N' (List.mem_cons_of_mem _ (List.mem_cons_self ..))) hd0 (by omega) (v := .str nm u0) (by simpa using hv) ?_ (by with_unfolding_all rfl)
  walk_at "kF"
  show wpAny _ _ (call (.ref 401) _ _) _ _ _
  refine Tell.use t_law_spec B F' (by k_asm) N' T rfl (by ktr_room) (by ktr_units) ?_
  intro r1 n1 h5 tk5 e5 F5 N5
  obtain ⟨sp, sd, t0, tr, aa, rfl, rfl⟩ := e5
  walk_at "kF"
  show wpAny _ _ (call (.ref 429) _ _) _ _ _
  refine right_use D6 B F5 (by k_asm) N5 (List.mem_cons_of_mem _ (List.mem_cons_of_mem _ hta)) (hps.mono fun p hp => List.mem_cons_of_mem _ (List.mem_cons_of_mem _ hp)) T rfl (by ktr_room) (by ktr_units) ?_
  intro h6 tk6 F6 N6
  walk_at "kF"
  exact fin o' h6 tk6 ho' (cast (congrArg (Fr h₀ L h6) e7) F6) (drop_snd N6)
end
end
section
set_option maxRecDepth 100000
set_option maxHeartbeats 4000000
set_option rowWalk.seconds 0
local macro_rules | `(tactic| walk_at "exec For Name Call cons nil") => `(tactic| (k_here; (rename Fr _ _ _ _ => lF'); (with_unfolding_all refine' For_invVF lF' ?k1 ?k2 ?_; (case k1 => exact rfl); (case k2 => exact rfl); k_whole)))
local macro_rules | `(tactic| walk_at "pyIter ref") => `(tactic| (k_here; (with_reducible show wpAny _ _ (pyIter (Value.ref _)) (fun it s₂ => LoopAtV _ _ _ _ _ _ _ _ _ it s₂) _ _); refine halt ?_))
section
variable {prog : Program} {w : World} {A : Around} {E : Value → Shared → Prop} {s : Shared} {h₀ : Heap} {env : PySem.Env} {x : PySem.Str} {body : List PySem.Stmt} {Q : Flow → Shared → Prop} {news : List (Addr × Obj)} {m₀ : PySem.Str → Option Value}
/-- a loop over a range: J says what holds behind each turn -/
theorem range_inv {r : Addr} {a₀ b₀ : Int} {t₀ u₀ v₀ : Tok} {n : Nat} (J : Nat → (PySem.Str → Option Value) → List (Addr × Obj) → Prop) (hh : A.handled = none) (hr : IsRange s.heap r a₀ b₀ 1 t₀ u₀ v₀) (hsmall : Builtin.Range.small a₀ b₀ 1 = true) (hn : Builtin.Range.rangeSize a₀ b₀ 1 = (n : Int)) (F : Fr h₀ env.locals s.heap m₀) (N : News h₀ env.locals s.heap news) (h0 : J 0 m₀ news)
    (turn : ∀ i k t m₁ news₁ h tk I oI, i < n → J i m₁ news₁ → (∀ p ∈ news₁, p.1 ≠ I) → Fr h₀ env.locals h (fun y => if y = x then some (.int k t) else m₁ y) → News h₀ env.locals h ((I, oI) :: news₁) →
      wpAny (model prog w) A (execs body env) (UnrPost h₀ env.locals { s with heap := h, toks := tk } I oI (J (i + 1)) Q) E { s with heap := h, toks := tk })
    (done : ∀ h tk m' news', J n m' news' → Fr h₀ env.locals h m' → News h₀ env.locals h news' → Q .next { s with heap := h, toks := tk }) :
    wpAny (model prog w) A (pyIter (.ref r)) (fun it s₂ => LoopAtV prog w A h₀ env x body Q E it s₂) E s := by
  refine wpAny_pyIter_range hr hsmall ?_
  have hnew := next_is_new F
  have W : Walks prog w A s.heap.objs.size [s.heap.objs.size] [s.heap.objs.size] n (fun i v => i < n ∧ ∃ t, v = .int (a₀ + i * 1) t)
      (fun i h => IsRangeIter h s.heap.objs.size (a₀ + (i : Nat) * 1) ((n : Int) - (i : Nat)) 1) := (Walks.range hh _ a₀ 1 n).bound
  refine ⟨_, _, _, n, _, _, m₀, news, J, rfl, W, ?_, ?_, ?_, ?_, F.push _, (fun p hp => ⟨Heap.get?_push_of_some _ (N p hp).1, (N p hp).2⟩), h0, ?_, ?_⟩
  · intro hm
    exact absurd F.ns.lt ((List.mem_singleton.mp hm) ▸ Nat.lt_irrefl _)
  · intro b hb
    rw [List.mem_singleton.mp hb]
    exact hnew
  · intro p hp hI
    exact absurd (Heap.lt_size (N p hp).1) ((List.mem_singleton.mp hI) ▸ Nat.lt_irrefl _)
  · show IsRangeIter _ _ _ _ _
    rw [hn]
    simpa using Heap.get?_push_size _ rfl
  · rintro i v m₁ news₁ s₁ own ⟨hp, tk', rfl⟩ hin ⟨_, t, rfl⟩ hJ hoff hown hget hall hst F₁ N₁
    obtain ⟨it, hit⟩ : ∃ it, hp.get? s.heap.objs.size = some it := ⟨_, hst⟩
    have hmemI := hall s.heap.objs.size (List.mem_singleton.mpr rfl) hnew _ hit
    have N₂ : News h₀ env.locals hp ((s.heap.objs.size, it) :: news₁) := fun p hp' => by
      rcases List.mem_cons.mp hp' with rfl | hp'
      · exact N₁ _ (List.mem_append_left _ hmemI)
      · exact N₁ _ (List.mem_append_right _ hp')
    refine wpAny_mono (turn i _ t m₁ news₁ hp tk' _ it hin hJ (fun p hp' q => hoff p hp' (List.mem_singleton.mpr q)) F₁ N₂) (fun f s₂ P => ?_) fun _ _ e => e
    have fin : UnrEnd h₀ env.locals { s with heap := hp, toks := tk' } s.heap.objs.size it (J (i + 1)) s₂ → LoopStepU h₀ env.locals [s.heap.objs.size] own (J (i + 1)) { s with heap := hp, toks := tk' } .next s₂ := by
      rintro ⟨h', tk, m', news', e, F', N', ho, r⟩
      refine ⟨rfl, h', tk, m', news', e, F', fun p hp' => ?_, fun p hp' hI => ho p hp' (List.mem_singleton.mp hI), r⟩
      rcases List.mem_append.mp hp' with hp' | hp'
      · have h1 : p.1 = s.heap.objs.size := List.mem_singleton.mp (hown p hp')
        have h2 : hp.get? p.1 = some p.2 := hget p hp'
        have h3 : p = (s.heap.objs.size, it) := by
          rw [h1, hit] at h2
          exact Prod.ext h1 (Option.some.inj h2).symm
        rw [h3]; exact N' _ (List.mem_cons_self ..)
      · exact N' _ (List.mem_cons_of_mem _ hp')
    cases f with
    | ret v => exact .ret P
    | brk => exact .brk P
    | next => exact .next (fin P)
    | cont => exact .cont (fin P)
  · rintro h' tk m' news' F' N' _ hJ
    exact done h' tk m' news' hJ F' N'
end
section
variable {w : World} {p : Program} {loose : List PySem.Str} {mean : ExcName → Option Value} {mg mb : PySem.Str → Option Value} {h₀ : Heap} {L fa b D W : Addr} {ccd : Value} {m : PySem.Str → Option Value} {s : Shared} {Q : Flow → Shared → Prop} {E : Value → Shared → Prop} {O : List (Addr × Obj)} {o oc : Obj} {pl : Int} {vs wys : List Value} {ns : List Int} {cD : Nat}
/-- one turn of the draws -/
theorem turn_go (X : (Mine.KK w.params).In h₀) (T : Top p loose mean mg mb h₀) (B : Below callerA h₀ [] h₀) (S : Draws O L b D W vs ns cD wys oc) (ho : BoxO D pl o) (hp : 0 ≤ pl) (hp2 : pl < 500) (F : Fr h₀ L s.heap m) (N : News h₀ L s.heap ((b, o) :: O)) (hw : m (PySem.Str.ofString "ways") = some (.ref W))
    (fin : ∀ o' h' tk' pl' m', BoxO D pl' o' → pl ≤ pl' → pl' ≤ pl + 20 → Fr h₀ L h' m' → News h₀ L h' ((b, o') :: O) → m' (PySem.Str.ofString "ways") = some (.ref W) → Q .next { s with heap := h', toks := tk' }) :
    wpAny (model PySem.Challenge.rw_qd0102_01.prog w) (callerA.deeper (envOfC (PySem.Str.ofString "law") F_law.1.2.2 L fa ccd)) (execs (lawBody.drop 0) (envOfC (PySem.Str.ofString "law") F_law.1.2.2 L fa ccd)) Q E s := by
  refine bodyA X T B S ho hp (by omega) F N hw fun og ac u u2 o1 h1 tk1 m1 hog hac ho1 F1 N1 => ?_
  refine body1 X T B S ho1 (by omega) (by omega) F1 N1 fun k u3 o2 h2 tk2 hk ho2 F2 N2 => ?_
  refine body2 X T B S ho2 (by omega) (by omega) F2 N2 fun SL svs xs nn o3 h3 tk3 hxs hsv hlt ho3 F3 N3 => ?_
  have S3 := S.mono (O' := (SL, listOf svs.toArray nn) :: O) (fun p hp => List.mem_cons_of_mem _ hp) (off_new S.off hlt)
  have hx3 : xs.length ≤ 3 := by simpa using hxs.length_le
  refine body3 X T B S3 ho3 (by omega) (by omega) F3 N3 (if_pos rfl) (List.mem_cons_self ..) hsv hx3 fun ta ps al o4 h4 tk4 O4 pl4 sub off hta hps hal ho4 q1 q2 F4 N4 => ?_
  have S4 := S3.mono sub off
  refine body4 X T B S4 ho4 (by omega) (by omega) F4 N4 fun re u5 st u6 o5 h5 tk5 hre hst ho5 F5 N5 => ?_
  refine body5 X T B S4 ho5 (by omega) (by omega) F5 N5 fun path u7 o6 h6 tk6 hpath ho6 F6 N6 => ?_
  refine body6 X T B S4 ho6 (by omega) (by omega) F6 N6 hta hps (fun nm hnm => drawn_ok hnm hpath hog hac hk hre hst (hal.trans hxs)) rfl rfl rfl rfl rfl rfl rfl fun o7 h7 tk7 ho7 F7 N7 => ?_
  refine fin o7 h7 tk7 _ _ ho7 (by omega) (by omega) F7 (fun p hp => N7 p ?_) rfl
  rcases List.mem_cons.mp hp with rfl | hp
  · exact List.mem_cons_self ..
  · exact List.mem_cons_of_mem _ (sub _ (List.mem_cons_of_mem _ hp))
theorem tail7 (hE : PassesOwn (model PySem.Challenge.rw_qd0102_01.prog w) (callerA.deeper (envOfC (PySem.Str.ofString "law") F_law.1.2.2 L fa ccd)) (envOfC (PySem.Str.ofString "law") F_law.1.2.2 L fa ccd) E)
    (X : (Mine.KK w.params).In h₀) (T : Top p loose mean mg mb h₀) (B : Below callerA h₀ [] h₀) (S : Draws O L b D W vs ns cD wys oc) (ho : BoxO D 0 o) (F : Fr h₀ L s.heap m) (N : News h₀ L s.heap ((b, o) :: O)) (hw : m (PySem.Str.ofString "ways") = some (.ref W))
    (fin : ∀ h' tk' m' news', Fr h₀ L h' m' → News h₀ L h' news' → Q (.ret (.bool true)) { s with heap := h', toks := tk' }) :
    wpAny (model PySem.Challenge.rw_qd0102_01.prog w) (callerA.deeper (envOfC (PySem.Str.ofString "law") F_law.1.2.2 L fa ccd)) (execs (F_law.1.2.1.drop 7) (envOfC (PySem.Str.ofString "law") F_law.1.2.2 L fa ccd)) Q E s := by
  obtain ⟨m9, rfl⟩ := m_split1 hw
  revert X N; k_fill; intro X N
  with_unfolding_all refine wpAny_execs_cons ?_
  k_steps
  rename_i rgX Fx Nx _
  show wpAny _ _ (pyIter _) _ _ _
  refine range_inv (n := 3) (fun i m news => ∃ o' pl', news = (b, o') :: O ∧ BoxO D pl' o' ∧ 0 ≤ pl' ∧ pl' ≤ 20 * (i : Int) ∧ m (PySem.Str.ofString "ways") = some (.ref W)) rfl rgX (by rfl) (by rfl) Fx Nx ⟨o, 0, rfl, ho, by omega, by omega, rfl⟩ ?_ ?_
  · intro i k t m₁ news₁ h tk I oI hi hJ hI F1 N1
    obtain ⟨o', pl', rfl, ho', hp0, hp1, hw1⟩ := hJ
    have bI : b ≠ I := hI (b, o') (List.mem_cons_self ..)
    have S1 := S.mono (O' := (I, oI) :: O) (fun p hp => List.mem_cons_of_mem _ hp) (fun p hp => by
      rcases List.mem_cons.mp hp with rfl | hp
      · exact Ne.symm bI
      · exact S.off p hp)
    have hI' : ∀ o2 : Obj, ∀ p ∈ (b, o2) :: O, p.1 ≠ I := fun o2 p hp => by
      rcases List.mem_cons.mp hp with rfl | hp
      · exact bI
      · exact hI p (List.mem_cons_of_mem _ hp)
    refine turn_go X T B S1 ho' hp0 (by omega) F1 (fun p hp => N1 p (swap_sub _ _ _ p hp)) hw1 fun o2 h2 tk2 pl2 m2 ho2 q1 q2 F2 N2 hw2 => ?_
    exact ⟨h2, tk2, m2, (b, o2) :: O, rfl, F2, fun p hp => N2 p (swap_sub _ _ _ p hp), hI' o2, o2, pl2, rfl, ho2, by omega, by push_cast; omega, hw2⟩
  · intro h tk m' news' hJ F1 N1
    obtain ⟨o', pl', rfl, ho', hp0, hp1, hw1⟩ := hJ
    show wpAny _ _ (execs _ _) _ _ _
    with_unfolding_all refine wpAny_execs_cons ?_
    walk_at "kF"
    exact fin _ _ _ _ F1 N1
end
end
end
section
open PySem PySem.Spec PySem.W PyProof.Rows PySem.Calls
section
set_option maxRecDepth 100000
set_option maxHeartbeats 4000000
/-- the ways, and the keys of each kind -/
noncomputable abbrev wp9 : List (PySem.Str × PySem.Str) := [(PySem.Str.ofString "sequential", PySem.Str.ofString "sequential"), (PySem.Str.ofString "sequential", PySem.Str.ofString "random"), (PySem.Str.ofString "sequential", PySem.Str.ofString "dynamic"), (PySem.Str.ofString "relative", PySem.Str.ofString "sequential"), (PySem.Str.ofString "relative", PySem.Str.ofString "random"), (PySem.Str.ofString "relative", PySem.Str.ofString "dynamic"), (PySem.Str.ofString "indexed", PySem.Str.ofString "sequential"), (PySem.Str.ofString "indexed", PySem.Str.ofString "random"), (PySem.Str.ofString "indexed", PySem.Str.ofString "dynamic")]
noncomputable def prs9 (a : PySem.Str) : List (PySem.Str × PySem.Str) :=
  if a == PySem.Str.ofString "sequential" then [(PySem.Str.ofString "", PySem.Str.ofString "")]
  else if a == PySem.Str.ofString "relative" then [(PySem.Str.ofString "", PySem.Str.ofString "R"), (PySem.Str.ofString "", PySem.Str.ofString "")]
  else [(PySem.Str.ofString "K", PySem.Str.ofString ""), (PySem.Str.ofString "", PySem.Str.ofString "")]
theorem prs9_s : prs9 (PySem.Str.ofString "sequential") = [(PySem.Str.ofString "", PySem.Str.ofString "")] := if_pos (by decide +kernel)
theorem prs9_r : prs9 (PySem.Str.ofString "relative") = [(PySem.Str.ofString "", PySem.Str.ofString "R"), (PySem.Str.ofString "", PySem.Str.ofString "")] := (if_neg (by decide +kernel)).trans (if_pos (by decide +kernel))
theorem prs9_i : prs9 (PySem.Str.ofString "indexed") = [(PySem.Str.ofString "K", PySem.Str.ofString ""), (PySem.Str.ofString "", PySem.Str.ofString "")] := (if_neg (by decide +kernel)).trans (if_neg (by decide +kernel))
theorem keyed9 {O : List (Addr × Obj)} {kvs : List (PySem.Str × Value)} (h1 : KeyedAt O kvs (PySem.Str.ofString "sequential") (prs9 (PySem.Str.ofString "sequential"))) (h2 : KeyedAt O kvs (PySem.Str.ofString "relative") (prs9 (PySem.Str.ofString "relative"))) (h3 : KeyedAt O kvs (PySem.Str.ofString "indexed") (prs9 (PySem.Str.ofString "indexed"))) :
    ∀ p ∈ wp9, KeyedAt O kvs p.1 (prs9 p.1) := by
  intro p hp
  simp only [List.mem_cons, List.not_mem_nil, or_false] at hp
  rcases hp with rfl | rfl | rfl | rfl | rfl | rfl | rfl | rfl | rfl
  · exact h1
  · exact h1
  · exact h1
  · exact h2
  · exact h2
  · exact h2
  · exact h3
  · exact h3
  · exact h3
theorem wp_in : ∀ p ∈ wp9, p.1 ∈ orgs ∧ p.2 ∈ accs := by
  intro p hp
  simp only [List.mem_cons, List.not_mem_nil, or_false] at hp
  rcases hp with rfl | rfl | rfl | rfl | rfl | rfl | rfl | rfl | rfl
  all_goals exact ⟨by simp, by simp⟩
theorem prs_in {a : PySem.Str} : ∀ q ∈ prs9 a, q.1 ∈ [PySem.Str.ofString "", PySem.Str.ofString "K"] ∧ q.2 ∈ [PySem.Str.ofString "", PySem.Str.ofString "R"] := by
  intro q hq
  unfold prs9 at hq
  split at hq
  · rw [List.mem_singleton.mp hq]; exact ⟨by simp, by simp⟩
  · split at hq
    · rcases List.mem_cons.mp hq with rfl | hq
      · exact ⟨by simp, by simp⟩
      · rw [List.mem_singleton.mp hq]; exact ⟨by simp, by simp⟩
    · rcases List.mem_cons.mp hq with rfl | hq
      · exact ⟨by simp, by simp⟩
      · rw [List.mem_singleton.mp hq]; exact ⟨by simp, by simp⟩
noncomputable abbrev rows15 : List (List PySem.Str) := (wp9.map fun (p : PySem.Str × PySem.Str) => (prs9 p.1).map fun (q : PySem.Str × PySem.Str) => [p.1, p.2, q.1, q.2]).flatten
theorem rows_dom : ∀ r ∈ rows15 ++ [[PySem.Str.ofString "sequential", PySem.Str.ofString "sequential", PySem.Str.ofString "K", PySem.Str.ofString ""], [PySem.Str.ofString "sequential", PySem.Str.ofString "sequential", PySem.Str.ofString "", PySem.Str.ofString "R"], [PySem.Str.ofString "relative", PySem.Str.ofString "dynamic", PySem.Str.ofString "K", PySem.Str.ofString ""]], RowDom r := by
  intro r hr
  rcases List.mem_append.mp hr with h | h
  · obtain ⟨l, hl, hr⟩ := List.mem_flatten.mp h
    obtain ⟨p, hp, rfl⟩ := List.mem_map.mp hl
    obtain ⟨q, hq, rfl⟩ := List.mem_map.mp hr
    exact ⟨_, _, _, _, rfl, row_ok (wp_in p hp).1 (wp_in p hp).2 (prs_in q hq).1 (prs_in q hq).2⟩
  · simp only [List.mem_cons, List.not_mem_nil, or_false] at h
    rcases h with rfl | rfl | rfl
    all_goals exact ⟨_, _, _, _, rfl, row_ok (by simp) (by simp) (by simp) (by simp)⟩
theorem rows15_len : rows15.length ≤ 90 := by decide +kernel
end
section
set_option maxRecDepth 100000
set_option maxHeartbeats 4000000
set_option rowWalk.seconds 0
local macro_rules | `(tactic| walk_at "kF") => `(tactic| repeat' (first | (with_reducible refine gen_tkE ?_; intro tk9) | ((fail_if_success (fail_if_success k_unfold)); first | ((with_reducible refine (?_ : wpAny _ _ _ _ _ _)); (try dsimp only)) | (k_unfold; (try dsimp only))) | (k_end; wrow_close) | (walk1; walk_at "kQ") | (dsimp only [List.cons_append, List.nil_append]; walk1; walk_at "kQ") | (leave1; try dsimp only) | fail "no step"))
local macro_rules | `(tactic| walk_at "kQ") => `(tactic| all_goals (first | (fail_if_success k_fold) | refine (let q := _; (?_ : wpAny _ _ _ q _ _))))
local macro_rules | `(tactic| walk_at "exec Assign cons ListComp") => `(tactic| (k_here; refine halt ?_))
local macro_rules | `(tactic| walk_at "eval Dict") => `(tactic| (k_here; k_dflt (refine' kdn_str ?q ?F ?N ?b ?a ?l ?e ?n ?_; (case q => rfl); (case F => k_asm); (case N => k_asm); (case b => exact Top.nolimit (by k_asm)); (case a => rfl); (case l => rfl); (case e => exact List.cons_ne_nil _ _); (case n => exact Nat.le_of_ble_eq_true rfl)); intro d' h' o' F' N' l1 lo' hd'; (try k_lt l1)))
local macro_rules | `(tactic| k_all) => `(tactic| assumption)
local macro_rules | `(tactic| walk_at "binaryOp Add ref ref") => `(tactic| (k_here; refine halt ?_))
local macro_rules | `(tactic| walk_at "execs cons") => `(tactic| (k_here; (with_reducible show wpAny _ _ (execs (PySem.Stmt.For _ _ _ _ _ :: _) _) _ _ _); refine halt ?_))
theorem TellB.use {w : World} {D U : Nat} {H : Heap → Prop} {f : Addr} {args : List Value} {news : List (Addr × Obj)} {post : Value → List (Addr × Obj) → Prop} {p : Program} {loose : List Str} {mean : ExcName → Option Value} {mg mb : Str → Option Value} {dp un : Nat} {gd : Option (List Code)} {cn : Str} {cs : Scope} {a : Addr} {ccd : Value} {cl : List (Str × Addr)} {outer : List Env}
    {A₀ : Around} {base h₀ : Heap} {L : Addr} {m : Str → Option Value} {s : Shared} {Q E : Value → Shared → Prop}
    (hT : TellB w D U H f args news post) (B : Below A₀ base outer h₀) (F : Fr h₀ L s.heap m) (X : (Mine.KK w.params).In h₀) (N : News h₀ L s.heap news) (T : Top p loose mean mg mb h₀) (hk : cs.kind = .function) (hd : dp + D < recursionLimit) (hu : un + U < cLine) (hH : H h₀)
    (ret : ∀ r news' h' tk', post r news' → Fr h₀ L h' m → News h₀ L h' news' → Q r { s with heap := h', toks := tk' }) :
    wpAny (model PySem.Challenge.rw_qd0102_01.prog w) (ktrTop dp un gd cn cs L a ccd cl outer) (call (.ref f) args) Q E s := hT _ _ _ _ _ _ _ _ _ _ _ _ _ _ _ _ _ B F X N T hk hd hu hH ret
local macro_rules | `(tactic| walk_at "call ref") => `(tactic| (k_here; (with_reducible show wpAny _ _ (call (Value.ref 387) _ _) _ _ _); refine halt ?_))
theorem law_go {w : World} {p : Program} {loose : List PySem.Str} {mean : ExcName → Option Value} {mg mb : PySem.Str → Option Value} {h₀ : Heap} {L fa sl : Addr} {ccd : Value} {m : PySem.Str → Option Value} {s : Shared} {Q : Flow → Shared → Prop} {E : Value → Shared → Prop} {o1 o2 : Obj} {v1 v2 : Option Value} {ns : List Int} {vs : List Value}
    (hE : PassesOwn (model PySem.Challenge.rw_qd0102_01.prog w) (callerA.deeper (envOfC (PySem.Str.ofString "law") F_law.1.2.2 L fa ccd)) (envOfC (PySem.Str.ofString "law") F_law.1.2.2 L fa ccd) E)
    (X : (Mine.KK w.params).In h₀) (T : Top p loose mean mg mb h₀) (B : Below callerA h₀ [] h₀) (F : Fr h₀ L s.heap m) (N : News h₀ L s.heap [(L + 1 + 1, o2), (L + 1, o1)]) (d1 : o1.data = .cell v1) (d2 : o2.data = .cell v2) (hm : m (PySem.Str.ofString "script") = some (.ref sl)) (hl : h₀.IsList sl vs.toArray) (hi : IntsAre vs ns) (hlen : ns.length ≤ 63)
    (ret : ∀ h' tk m' news', Fr h₀ L h' m' → News h₀ L h' news' → Q (.ret (.bool true)) { s with heap := h', toks := tk }) :
    wpAny (model PySem.Challenge.rw_qd0102_01.prog w) (callerA.deeper (envOfC (PySem.Str.ofString "law") F_law.1.2.2 L fa ccd)) (execs F_law.1.2.1 (envOfC (PySem.Str.ofString "law") F_law.1.2.2 L fa ccd)) Q E s := by
  obtain ⟨m9, rfl⟩ := m_split1 hm
  revert X N; k_fill; intro X N
  try k_fold
  walk_at "kF"
  refine TellB.use (t_box hi hlen) B (by k_asm) X (by k_asm) T rfl (by ktr_room) (by ktr_units) hl ?_
  intro r1 n1 h1 tk1 e1 F1 N1
  obtain ⟨b, D, D2, ws, ms, vs2, cD, g, st, tg, ts, tp, rfl, rfl, hms, hws, hg, hst, hst2, ll1, ll2, ll3⟩ := e1
  obtain ⟨ll5, ll6, -⟩ := ll3
  dsimp only at ll5 ll6
  have cellNe : ∀ {o : Obj} {v : Option Value} {vs : Array Value} {n : Nat}, o.data = .cell v → o ≠ listOf vs n := fun h e => by rw [e] at h; cases h
  have q1 : @Ne Nat (L + 1) D := news_ne (a := L + 1) (b := D) (x := o1) (y := listOf ws.toArray cD) N1 (by simp) (by simp) (cellNe d1)
  have q2 : @Ne Nat (L + 1) D2 := news_ne (a := L + 1) (b := D2) (x := o1) (y := listOf vs2 0) N1 (by simp) (by simp) (cellNe d1)
  have q3 : @Ne Nat (L + 1 + 1) D := news_ne (a := L + 1 + 1) (b := D) (x := o2) (y := listOf ws.toArray cD) N1 (by simp) (by simp) (cellNe d2)
  have q4 : @Ne Nat (L + 1 + 1) D2 := news_ne (a := L + 1 + 1) (b := D2) (x := o2) (y := listOf vs2 0) N1 (by simp) (by simp) (cellNe d2)
  walk_at "kF"
  show wpAny _ _ (exec _ _) _ _ _
  refine ways_go (cl := []) rfl rfl (by with_unfolding_all rfl) (by with_unfolding_all rfl) (by decide) rfl (by decide) rfl rfl rfl rfl (by decide) (by decide) (by decide) (by k_asm) (by k_asm) ?_
  intro D3 h3 tk3 ys3 O3 F3 N3 off3 sub3 rows3
  have c2 : (L + 1 + 1, o2) ∈ O3 := sub3 _ (by simp)
  have N3' : News h₀ L h3 ((D3, LCg.lst ys3) :: (L + 1 + 1, o2) :: less (L + 1 + 1) O3) := fun p hp => by
    rcases List.mem_cons.mp hp with rfl | hp
    · exact N3 _ (List.mem_cons_self ..)
    · exact news_pull (fun q hq => N3 q (List.mem_cons_of_mem _ hq)) c2 p hp
  have rows3' := rows3.less (fun q hq => N3 q (List.mem_cons_of_mem _ hq)) c2 (fun vs e => by rw [← e] at d2; cases d2)
  have offL := less_off (a := L + 1 + 1) (O := O3)
  have qD : @Ne Nat D3 (L + 1 + 1) := Ne.symm (off3 _ c2)
  clear N3
  k_steps
  rename_i dk ha1 oa1 lo1 hda1 la1 D7 ha2 la2 D6 ha3 la3 D5 ha4 la4 D4 ha5 la5 D33 ha6 la6 D22 ha7 la7 D11 ha8 la8 D00 ha9 Fa9 Na9 la9 hb1 od Fb1 Nb1 hd h8 oc8 F8 N8 dc8
  obtain ⟨NN, N9, w9, r9, c9, d9, k1, k2, k3, up⟩ : ∃ NN : List (Addr × Obj), News h₀ L h8 NN ∧ (D3, LCg.lst ys3) ∈ NN ∧ RowsAt NN ys3 (wp9.map fun (p : PySem.Str × PySem.Str) => [p.1, p.2]) ∧ (L + 1 + 1, oc8) ∈ NN ∧ (dk, od) ∈ NN ∧
      KeyedAt NN (strPairs [(.str (PySem.Str.ofString "sequential") tk3, .ref D6), (.str (PySem.Str.ofString "relative") (tk3 + 1 + 1 + 1), .ref D33), (.str (PySem.Str.ofString "indexed") (tk3 + 1 + 1 + 1 + 1 + 1 + 1 + 1 + 1), .ref D00)]) (PySem.Str.ofString "sequential") (prs9 (PySem.Str.ofString "sequential")) ∧
      KeyedAt NN (strPairs [(.str (PySem.Str.ofString "sequential") tk3, .ref D6), (.str (PySem.Str.ofString "relative") (tk3 + 1 + 1 + 1), .ref D33), (.str (PySem.Str.ofString "indexed") (tk3 + 1 + 1 + 1 + 1 + 1 + 1 + 1 + 1), .ref D00)]) (PySem.Str.ofString "relative") (prs9 (PySem.Str.ofString "relative")) ∧
      KeyedAt NN (strPairs [(.str (PySem.Str.ofString "sequential") tk3, .ref D6), (.str (PySem.Str.ofString "relative") (tk3 + 1 + 1 + 1), .ref D33), (.str (PySem.Str.ofString "indexed") (tk3 + 1 + 1 + 1 + 1 + 1 + 1 + 1 + 1), .ref D00)]) (PySem.Str.ofString "indexed") (prs9 (PySem.Str.ofString "indexed")) ∧
      (∀ p ∈ less (L + 1 + 1) O3, p ∈ NN) := by
    refine ⟨_, N8, ?_, rows3'.mono fun p hp => ?_, ?_, ?_, ⟨D6, [.ref D7], rfl, ?_, ?_, ?_⟩, ⟨D33, [.ref D5, .ref D4], rfl, ?_, ?_, ?_⟩, ⟨D00, [.ref D22, .ref D11], rfl, ?_, ?_, ?_⟩, fun p hp => ?_⟩
    · (repeat (first | exact List.mem_cons_self .. | refine List.mem_cons_of_mem _ ?_))
    · exact List.mem_cons_of_mem _ (List.mem_cons_of_mem _ (List.mem_cons_of_mem _ (List.mem_cons_of_mem _ (List.mem_cons_of_mem _ (List.mem_cons_of_mem _ (List.mem_cons_of_mem _ (List.mem_cons_of_mem _ (List.mem_cons_of_mem _ (List.mem_cons_of_mem _ (List.mem_cons_of_mem _ hp))))))))))
    · (repeat (first | exact List.mem_cons_self .. | refine List.mem_cons_of_mem _ ?_))
    · (repeat (first | exact List.mem_cons_self .. | refine List.mem_cons_of_mem _ ?_))
    · (repeat (first | exact List.mem_cons_self .. | refine List.mem_cons_of_mem _ ?_))
    · rw [prs9_s]
      refine' .cons (vs := [.str _ _, .str _ _]) ?m1 (.cons _ _ (.cons _ _ .nil)) .nil
      case m1 => (repeat (first | exact List.mem_cons_self .. | refine List.mem_cons_of_mem _ ?_))
    · rw [prs9_s]; decide
    · (repeat (first | exact List.mem_cons_self .. | refine List.mem_cons_of_mem _ ?_))
    · rw [prs9_r]
      refine' .cons (vs := [.str _ _, .str _ _]) ?m1 (.cons _ _ (.cons _ _ .nil)) (.cons (vs := [.str _ _, .str _ _]) ?m2 (.cons _ _ (.cons _ _ .nil)) .nil)
      case m1 => (repeat (first | exact List.mem_cons_self .. | refine List.mem_cons_of_mem _ ?_))
      case m2 => (repeat (first | exact List.mem_cons_self .. | refine List.mem_cons_of_mem _ ?_))
    · rw [prs9_r]; decide
    · (repeat (first | exact List.mem_cons_self .. | refine List.mem_cons_of_mem _ ?_))
    · rw [prs9_i]
      refine' .cons (vs := [.str _ _, .str _ _]) ?m1 (.cons _ _ (.cons _ _ .nil)) (.cons (vs := [.str _ _, .str _ _]) ?m2 (.cons _ _ (.cons _ _ .nil)) .nil)
      case m1 => (repeat (first | exact List.mem_cons_self .. | refine List.mem_cons_of_mem _ ?_))
      case m2 => (repeat (first | exact List.mem_cons_self .. | refine List.mem_cons_of_mem _ ?_))
    · rw [prs9_i]; decide
    · exact List.mem_cons_of_mem _ (List.mem_cons_of_mem _ (List.mem_cons_of_mem _ (List.mem_cons_of_mem _ (List.mem_cons_of_mem _ (List.mem_cons_of_mem _ (List.mem_cons_of_mem _ (List.mem_cons_of_mem _ (List.mem_cons_of_mem _ (List.mem_cons_of_mem _ (List.mem_cons_of_mem _ hp))))))))))
  have bC : (L + 1, _) ∈ NN := up _ (less_mem (sub3 _ (List.mem_cons_of_mem _ (List.mem_cons_of_mem _ (List.mem_cons_of_mem _ (List.mem_cons_of_mem _ (List.mem_cons_self ..)))))) (show @Ne Nat (L + 1) (L + 1 + 1) by omega))
  have bB : (b, listOf #[Value.ref D, Value.int g tg, Value.int st ts, Value.int 0 tp] 0) ∈ NN := up _ (less_mem (sub3 _ (List.mem_cons_self ..)) (show @Ne Nat b (L + 1 + 1) by omega))
  have bD : (D, listOf ws.toArray cD) ∈ NN := up _ (less_mem (sub3 _ (List.mem_cons_of_mem _ (List.mem_cons_self ..))) (Ne.symm q3))
  have b3 : @Ne Nat b D3 := off3 _ (sub3 _ (List.mem_cons_self ..))
  clear N8 Nb1 Na9 rows3' offL
  show wpAny _ _ (exec _ _) _ _ _
  refine written_go (cl := [(PySem.Str.ofString "keyed", L + 1 + 1)]) (wp := wp9) (prsOf := prs9) rfl rfl (by with_unfolding_all rfl) (by with_unfolding_all rfl) (by decide) rfl (by decide) rfl rfl rfl rfl rfl (by decide) rfl rfl rfl rfl (by decide) (by decide) (by decide) (by decide) (by decide) (by decide) (by decide) (by decide) (by decide) (by decide) rfl (fun _ => rfl) (by decide) F8 N9 w9 r9 (by decide) c9 dc8 d9 hd (keyed9 k1 k2 k3) ?_
  intro D9 h9 tk9 ys9 O9 F9 N9' off9 sub9 rows9
  have hl9 : ys9.length ≤ 90 := by rw [rows9.length]; exact rows15_len
  k_steps
  rename_i T1 hx1 lx1 T2 hx2 lx2 T3 hx3 lx3 LL hx4 Fx Nx lx4
  show wpAny _ _ (binaryOp .Add (.ref D9) (.ref LL)) _ _ _
  refine add_lists (vs := ys9) (ws := [.ref T1, .ref T2, .ref T3]) Fx Nx (isL_of Nx (List.mem_cons_of_mem _ (List.mem_cons_of_mem _ (List.mem_cons_of_mem _ (List.mem_cons_of_mem _ (List.mem_cons_self ..)))))) (isL_lit Nx (List.mem_cons_self ..)) ?_ (by rw [sizeLine_eq]; simp; omega)
  intro hy Fy Ny
  have upY : ∀ {x1 x2 x3 x4 x5 x6 : Addr × Obj} {l : List (Addr × Obj)}, ∀ p ∈ l, p ∈ x1 :: x2 :: x3 :: x4 :: x5 :: x6 :: l := fun p hp => List.mem_cons_of_mem _ (List.mem_cons_of_mem _ (List.mem_cons_of_mem _ (List.mem_cons_of_mem _ (List.mem_cons_of_mem _ (List.mem_cons_of_mem _ hp)))))
  obtain ⟨NM, NY, mW, rW, upM⟩ : ∃ NM : List (Addr × Obj), News h₀ L hy NM ∧ (hx4.objs.size, listOf (List.toArray (ys9 ++ [Value.ref T1, Value.ref T2, Value.ref T3])) 0) ∈ NM ∧ RowsAt NM (ys9 ++ [Value.ref T1, Value.ref T2, Value.ref T3]) (rows15 ++ [[PySem.Str.ofString "sequential", PySem.Str.ofString "sequential", PySem.Str.ofString "K", PySem.Str.ofString ""], [PySem.Str.ofString "sequential", PySem.Str.ofString "sequential", PySem.Str.ofString "", PySem.Str.ofString "R"], [PySem.Str.ofString "relative", PySem.Str.ofString "dynamic", PySem.Str.ofString "K", PySem.Str.ofString ""]]) ∧ (∀ p ∈ O9, p ∈ NM) := by
    refine ⟨_, Ny, List.mem_cons_self .., (rows9.mono fun p hp => upY p hp).append ?_, upY⟩
    refine' .cons (vs := [.str _ _, .str _ _, .str _ _, .str _ _]) ?m1 (.cons _ _ (.cons _ _ (.cons _ _ (.cons _ _ .nil)))) (.cons (vs := [.str _ _, .str _ _, .str _ _, .str _ _]) ?m2 (.cons _ _ (.cons _ _ (.cons _ _ (.cons _ _ .nil)))) (.cons (vs := [.str _ _, .str _ _, .str _ _, .str _ _]) ?m3 (.cons _ _ (.cons _ _ (.cons _ _ (.cons _ _ .nil)))) .nil))
    case m1 => (repeat (first | exact List.mem_cons_self .. | refine List.mem_cons_of_mem _ ?_))
    case m2 => (repeat (first | exact List.mem_cons_self .. | refine List.mem_cons_of_mem _ ?_))
    case m3 => (repeat (first | exact List.mem_cons_self .. | refine List.mem_cons_of_mem _ ?_))
  clear Nx Ny
  walk_at "kF"
  rename News h₀ L _ _ => Nz
  rename Fr h₀ L _ _ => Fz
  have hBm : (b, listOf #[Value.ref D, Value.int g tg, Value.int st ts, Value.int 0 tp] 0) ∈ NM := upM _ (sub9 _ bB)
  have SD9 : Draws (less b NM) L b D D3 ws ms cD ys3 _ :=
    ⟨less_mem (upM _ (sub9 _ bD)) (Nat.ne_of_lt ll1), hms, hws, less_mem (upM _ (sub9 _ bC)) (Nat.ne_of_lt ll6), by assumption, less_mem (upM _ (sub9 _ w9)) (Ne.symm b3), (r9.mono fun p hp => upM _ (sub9 _ hp)).less Nz hBm (fun vs e => absurd (show Value.type "tuple" = Value.type "list" from congrArg Obj.cls e) (by decide)), less_off⟩
  refine tail5 hE X T B Fz Nz rfl rfl mW rW rows_dom (by simp; omega) fun h5 tk5 m5 F5 N5 hw5 => ?_
  refine tail6 hE X T B F5 N5 hw5 fun h6 tk6 m6 F6 N6 hw6 => ?_
  exact tail7 hE X T B SD9 ⟨g, st, tg, ts, tp, 0, hg, hst, hst2, rfl⟩ F6 (news_pull N6 hBm) hw6 fun h7 tk7 m7 n7 F7 N7 => ret h7 tk7 m7 n7 F7 N7
end
section
set_option maxRecDepth 100000
set_option maxHeartbeats 8000000
set_option rowWalk.seconds 0
local macro_rules | `(tactic| k_qdec) => `(tactic| kernel_rfl)
theorem hd : (PySem.Challenge.rw_qd0102_01.row).Holds := by
  have said := row_said said0
  refine PySem.W.holds_openX (q := PySem.W.view PySem.Challenge.pw_qd0102_01 keep0) (loose := loose0) (Xt := fun s => xlAt (PySem.W.view PySem.Challenge.pw_qd0102_01 keep0) [] s && recOk [] s) (XP := XL (PySem.W.view PySem.Challenge.pw_qd0102_01 keep0) []) (Yf := X.obsZ asK) (Ya := X.valZ KK 435 749) (N := 5474) left0 (fun s e => xl_of s (Bool.and_eq_true_iff.mp e).1) XL.keeps (by rfl) (by rfl) (by rfl) (fun s e => recFacts_of (Bool.and_eq_true_iff.mp e).2) rfl said (by decide +kernel) ⟨rfl, rfl, rfl, rfl, rfl, by decide +kernel⟩ ?hw ?hc
  case hw => w_witness2
  case hc =>
    k_fill
    intro w s₀ s₁ mg mb G y fa o pm cd doc dV kV ho hd hcd hD hmg hg args vals as L hpre hlay hrd hwl hlo
    have KX : (Mine.KK w.params).In s₁.heap := InK.keeps w s₀.heap s₁.heap (X.z_facts as_is y).2.1 L.keeps
    k_behind G ho hd hcd hD hmg hpre hlay hrd hwl hlo cd
    all_goals try k_fold
    rename_i X9 V9 GL9 T9 B9 TE9 TW9 w11 w10 M9 w9 w8 w7 hs hlay0 hL1 hr1 hl2 w6 w5 w4 w3 w2 hLs ra w1w r0 hIs hrs hc1 hc2 K0 h1 tk1 F1 ob2 ob1 dl dr N0 X0
    refine' law_go (o1 := ob1) (o2 := ob2) ?hE KX T9 K0 F1 N0 dr dl ?hm hLs hIs ?hlen ?ret
    case hE => passes_own
    case hm => rfl
    case hlen => omega
    case ret =>
      intro h' tk' m' n' F' N'
      k_steps
end
end
end Mine
theorem PySem.Challenge.cw_qd0102_01_holds : PySem.Challenge.rw_qd0102_01.Holds :=
  ⟨Mine.said0, Mine.hd⟩
