import PyProof.Rows.All
import Wide.All
import OpenK.AllK
import Wide.FinOn
import PySem.Challenge.RW_og0089_02
-- Base2
section
open PySem PySem.W PyProof.Rows
set_option Elab.async false
set_option maxRecDepth 100000
namespace Mine
section
local macro_rules | `(tactic| o_head $H) => `(tactic| (have hk := $H; assumption))
theorem frag (h : PySem.Challenge.rw_og0089_02.row.Holds) : PySem.Challenge.rw_og0089_02.row.Holds := by x_head
end
def RESl : List Nat := [32, 65, 67, 67, 69, 80, 84, 32, 65, 67, 67, 69, 83, 83, 32, 65, 68, 68, 32, 65, 68, 86, 65, 78, 67, 73, 78, 71, 32, 65, 70, 84, 69, 82, 32, 65, 76, 76, 32, 65, 76, 80, 72, 65, 66, 69, 84, 73, 67, 32, 65, 76, 80, 72, 65, 66, 69, 84, 73, 67, 45, 76, 79, 87, 69, 82, 32, 65, 76, 80, 72, 65, 66, 69, 84, 73, 67, 45, 85, 80, 80, 69, 82, 32, 65, 76, 80, 72, 65, 78, 85, 77, 69, 82, 73, 67, 32, 65, 76, 80, 72, 65, 78, 85, 77, 69, 82, 73, 67, 45, 69, 68, 73, 84, 69, 68, 32, 65, 76, 83, 79, 32, 65, 76, 84, 69, 82, 78, 65, 84, 69, 32, 65, 78, 68, 32, 65, 78, 89, 32, 65, 82, 69, 32, 65, 82, 69, 65, 32, 65, 82, 69, 65, 83, 32, 65, 83, 67, 69, 78, 68, 73, 78, 71, 32, 65, 83, 83, 73, 71, 78, 32, 65, 84, 32, 65, 85, 84, 72, 79, 82, 32, 66, 69, 70, 79, 82, 69, 32, 66, 73, 78, 65, 82, 89, 32, 66, 76, 65, 78, 75, 32, 66, 76, 79, 67, 75, 32, 66, 89, 32, 67, 65, 76, 76, 32, 67, 72, 65, 82, 65, 67, 84, 69, 82, 32, 67, 72, 65, 82, 65, 67, 84, 69, 82, 83, 32, 67, 76, 79, 83, 69, 32, 67, 79, 77, 80, 32, 67, 79, 77, 80, 45, 51, 32, 67, 79, 77, 80, 85, 84, 65, 84, 73, 79, 78, 65, 76, 32, 67, 79, 77, 80, 85, 84, 65, 84, 73, 79, 78, 65, 76, 45, 51, 32, 67, 79, 77, 80, 85, 84, 69, 32, 67, 79, 78, 70, 73, 71, 85, 82, 65, 84, 73, 79, 78, 32, 67, 79, 78, 84, 65, 73, 78, 83, 32, 67, 79, 78, 84, 69, 78, 84, 32, 67, 79, 78, 84, 73, 78, 85, 69, 32, 67, 79, 78, 86, 69, 82, 84, 73, 78, 71, 32, 67, 79, 80, 89, 32, 67, 79, 82, 82, 32, 67, 79, 82, 82, 69, 83, 80, 79, 78, 68, 73, 78, 71, 32, 67, 79, 85, 78, 84, 32, 68, 65, 84, 65, 32, 68, 65, 84, 69, 45, 67, 79, 77, 80, 73, 76, 69, 68, 32, 68, 65, 84, 69, 45, 87, 82, 73, 84, 84, 69, 78, 32, 68, 69, 76, 69, 84, 69, 32, 68, 69, 76, 73, 77, 73, 84, 69, 68, 32, 68, 69, 76, 73, 77, 73, 84, 69, 82, 32, 68, 69, 80, 69, 78, 68, 73, 78, 71, 32, 68, 69, 83, 67, 69, 78, 68, 73, 78, 71, 32, 68, 73, 83, 80, 76, 65, 89, 32, 68, 73, 86, 73, 68, 69, 32, 68, 73, 86, 73, 83, 73, 79, 78, 32, 68, 79, 87, 78, 32, 68, 85, 80, 76, 73, 67, 65, 84, 69, 83, 32, 68, 89, 78, 65, 77, 73, 67, 32, 69, 76, 83, 69, 32, 69, 78, 68, 32, 69, 78, 68, 45, 65, 68, 68, 32, 69, 78, 68, 45, 67, 65, 76, 76, 32, 69, 78, 68, 45, 67, 79, 77, 80, 85, 84, 69, 32, 69, 78, 68, 45, 68, 69, 76, 69, 84, 69, 32, 69, 78, 68, 45, 68, 73, 86, 73, 68, 69, 32, 69, 78, 68, 45, 69, 86, 65, 76, 85, 65, 84, 69, 32, 69, 78, 68, 45, 73, 70, 32, 69, 78, 68, 45, 77, 85, 76, 84, 73, 80, 76, 89, 32, 69, 78, 68, 45, 80, 69, 82, 70, 79, 82, 77, 32, 69, 78, 68, 45, 82, 69, 65, 68, 32, 69, 78, 68, 45, 82, 69, 84, 85, 82, 78, 32, 69, 78, 68, 45, 82, 69, 87, 82, 73, 84, 69, 32, 69, 78, 68, 45, 83, 69, 65, 82, 67, 72, 32, 69, 78, 68, 45, 83, 84, 65, 82, 84, 32, 69, 78, 68, 45, 83, 84, 82, 73, 78, 71, 32, 69, 78, 68, 45, 83, 85, 66, 84, 82, 65, 67, 84, 32, 69, 78, 68, 45, 85, 78, 83, 84, 82, 73, 78, 71, 32, 69, 78, 68, 45, 87, 82, 73, 84, 69, 32, 69, 78, 86, 73, 82, 79, 78, 77, 69, 78, 84, 32, 69, 81, 85, 65, 76, 32, 69, 82, 82, 79, 82, 32, 69, 86, 65, 76, 85, 65, 84, 69, 32, 69, 88, 67, 69, 80, 84, 73, 79, 78, 32, 69, 88, 73, 84, 32, 69, 88, 84, 69, 78, 68, 32, 69, 88, 84, 69, 82, 78, 65, 76, 32, 70, 65, 76, 83, 69, 32, 70, 68, 32, 70, 73, 76, 69, 32, 70, 73, 76, 69, 45, 67, 79, 78, 84, 82, 79, 76, 32, 70, 73, 76, 76, 69, 82, 32, 70, 73, 82, 83, 84, 32, 70, 79, 82, 32, 70, 82, 79, 77, 32, 71, 73, 86, 73, 78, 71, 32, 71, 76, 79, 66, 65, 76, 32, 71, 79, 32, 71, 82, 69, 65, 84, 69, 82, 32, 72, 73, 71, 72, 45, 86, 65, 76, 85, 69, 32, 72, 73, 71, 72, 45, 86, 65, 76, 85, 69, 83, 32, 73, 45, 79, 32, 73, 45, 79, 45, 67, 79, 78, 84, 82, 79, 76, 32, 73, 68, 69, 78, 84, 73, 70, 73, 67, 65, 84, 73, 79, 78, 32, 73, 70, 32, 73, 78, 32, 73, 78, 68, 69, 88, 32, 73, 78, 68, 69, 88, 69, 68, 32, 73, 78, 73, 84, 73, 65, 76, 32, 73, 78, 73, 84, 73, 65, 76, 73, 90, 69, 32, 73, 78, 80, 85, 84, 32, 73, 78, 80, 85, 84, 45, 79, 85, 84, 80, 85, 84, 32, 73, 78, 83, 80, 69, 67, 84, 32, 73, 78, 83, 84, 65, 76, 76, 65, 84, 73, 79, 78, 32, 73, 78, 84, 79, 32, 73, 78, 86, 65, 76, 73, 68, 32, 73, 83, 32, 74, 85, 83, 84, 32, 74, 85, 83, 84, 73, 70, 73, 69, 68, 32, 75, 69, 89, 32, 76, 65, 66, 69, 76, 32, 76, 69, 65, 68, 73, 78, 71, 32, 76, 69, 70, 84, 32, 76, 69, 83, 83, 32, 76, 73, 78, 69, 32, 76, 73, 78, 69, 83, 32, 76, 73, 78, 75, 65, 71, 69, 32, 76, 79, 67, 75, 32, 76, 79, 87, 45, 86, 65, 76, 85, 69, 32, 76, 79, 87, 45, 86, 65, 76, 85, 69, 83, 32, 77, 69, 82, 71, 69, 32, 77, 79, 68, 69, 32, 77, 79, 86, 69, 32, 77, 85, 76, 84, 73, 80, 76, 89, 32, 78, 65, 84, 73, 86, 69, 32, 78, 69, 71, 65, 84, 73, 86, 69, 32, 78, 69, 88, 84, 32, 78, 79, 32, 78, 79, 84, 32, 78, 85, 77, 69, 82, 73, 67, 32, 78, 85, 77, 69, 82, 73, 67, 45, 69, 68, 73, 84, 69, 68, 32, 79, 66, 74, 69, 67, 84, 45, 67, 79, 77, 80, 85, 84, 69, 82, 32, 79, 67, 67, 85, 82, 83, 32, 79, 70, 32, 79, 70, 70, 32, 79, 77, 73, 84, 84, 69, 68, 32, 79, 78, 32, 79, 80, 69, 78, 32, 79, 80, 84, 73, 79, 78, 65, 76, 32, 79, 82, 32, 79, 82, 68, 69, 82, 32, 79, 82, 71, 65, 78, 73, 90, 65, 84, 73, 79, 78, 32, 79, 84, 72, 69, 82, 32, 79, 85, 84, 80, 85, 84, 32, 79, 86, 69, 82, 70, 76, 79, 87, 32, 80, 65, 67, 75, 69, 68, 45, 68, 69, 67, 73, 77, 65, 76, 32, 80, 69, 82, 70, 79, 82, 77, 32, 80, 73, 67, 32, 80, 73, 67, 84, 85, 82, 69, 32, 80, 79, 73, 78, 84, 69, 82, 32, 80, 79, 83, 73, 84, 73, 86, 69, 32, 80, 82, 79, 67, 69, 68, 85, 82, 69, 32, 80, 82, 79, 67, 69, 69, 68, 32, 80, 82, 79, 71, 82, 65, 77, 32, 80, 82, 79, 71, 82, 65, 77, 45, 73, 68, 32, 81, 85, 79, 84, 69, 32, 81, 85, 79, 84, 69, 83, 32, 82, 65, 78, 68, 79, 77, 32, 82, 69, 65, 68, 32, 82, 69, 67, 79, 82, 68, 32, 82, 69, 67, 79, 82, 68, 83, 32, 82, 69, 68, 69, 70, 73, 78, 69, 83, 32, 82, 69, 70, 69, 82, 69, 78, 67, 69, 32, 82, 69, 76, 65, 84, 73, 86, 69, 32, 82, 69, 76, 69, 65, 83, 69, 32, 82, 69, 77, 65, 73, 78, 68, 69, 82, 32, 82, 69, 78, 65, 77, 69, 83, 32, 82, 69, 80, 76, 65, 67, 69, 32, 82, 69, 80, 76, 65, 67, 73, 78, 71, 32, 82, 69, 84, 85, 82, 78, 32, 82, 69, 87, 82, 73, 84, 69, 32, 82, 73, 71, 72, 84, 32, 82, 79, 85, 78, 68, 69, 68, 32, 82, 85, 78, 32, 83, 65, 77, 69, 32, 83, 68, 32, 83, 69, 65, 82, 67, 72, 32, 83, 69, 67, 84, 73, 79, 78, 32, 83, 69, 67, 85, 82, 73, 84, 89, 32, 83, 69, 76, 69, 67, 84, 32, 83, 69, 78, 84, 69, 78, 67, 69, 32, 83, 69, 80, 65, 82, 65, 84, 69, 32, 83, 69, 81, 85, 69, 78, 84, 73, 65, 76, 32, 83, 69, 84, 32, 83, 73, 71, 78, 32, 83, 73, 90, 69, 32, 83, 79, 82, 84, 32, 83, 79, 82, 84, 45, 77, 69, 82, 71, 69, 32, 83, 79, 85, 82, 67, 69, 45, 67, 79, 77, 80, 85, 84, 69, 82, 32, 83, 80, 65, 67, 69, 32, 83, 80, 65, 67, 69, 83, 32, 83, 80, 69, 67, 73, 65, 76, 45, 78, 65, 77, 69, 83, 32, 83, 84, 65, 78, 68, 65, 82, 68, 32, 83, 84, 65, 82, 84, 32, 83, 84, 65, 84, 85, 83, 32, 83, 84, 79, 80, 32, 83, 84, 82, 73, 78, 71, 32, 83, 85, 66, 84, 82, 65, 67, 84, 32, 83, 89, 78, 67, 32, 83, 89, 78, 67, 72, 82, 79, 78, 73, 90, 69, 68, 32, 84, 65, 76, 76, 89, 73, 78, 71, 32, 84, 69, 83, 84, 32, 84, 72, 65, 78, 32, 84, 72, 69, 78, 32, 84, 72, 82, 79, 85, 71, 72, 32, 84, 72, 82, 85, 32, 84, 73, 77, 69, 83, 32, 84, 79, 32, 84, 82, 65, 73, 76, 73, 78, 71, 32, 84, 82, 85, 69, 32, 85, 78, 83, 84, 82, 73, 78, 71, 32, 85, 78, 84, 73, 76, 32, 85, 80, 32, 85, 80, 79, 78, 32, 85, 83, 65, 71, 69, 32, 85, 83, 73, 78, 71, 32, 86, 65, 76, 85, 69, 32, 86, 65, 76, 85, 69, 83, 32, 86, 65, 82, 89, 73, 78, 71, 32, 87, 72, 69, 78, 32, 87, 73, 84, 72, 32, 87, 79, 82, 75, 73, 78, 71, 45, 83, 84, 79, 82, 65, 71, 69, 32, 87, 82, 73, 84, 69, 32, 90, 69, 82, 79, 32, 90, 69, 82, 79, 69, 83, 32, 90, 69, 82, 79, 83, 32]
def RES : PySem.Str := ⟨⟨RESl⟩⟩
def KAs : List Addr := [0, 1, 2, 3, 4, 5, 6, 7, 8, 9, 10, 11, 12, 13, 14, 15, 16, 17, 18, 19, 20, 21, 22, 29, 30, 31, 32, 33, 34, 35, 36, 37, 38, 39, 40, 41, 42, 43, 44, 45, 46, 47, 48, 51, 58, 59, 60, 63, 64, 65, 66, 67, 68, 69, 77, 78, 79, 80, 81, 82, 83, 84, 85, 86, 87, 88, 89, 90, 91, 92, 93, 94, 95, 96, 97, 98, 99, 100, 101, 102, 103, 104, 105, 106, 107, 108, 109, 110, 111, 112, 113, 114, 115, 116, 117, 118, 119, 120, 121, 122, 123, 124, 125, 126, 127, 128, 129, 130, 131, 132, 133, 134, 135, 136, 137, 138, 139, 140, 141, 142, 143, 144, 145, 146, 147, 148, 149, 150, 151, 152, 153, 154, 155, 156, 157, 158, 159, 160, 161, 162, 163, 164, 165, 166, 167, 168, 169, 170, 171, 172, 173, 174, 175, 176, 177, 178, 179, 180, 181, 182, 183, 184, 185, 186, 187, 188, 189, 190, 191, 192, 193, 194, 195, 196, 197, 198, 199, 200, 201, 202, 203, 204, 205, 206, 207, 208, 209, 210, 211, 212, 213, 214, 215, 216, 217, 218, 219, 220, 221, 222, 223, 224, 225, 226, 227, 228, 229, 230, 231, 232, 233, 234, 235, 236, 237, 238, 239, 240, 250, 251, 252, 253, 254, 255, 256, 257, 258, 259, 260, 261, 262, 263, 264, 265, 266, 267, 268, 269, 270, 273, 274, 275, 276, 277, 278, 279, 280, 281, 282, 283, 284, 285, 286, 287, 288, 289, 290, 291]
-- the entry of RESERVED: place 12, key token 255, value token 254
theorem keysOf (P : Params) : KAs = (frag.heap_1 P).map (·.1) := by kernel_rfl
noncomputable def view : Program := { PySem.Challenge.pw_og0089_02 with main := { PySem.Challenge.pw_og0089_02.main with body := PySem.Challenge.pw_og0089_02.main.body.drop 13 } }
noncomputable def loose : List PySem.Str := ["_wall", "LedgerError", "GrammarFault", "RESERVED", "is_reserved", "Reader", "Token", "_law_table", "_law_answers"]
noncomputable abbrev XtV (s : Shared) : Bool := xlAt view [] s && recOk (RowW.records PySem.Challenge.rw_og0089_02.row.toRowW) s
noncomputable abbrev HV : Hook := kHook frag.heap_1 KAs keysOf
abbrev WalkT : Prop := ∀ (d : DefRec) (kwd : List (PySem.Str × PySem.Expr)), defOf view "law" = some (d, kwd) → WalkO view loose (XL view []) HV.says PySem.Challenge.rw_og0089_02.row.toRowW d kwd fun f vs => PySem.call f vs
end Mine
end
-- C2
section
open PySem PySem.W PySem.Calls PyProof.Rows
set_option pp.deepTerms false
set_option pp.deepTerms.threshold 6
set_option pp.maxSteps 20000
set_option format.width 180
set_option Elab.async false
set_option maxRecDepth 100000
namespace Mine
abbrev prog := PySem.Challenge.rw_og0089_02.row.prog
noncomputable abbrev LS := looseW view loose
noncomputable def textOf (p : Program) (i : Nat) : PySem.Str := match p.main.body[i]? with
  | some (.Assign _ (.Constant (.str x) _ _) _) => x
  | _ => ""
noncomputable def RS : PySem.Str := textOf PySem.Challenge.pw_og0089_02 5
noncomputable def resB (x : PySem.Str) : Bool := !(Builtin.Str.occurrences RS ((" " : PySem.Str) ++ x ++ (" " : PySem.Str)) 0 RS.length 1).isEmpty
abbrev Ar (hd : Option Value) (dp un : Nat) (gd : Option (List Code)) (cn : PySem.Str) (cs : Scope) (L a : Addr) (ccd : Value) (cl : List (PySem.Str × Addr)) (outer : List Env) : Around := { handled := hd, depth := dp, frames := some (envX cn cs L a ccd cl :: outer), guards := gd, units := un }
theorem reg : PySem.Challenge.rw_og0089_02 = PySem.Challenge.rw_og0089_02 ∧ frag.heap_1 = frag.heap_1 := by k_fill; exact ⟨rfl, rfl⟩
section
variable {w : World} {mean : ExcName → Option Value} {mg mb : PySem.Str → Option Value} {hd : Option Value} {dp un : Nat} {gd : Option (List Code)} {cn : PySem.Str} {cs : Scope} {a : Addr} {ccd : Value} {cl : List (PySem.Str × Addr)} {outer : List Env} {A₀ : Around} {base h₀ : Heap} {L : Addr} {m : PySem.Str → Option Value} {news : List (Addr × Obj)} {s : Shared}
set_option maxHeartbeats 4000000 in
theorem c_isReserved {x : PySem.Str} {tk : Tok} {Q E : Value → Shared → Prop}
    (B : Below A₀ base outer h₀) (F : Fr h₀ L s.heap m) (X : (frag.heap_1 w.params).In h₀) (N : News h₀ L s.heap news) (T : Top view LS mean mg mb h₀) (hk : cs.kind = .function)
    (hdp : dp < recursionLimit) (hun : un + 8 < cLine) (hx : x.length ≤ 1000) (b : Bool) (hb : resB x = b)
    (ret : ∀ h' tk', Fr h₀ L h' m → News h₀ L h' news → Q (.bool b) { s with heap := h', toks := tk' }) :
    wpAny (model prog w) (Ar hd dp un gd cn cs L a ccd cl outer) (call (.ref 69) [.str x tk] []) Q E s := by
  subst hb
  w_on
  refine wpAny_call ?_
  k_dflt ktr_enter
  k_steps
  all_goals exact ret _ _ (by assumption) (by assumption)
end
end Mine
end
-- E
section
open PySem PySem.W PySem.Calls PyProof.Rows
set_option Elab.async false
set_option maxRecDepth 100000
namespace Mine
/-! An exception in flight whose own dict is kept in sight. -/
def Trc (h base : Heap) (e : Addr) (cls a0 : Value) (dx : Addr) (fl : Value) : Prop :=
  ∃ oe vs T oT ts, h.get? e = some oe ∧ (oe.cls = cls ∧ oe.dict = some dx ∧ vs[0]? = some a0) ∧ oe.data = .fields vs ∧ vs[1]? = some (.ref T) ∧ base.get? T = none ∧ T ≠ e ∧ h.get? T = some oT ∧ oT.data = .fields ts ∧ ts[3]? = some fl
structure Fly (base : Heap) (l : List Env) (e : Addr) (cls a0 : Value) (dx : Addr) (fl : Value) (h : Heap) : Prop where
  stays : base.StaysIn h
  new : base.get? e = none
  frames : h.FunFrames base l
  trc : Trc h base e cls a0 dx fl
theorem dict_mapFields (o : Obj) (f) : (o.mapFields f).dict = o.dict := by
  obtain ⟨c, d, dt, sl⟩ := o; cases dt <;> rfl
theorem Fly.far {base h : Heap} {l : List Env} {e : Addr} {cls a0 fl : Value} {dx : Addr} (x : Fly base l e cls a0 dx fl h) {b : Addr} {o : Obj} (hb : h.get? b = some o) (hn : ∀ vs, o.data ≠ .fields vs) : b ≠ e := by
  rintro rfl
  obtain ⟨oe, vs, T, oT, ts, he, _, hd, _⟩ := x.trc
  rw [he] at hb; cases hb
  exact hn vs hd
section
variable {M : Model} {A : Around} {E : Value → Shared → Prop} {s : Shared} {base : Heap} {env : Env} {outer : List Env} {l : List Env} {L e dx : Addr} {cls a0 fl : Value} {Q : Unit → Shared → Prop}

theorem d_entry {oe : Obj} {vs : Array Value} {head : Value} {hadNext : Bool}
    (hfr : A.frames = some (env :: outer)) (hl : s.heap.FunFrames base (env :: outer)) (hf : env.frame = some L) (hkb : base.StaysIn s.heap) (hen : base.get? e = none)
    (he : s.heap.get? e = some oe) (hd : oe.data = .fields vs) (hsz : 1 < vs.size) (h0 : vs[0]? = some a0) (hdx : oe.dict = some dx) (hc : oe.cls = cls)
    (h : ∀ h', Fly base (env :: outer) e cls a0 dx (rawInt L) h' → s.heap.UpToSlots h' → Q () { s with heap := h' }) :
    wpAny M A (do let a ← frameOf env; let pl ← entryPlaceOf L hadNext; let b ← EntryCells.newEntry head a .none (rawInt L) .none pl; setField (.ref e) 1 b) Q E s := by
  refine wpAny_bind (wpAny_frameOf_fun hfr hl hf fun h₁ only => ?_)
  refine wpAny_bind (wpAny_entryPlaceOf fun pl hpl => ?_)
  unfold EntryCells.newEntry newFields
  refine wpAny_bind (wpAny_newObj_type ?_ (hpl.sizeOk5 _ _ _ _ _))
  generalize hW : ([head, Value.ref L, Value.none, rawInt L, Value.none] ++ (if pl.isEmpty then List.replicate 6 Value.none else pl)).toArray = W
  have w3 : W[3]? = some (rawInt L) := by
    subst hW
    rcases hpl with rfl | ⟨_, _, _, _, _, _, _, rfl⟩ <;> simp
  have eF : e ∉ (env :: outer).filterMap (·.frame) := fun hm => by
    obtain ⟨_, o, ho, hn⟩ := hl.mem hm
    rw [he] at ho; cases ho
    exact hn vs hd
  have e1 : h₁.get? e = some oe := (only.2.1 e eF).trans he
  have k1 : base.StaysIn h₁ := fun b o hb => (only.2.1 b fun hm => by rw [(hl.mem hm).1] at hb; cases hb).trans (hkb b o hb)
  have e2 := Heap.get?_push_of_some (h := h₁) { cls := .type "traceback", dict := none, data := .fields W } e1
  refine wpAny_setField e2 hd hsz ?_
  have hTe : h₁.objs.size ≠ e := Nat.ne_of_gt (Heap.lt_size e1)
  have d3 := Obj.data_mapFields hd (·.setIfInBounds 1 (Value.ref h₁.objs.size))
  have e3 := Heap.get?_update_self (Obj.mapFields (·.setIfInBounds 1 (Value.ref h₁.objs.size))) e2 (Obj.isFreed_of_fields d3)
  have keep : ∀ b o, b ≠ e → h₁.get? b = some o → ((h₁.push { cls := .type "traceback", dict := none, data := .fields W }).update e (Obj.mapFields (·.setIfInBounds 1 (Value.ref h₁.objs.size)))).get? b = some o := fun b o hb hq => by
    rw [Heap.get?_update_other _ _ (Ne.symm hb)]
    exact Heap.get?_push_of_some _ hq
  have far : ∀ b o, s.heap.get? b = some o → (∀ vs, o.data ≠ .fields vs) → b ≠ e := fun b o hb hn q => by
    rw [q, he] at hb; cases hb
    exact hn vs hd
  have slots : ∀ b o, s.heap.get? b = some o → (∀ vs, o.data ≠ .fields vs) → ∃ sl, ((h₁.push { cls := .type "traceback", dict := none, data := .fields W }).update e (Obj.mapFields (·.setIfInBounds 1 (Value.ref h₁.objs.size)))).get? b = some { o with slots := sl } := fun b o hb hn => by
    obtain ⟨sl, q⟩ := only.2.2 b o hb
    exact ⟨sl, keep b _ (far b o hb hn) q⟩
  refine h _ ⟨fun b o hb => keep b o (fun q => by rw [q, hen] at hb; cases hb) (k1 b o hb), hen, hl.of_keeps fun b o hb hn => ?_, ?_⟩ slots
  · obtain ⟨sl, q⟩ := slots b o hb hn
    exact ⟨_, q, rfl⟩
  · refine ⟨_, _, h₁.objs.size, _, _, e3, ⟨(Obj.cls_mapFields _ _).trans hc, (dict_mapFields _ _).trans hdx, ?_⟩, d3, by simp [hsz], k1.fresh, hTe, (Heap.get?_update_other _ _ (Ne.symm hTe)).trans (Heap.get?_push_size h₁ rfl), rfl, w3⟩
    rw [Array.getElem?_setIfInBounds_ne (by decide)]; exact h0

theorem d_setNone (x : Fly base l e cls a0 dx fl s.heap) (h : ∀ h', Fly base l e cls a0 dx .none h' → s.heap.UpToSlots h' → Q () { s with heap := h' }) : wpAny M A (setFlight (.ref e) none) Q E s := by
  obtain ⟨hkb, hen, hl, oe, vs, T, oT, ts, he, hcls, hd, h1, hnT, hTe, hT, hdT, h3⟩ := x
  have z3 : 3 < ts.size := (Array.getElem?_eq_some_iff.mp h3).1
  unfold setFlight
  refine wpAny_bind (wpAny_field he hd h1 ?_)
  rw [if_pos (show (Value.ref T != Value.none) = true from by simp)]
  have other : ∀ b, b ≠ T → (s.heap.update T (Obj.mapFields (·.setIfInBounds 3 ((none : Option Addr).elim Value.none fun f => rawInt f)))).get? b = s.heap.get? b := fun b hb => Heap.get?_update_other _ _ (Ne.symm hb)
  have far : ∀ b o, s.heap.get? b = some o → (∀ vs, o.data ≠ .fields vs) → b ≠ T := fun b o hb hn q => by
    rw [q, hT] at hb; cases hb
    exact hn ts hdT
  refine wpAny_setField hT hdT z3 (h _ ⟨fun b o hb => (other b fun q => by rw [q, hnT] at hb; cases hb).trans (hkb b o hb), hen, hl.of_keeps fun b o hb hn => ⟨o, (other b (far b o hb hn)).trans hb, rfl⟩, ?_⟩ fun b o hb hn => ⟨o.slots, (other b (far b o hb hn)).trans hb⟩)
  exact ⟨oe, vs, T, _, _, (other e (Ne.symm hTe)).trans he, hcls, hd, h1, hnT, hTe, Heap.get?_update_self _ hT (Obj.isFreed_of_fields (Obj.data_mapFields hdT _)), Obj.data_mapFields hdT _, by simp [z3]⟩

theorem d_note (hfr : A.frames = some (env :: outer)) (hf : env.frame = some L) (x : Fly base (env :: outer) e cls a0 dx .none s.heap)
    (h : ∀ h', Fly base (env :: outer) e cls a0 dx (rawInt L) h' → s.heap.UpToSlots h' → Q () { s with heap := h' }) : wpAny M A (noteFrame (.ref e) env) Q E s := by
  obtain ⟨hkb, hen, hl, oe, vs, T, oT, ts, he, ⟨hc, hdx, h0⟩, hd, h1, hnT, hTe, hT, hdT, h3⟩ := x
  unfold noteFrame
  simp only [hf]
  refine wpAny_bind (wpAny_field he hd h1 ?_)
  rw [if_pos (show (Value.ref T != Value.none) = true from by simp)]
  refine wpAny_bind (wpAny_field hT hdT h3 ?_)
  rw [if_neg (show ¬ ((Value.none == rawInt L) = true) from by simp [rawInt])]
  refine wpAny_bind (wpAny_setField hT hdT (Array.getElem?_eq_some_iff.mp h3).1 ?_)
  have other : ∀ b, b ≠ T → (s.heap.update T (Obj.mapFields (·.setIfInBounds 3 Value.none))).get? b = s.heap.get? b := fun b hb => Heap.get?_update_other _ _ (Ne.symm hb)
  have far : ∀ b o, s.heap.get? b = some o → (∀ vs, o.data ≠ .fields vs) → b ≠ T := fun b o hb hn q => by
    rw [q, hT] at hb; cases hb
    exact hn ts hdT
  have up : s.heap.UpToSlots (s.heap.update T (Obj.mapFields (·.setIfInBounds 3 Value.none))) := fun b o hb hn => ⟨o.slots, (other b (far b o hb hn)).trans hb⟩
  exact d_entry hfr (hl.of_keeps fun b o hb hn => ⟨o, (other b (far b o hb hn)).trans hb, rfl⟩) hf (fun b o hb => (other b fun q => by rw [q, hnT] at hb; cases hb).trans (hkb b o hb)) hen ((other e (Ne.symm hTe)).trans he) hd (Array.getElem?_eq_some_iff.mp h1).1 h0 hdx hc
    fun h' y u => h h' y (up.trans u)

theorem d_noteFirst {oe : Obj} {vs : Array Value} (hfr : A.frames = some (env :: outer)) (hf : env.frame = some L) (hl : s.heap.FunFrames base (env :: outer)) (hkb : base.StaysIn s.heap) (hen : base.get? e = none)
    (he : s.heap.get? e = some oe) (hd : oe.data = .fields vs) (h1 : vs[1]? = some .none) (h0 : vs[0]? = some a0) (hdx : oe.dict = some dx) (hc : oe.cls = cls)
    (h : ∀ h', Fly base (env :: outer) e cls a0 dx (rawInt L) h' → s.heap.UpToSlots h' → Q () { s with heap := h' }) : wpAny M A (noteFrame (.ref e) env) Q E s := by
  unfold noteFrame
  simp only [hf]
  refine wpAny_bind (wpAny_field he hd h1 ?_)
  rw [if_neg (by decide)]
  exact d_entry hfr hl hf hkb hen he hd (Array.getElem?_eq_some_iff.mp h1).1 h0 hdx hc h

theorem Fly.out {h : Heap} (x : Fly base (env :: outer) e cls a0 dx fl h) : Fly base outer e cls a0 dx fl h := ⟨x.stays, x.new, x.frames.2.2, x.trc⟩

theorem d_leaveFirst {oe : Obj} {vs : Array Value} (hfr : A.frames = some (env :: outer)) (hf : env.frame = some L) (hl : s.heap.FunFrames base (env :: outer)) (hkb : base.StaysIn s.heap) (hen : base.get? e = none)
    (he : s.heap.get? e = some oe) (hd : oe.data = .fields vs) (h1 : vs[1]? = some .none) (h0 : vs[0]? = some a0) (hdx : oe.dict = some dx) (hc : oe.cls = cls)
    (h : ∀ h', Fly base outer e cls a0 dx .none h' → s.heap.UpToSlots h' → Q () { s with heap := h' }) : wpAny M A (leaving env (.ref e)) Q E s := by
  unfold leaving
  refine wpAny_bind (d_noteFirst hfr hf hl hkb hen he hd h1 h0 hdx hc fun h' x u => ?_)
  exact d_setNone (s := { s with heap := h' }) x fun h'' y v => h h'' y.out (u.trans v)

theorem d_leaveOn (hfr : A.frames = some (env :: outer)) (hf : env.frame = some L) (x : Fly base (env :: outer) e cls a0 dx .none s.heap)
    (h : ∀ h', Fly base outer e cls a0 dx .none h' → s.heap.UpToSlots h' → Q () { s with heap := h' }) : wpAny M A (leaving env (.ref e)) Q E s := by
  unfold leaving
  refine wpAny_bind (d_note hfr hf x fun h' y u => ?_)
  exact d_setNone (s := { s with heap := h' }) y fun h'' z v => h h'' z.out (u.trans v)
end
end Mine
end
-- E2
section
open PySem PySem.W PySem.Calls PyProof.Rows
set_option Elab.async false
set_option maxRecDepth 100000
namespace Mine
abbrev excO (C t d : Addr) : Obj := { cls := .ref C, dict := some d, data := .fields #[.ref t, .none, .none, .none, .bool false, .none] }
structure ExcCls (M : Model) (h : Heap) (C : Addr) : Prop where
  base : Looks M h (isSubtype (.ref C) (.type "BaseException")) true
  mt : Looks M h (typeOf (.ref C)) (.type "type")
  exc : Looks M h (isExcClass (.ref C)) true
  notTup : Looks M h (isInstance (.ref C) (.type "tuple")) false
  self : Looks M h (isSubtype (.ref C) (.ref C)) true
theorem ExcCls.keeps {M : Model} {h h' : Heap} {C : Addr} (x : ExcCls M h C) (k : ∀ b o, h.get? b = some o → h'.get? b = some o) : ExcCls M h' C :=
  ⟨x.base.keeps k, x.mt.keeps k, x.exc.keeps k, x.notTup.keeps k, x.self.keeps k⟩
def RaisesMade (M : Model) (C : Addr) (E : Value → Shared → Prop) (v : Value) (s : Shared) : Prop :=
  ∃ a ob vs, v = .ref a ∧ s.heap.get? a = some ob ∧ ob.cls = .ref C ∧ ob.data = .fields vs ∧ vs[1]? = some .none ∧ ExcCls M s.heap C ∧ E (.ref a) s
section
variable {M : Model} {A : Around} {E : Value → Shared → Prop} {s : Shared} {env : Env}
theorem typeOf_at {a : Addr} {o : Obj} {Q : Value → Shared → Prop} (ha : s.heap.get? a = some o) (h : Q o.cls s) : wpAny M A (typeOf (.ref a)) Q E s := by
  have q : Looks M s.heap (typeOf (.ref a)) o.cls := (Looks.ld ha).andThen .now
  exact q.here h
theorem raise_made {C : Addr} {e : Expr} {pos : Pos} {Q : Flow → Shared → Prop} (hh : A.handled = none) (h : wpAny M A (eval e env) (RaisesMade M C E) E s) : wpAny M A (exec (.Raise (some e) none pos) env) Q E s := by
  show wpAny M A (do standAt pos; raiseStmt env (some (do let v ← eval e env; standAt pos; pure v)) none) Q E s
  refine wpAny_bind (wpAny_standAt ?_)
  unfold raiseStmt
  dsimp only
  refine wpAny_bind (wpAny_bind (wpAny_mono h (fun v s₁ h₁ => wpAny_bind (wpAny_standAt (wpAny_pure ?_))) fun _ _ x => x))
  obtain ⟨a, ob, vs, rfl, ha, hcls, hd, h1, X, hE⟩ := h₁
  have hnt : ∀ {Q' : Bool → Shared → Prop}, Q' false s₁ → wpAny M A (isType (.ref a)) Q' E s₁ := by
    intro Q' hq
    simp only [isType, loadHead]
    refine wpAny_bind (wpAny_loadPart ha ?_)
    rw [hd]; exact wpAny_pure hq
  refine wpAny_bind (wpAny_pure ?_)
  dsimp only
  refine wpAny_bind (wpAny_holding ?_)
  unfold excFromValue
  rw [isExcClass]
  refine wpAny_bind (wpAny_bind (hnt ?_))
  simp only [Bool.false_eq_true, if_false]
  refine wpAny_pure ?_
  simp only [Bool.false_eq_true, if_false]
  unfold isInstance
  refine wpAny_bind (wpAny_bind (typeOf_at ha ?_))
  rw [hcls]
  refine X.base.here ?_
  simp only [if_true]
  refine wpAny_pure ?_
  refine wpAny_bind (hnt ?_)
  simp only [Bool.false_eq_true, if_false]
  unfold raisedInstance
  refine wpAny_bind (wpAny_bind (typeOf_at ha ?_))
  rw [hcls]
  refine wpAny_bind (X.mt.here ?_)
  rw [if_pos (by rfl)]
  refine wpAny_pure ?_
  unfold setFlight raiseNew
  refine wpAny_bind (wpAny_bind (wpAny_field ha hd h1 ?_))
  rw [if_neg (by decide)]
  refine wpAny_pure (wpAny_bind (wpAny_handled ?_))
  rw [hh]
  first
    | exact wpAny_throw hE
    | exact wpAny_bind (wpAny_pure (wpAny_throw hE))
theorem matches_self {C e : Addr} {oe : Obj} {Q : Bool → Shared → Prop} (X : ExcCls M s.heap C) (he : s.heap.get? e = some oe) (hc : oe.cls = .ref C) (h : Q true s) : wpAny M A (excMatches (.ref e) (.ref C)) Q E s := by
  unfold excMatches
  refine wpAny_bind (X.notTup.here ?_)
  simp only [Bool.false_eq_true, if_false]
  refine wpAny_bind (wpAny_pure ?_)
  simp only [List.forIn_cons, List.forIn_nil]
  refine wpAny_bind (wpAny_bind (wpAny_bind (X.exc.here ?_)))
  simp only [Bool.not_true, Bool.false_eq_true, if_false]
  refine wpAny_pure (wpAny_pure ?_)
  refine wpAny_bind (typeOf_at he ?_)
  rw [hc]
  refine wpAny_bind (wpAny_bind (wpAny_bind (X.self.here ?_)))
  simp only [if_true]
  exact wpAny_pure (wpAny_pure (wpAny_pure h))
end
def RaisedD (base G : Heap) (l : List Env) (e C dx : Addr) (news : List (Addr × Obj)) (h : Heap) : Prop :=
  ∃ B a0, base.StaysIn B ∧ (∀ b o, G.get? b = some o → b ∉ l.filterMap (·.frame) → B.get? b = some o) ∧ (∀ q ∈ news, B.get? q.1 = some q.2 ∧ G.get? q.1 = none ∧ base.get? q.1 = none) ∧ Fly B l e (.ref C) a0 dx .none h
section
variable {M : Model} {A : Around} {E : Value → Shared → Prop} {s' : Shared} {base g g₂ : Heap} {outer : List Env} {L a e C dx t : Addr} {m : Str → Option Value} {name : Str} {scope : Scope} {cd : Value} {Q : Unit → Shared → Prop} {news : List (Addr × Obj)}
theorem leaveD_first (K : Below A base outer g) (F : Fr g L s'.heap m) (N : News g L s'.heap ((e, excO C t dx) :: news)) (hne : ∀ q ∈ news, q.1 ≠ e)
    (hQ : ∀ h', RaisedD base g outer e C dx news h' → g.UpToSlots h' → Q () { s' with heap := h' }) (hk : scope.kind = .function := by rfl) :
    wpAny M (A.deeper (envOf name scope L a cd)) (leaving (envOf name scope L a cd) (.ref e)) Q E s' := by
  have K' := K.push (name := name) (a := a) (cd := cd) F hk
  have he := N (e, _) (.head _)
  let as := e :: (envOf name scope L a cd :: outer).filterMap (·.frame)
  have off : ∀ b o, base.get? b = some o → b ∉ as := fun b o q hm => by
    rcases List.mem_cons.mp hm with rfl | hm
    · have := K.stays _ _ q; rw [he.2.2] at this; cases this
    · rw [(K'.frames.mem hm).1] at q; cases q
  have st : base.StaysIn (hideAll s'.heap as) := fun b o q => hideAll_get _ (K'.stays b o q) (off b o q)
  have sg : ∀ b o, g.get? b = some o → b ∉ outer.filterMap (·.frame) → (hideAll s'.heap as).get? b = some o := fun b o q nm => hideAll_get _ (F.keep b o q) fun hm => by
    rcases List.mem_cons.mp hm with rfl | hm
    · rw [he.2.2] at q; cases q
    · rcases kts_mem hm with z | z
      · rw [z, kts_self F] at q; cases q
      · exact nm z
  have hin : ∀ env ∈ (envOf name scope L a cd :: outer), ∀ b, env.frame = some b → b ∈ as := fun env he b hb => .tail _ (List.mem_filterMap.mpr ⟨env, he, hb⟩)
  have hl : ∀ q ∈ news, (hideAll s'.heap as).get? q.1 = some q.2 ∧ g.get? q.1 = none ∧ base.get? q.1 = none := fun q hq => by
    have n := N q (.tail _ hq)
    refine ⟨hideAll_get _ n.1 fun hm => ?_, n.2.2, fresh_of_stays K.stays n.2.2⟩
    rcases List.mem_cons.mp hm with h | hm
    · exact hne q hq h
    · obtain ⟨env, he, hf⟩ := List.mem_filterMap.mp hm
      rcases List.mem_cons.mp he with rfl | he
      · exact n.2.1 (Option.some.inj hf).symm
      · obtain ⟨o, ho, _⟩ := (K.frames.mem (List.mem_filterMap.mpr ⟨env, he, hf⟩)).2
        rw [n.2.2] at ho; cases ho
  exact d_leaveFirst (base := hideAll s'.heap as) (a0 := .ref t) (cls := .ref C) (dx := dx) K'.stack rfl (funFrames_hide K'.frames hin) (fun b o q => of_hideAll _ q) (hideAll_none _ (.head _)) he.1 rfl rfl rfl rfl rfl
    fun h' x u => hQ h' ⟨_, _, st, sg, hl, x⟩ ((Heap.UpToSlots.of_keeps F.keep).trans u)

theorem leaveD_on (K : Below A base outer g) (F : Fr g L g₂ m) (R : RaisedD base g₂ (envOf name scope L a cd :: outer) e C dx news s'.heap) (hsm : g₂.UpToSlots s'.heap)
    (hQ : ∀ h', RaisedD base g outer e C dx news h' → g.UpToSlots h' → Q () { s' with heap := h' }) :
    wpAny M (A.deeper (envOf name scope L a cd)) (leaving (envOf name scope L a cd) (.ref e)) Q E s' := by
  obtain ⟨B, a0, hB, hBG, hl, x⟩ := R
  refine d_leaveOn (Around.frames_deeper K.stack) rfl x fun h' y u => hQ h' ⟨B, a0, hB, fun b o q nm => hBG b o (F.keep b o q) fun hm => ?_, fun q hq => ⟨(hl q hq).1, kts_none F.keep (hl q hq).2.1, (hl q hq).2.2⟩, y⟩ ((Heap.UpToSlots.of_keeps F.keep).trans (hsm.trans u))
  rcases kts_mem hm with z | z
  · rw [z, kts_self F] at q; cases q
  · exact nm z
end

section
variable {prog : Program} {w : World} {A₀ : Around} {E : Value → Shared → Prop} {s' : Shared} {base g G : Heap} {outer : List Env} {L a e C dx : Addr} {m : Str → Option Value} {name : Str} {scope : Scope} {cd : Value}
  {n x : Str} {b₀ : Stmt} {suite : List Stmt} {pos np : Pos} {rest : List ExceptHandler} {Q : Flow → Shared → Prop} {news : List (Addr × Obj)} {KF : Frag}
  {p : Program} {loose : List Str} {mean : ExcName → Option Value} {mg mb : Str → Option Value}
theorem caughtD (R : RaisedD base G (envOf name scope L a cd :: outer) e C dx news s'.heap) (F : Fr g L G m) (K : Below A₀ base outer g) (hsm : G.UpToSlots s'.heap) (XB : KF.In base) (TB : Top p loose mean mg mb base)
    (ex : nsIn KF mainGlobals x = some (some (.ref C))) (X : ExcCls (model prog w) base C)
    (k : ∀ h' g' oe vs tk, KtsTurn (outer.filterMap (·.frame)) g g' → Fr g' L h' (fun y => if y = n then some (.ref e) else m y) → News g' L h' ((e, oe) :: news) → oe.cls = .ref C → oe.dict = some dx → oe.data = .fields vs →
      Below A₀ base outer g' → KF.In g' → Top p loose mean mg mb g' →
      wpAny (model prog w) ((A₀.deeper (envOf name scope L a cd)).mark (some (.ref e))) (execs (b₀ :: suite) (envOf name scope L a cd))
        (fun f s₄ => wpAny (model prog w) (A₀.deeper (envOf name scope L a cd)) (do bindName (envOf name scope L a cd) n .none; unbindBehindTheSuite (envOf name scope L a cd) n pos) (fun _ s₅ => Q f s₅) E s₄)
        (AsSuiteRaised (model prog w) ((A₀.deeper (envOf name scope L a cd)).mark (some (.ref e))) (envOf name scope L a cd) n pos (notedBy (model prog w) ((A₀.deeper (envOf name scope L a cd)).mark (some (.ref e))) (envOf name scope L a cd) (cameBackBy (model prog w) (A₀.deeper (envOf name scope L a cd)) (envOf name scope L a cd) E)))
        { s' with heap := h', toks := tk })
    (hk : scope.kind = .function := by rfl) (hlo : (envOf name scope L a cd).kindOf n = some .local := by rfl) (hx : (envOf name scope L a cd).kindOf x = some .globalImplicit := by rfl) (hd : (x == ("__debug__" : Str)) = false := by decide) :
    wpAny (model prog w) (A₀.deeper (envOf name scope L a cd)) (noteFrame (.ref e) (envOf name scope L a cd))
      (fun _ s₂ => wpAny (model prog w) (A₀.deeper (envOf name scope L a cd)) (setFlight (.ref e) none) (fun _ s₃ =>
        wpAny (model prog w) (A₀.deeper (envOf name scope L a cd)) (handleBy (.ref e) (envOf name scope L a cd) (.ExceptHandler (some (.Name x np)) (some n) (b₀ :: suite) pos :: rest)) Q E s₃) E s₂) E s' := by
  obtain ⟨B, a0, hB, hBG, hl, fly⟩ := R
  have hL : B.get? L = none := by
    obtain ⟨_, ⟨L', _, hf, hn', _⟩, _⟩ := fly.frames
    obtain rfl : L = L' := Option.some.inj hf
    exact hn'
  refine d_note (Around.frames_deeper K.stack) rfl fly fun h₄ fly₄ u₄ => ?_
  refine d_setNone (s := { s' with heap := h₄ }) fly₄ fun h₅ fly₅ u₅ => ?_
  obtain ⟨g₅, T₅, F₅, K₅⟩ := kts_ground K F hBG fly₅.stays ((hsm.trans u₄).trans u₅)
  have X₅ : KF.In g₅ := XB.keeps K₅.stays
  have P₅ : TopRead p loose mg mb g₅ := topRead_of (TB.keeps K₅.stays)
  have C₅ : ExcCls (model prog w) h₅ C := (X.keeps K₅.stays).keeps F₅.keep
  obtain ⟨oe, vs, T, oT, ts, he, ⟨hc, hdx, h0⟩, hd', h1, hnT, hTe, hT, hdT, h3⟩ := id fly₅.trc
  refine wpAny_handleBy_cons (codeAny_handlers_test (name_K F₅ X₅ P₅ ex ?_ hk hx hd)) (by intro q; cases q)
  refine matches_self (s := { s' with heap := h₅ }) C₅ he hc ?_
  refine codeAny_handlers_suite_as ?_
  refine d_setNone (s := { s' with heap := h₅ }) fly₅ fun h₆ fly₆ u₆ => ?_
  obtain ⟨g₆, T₆, F₆, K₆⟩ := kts_ground K F hBG fly₆.stays (((hsm.trans u₄).trans u₅).trans u₆)
  obtain ⟨oe, vs, T, oT, ts, he, ⟨hc, hdx, h0⟩, hd', h1, hnT, hTe, hT, hdT, h3⟩ := id fly₆.trc
  have ne₆ : g₆.get? e = none := T₆.none_ _ (kts_fresh F hBG fly₆.new fun o ho mm => by
    obtain ⟨_, o', ho', hdd⟩ := K.frames.mem mm
    rw [ho] at ho'
    cases ho'
    obtain ⟨sl, hs⟩ := (((hsm.trans u₄).trans u₅).trans u₆) _ _ (F.keep _ _ ho) hdd
    rw [he] at hs
    cases hs
    exact hdd _ hd')
  have N₆ := News.more F₆ News.nil he (fun es n q => by rw [hd'] at q; cases q) ne₆
  have Nl : News g₆ L h₆ news := fun q hq => ⟨fly₆.stays _ _ (hl q hq).1, (fun z => by have := (hl q hq).1; rw [z, hL] at this; cases this), T₆.none_ _ (kts_none F.keep (hl q hq).2.1)⟩
  refine stN F₆ (news := (e, oe) :: news) (fun q hq => (List.mem_cons.mp hq).elim (fun z => z ▸ N₆ (e, oe) (.head _)) (Nl q)) (fun h₇ F₇ N₇ => ?_) hk hlo
  exact k h₇ g₆ oe vs _ T₆ F₇ N₇ hc hdx hd' K₆ (XB.keeps K₆.stays) (TB.keeps K₆.stays)
end
end Mine
end
-- E3
section
open PySem PySem.W PySem.Calls PyProof.Rows
set_option Elab.async false
set_option maxRecDepth 100000
namespace Mine
section
variable {prog : Program} {w : World} {A : Around} {E : Value → Shared → Prop} {s : Shared} {K : Frag} {x C : Addr} {ox : Obj} {od : Option Obj} {name : Str} {expr : Bool} {Q : Value → Shared → Prop}
theorem get_exc {v : Value} (X : K.In s.heap) (I : InstAt s.heap x ox C od) (hga : findIn K (.ref C) "__getattribute__" = some (some (.builtin "BaseException.__getattribute__"))) (hgg : findIn K (.ref C) "__getattr__" = some none) (hsub : subIn K (.ref C) (.type "BaseException") = some true)
    (hf : findObj K C od name = some (.value v)) (hh : handedIn v = true) (h : Q v { s with toks := s.toks + 1 }) : wpAny (model prog w) A (getAttr (.ref x) name expr) Q E s := by
  obtain ⟨hh', g, d, t, os⟩ := s
  have L0 := I.type (M := model prog w)
  have L1 := looks_findIn (M := model prog w) X hga
  have L2 := looks_findIn (M := model prog w) X hgg
  have L3 := looks_find (M := model prog w) X I hf
  have L4 := looks_subIn (M := model prog w) X hsub
  unfold getAttr getAttrBy
  refine wpAny_bind (wpAny_mkText (wpAny_holding (wpAny_bind (L0.at (wpAny_bind (L1.at ?_))))))
  dsimp only
  rw [if_neg (by simp [onTheHeap]; try decide)]
  unfold getAttrByItsOwn
  have f3 := PySem.F.excAttr_ValueError.ga.bind (.ref x)
  refine wpAny_bind ?_
  unfold hookBefore
  rw [if_pos (by rfl)]
  refine L2.at ?_
  refine wpAny_bind (wpAny_attempt (wpAny_holding ?_))
  unfold callGetattribute
  rw [if_neg (by cases expr <;> simp [onTheHeap])]
  unfold boundAndCalled
  rw [f3]
  refine wpAny_bind (wpAny_pure ?_)
  have t2 : Looks (model prog w) hh' (isInstance (.ref x) (.type "BaseException")) true := L0.andThen L4
  show wpAny _ _ (call (.builtin "BaseException.__getattribute__") [.ref x, .str name t] []) _ _ _
  refine wpAny_call (codeAny_call_builtin PySem.F.excAttr_ValueError.ga.plain PySem.F.entry_bexc_ga (@check_slot (model prog w) _ _ _ "BaseException.__getattribute__" "BaseException" "__getattribute__" (.ref x) [.str name t] [] _ (by decide +kernel) (by decide +kernel) t2 (PySem.F.args_bexc_ga _ _) ?_))
  show wpAny _ _ (Builtin.«object.__getattribute__» ⟨[.ref x, .str name t], []⟩) _ _ _
  unfold Builtin.«object.__getattribute__»
  refine wpAny_bind (wpAny_pure (wpAny_bind (wpAny_pure (wpAny_bind (L0.at (wpAny_bind (L3.at ?_)))))))
  refine wpAny_pure ?_
  show wpAny _ _ (handedOut v) _ _ _
  rw [handedOut_of hh]
  exact wpAny_pure h

variable {h₀ : Heap} {L dx : Addr} {m : Str → Option Value} {news : List (Addr × Obj)} {vs : Array Value} {es : List DictEntry} {n : Nat} {v : Value}
theorem get_excK (F : Fr h₀ L s.heap m) (X₀ : K.In h₀) (N : News h₀ L s.heap news) (h1 : (x, ox) ∈ news) (hc : ox.cls = .ref C) (hd : ox.dict = some dx) (hf : ox.data = .fields vs) (h2 : (dx, dictOf es n) ∈ news)
    (hga : findIn K (.ref C) "__getattribute__" = some (some (.builtin "BaseException.__getattribute__"))) (hgg : findIn K (.ref C) "__getattr__" = some none) (hsub : subIn K (.ref C) (.type "BaseException") = some true)
    (hh : hasDictIn K C = true) (ha : findIn K (.ref C) name = some none) (hl : getL name es = some (some v)) (hv : handedIn v = true) (h : Q v { s with toks := s.toks + 1 }) : wpAny (model prog w) A (getAttr (.ref x) name expr) Q E s := by
  have I : InstAt s.heap x ox C (some (dictOf es n)) := by
    refine ⟨(N _ h1).1, hc, ?_, ?_⟩
    · obtain ⟨c, d, dt, sl⟩ := ox
      cases hf
      rfl
    · rw [hd]
      exact (N _ h2).1
  exact get_exc (X₀.keeps F.keep) I hga hgg hsub (findObj_own hh ha rfl hl) hv h
end
end Mine
end
-- E4
section
open PySem PySem.W PySem.Calls PyProof.Rows
set_option Elab.async false
set_option maxRecDepth 100000
namespace Mine
section
variable {prog : Program} {w : World} {A : Around} {R : Result → Shared → Prop} {h : Heap} {g : Array GenState} {d : Drawn} {t : Nat} {os : OsState}
variable {nm q : Str} {C N : Addr} {bs bm : List Value} {hdct : Bool} {sn : List Str} {sub : List Value} {ab : Bool} {col : Option Bool} {dd : Option Addr} {k0 k1 k2 k3 k5 : Option Value} {Bn newId inN : String} {bmN : List Value}
theorem exc_new (Fn : ExcBaseFacts Bn newId inN bmN) (hcB : (Value.ref C :: bm).contains (.type Bn) = true) (hcA : (Value.ref C :: bm).contains (.type "AttributeError") = false) (hcN : (Value.ref C :: bm).contains (.type "NameError") = false)
    {rest : List Value} (hC : h.get? C = some (excClassObj nm q C N bs bm hdct sn sub ab col dd k0 k1 k2 k3 k5 newId))
    (hq : R (.ok (.ret (.ref (h.objs.size + 1)))) ⟨(h.push { cls := .type "tuple", data := .seq rest.toArray }).push
      { cls := .ref C, data := .fields #[.ref h.objs.size, .none, .none, .none, .bool false, .none] }, g, d, t, os⟩) (hrest : rest.length ≤ sizeLine) :
    codeAny (model prog w) A (.builtin newId ⟨.ref C :: rest, []⟩) R ⟨h, g, d, t, os⟩ := by
  have hends := Fn.ends
  refine codeAny_builtinAt Fn.entry ?_
  unfold Builtin.«BaseException.__new__»
  refine PySem.wpAt_bind ?_
  show PySem.wpAt _ _ _ (stack >>= _) _ _ _
  refine PySem.wpAt_bind (PySem.wpAt_stack fun p below => wpAt_of_wpAny ?_)
  wp_walk
  refine wpAt_of_wpAny ?_
  rw [Fn.owner]
  repeat (first | with_reducible refine wpAny_madeHere_exc Fn.canon hC ?_ | with_reducible refine wpAny_loadPart_at hC ?_ | (with_reducible refine wpAny_isSubtype_exc hC ?_; first | rw [hcB] | rw [hcA] | rw [hcN]) | wp_step)
  show R _ _
  rw [Heap.size_push]
  exact hq
theorem check_new {M : Model} {E : Value → Shared → Prop} (Fn : ExcBaseFacts Bn newId inN bmN) (hcont : (Value.ref C :: bm).contains (.type Bn) = true) {rest : List Value} {Q : Unit → Shared → Prop} (hC : h.get? C = some (excClassObj nm q C N bs bm hdct sn sub ab col dd k0 k1 k2 k3 k5 newId))
    (hq : Q () ⟨h, g, d, t, os⟩) : wpAny M A (checkBuiltinCall newId ⟨.ref C :: rest, []⟩) Q E ⟨h, g, d, t, os⟩ := by
  have hstar := Fn.noStar
  simp only [checkBuiltinCall, Fn.newKind, Fn.newSplit, Fn.newRow]
  repeat (first | refine wpAny_loadPart_at hC ?_ | (refine wpAny_isSubtype_exc hC ?_; rw [hcont]) | refine wpAny_staticBase_exc hC ?_ | refine wpAny_madeBy_exc hC ?_ | simp only [bne_self_eq_false, Bool.false_eq_true, if_false] | wp_step)
  exact hq
abbrev newTup (rest : List Value) : Obj := { cls := .type "tuple", data := .seq rest.toArray }
abbrev newExc (C t : Addr) : Obj := { cls := .ref C, data := .fields #[.ref t, .none, .none, .none, .bool false, .none] }
theorem make_excT (Fn : ExcBaseFacts Bn newId inN bmN) (hcB : (Value.ref C :: bm).contains (.type Bn) = true) (hcA : (Value.ref C :: bm).contains (.type "AttributeError") = false) (hcN : (Value.ref C :: bm).contains (.type "NameError") = false)
    {rest : List Value} {init : Value} {E : Value → Shared → Prop} {Q : PySem.Fin → Shared → Prop} (hC : h.get? C = some (excClassObj nm q C N bs bm hdct sn sub ab col dd k0 k1 k2 k3 k5 newId)) (hi : Looks (model prog w) h (typeLookup (.ref C) "__init__") (some init))
    (hb : ∀ self, Looks (model prog w) h (bindSpecial init self) (init, [self])) (hrest : rest.length ≤ sizeLine)
    (hq : codeAny (model prog w) A (.call init ⟨.ref (h.objs.size + 1) :: rest, []⟩) (fun r s' => match r with | .ok (.ret v) => v = .none ∧ Q (.done (.ret (.ref (h.objs.size + 1)))) s' | .ok _ => False | .error e => E e s')
      ⟨(h.push (newTup rest)).push (newExc C h.objs.size), g, d, t, os⟩) :
    wpAny (model prog w) A (Builtin.«type.__call__» ⟨.ref C :: rest, []⟩) Q E ⟨h, g, d, t, os⟩ := by
  repeat (first | with_reducible refine wpAny_loadPart_at hC ?_ | with_reducible refine wpAny_madeBy_exc hC ?_ | wp_step)
  refine codeAny_call_builtin_code (Code.quiet_builtin _ Fn.quiet) (check_new Fn hcB hC ?_)
  refine exc_new Fn hcB hcA hcN hC ?_ hrest
  show wpAny _ _ _ _ _ _
  have k : ∀ b o, h.get? b = some o → ((h.push (newTup rest)).push (newExc C h.objs.size)).get? b = some o := fun b o e => Heap.get?_push_of_some _ (Heap.get?_push_of_some _ e)
  have hC₁ := k _ _ hC
  have hget : ((h.push (newTup rest)).push (newExc C h.objs.size)).get? (h.objs.size + 1) = some (newExc C h.objs.size) := by heap_get
  have hcC : (Value.ref C :: bm).contains (.ref C) = true := by simp
  have i1 := hi.keeps k
  have b1 := (hb (.ref (h.objs.size + 1))).keeps k
  unfold isInstance
  repeat (first | with_reducible refine wpAny_loadPart_at hget ?_ | (with_reducible refine wpAny_isSubtype_exc hC₁ ?_; rw [hcC]) | wp_step)
  show wpAny _ _ (typeLookup (.ref C) _) _ _ _
  refine i1.at ?_
  refine wpAny_holding (wpAny_bind (b1.at ?_))
  refine wpAny_bind (wpAny_call (codeAny_mono hq fun r s' z => ?_))
  rcases r with e | (v | _ | _ | _) <;> first | exact z | exact z.elim | skip
  obtain ⟨rfl, z⟩ := z
  exact wpAny_pure (wpAny_pure z)
theorem make_exc (Fn : ExcBaseFacts Bn newId inN bmN) (hcB : (Value.ref C :: bm).contains (.type Bn) = true) (hcA : (Value.ref C :: bm).contains (.type "AttributeError") = false) (hcN : (Value.ref C :: bm).contains (.type "NameError") = false)
    {rest : List Value} {init : Value} {E : Value → Shared → Prop} {Q : Value → Shared → Prop} (hC : h.get? C = some (excClassObj nm q C N bs bm hdct sn sub ab col dd k0 k1 k2 k3 k5 newId)) (hi : Looks (model prog w) h (typeLookup (.ref C) "__init__") (some init))
    (hb : ∀ self, Looks (model prog w) h (bindSpecial init self) (init, [self])) (hrest : rest.length ≤ sizeLine)
    (hq : codeAny (model prog w) (A.under (.builtin "type.__call__" ⟨.ref C :: rest, []⟩)) (.call init ⟨.ref (h.objs.size + 1) :: rest, []⟩) (fun r s' => match r with | .ok (.ret v) => v = .none ∧ Q (.ref (h.objs.size + 1)) s' | .ok _ => False | .error e => E e s')
      ⟨(h.push (newTup rest)).push (newExc C h.objs.size), g, d, t, os⟩) :
    wpAny (model prog w) A (call (.ref C) rest []) Q E ⟨h, g, d, t, os⟩ := by
  have f1 := tc_lookup
  have f2 := tc_bind (.ref C)
  have hT : (⟨h, g, d, t, os⟩ : Shared).TypeIs (.ref C) "type" := ⟨_, hC, rfl⟩
  refine wpAny_call (codeAny_of_tree ?_)
  show wpAny _ _ (callAny (.ref C) _) _ _ _
  repeat (any_goals (first | assumption | with_reducible refine wpAny_loadPart_at hC ?_ | wp_step))
  refine ⟨rfl, ?_⟩
  refine codeAny_call_builtin_at (Code.quiet_builtin _ (by decide +kernel)) entry_typeCall (wpAny_check_type_call_sub hC (make_excT Fn hcB hcA hcN hC hi hb hrest ?_))
  exact hq
end
end Mine
end
-- E5
section
open PySem PySem.W PySem.Calls PyProof.Rows
set_option Elab.async false
set_option maxRecDepth 100000
namespace Mine
section
variable {prog : Program} {w : World} {A : Around} {E : Value → Shared → Prop} {s : Shared} {K : Frag} {C L : Addr} {h₀ : Heap} {m : Str → Option Value} {news : List (Addr × Obj)} {Q : Value → Shared → Prop}
variable {nm q : Str} {Nn : Addr} {bs bm : List Value} {hdct : Bool} {sn : List Str} {sub : List Value} {ab : Bool} {col : Option Bool} {dd : Option Addr} {k0 k1 k2 k3 k5 : Option Value} {fI : Addr}
theorem call_excK {rest : List Value} (F : Fr h₀ L s.heap m) (X₀ : K.In h₀) (N : News h₀ L s.heap news) (hC : K.lookup C = some (excClassObj nm q C Nn bs bm hdct sn sub ab col dd k0 k1 k2 k3 k5 "Exception.__new__"))
    (hcB : (Value.ref C :: bm).contains (.type "Exception") = true) (hcA : (Value.ref C :: bm).contains (.type "AttributeError") = false) (hcN : (Value.ref C :: bm).contains (.type "NameError") = false)
    (hi : findIn K (.ref C) "__init__" = some (some (.ref fI))) (hf : isFn K (.ref fI) = true) (hrest : rest.length ≤ 100)
    (h : ∀ e t h', Fr h₀ L h' m → News h₀ L h' ((e, newExc C t) :: (t, newTup rest) :: news) → (∀ p ∈ news, p.1 < t) → t < e →
      codeAny (model prog w) (A.under (.builtin "type.__call__" ⟨.ref C :: rest, []⟩)) (.call (.ref fI) ⟨.ref e :: rest, []⟩) (fun r s' => match r with | .ok (.ret v) => v = .none ∧ Q (.ref e) s' | .ok _ => False | .error e => E e s') { s with heap := h' }) :
    wpAny (model prog w) A (call (.ref C) rest []) Q E s := by
  obtain ⟨hh, g, d, t, os⟩ := s
  have X := X₀.keeps F.keep
  refine make_exc PySem.F.excBase_Exception hcB hcA hcN (X _ _ hC) (looks_findIn X hi) (fun self => bind_fn X self (beq_iff_eq.mp hf)) (by rw [sizeLine_eq]; omega) ?_
  have N' := (N.push F (newTup rest)).push (F.push _) (newExc C hh.objs.size)
  rw [Heap.size_push] at N'
  exact h _ hh.objs.size _ ((F.push _).push _) N' (fun p hp => Heap.lt_size (N p hp).1) (Nat.lt_succ_self _)
end
end Mine
end
-- E6
section
open PySem PySem.W PySem.Calls PyProof.Rows Builtin Builtin.ObjectAttr
set_option Elab.async false
set_option maxRecDepth 100000
namespace Mine
def tailExc : List Value → Bool
  | .ref _ :: r => tailExc r
  | l => l == [.type "Exception", .type "BaseException", .type "object"]
theorem tail_is {l : List Value} (h : ∀ c r, l ≠ .ref c :: r) (e : tailExc l = true) : l = [.type "Exception", .type "BaseException", .type "object"] := by
  unfold tailExc at e
  split at e
  · exact absurd rfl (h _ _)
  · exact beq_iff_eq.mp e
theorem refuse_exc (self : Value) : ∀ {l : List Value}, tailExc l = true → refuseLoop self "__setattr__" l = pure ()
  | [], e => by cases e
  | c :: r, e => by
    by_cases h : ∃ a, c = .ref a
    · obtain ⟨a, rfl⟩ := h
      rw [refuseLoop_ref]
      exact refuse_exc self (by unfold tailExc at e; exact e)
    · rw [tail_is (fun a r' q => h ⟨a, (List.cons.inj q).1⟩) e]
      exact PySem.F.store_Exception.passes self
theorem exc_has : ∀ {l : List Value}, tailExc l = true → l.contains (.type "object") = true
  | [], e => by cases e
  | c :: r, e => by
    by_cases h : ∃ a, c = .ref a
    · obtain ⟨a, rfl⟩ := h
      rw [List.contains_cons, exc_has (l := r) (by unfold tailExc at e; exact e), Bool.or_true]
    · rw [tail_is (fun a r' q => h ⟨a, (List.cons.inj q).1⟩) e]
      exact PySem.F.store_Exception.hasOwner
section
variable {prog : Program} {w : World} {A : Around} {E : Value → Shared → Prop} {s : Shared} {K : Frag} {C L : Addr} {h₀ : Heap} {m : Str → Option Value} {news : List (Addr × Obj)}
variable {nm q : Str} {Nn : Addr} {bs bm : List Value} {hdct : Bool} {sn : List Str} {sub : List Value} {ab : Bool} {col : Option Bool} {dd : Option Addr} {k0 k1 k2 k3 k5 : Option Value} {newId : String}
theorem check_initE {M : Model} {h : Heap} {g : Array GenState} {d : Drawn} {t : Nat} {os : OsState} {e : Addr} {oe : Obj} {rest : List Value} {Q : Unit → Shared → Prop} (hC : h.get? C = some (excClassObj nm q C Nn bs bm hdct sn sub ab col dd k0 k1 k2 k3 k5 newId))
    (hcB : (Value.ref C :: bm).contains (.type "Exception") = true) (he : h.get? e = some oe) (hcls : oe.cls = .ref C) (hq : Q () ⟨h, g, d, t, os⟩) :
    wpAny M A (checkBuiltinCall "Exception.__init__" ⟨.ref e :: rest, []⟩) Q E ⟨h, g, d, t, os⟩ := by
  have F := PySem.F.excBase_Exception
  have hshort := F.noStar
  simp only [checkBuiltinCall, F.initKind, F.initSplit, F.initRow]
  repeat (first | (with_reducible refine wpAny_loadPart_at he ?_; rw [hcls]) | with_reducible refine wpAny_loadPart_at hC ?_ | (with_reducible refine wpAny_isSubtype_exc hC ?_; rw [hcB]) | wp_step)
  refine wpAny_onRaise ?_
  rw [show ∀ (a b : String) (n : Nat), Bind.check ⟨.positional, "*", "Exception", .self, [⟨"args", .varPos, false⟩]⟩ a b n (List.map (fun x => x.fst) ({ pos := Value.ref e :: rest } : Args).kw) = pure () from
    fun a b n => check_star_args _ _ _ _ _ _]
  exact wpAny_pure hq
theorem exc_initK {e t : Addr} {rest : List Value} {Q : Value → Shared → Prop} (F : Fr h₀ L s.heap m) (X₀ : K.In h₀) (N : News h₀ L s.heap ((e, newExc C t) :: news)) (hne : ∀ p ∈ news, p.1 ≠ e) (hC : K.lookup C = some (excClassObj nm q C Nn bs bm hdct sn sub ab col dd k0 k1 k2 k3 k5 newId)) (hcB : (Value.ref C :: bm).contains (.type "Exception") = true) (hrest : rest.length ≤ 100)
    (h : ∀ b h', Fr h₀ L h' m → News h₀ L h' ((e, newExc C b) :: (b, newTup rest) :: news) → (∀ p ∈ ((b, newTup rest) :: news : List (Addr × Obj)), p.1 ≠ e) → Q .none { s with heap := h' }) :
    wpAny (model prog w) A (call (.builtin "Exception.__init__") (.ref e :: rest) []) Q E s := by
  obtain ⟨hh, g, d, tk, os⟩ := s
  have he := (N (e, _) (.head _)).1
  dsimp only at he F N
  have FC := PySem.F.excBase_Exception
  have hsz : rest.length ≤ sizeLine := by rw [sizeLine_eq]; omega
  refine wpAny_call (codeAny_call_builtin FC.init.plain FC.initEntry (check_initE ((X₀.keeps F.keep) _ _ hC) hcB he rfl ?_))
  wp_walk
  have N1 := N.push F (newTup rest)
  have F1 : Fr h₀ L (hh.push (newTup rest)) m := F.push _
  have hlt := Heap.lt_size he
  obtain ⟨U1, U2⟩ := news_upd (pre := [(hh.objs.size, newTup rest)]) (post := news) (d := e) (o := newExc C t) (o' := newExc C hh.objs.size) (f := Obj.mapFields (·.setIfInBounds 0 (.ref hh.objs.size))) F1 N1 (fun p hp => by
    rcases List.mem_cons.mp hp with rfl | hp
    · exact Nat.ne_of_gt hlt
    · cases hp) hne rfl rfl
  refine h hh.objs.size _ U1 (fun q hq => U2 q ?_) (List.forall_mem_cons.mpr ⟨Nat.ne_of_gt hlt, hne⟩)
  rcases List.mem_cons.mp hq with rfl | hq
  · exact .tail _ (.head _)
  · rcases List.mem_cons.mp hq with rfl | hq
    · exact .head _
    · exact .tail _ (.tail _ hq)
end
end Mine
end
-- E7
section
open PySem PySem.W PySem.Calls PyProof.Rows Builtin Builtin.ObjectAttr
set_option Elab.async false
set_option maxRecDepth 100000
namespace Mine
def overExc (K : Frag) (C : Addr) : Bool := (clsIn K C).any fun cd => tailExc cd.mro && cd.hasDict
theorem putL_new {name : Str} {k : Int} {key v : Value} : ∀ {es : List DictEntry}, es.any (·.key.isStr name) = false → putL name k key v es = es ++ [⟨k, key, v⟩]
  | [], _ => rfl
  | e :: r, h => by
    rw [List.any_cons, Bool.or_eq_false_iff] at h
    rw [putL, h.1, putL_new h.2]; rfl
section
variable {prog : Program} {w : World} {A : Around} {E : Value → Shared → Prop} {s : Shared} {K : Frag} {C L x : Addr} {h₀ : Heap} {m : Str → Option Value} {news : List (Addr × Obj)} {R : Result → Shared → Prop}
theorem exc_setattr {ox : Obj} {od : Option Obj} {name : Str} {tk : Tok} {v : Value} (X : K.In s.heap) (I : InstAt s.heap x ox C od) (hp : overExc K C = true) (ha : findIn K (.ref C) name = some none)
    (h : ∀ cd, clsIn K C = some cd → cd.hasDict = true → ∀ B, wpAny (model prog w) A.in1 (instanceDict x true >>= fun r => match r with | some d => storeInDict d (.str name tk) name v | none => noDictFor (.ref x) (.ref C) name B)
      (fun fin s' => match fin with | .done f => R (.ok f) s' | .again c' => c'.quiet = true ∧ codeAny (model prog w) A c' R s') (fun e s' => R (.error e) s') s) :
    codeAny (model prog w) A (.call (.builtin "object.__setattr__") ⟨[.ref x, .str name tk, v], []⟩) R s := by
  have SF := PySem.F.store_Exception
  obtain ⟨cd, hc, ho⟩ := any_some hp
  obtain ⟨ho, hd⟩ := Bool.and_eq_true_iff.mp ho
  have ne : cd.mro.isEmpty = false := by cases q : cd.mro with | nil => rw [q] at ho; cases ho | cons _ _ => rfl
  have sub : Looks (model prog w) s.heap (isInstance (.ref x) (.type "object")) true := I.type.andThen (looks_mroIn X (by unfold mroIn; rw [hc, Option.bind_some, if_neg (by rw [ne]; decide), exc_has ho]))
  refine codeAny_call_builtin SF.slot.plain SF.entry (@check_slot (model prog w) _ _ s "object.__setattr__" "object" "__setattr__" (.ref x) [.str name tk, v] [] _ SF.kind SF.split sub (SF.args (.ref x) (.str name tk) v) ?_)
  have hm : Looks (model prog w) s.heap (mroOf (.ref C)) cd.mro := (looks_clsIn X hc).andThen .now
  rw [osa_eq, refuse_eq]
  refine wpAny_bind (wpAny_bind (I.type.here (wpAny_bind (hm.here ?_))))
  rw [refuse_exc _ ho]
  refine wpAny_pure (wpAny_bind (I.type.here (wpAny_bind ((looks_findIn X ha).here ?_))))
  show wpAny _ _ (pure none >>= _) _ _ _
  refine wpAny_bind (wpAny_pure ?_)
  dsimp only
  unfold storeInOwnDict
  exact h cd hc hd _
theorem nsPut_at {a : Addr} {es es' : List DictEntry} {n n' : Nat} {name : Str} {v : Value} {Q : PySem.Fin → Shared → Prop} {tk : Tok} (D : s.heap.get? a = some (dictOf es n)) (hl : (lookIn name (dictOf es n)).isSome = true)
    (e : (putL name (PyData.keyHash w.params name) (.str name s.toks) v es, putN name es n) = (es', n')) (hz : es'.length ≤ 1000)
    (h : Q (.done (.ret .none)) { s with heap := s.heap.update a (Obj.putName name (PyData.keyHash w.params name) (.str name s.toks) v), toks := s.toks + 1 }) : 
    wpAny (model prog w) A (storeInDict a (.str name tk) name v) Q E s := by
  obtain ⟨e1, e2⟩ := Prod.mk.inj e
  have hp : Obj.putName name (PyData.keyHash w.params name) (.str name s.toks) v (dictOf es n) = dictOf es' n' := by rw [putName_dict, e1, e2]
  have D' : (s.heap.update a (Obj.putName name (PyData.keyHash w.params name) (.str name s.toks) v)).get? a = some (dictOf es' n') := by
    have := Heap.get?_update_self (Obj.putName name (PyData.keyHash w.params name) (.str name s.toks) v) D (by rw [hp]; rfl)
    rw [this, hp]
  unfold storeInDict newKeyGuard
  refine wpAny_bind (wpAny_pure (wpAny_bind ?_))
  unfold nsSet
  refine wpAny_bind (wpAny_bind (wpAny_askSetting (wpAny_pure (wpAny_bind (wpAny_mkText (wpAny_bind (wpAny_loadPart D ?_)))))))
  unfold lookIn at hl
  split at hl
  · rename_i es₀ n₀ q
    cases q
    dsimp only
    have c : (!(es.toArray).any (·.key.isStr name) && (es.toArray).any (·.refKey)) = false := by
      rw [← Array.any_toList, ← Array.any_toList]
      split at hl
      · rename_i en he
        rw [List.any_eq_true.mpr ⟨en, List.mem_of_find?_eq_some he, List.find?_some he⟩]; rfl
      · split at hl
        · cases hl
        · rename_i z; rw [Bool.not_eq_true] at z; rw [z, Bool.and_false]
    rw [aRefKeyMayBeTheName_at, c]
    refine wpAny_updatePart D ?_
    refine wpAny_bind (wpAny_lookBehind D' (pastItsLine_dict (by rw [List.size_toArray, sizeLine_eq]; omega)) ?_)
    exact wpAny_pure h
  · rename_i z; exact absurd rfl (z _ _)
theorem exc_setNew {e b : Addr} {name : Str} {v : Value} {Q : Unit → Shared → Prop} (F : Fr h₀ L s.heap m) (X₀ : K.In h₀) (N : News h₀ L s.heap ((e, newExc C b) :: news)) (hne : ∀ p ∈ news, p.1 ≠ e) (hp : overExc K C = true) (ha : findIn K (.ref C) name = some none)
    (hs : findIn K (.ref C) "__setattr__" = some (some (.builtin "object.__setattr__")))
    (h : ∀ a h' h1 t1 t', Fr h₀ L h' m → News h₀ L h' ((e, excO C b a) :: (a, dictOf [⟨h1, .str name t1, v⟩] 1) :: news) → e ≠ a → (∀ p ∈ news, p.1 ≠ a) → Q () { s with heap := h', toks := t' }) :
    wpAny (model prog w) A (setAttr (.ref e) name v) Q E s := by
  obtain ⟨hh, g, d, tk, os⟩ := s
  have he := (N (e, _) (.head _)).1
  dsimp only at he F N
  have X := X₀.keeps F.keep
  have I : InstAt hh e (newExc C b) C none := ⟨he, rfl, rfl, trivial⟩
  refine set_plain X I hs (exc_setattr X I hp ha fun cd hc hd B => ?_)
  have hlt := Heap.lt_size he
  have N1 := N.push F emptyDict
  have F1 : Fr h₀ L (hh.push emptyDict) m := F.push _
  obtain ⟨F2, N2⟩ := news_upd (pre := [(hh.objs.size, emptyDict)]) (post := news) (d := e) (o := newExc C b) (o' := excO C b hh.objs.size) (f := fun o => { o with dict := some hh.objs.size }) F1 N1 (fun p hp => by
    rcases List.mem_cons.mp hp with rfl | hp
    · exact Nat.ne_of_gt hlt
    · cases hp) hne rfl rfl
  refine wpAny_bind ?_
  unfold instanceDict
  refine wpAny_bind (wpAny_loadPart he ?_)
  dsimp only
  refine wpAny_bind ((looks_clsIn X hc).here ?_)
  rw [hd]
  simp only [Bool.not_true, Bool.false_eq_true, if_false]
  have hth : typeHasDict (.ref C) = true := rfl
  rw [hth]
  simp only [Bool.not_true, Bool.or_false, Bool.false_eq_true, if_false]
  refine wpAny_bind (wpAny_alloc (wpAny_bind (wpAny_update' (Heap.get?_push_of_some emptyDict he) ?_)))
  unfold dictMade
  dsimp only
  refine wpAny_pure ?_
  dsimp only
  have N3 : News h₀ L ((hh.push emptyDict).update e fun o => { o with dict := some hh.objs.size }) ([] ++ (hh.objs.size, dictOf [] 0) :: (e, excO C b hh.objs.size) :: news) := N2
  have hE : Obj.putName name (PyData.keyHash w.params name) (.str name (tk + 1)) v (dictOf [] 0) = dictOf [⟨PyData.keyHash w.params name, .str name (tk + 1), v⟩] 1 := by rw [putName_dict]; rfl
  obtain ⟨F4, N4⟩ := news_upd (f := Obj.putName name (PyData.keyHash w.params name) (.str name (tk + 1)) v) F2 N3 (fun p hp => nomatch hp) (fun p hp => by
    rcases List.mem_cons.mp hp with rfl | hp
    · exact Nat.ne_of_lt hlt
    · exact Nat.ne_of_lt (Heap.lt_size (N p (.tail _ hp)).1)) hE rfl
  refine nsPut_at (es := []) (n := 0) (es' := [⟨PyData.keyHash w.params name, .str name (tk + 1), v⟩]) (n' := 1) (N3 _ (.head _)).1 rfl rfl (by simp) ?_
  refine h hh.objs.size _ (PyData.keyHash w.params name) (tk + 1) _ F4 (fun q hq => N4 q ?_) (Nat.ne_of_lt hlt) (fun p hp => Nat.ne_of_lt (Heap.lt_size (N p (.tail _ hp)).1))
  rcases List.mem_cons.mp hq with rfl | hq
  · exact .tail _ (.head _)
  · rcases List.mem_cons.mp hq with rfl | hq
    · exact .head _
    · exact .tail _ (.tail _ hq)
theorem exc_setOld {e a b : Addr} {name : Str} {v : Value} {Q : Unit → Shared → Prop} {es : List DictEntry} {n : Nat} (F : Fr h₀ L s.heap m) (X₀ : K.In h₀) (N : News h₀ L s.heap ((e, excO C b a) :: (a, dictOf es n) :: news)) (hea : e ≠ a) (hne : ∀ p ∈ news, p.1 ≠ a) (hp : overExc K C = true) (ha : findIn K (.ref C) name = some none)
    (hs : findIn K (.ref C) "__setattr__" = some (some (.builtin "object.__setattr__"))) (hno : es.any (·.key.isStr name) = false) (hl : getL name es = some none) (hz : es.length ≤ 100)
    (h : ∀ h' h1 t1 t', Fr h₀ L h' m → News h₀ L h' ((e, excO C b a) :: (a, dictOf (es ++ [⟨h1, .str name t1, v⟩]) (n + 1)) :: news) → Q () { s with heap := h', toks := t' }) :
    wpAny (model prog w) A (setAttr (.ref e) name v) Q E s := by
  obtain ⟨hh, g, d, tk, os⟩ := s
  have he := (N (e, _) (.head _)).1
  have hd' := (N (a, _) (.tail _ (.head _))).1
  dsimp only at he F N hd'
  have X := X₀.keeps F.keep
  have I : InstAt hh e (excO C b a) C (some (dictOf es n)) := ⟨he, rfl, rfl, hd'⟩
  refine set_plain X I hs (exc_setattr X I hp ha fun cd hc hd B => ?_)
  refine wpAny_bind ?_
  unfold instanceDict
  refine wpAny_bind (wpAny_loadPart he ?_)
  dsimp only
  refine wpAny_bind ((looks_clsIn X hc).here ?_)
  rw [hd]
  simp only [Bool.not_true, Bool.false_eq_true, if_false]
  refine wpAny_pure ?_
  dsimp only
  have hput : (putL name (PyData.keyHash w.params name) (.str name (tk + 1)) v es, putN name es n) = (es ++ [⟨PyData.keyHash w.params name, .str name (tk + 1), v⟩], n + 1) := by
    rw [putL_new hno]; unfold putN; rw [hno]; rfl
  have N3 : News h₀ L hh ([(e, excO C b a)] ++ (a, dictOf es n) :: news) := N
  obtain ⟨e1, e2⟩ := Prod.mk.inj hput
  have hE : Obj.putName name (PyData.keyHash w.params name) (.str name (tk + 1)) v (dictOf es n) = dictOf (es ++ [⟨PyData.keyHash w.params name, .str name (tk + 1), v⟩]) (n + 1) := by rw [putName_dict, e1, e2]
  obtain ⟨F4, N4⟩ := news_upd (f := Obj.putName name (PyData.keyHash w.params name) (.str name (tk + 1)) v) F N3 (fun p hp => by
    rcases List.mem_cons.mp hp with rfl | hp
    · exact hea
    · cases hp) hne hE rfl
  refine nsPut_at hd' (by rw [lookIn_dict, hl]; rfl) hput (by rw [List.length_append, List.length_cons, List.length_nil]; omega) ?_
  exact h _ _ _ _ F4 N4
end
end Mine
end
-- C3
section
open PySem PySem.W PySem.Calls PyProof.Rows
set_option pp.deepTerms false
set_option pp.deepTerms.threshold 6
set_option pp.maxSteps 20000
set_option format.width 180
set_option Elab.async false
set_option maxRecDepth 100000
namespace Mine
theorem reg3 : PySem.Challenge.rw_og0089_02 = PySem.Challenge.rw_og0089_02 ∧ frag.heap_1 = frag.heap_1 := by k_fill; exact ⟨rfl, rfl⟩
theorem excCls60 {w : World} {h : Heap} (X : (frag.heap_1 w.params).In h) : ExcCls (model prog w) h 60 :=
  ⟨.of_peek X (by kernel_rfl), .of_peek X (by kernel_rfl), .of_peek X (by kernel_rfl), .of_peek X (by kernel_rfl), .of_peek X (by kernel_rfl)⟩
abbrev tup1 (v : Value) : Obj := { cls := .type "tuple", data := .seq #[v] }
abbrev faultD (h1 h2 : Int) (t1 t2 : Tok) (v u : Value) : Obj := dictOf [⟨h1, .str "what" t1, v⟩, ⟨h2, .str "at" t2, u⟩] 2
theorem sub4 {h₀ h : Heap} {L : Addr} {a b c d : Addr × Obj} {news : List (Addr × Obj)} (N : News h₀ L h (a :: b :: c :: d :: news)) : News h₀ L h (a :: b :: c :: news) := fun q hq => N q (by
  rcases List.mem_cons.mp hq with rfl | hq
  · exact .head _
  · rcases List.mem_cons.mp hq with rfl | hq
    · exact .tail _ (.head _)
    · rcases List.mem_cons.mp hq with rfl | hq
      · exact .tail _ (.tail _ (.head _))
      · exact .tail _ (.tail _ (.tail _ (.tail _ hq))))
theorem ne3 {p q r : Addr × Obj} {news : List (Addr × Obj)} {e : Addr} (h1 : e ≠ p.1) (h2 : ∀ x ∈ (q :: r :: news), x.1 ≠ e) : ∀ x ∈ (p :: q :: news), x.1 ≠ e := fun x hx => by
  rcases List.mem_cons.mp hx with rfl | hx
  · exact Ne.symm h1
  · rcases List.mem_cons.mp hx with rfl | hx
    · exact h2 _ (.head _)
    · exact h2 _ (.tail _ (.tail _ hx))
local macro_rules | `(tactic| walk_at "getMethod type:Exception") => `(tactic| (k_here; refine' method_type ?F ?X ?m (by decide +kernel) ?e ?h ?_; (case F => k_asm); (case X => k_asm); (case m => (first | rfl | kernel_rfl)); (case e => k_dflt k_is); (case h => k_handed)))
local macro_rules | `(tactic| walk_at "call builtin:Exception.__init__") => `(tactic| (k_here; k_dflt (refine' exc_initK ?k1 ?k2 ?k3 ?k4 ?k5 ?k6 ?k7 ?_; (case k1 => k_asm); (case k2 => k_asm); (case k3 => k_asm); (case k4 => assumption); (case k5 => k_is); (case k6 => decide +kernel); (case k7 => (simp only [List.length_cons, List.length_nil]; omega))); k_whole; intro b' h' F' N' n'))
local macro_rules | `(tactic| walk_at "setAttr ref") => `(tactic| (k_here; first
  | (k_dflt (refine' exc_setNew ?k1 ?k2 ?k3 ?k4 ?k5 ?k6 ?k7 ?_; (case k1 => k_asm); (case k2 => k_asm); (case k3 => k_asm); (case k4 => assumption); (case k5 => kernel_rfl); (case k6 => k_is); (case k7 => k_is)); k_whole; intro a' h' h1' t1' tk' F' N' n1' n2')
  | (k_dflt (refine' exc_setOld ?k1 ?k2 ?k3 ?k4 ?k5 ?k6 ?k7 ?k8 ?k9 ?k10 ?k11 ?_; (case k1 => k_asm); (case k2 => k_asm); (case k3 => k_asm); (case k4 => assumption); (case k5 => assumption); (case k6 => kernel_rfl); (case k7 => k_is); (case k8 => k_is); (case k9 => rfl); (case k10 => k_get); (case k11 => (simp only [List.length_cons, List.length_nil]; omega))); k_whole; intro h' h1' t1' tk' F' N')))
section
variable {w : World} {mean : ExcName → Option Value} {mg mb : PySem.Str → Option Value} {hd : Option Value} {dp un : Nat} {gd : Option (List Code)} {cn : PySem.Str} {cs : Scope} {a : Addr} {ccd : Value} {cl : List (PySem.Str × Addr)} {outer : List Env} {A₀ : Around} {base h₀ : Heap} {L : Addr} {m : PySem.Str → Option Value} {news : List (Addr × Obj)} {s : Shared}
set_option maxHeartbeats 4000000 in
theorem c_newFault {x : PySem.Str} {tk : Tok} {tp : Addr} {Q E : Value → Shared → Prop}
    (B : Below A₀ base outer h₀) (F : Fr h₀ L s.heap m) (X : (frag.heap_1 w.params).In h₀) (N : News h₀ L s.heap news) (T : Top view LS mean mg mb h₀) (hk : cs.kind = .function)
    (hdp : dp + 6 < recursionLimit) (hun : un + 20 < cLine) 
    (ret : ∀ e a b h1 h2 t1 t2 h' t', Fr h₀ L h' m → News h₀ L h' ((e, excO 60 b a) :: (a, faultD h1 h2 t1 t2 (.str x tk) (.ref tp)) :: (b, tup1 (.str x tk)) :: news) →
      (∀ q ∈ ((a, faultD h1 h2 t1 t2 (.str x tk) (.ref tp)) :: (b, tup1 (.str x tk)) :: news : List (Addr × Obj)), q.1 ≠ e) → Q (.ref e) { s with heap := h', toks := t' }) :
    wpAny (model prog w) (Ar hd dp un gd cn cs L a ccd cl outer) (call (.ref 60) [.str x tk, .ref tp] []) Q E s := by
  w_on
  k_dflt (refine' call_excK ?k1 ?k2 ?k3 ?k4 ?k5 ?k6 ?k7 ?k8 ?k9 ?k10 ?_; (case k1 => k_asm); (case k2 => k_asm); (case k3 => k_asm); (case k4 => k_is); (case k5 => decide +kernel); (case k6 => decide +kernel); (case k7 => decide +kernel); (case k8 => k_is); (case k9 => k_is); (case k10 => (simp only [List.length_cons, List.length_nil]; omega)))
  intro e t h' F' N' l1 l2
  have n0 : ∀ p ∈ ((t, newTup [.str x tk, .ref tp]) :: news : List (Addr × Obj)), p.1 ≠ e := List.forall_mem_cons.mpr ⟨Nat.ne_of_lt l2, fun p hp => Nat.ne_of_lt (Nat.lt_trans (l1 p hp) l2)⟩
  k_dflt (refine' code_def ?k1 ?k2 ?k3 ?k4 ?k5 ?kA ?kF ?kK ?k6 ?k7 ?k8 ?k9 ?kB ?_ ?c2 ?c3 ?c4 ?c5; (case kA => exact rfl); (case kF => exact rfl); (case kK => assumption); (case k1 => k_asm); (case k2 => k_asm); (case k3 => k_asm); (case k4 => k_asm); (case k5 => k_asm); (case k6 => k_is); (case k7 => k_is); (case k8 => ktr_room); (case k9 => exact binds_K (by k_in) rfl (by k_is) rfl rfl rfl); (case c5 => decide); (case kB => exact locs rfl); (case c2 => exact rfl); (case c3 => exact rfl); (case c4 => exact rfl); k_whole; intro g' L' h' FG' F' N' B' X' T'; (try dsimp only); (try k_fold))
  k_steps
  all_goals (rename News _ _ _ _ => kN9; exact ret e _ _ _ _ _ _ _ _ (by assumption) (sub4 kN9) (ne3 (by assumption) (by assumption)))
end
end Mine
end
-- C2e
section
open PySem PySem.W PySem.Calls PyProof.Rows
set_option pp.deepTerms false
set_option pp.deepTerms.threshold 6
set_option pp.maxSteps 20000
set_option format.width 180
set_option Elab.async false
set_option maxRecDepth 100000
namespace Mine
theorem reg6 : PySem.Challenge.rw_og0089_02 = PySem.Challenge.rw_og0089_02 ∧ frag.heap_1 = frag.heap_1 := by k_fill; exact ⟨rfl, rfl⟩
local macro_rules | `(tactic| k_room) => `(tactic| ((try simp only [depth_under_make, depth_under_kw, depth_in1, depth_deeper]); (try dsimp only [Ar, Around.mark, Around.deeper]); omega))
local macro_rules | `(tactic| walk_at "call ref") => `(tactic| (k_here; k_dflt (refine' c_isReserved ?k1 ?k2 ?k3 ?k4 ?k5 ?k6 ?k7 ?k8 ?k9 _ ?kb ?_; (case kb => assumption); (case k1 => k_asm); (case k2 => k_asm); (case k3 => k_in); (case k4 => k_asm); (case k5 => k_asm); (case k6 => first | rfl | assumption); (case k7 => ktr_room); (case k8 => ktr_units); (case k9 => first | assumption | omega); intro h' tk' F' N')))
local macro_rules | `(tactic| walk_at "call ref") => `(tactic| (k_here; k_dflt (refine' c_newFault ?k1 ?k2 ?k3 ?k4 ?k5 ?k6 ?k7 ?k8 ?_; (case k1 => k_asm); (case k2 => k_asm); (case k3 => k_in); (case k4 => k_asm); (case k5 => k_asm); (case k6 => first | rfl | assumption); (case k7 => ktr_room); (case k8 => ktr_units); intro e' a' b' h1' h2' t1' t2' h' tk' F' N' n')))
local macro_rules | `(tactic| walk_at "truthy ref") => `(tactic| (k_here; (with_reducible show wpAny _ _ (truthy (Value.ref _)) _ _ _); k_dflt (refine' kgr_truthy ?N ?m ?c ?d ?f ?_; (case N => k_asm); (case m => k_mem); (case c => rfl); (case d => rfl); (case f => (simp only [List.length_cons, List.length_nil]; omega))); (try simp only [List.isEmpty_cons, List.isEmpty_nil, Bool.not_false, Bool.not_true])))
local macro_rules | `(tactic| walk_at "exec Raise some none") => `(tactic| (k_here; k_dflt (refine raise_made (C := 60) (by rfl) ?_)))
local macro_rules | `(tactic| walk_at "RaisesMade") => `(tactic| (k_dflt (refine ⟨_, _, _, rfl, (News.get (by k_asm) (by k_mem)), rfl, rfl, rfl, excCls60 (by k_in), ?_⟩)))
local macro_rules | `(tactic| walk_at "leaving ref") => `(tactic| (k_here; first
  | (k_dflt (refine' leaveD_first ?k1 ?k2 ?k3 ?k4 ?_; (case k1 => assumption); (case k2 => assumption); (case k3 => k_asm); (case k4 => k_asm)); k_whole; intro h' R' U'; (try dsimp only at R' U' ⊢))
  | (k_dflt (refine' leaveD_on ?k1 ?k2 ?k3 ?k4 ?_; (case k3 => assumption); (case k1 => assumption); (case k4 => assumption); (case k2 => assumption)); k_whole; intro h' R' U'; (try dsimp only at R' U' ⊢))))
local macro_rules | `(tactic| walk_at "noteFrame ref") => `(tactic| (k_here; k_dflt (refine' caughtD (KF := frag.heap_1 _) ?R ?F ?K ?U ?XB ?TB ?ex ?X ?_; (case R => assumption); (case F => assumption); (case K => assumption); (case U => assumption); (case XB => assumption); (case TB => assumption); (case ex => k_is); (case X => exact excCls60 (by assumption))); k_whole; intro h' g' oe' vs' tk' T' F' N' c' d' s' B' X' P'))
local macro_rules | `(tactic| walk_at "getAttr ref") => `(tactic| (k_here; k_dflt (refine' get_excK ?k1 ?k2 ?k3 ?k4 ?k5 ?k6 ?k7 ?k8 ?k9 ?k10 ?k11 ?k12 ?k13 ?k14 ?k15 ?_; (case k1 => k_asm); (case k2 => k_asm); (case k3 => k_asm); (case k4 => k_mem); (case k5 => assumption); (case k6 => assumption); (case k7 => assumption); (case k8 => k_mem); (case k9 => k_is); (case k10 => k_is); (case k11 => k_is); (case k12 => k_is); (case k13 => k_is); (case k14 => k_get); (case k15 => k_handed); k_whole)))
section
variable {w : World} {mean : ExcName → Option Value} {mg mb : PySem.Str → Option Value} {dp un : Nat} {gd : Option (List Code)} {cn : PySem.Str} {cs : Scope} {a : Addr} {ccd : Value} {A₀ : Around} {base h₀ : Heap} {L : Addr} {m : PySem.Str → Option Value} {news : List (Addr × Obj)} {s : Shared}
set_option maxHeartbeats 4000000 in
theorem c_answersT {x : PySem.Str} {tk : Tok} {Q E : Value → Shared → Prop}
    (B : Below A₀ base [] h₀) (F : Fr h₀ L s.heap m) (X : (frag.heap_1 w.params).In h₀) (XB : (frag.heap_1 w.params).In base) (N : News h₀ L s.heap news) (T : Top view LS mean mg mb h₀) (TB : Top view LS mean mg mb base) (hk : cs.kind = .function)
    (hdp : dp + 10 < 1000) (hun : un + 80 < 1000) (hx : x.length ≤ 1000) (hr : resB x = true)
    (ret : ∀ h' tk', Fr h₀ L h' m → News h₀ L h' news → Q (.bool true) { s with heap := h', toks := tk' }) :
    wpAny (model prog w) (Ar none dp un gd cn cs L a ccd [] []) (call (.ref 286) [.str x tk, .bool true] []) Q E s := by
  have hrL : recursionLimit = 1000 := rfl
  w_on
  refine wpAny_call ?_
  k_dflt (refine' code_defS0 ?k1 ?k2 ?k3 ?k4 ?k5 ?kA ?k6 ?k7 ?k8 ?k9 ?kB ?_ ?kC ?c2 ?c3 ?c4 ?c5; (case kA => exact rfl); (case k1 => k_asm); (case k2 => k_asm); (case k3 => k_asm); (case k4 => k_asm); (case k5 => k_asm); (case k6 => k_is); (case k7 => k_is); (case k8 => k_room); (case k9 => exact BindsTo.of_eq rfl); (case c5 => decide); (case kB => exact locs rfl); (case kC => assumption); (case c2 => exact rfl); (case c3 => exact rfl); (case c4 => exact rfl); k_whole; intro g' L' h' FG' F' N' B' X' T' D'; (try dsimp only); (try k_fold))
  k_steps
  all_goals (refine ret _ _ (by assumption) ?_; (rename News _ _ _ _ => kN9); exact fun q hq => kN9 q (by repeat (first | exact hq | apply List.mem_cons_of_mem)))
end
end Mine
end
-- C2f
section
open PySem PySem.W PySem.Calls PyProof.Rows
set_option pp.deepTerms false
set_option pp.deepTerms.threshold 6
set_option pp.maxSteps 20000
set_option format.width 180
set_option Elab.async false
set_option maxRecDepth 100000
namespace Mine
theorem reg7 : PySem.Challenge.rw_og0089_02 = PySem.Challenge.rw_og0089_02 ∧ frag.heap_1 = frag.heap_1 := by k_fill; exact ⟨rfl, rfl⟩
local macro_rules | `(tactic| k_room) => `(tactic| ((try simp only [depth_under_make, depth_under_kw, depth_in1, depth_deeper]); (try dsimp only [Ar, Around.mark, Around.deeper]); omega))
local macro_rules | `(tactic| walk_at "call ref") => `(tactic| (k_here; k_dflt (refine' c_isReserved ?k1 ?k2 ?k3 ?k4 ?k5 ?k6 ?k7 ?k8 ?k9 _ ?kb ?_; (case kb => assumption); (case k1 => k_asm); (case k2 => k_asm); (case k3 => k_in); (case k4 => k_asm); (case k5 => k_asm); (case k6 => first | rfl | assumption); (case k7 => ktr_room); (case k8 => ktr_units); (case k9 => first | assumption | omega); intro h' tk' F' N')))
section
variable {w : World} {mean : ExcName → Option Value} {mg mb : PySem.Str → Option Value} {dp un : Nat} {gd : Option (List Code)} {cn : PySem.Str} {cs : Scope} {a : Addr} {ccd : Value} {A₀ : Around} {base h₀ : Heap} {L : Addr} {m : PySem.Str → Option Value} {news : List (Addr × Obj)} {s : Shared}
set_option maxHeartbeats 4000000 in
theorem c_answersF {x : PySem.Str} {tk : Tok} {Q E : Value → Shared → Prop}
    (B : Below A₀ base [] h₀) (F : Fr h₀ L s.heap m) (X : (frag.heap_1 w.params).In h₀) (N : News h₀ L s.heap news) (T : Top view LS mean mg mb h₀) (hk : cs.kind = .function)
    (hdp : dp + 10 < 1000) (hun : un + 80 < 1000) (hx : x.length ≤ 1000) (hr : resB x = false)
    (ret : ∀ h' tk', Fr h₀ L h' m → News h₀ L h' news → Q (.bool true) { s with heap := h', toks := tk' }) :
    wpAny (model prog w) (Ar none dp un gd cn cs L a ccd [] []) (call (.ref 286) [.str x tk, .bool false] []) Q E s := by
  have hrL : recursionLimit = 1000 := rfl
  w_on
  refine wpAny_call ?_
  k_dflt ktr_enter
  k_steps
  all_goals (try rw [beq_self_eq_true])
  all_goals (refine ret _ _ (by assumption) ?_; (rename News _ _ _ _ => kN9); exact fun q hq => kN9 q (by repeat (first | exact hq | apply List.mem_cons_of_mem)))
end
end Mine
end
-- P2
section
open PySem PySem.W PySem.Calls PyProof.Rows
open Builtin Builtin.Str
set_option Elab.async false
set_option maxRecDepth 100000
namespace Mine
/-! The law's table of words, and the word list of the reader: plain lists of numbers. -/
noncomputable def joinN : List (List Nat) → List Nat
  | [] => []
  | [x] => x
  | x :: y :: r => x ++ 32 :: joinN (y :: r)
noncomputable def cutN : List Nat → List (List Nat)
  | [] => [[]]
  | c :: r => if c = 32 then [] :: cutN r else (match cutN r with | h :: t => (c :: h) :: t | [] => [[c]])
theorem cutN_ne : ∀ l, ∃ h t, cutN l = h :: t
  | [] => ⟨_, _, rfl⟩
  | c :: r => by
    unfold cutN
    split
    · exact ⟨_, _, rfl⟩
    · obtain ⟨h, t, e⟩ := cutN_ne r
      rw [e]; exact ⟨_, _, rfl⟩
theorem cut_free : ∀ {x : List Nat}, 32 ∉ x → cutN x = [x]
  | [], _ => rfl
  | c :: r, h => by
    rw [List.mem_cons, not_or] at h
    unfold cutN
    rw [if_neg (Ne.symm h.1), cut_free h.2]
theorem cut_glue : ∀ {x r : List Nat}, 32 ∉ x → cutN (x ++ 32 :: r) = x :: cutN r
  | [], r, _ => by show cutN (32 :: r) = _; rw [cutN, if_pos rfl]
  | c :: x, r, h => by
    rw [List.mem_cons, not_or] at h
    show cutN (c :: (x ++ 32 :: r)) = _
    rw [cutN, if_neg (Ne.symm h.1), cut_glue h.2]
theorem cut_join : ∀ {ws : List (List Nat)}, ws ≠ [] → (∀ w ∈ ws, 32 ∉ w) → cutN (joinN ws) = ws
  | [], h, _ => absurd rfl h
  | [x], _, h => cut_free (h x (.head _))
  | x :: y :: r, _, h => by
    show cutN (x ++ 32 :: joinN (y :: r)) = _
    rw [cut_glue (h x (.head _)), cut_join (by simp) (fun w hw => h w (.tail _ hw))]
theorem join_app : ∀ {a b : List (List Nat)}, a ≠ [] → b ≠ [] → joinN (a ++ b) = joinN a ++ 32 :: joinN b
  | [], _, h, _ => absurd rfl h
  | [x], b, _, hb => by
    cases b with
    | nil => exact absurd rfl hb
    | cons y r => rfl
  | x :: y :: r, b, _, hb => by
    have ih := join_app (a := y :: r) (b := b) (by simp) hb
    show x ++ 32 :: joinN (y :: r ++ b) = _
    rw [ih]
    show _ = (x ++ 32 :: joinN (y :: r)) ++ _
    simp
theorem join_flat : ∀ {gs : List (List (List Nat))}, (∀ g ∈ gs, g ≠ []) → joinN (gs.map joinN) = joinN gs.flatten
  | [], _ => rfl
  | [g], _ => by show joinN g = joinN (g ++ []); rw [List.append_nil]
  | g :: k :: r, h => by
    have ih := join_flat (gs := k :: r) (fun x hx => h x (.tail _ hx))
    show joinN g ++ 32 :: joinN ((k :: r).map joinN) = joinN (g ++ (k :: r).flatten)
    rw [ih, join_app (h g (.head _))]
    intro q
    have : k = [] := by
      rw [List.flatten_cons] at q
      exact (List.append_eq_nil_iff.mp q).1
    exact h k (.tail _ (.head _)) this
-- prefix and infix
theorem pre_iff : ∀ {x l : List Nat}, 32 ∉ x → ((l.take (x.length + 1) = x ++ [32]) ↔ ∃ t t2, cutN l = x :: t2 :: t)
  | [], [], _ => by
    constructor
    · intro h; cases h
    · rintro ⟨t, t2, h⟩; cases h
  | [], c :: r, _ => by
    obtain ⟨h, t, e⟩ := cutN_ne r
    rw [cutN]
    by_cases hc : c = 32
    · subst hc
      rw [if_pos rfl, e]
      simp
    · rw [if_neg hc, e]
      simp [hc]
  | a :: x, [], _ => by
    constructor
    · intro h; cases h
    · rintro ⟨t, t2, h⟩; cases h
  | a :: x, c :: r, hx => by
    rw [List.mem_cons, not_or] at hx
    have ih := pre_iff (x := x) (l := r) hx.2
    have e1 : (List.take ((a :: x).length + 1) (c :: r) = a :: x ++ [32]) ↔ (c = a ∧ List.take (x.length + 1) r = x ++ [32]) := by
      simp
    rw [e1, ih]
    obtain ⟨h, t, e⟩ := cutN_ne r
    rw [cutN]
    by_cases hc : c = 32
    · subst hc
      rw [if_pos rfl]
      constructor
      · rintro ⟨q, _⟩; exact absurd q hx.1
      · rintro ⟨t, t2, q⟩; cases q
    · rw [if_neg hc, e]
      constructor
      · rintro ⟨rfl, t', t2, q⟩
        cases q
        exact ⟨_, _, rfl⟩
      · rintro ⟨t', t2, q⟩
        cases q
        exact ⟨rfl, _, _, rfl⟩
theorem mem_dropLast_cons {x h : List Nat} {t2 : List Nat} {t : List (List Nat)} : x ∈ (h :: t2 :: t).dropLast ↔ x = h ∨ x ∈ (t2 :: t).dropLast := by
  rw [List.dropLast_cons_of_ne_nil (by simp), List.mem_cons]
theorem in_iff {x : List Nat} (hx : 32 ∉ x) : ∀ {l : List Nat}, ((∃ i, (l.drop i).take (x.length + 2) = 32 :: x ++ [32]) ↔ x ∈ (cutN l).tail.dropLast)
  | [] => by
    constructor
    · rintro ⟨i, h⟩; simp at h
    · intro h; simp [cutN] at h
  | c :: r => by
    have ih := in_iff hx (l := r)
    have p := pre_iff (x := x) (l := r) hx
    have e1 : (∃ i, (List.drop i (c :: r)).take (x.length + 2) = 32 :: x ++ [32]) ↔ ((c = 32 ∧ r.take (x.length + 1) = x ++ [32]) ∨ ∃ i, (r.drop i).take (x.length + 2) = 32 :: x ++ [32]) := by
      constructor
      · rintro ⟨i, h⟩
        cases i with
        | zero =>
          left
          rw [List.drop_zero, show x.length + 2 = (x.length + 1) + 1 from rfl, List.take_succ_cons] at h
          exact ⟨(List.cons.inj h).1, (List.cons.inj h).2⟩
        | succ i => exact .inr ⟨i, h⟩
      · rintro (⟨rfl, h⟩ | ⟨i, h⟩)
        · exact ⟨0, by rw [List.drop_zero, show x.length + 2 = (x.length + 1) + 1 from rfl, List.take_succ_cons, h]; rfl⟩
        · exact ⟨i + 1, h⟩
    rw [e1, ih, p]
    obtain ⟨h, t, e⟩ := cutN_ne r
    rw [cutN]
    by_cases hc : c = 32
    · subst hc
      rw [if_pos rfl, e]
      cases t with
      | nil => simp
      | cons t2 t =>
        show _ ↔ x ∈ (h :: t2 :: t).dropLast
        rw [mem_dropLast_cons]
        constructor
        · rintro (⟨_, _, _, q⟩ | q)
          · cases q; exact .inl rfl
          · exact .inr q
        · rintro (rfl | q)
          · exact .inl ⟨rfl, _, _, rfl⟩
          · exact .inr q
    · rw [if_neg hc, e]
      constructor
      · rintro (⟨q, _⟩ | q)
        · exact absurd q hc
        · exact q
      · exact .inr
noncomputable def memN (w : List Nat) (l : List (List Nat)) : Bool := l.any (Fast.lEq w)
theorem memN_iff {w : List Nat} {l : List (List Nat)} : memN w l = true ↔ w ∈ l := by
  unfold memN
  rw [List.any_eq_true]
  constructor
  · rintro ⟨y, hy, h⟩; rw [Fast.lEq_iff.mp h]; exact hy
  · intro h; exact ⟨w, h, Fast.lEq_iff.mpr rfl⟩
-- the groups of words
noncomputable def GS : List (List (List Nat)) := [[[73, 68, 69, 78, 84, 73, 70, 73, 67, 65, 84, 73, 79, 78], [69, 78, 86, 73, 82, 79, 78, 77, 69, 78, 84], [68, 65, 84, 65], [80, 82, 79, 67, 69, 68, 85, 82, 69], [68, 73, 86, 73, 83, 73, 79, 78], [83, 69, 67, 84, 73, 79, 78], [80, 82, 79, 71, 82, 65, 77], [80, 82, 79, 71, 82, 65, 77, 45, 73, 68], [65, 85, 84, 72, 79, 82], [73, 78, 83, 84, 65, 76, 76, 65, 84, 73, 79, 78], [68, 65, 84, 69, 45, 87, 82, 73, 84, 84, 69, 78]],
  [[68, 65, 84, 69, 45, 67, 79, 77, 80, 73, 76, 69, 68], [83, 69, 67, 85, 82, 73, 84, 89], [67, 79, 78, 70, 73, 71, 85, 82, 65, 84, 73, 79, 78], [83, 79, 85, 82, 67, 69, 45, 67, 79, 77, 80, 85, 84, 69, 82], [79, 66, 74, 69, 67, 84, 45, 67, 79, 77, 80, 85, 84, 69, 82], [83, 80, 69, 67, 73, 65, 76, 45, 78, 65, 77, 69, 83], [73, 78, 80, 85, 84, 45, 79, 85, 84, 80, 85, 84], [70, 73, 76, 69, 45, 67, 79, 78, 84, 82, 79, 76]],
  [[73, 45, 79, 45, 67, 79, 78, 84, 82, 79, 76], [83, 69, 76, 69, 67, 84], [79, 80, 84, 73, 79, 78, 65, 76], [65, 83, 83, 73, 71, 78], [79, 82, 71, 65, 78, 73, 90, 65, 84, 73, 79, 78], [83, 69, 81, 85, 69, 78, 84, 73, 65, 76], [82, 69, 76, 65, 84, 73, 86, 69], [73, 78, 68, 69, 88, 69, 68], [65, 67, 67, 69, 83, 83], [77, 79, 68, 69], [82, 65, 78, 68, 79, 77], [68, 89, 78, 65, 77, 73, 67], [82, 69, 67, 79, 82, 68], [75, 69, 89]],
  [[65, 76, 84, 69, 82, 78, 65, 84, 69], [68, 85, 80, 76, 73, 67, 65, 84, 69, 83], [70, 73, 76, 69], [83, 84, 65, 84, 85, 83], [70, 68], [83, 68], [83, 79, 82, 84, 45, 77, 69, 82, 71, 69], [83, 65, 77, 69], [65, 82, 69, 65], [65, 82, 69, 65, 83], [66, 76, 79, 67, 75], [67, 79, 78, 84, 65, 73, 78, 83], [82, 69, 67, 79, 82, 68, 83], [67, 72, 65, 82, 65, 67, 84, 69, 82, 83], [67, 72, 65, 82, 65, 67, 84, 69, 82], [76, 65, 66, 69, 76]],
  [[83, 84, 65, 78, 68, 65, 82, 68], [79, 77, 73, 84, 84, 69, 68], [87, 79, 82, 75, 73, 78, 71, 45, 83, 84, 79, 82, 65, 71, 69], [76, 73, 78, 75, 65, 71, 69], [70, 73, 76, 76, 69, 82], [82, 69, 68, 69, 70, 73, 78, 69, 83], [82, 69, 78, 65, 77, 69, 83], [80, 73, 67, 84, 85, 82, 69], [80, 73, 67], [85, 83, 65, 71, 69], [68, 73, 83, 80, 76, 65, 89], [66, 73, 78, 65, 82, 89], [67, 79, 77, 80], [67, 79, 77, 80, 45, 51]],
  [[67, 79, 77, 80, 85, 84, 65, 84, 73, 79, 78, 65, 76], [67, 79, 77, 80, 85, 84, 65, 84, 73, 79, 78, 65, 76, 45, 51], [80, 65, 67, 75, 69, 68, 45, 68, 69, 67, 73, 77, 65, 76], [73, 78, 68, 69, 88], [83, 73, 71, 78], [76, 69, 65, 68, 73, 78, 71], [84, 82, 65, 73, 76, 73, 78, 71], [83, 69, 80, 65, 82, 65, 84, 69], [79, 67, 67, 85, 82, 83], [84, 73, 77, 69, 83], [68, 69, 80, 69, 78, 68, 73, 78, 71], [65, 83, 67, 69, 78, 68, 73, 78, 71]],
  [[68, 69, 83, 67, 69, 78, 68, 73, 78, 71], [74, 85, 83, 84, 73, 70, 73, 69, 68], [74, 85, 83, 84], [82, 73, 71, 72, 84], [76, 69, 70, 84], [83, 89, 78, 67, 72, 82, 79, 78, 73, 90, 69, 68], [83, 89, 78, 67], [66, 76, 65, 78, 75], [87, 72, 69, 78], [86, 65, 76, 85, 69], [86, 65, 76, 85, 69, 83], [69, 88, 84, 69, 82, 78, 65, 76], [71, 76, 79, 66, 65, 76], [73, 78, 73, 84, 73, 65, 76], [90, 69, 82, 79], [90, 69, 82, 79, 83]],
  [[90, 69, 82, 79, 69, 83], [83, 80, 65, 67, 69], [83, 80, 65, 67, 69, 83], [72, 73, 71, 72, 45, 86, 65, 76, 85, 69], [72, 73, 71, 72, 45, 86, 65, 76, 85, 69, 83], [76, 79, 87, 45, 86, 65, 76, 85, 69], [76, 79, 87, 45, 86, 65, 76, 85, 69, 83], [81, 85, 79, 84, 69], [81, 85, 79, 84, 69, 83], [65, 76, 76], [65, 67, 67, 69, 80, 84], [65, 68, 68], [67, 65, 76, 76], [67, 76, 79, 83, 69], [67, 79, 77, 80, 85, 84, 69]],
  [[67, 79, 78, 84, 73, 78, 85, 69], [67, 79, 80, 89], [68, 69, 76, 69, 84, 69], [68, 73, 86, 73, 68, 69], [69, 86, 65, 76, 85, 65, 84, 69], [69, 88, 73, 84], [71, 79], [73, 70], [73, 78, 73, 84, 73, 65, 76, 73, 90, 69], [73, 78, 83, 80, 69, 67, 84], [77, 69, 82, 71, 69], [77, 79, 86, 69], [77, 85, 76, 84, 73, 80, 76, 89], [79, 80, 69, 78], [80, 69, 82, 70, 79, 82, 77], [82, 69, 65, 68], [82, 69, 76, 69, 65, 83, 69]],
  [[82, 69, 80, 76, 65, 67, 69], [82, 69, 84, 85, 82, 78], [82, 69, 87, 82, 73, 84, 69], [83, 69, 65, 82, 67, 72], [83, 69, 84], [83, 79, 82, 84], [83, 84, 65, 82, 84], [83, 84, 79, 80], [83, 84, 82, 73, 78, 71], [83, 85, 66, 84, 82, 65, 67, 84], [85, 78, 83, 84, 82, 73, 78, 71], [87, 82, 73, 84, 69], [69, 78, 68, 45, 65, 68, 68], [69, 78, 68, 45, 67, 65, 76, 76], [69, 78, 68, 45, 67, 79, 77, 80, 85, 84, 69]],
  [[69, 78, 68, 45, 68, 69, 76, 69, 84, 69], [69, 78, 68, 45, 68, 73, 86, 73, 68, 69], [69, 78, 68, 45, 69, 86, 65, 76, 85, 65, 84, 69], [69, 78, 68, 45, 73, 70], [69, 78, 68, 45, 77, 85, 76, 84, 73, 80, 76, 89], [69, 78, 68, 45, 80, 69, 82, 70, 79, 82, 77], [69, 78, 68, 45, 82, 69, 65, 68], [69, 78, 68, 45, 82, 69, 84, 85, 82, 78], [69, 78, 68, 45, 82, 69, 87, 82, 73, 84, 69], [69, 78, 68, 45, 83, 69, 65, 82, 67, 72]],
  [[69, 78, 68, 45, 83, 84, 65, 82, 84], [69, 78, 68, 45, 83, 84, 82, 73, 78, 71], [69, 78, 68, 45, 83, 85, 66, 84, 82, 65, 67, 84], [69, 78, 68, 45, 85, 78, 83, 84, 82, 73, 78, 71], [69, 78, 68, 45, 87, 82, 73, 84, 69], [84, 79], [70, 82, 79, 77], [66, 89], [71, 73, 86, 73, 78, 71], [73, 78, 84, 79], [82, 79, 85, 78, 68, 69, 68], [83, 73, 90, 69], [69, 82, 82, 79, 82], [79, 78], [78, 79, 84], [82, 69, 77, 65, 73, 78, 68, 69, 82]],
  [[67, 79, 82, 82, 69, 83, 80, 79, 78, 68, 73, 78, 71], [67, 79, 82, 82], [65, 76, 80, 72, 65, 66, 69, 84, 73, 67], [65, 76, 80, 72, 65, 66, 69, 84, 73, 67, 45, 76, 79, 87, 69, 82], [65, 76, 80, 72, 65, 66, 69, 84, 73, 67, 45, 85, 80, 80, 69, 82], [65, 76, 80, 72, 65, 78, 85, 77, 69, 82, 73, 67], [65, 76, 80, 72, 65, 78, 85, 77, 69, 82, 73, 67, 45, 69, 68, 73, 84, 69, 68], [78, 85, 77, 69, 82, 73, 67]],
  [[78, 85, 77, 69, 82, 73, 67, 45, 69, 68, 73, 84, 69, 68], [82, 69, 80, 76, 65, 67, 73, 78, 71], [68, 65, 84, 65], [85, 80], [68, 79, 87, 78], [84, 82, 85, 69], [70, 65, 76, 83, 69], [68, 69, 76, 73, 77, 73, 84, 69, 68], [68, 69, 76, 73, 77, 73, 84, 69, 82], [80, 79, 73, 78, 84, 69, 82], [79, 86, 69, 82, 70, 76, 79, 87], [67, 79, 85, 78, 84], [84, 65, 76, 76, 89, 73, 78, 71], [66, 69, 70, 79, 82, 69], [65, 70, 84, 69, 82]],
  [[70, 73, 82, 83, 84], [67, 79, 78, 86, 69, 82, 84, 73, 78, 71], [70, 79, 82], [84, 72, 69, 78], [69, 76, 83, 69], [78, 69, 88, 84], [83, 69, 78, 84, 69, 78, 67, 69], [65, 76, 83, 79], [65, 78, 89], [79, 84, 72, 69, 82], [84, 72, 82, 79, 85, 71, 72], [84, 72, 82, 85], [85, 78, 84, 73, 76], [86, 65, 82, 89, 73, 78, 71], [87, 73, 84, 72], [84, 69, 83, 84], [73, 78, 80, 85, 84], [79, 85, 84, 80, 85, 84], [73, 45, 79]],
  [[69, 88, 84, 69, 78, 68], [69, 78, 68], [73, 78, 86, 65, 76, 73, 68], [65, 84], [65, 68, 86, 65, 78, 67, 73, 78, 71], [78, 79], [76, 73, 78, 69], [76, 73, 78, 69, 83], [76, 79, 67, 75], [79, 82, 68, 69, 82], [85, 83, 73, 78, 71], [82, 69, 70, 69, 82, 69, 78, 67, 69], [67, 79, 78, 84, 69, 78, 84], [69, 88, 67, 69, 80, 84, 73, 79, 78], [82, 85, 78], [80, 82, 79, 67, 69, 69, 68], [79, 70], [73, 78], [79, 70, 70], [73, 83]],
  [[65, 82, 69], [65, 78, 68], [79, 82], [69, 81, 85, 65, 76], [71, 82, 69, 65, 84, 69, 82], [76, 69, 83, 83], [84, 72, 65, 78], [80, 79, 83, 73, 84, 73, 86, 69], [78, 69, 71, 65, 84, 73, 86, 69], [85, 80, 79, 78], [78, 65, 84, 73, 86, 69]]]
noncomputable def TWl : List (List Nat) := GS.flatten
noncomputable def rowsOf (p : Program) (i : Nat) : List PySem.Str := match p.main.body[i]? with
  | some (.FunctionDef _ _ (.Assign _ (.List els _) _ :: _) _ _ _ _ _ _ _) => els.map fun | .Constant (.str x) _ _ => x | _ => ""
  | _ => []
noncomputable def ROWS : List PySem.Str := rowsOf PySem.Challenge.pw_og0089_02 11
noncomputable def mkS (l : List Nat) : PySem.Str := ⟨⟨l⟩⟩
theorem toNat_ofNat {c : Nat} (h : c < 55296) : (Char.ofNat c).toNat = c := by
  have : c.isValidChar := Or.inl h
  unfold Char.ofNat
  rw [dif_pos this]
  rfl
theorem str_codes {s : String} {l : List Nat} (h : s = String.ofList (l.map Char.ofNat)) (hl : l.all (fun c => Nat.blt c 55296) = true) : PySem.Str.ofString s = mkS l := by
  subst h
  rw [Fast.ofString_ofList, List.map_map]
  have : l.map (Char.toNat ∘ Char.ofNat) = l := by
    have H := List.all_eq_true.mp hl
    induction l with
    | nil => rfl
    | cons a r ih =>
      rw [List.map_cons, ih (by rw [List.all_cons, Bool.and_eq_true] at hl; exact hl.2) (fun x hx => H x (.tail _ hx))]
      show (Char.ofNat a).toNat :: r = _
      rw [toNat_ofNat (by have := H a (.head _); exact Nat.blt_eq.mp this)]
  rw [this]; rfl
theorem strs_codes : ∀ {ss : List String} {ls : List (List Nat)}, ss = ls.map (fun l => String.ofList (l.map Char.ofNat)) → ls.all (fun l => l.all (fun c => Nat.blt c 55296)) = true → ss.map PySem.Str.ofString = ls.map mkS
  | [], [], _, _ => rfl
  | [], _ :: _, h, _ => by cases h
  | _ :: _, [], h, _ => by cases h
  | s :: ss, l :: ls, h, hl => by
    rw [List.map_cons] at h
    obtain ⟨h1, h2⟩ := List.cons.inj h
    rw [List.all_cons, Bool.and_eq_true] at hl
    rw [List.map_cons, List.map_cons, str_codes h1 hl.1, strs_codes h2 hl.2]
theorem rows_is : ROWS = (GS.map joinN).map mkS := by
  have : ∃ ss : List String, ROWS = ss.map PySem.Str.ofString ∧ ss = (GS.map joinN).map (fun l => String.ofList (l.map Char.ofNat)) := ⟨[_, _, _, _, _, _, _, _, _, _, _, _, _, _, _, _, _], rfl, by kernel_rfl⟩
  obtain ⟨ss, h1, h2⟩ := this
  rw [h1, strs_codes h2 (by decide +kernel)]
theorem rs_is : RS = mkS RESl := by
  have : ∃ s : String, RS = PySem.Str.ofString s ∧ s = String.ofList (RESl.map Char.ofNat) := ⟨_, rfl, by kernel_rfl⟩
  obtain ⟨s, h1, h2⟩ := this
  rw [h1, str_codes h2 (by decide +kernel)]
theorem sp_is : (" " : PySem.Str) = ⟨#[32]⟩ := by kernel_rfl
theorem join_toL : ∀ (parts : List PySem.Str), (Str.join ⟨#[32]⟩ parts).cps.toList = joinN (parts.map (·.cps.toList))
  | [] => rfl
  | [x] => rfl
  | x :: y :: r => by
    have ih := join_toL (y :: r)
    show (x ++ ⟨#[32]⟩ ++ Str.join ⟨#[32]⟩ (y :: r)).cps.toList = x.cps.toList ++ 32 :: joinN ((y :: r).map (·.cps.toList))
    rw [← ih, Str.cps_append, Str.cps_append, Array.toList_append, Array.toList_append, List.append_assoc]
    rfl
noncomputable def TW : List PySem.Str := Txt.split (Txt.join " " ROWS) " "
theorem map_mkS : ∀ {l : List PySem.Str} {n : List (List Nat)}, l.map (·.cps.toList) = n → l = n.map mkS
  | [], _, h => by subst h; rfl
  | x :: r, _, h => by
    subst h
    rw [List.map_cons, List.map_cons, ← map_mkS (l := r) rfl]
    rfl
theorem TW_is : TW = TWl.map mkS := by
  have hJ : (Txt.join " " ROWS).cps.toList = joinN TWl := by
    unfold Txt.join
    rw [StrLaws.glued_eq_join, sp_is, join_toL, rows_is, List.map_map, List.map_map]
    have : (GS.map (((fun x : PySem.Str => x.cps.toList) ∘ mkS) ∘ joinN)) = GS.map joinN := rfl
    rw [this, join_flat]
    · rfl
    · have : GS.all (fun g => !g.isEmpty) = true := by decide +kernel
      intro g hg
      have := List.all_eq_true.mp this g hg
      rintro rfl
      cases this
  have hf := StrLaws.split_free (Txt.join " " ROWS) 32
  have hs := StrLaws.join_split (Txt.join " " ROWS) ⟨#[32]⟩
  have hs' := congrArg (fun x : PySem.Str => x.cps.toList) hs
  rw [join_toL, hJ] at hs'
  unfold TW
  rw [show Txt.split (Txt.join " " ROWS) " " = Txt.split (Txt.join " " ROWS) ⟨#[32]⟩ from congrArg _ sp_is]
  generalize Txt.split (Txt.join " " ROWS) ⟨#[32]⟩ = P at hf hs'
  have hne : P ≠ [] := by
    rintro rfl
    have : (joinN TWl).isEmpty = false := by decide +kernel
    rw [← hs'] at this
    cases this
  refine map_mkS ?_
  have c1 : cutN (joinN (P.map (·.cps.toList))) = P.map (·.cps.toList) := cut_join (by simpa using hne) (by
    intro w hw
    obtain ⟨p, hp, rfl⟩ := List.mem_map.mp hw
    exact hf p hp)
  rw [← c1, hs']
  refine cut_join ?_ ?_
  · have : TWl.isEmpty = false := by decide +kernel
    intro q; rw [q] at this; cases this
  · have : TWl.all (fun w => !(w.any fun c => Nat.beq c 32)) = true := by decide +kernel
    intro w hw h
    have := List.all_eq_true.mp this w hw
    rw [Bool.not_eq_true', List.any_eq_false] at this
    exact this 32 h rfl
theorem TW_len : TW.length = 237 := by rw [TW_is, List.length_map]; decide +kernel
theorem TW_all {p : List Nat → Bool} (h : TWl.all p = true) {w : PySem.Str} (hw : w ∈ TW) : p w.cps.toList = true := by
  rw [TW_is] at hw
  obtain ⟨l, hl, rfl⟩ := List.mem_map.mp hw
  exact List.all_eq_true.mp h l hl
theorem TW_free {w : PySem.Str} (hw : w ∈ TW) : 32 ∉ w.cps.toList := fun h => by
  have := TW_all (p := fun w => !(w.any fun c => Nat.beq c 32)) (by decide +kernel) hw
  rw [Bool.not_eq_true', List.any_eq_false] at this
  exact this 32 h rfl
theorem TW_size {w : PySem.Str} (hw : w ∈ TW) : 1 ≤ w.length ∧ w.length ≤ 30 := by
  have := TW_all (p := fun w => Nat.ble 1 w.length && Nat.ble w.length 30) (by decide +kernel) hw
  rw [Bool.and_eq_true] at this
  exact ⟨Nat.le_of_ble_eq_true this.1, Nat.le_of_ble_eq_true this.2⟩
theorem mem_TW {x : PySem.Str} : TW.any (· == x) = memN x.cps.toList TWl := by
  rw [Bool.eq_iff_iff, memN_iff, TW_is, List.any_eq_true]
  constructor
  · rintro ⟨y, hy, e⟩
    obtain ⟨l, hl, rfl⟩ := List.mem_map.mp hy
    rw [← beq_iff_eq.mp e]; exact hl
  · intro h
    exact ⟨mkS x.cps.toList, List.mem_map.mpr ⟨_, h, rfl⟩, beq_iff_eq.mpr rfl⟩
noncomputable def MID : List (List Nat) := (cutN RESl).tail.dropLast
theorem mid_sub : MID.all (fun w => memN w TWl) = true := by decide +kernel
theorem mid_sup : TWl.all (fun w => memN w MID) = true := by decide +kernel
theorem mid_iff {x : List Nat} : x ∈ MID ↔ x ∈ TWl := by
  constructor
  · intro h; exact memN_iff.mp (List.all_eq_true.mp mid_sub x h)
  · intro h; exact memN_iff.mp (List.all_eq_true.mp mid_sup x h)
theorem res_law {x : PySem.Str} (hx : 32 ∉ x.cps.toList) : resB x = TW.any (· == x) := by
  rw [mem_TW, Bool.eq_iff_iff, memN_iff, ← mid_iff]
  unfold resB MID
  rw [StrLaws.found_iff, ← in_iff hx, rs_is, sp_is]
  have hy : ((⟨#[32]⟩ : PySem.Str) ++ x ++ ⟨#[32]⟩).cps.toList = 32 :: x.cps.toList ++ [32] := by
    rw [Str.cps_append, Str.cps_append, Array.toList_append, Array.toList_append]; rfl
  have hl : ((⟨#[32]⟩ : PySem.Str) ++ x ++ ⟨#[32]⟩).length = x.cps.toList.length + 2 := by
    show ((⟨#[32]⟩ : PySem.Str) ++ x ++ ⟨#[32]⟩).cps.size = _
    rw [← Array.length_toList, hy]; simp
  constructor
  · rintro ⟨i, _, h⟩
    rw [StrLaws.subAt_eq, hy, hl, beq_iff_eq] at h
    exact ⟨i, h⟩
  · rintro ⟨i, h⟩
    refine ⟨i, ?_, ?_⟩
    · have := congrArg List.length h
      rw [List.length_take, List.length_drop] at this
      rw [hl]
      show i + _ ≤ RESl.toArray.size
      simp only [List.length_append, List.length_cons, List.length_nil] at this
      rw [List.size_toArray]
      omega
    · rw [StrLaws.subAt_eq, hy, hl, beq_iff_eq]; exact h
end Mine
end
-- C4
section
open PySem PySem.W PySem.Calls PyProof.Rows Builtin Builtin.Str
set_option pp.deepTerms false
set_option pp.deepTerms.threshold 6
set_option pp.maxSteps 20000
set_option format.width 180
set_option Elab.async false
set_option maxRecDepth 100000
namespace Mine
theorem reg4 : PySem.Challenge.rw_og0089_02 = PySem.Challenge.rw_og0089_02 ∧ frag.heap_1 = frag.heap_1 := by k_fill; exact ⟨rfl, rfl⟩
noncomputable def JT : PySem.Str := Txt.join " " ROWS
theorem JT_len : JT.length = 1863 := by
  have h : JT.cps.toList = joinN TWl := by
    have h1 := StrLaws.join_split JT ⟨#[32]⟩
    have h2 : Txt.split JT ⟨#[32]⟩ = TW := (congrArg (Txt.split JT) sp_is).symm
    rw [h2] at h1
    have h3 := congrArg (fun x : PySem.Str => x.cps.toList) h1
    rw [join_toL, TW_is, List.map_map] at h3
    exact h3.symm.trans (congrArg joinN (List.map_id _))
  show JT.cps.size = _
  rw [← Array.length_toList, h]; decide +kernel
theorem row_sizes : ROWS.all (fun x => Nat.ble x.cps.toList.length 200) = true ∧ ROWS.length = 17 := by
  rw [rows_is]
  constructor
  · rw [List.map_map, List.all_map]
    decide +kernel
  · rw [List.length_map, List.length_map]; decide +kernel
theorem join_ok : JoinOk " " ROWS = true := by
  unfold JoinOk
  have := StrLaws.joinFits (sep := (" " : PySem.Str)) (texts := ROWS) (B := 200) (fun y hy => by
    have := List.all_eq_true.mp row_sizes.1 y hy
    have := Nat.le_of_ble_eq_true this
    show y.cps.size ≤ 200
    rw [← Array.length_toList]; exact this) (by rw [row_sizes.2, sp_is]; decide)
  rw [this]; rfl
def strsOf : List Value → List (PySem.Str × Tok)
  | .str x t :: r => (x, t) :: strsOf r
  | _ :: r => strsOf r
  | [] => []
def allStrs : List Value → Bool
  | .str _ _ :: r => allStrs r
  | [] => true
  | _ :: _ => false
theorem strsOf_eq : ∀ {l : List Value}, allStrs l = true → strValues (strsOf l) = l
  | [], _ => rfl
  | .str x t :: r, h => by
    show Value.str x t :: strValues (strsOf r) = _
    rw [strsOf_eq (l := r) h]
  | .none :: _, h | .bool _ :: _, h | .int _ _ :: _, h | .ref _ :: _, h | .type _ :: _, h | .builtin _ :: _, h => by cases h
section
variable {prog : Program} {w : World} {A : Around} {E : Value → Shared → Prop} {s : Shared} {h₀ : Heap} {L : Addr} {m : PySem.Str → Option Value} {news : List (Addr × Obj)} {Q : Value → Shared → Prop}
theorem join_rows {D : Addr} {its : Array Value} {n : Nat} {t : Tok} (N : News h₀ L s.heap news) (hm : (D, listOf its n) ∈ news) (ha : allStrs its.toList = true) (hr : (strsOf its.toList).map (·.1) = ROWS)
    (h : ∀ t' k, Q (.str JT t') { s with toks := k }) : wpAny (model prog w) A (call (.builtin "str.join") [.str " " t, .ref D]) Q E s := by
  refine SC.join (l := strsOf its.toList) ⟨_, (N _ hm).1, rfl, n, ?_⟩ hr join_ok h
  rw [strsOf_eq ha]
theorem split_gen {x y : PySem.Str} {TT : List PySem.Str} {t u : Tok} (F : Fr h₀ L s.heap m) (N : News h₀ L s.heap news) (hT : Txt.split x y = TT) (hlen : TT.length = 237) (hy : (y.length == 0) = false) (hx : x.length ≤ 2000)
    (h : ∀ D l h' k, l.map (·.1) = TT → Fr h₀ L h' m → News h₀ L h' ((D, listOf (strValues l).toArray 0) :: news) → (∀ p ∈ news, p.1 < D) → Q (.ref D) { s with heap := h', toks := k }) :
    wpAny (model prog w) A (call (.builtin "str.split") [.str x t, .str y u]) Q E s := by
  subst hT
  have h1 : (decide (x.length < y.length) || decide (strKind x < strKind y)) = false := by
    cases q : (decide (x.length < y.length) || decide (strKind x < strKind y)) with
    | false => rfl
    | true => unfold Txt.split at hlen; rw [if_pos q] at hlen; cases hlen
  have hf : (occurrences x y 0 x.length (x.length + 1)).isEmpty = false := by
    cases q : (occurrences x y 0 x.length (x.length + 1)).isEmpty with
    | false => rfl
    | true => unfold Txt.split at hlen; rw [if_neg (ne_true_of_eq_false h1), if_pos q] at hlen; cases hlen
  have hTW : Txt.split x y = partsBetween x (occurrences x y 0 x.length (x.length + 1)) y.length := by
    unfold Txt.split; rw [if_neg (ne_true_of_eq_false h1), if_neg (ne_true_of_eq_false hf)]
  refine call_meets PySem.F.slot_str_split (typeIs_str _ _ _) PySem.F.entry_str_split (PySem.F.args_str_split_2 _ _) (meets_str_split_sep x y t u h1 hy hf (by rw [sizeLine_eq]; omega) (by rw [← hTW, hlen, sizeLine_eq]; omega)) ?_
  show wants Q E _ { s with toks := _, heap := s.heap.push { cls := .type "list", data := .seq (strsFrom s.toks (partsBetween x (occurrences x y 0 x.length (x.length + 1)) y.length)).toArray } }
  rw [strsFrom_eq]
  exact h _ (numbered s.toks _) _ _ ((numbered_texts _ _).trans hTW.symm) (F.push _) (News.push F N _ rfl) fun p hp => Heap.lt_size (N p hp).1
structure TabOf (l : List (PySem.Str × Tok)) : Prop where
  is : l.map (·.1) = TW
structure Free (x : PySem.Str) : Prop where
  free : 32 ∉ x.cps.toList
  size : x.length ≤ 100
structure WordOf (x : PySem.Str) : Prop where
  mem : x ∈ TW
structure IsIn (x : PySem.Str) (b : Bool) : Prop where
  is : TW.any (· == x) = b
theorem drop2 {h₀ h : Heap} {L : Addr} {a b : Addr × Obj} {news : List (Addr × Obj)} (N : News h₀ L h (a :: b :: news)) : News h₀ L h (a :: news) := fun q hq => N q (by
  rcases List.mem_cons.mp hq with rfl | hq
  · exact .head _
  · exact .tail _ (.tail _ hq))
theorem lt2 {b : Addr × Obj} {D : Addr} {news : List (Addr × Obj)} (h : ∀ p ∈ (b :: news), p.1 < D) : ∀ p ∈ news, p.1 < D := fun p hp => h p (.tail _ hp)
theorem sp_len : ((" " : PySem.Str).length == 0) = false := by rw [sp_is]; rfl
theorem split_table {t u : Tok} (F : Fr h₀ L s.heap m) (N : News h₀ L s.heap news)
    (h : ∀ D l h' k, l.map (·.1) = TW → Fr h₀ L h' m → News h₀ L h' ((D, listOf (strValues l).toArray 0) :: news) → (∀ p ∈ news, p.1 < D) → Q (.ref D) { s with heap := h', toks := k }) :
    wpAny (model prog w) A (call (.builtin "str.split") [.str JT t, .str " " u]) Q E s :=
  split_gen F N (by rfl) TW_len sp_len (by rw [JT_len]; omega) h
theorem tab_len {l : List (PySem.Str × Tok)} (h : TabOf l) : l.length = 237 := by
  rw [← TW_len, ← h.is, List.length_map]
theorem tab_vals {l : List (PySem.Str × Tok)} : (strValues l).length = l.length := List.length_map ..
theorem len_tab {D : Addr} {l : List (PySem.Str × Tok)} {n : Nat} (N : News h₀ L s.heap news) (hm : (D, listOf (strValues l).toArray n) ∈ news) (ht : TabOf l) (h : Q (.int 237 (s.toks + 1)) { s with toks := s.toks + 1 + 1 }) :
    wpAny (model prog w) A (call (.builtin "len") [.ref D]) Q E s := by
  have e : (strValues l).toArray.size = 237 := by rw [List.size_toArray, tab_vals, tab_len ht]
  refine len_list ⟨_, (N _ hm).1, rfl, n, rfl⟩ (by rw [e]; decide) ?_
  rw [e]; exact h
theorem item_tab {value slice : Expr} {D : Addr} {l : List (PySem.Str × Tok)} {n : Nat} {k : Int} {u : Tok} (N : News h₀ L s.heap news) (hm : (D, listOf (strValues l).toArray n) ∈ news) (ht : TabOf l) (h0 : 0 ≤ k) (h1 : k < 237)
    (h : ∀ x t, WordOf x → Q (.str x t) s)
    (hs : subscripted slice false (.ref D) (.int k u) = operate [.ref D, .int k u] (getItem (.ref D) (.int k u)) := by with_unfolding_all rfl) (hg : ∀ r, letTemporaryGo value (.ref D) r = pure () := by intro _; with_unfolding_all rfl) :
    wpAny (model prog w) A (subscriptTail value slice (.ref D) (.int k u)) Q E s := by
  have hl : k.toNat < l.length := by rw [tab_len ht]; omega
  refine item_list ⟨_, (N _ hm).1, rfl, n, rfl⟩ h0 (by omega) (x := .str (l[k.toNat]).1 (l[k.toNat]).2) ?_ (h _ _ ⟨?_⟩) hs hg
  · rw [List.getElem?_toArray]
    show (l.map _)[k.toNat]? = _
    rw [List.getElem?_map, List.getElem?_eq_getElem hl]; rfl
  · rw [← ht.is]
    exact List.mem_map_of_mem (List.getElem_mem hl)
theorem strs_are : ∀ (l : List (PySem.Str × Tok)), StrsAre (strValues l) (l.map (·.1))
  | [] => .nil
  | p :: r => .cons _ _ (strs_are r)
theorem in_tab {D : Addr} {l : List (PySem.Str × Tok)} {n : Nat} {x : PySem.Str} {t : Tok} (N : News h₀ L s.heap news) (hm : (D, listOf (strValues l).toArray n) ∈ news) (ht : TabOf l) (h : ∀ b, IsIn x b → Q (.bool b) s) :
    wpAny (model prog w) A (compareOp .In (.str x t) (.ref D)) Q E s :=
  in_list_strs ⟨_, (N _ hm).1, rfl, n, rfl⟩ (strs_are l) (h _ ⟨by rw [ht.is]⟩)
end
theorem WordOf.free {x : PySem.Str} (h : WordOf x) : Free x := ⟨TW_free h.mem, Nat.le_trans (TW_size h.mem).2 (by decide)⟩
theorem S_is : ("S" : PySem.Str) = ⟨#[83]⟩ := by kernel_rfl
theorem WordOf.addS {x : PySem.Str} (h : WordOf x) : Free (x ++ "S") := by
  have e : (x ++ "S" : PySem.Str).cps.toList = x.cps.toList ++ [83] := by rw [S_is, Str.cps_append, Array.toList_append]
  refine ⟨?_, ?_⟩
  · rw [e, List.mem_append]
    intro q
    rcases q with q | q
    · exact TW_free h.mem q
    · exact absurd (List.mem_singleton.mp q) (by decide)
  · have := (TW_size h.mem).2
    show (x ++ "S" : PySem.Str).cps.size ≤ 100
    rw [← Array.length_toList, e, List.length_append, Array.length_toList]
    show x.length + 1 ≤ 100
    omega
section
variable {w : World} {mean : ExcName → Option Value} {mg mb : PySem.Str → Option Value} {hd : Option Value} {dp un : Nat} {gd : Option (List Code)} {cn : PySem.Str} {cs : Scope} {a : Addr} {ccd : Value} {cl : List (PySem.Str × Addr)} {outer : List Env} {A₀ : Around} {base h₀ : Heap} {L : Addr} {m : PySem.Str → Option Value} {news : List (Addr × Obj)} {s : Shared}
local macro_rules | `(tactic| walk_at "call builtin:str.join") => `(tactic| (k_here; k_dflt (refine' join_rows ?k1 ?k2 ?k3 ?k4 ?_; (case k1 => k_asm); (case k2 => k_mem); (case k3 => rfl); (case k4 => rfl)); intro t' k'))
local macro_rules | `(tactic| walk_at "call builtin:str.split") => `(tactic| (k_here; k_dflt (refine' split_table ?k1 ?k2 ?_; (case k1 => k_asm); (case k2 => k_asm)); intro D' l' h' k' e' F' N' l1'))
set_option maxHeartbeats 4000000 in
theorem c_table {Q E : Value → Shared → Prop}
    (B : Below A₀ base outer h₀) (F : Fr h₀ L s.heap m) (X : (frag.heap_1 w.params).In h₀) (N : News h₀ L s.heap news) (T : Top view LS mean mg mb h₀) (hk : cs.kind = .function)
    (hdp : dp + 6 < recursionLimit) (hun : un + 20 < cLine) 
    (ret : ∀ D l h' t', TabOf l → Fr h₀ L h' m → News h₀ L h' ((D, listOf (strValues l).toArray 0) :: news) → (∀ p ∈ news, p.1 < D) → Q (.ref D) { s with heap := h', toks := t' }) :
    wpAny (model prog w) (Ar hd dp un gd cn cs L a ccd cl outer) (call (.ref 279) [] []) Q E s := by
  w_on
  refine wpAny_call ?_
  k_dflt ktr_enter
  k_steps
  all_goals (rename News _ _ _ _ => kN9; (with_reducible rename List.map _ _ = TW => e9); (with_reducible rename (∀ p ∈ _, Prod.fst p < _) => l9); exact ret _ _ _ _ ⟨e9⟩ (by assumption) (drop2 kN9) (lt2 l9))
end
end Mine
end
-- C5
section
open PySem PySem.W PySem.Calls PyProof.Rows
set_option Elab.async false
set_option maxRecDepth 100000
namespace Mine
section
variable {w : World} {mean : ExcName → Option Value} {mg mb : PySem.Str → Option Value} {dp un : Nat} {gd : Option (List Code)} {cn : PySem.Str} {cs : Scope} {a : Addr} {ccd : Value} {A₀ : Around} {base h₀ : Heap} {L : Addr} {m : PySem.Str → Option Value} {news : List (Addr × Obj)} {s : Shared}
theorem c_answers {x : PySem.Str} {tk : Tok} {Q E : Value → Shared → Prop} {b : Bool}
    (B : Below A₀ base [] h₀) (F : Fr h₀ L s.heap m) (X : (frag.heap_1 w.params).In h₀) (XB : (frag.heap_1 w.params).In base) (N : News h₀ L s.heap news) (T : Top view LS mean mg mb h₀) (TB : Top view LS mean mg mb base) (hk : cs.kind = .function)
    (hdp : dp + 10 < 1000) (hun : un + 80 < 1000) (hf : Free x) (hb : IsIn x b)
    (ret : ∀ h' tk', Fr h₀ L h' m → News h₀ L h' news → Q (.bool true) { s with heap := h', toks := tk' }) :
    wpAny (model prog w) (Ar none dp un gd cn cs L a ccd [] []) (call (.ref 286) [.str x tk, .bool b] []) Q E s := by
  have hr := (res_law hf.free).trans hb.is
  have hx : x.length ≤ 1000 := Nat.le_trans hf.size (by decide)
  cases b
  · exact c_answersF B F X N T hk hdp hun hx hr ret
  · exact c_answersT B F X XB N T TB hk hdp hun hx hr ret
end
end Mine
end
-- C6
section
open PySem PySem.W PySem.Calls PyProof.Rows Builtin Builtin.Str
set_option Elab.async false
set_option maxRecDepth 100000
namespace Mine
theorem Free.slice {x : PySem.Str} (h : Free x) (l u : Option Int) : Free (Txt.slice x l u) := by
  unfold Txt.slice
  split
  · exact h
  · refine ⟨fun q => ?_, ?_⟩
    · obtain ⟨i, _, e⟩ := List.mem_filterMap.mp q
      obtain ⟨hi, e⟩ := Array.getElem?_eq_some_iff.mp e
      exact h.free (e ▸ Array.getElem_mem_toList hi)
    · have h1 := sliceIndices_le l u x.length
      have h2 := List.length_filterMap_le (x.cps[·]?) (strSliceIndices l u 1 x.length)
      have h3 := h.size
      show (List.toArray _).size ≤ 100
      rw [List.size_toArray]
      omega
section
variable {prog : Program} {w : World} {A : Around} {E : Value → Shared → Prop} {s : Shared} {h₀ : Heap} {L : Addr} {m : PySem.Str → Option Value} {news : List (Addr × Obj)} {Q : Value → Shared → Prop}
theorem slice_tab {value slice : Expr} {x : PySem.Str} {t : Tok} {j : Int} {uj : Tok} (hx : WordOf x) (hF : Fr h₀ L s.heap m) (hN : News h₀ L s.heap news) (h : ∀ y h' t' k, Fr h₀ L h' m → News h₀ L h' news → Free y → Q (.str y t') { s with heap := h', toks := k })
    (hs : subscripted slice false (.str x t) (.ref s.heap.objs.size) = operate [.ref s.heap.objs.size, .str x t] (getItem (.str x t) (.ref s.heap.objs.size)) := by with_unfolding_all rfl)
    (ht : ∀ r, letTemporaryGo value (.str x t) r = pure () := by intro _; with_unfolding_all rfl) :
    wpAny (model prog w) A (subscriptTail value slice (.str x t) (.ref s.heap.objs.size)) Q E { s with heap := s.heap.push { cls := .type "slice", data := .fields #[.none, .int j uj, .none] } } :=
  slice_strN_ns hF hN (fun h' t' k a b => h _ h' t' k a b (hx.free.slice none (some j))) hs ht (by have := hx.free.size; rw [sizeLine_eq]; omega)
theorem add_tab {x : PySem.Str} {t u : Tok} (hx : WordOf x) (h : ∀ y t' tk, Free y → Q (.str y t') { s with toks := tk }) : wpAny (model prog w) A (binaryOp .Add (.str x t) (.str "S" u)) Q E s :=
  add_str (fun t' tk => h _ t' tk hx.addS) (by have := hx.free.size; rw [sizeLine_eq, S_is]; show _ + 1 ≤ _; omega)
end
section
variable {prog : Program} {w : World} {A : Around} {E : Value → Shared → Prop} {s : Shared} {env : Env} {h₀ : Heap} {x y : PySem.Str} {body : List Stmt} {Q : Flow → Shared → Prop}
theorem range_inv {r : Addr} {a₀ b₀ c : Int} {t₀ u₀ v₀ : Tok} {m₀ : PySem.Str → Option Value} {news : List (Addr × Obj)} (y : PySem.Str) (n : Nat)
    (hh : A.handled = none) (hr : IsRange s.heap r a₀ b₀ c t₀ u₀ v₀) (hsmall : Builtin.Range.small a₀ b₀ c = true) (hn : Builtin.Range.rangeSize a₀ b₀ c = (n : Int)) (F : Fr h₀ env.locals s.heap m₀) (N : News h₀ env.locals s.heap news)
    (turn : ∀ (i : Nat) (u : PySem.Str → Option Value) t h tk I oI, i < n → Fr h₀ env.locals h (fun z => if z = x then some (.int (a₀ + (i : Int) * c) t) else if z = y then u z else m₀ z) → News h₀ env.locals h ((I, oI) :: news) → (∀ p ∈ news, p.1 ≠ I) →
      wpAny (model prog w) A (execs body env) (InvPost h₀ env.locals (fun m' => ∀ z, z ≠ x → z ≠ y → m' z = m₀ z) ((I, oI) :: news) { s with heap := h, toks := tk } Q) E { s with heap := h, toks := tk })
    (done : ∀ (u : PySem.Str → Option Value) h tk, Fr h₀ env.locals h (fun z => if z = x then u z else if z = y then u z else m₀ z) → News h₀ env.locals h news → Q .next { s with heap := h, toks := tk }) :
    wpAny (model prog w) A (pyIter (.ref r)) (fun it s₂ => LoopAtV prog w A h₀ env x body Q E it s₂) E s := by
  refine wpAny_pyIter_range hr hsmall ?_
  have W : Walks prog w A s.heap.objs.size [s.heap.objs.size] [s.heap.objs.size] n (fun i v => i < n ∧ ∃ t, v = .int (a₀ + i * c) t)
      (fun i h => IsRangeIter h s.heap.objs.size (a₀ + (i : Nat) * c) ((n : Int) - (i : Nat)) c) := (Walks.range hh _ a₀ c n).bound
  let J : (PySem.Str → Option Value) → Prop := fun m' => ∀ z, z ≠ x → z ≠ y → m' z = m₀ z
  let J' : Nat → (PySem.Str → Option Value) → List (Addr × Obj) → Prop := fun i m₁ news₁ => news₁ = news ∧ J m₁
  refine ⟨_, _, _, n, _, _, m₀, news, J', rfl, W, ?_, ?_, ?_, (by show IsRangeIter _ _ _ _ _; rw [hn]; simpa using Heap.get?_push_size _ rfl), F.push _, (fun p hp => ⟨Heap.get?_push_of_some _ (N p hp).1, (N p hp).2⟩), ⟨rfl, fun _ _ _ => rfl⟩, ?_, ?_⟩
  · intro hm
    exact absurd F.ns.lt ((List.mem_singleton.mp hm) ▸ Nat.lt_irrefl _)
  · intro b hb
    rw [List.mem_singleton.mp hb]
    exact next_is_new F
  · intro p hp hI
    exact absurd (Heap.lt_size (N p hp).1) ((List.mem_singleton.mp hI) ▸ Nat.lt_irrefl _)
  · rintro i v m₁ news₁ s₁ own ⟨hh', tk', rfl⟩ hin ⟨_, t, rfl⟩ ⟨rfl, hJ⟩ hoff hown hget hall hst F₁ N₁
    have e : (fun z => if z = x then some (Value.int (a₀ + (i : Int) * c) t) else m₁ z) = fun z => if z = x then some (Value.int (a₀ + (i : Int) * c) t) else if z = y then m₁ z else m₀ z := by
      funext z
      by_cases h1 : z = x
      · simp [h1]
      · simp only [if_neg h1]
        by_cases h2 : z = y
        · simp [h2]
        · simp only [if_neg h2]; exact hJ z h1 h2
    rw [e] at F₁
    have ho : ∃ oI, hh'.get? s.heap.objs.size = some oI := ⟨_, hst⟩
    obtain ⟨oI, hoI⟩ := ho
    have hmem : ∀ p ∈ own ++ news₁, p ∈ (s.heap.objs.size, oI) :: news₁ := fun p hp => by
      rcases List.mem_append.mp hp with hp | hp
      · have h1 := List.mem_singleton.mp (hown p hp)
        have h2 := hget p hp
        rw [h1] at h2
        have h3 : some p.2 = some oI := h2.symm.trans hoI
        have : p = (s.heap.objs.size, oI) := Prod.ext h1 (Option.some.inj h3)
        rw [this]; exact .head _
      · exact .tail _ hp
    have N₂ : News h₀ env.locals hh' ((s.heap.objs.size, oI) :: news₁) := fun p hp => by
      rcases List.mem_cons.mp hp with rfl | hp
      · exact N₁ _ (List.mem_append_left _ (hall _ (.head _) (next_is_new F) oI hoI))
      · exact N₁ _ (List.mem_append_right _ hp)
    refine wpAny_mono (turn i m₁ t hh' tk' _ oI hin F₁ N₂ (fun p hp q => hoff p hp (q ▸ .head _))) (fun f s₂ p => ?_) fun _ _ e => e
    have fin : InvEnd h₀ env.locals J ((s.heap.objs.size, oI) :: news₁) { s with heap := hh', toks := tk' } s₂ → LoopStepU h₀ env.locals [s.heap.objs.size] own (J' (i + 1)) { s with heap := hh', toks := tk' } .next s₂ := by
      rintro ⟨h', tk, m', news', e, F', N', hn, hm⟩
      exact ⟨rfl, h', tk, m', news₁, e, F', fun p hp => N' p (hn p (hmem p hp)), hoff, rfl, hm⟩
    cases f with
    | ret v => exact .ret p
    | brk => exact .brk p
    | next => exact .next (fin p)
    | cont => exact .cont (fin p)
  · rintro h' tk m' news' F' N' _ ⟨rfl, hJ⟩
    have e : (fun z => if z = x then m' z else if z = y then m' z else m₀ z) = m' := by
      funext z
      by_cases h1 : z = x
      · simp [h1]
      · simp only [if_neg h1]
        by_cases h2 : z = y
        · simp [h2]
        · simp only [if_neg h2]; exact (hJ z h1 h2).symm
    exact done m' h' tk (by rw [e]; exact F') N'
end
theorem inv_keep {x y : PySem.Str} {m₀ m' : PySem.Str → Option Value} (h : m' = fun z => if z = y then m' y else if z = x then m' x else m₀ z) : ∀ z, z ≠ x → z ≠ y → m' z = m₀ z := fun z h1 h2 => by
  rw [h]; simp [h1, h2]
theorem range16 {a : Int} (h0 : 0 ≤ a) (h1 : a < 16) : Builtin.Range.small a 237 16 = true ∧ ∃ n : Nat, Builtin.Range.rangeSize a 237 16 = (n : Int) ∧ ∀ i : Nat, i < n → a + (i : Int) * 16 < 237 := by
  have : a = 0 ∨ a = 1 ∨ a = 2 ∨ a = 3 ∨ a = 4 ∨ a = 5 ∨ a = 6 ∨ a = 7 ∨ a = 8 ∨ a = 9 ∨ a = 10 ∨ a = 11 ∨ a = 12 ∨ a = 13 ∨ a = 14 ∨ a = 15 := by omega
  rcases this with rfl | rfl | rfl | rfl | rfl | rfl | rfl | rfl | rfl | rfl | rfl | rfl | rfl | rfl | rfl | rfl
  all_goals first
    | exact ⟨by decide +kernel, 15, by decide +kernel, fun i hi => by omega⟩
    | exact ⟨by decide +kernel, 14, by decide +kernel, fun i hi => by omega⟩
section
variable {prog : Program} {w : World} {A : Around} {E : Value → Shared → Prop} {s : Shared} {env : Env} {h₀ : Heap} {x : PySem.Str} {body : List Stmt} {Q : Flow → Shared → Prop}
theorem loop_table {r : Addr} {e : Int} {t₀ u₀ v₀ : Tok} {m₀ : PySem.Str → Option Value} {news : List (Addr × Obj)} (y : PySem.Str)
    (hh : A.handled = none) (hr : IsRange s.heap r (Int.fmod e 16) 237 16 t₀ u₀ v₀) (F : Fr h₀ env.locals s.heap m₀) (N : News h₀ env.locals s.heap news)
    (turn : ∀ (k : Int) (u : PySem.Str → Option Value) t h tk I oI, 0 ≤ k → k < 237 → Fr h₀ env.locals h (fun z => if z = x then some (.int k t) else if z = y then u z else m₀ z) → News h₀ env.locals h ((I, oI) :: news) → (∀ p ∈ news, p.1 ≠ I) →
      wpAny (model prog w) A (execs body env) (InvPost h₀ env.locals (fun m' => ∀ z, z ≠ x → z ≠ y → m' z = m₀ z) ((I, oI) :: news) { s with heap := h, toks := tk } Q) E { s with heap := h, toks := tk })
    (done : ∀ (u : PySem.Str → Option Value) h tk, Fr h₀ env.locals h (fun z => if z = x then u z else if z = y then u z else m₀ z) → News h₀ env.locals h news → Q .next { s with heap := h, toks := tk }) :
    wpAny (model prog w) A (pyIter (.ref r)) (fun it s₂ => LoopAtV prog w A h₀ env x body Q E it s₂) E s := by
  have h0 : 0 ≤ Int.fmod e 16 := Int.fmod_nonneg_of_pos e (by decide)
  have h1 : Int.fmod e 16 < 16 := Int.fmod_lt_of_pos e (by decide)
  obtain ⟨hs, n, hn, hb⟩ := range16 h0 h1
  exact range_inv y n hh hr hs hn F N (fun i u t h tk I oI hi => turn _ u t h tk I oI (by omega) (hb i hi)) done
end
noncomputable def SIGNS : PySem.Str := PySem.Str.ofString "ABCDEFGHIJKLMNOPQRSTUVWXYZ0123456789"
theorem signs_is : SIGNS = ⟨#[65, 66, 67, 68, 69, 70, 71, 72, 73, 74, 75, 76, 77, 78, 79, 80, 81, 82, 83, 84, 85, 86, 87, 88, 89, 90, 48, 49, 50, 51, 52, 53, 54, 55, 56, 57]⟩ := by kernel_rfl
noncomputable def letOf (k : Int) : PySem.Str := Txt.item SIGNS (Int.fmod k 36)
structure Short (y : PySem.Str) : Prop where
  free : 32 ∉ y.cps.toList
  size : y.length ≤ 20
theorem letOf_len (k : Int) : (letOf k).length = 1 := rfl
theorem letOf_free (k : Int) : 32 ∉ (letOf k).cps.toList := by
  unfold letOf Txt.item
  show 32 ∉ [(Txt.charAt SIGNS (Int.fmod k 36)).getD 0]
  intro q
  have q := List.mem_singleton.mp q
  cases hc : Txt.charAt SIGNS (Int.fmod k 36) with
  | none => rw [hc] at q; exact absurd q (by decide)
  | some c =>
    rw [hc] at q
    have q : 32 = c := q
    subst q
    unfold Txt.charAt at hc
    obtain ⟨i, _, e⟩ := Option.bind_eq_some_iff.mp hc
    have hm : 32 ∈ SIGNS.cps.toList := Array.mem_toList_iff.mpr (Array.mem_of_getElem? e)
    rw [signs_is] at hm
    exact absurd hm (by decide +kernel)
theorem join_free : ∀ {l : List PySem.Str}, (∀ a ∈ l, 32 ∉ a.cps.toList) → 32 ∉ (Str.join (PySem.Str.ofString "") l).cps.toList
  | [], _ => fun h => by cases h
  | [x], h => h x (.head _)
  | x :: y :: r, h => by
    have ih := join_free (l := y :: r) (fun a ha => h a (.tail _ ha))
    show 32 ∉ (x ++ PySem.Str.ofString "" ++ Str.join (PySem.Str.ofString "") (y :: r)).cps.toList
    rw [Str.cps_append, Str.cps_append, Array.toList_append, Array.toList_append, List.mem_append, List.mem_append]
    rintro ((q | q) | q)
    · exact h x (.head _) q
    · cases q
    · exact ih q
theorem W_is : (PySem.Str.ofString "W") = ⟨#[87]⟩ := by kernel_rfl
theorem Short.addW {y : PySem.Str} (h : Short y) : Free (PySem.Str.ofString "W" ++ y) := by
  have e : (PySem.Str.ofString "W" ++ y : PySem.Str).cps.toList = 87 :: y.cps.toList := by rw [W_is, Str.cps_append, Array.toList_append]; rfl
  refine ⟨?_, ?_⟩
  · rw [e]
    intro q
    rcases List.mem_cons.mp q with q | q
    · exact absurd q (by decide)
    · exact h.free q
  · show (PySem.Str.ofString "W" ++ y : PySem.Str).cps.size ≤ 100
    rw [← Array.length_toList, e, List.length_cons, Array.length_toList]
    have : y.cps.size ≤ 20 := h.size
    omega
theorem let_short {ns : List Int} (h : ns.length ≤ 20) : Short (Txt.join (PySem.Str.ofString "") (ns.map letOf)) := by
  refine ⟨?_, ?_⟩
  · show 32 ∉ (Builtin.Str.glued (PySem.Str.ofString "") (ns.map letOf)).cps.toList
    rw [StrLaws.glued_eq_join]
    refine join_free fun a ha => ?_
    obtain ⟨k, _, rfl⟩ := List.mem_map.mp ha
    exact letOf_free k
  · rw [KT.join_ones _ (fun a ha => by obtain ⟨k, _, rfl⟩ := List.mem_map.mp ha; exact letOf_len k), List.length_map]
    exact h
section
variable {prog : Program} {w : World} {A : Around} {E : Value → Shared → Prop} {s : Shared} {h₀ : Heap} {L : Addr} {m : PySem.Str → Option Value} {news : List (Addr × Obj)} {Q : Value → Shared → Prop}
theorem item_let {value slice : Expr} {k : Int} {t u : Tok} (h : ∀ t' k', Q (.str (letOf k) t') { s with toks := k' })
    (hs : subscripted slice false (.str (PySem.Str.ofString "ABCDEFGHIJKLMNOPQRSTUVWXYZ0123456789") t) (.int (Int.fmod k 36) u) = operate [.str (PySem.Str.ofString "ABCDEFGHIJKLMNOPQRSTUVWXYZ0123456789") t, .int (Int.fmod k 36) u] (getItem (.str (PySem.Str.ofString "ABCDEFGHIJKLMNOPQRSTUVWXYZ0123456789") t) (.int (Int.fmod k 36) u)) := by with_unfolding_all rfl)
    (ht : ∀ r, letTemporaryGo value (.str (PySem.Str.ofString "ABCDEFGHIJKLMNOPQRSTUVWXYZ0123456789") t) r = pure () := by intro _; with_unfolding_all rfl) :
    wpAny (model prog w) A (subscriptTail value slice (.str (PySem.Str.ofString "ABCDEFGHIJKLMNOPQRSTUVWXYZ0123456789") t) (.int (Int.fmod k 36) u)) Q E s := by
  have h0 : 0 ≤ Int.fmod k 36 := Int.fmod_nonneg_of_pos k (by decide)
  have h1 : Int.fmod k 36 < 36 := Int.fmod_lt_of_pos k (by decide)
  have hl : SIGNS.length = 36 := by rw [signs_is]; rfl
  exact KXi.item (x := SIGNS) (n := 36) hl (by omega) (by omega) (by decide) (fun _ => h _ _) hs ht
theorem join_let {D : Addr} {ys : List Value} {n : Nat} {ns : List Int} {t : Tok} (N : News h₀ L s.heap news) (hm : (D, listOf ys.toArray n) ∈ news) (hc : CarriedAll ys ((List.take 20 ns).map fun k => PyData.str (letOf k)))
    (h : ∀ y t' k, Short y → Q (.str y t') { s with toks := k }) : wpAny (model prog w) A (call (.builtin "str.join") [.str (PySem.Str.ofString "") t, .ref D]) Q E s :=
  KT.join_1 (l := List.take 20 ns) (g := letOf) ⟨_, (N _ hm).1, rfl, n, rfl⟩ hc (fun a _ => letOf_len a) (Nat.le_trans (List.length_take_le 20 ns) (by decide)) fun t' k _ => h _ t' k (let_short (List.length_take_le 20 ns))
theorem join_let1 {D : Addr} {k : Int} {t1 : Tok} {n : Nat} {t : Tok} (N : News h₀ L s.heap news) (hm : (D, listOf #[.str (letOf k) t1] n) ∈ news)
    (h : ∀ y t' k, Short y → Q (.str y t') { s with toks := k }) : wpAny (model prog w) A (call (.builtin "str.join") [.str (PySem.Str.ofString "") t, .ref D]) Q E s :=
  join_let (ns := [k]) (ys := [.str (letOf k) t1]) N hm (.cons (.str _ _) .nil) h
theorem add_W {y : PySem.Str} {t u : Tok} (hy : Short y) (h : ∀ z t' tk, Free z → Q (.str z t') { s with toks := tk }) : wpAny (model prog w) A (binaryOp .Add (.str (PySem.Str.ofString "W") t) (.str y u)) Q E s :=
  add_str (fun t' tk => h _ t' tk hy.addW) (by have := hy.size; rw [sizeLine_eq, W_is]; show 1 + _ ≤ _; omega)
theorem ktEl {news news' : List (Addr × Obj)} {k : Int} {t : Tok} (h : news' = news) : KCtEl news (letOf k) (.str (letOf k) t) news' := ⟨h, t, rfl⟩
end
end Mine
end
-- W2a
section
open PySem PySem.W PySem.Calls PyProof.Rows Builtin Builtin.Str
set_option pp.deepTerms false
set_option pp.deepTerms.threshold 6
set_option pp.maxSteps 20000
set_option format.width 180
set_option Elab.async false
set_option maxRecDepth 100000
namespace Mine
theorem reg8 : PySem.Challenge.rw_og0089_02 = PySem.Challenge.rw_og0089_02 ∧ frag.heap_1 = frag.heap_1 := by k_fill; exact ⟨rfl, rfl⟩
local macro_rules | `(tactic| walk_at "call ref") => `(tactic| (k_here; k_dflt (refine' c_table ?k1 ?k2 ?k3 ?k4 ?k5 ?k6 ?k7 ?k8 ?_; (case k1 => k_asm); (case k2 => k_asm); (case k3 => k_in); (case k4 => k_asm); (case k5 => k_asm); (case k6 => first | rfl | assumption); (case k7 => decide); (case k8 => decide)); intro D' l' h' tk' tab' F' N' l1'))
local macro_rules | `(tactic| walk_at "call ref") => `(tactic| (k_here; k_dflt (refine' c_answers ?k1 ?k2 ?k3 ?kx ?k4 ?k5 ?kt ?k6 ?k7 ?k8 ?kf ?kb ?_; (case kb => assumption); (case kf => first | assumption | exact WordOf.free (by assumption)); (case k1 => k_asm); (case k2 => k_asm); (case k3 => k_in); (case kx => k_in); (case k4 => k_asm); (case k5 => k_asm); (case kt => assumption); (case k6 => first | rfl | assumption); (case k7 => decide); (case k8 => decide)); intro h' tk' F' N'))
local macro_rules | `(tactic| walk_at "call builtin:len") => `(tactic| (k_here; k_dflt (refine' len_tab ?k1 ?k2 ?k3 ?_; (case k1 => k_asm); (case k2 => k_mem); (case k3 => assumption))))
local macro_rules | `(tactic| walk_at "subscriptTail") => `(tactic| (k_here; first
  | (k_dflt (refine' item_tab ?k1 ?k2 ?k3 ?k4 ?k5 ?_; (case k1 => k_asm); (case k2 => k_mem); (case k3 => assumption); (case k4 => assumption); (case k5 => assumption)); k_whole; intro x' t' w')
  | (k_dflt (refine' slice_tab ?k1 ?k2 ?k3 ?_; (case k1 => assumption); (case k2 => k_asm); (case k3 => k_asm)); k_whole; intro y' h' t' tk' F' N' f')))
local macro_rules | `(tactic| walk_at "subscriptTail") => `(tactic| (k_here; (with_reducible refine item_let ?_); intro t' tk'))
local macro_rules | `(tactic| walk_at "binaryOp Add str str") => `(tactic| (k_here; first
  | (with_reducible (refine' add_W ?k1 ?_; (case k1 => assumption)); intro y' t' tk' f')
  | (with_reducible (refine' add_tab ?k1 ?_; (case k1 => assumption)); intro y' t' tk' f')))
local macro_rules | `(tactic| walk_at "call builtin:str.join") => `(tactic| (k_here; first
  | (k_dflt (refine' join_let ?k1 ?k2 ?k3 ?_; (case k1 => k_asm); (case k2 => k_mem); (case k3 => assumption)); intro y' t' tk' f')
  | (k_dflt (refine' join_let1 ?k1 ?k2 ?_; (case k1 => k_asm); (case k2 => k_mem)); intro y' t' tk' f')))
local macro_rules | `(tactic| walk_at "CompSrc") => `(tactic| (k_here; k_dflt (refine LCg.CompSrc.ledger (by rfl) (by k_asm) (by k_asm) (by k_mem) (by kcf_size) ?_; intro g'; (refine' kct_list letOf (by with_reducible assumption) (fun k' t' I' oI' C' oC' D' m' ys' h' tk' E' hk' hC' hx' F' N' off' ne' => ?_) ?_); (all_goals (try (simp only [LCg.Off3, and_true] at off'))); (all_goals (try ((show KPfMark → _); intro hMark'))); kcf_last)))
local macro_rules | `(tactic| walk_at "KCtEl") => `(tactic| (k_dflt (exact ktEl rfl)))
local macro_rules | `(tactic| walk_at "compareOp In str ref") => `(tactic| (k_here; k_dflt (refine' in_tab ?k1 ?k2 ?k3 ?_; (case k1 => k_asm); (case k2 => k_mem); (case k3 => assumption)); intro b' i'))
local macro_rules | `(tactic| walk_at "pyIter ref") => `(tactic| (k_here; (with_reducible show wpAny _ _ (pyIter (Value.ref _)) (fun it s₂ => LoopAtV _ _ _ _ _ _ _ _ _ it s₂) _ _); (rename IsRange _ _ _ _ _ _ _ _ => rgX); (with_unfolding_all refine' loop_table "word" ?k1 rgX ?k2 ?k3 (fun k' u' t' h' tk' I' oI' h0' h1' F' N' o' => ?_) (fun u' h' tk' F' N' => ?_)); (case k1 => rfl); (case k2 => k_asm); (case k3 => k_asm)))
local macro_rules | `(tactic| walk_at "InvEnd") => `(tactic| (refine InvEnd.intro (by assumption) (by assumption) (by k_sub) (by intro z h1 h2; simp only [if_neg h1, if_neg h2])))
set_option maxHeartbeats 1500000 in
theorem walk : WalkT := by
  intro d kwd hdef
  obtain ⟨rfl, rfl⟩ := Prod.mk.inj (Option.some.inj (show some _ = some _ from hdef))
  clear hdef
  k_go0
  all_goals try k_fold
  k_steps
end Mine
end
-- Top2
section
open PySem PySem.W PyProof.Rows
set_option Elab.async false
set_option maxRecDepth 100000
namespace Mine
theorem road_list {x : PySem.Str} (h : x.cps.toList.all (fun c => c != 123 && c != 125 && c != 46) = true) : roadStr x = false := by
  have H := List.all_eq_true.mp h
  have h1 : x.cps.any (fun c => c == 123 || c == 125) = false := by
    rw [← Array.any_toList]
    rw [List.any_eq_false]
    intro c hc
    have := H c hc
    simp only [Bool.and_eq_true, bne_iff_ne, ne_eq] at this
    simp [this.1.1, this.1.2]
  have h2 : x.cps.any (fun c => c == 46) = false := by
    rw [← Array.any_toList]
    rw [List.any_eq_false]
    intro c hc
    have := H c hc
    simp only [Bool.and_eq_true, bne_iff_ne, ne_eq] at this
    simp [this.2]
  unfold roadStr
  rw [h1, h2]; rfl
theorem str_of {k : Look} {x : PySem.Str} (hw : k.word x = true) (h : x.cps.toList.all (fun c => c != 123 && c != 125 && c != 46) = true) : k.str x = true := by
  unfold Look.str
  rw [hw, road_list h]; simp
theorem road_cons {k : Look} {s : Stmt} {r : List Stmt} : noRoadLSs k (s :: r) = (noRoadLS k s && noRoadLSs k r) := by
  rw [noRoadLSs]
theorem road_app {k : Look} : ∀ {l r : List Stmt}, noRoadLSs k (l ++ r) = (noRoadLSs k l && noRoadLSs k r)
  | [], r => by simp [noRoadLSs]
  | s :: l, r => by rw [List.cons_append, road_cons, road_cons, road_app, Bool.and_assoc]
theorem road_cut {k : Look} {body : List Stmt} (i : Nat) {s : Stmt} (h1 : noRoadLSs k (body.take i) = true) (hs : body[i]? = some s) (h : noRoadLS k s = true) (h2 : noRoadLSs k (body.drop (i + 1)) = true) : noRoadLSs k body = true := by
  have hb : body = body.take i ++ s :: body.drop (i + 1) := by
    have hlt : i < body.length := by
      rcases Nat.lt_or_ge i body.length with h | h
      · exact h
      · rw [List.getElem?_eq_none h] at hs; cases hs
    rw [List.getElem?_eq_getElem hlt] at hs
    cases hs
    rw [List.getElem_cons_drop, List.take_append_drop]
  rw [hb, road_app, road_cons, h1, h, h2]; rfl
theorem road_assign {k : Look} {n : PySem.Str} {pn p q : Pos} {x : PySem.Str} {kk : Nat} (hs : k.stores [.Name n pn] = true) (hn : noRoadLs k [.Name n pn] = true) (hx : k.str x = true) :
    noRoadLS k (.Assign [.Name n pn] (.Constant (.str x) kk p) q) = true := by
  rw [noRoadLS, hs, hn, noRoadL, hx]; rfl
theorem road_look {b : Bool} {l : List PySem.Str} {p : List Stmt} (hs : (!b) = true) (hl : l.isEmpty = true) (h : noRoadLSs { strict := false, foot := none, bare := [] } p = true) : noRoadLSs { strict := b, foot := none, bare := l } p = true := by
  cases b
  · rw [List.isEmpty_iff] at hl
    subst hl
    exact h
  · cases hs
theorem road : noRoadLSs { strict := false, foot := none, bare := [] } PySem.Challenge.pw_og0089_02.main.body = true := by
  refine road_cut 5 ?_ rfl (road_assign ?_ ?_ (str_of ?_ ?_)) ?_
  all_goals k_qdec
set_option maxHeartbeats 0 in
theorem looks : looksOpen PySem.Challenge.pw_og0089_02 = true := by
  unfold looksOpen
  repeat' (with_reducible apply look_both)
  case' x.y => 
    with_reducible refine road_look ?_ ?_ ?_
    · decide +kernel
    · k_qdec
    · exact road
  all_goals k_qdec
theorem looks2 : looksOpen PySem.Challenge.rw_og0089_02.row.toRowW.prog = true := looks
set_option maxHeartbeats 0 in
theorem said : PySem.Challenge.rw_og0089_02.wellSaid = true := by
  unfold OpenLaw.wellSaid OpenRow.wellSaid OpenRow.partSaid
  repeat' (with_reducible apply look_both)
  all_goals first
    | with_reducible exact looks2
    | k_qdec
end Mine
namespace Mine
section
local macro_rules | `(tactic| refine PySem.W.holds_open $_*) => do
  let (a, b, c) := (Lean.mkIdent `hl, Lean.mkIdent `hw, Lean.mkIdent `hc)
  `(tactic| refine @holds_open PySem.Challenge.rw_og0089_02.row view loose XtV (XL view []) _ (Hook.obs HV) (Hook.val HV) (Hook.says HV) _ _ 3796 ?$a (Hook.of HV) (Hook.keeps HV) (fun s e => xl_of s (Bool.and_eq_true_iff.mp e).1) XL.keeps (by rfl) (by rfl) (by rfl) (fun s e => recFacts_of (Bool.and_eq_true_iff.mp e).2) (by rfl) (by assumption) (by decide +kernel) ⟨rfl, rfl, rfl, rfl, rfl, by decide +kernel⟩ ?$b ?$c)
set_option Elab.async true
set_option maxHeartbeats 8000000
theorem holds.tw11734026912317775079 : True := trivial
theorem holds.tw12502770400686723565 : True := trivial
theorem holds.tw13508559576624279920 : True := trivial
theorem holds.tw14666900244401265025 : True := trivial
theorem holds.tw14864324585774115465 : True := trivial
theorem holds.tw15068483726869450994 : True := trivial
theorem holds.tw15864543535133235901 : True := trivial
theorem holds.tw2099467365137724275 : True := trivial
theorem holds.tw3096042556717091049 : True := trivial
theorem holds.tw3559540341332707239 : True := trivial
theorem holds.tw5926597645957970899 : True := trivial
theorem holds.tw7763344658700670257 : True := trivial
theorem holds.tw930600585047147540 : True := trivial
theorem holds : PySem.Challenge.rw_og0089_02.Holds := by
  w_on
  refine holds_law Mine.said fun said => ?_
  o_head (kHook frag.heap_1 KAs keysOf)
  (case hw => w_witness2)
  exact walk _ _ rfl
end
end Mine
end
theorem PySem.Challenge.cw_og0089_02_holds : PySem.Challenge.rw_og0089_02.Holds := by
  exact Mine.holds
