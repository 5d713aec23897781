import PyProof.Rows.All
import Wide.All
import OpenK.AllK
import Wide.FinOn
import PySem.Challenge.RW_og0089_01
-- Base1
section
open PySem PySem.W PyProof.Rows
set_option Elab.async false
set_option maxRecDepth 100000
namespace Mine
section
local macro_rules | `(tactic| o_head $H) => `(tactic| (have hk := $H; assumption))
theorem frag (h : PySem.Challenge.rw_og0089_01.row.Holds) : PySem.Challenge.rw_og0089_01.row.Holds := by k_head
end
noncomputable def RESl : List Nat := [32, 65, 67, 67, 69, 80, 84, 32, 65, 67, 67, 69, 83, 83, 32, 65, 68, 68, 32, 65, 68, 86, 65, 78, 67, 73, 78, 71, 32, 65, 70, 84, 69, 82, 32, 65, 76, 76, 32, 65, 76, 80, 72, 65, 66, 69, 84, 73, 67, 32, 65, 76, 80, 72, 65, 66, 69, 84, 73, 67, 45, 76, 79, 87, 69, 82, 32, 65, 76, 80, 72, 65, 66, 69, 84, 73, 67, 45, 85, 80, 80, 69, 82, 32, 65, 76, 80, 72, 65, 78, 85, 77, 69, 82, 73, 67, 32, 65, 76, 80, 72, 65, 78, 85, 77, 69, 82, 73, 67, 45, 69, 68, 73, 84, 69, 68, 32, 65, 76, 83, 79, 32, 65, 76, 84, 69, 82, 78, 65, 84, 69, 32, 65, 78, 68, 32, 65, 78, 89, 32, 65, 82, 69, 32, 65, 82, 69, 65, 32, 65, 82, 69, 65, 83, 32, 65, 83, 67, 69, 78, 68, 73, 78, 71, 32, 65, 83, 83, 73, 71, 78, 32, 65, 84, 32, 65, 85, 84, 72, 79, 82, 32, 66, 69, 70, 79, 82, 69, 32, 66, 73, 78, 65, 82, 89, 32, 66, 76, 65, 78, 75, 32, 66, 76, 79, 67, 75, 32, 66, 89, 32, 67, 65, 76, 76, 32, 67, 72, 65, 82, 65, 67, 84, 69, 82, 32, 67, 72, 65, 82, 65, 67, 84, 69, 82, 83, 32, 67, 76, 79, 83, 69, 32, 67, 79, 77, 80, 32, 67, 79, 77, 80, 45, 51, 32, 67, 79, 77, 80, 85, 84, 65, 84, 73, 79, 78, 65, 76, 32, 67, 79, 77, 80, 85, 84, 65, 84, 73, 79, 78, 65, 76, 45, 51, 32, 67, 79, 77, 80, 85, 84, 69, 32, 67, 79, 78, 70, 73, 71, 85, 82, 65, 84, 73, 79, 78, 32, 67, 79, 78, 84, 65, 73, 78, 83, 32, 67, 79, 78, 84, 69, 78, 84, 32, 67, 79, 78, 84, 73, 78, 85, 69, 32, 67, 79, 78, 86, 69, 82, 84, 73, 78, 71, 32, 67, 79, 80, 89, 32, 67, 79, 82, 82, 32, 67, 79, 82, 82, 69, 83, 80, 79, 78, 68, 73, 78, 71, 32, 67, 79, 85, 78, 84, 32, 68, 65, 84, 65, 32, 68, 65, 84, 69, 45, 67, 79, 77, 80, 73, 76, 69, 68, 32, 68, 65, 84, 69, 45, 87, 82, 73, 84, 84, 69, 78, 32, 68, 69, 76, 69, 84, 69, 32, 68, 69, 76, 73, 77, 73, 84, 69, 68, 32, 68, 69, 76, 73, 77, 73, 84, 69, 82, 32, 68, 69, 80, 69, 78, 68, 73, 78, 71, 32, 68, 69, 83, 67, 69, 78, 68, 73, 78, 71, 32, 68, 73, 83, 80, 76, 65, 89, 32, 68, 73, 86, 73, 68, 69, 32, 68, 73, 86, 73, 83, 73, 79, 78, 32, 68, 79, 87, 78, 32, 68, 85, 80, 76, 73, 67, 65, 84, 69, 83, 32, 68, 89, 78, 65, 77, 73, 67, 32, 69, 76, 83, 69, 32, 69, 78, 68, 32, 69, 78, 68, 45, 65, 68, 68, 32, 69, 78, 68, 45, 67, 65, 76, 76, 32, 69, 78, 68, 45, 67, 79, 77, 80, 85, 84, 69, 32, 69, 78, 68, 45, 68, 69, 76, 69, 84, 69, 32, 69, 78, 68, 45, 68, 73, 86, 73, 68, 69, 32, 69, 78, 68, 45, 69, 86, 65, 76, 85, 65, 84, 69, 32, 69, 78, 68, 45, 73, 70, 32, 69, 78, 68, 45, 77, 85, 76, 84, 73, 80, 76, 89, 32, 69, 78, 68, 45, 80, 69, 82, 70, 79, 82, 77, 32, 69, 78, 68, 45, 82, 69, 65, 68, 32, 69, 78, 68, 45, 82, 69, 84, 85, 82, 78, 32, 69, 78, 68, 45, 82, 69, 87, 82, 73, 84, 69, 32, 69, 78, 68, 45, 83, 69, 65, 82, 67, 72, 32, 69, 78, 68, 45, 83, 84, 65, 82, 84, 32, 69, 78, 68, 45, 83, 84, 82, 73, 78, 71, 32, 69, 78, 68, 45, 83, 85, 66, 84, 82, 65, 67, 84, 32, 69, 78, 68, 45, 85, 78, 83, 84, 82, 73, 78, 71, 32, 69, 78, 68, 45, 87, 82, 73, 84, 69, 32, 69, 78, 86, 73, 82, 79, 78, 77, 69, 78, 84, 32, 69, 81, 85, 65, 76, 32, 69, 82, 82, 79, 82, 32, 69, 86, 65, 76, 85, 65, 84, 69, 32, 69, 88, 67, 69, 80, 84, 73, 79, 78, 32, 69, 88, 73, 84, 32, 69, 88, 84, 69, 78, 68, 32, 69, 88, 84, 69, 82, 78, 65, 76, 32, 70, 65, 76, 83, 69, 32, 70, 68, 32, 70, 73, 76, 69, 32, 70, 73, 76, 69, 45, 67, 79, 78, 84, 82, 79, 76, 32, 70, 73, 76, 76, 69, 82, 32, 70, 73, 82, 83, 84, 32, 70, 79, 82, 32, 70, 82, 79, 77, 32, 71, 73, 86, 73, 78, 71, 32, 71, 76, 79, 66, 65, 76, 32, 71, 79, 32, 71, 82, 69, 65, 84, 69, 82, 32, 72, 73, 71, 72, 45, 86, 65, 76, 85, 69, 32, 72, 73, 71, 72, 45, 86, 65, 76, 85, 69, 83, 32, 73, 45, 79, 32, 73, 45, 79, 45, 67, 79, 78, 84, 82, 79, 76, 32, 73, 68, 69, 78, 84, 73, 70, 73, 67, 65, 84, 73, 79, 78, 32, 73, 70, 32, 73, 78, 32, 73, 78, 68, 69, 88, 32, 73, 78, 68, 69, 88, 69, 68, 32, 73, 78, 73, 84, 73, 65, 76, 32, 73, 78, 73, 84, 73, 65, 76, 73, 90, 69, 32, 73, 78, 80, 85, 84, 32, 73, 78, 80, 85, 84, 45, 79, 85, 84, 80, 85, 84, 32, 73, 78, 83, 80, 69, 67, 84, 32, 73, 78, 83, 84, 65, 76, 76, 65, 84, 73, 79, 78, 32, 73, 78, 84, 79, 32, 73, 78, 86, 65, 76, 73, 68, 32, 73, 83, 32, 74, 85, 83, 84, 32, 74, 85, 83, 84, 73, 70, 73, 69, 68, 32, 75, 69, 89, 32, 76, 65, 66, 69, 76, 32, 76, 69, 65, 68, 73, 78, 71, 32, 76, 69, 70, 84, 32, 76, 69, 83, 83, 32, 76, 73, 78, 69, 32, 76, 73, 78, 69, 83, 32, 76, 73, 78, 75, 65, 71, 69, 32, 76, 79, 67, 75, 32, 76, 79, 87, 45, 86, 65, 76, 85, 69, 32, 76, 79, 87, 45, 86, 65, 76, 85, 69, 83, 32, 77, 69, 82, 71, 69, 32, 77, 79, 68, 69, 32, 77, 79, 86, 69, 32, 77, 85, 76, 84, 73, 80, 76, 89, 32, 78, 65, 84, 73, 86, 69, 32, 78, 69, 71, 65, 84, 73, 86, 69, 32, 78, 69, 88, 84, 32, 78, 79, 32, 78, 79, 84, 32, 78, 85, 77, 69, 82, 73, 67, 32, 78, 85, 77, 69, 82, 73, 67, 45, 69, 68, 73, 84, 69, 68, 32, 79, 66, 74, 69, 67, 84, 45, 67, 79, 77, 80, 85, 84, 69, 82, 32, 79, 67, 67, 85, 82, 83, 32, 79, 70, 32, 79, 70, 70, 32, 79, 77, 73, 84, 84, 69, 68, 32, 79, 78, 32, 79, 80, 69, 78, 32, 79, 80, 84, 73, 79, 78, 65, 76, 32, 79, 82, 32, 79, 82, 68, 69, 82, 32, 79, 82, 71, 65, 78, 73, 90, 65, 84, 73, 79, 78, 32, 79, 84, 72, 69, 82, 32, 79, 85, 84, 80, 85, 84, 32, 79, 86, 69, 82, 70, 76, 79, 87, 32, 80, 65, 67, 75, 69, 68, 45, 68, 69, 67, 73, 77, 65, 76, 32, 80, 69, 82, 70, 79, 82, 77, 32, 80, 73, 67, 32, 80, 73, 67, 84, 85, 82, 69, 32, 80, 79, 73, 78, 84, 69, 82, 32, 80, 79, 83, 73, 84, 73, 86, 69, 32, 80, 82, 79, 67, 69, 68, 85, 82, 69, 32, 80, 82, 79, 67, 69, 69, 68, 32, 80, 82, 79, 71, 82, 65, 77, 32, 80, 82, 79, 71, 82, 65, 77, 45, 73, 68, 32, 81, 85, 79, 84, 69, 32, 81, 85, 79, 84, 69, 83, 32, 82, 65, 78, 68, 79, 77, 32, 82, 69, 65, 68, 32, 82, 69, 67, 79, 82, 68, 32, 82, 69, 67, 79, 82, 68, 83, 32, 82, 69, 68, 69, 70, 73, 78, 69, 83, 32, 82, 69, 70, 69, 82, 69, 78, 67, 69, 32, 82, 69, 76, 65, 84, 73, 86, 69, 32, 82, 69, 76, 69, 65, 83, 69, 32, 82, 69, 77, 65, 73, 78, 68, 69, 82, 32, 82, 69, 78, 65, 77, 69, 83, 32, 82, 69, 80, 76, 65, 67, 69, 32, 82, 69, 80, 76, 65, 67, 73, 78, 71, 32, 82, 69, 84, 85, 82, 78, 32, 82, 69, 87, 82, 73, 84, 69, 32, 82, 73, 71, 72, 84, 32, 82, 79, 85, 78, 68, 69, 68, 32, 82, 85, 78, 32, 83, 65, 77, 69, 32, 83, 68, 32, 83, 69, 65, 82, 67, 72, 32, 83, 69, 67, 84, 73, 79, 78, 32, 83, 69, 67, 85, 82, 73, 84, 89, 32, 83, 69, 76, 69, 67, 84, 32, 83, 69, 78, 84, 69, 78, 67, 69, 32, 83, 69, 80, 65, 82, 65, 84, 69, 32, 83, 69, 81, 85, 69, 78, 84, 73, 65, 76, 32, 83, 69, 84, 32, 83, 73, 71, 78, 32, 83, 73, 90, 69, 32, 83, 79, 82, 84, 32, 83, 79, 82, 84, 45, 77, 69, 82, 71, 69, 32, 83, 79, 85, 82, 67, 69, 45, 67, 79, 77, 80, 85, 84, 69, 82, 32, 83, 80, 65, 67, 69, 32, 83, 80, 65, 67, 69, 83, 32, 83, 80, 69, 67, 73, 65, 76, 45, 78, 65, 77, 69, 83, 32, 83, 84, 65, 78, 68, 65, 82, 68, 32, 83, 84, 65, 82, 84, 32, 83, 84, 65, 84, 85, 83, 32, 83, 84, 79, 80, 32, 83, 84, 82, 73, 78, 71, 32, 83, 85, 66, 84, 82, 65, 67, 84, 32, 83, 89, 78, 67, 32, 83, 89, 78, 67, 72, 82, 79, 78, 73, 90, 69, 68, 32, 84, 65, 76, 76, 89, 73, 78, 71, 32, 84, 69, 83, 84, 32, 84, 72, 65, 78, 32, 84, 72, 69, 78, 32, 84, 72, 82, 79, 85, 71, 72, 32, 84, 72, 82, 85, 32, 84, 73, 77, 69, 83, 32, 84, 79, 32, 84, 82, 65, 73, 76, 73, 78, 71, 32, 84, 82, 85, 69, 32, 85, 78, 83, 84, 82, 73, 78, 71, 32, 85, 78, 84, 73, 76, 32, 85, 80, 32, 85, 80, 79, 78, 32, 85, 83, 65, 71, 69, 32, 85, 83, 73, 78, 71, 32, 86, 65, 76, 85, 69, 32, 86, 65, 76, 85, 69, 83, 32, 86, 65, 82, 89, 73, 78, 71, 32, 87, 72, 69, 78, 32, 87, 73, 84, 72, 32, 87, 79, 82, 75, 73, 78, 71, 45, 83, 84, 79, 82, 65, 71, 69, 32, 87, 82, 73, 84, 69, 32, 90, 69, 82, 79, 32, 90, 69, 82, 79, 69, 83, 32, 90, 69, 82, 79, 83, 32]
noncomputable def RES : PySem.Str := ⟨⟨RESl⟩⟩
noncomputable def KAs : List Addr := [2, 3, 15, 22, 23, 24, 26, 27, 29, 30, 31, 33, 34, 36, 37, 38, 39, 40, 41, 44, 51, 52, 53, 56, 63, 64, 65, 68, 70, 71, 73, 74, 75, 76, 78, 79, 81, 82, 83, 85, 86, 88, 89, 90, 92, 93, 95, 96, 97, 99, 100, 102, 103, 104, 106, 107, 109, 110, 111, 113, 114, 116, 117, 118, 120, 121, 123, 124, 125, 127, 128, 130, 131, 132, 135, 136, 144, 145, 147, 148, 150, 151, 152, 153, 155, 156, 158, 159, 160, 162, 163, 165, 166, 167, 169, 170, 172, 173, 174, 176, 177, 179, 180, 181, 182, 184, 185, 187, 188, 189, 191, 192, 194, 195, 196, 198, 199, 201, 202, 203, 205, 206, 208, 209, 210, 212, 213, 215, 216, 217, 219, 220, 222, 223, 224, 225, 227, 228, 230, 231, 232, 234, 235, 237, 238, 239, 241, 242, 244, 245, 246, 247, 249, 250, 252, 253, 254, 256, 257, 259, 260, 261, 263, 264, 266, 267, 268, 270, 271, 273, 274, 275, 277, 278, 280, 281, 282, 284, 285, 287, 288, 289, 291, 292, 294, 295, 296, 298, 299, 301, 302, 303, 304, 305, 306, 307, 317, 318, 319, 321, 322, 324, 325, 326, 328, 329, 331, 332, 333, 334, 335, 336, 337, 340, 342, 343, 345, 346, 347, 348, 349, 350, 351, 352, 353, 354, 355, 356, 357, 358, 359, 360, 361, 362, 363, 364, 365, 366, 367, 368, 370, 371, 373, 374, 375, 378, 379, 380, 382, 383, 385, 386, 387, 390, 391]
-- the entry of RESERVED: place 22, key token 341, value token 340
theorem keysOf (P : Params) : KAs = (frag.heap_1 P).map (·.1) := by kernel_rfl
noncomputable def view : Program := { PySem.Challenge.pw_og0089_01 with main := { PySem.Challenge.pw_og0089_01.main with body := PySem.Challenge.pw_og0089_01.main.body.drop 28 } }
noncomputable def loose : List PySem.Str := ["LedgerError", "TokenFault", "GrammarFault", "FIGURES", "cut_quotient", "decimal", "negated", "units_at", "is_whole", "whole_of", "worth_of", "read_decimal", "MOST_OCTET", "RESERVED", "is_reserved", "octets_of_text", "Reader", "Token", "_law_draw", "_law_rows", "_law_kept", "_law_decimal", "_law_due"]
noncomputable abbrev XtV (s : Shared) : Bool := xlAt view [] s && recOk (RowW.records PySem.Challenge.rw_og0089_01.row.toRowW) s
noncomputable abbrev HV : Hook := kHook frag.heap_1 KAs keysOf
abbrev WalkT : Prop := ∀ (d : DefRec) (kwd : List (PySem.Str × PySem.Expr)), defOf view "law" = some (d, kwd) → WalkO view loose (XL view []) HV.says PySem.Challenge.rw_og0089_01.row.toRowW d kwd fun f vs => PySem.call f vs
end Mine
end
-- E
section
open PySem PySem.W PySem.Calls PyProof.Rows
set_option Elab.async false
set_option maxRecDepth 100000
namespace Mine
/-! An exception in flight whose own dict is kept in sight. -/
def Trc (h base : Heap) (e : Addr) (cls a0 : Value) (dx : Addr) (fl : Value) : Prop :=
  ∃ oe vs T oT ts, h.get? e = some oe ∧ (oe.cls = cls ∧ oe.dict = some dx ∧ vs[0]? = some a0 ∧ vs[2]? = some .none) ∧ oe.data = .fields vs ∧ vs[1]? = some (.ref T) ∧ base.get? T = none ∧ T ≠ e ∧ h.get? T = some oT ∧ oT.data = .fields ts ∧ ts[3]? = some fl
structure Fly (base : Heap) (l : List Env) (e : Addr) (cls a0 : Value) (dx : Addr) (fl : Value) (h : Heap) : Prop where
  stays : base.StaysIn h
  new : base.get? e = none
  frames : h.FunFrames base l
  trc : Trc h base e cls a0 dx fl
theorem dict_mapFields (o : Obj) (f) : (o.mapFields f).dict = o.dict := by
  obtain ⟨c, d, dt, sl⟩ := o; cases dt <;> rfl
theorem Fly.far {base h : Heap} {l : List Env} {e : Addr} {cls a0 fl : Value} {dx : Addr} (x : Fly base l e cls a0 dx fl h) {b : Addr} {o : Obj} (hb : h.get? b = some o) (hn : ∀ vs, o.data ≠ .fields vs) : b ≠ e := by
  rintro rfl
  obtain ⟨oe, vs, T, oT, ts, he, _, hd, _⟩ := x.trc
  rw [he] at hb; cases hb
  exact hn vs hd
section
variable {M : Model} {A : Around} {E : Value → Shared → Prop} {s : Shared} {base : Heap} {env : Env} {outer : List Env} {l : List Env} {L e dx : Addr} {cls a0 fl : Value} {Q : Unit → Shared → Prop}

theorem d_entry {oe : Obj} {vs : Array Value} {head : Value} {hadNext : Bool}
    (hfr : A.frames = some (env :: outer)) (hl : s.heap.FunFrames base (env :: outer)) (hf : env.frame = some L) (hkb : base.StaysIn s.heap) (hen : base.get? e = none)
    (he : s.heap.get? e = some oe) (hd : oe.data = .fields vs) (hsz : 1 < vs.size) (h0 : vs[0]? = some a0 ∧ vs[2]? = some .none) (hdx : oe.dict = some dx) (hc : oe.cls = cls)
    (h : ∀ h', Fly base (env :: outer) e cls a0 dx (rawInt L) h' → s.heap.UpToSlots h' → Q () { s with heap := h' }) :
    wpAny M A (do let a ← frameOf env; let pl ← entryPlaceOf L hadNext; let b ← EntryCells.newEntry head a .none (rawInt L) .none pl; setField (.ref e) 1 b) Q E s := by
  refine wpAny_bind (wpAny_frameOf_fun hfr hl hf fun h₁ only => ?_)
  refine wpAny_bind (wpAny_entryPlaceOf fun pl hpl => ?_)
  unfold EntryCells.newEntry newFields
  refine wpAny_bind (wpAny_newObj_type ?_ (hpl.sizeOk5 _ _ _ _ _))
  generalize hW : ([head, Value.ref L, Value.none, rawInt L, Value.none] ++ (if pl.isEmpty then List.replicate 6 Value.none else pl)).toArray = W
  have w3 : W[3]? = some (rawInt L) := by
    subst hW
    rcases hpl with rfl | ⟨_, _, _, _, _, _, _, rfl⟩ <;> simp
  have eF : e ∉ (env :: outer).filterMap (·.frame) := fun hm => by
    obtain ⟨_, o, ho, hn⟩ := hl.mem hm
    rw [he] at ho; cases ho
    exact hn vs hd
  have e1 : h₁.get? e = some oe := (only.2.1 e eF).trans he
  have k1 : base.StaysIn h₁ := fun b o hb => (only.2.1 b fun hm => by rw [(hl.mem hm).1] at hb; cases hb).trans (hkb b o hb)
  have e2 := Heap.get?_push_of_some (h := h₁) { cls := .type "traceback", dict := none, data := .fields W } e1
  refine wpAny_setField e2 hd hsz ?_
  have hTe : h₁.objs.size ≠ e := Nat.ne_of_gt (Heap.lt_size e1)
  have d3 := Obj.data_mapFields hd (·.setIfInBounds 1 (Value.ref h₁.objs.size))
  have e3 := Heap.get?_update_self (Obj.mapFields (·.setIfInBounds 1 (Value.ref h₁.objs.size))) e2 (Obj.isFreed_of_fields d3)
  have keep : ∀ b o, b ≠ e → h₁.get? b = some o → ((h₁.push { cls := .type "traceback", dict := none, data := .fields W }).update e (Obj.mapFields (·.setIfInBounds 1 (Value.ref h₁.objs.size)))).get? b = some o := fun b o hb hq => by
    rw [Heap.get?_update_other _ _ (Ne.symm hb)]
    exact Heap.get?_push_of_some _ hq
  have far : ∀ b o, s.heap.get? b = some o → (∀ vs, o.data ≠ .fields vs) → b ≠ e := fun b o hb hn q => by
    rw [q, he] at hb; cases hb
    exact hn vs hd
  have slots : ∀ b o, s.heap.get? b = some o → (∀ vs, o.data ≠ .fields vs) → ∃ sl, ((h₁.push { cls := .type "traceback", dict := none, data := .fields W }).update e (Obj.mapFields (·.setIfInBounds 1 (Value.ref h₁.objs.size)))).get? b = some { o with slots := sl } := fun b o hb hn => by
    obtain ⟨sl, q⟩ := only.2.2 b o hb
    exact ⟨sl, keep b _ (far b o hb hn) q⟩
  refine h _ ⟨fun b o hb => keep b o (fun q => by rw [q, hen] at hb; cases hb) (k1 b o hb), hen, hl.of_keeps fun b o hb hn => ?_, ?_⟩ slots
  · obtain ⟨sl, q⟩ := slots b o hb hn
    exact ⟨_, q, rfl⟩
  · refine ⟨_, _, h₁.objs.size, _, _, e3, ⟨(Obj.cls_mapFields _ _).trans hc, (dict_mapFields _ _).trans hdx, ?_⟩, d3, by simp [hsz], k1.fresh, hTe, (Heap.get?_update_other _ _ (Ne.symm hTe)).trans (Heap.get?_push_size h₁ rfl), rfl, w3⟩
    exact ⟨by rw [Array.getElem?_setIfInBounds_ne (by decide)]; exact h0.1, by rw [Array.getElem?_setIfInBounds_ne (by decide)]; exact h0.2⟩

theorem d_setNone (x : Fly base l e cls a0 dx fl s.heap) (h : ∀ h', Fly base l e cls a0 dx .none h' → s.heap.UpToSlots h' → Q () { s with heap := h' }) : wpAny M A (setFlight (.ref e) none) Q E s := by
  obtain ⟨hkb, hen, hl, oe, vs, T, oT, ts, he, hcls, hd, h1, hnT, hTe, hT, hdT, h3⟩ := x
  have z3 : 3 < ts.size := (Array.getElem?_eq_some_iff.mp h3).1
  unfold setFlight
  refine wpAny_bind (wpAny_field he hd h1 ?_)
  rw [if_pos (show (Value.ref T != Value.none) = true from by simp)]
  have other : ∀ b, b ≠ T → (s.heap.update T (Obj.mapFields (·.setIfInBounds 3 ((none : Option Addr).elim Value.none fun f => rawInt f)))).get? b = s.heap.get? b := fun b hb => Heap.get?_update_other _ _ (Ne.symm hb)
  have far : ∀ b o, s.heap.get? b = some o → (∀ vs, o.data ≠ .fields vs) → b ≠ T := fun b o hb hn q => by
    rw [q, hT] at hb; cases hb
    exact hn ts hdT
  refine wpAny_setField hT hdT z3 (h _ ⟨fun b o hb => (other b fun q => by rw [q, hnT] at hb; cases hb).trans (hkb b o hb), hen, hl.of_keeps fun b o hb hn => ⟨o, (other b (far b o hb hn)).trans hb, rfl⟩, ?_⟩ fun b o hb hn => ⟨o.slots, (other b (far b o hb hn)).trans hb⟩)
  exact ⟨oe, vs, T, _, _, (other e (Ne.symm hTe)).trans he, hcls, hd, h1, hnT, hTe, Heap.get?_update_self _ hT (Obj.isFreed_of_fields (Obj.data_mapFields hdT _)), Obj.data_mapFields hdT _, by simp [z3]⟩

theorem d_note (hfr : A.frames = some (env :: outer)) (hf : env.frame = some L) (x : Fly base (env :: outer) e cls a0 dx .none s.heap)
    (h : ∀ h', Fly base (env :: outer) e cls a0 dx (rawInt L) h' → s.heap.UpToSlots h' → Q () { s with heap := h' }) : wpAny M A (noteFrame (.ref e) env) Q E s := by
  obtain ⟨hkb, hen, hl, oe, vs, T, oT, ts, he, ⟨hc, hdx, h0⟩, hd, h1, hnT, hTe, hT, hdT, h3⟩ := x
  unfold noteFrame
  simp only [hf]
  refine wpAny_bind (wpAny_field he hd h1 ?_)
  rw [if_pos (show (Value.ref T != Value.none) = true from by simp)]
  refine wpAny_bind (wpAny_field hT hdT h3 ?_)
  rw [if_neg (show ¬ ((Value.none == rawInt L) = true) from by simp [rawInt])]
  refine wpAny_bind (wpAny_setField hT hdT (Array.getElem?_eq_some_iff.mp h3).1 ?_)
  have other : ∀ b, b ≠ T → (s.heap.update T (Obj.mapFields (·.setIfInBounds 3 Value.none))).get? b = s.heap.get? b := fun b hb => Heap.get?_update_other _ _ (Ne.symm hb)
  have far : ∀ b o, s.heap.get? b = some o → (∀ vs, o.data ≠ .fields vs) → b ≠ T := fun b o hb hn q => by
    rw [q, hT] at hb; cases hb
    exact hn ts hdT
  have up : s.heap.UpToSlots (s.heap.update T (Obj.mapFields (·.setIfInBounds 3 Value.none))) := fun b o hb hn => ⟨o.slots, (other b (far b o hb hn)).trans hb⟩
  exact d_entry hfr (hl.of_keeps fun b o hb hn => ⟨o, (other b (far b o hb hn)).trans hb, rfl⟩) hf (fun b o hb => (other b fun q => by rw [q, hnT] at hb; cases hb).trans (hkb b o hb)) hen ((other e (Ne.symm hTe)).trans he) hd (Array.getElem?_eq_some_iff.mp h1).1 h0 hdx hc
    fun h' y u => h h' y (up.trans u)

theorem d_noteFirst {oe : Obj} {vs : Array Value} (hfr : A.frames = some (env :: outer)) (hf : env.frame = some L) (hl : s.heap.FunFrames base (env :: outer)) (hkb : base.StaysIn s.heap) (hen : base.get? e = none)
    (he : s.heap.get? e = some oe) (hd : oe.data = .fields vs) (h1 : vs[1]? = some .none) (h0 : vs[0]? = some a0 ∧ vs[2]? = some .none) (hdx : oe.dict = some dx) (hc : oe.cls = cls)
    (h : ∀ h', Fly base (env :: outer) e cls a0 dx (rawInt L) h' → s.heap.UpToSlots h' → Q () { s with heap := h' }) : wpAny M A (noteFrame (.ref e) env) Q E s := by
  unfold noteFrame
  simp only [hf]
  refine wpAny_bind (wpAny_field he hd h1 ?_)
  rw [if_neg (by decide)]
  exact d_entry hfr hl hf hkb hen he hd (Array.getElem?_eq_some_iff.mp h1).1 h0 hdx hc h

theorem Fly.out {h : Heap} (x : Fly base (env :: outer) e cls a0 dx fl h) : Fly base outer e cls a0 dx fl h := ⟨x.stays, x.new, x.frames.2.2, x.trc⟩

theorem d_leaveFirst {oe : Obj} {vs : Array Value} (hfr : A.frames = some (env :: outer)) (hf : env.frame = some L) (hl : s.heap.FunFrames base (env :: outer)) (hkb : base.StaysIn s.heap) (hen : base.get? e = none)
    (he : s.heap.get? e = some oe) (hd : oe.data = .fields vs) (h1 : vs[1]? = some .none) (h0 : vs[0]? = some a0 ∧ vs[2]? = some .none) (hdx : oe.dict = some dx) (hc : oe.cls = cls)
    (h : ∀ h', Fly base outer e cls a0 dx .none h' → s.heap.UpToSlots h' → Q () { s with heap := h' }) : wpAny M A (leaving env (.ref e)) Q E s := by
  unfold leaving
  refine wpAny_bind (d_noteFirst hfr hf hl hkb hen he hd h1 h0 hdx hc fun h' x u => ?_)
  exact d_setNone (s := { s with heap := h' }) x fun h'' y v => h h'' y.out (u.trans v)

theorem d_leaveOn (hfr : A.frames = some (env :: outer)) (hf : env.frame = some L) (x : Fly base (env :: outer) e cls a0 dx .none s.heap)
    (h : ∀ h', Fly base outer e cls a0 dx .none h' → s.heap.UpToSlots h' → Q () { s with heap := h' }) : wpAny M A (leaving env (.ref e)) Q E s := by
  unfold leaving
  refine wpAny_bind (d_note hfr hf x fun h' y u => ?_)
  exact d_setNone (s := { s with heap := h' }) y fun h'' z v => h h'' z.out (u.trans v)
end
end Mine
end
-- E2
section
open PySem PySem.W PySem.Calls PyProof.Rows
set_option Elab.async false
set_option maxRecDepth 100000
namespace Mine
abbrev excO (C t d : Addr) : Obj := { cls := .ref C, dict := some d, data := .fields #[.ref t, .none, .none, .none, .bool false, .none] }
structure ExcCls (M : Model) (h : Heap) (C : Addr) : Prop where
  base : Looks M h (isSubtype (.ref C) (.type "BaseException")) true
  mt : Looks M h (typeOf (.ref C)) (.type "type")
  exc : Looks M h (isExcClass (.ref C)) true
  notTup : Looks M h (isInstance (.ref C) (.type "tuple")) false
  self : Looks M h (isSubtype (.ref C) (.ref C)) true
theorem ExcCls.keeps {M : Model} {h h' : Heap} {C : Addr} (x : ExcCls M h C) (k : ∀ b o, h.get? b = some o → h'.get? b = some o) : ExcCls M h' C :=
  ⟨x.base.keeps k, x.mt.keeps k, x.exc.keeps k, x.notTup.keeps k, x.self.keeps k⟩
def RaisesMade (M : Model) (C : Addr) (E : Value → Shared → Prop) (v : Value) (s : Shared) : Prop :=
  ∃ a ob vs, v = .ref a ∧ s.heap.get? a = some ob ∧ ob.cls = .ref C ∧ ob.data = .fields vs ∧ vs[1]? = some .none ∧ ExcCls M s.heap C ∧ E (.ref a) s
section
variable {M : Model} {A : Around} {E : Value → Shared → Prop} {s : Shared} {env : Env}
theorem typeOf_at {a : Addr} {o : Obj} {Q : Value → Shared → Prop} (ha : s.heap.get? a = some o) (h : Q o.cls s) : wpAny M A (typeOf (.ref a)) Q E s := by
  have q : Looks M s.heap (typeOf (.ref a)) o.cls := (Looks.ld ha).andThen .now
  exact q.here h
theorem raise_made {C : Addr} {e : Expr} {pos : Pos} {Q : Flow → Shared → Prop} (hh : A.handled = none) (h : wpAny M A (eval e env) (RaisesMade M C E) E s) : wpAny M A (exec (.Raise (some e) none pos) env) Q E s := by
  show wpAny M A (do standAt pos; raiseStmt env (some (do let v ← eval e env; standAt pos; pure v)) none) Q E s
  refine wpAny_bind (wpAny_standAt ?_)
  unfold raiseStmt
  dsimp only
  refine wpAny_bind (wpAny_bind (wpAny_mono h (fun v s₁ h₁ => wpAny_bind (wpAny_standAt (wpAny_pure ?_))) fun _ _ x => x))
  obtain ⟨a, ob, vs, rfl, ha, hcls, hd, h1, X, hE⟩ := h₁
  have hnt : ∀ {Q' : Bool → Shared → Prop}, Q' false s₁ → wpAny M A (isType (.ref a)) Q' E s₁ := by
    intro Q' hq
    simp only [isType, loadHead]
    refine wpAny_bind (wpAny_loadPart ha ?_)
    rw [hd]; exact wpAny_pure hq
  refine wpAny_bind (wpAny_pure ?_)
  dsimp only
  refine wpAny_bind (wpAny_holding ?_)
  unfold excFromValue
  rw [isExcClass]
  refine wpAny_bind (wpAny_bind (hnt ?_))
  simp only [Bool.false_eq_true, if_false]
  refine wpAny_pure ?_
  simp only [Bool.false_eq_true, if_false]
  unfold isInstance
  refine wpAny_bind (wpAny_bind (typeOf_at ha ?_))
  rw [hcls]
  refine X.base.here ?_
  simp only [if_true]
  refine wpAny_pure ?_
  refine wpAny_bind (hnt ?_)
  simp only [Bool.false_eq_true, if_false]
  unfold raisedInstance
  refine wpAny_bind (wpAny_bind (typeOf_at ha ?_))
  rw [hcls]
  refine wpAny_bind (X.mt.here ?_)
  rw [if_pos (by rfl)]
  refine wpAny_pure ?_
  unfold setFlight raiseNew
  refine wpAny_bind (wpAny_bind (wpAny_field ha hd h1 ?_))
  rw [if_neg (by decide)]
  refine wpAny_pure (wpAny_bind (wpAny_handled ?_))
  rw [hh]
  first
    | exact wpAny_throw hE
    | exact wpAny_bind (wpAny_pure (wpAny_throw hE))
theorem matches_self {C e : Addr} {oe : Obj} {Q : Bool → Shared → Prop} (X : ExcCls M s.heap C) (he : s.heap.get? e = some oe) (hc : oe.cls = .ref C) (h : Q true s) : wpAny M A (excMatches (.ref e) (.ref C)) Q E s := by
  unfold excMatches
  refine wpAny_bind (X.notTup.here ?_)
  simp only [Bool.false_eq_true, if_false]
  refine wpAny_bind (wpAny_pure ?_)
  simp only [List.forIn_cons, List.forIn_nil]
  refine wpAny_bind (wpAny_bind (wpAny_bind (X.exc.here ?_)))
  simp only [Bool.not_true, Bool.false_eq_true, if_false]
  refine wpAny_pure (wpAny_pure ?_)
  refine wpAny_bind (typeOf_at he ?_)
  rw [hc]
  refine wpAny_bind (wpAny_bind (wpAny_bind (X.self.here ?_)))
  simp only [if_true]
  exact wpAny_pure (wpAny_pure (wpAny_pure h))
end
def RaisedD (base G : Heap) (l : List Env) (e C dx : Addr) (news : List (Addr × Obj)) (h : Heap) : Prop :=
  ∃ B a0, base.StaysIn B ∧ (∀ b o, G.get? b = some o → b ∉ l.filterMap (·.frame) → B.get? b = some o) ∧ (∀ q ∈ news, B.get? q.1 = some q.2 ∧ G.get? q.1 = none ∧ base.get? q.1 = none) ∧ Fly B l e (.ref C) a0 dx .none h
section
variable {M : Model} {A : Around} {E : Value → Shared → Prop} {s' : Shared} {base g g₂ : Heap} {outer : List Env} {L a e C dx t : Addr} {m : Str → Option Value} {name : Str} {scope : Scope} {cd : Value} {Q : Unit → Shared → Prop} {news : List (Addr × Obj)}
theorem leaveD_first (K : Below A base outer g) (F : Fr g L s'.heap m) (N : News g L s'.heap ((e, excO C t dx) :: news)) (hne : ∀ q ∈ news, q.1 ≠ e)
    (hQ : ∀ h', RaisedD base g outer e C dx news h' → g.UpToSlots h' → Q () { s' with heap := h' }) (hk : scope.kind = .function := by rfl) :
    wpAny M (A.deeper (envOf name scope L a cd)) (leaving (envOf name scope L a cd) (.ref e)) Q E s' := by
  have K' := K.push (name := name) (a := a) (cd := cd) F hk
  have he := N (e, _) (.head _)
  let as := e :: (envOf name scope L a cd :: outer).filterMap (·.frame)
  have off : ∀ b o, base.get? b = some o → b ∉ as := fun b o q hm => by
    rcases List.mem_cons.mp hm with rfl | hm
    · have := K.stays _ _ q; rw [he.2.2] at this; cases this
    · rw [(K'.frames.mem hm).1] at q; cases q
  have st : base.StaysIn (hideAll s'.heap as) := fun b o q => hideAll_get _ (K'.stays b o q) (off b o q)
  have sg : ∀ b o, g.get? b = some o → b ∉ outer.filterMap (·.frame) → (hideAll s'.heap as).get? b = some o := fun b o q nm => hideAll_get _ (F.keep b o q) fun hm => by
    rcases List.mem_cons.mp hm with rfl | hm
    · rw [he.2.2] at q; cases q
    · rcases kts_mem hm with z | z
      · rw [z, kts_self F] at q; cases q
      · exact nm z
  have hin : ∀ env ∈ (envOf name scope L a cd :: outer), ∀ b, env.frame = some b → b ∈ as := fun env he b hb => .tail _ (List.mem_filterMap.mpr ⟨env, he, hb⟩)
  have hl : ∀ q ∈ news, (hideAll s'.heap as).get? q.1 = some q.2 ∧ g.get? q.1 = none ∧ base.get? q.1 = none := fun q hq => by
    have n := N q (.tail _ hq)
    refine ⟨hideAll_get _ n.1 fun hm => ?_, n.2.2, fresh_of_stays K.stays n.2.2⟩
    rcases List.mem_cons.mp hm with h | hm
    · exact hne q hq h
    · obtain ⟨env, he, hf⟩ := List.mem_filterMap.mp hm
      rcases List.mem_cons.mp he with rfl | he
      · exact n.2.1 (Option.some.inj hf).symm
      · obtain ⟨o, ho, _⟩ := (K.frames.mem (List.mem_filterMap.mpr ⟨env, he, hf⟩)).2
        rw [n.2.2] at ho; cases ho
  exact d_leaveFirst (base := hideAll s'.heap as) (a0 := .ref t) (cls := .ref C) (dx := dx) K'.stack rfl (funFrames_hide K'.frames hin) (fun b o q => of_hideAll _ q) (hideAll_none _ (.head _)) he.1 rfl rfl ⟨rfl, rfl⟩ rfl rfl
    fun h' x u => hQ h' ⟨_, _, st, sg, hl, x⟩ ((Heap.UpToSlots.of_keeps F.keep).trans u)

theorem leaveD_on (K : Below A base outer g) (F : Fr g L g₂ m) (R : RaisedD base g₂ (envOf name scope L a cd :: outer) e C dx news s'.heap) (hsm : g₂.UpToSlots s'.heap)
    (hQ : ∀ h', RaisedD base g outer e C dx news h' → g.UpToSlots h' → Q () { s' with heap := h' }) :
    wpAny M (A.deeper (envOf name scope L a cd)) (leaving (envOf name scope L a cd) (.ref e)) Q E s' := by
  obtain ⟨B, a0, hB, hBG, hl, x⟩ := R
  refine d_leaveOn (Around.frames_deeper K.stack) rfl x fun h' y u => hQ h' ⟨B, a0, hB, fun b o q nm => hBG b o (F.keep b o q) fun hm => ?_, fun q hq => ⟨(hl q hq).1, kts_none F.keep (hl q hq).2.1, (hl q hq).2.2⟩, y⟩ ((Heap.UpToSlots.of_keeps F.keep).trans (hsm.trans u))
  rcases kts_mem hm with z | z
  · rw [z, kts_self F] at q; cases q
  · exact nm z
end

section
variable {prog : Program} {w : World} {A₀ : Around} {E : Value → Shared → Prop} {s' : Shared} {base g G : Heap} {outer : List Env} {L a e C dx : Addr} {m : Str → Option Value} {name : Str} {scope : Scope} {cd : Value}
  {n x : Str} {b₀ : Stmt} {suite : List Stmt} {pos np : Pos} {rest : List ExceptHandler} {Q : Flow → Shared → Prop} {news : List (Addr × Obj)} {KF : Frag}
  {p : Program} {loose : List Str} {mean : ExcName → Option Value} {mg mb : Str → Option Value}
theorem caughtD (R : RaisedD base G (envOf name scope L a cd :: outer) e C dx news s'.heap) (F : Fr g L G m) (K : Below A₀ base outer g) (hsm : G.UpToSlots s'.heap) (XB : KF.In base) (TB : Top p loose mean mg mb base)
    (ex : nsIn KF mainGlobals x = some (some (.ref C))) (X : ExcCls (model prog w) base C)
    (k : ∀ h' g' oe vs tk, KtsTurn (outer.filterMap (·.frame)) g g' → Fr g' L h' (fun y => if y = n then some (.ref e) else m y) → News g' L h' ((e, oe) :: news) → oe.cls = .ref C → oe.dict = some dx → oe.data = .fields vs →
      Below A₀ base outer g' → KF.In g' → Top p loose mean mg mb g' →
      wpAny (model prog w) ((A₀.deeper (envOf name scope L a cd)).mark (some (.ref e))) (execs (b₀ :: suite) (envOf name scope L a cd))
        (fun f s₄ => wpAny (model prog w) (A₀.deeper (envOf name scope L a cd)) (do bindName (envOf name scope L a cd) n .none; unbindBehindTheSuite (envOf name scope L a cd) n pos) (fun _ s₅ => Q f s₅) E s₄)
        (AsSuiteRaised (model prog w) ((A₀.deeper (envOf name scope L a cd)).mark (some (.ref e))) (envOf name scope L a cd) n pos (notedBy (model prog w) ((A₀.deeper (envOf name scope L a cd)).mark (some (.ref e))) (envOf name scope L a cd) (cameBackBy (model prog w) (A₀.deeper (envOf name scope L a cd)) (envOf name scope L a cd) E)))
        { s' with heap := h', toks := tk })
    (hk : scope.kind = .function := by rfl) (hlo : (envOf name scope L a cd).kindOf n = some .local := by rfl) (hx : (envOf name scope L a cd).kindOf x = some .globalImplicit := by rfl) (hd : (x == ("__debug__" : Str)) = false := by decide) :
    wpAny (model prog w) (A₀.deeper (envOf name scope L a cd)) (noteFrame (.ref e) (envOf name scope L a cd))
      (fun _ s₂ => wpAny (model prog w) (A₀.deeper (envOf name scope L a cd)) (setFlight (.ref e) none) (fun _ s₃ =>
        wpAny (model prog w) (A₀.deeper (envOf name scope L a cd)) (handleBy (.ref e) (envOf name scope L a cd) (.ExceptHandler (some (.Name x np)) (some n) (b₀ :: suite) pos :: rest)) Q E s₃) E s₂) E s' := by
  obtain ⟨B, a0, hB, hBG, hl, fly⟩ := R
  have hL : B.get? L = none := by
    obtain ⟨_, ⟨L', _, hf, hn', _⟩, _⟩ := fly.frames
    obtain rfl : L = L' := Option.some.inj hf
    exact hn'
  refine d_note (Around.frames_deeper K.stack) rfl fly fun h₄ fly₄ u₄ => ?_
  refine d_setNone (s := { s' with heap := h₄ }) fly₄ fun h₅ fly₅ u₅ => ?_
  obtain ⟨g₅, T₅, F₅, K₅⟩ := kts_ground K F hBG fly₅.stays ((hsm.trans u₄).trans u₅)
  have X₅ : KF.In g₅ := XB.keeps K₅.stays
  have P₅ : TopRead p loose mg mb g₅ := topRead_of (TB.keeps K₅.stays)
  have C₅ : ExcCls (model prog w) h₅ C := (X.keeps K₅.stays).keeps F₅.keep
  obtain ⟨oe, vs, T, oT, ts, he, ⟨hc, hdx, h0⟩, hd', h1, hnT, hTe, hT, hdT, h3⟩ := id fly₅.trc
  refine wpAny_handleBy_cons (codeAny_handlers_test (name_K F₅ X₅ P₅ ex ?_ hk hx hd)) (by intro q; cases q)
  refine matches_self (s := { s' with heap := h₅ }) C₅ he hc ?_
  refine codeAny_handlers_suite_as ?_
  refine d_setNone (s := { s' with heap := h₅ }) fly₅ fun h₆ fly₆ u₆ => ?_
  obtain ⟨g₆, T₆, F₆, K₆⟩ := kts_ground K F hBG fly₆.stays (((hsm.trans u₄).trans u₅).trans u₆)
  obtain ⟨oe, vs, T, oT, ts, he, ⟨hc, hdx, h0⟩, hd', h1, hnT, hTe, hT, hdT, h3⟩ := id fly₆.trc
  have ne₆ : g₆.get? e = none := T₆.none_ _ (kts_fresh F hBG fly₆.new fun o ho mm => by
    obtain ⟨_, o', ho', hdd⟩ := K.frames.mem mm
    rw [ho] at ho'
    cases ho'
    obtain ⟨sl, hs⟩ := (((hsm.trans u₄).trans u₅).trans u₆) _ _ (F.keep _ _ ho) hdd
    rw [he] at hs
    cases hs
    exact hdd _ hd')
  have N₆ := News.more F₆ News.nil he (fun es n q => by rw [hd'] at q; cases q) ne₆
  have Nl : News g₆ L h₆ news := fun q hq => ⟨fly₆.stays _ _ (hl q hq).1, (fun z => by have := (hl q hq).1; rw [z, hL] at this; cases this), T₆.none_ _ (kts_none F.keep (hl q hq).2.1)⟩
  refine stN F₆ (news := (e, oe) :: news) (fun q hq => (List.mem_cons.mp hq).elim (fun z => z ▸ N₆ (e, oe) (.head _)) (Nl q)) (fun h₇ F₇ N₇ => ?_) hk hlo
  exact k h₇ g₆ oe vs _ T₆ F₇ N₇ hc hdx hd' K₆ (XB.keeps K₆.stays) (TB.keeps K₆.stays)
end
end Mine
end
-- E3
section
open PySem PySem.W PySem.Calls PyProof.Rows
set_option Elab.async false
set_option maxRecDepth 100000
namespace Mine
section
variable {prog : Program} {w : World} {A : Around} {E : Value → Shared → Prop} {s : Shared} {K : Frag} {x C : Addr} {ox : Obj} {od : Option Obj} {name : Str} {expr : Bool} {Q : Value → Shared → Prop}
theorem get_exc {v : Value} (X : K.In s.heap) (I : InstAt s.heap x ox C od) (hga : findIn K (.ref C) "__getattribute__" = some (some (.builtin "BaseException.__getattribute__"))) (hgg : findIn K (.ref C) "__getattr__" = some none) (hsub : subIn K (.ref C) (.type "BaseException") = some true)
    (hf : findObj K C od name = some (.value v)) (hh : handedIn v = true) (h : Q v { s with toks := s.toks + 1 }) : wpAny (model prog w) A (getAttr (.ref x) name expr) Q E s := by
  obtain ⟨hh', g, d, t, os⟩ := s
  have L0 := I.type (M := model prog w)
  have L1 := looks_findIn (M := model prog w) X hga
  have L2 := looks_findIn (M := model prog w) X hgg
  have L3 := looks_find (M := model prog w) X I hf
  have L4 := looks_subIn (M := model prog w) X hsub
  unfold getAttr getAttrBy
  refine wpAny_bind (wpAny_mkText (wpAny_holding (wpAny_bind (L0.at (wpAny_bind (L1.at ?_))))))
  dsimp only
  rw [if_neg (by simp [onTheHeap]; try decide)]
  unfold getAttrByItsOwn
  have f3 := PySem.F.excAttr_ValueError.ga.bind (.ref x)
  refine wpAny_bind ?_
  unfold hookBefore
  rw [if_pos (by rfl)]
  refine L2.at ?_
  refine wpAny_bind (wpAny_attempt (wpAny_holding ?_))
  unfold callGetattribute
  rw [if_neg (by cases expr <;> simp [onTheHeap])]
  unfold boundAndCalled
  rw [f3]
  refine wpAny_bind (wpAny_pure ?_)
  have t2 : Looks (model prog w) hh' (isInstance (.ref x) (.type "BaseException")) true := L0.andThen L4
  show wpAny _ _ (call (.builtin "BaseException.__getattribute__") [.ref x, .str name t] []) _ _ _
  refine wpAny_call (codeAny_call_builtin PySem.F.excAttr_ValueError.ga.plain PySem.F.entry_bexc_ga (@check_slot (model prog w) _ _ _ "BaseException.__getattribute__" "BaseException" "__getattribute__" (.ref x) [.str name t] [] _ (by decide +kernel) (by decide +kernel) t2 (PySem.F.args_bexc_ga _ _) ?_))
  show wpAny _ _ (Builtin.«object.__getattribute__» ⟨[.ref x, .str name t], []⟩) _ _ _
  unfold Builtin.«object.__getattribute__»
  refine wpAny_bind (wpAny_pure (wpAny_bind (wpAny_pure (wpAny_bind (L0.at (wpAny_bind (L3.at ?_)))))))
  refine wpAny_pure ?_
  show wpAny _ _ (handedOut v) _ _ _
  rw [handedOut_of hh]
  exact wpAny_pure h

variable {h₀ : Heap} {L dx : Addr} {m : Str → Option Value} {news : List (Addr × Obj)} {vs : Array Value} {es : List DictEntry} {n : Nat} {v : Value}
theorem get_excK (F : Fr h₀ L s.heap m) (X₀ : K.In h₀) (N : News h₀ L s.heap news) (h1 : (x, ox) ∈ news) (hc : ox.cls = .ref C) (hd : ox.dict = some dx) (hf : ox.data = .fields vs) (h2 : (dx, dictOf es n) ∈ news)
    (hga : findIn K (.ref C) "__getattribute__" = some (some (.builtin "BaseException.__getattribute__"))) (hgg : findIn K (.ref C) "__getattr__" = some none) (hsub : subIn K (.ref C) (.type "BaseException") = some true)
    (hh : hasDictIn K C = true) (ha : findIn K (.ref C) name = some none) (hl : getL name es = some (some v)) (hv : handedIn v = true) (h : Q v { s with toks := s.toks + 1 }) : wpAny (model prog w) A (getAttr (.ref x) name expr) Q E s := by
  have I : InstAt s.heap x ox C (some (dictOf es n)) := by
    refine ⟨(N _ h1).1, hc, ?_, ?_⟩
    · obtain ⟨c, d, dt, sl⟩ := ox
      cases hf
      rfl
    · rw [hd]
      exact (N _ h2).1
  exact get_exc (X₀.keeps F.keep) I hga hgg hsub (findObj_own hh ha rfl hl) hv h
end
end Mine
end
-- E4
section
open PySem PySem.W PySem.Calls PyProof.Rows
set_option Elab.async false
set_option maxRecDepth 100000
namespace Mine
section
variable {prog : Program} {w : World} {A : Around} {R : Result → Shared → Prop} {h : Heap} {g : Array GenState} {d : Drawn} {t : Nat} {os : OsState}
variable {nm q : Str} {C N : Addr} {bs bm : List Value} {hdct : Bool} {sn : List Str} {sub : List Value} {ab : Bool} {col : Option Bool} {dd : Option Addr} {k0 k1 k2 k3 k5 : Option Value} {Bn newId inN : String} {bmN : List Value}
theorem exc_new (Fn : ExcBaseFacts Bn newId inN bmN) (hcB : (Value.ref C :: bm).contains (.type Bn) = true) (hcA : (Value.ref C :: bm).contains (.type "AttributeError") = false) (hcN : (Value.ref C :: bm).contains (.type "NameError") = false)
    {rest : List Value} (hC : h.get? C = some (excClassObj nm q C N bs bm hdct sn sub ab col dd k0 k1 k2 k3 k5 newId))
    (hq : R (.ok (.ret (.ref (h.objs.size + 1)))) ⟨(h.push { cls := .type "tuple", data := .seq rest.toArray }).push
      { cls := .ref C, data := .fields #[.ref h.objs.size, .none, .none, .none, .bool false, .none] }, g, d, t, os⟩) (hrest : rest.length ≤ sizeLine) :
    codeAny (model prog w) A (.builtin newId ⟨.ref C :: rest, []⟩) R ⟨h, g, d, t, os⟩ := by
  have hends := Fn.ends
  refine codeAny_builtinAt Fn.entry ?_
  unfold Builtin.«BaseException.__new__»
  refine PySem.wpAt_bind ?_
  show PySem.wpAt _ _ _ (stack >>= _) _ _ _
  refine PySem.wpAt_bind (PySem.wpAt_stack fun p below => wpAt_of_wpAny ?_)
  wp_walk
  refine wpAt_of_wpAny ?_
  rw [Fn.owner]
  repeat (first | with_reducible refine wpAny_madeHere_exc Fn.canon hC ?_ | with_reducible refine wpAny_loadPart_at hC ?_ | (with_reducible refine wpAny_isSubtype_exc hC ?_; first | rw [hcB] | rw [hcA] | rw [hcN]) | wp_step)
  show R _ _
  rw [Heap.size_push]
  exact hq
theorem check_new {M : Model} {E : Value → Shared → Prop} (Fn : ExcBaseFacts Bn newId inN bmN) (hcont : (Value.ref C :: bm).contains (.type Bn) = true) {rest : List Value} {Q : Unit → Shared → Prop} (hC : h.get? C = some (excClassObj nm q C N bs bm hdct sn sub ab col dd k0 k1 k2 k3 k5 newId))
    (hq : Q () ⟨h, g, d, t, os⟩) : wpAny M A (checkBuiltinCall newId ⟨.ref C :: rest, []⟩) Q E ⟨h, g, d, t, os⟩ := by
  have hstar := Fn.noStar
  simp only [checkBuiltinCall, Fn.newKind, Fn.newSplit, Fn.newRow]
  repeat (first | refine wpAny_loadPart_at hC ?_ | (refine wpAny_isSubtype_exc hC ?_; rw [hcont]) | refine wpAny_staticBase_exc hC ?_ | refine wpAny_madeBy_exc hC ?_ | simp only [bne_self_eq_false, Bool.false_eq_true, if_false] | wp_step)
  exact hq
abbrev newTup (rest : List Value) : Obj := { cls := .type "tuple", data := .seq rest.toArray }
abbrev newExc (C t : Addr) : Obj := { cls := .ref C, data := .fields #[.ref t, .none, .none, .none, .bool false, .none] }
theorem make_excT (Fn : ExcBaseFacts Bn newId inN bmN) (hcB : (Value.ref C :: bm).contains (.type Bn) = true) (hcA : (Value.ref C :: bm).contains (.type "AttributeError") = false) (hcN : (Value.ref C :: bm).contains (.type "NameError") = false)
    {rest : List Value} {init : Value} {E : Value → Shared → Prop} {Q : PySem.Fin → Shared → Prop} (hC : h.get? C = some (excClassObj nm q C N bs bm hdct sn sub ab col dd k0 k1 k2 k3 k5 newId)) (hi : Looks (model prog w) h (typeLookup (.ref C) "__init__") (some init))
    (hb : ∀ self, Looks (model prog w) h (bindSpecial init self) (init, [self])) (hrest : rest.length ≤ sizeLine)
    (hq : codeAny (model prog w) A (.call init ⟨.ref (h.objs.size + 1) :: rest, []⟩) (fun r s' => match r with | .ok (.ret v) => v = .none ∧ Q (.done (.ret (.ref (h.objs.size + 1)))) s' | .ok _ => False | .error e => E e s')
      ⟨(h.push (newTup rest)).push (newExc C h.objs.size), g, d, t, os⟩) :
    wpAny (model prog w) A (Builtin.«type.__call__» ⟨.ref C :: rest, []⟩) Q E ⟨h, g, d, t, os⟩ := by
  repeat (first | with_reducible refine wpAny_loadPart_at hC ?_ | with_reducible refine wpAny_madeBy_exc hC ?_ | wp_step)
  refine codeAny_call_builtin_code (Code.quiet_builtin _ Fn.quiet) (check_new Fn hcB hC ?_)
  refine exc_new Fn hcB hcA hcN hC ?_ hrest
  show wpAny _ _ _ _ _ _
  have k : ∀ b o, h.get? b = some o → ((h.push (newTup rest)).push (newExc C h.objs.size)).get? b = some o := fun b o e => Heap.get?_push_of_some _ (Heap.get?_push_of_some _ e)
  have hC₁ := k _ _ hC
  have hget : ((h.push (newTup rest)).push (newExc C h.objs.size)).get? (h.objs.size + 1) = some (newExc C h.objs.size) := by heap_get
  have hcC : (Value.ref C :: bm).contains (.ref C) = true := by simp
  have i1 := hi.keeps k
  have b1 := (hb (.ref (h.objs.size + 1))).keeps k
  unfold isInstance
  repeat (first | with_reducible refine wpAny_loadPart_at hget ?_ | (with_reducible refine wpAny_isSubtype_exc hC₁ ?_; rw [hcC]) | wp_step)
  show wpAny _ _ (typeLookup (.ref C) _) _ _ _
  refine i1.at ?_
  refine wpAny_holding (wpAny_bind (b1.at ?_))
  refine wpAny_bind (wpAny_call (codeAny_mono hq fun r s' z => ?_))
  rcases r with e | (v | _ | _ | _) <;> first | exact z | exact z.elim | skip
  obtain ⟨rfl, z⟩ := z
  exact wpAny_pure (wpAny_pure z)
theorem make_exc (Fn : ExcBaseFacts Bn newId inN bmN) (hcB : (Value.ref C :: bm).contains (.type Bn) = true) (hcA : (Value.ref C :: bm).contains (.type "AttributeError") = false) (hcN : (Value.ref C :: bm).contains (.type "NameError") = false)
    {rest : List Value} {init : Value} {E : Value → Shared → Prop} {Q : Value → Shared → Prop} (hC : h.get? C = some (excClassObj nm q C N bs bm hdct sn sub ab col dd k0 k1 k2 k3 k5 newId)) (hi : Looks (model prog w) h (typeLookup (.ref C) "__init__") (some init))
    (hb : ∀ self, Looks (model prog w) h (bindSpecial init self) (init, [self])) (hrest : rest.length ≤ sizeLine)
    (hq : codeAny (model prog w) (A.under (.builtin "type.__call__" ⟨.ref C :: rest, []⟩)) (.call init ⟨.ref (h.objs.size + 1) :: rest, []⟩) (fun r s' => match r with | .ok (.ret v) => v = .none ∧ Q (.ref (h.objs.size + 1)) s' | .ok _ => False | .error e => E e s')
      ⟨(h.push (newTup rest)).push (newExc C h.objs.size), g, d, t, os⟩) :
    wpAny (model prog w) A (call (.ref C) rest []) Q E ⟨h, g, d, t, os⟩ := by
  have f1 := tc_lookup
  have f2 := tc_bind (.ref C)
  have hT : (⟨h, g, d, t, os⟩ : Shared).TypeIs (.ref C) "type" := ⟨_, hC, rfl⟩
  refine wpAny_call (codeAny_of_tree ?_)
  show wpAny _ _ (callAny (.ref C) _) _ _ _
  repeat (any_goals (first | assumption | with_reducible refine wpAny_loadPart_at hC ?_ | wp_step))
  refine ⟨rfl, ?_⟩
  refine codeAny_call_builtin_at (Code.quiet_builtin _ (by decide +kernel)) entry_typeCall (wpAny_check_type_call_sub hC (make_excT Fn hcB hcA hcN hC hi hb hrest ?_))
  exact hq
end
end Mine
end
-- E5
section
open PySem PySem.W PySem.Calls PyProof.Rows
set_option Elab.async false
set_option maxRecDepth 100000
namespace Mine
section
variable {prog : Program} {w : World} {A : Around} {E : Value → Shared → Prop} {s : Shared} {K : Frag} {C L : Addr} {h₀ : Heap} {m : Str → Option Value} {news : List (Addr × Obj)} {Q : Value → Shared → Prop}
variable {nm q : Str} {Nn : Addr} {bs bm : List Value} {hdct : Bool} {sn : List Str} {sub : List Value} {ab : Bool} {col : Option Bool} {dd : Option Addr} {k0 k1 k2 k3 k5 : Option Value} {fI : Addr}
theorem call_excK {rest : List Value} (F : Fr h₀ L s.heap m) (X₀ : K.In h₀) (N : News h₀ L s.heap news) (hC : K.lookup C = some (excClassObj nm q C Nn bs bm hdct sn sub ab col dd k0 k1 k2 k3 k5 "Exception.__new__"))
    (hcB : (Value.ref C :: bm).contains (.type "Exception") = true) (hcA : (Value.ref C :: bm).contains (.type "AttributeError") = false) (hcN : (Value.ref C :: bm).contains (.type "NameError") = false)
    (hi : findIn K (.ref C) "__init__" = some (some (.ref fI))) (hf : isFn K (.ref fI) = true) (hrest : rest.length ≤ 100)
    (h : ∀ e t h', Fr h₀ L h' m → News h₀ L h' ((e, newExc C t) :: (t, newTup rest) :: news) → (∀ p ∈ news, p.1 < t) → t < e →
      codeAny (model prog w) (A.under (.builtin "type.__call__" ⟨.ref C :: rest, []⟩)) (.call (.ref fI) ⟨.ref e :: rest, []⟩) (fun r s' => match r with | .ok (.ret v) => v = .none ∧ Q (.ref e) s' | .ok _ => False | .error e => E e s') { s with heap := h' }) :
    wpAny (model prog w) A (call (.ref C) rest []) Q E s := by
  obtain ⟨hh, g, d, t, os⟩ := s
  have X := X₀.keeps F.keep
  refine make_exc PySem.F.excBase_Exception hcB hcA hcN (X _ _ hC) (looks_findIn X hi) (fun self => bind_fn X self (beq_iff_eq.mp hf)) (by rw [sizeLine_eq]; omega) ?_
  have N' := (N.push F (newTup rest)).push (F.push _) (newExc C hh.objs.size)
  rw [Heap.size_push] at N'
  exact h _ hh.objs.size _ ((F.push _).push _) N' (fun p hp => Heap.lt_size (N p hp).1) (Nat.lt_succ_self _)
end
end Mine
end
-- E6
section
open PySem PySem.W PySem.Calls PyProof.Rows Builtin Builtin.ObjectAttr
set_option Elab.async false
set_option maxRecDepth 100000
namespace Mine
def tailExc : List Value → Bool
  | .ref _ :: r => tailExc r
  | l => l == [.type "Exception", .type "BaseException", .type "object"]
theorem tail_is {l : List Value} (h : ∀ c r, l ≠ .ref c :: r) (e : tailExc l = true) : l = [.type "Exception", .type "BaseException", .type "object"] := by
  unfold tailExc at e
  split at e
  · exact absurd rfl (h _ _)
  · exact beq_iff_eq.mp e
theorem refuse_exc (self : Value) : ∀ {l : List Value}, tailExc l = true → refuseLoop self "__setattr__" l = pure ()
  | [], e => by cases e
  | c :: r, e => by
    by_cases h : ∃ a, c = .ref a
    · obtain ⟨a, rfl⟩ := h
      rw [refuseLoop_ref]
      exact refuse_exc self (by unfold tailExc at e; exact e)
    · rw [tail_is (fun a r' q => h ⟨a, (List.cons.inj q).1⟩) e]
      exact PySem.F.store_Exception.passes self
theorem exc_has : ∀ {l : List Value}, tailExc l = true → l.contains (.type "object") = true
  | [], e => by cases e
  | c :: r, e => by
    by_cases h : ∃ a, c = .ref a
    · obtain ⟨a, rfl⟩ := h
      rw [List.contains_cons, exc_has (l := r) (by unfold tailExc at e; exact e), Bool.or_true]
    · rw [tail_is (fun a r' q => h ⟨a, (List.cons.inj q).1⟩) e]
      exact PySem.F.store_Exception.hasOwner
section
variable {prog : Program} {w : World} {A : Around} {E : Value → Shared → Prop} {s : Shared} {K : Frag} {C L : Addr} {h₀ : Heap} {m : Str → Option Value} {news : List (Addr × Obj)}
variable {nm q : Str} {Nn : Addr} {bs bm : List Value} {hdct : Bool} {sn : List Str} {sub : List Value} {ab : Bool} {col : Option Bool} {dd : Option Addr} {k0 k1 k2 k3 k5 : Option Value} {newId : String}
theorem check_initE {M : Model} {h : Heap} {g : Array GenState} {d : Drawn} {t : Nat} {os : OsState} {e : Addr} {oe : Obj} {rest : List Value} {Q : Unit → Shared → Prop} (hC : h.get? C = some (excClassObj nm q C Nn bs bm hdct sn sub ab col dd k0 k1 k2 k3 k5 newId))
    (hcB : (Value.ref C :: bm).contains (.type "Exception") = true) (he : h.get? e = some oe) (hcls : oe.cls = .ref C) (hq : Q () ⟨h, g, d, t, os⟩) :
    wpAny M A (checkBuiltinCall "Exception.__init__" ⟨.ref e :: rest, []⟩) Q E ⟨h, g, d, t, os⟩ := by
  have F := PySem.F.excBase_Exception
  have hshort := F.noStar
  simp only [checkBuiltinCall, F.initKind, F.initSplit, F.initRow]
  repeat (first | (with_reducible refine wpAny_loadPart_at he ?_; rw [hcls]) | with_reducible refine wpAny_loadPart_at hC ?_ | (with_reducible refine wpAny_isSubtype_exc hC ?_; rw [hcB]) | wp_step)
  refine wpAny_onRaise ?_
  rw [show ∀ (a b : String) (n : Nat), Bind.check ⟨.positional, "*", "Exception", .self, [⟨"args", .varPos, false⟩]⟩ a b n (List.map (fun x => x.fst) ({ pos := Value.ref e :: rest } : Args).kw) = pure () from
    fun a b n => check_star_args _ _ _ _ _ _]
  exact wpAny_pure hq
theorem exc_initK {e t : Addr} {rest : List Value} {Q : Value → Shared → Prop} (F : Fr h₀ L s.heap m) (X₀ : K.In h₀) (N : News h₀ L s.heap ((e, newExc C t) :: news)) (hne : ∀ p ∈ news, p.1 ≠ e) (hC : K.lookup C = some (excClassObj nm q C Nn bs bm hdct sn sub ab col dd k0 k1 k2 k3 k5 newId)) (hcB : (Value.ref C :: bm).contains (.type "Exception") = true) (hrest : rest.length ≤ 100)
    (h : ∀ b h', Fr h₀ L h' m → News h₀ L h' ((e, newExc C b) :: (b, newTup rest) :: news) → (∀ p ∈ ((b, newTup rest) :: news : List (Addr × Obj)), p.1 ≠ e) → Q .none { s with heap := h' }) :
    wpAny (model prog w) A (call (.builtin "Exception.__init__") (.ref e :: rest) []) Q E s := by
  obtain ⟨hh, g, d, tk, os⟩ := s
  have he := (N (e, _) (.head _)).1
  dsimp only at he F N
  have FC := PySem.F.excBase_Exception
  have hsz : rest.length ≤ sizeLine := by rw [sizeLine_eq]; omega
  refine wpAny_call (codeAny_call_builtin FC.init.plain FC.initEntry (check_initE ((X₀.keeps F.keep) _ _ hC) hcB he rfl ?_))
  wp_walk
  have N1 := N.push F (newTup rest)
  have F1 : Fr h₀ L (hh.push (newTup rest)) m := F.push _
  have hlt := Heap.lt_size he
  obtain ⟨U1, U2⟩ := news_upd (pre := [(hh.objs.size, newTup rest)]) (post := news) (d := e) (o := newExc C t) (o' := newExc C hh.objs.size) (f := Obj.mapFields (·.setIfInBounds 0 (.ref hh.objs.size))) F1 N1 (fun p hp => by
    rcases List.mem_cons.mp hp with rfl | hp
    · exact Nat.ne_of_gt hlt
    · cases hp) hne rfl rfl
  refine h hh.objs.size _ U1 (fun q hq => U2 q ?_) (List.forall_mem_cons.mpr ⟨Nat.ne_of_gt hlt, hne⟩)
  rcases List.mem_cons.mp hq with rfl | hq
  · exact .tail _ (.head _)
  · rcases List.mem_cons.mp hq with rfl | hq
    · exact .head _
    · exact .tail _ (.tail _ hq)
end
end Mine
end
-- E7
section
open PySem PySem.W PySem.Calls PyProof.Rows Builtin Builtin.ObjectAttr
set_option Elab.async false
set_option maxRecDepth 100000
namespace Mine
def overExc (K : Frag) (C : Addr) : Bool := (clsIn K C).any fun cd => tailExc cd.mro && cd.hasDict
theorem putL_new {name : Str} {k : Int} {key v : Value} : ∀ {es : List DictEntry}, es.any (·.key.isStr name) = false → putL name k key v es = es ++ [⟨k, key, v⟩]
  | [], _ => rfl
  | e :: r, h => by
    rw [List.any_cons, Bool.or_eq_false_iff] at h
    rw [putL, h.1, putL_new h.2]; rfl
section
variable {prog : Program} {w : World} {A : Around} {E : Value → Shared → Prop} {s : Shared} {K : Frag} {C L x : Addr} {h₀ : Heap} {m : Str → Option Value} {news : List (Addr × Obj)} {R : Result → Shared → Prop}
theorem exc_setattr {ox : Obj} {od : Option Obj} {name : Str} {tk : Tok} {v : Value} (X : K.In s.heap) (I : InstAt s.heap x ox C od) (hp : overExc K C = true) (ha : findIn K (.ref C) name = some none)
    (h : ∀ cd, clsIn K C = some cd → cd.hasDict = true → ∀ B, wpAny (model prog w) A.in1 (instanceDict x true >>= fun r => match r with | some d => storeInDict d (.str name tk) name v | none => noDictFor (.ref x) (.ref C) name B)
      (fun fin s' => match fin with | .done f => R (.ok f) s' | .again c' => c'.quiet = true ∧ codeAny (model prog w) A c' R s') (fun e s' => R (.error e) s') s) :
    codeAny (model prog w) A (.call (.builtin "object.__setattr__") ⟨[.ref x, .str name tk, v], []⟩) R s := by
  have SF := PySem.F.store_Exception
  obtain ⟨cd, hc, ho⟩ := any_some hp
  obtain ⟨ho, hd⟩ := Bool.and_eq_true_iff.mp ho
  have ne : cd.mro.isEmpty = false := by cases q : cd.mro with | nil => rw [q] at ho; cases ho | cons _ _ => rfl
  have sub : Looks (model prog w) s.heap (isInstance (.ref x) (.type "object")) true := I.type.andThen (looks_mroIn X (by unfold mroIn; rw [hc, Option.bind_some, if_neg (by rw [ne]; decide), exc_has ho]))
  refine codeAny_call_builtin SF.slot.plain SF.entry (@check_slot (model prog w) _ _ s "object.__setattr__" "object" "__setattr__" (.ref x) [.str name tk, v] [] _ SF.kind SF.split sub (SF.args (.ref x) (.str name tk) v) ?_)
  have hm : Looks (model prog w) s.heap (mroOf (.ref C)) cd.mro := (looks_clsIn X hc).andThen .now
  rw [osa_eq, refuse_eq]
  refine wpAny_bind (wpAny_bind (I.type.here (wpAny_bind (hm.here ?_))))
  rw [refuse_exc _ ho]
  refine wpAny_pure (wpAny_bind (I.type.here (wpAny_bind ((looks_findIn X ha).here ?_))))
  show wpAny _ _ (pure none >>= _) _ _ _
  refine wpAny_bind (wpAny_pure ?_)
  dsimp only
  unfold storeInOwnDict
  exact h cd hc hd _
theorem nsPut_at {a : Addr} {es es' : List DictEntry} {n n' : Nat} {name : Str} {v : Value} {Q : PySem.Fin → Shared → Prop} {tk : Tok} (D : s.heap.get? a = some (dictOf es n)) (hl : (lookIn name (dictOf es n)).isSome = true)
    (e : (putL name (PyData.keyHash w.params name) (.str name s.toks) v es, putN name es n) = (es', n')) (hz : es'.length ≤ 1000)
    (h : Q (.done (.ret .none)) { s with heap := s.heap.update a (Obj.putName name (PyData.keyHash w.params name) (.str name s.toks) v), toks := s.toks + 1 }) : 
    wpAny (model prog w) A (storeInDict a (.str name tk) name v) Q E s := by
  obtain ⟨e1, e2⟩ := Prod.mk.inj e
  have hp : Obj.putName name (PyData.keyHash w.params name) (.str name s.toks) v (dictOf es n) = dictOf es' n' := by rw [putName_dict, e1, e2]
  have D' : (s.heap.update a (Obj.putName name (PyData.keyHash w.params name) (.str name s.toks) v)).get? a = some (dictOf es' n') := by
    have := Heap.get?_update_self (Obj.putName name (PyData.keyHash w.params name) (.str name s.toks) v) D (by rw [hp]; rfl)
    rw [this, hp]
  unfold storeInDict newKeyGuard
  refine wpAny_bind (wpAny_pure (wpAny_bind ?_))
  unfold nsSet
  refine wpAny_bind (wpAny_bind (wpAny_askSetting (wpAny_pure (wpAny_bind (wpAny_mkText (wpAny_bind (wpAny_loadPart D ?_)))))))
  unfold lookIn at hl
  split at hl
  · rename_i es₀ n₀ q
    cases q
    dsimp only
    have c : (!(es.toArray).any (·.key.isStr name) && (es.toArray).any (·.refKey)) = false := by
      rw [← Array.any_toList, ← Array.any_toList]
      split at hl
      · rename_i en he
        rw [List.any_eq_true.mpr ⟨en, List.mem_of_find?_eq_some he, List.find?_some he⟩]; rfl
      · split at hl
        · cases hl
        · rename_i z; rw [Bool.not_eq_true] at z; rw [z, Bool.and_false]
    rw [aRefKeyMayBeTheName_at, c]
    refine wpAny_updatePart D ?_
    refine wpAny_bind (wpAny_lookBehind D' (pastItsLine_dict (by rw [List.size_toArray, sizeLine_eq]; omega)) ?_)
    exact wpAny_pure h
  · rename_i z; exact absurd rfl (z _ _)
theorem exc_setNew {e b : Addr} {name : Str} {v : Value} {Q : Unit → Shared → Prop} (F : Fr h₀ L s.heap m) (X₀ : K.In h₀) (N : News h₀ L s.heap ((e, newExc C b) :: news)) (hne : ∀ p ∈ news, p.1 ≠ e) (hp : overExc K C = true) (ha : findIn K (.ref C) name = some none)
    (hs : findIn K (.ref C) "__setattr__" = some (some (.builtin "object.__setattr__")))
    (h : ∀ a h' h1 t1 t', Fr h₀ L h' m → News h₀ L h' ((e, excO C b a) :: (a, dictOf [⟨h1, .str name t1, v⟩] 1) :: news) → e ≠ a → (∀ p ∈ news, p.1 ≠ a) → Q () { s with heap := h', toks := t' }) :
    wpAny (model prog w) A (setAttr (.ref e) name v) Q E s := by
  obtain ⟨hh, g, d, tk, os⟩ := s
  have he := (N (e, _) (.head _)).1
  dsimp only at he F N
  have X := X₀.keeps F.keep
  have I : InstAt hh e (newExc C b) C none := ⟨he, rfl, rfl, trivial⟩
  refine set_plain X I hs (exc_setattr X I hp ha fun cd hc hd B => ?_)
  have hlt := Heap.lt_size he
  have N1 := N.push F emptyDict
  have F1 : Fr h₀ L (hh.push emptyDict) m := F.push _
  obtain ⟨F2, N2⟩ := news_upd (pre := [(hh.objs.size, emptyDict)]) (post := news) (d := e) (o := newExc C b) (o' := excO C b hh.objs.size) (f := fun o => { o with dict := some hh.objs.size }) F1 N1 (fun p hp => by
    rcases List.mem_cons.mp hp with rfl | hp
    · exact Nat.ne_of_gt hlt
    · cases hp) hne rfl rfl
  refine wpAny_bind ?_
  unfold instanceDict
  refine wpAny_bind (wpAny_loadPart he ?_)
  dsimp only
  refine wpAny_bind ((looks_clsIn X hc).here ?_)
  rw [hd]
  simp only [Bool.not_true, Bool.false_eq_true, if_false]
  have hth : typeHasDict (.ref C) = true := rfl
  rw [hth]
  simp only [Bool.not_true, Bool.or_false, Bool.false_eq_true, if_false]
  refine wpAny_bind (wpAny_alloc (wpAny_bind (wpAny_update' (Heap.get?_push_of_some emptyDict he) ?_)))
  unfold dictMade
  dsimp only
  refine wpAny_pure ?_
  dsimp only
  have N3 : News h₀ L ((hh.push emptyDict).update e fun o => { o with dict := some hh.objs.size }) ([] ++ (hh.objs.size, dictOf [] 0) :: (e, excO C b hh.objs.size) :: news) := N2
  have hE : Obj.putName name (PyData.keyHash w.params name) (.str name (tk + 1)) v (dictOf [] 0) = dictOf [⟨PyData.keyHash w.params name, .str name (tk + 1), v⟩] 1 := by rw [putName_dict]; rfl
  obtain ⟨F4, N4⟩ := news_upd (f := Obj.putName name (PyData.keyHash w.params name) (.str name (tk + 1)) v) F2 N3 (fun p hp => nomatch hp) (fun p hp => by
    rcases List.mem_cons.mp hp with rfl | hp
    · exact Nat.ne_of_lt hlt
    · exact Nat.ne_of_lt (Heap.lt_size (N p (.tail _ hp)).1)) hE rfl
  refine nsPut_at (es := []) (n := 0) (es' := [⟨PyData.keyHash w.params name, .str name (tk + 1), v⟩]) (n' := 1) (N3 _ (.head _)).1 rfl rfl (by simp) ?_
  refine h hh.objs.size _ (PyData.keyHash w.params name) (tk + 1) _ F4 (fun q hq => N4 q ?_) (Nat.ne_of_lt hlt) (fun p hp => Nat.ne_of_lt (Heap.lt_size (N p (.tail _ hp)).1))
  rcases List.mem_cons.mp hq with rfl | hq
  · exact .tail _ (.head _)
  · rcases List.mem_cons.mp hq with rfl | hq
    · exact .head _
    · exact .tail _ (.tail _ hq)
theorem exc_setOld {e a b : Addr} {name : Str} {v : Value} {Q : Unit → Shared → Prop} {es : List DictEntry} {n : Nat} (F : Fr h₀ L s.heap m) (X₀ : K.In h₀) (N : News h₀ L s.heap ((e, excO C b a) :: (a, dictOf es n) :: news)) (hea : e ≠ a) (hne : ∀ p ∈ news, p.1 ≠ a) (hp : overExc K C = true) (ha : findIn K (.ref C) name = some none)
    (hs : findIn K (.ref C) "__setattr__" = some (some (.builtin "object.__setattr__"))) (hno : es.any (·.key.isStr name) = false) (hl : getL name es = some none) (hz : es.length ≤ 100)
    (h : ∀ h' h1 t1 t', Fr h₀ L h' m → News h₀ L h' ((e, excO C b a) :: (a, dictOf (es ++ [⟨h1, .str name t1, v⟩]) (n + 1)) :: news) → Q () { s with heap := h', toks := t' }) :
    wpAny (model prog w) A (setAttr (.ref e) name v) Q E s := by
  obtain ⟨hh, g, d, tk, os⟩ := s
  have he := (N (e, _) (.head _)).1
  have hd' := (N (a, _) (.tail _ (.head _))).1
  dsimp only at he F N hd'
  have X := X₀.keeps F.keep
  have I : InstAt hh e (excO C b a) C (some (dictOf es n)) := ⟨he, rfl, rfl, hd'⟩
  refine set_plain X I hs (exc_setattr X I hp ha fun cd hc hd B => ?_)
  refine wpAny_bind ?_
  unfold instanceDict
  refine wpAny_bind (wpAny_loadPart he ?_)
  dsimp only
  refine wpAny_bind ((looks_clsIn X hc).here ?_)
  rw [hd]
  simp only [Bool.not_true, Bool.false_eq_true, if_false]
  refine wpAny_pure ?_
  dsimp only
  have hput : (putL name (PyData.keyHash w.params name) (.str name (tk + 1)) v es, putN name es n) = (es ++ [⟨PyData.keyHash w.params name, .str name (tk + 1), v⟩], n + 1) := by
    rw [putL_new hno]; unfold putN; rw [hno]; rfl
  have N3 : News h₀ L hh ([(e, excO C b a)] ++ (a, dictOf es n) :: news) := N
  obtain ⟨e1, e2⟩ := Prod.mk.inj hput
  have hE : Obj.putName name (PyData.keyHash w.params name) (.str name (tk + 1)) v (dictOf es n) = dictOf (es ++ [⟨PyData.keyHash w.params name, .str name (tk + 1), v⟩]) (n + 1) := by rw [putName_dict, e1, e2]
  obtain ⟨F4, N4⟩ := news_upd (f := Obj.putName name (PyData.keyHash w.params name) (.str name (tk + 1)) v) F N3 (fun p hp => by
    rcases List.mem_cons.mp hp with rfl | hp
    · exact hea
    · cases hp) hne hE rfl
  refine nsPut_at hd' (by rw [lookIn_dict, hl]; rfl) hput (by rw [List.length_append, List.length_cons, List.length_nil]; omega) ?_
  exact h _ _ _ _ F4 N4
end
end Mine
end
-- E8
section
open PySem PySem.W PySem.Calls PyProof.Rows PyProof.Rows.LCg
set_option Elab.async false
set_option maxRecDepth 100000
namespace Mine
/-! Comprehensions and loops over the signs of a text. -/
section
variable {prog : Program} {w : World} {A : Around} {E : Value → Shared → Prop} {s : Shared} {h₀ : Heap} {L : Addr} {m : PySem.Str → Option Value} {env : Env}
theorem pyIter_signs {x : PySem.Str} {t : Tok} {Q : Value → Shared → Prop}
    (hQ : ∀ (o : Obj) (ty : String), (∀ A' : Around, A'.handled = none → Walks prog w A' s.heap.objs.size [s.heap.objs.size] [s.heap.objs.size] x.cps.size (SignAt x) (fun i h => h.IsStrIter s.heap.objs.size ty x t i)) → (s.heap.push o).IsStrIter s.heap.objs.size ty x t 0 →
      Q (.ref s.heap.objs.size) { s with heap := s.heap.push o }) : wpAny (model prog w) A (pyIter (.str x t)) Q E s := by
  cases ha : x.cps.all (· < 128)
  · exact wpAny_pyIter_wide ha (hQ _ _ (fun A' hA => Walks.strWide hA _ x t) ⟨_, Heap.get?_push_size _ rfl, rfl, rfl⟩)
  · exact wpAny_pyIter_ascii ha (hQ _ _ (fun A' hA => Walks.strAscii hA _ x t) ⟨_, Heap.get?_push_size _ rfl, rfl, rfl⟩)
theorem iter_obj {I : Addr} {ty : String} {x : PySem.Str} {t : Tok} : ∀ (i : Nat) (h : Heap), h.IsStrIter I ty x t i → ∃ o, h.get? I = some o := fun _ _ st => let ⟨o, e, _⟩ := st; ⟨o, e⟩
theorem iter_same {I : Addr} {ty : String} {x : PySem.Str} {t : Tok} : ∀ (i : Nat) (h h' : Heap) (o : Obj) (nw : List (Addr × Obj)), h.IsStrIter I ty x t i → h.get? I = some o → h'.get? I = some o → (∀ b o, h₀.get? b = some o → h'.get? b = some o) → News h₀ L h' nw → True → h'.IsStrIter I ty x t i :=
  fun i h h' o nw st e e' _ _ _ => by obtain ⟨o', q, r⟩ := st; rw [e] at q; cases q; exact ⟨o, e', r⟩
def SrcS (prog : Program) (w : World) (A : Around) (h₀ : Heap) (L : Addr) (m : PySem.Str → Option Value) (env : Env) (elt : Expr) (x : PySem.Str) (scope : Scope) (cl : List (PySem.Str × Addr)) (Fin : Shared → List Value → List (Addr × Obj) → Prop) (xv : Value) (s₁ : Shared) : Prop :=
  ∃ x0 t news, xv = .str x0 t ∧ A.handled = none ∧ Fr h₀ L s₁.heap m ∧ News h₀ L s₁.heap news ∧ x0.cps.size ≤ sizeLine ∧
    ∀ g, CompRest prog w A h₀ L m env elt x scope cl { s₁ with heap := g } (fun _ => True) (SignAt x0) (Fin { s₁ with heap := g }) x0.cps.size 0 [] news
theorem SrcS.intro {elt : Expr} {x : PySem.Str} {scope : Scope} {cl : List (PySem.Str × Addr)} {Fin : Shared → List Value → List (Addr × Obj) → Prop} {x0 : PySem.Str} {t : Tok} {news : List (Addr × Obj)} {s₁ : Shared}
    (hh : A.handled = none) (F : Fr h₀ L s₁.heap m) (N : News h₀ L s₁.heap news) (hsz : x0.length ≤ 1000)
    (h : ∀ g, CompRest prog w A h₀ L m env elt x scope cl { s₁ with heap := g } (fun _ => True) (SignAt x0) (Fin { s₁ with heap := g }) x0.cps.size 0 [] news) :
    SrcS prog w A h₀ L m env elt x scope cl Fin (.str x0 t) s₁ := ⟨x0, t, news, rfl, hh, F, N, Nat.le_trans hsz (by rw [sizeLine_eq]; decide), h⟩
theorem ListComp_S {elt iter : Expr} {x : PySem.Str} {px : Pos} {scope : Scope} {cl : List (PySem.Str × Addr)} {pos : Pos} {Q : Value → Shared → Prop} (F₀ : Fr h₀ L s.heap m)
    (hclos : closureFor scope env = pure cl) (hcell : ∀ y ∈ scope.names, y.2 ≠ .cell) (hkind : scope.kind = .function)
    (hnames : ∀ y ∈ scope.names, y.2 = .local → scope.names.lookup y.1 = some .local) (hx : scope.names.lookup x = some .local)
    (h : wpAny (model prog w) A (eval iter env) (SrcS prog w A h₀ L m env elt x scope cl (fun s₂ => FinE h₀ L m s₂ Q)) E s)
    (hs : ∀ x, foldedSetIterable iter env x = pure x := by intro _; rfl) :
    wpAny (model prog w) A (eval (.ListComp elt [⟨.Name x px, iter, [], 0⟩] scope pos) env) Q E s := by
  rw [eval_ListComp]
  refine wpAny_comprehension_free (use := none) rfl hs hclos hkind hnames (wpAny_mono h (fun xv s₁ h₁ => ?_) fun _ _ e => e)
  obtain ⟨x0, t, news, rfl, hh, F, N, hsz, R⟩ := h₁
  refine pyIter_signs fun o ty W st0 => ?_
  refine block_U (W _ hh) hsz iter_obj iter_same hcell hkind hx st0 (fun b hb => ?_)
    (F.keeps fun _ _ e => Heap.get?_push_of_some _ e) (N.grown fun _ _ e => Heap.get?_push_of_some _ e) (Nat.ne_of_lt F.ns.lt) (next_is_new F) (fun p hp => Nat.ne_of_lt (Heap.lt_size (N p hp).1)) trivial (R _) ?_
  · rw [List.mem_singleton.mp hb]
    show s₁.heap.objs.size < (s₁.heap.push _).objs.size
    rw [Heap.size_push]; exact Nat.lt_succ_self _
  · intro D C h tk m' ys news' F' N' o1 hn hC₀ hD₀ hCL hDL hCD offC fin
    refine ⟨m', hn, fun h'' hs'' => fin D h'' tk (F'.change hs'' hCL hC₀) (fun p hp => ?_) o1⟩
    refine ⟨hs''.extBut _ _ ?_ (N' p hp).1, (N' p hp).2⟩
    rcases List.mem_cons.mp hp with rfl | hp
    · exact Ne.symm hCD
    · exact offC p hp
theorem Assign_ListComp_S {elt iter : Expr} {x y : PySem.Str} {px py : Pos} {scope : Scope} {cl : List (PySem.Str × Addr)} {pos spos : Pos} {Q : Flow → Shared → Prop} (F₀ : Fr h₀ L s.heap m) (hLe : env.locals = L)
    (hsw : swapsWith (.ListComp elt [⟨.Name x px, iter, [], 0⟩] scope pos) (some (.Name y py)) spos.line env = pure true)
    (hclos : closureFor scope env = pure cl) (hcell : ∀ z ∈ scope.names, z.2 ≠ .cell) (hkind : scope.kind = .function)
    (hnames : ∀ z ∈ scope.names, z.2 = .local → scope.names.lookup z.1 = some .local) (hx : scope.names.lookup x = some .local)
    (hy : env.kindOf y = some .local) (hp : (env.scope.kind == .class || (env.scope.kind == .module && env.locals != env.globals)) = false)
    (h : wpAny (model prog w) A (eval iter env) (SrcS prog w A h₀ L m env elt x scope cl (fun s₂ => FinA h₀ L m s₂ y Q)) E s)
    (hs : ∀ x, foldedSetIterable iter env x = pure x := by intro _; rfl) :
    wpAny (model prog w) A (exec (.Assign [.Name y py] (.ListComp elt [⟨.Name x px, iter, [], 0⟩] scope pos) spos) env) Q E s := by
  subst hLe
  rw [exec_Assign_Name_used _ _ _ _ hsw]
  refine wpAny_bind (wpAny_standAt (wpAny_bind ?_))
  show wpAny _ A (do let _ ← comprehension (.ListComp elt [⟨.Name x px, iter, [], 0⟩] scope pos) scope env _ (newList []) false (eval iter env) (some (assign (.Name y py) env))) _ _ s
  refine wpAny_bind (wpAny_mono (wpAny_comprehension_free (use := some (assign (.Name y py) env)) (Q := fun _ s' => Q .next s') rfl hs hclos hkind hnames
    (wpAny_mono h (fun xv s₁ h₁ => ?_) fun _ _ e => e)) (fun _ s' hq => wpAny_pure (wpAny_pure hq)) fun _ _ e => e)
  obtain ⟨x0, t, news, rfl, hh, F, N, hsz, R⟩ := h₁
  refine pyIter_signs fun o ty W st0 => ?_
  refine block_U (W _ hh) hsz iter_obj iter_same hcell hkind hx st0 (fun b hb => ?_)
    (F.keeps fun _ _ e => Heap.get?_push_of_some _ e) (N.grown fun _ _ e => Heap.get?_push_of_some _ e) (Nat.ne_of_lt F.ns.lt) (next_is_new F) (fun p hp => Nat.ne_of_lt (Heap.lt_size (N p hp).1)) trivial (R _) ?_
  · rw [List.mem_singleton.mp hb]
    show s₁.heap.objs.size < (s₁.heap.push _).objs.size
    rw [Heap.size_push]; exact Nat.lt_succ_self _
  · intro D C h' tk m' ys news' F' N' o1 hn hC₀ hD₀ hCL hDL hCD offC fin
    show wpAny _ A (assign (.Name y py) env (.ref D)) _ _ _
    refine wpAny_assign_Name (wpAny_storeName_local hy F'.ns (fun h₂ hn₂ hs₂ => ?_) hp)
    have hL₀ : h₀.get? env.locals = none := Heap.get?_none_of_le F'.above
    have F₂ : Fr h₀ env.locals h₂ (fun z => if z = y then some (.ref D) else m z) := ⟨hn₂, fun b o e => hs₂.extBut b o (fun q => by rw [q, hL₀] at e; cases e) (F'.keep b o e), F'.above⟩
    refine ⟨m', hn.sameBut hs₂ hCL, fun h'' hs'' => fin D h'' _ (F₂.change hs'' hCL hC₀) (fun p hp => ?_) o1⟩
    have z : h₂.get? p.1 = some p.2 := hs₂.extBut _ _ (N' p hp).2.1 (N' p hp).1
    refine ⟨hs''.extBut _ _ ?_ z, (N' p hp).2⟩
    rcases List.mem_cons.mp hp with rfl | hp
    · exact Ne.symm hCD
    · exact offC p hp
end
end Mine
end
-- E9
section
open PySem PySem.W PySem.Calls PyProof.Rows
set_option Elab.async false
set_option maxRecDepth 100000
namespace Mine
section
variable {prog : Program} {w : World} {A : Around} {E : Value → Shared → Prop} {s : Shared} {env : Env} {h₀ : Heap} {x : PySem.Str} {body : List Stmt} {Q : Flow → Shared → Prop}
/-- a loop over the signs of a text that folds one int -/
theorem signs_inv {x0 : PySem.Str} {t0 : Tok} {m₀ : PySem.Str → Option Value} {news : List (Addr × Obj)} {n0 : Int} {k0 : Tok} (y : PySem.Str) (step : Int → Nat → Int)
    (hxy : x ≠ y) (hh : A.handled = none) (F : Fr h₀ env.locals s.heap m₀) (N : News h₀ env.locals s.heap news) (hy : m₀ y = some (.int n0 k0))
    (turn : ∀ (c : Nat) (acc : Int) t u h tk I oI, c ∈ x0.cps.toList → Fr h₀ env.locals h (fun z => if z = x then some (.str ⟨#[c]⟩ t) else if z = y then some (.int acc u) else m₀ z) → News h₀ env.locals h ((I, oI) :: news) → (∀ p ∈ news, p.1 ≠ I) →
      wpAny (model prog w) A (execs body env) (InvPost h₀ env.locals (fun m' => (∃ u', m' y = some (.int (step acc c) u')) ∧ ∀ z, z ≠ x → z ≠ y → m' z = m₀ z) ((I, oI) :: news) { s with heap := h, toks := tk } Q) E { s with heap := h, toks := tk })
    (done : ∀ (u : PySem.Str → Option Value) v h tk, Fr h₀ env.locals h (fun z => if z = x then u z else if z = y then some (.int (x0.cps.toList.foldl step n0) v) else m₀ z) → News h₀ env.locals h news → Q .next { s with heap := h, toks := tk }) :
    wpAny (model prog w) A (pyIter (.str x0 t0)) (fun it s₂ => LoopAtV prog w A h₀ env x body Q E it s₂) E s := by
  refine pyIter_signs fun o ty W st0 => ?_
  let J : Nat → (PySem.Str → Option Value) → Prop := fun i m' => (∃ u', m' y = some (.int ((x0.cps.toList.take i).foldl step n0) u')) ∧ ∀ z, z ≠ x → z ≠ y → m' z = m₀ z
  let J' : Nat → (PySem.Str → Option Value) → List (Addr × Obj) → Prop := fun i m₁ news₁ => news₁ = news ∧ J i m₁
  refine ⟨_, _, _, x0.cps.size, _, _, m₀, news, J', rfl, W _ hh, ?_, ?_, ?_, st0, F.push _, (fun p hp => ⟨Heap.get?_push_of_some _ (N p hp).1, (N p hp).2⟩), ⟨rfl, ⟨_, hy⟩, fun _ _ _ => rfl⟩, ?_, ?_⟩
  · intro hm
    exact absurd F.ns.lt ((List.mem_singleton.mp hm) ▸ Nat.lt_irrefl _)
  · intro b hb
    rw [List.mem_singleton.mp hb]
    exact next_is_new F
  · intro p hp hI
    exact absurd (Heap.lt_size (N p hp).1) ((List.mem_singleton.mp hI) ▸ Nat.lt_irrefl _)
  · rintro i v m₁ news₁ s₁ own ⟨hh', tk', rfl⟩ hin ⟨c, t, hc, rfl⟩ ⟨rfl, ⟨u', hu'⟩, hJ⟩ hoff hown hget hall hst F₁ N₁
    have hl : x0.cps.toList[i]? = some c := by rw [Array.getElem?_toList]; exact hc
    have e : (fun z => if z = x then some (Value.str ⟨#[c]⟩ t) else m₁ z) = fun z => if z = x then some (Value.str ⟨#[c]⟩ t) else if z = y then some (.int ((x0.cps.toList.take i).foldl step n0) u') else m₀ z := by
      funext z
      by_cases h1 : z = x
      · simp [h1]
      · simp only [if_neg h1]
        by_cases h2 : z = y
        · simp [h2, hu']
        · simp only [if_neg h2]; exact hJ z h1 h2
    rw [e] at F₁
    obtain ⟨oI, hoI, _⟩ := id hst
    have hmem : ∀ p ∈ own ++ news₁, p ∈ (s.heap.objs.size, oI) :: news₁ := fun p hp => by
      rcases List.mem_append.mp hp with hp | hp
      · have h1 := List.mem_singleton.mp (hown p hp)
        have h2 := hget p hp
        rw [h1] at h2
        have h3 : some p.2 = some oI := h2.symm.trans hoI
        have : p = (s.heap.objs.size, oI) := Prod.ext h1 (Option.some.inj h3)
        rw [this]; exact .head _
      · exact .tail _ hp
    have N₂ : News h₀ env.locals hh' ((s.heap.objs.size, oI) :: news₁) := fun p hp => by
      rcases List.mem_cons.mp hp with rfl | hp
      · exact N₁ _ (List.mem_append_left _ (hall _ (.head _) (next_is_new F) oI hoI))
      · exact N₁ _ (List.mem_append_right _ hp)
    refine wpAny_mono (turn c _ t u' hh' tk' _ oI (List.mem_of_getElem? hl) F₁ N₂ (fun p hp q => hoff p hp (q ▸ .head _))) (fun f s₂ p => ?_) fun _ _ e => e
    have fin : InvEnd h₀ env.locals (fun m' => (∃ u', m' y = some (.int (step ((x0.cps.toList.take i).foldl step n0) c) u')) ∧ ∀ z, z ≠ x → z ≠ y → m' z = m₀ z) ((s.heap.objs.size, oI) :: news₁) { s with heap := hh', toks := tk' } s₂ →
        LoopStepU h₀ env.locals [s.heap.objs.size] own (J' (i + 1)) { s with heap := hh', toks := tk' } .next s₂ := by
      rintro ⟨h', tk, m', news', e, F', N', hn, ⟨u2, hu2⟩, hm⟩
      refine ⟨rfl, h', tk, m', news₁, e, F', fun p hp => N' p (hn p (hmem p hp)), hoff, rfl, ⟨u2, ?_⟩, hm⟩
      rw [List.take_add_one, hl, List.foldl_append]
      exact hu2
    cases f with
    | ret v => exact .ret p
    | brk => exact .brk p
    | next => exact .next (fin p)
    | cont => exact .cont (fin p)
  · rintro h' tk m' news' F' N' _ ⟨rfl, ⟨u', hu'⟩, hJ⟩
    have ht : x0.cps.toList.take x0.cps.size = x0.cps.toList := by rw [← Array.length_toList, List.take_length]
    rw [ht] at hu'
    have e : (fun z => if z = x then m' z else if z = y then some (.int (x0.cps.toList.foldl step n0) u') else m₀ z) = m' := by
      funext z
      by_cases h1 : z = x
      · simp [h1]
      · simp only [if_neg h1]
        by_cases h2 : z = y
        · simp [h2, hu']
        · simp only [if_neg h2]; exact (hJ z h1 h2).symm
    exact done m' u' h' tk (by rw [e]; exact F') N'
end
section
variable {prog : Program} {w : World} {A : Around} {E : Value → Shared → Prop} {s : Shared} {env : Env} {h₀ : Heap} {x : PySem.Str} {body : List Stmt} {Q : Flow → Shared → Prop}
/-- a loop over a range that changes nothing -/
theorem range_keep {r : Addr} {a₀ b₀ : Int} {t₀ u₀ v₀ : Tok} {m₀ : PySem.Str → Option Value} {news : List (Addr × Obj)} (n : Nat)
    (hh : A.handled = none) (hr : IsRange s.heap r a₀ b₀ 1 t₀ u₀ v₀) (hsmall : Builtin.Range.small a₀ b₀ 1 = true) (hn : Builtin.Range.rangeSize a₀ b₀ 1 = (n : Int)) (F : Fr h₀ env.locals s.heap m₀) (N : News h₀ env.locals s.heap news)
    (turn : ∀ (i : Nat) (u : PySem.Str → Option Value) t h tk I oI, i < n → Fr h₀ env.locals h (fun z => if z = x then some (.int (a₀ + (i : Int)) t) else m₀ z) → News h₀ env.locals h ((I, oI) :: news) → (∀ p ∈ news, p.1 ≠ I) →
      wpAny (model prog w) A (execs body env) (InvPost h₀ env.locals (fun m' => ∀ z, z ≠ x → m' z = m₀ z) ((I, oI) :: news) { s with heap := h, toks := tk } Q) E { s with heap := h, toks := tk })
    (done : ∀ (u : PySem.Str → Option Value) h tk, Fr h₀ env.locals h (fun z => if z = x then u z else m₀ z) → News h₀ env.locals h news → Q .next { s with heap := h, toks := tk }) :
    wpAny (model prog w) A (pyIter (.ref r)) (fun it s₂ => LoopAtV prog w A h₀ env x body Q E it s₂) E s := by
  refine wpAny_pyIter_range hr hsmall ?_
  have W : Walks prog w A s.heap.objs.size [s.heap.objs.size] [s.heap.objs.size] n (fun i v => i < n ∧ ∃ t, v = .int (a₀ + i * 1) t)
      (fun i h => IsRangeIter h s.heap.objs.size (a₀ + (i : Nat) * 1) ((n : Int) - (i : Nat)) 1) := (Walks.range hh _ a₀ 1 n).bound
  let J : (PySem.Str → Option Value) → Prop := fun m' => ∀ z, z ≠ x → m' z = m₀ z
  let J' : Nat → (PySem.Str → Option Value) → List (Addr × Obj) → Prop := fun i m₁ news₁ => news₁ = news ∧ J m₁
  refine ⟨_, _, _, n, _, _, m₀, news, J', rfl, W, ?_, ?_, ?_, (by show IsRangeIter _ _ _ _ _; rw [hn]; simpa using Heap.get?_push_size _ rfl), F.push _, (fun p hp => ⟨Heap.get?_push_of_some _ (N p hp).1, (N p hp).2⟩), ⟨rfl, fun _ _ => rfl⟩, ?_, ?_⟩
  · intro hm
    exact absurd F.ns.lt ((List.mem_singleton.mp hm) ▸ Nat.lt_irrefl _)
  · intro b hb
    rw [List.mem_singleton.mp hb]
    exact next_is_new F
  · intro p hp hI
    exact absurd (Heap.lt_size (N p hp).1) ((List.mem_singleton.mp hI) ▸ Nat.lt_irrefl _)
  · rintro i v m₁ news₁ s₁ own ⟨hh', tk', rfl⟩ hin ⟨_, t, rfl⟩ ⟨rfl, hJ⟩ hoff hown hget hall hst F₁ N₁
    have e : (fun z => if z = x then some (Value.int (a₀ + (i : Int) * 1) t) else m₁ z) = fun z => if z = x then some (Value.int (a₀ + (i : Int)) t) else m₀ z := by
      funext z
      by_cases h1 : z = x
      · simp [h1]
      · simp only [if_neg h1]; exact hJ z h1
    rw [e] at F₁
    have ho : ∃ oI, hh'.get? s.heap.objs.size = some oI := ⟨_, hst⟩
    obtain ⟨oI, hoI⟩ := ho
    have hmem : ∀ p ∈ own ++ news₁, p ∈ (s.heap.objs.size, oI) :: news₁ := fun p hp => by
      rcases List.mem_append.mp hp with hp | hp
      · have h1 := List.mem_singleton.mp (hown p hp)
        have h2 := hget p hp
        rw [h1] at h2
        have h3 : some p.2 = some oI := h2.symm.trans hoI
        have : p = (s.heap.objs.size, oI) := Prod.ext h1 (Option.some.inj h3)
        rw [this]; exact .head _
      · exact .tail _ hp
    have N₂ : News h₀ env.locals hh' ((s.heap.objs.size, oI) :: news₁) := fun p hp => by
      rcases List.mem_cons.mp hp with rfl | hp
      · exact N₁ _ (List.mem_append_left _ (hall _ (.head _) (next_is_new F) oI hoI))
      · exact N₁ _ (List.mem_append_right _ hp)
    refine wpAny_mono (turn i m₁ t hh' tk' _ oI hin F₁ N₂ (fun p hp q => hoff p hp (q ▸ .head _))) (fun f s₂ p => ?_) fun _ _ e => e
    have fin : InvEnd h₀ env.locals J ((s.heap.objs.size, oI) :: news₁) { s with heap := hh', toks := tk' } s₂ → LoopStepU h₀ env.locals [s.heap.objs.size] own (J' (i + 1)) { s with heap := hh', toks := tk' } .next s₂ := by
      rintro ⟨h', tk, m', news', e, F', N', hn, hm⟩
      exact ⟨rfl, h', tk, m', news₁, e, F', fun p hp => N' p (hn p (hmem p hp)), hoff, rfl, hm⟩
    cases f with
    | ret v => exact .ret p
    | brk => exact .brk p
    | next => exact .next (fin p)
    | cont => exact .cont (fin p)
  · rintro h' tk m' news' F' N' _ ⟨rfl, hJ⟩
    have e : (fun z => if z = x then m' z else m₀ z) = m' := by
      funext z
      by_cases h1 : z = x
      · simp [h1]
      · simp only [if_neg h1]; exact (hJ z h1).symm
    exact done m' h' tk (by rw [e]; exact F') N'
end
section
variable {prog : Program} {w : World} {A : Around} {E : Value → Shared → Prop} {s : Shared} {h₀ : Heap} {L : Addr} {m : PySem.Str → Option Value} {news : List (Addr × Obj)} {Q : Value → Shared → Prop}
theorem slice_sn_eq {value slice : Expr} {x y : PySem.Str} {t : Tok} {j : Int} {uj : Tok} (hy : Txt.slice x (some j) none = y) (hF : Fr h₀ L s.heap m) (hN : News h₀ L s.heap news) (hx : x.length ≤ 1000) (h : ∀ h' t' k, Fr h₀ L h' m → News h₀ L h' news → Q (.str y t') { s with heap := h', toks := k })
    (hs : subscripted slice false (.str x t) (.ref s.heap.objs.size) = operate [.ref s.heap.objs.size, .str x t] (getItem (.str x t) (.ref s.heap.objs.size)) := by with_unfolding_all rfl)
    (ht : ∀ r, letTemporaryGo value (.str x t) r = pure () := by intro _; with_unfolding_all rfl) :
    wpAny (model prog w) A (subscriptTail value slice (.str x t) (.ref s.heap.objs.size)) Q E { s with heap := s.heap.push { cls := .type "slice", data := .fields #[.int j uj, .none, .none] } } :=
  slice_strN_sn hF hN (fun h' t' k a b => hy ▸ h h' t' k a b) hs ht (by rw [sizeLine_eq]; omega)
theorem slice_ns_eq {value slice : Expr} {x y : PySem.Str} {t : Tok} {j : Int} {uj : Tok} (hy : Txt.slice x none (some j) = y) (hF : Fr h₀ L s.heap m) (hN : News h₀ L s.heap news) (hx : x.length ≤ 1000) (h : ∀ h' t' k, Fr h₀ L h' m → News h₀ L h' news → Q (.str y t') { s with heap := h', toks := k })
    (hs : subscripted slice false (.str x t) (.ref s.heap.objs.size) = operate [.ref s.heap.objs.size, .str x t] (getItem (.str x t) (.ref s.heap.objs.size)) := by with_unfolding_all rfl)
    (ht : ∀ r, letTemporaryGo value (.str x t) r = pure () := by intro _; with_unfolding_all rfl) :
    wpAny (model prog w) A (subscriptTail value slice (.str x t) (.ref s.heap.objs.size)) Q E { s with heap := s.heap.push { cls := .type "slice", data := .fields #[.none, .int j uj, .none] } } :=
  slice_strN_ns hF hN (fun h' t' k a b => hy ▸ h h' t' k a b) hs ht (by rw [sizeLine_eq]; omega)
theorem add_eq {x z y : PySem.Str} {t u : Tok} (hy : x ++ z = y) (hl : x.length + z.length ≤ 1000) (h : ∀ t' tk, Q (.str y t') { s with toks := tk }) : wpAny (model prog w) A (binaryOp .Add (.str x t) (.str z u)) Q E s :=
  add_str (fun t' tk => hy ▸ h t' tk) (by rw [sizeLine_eq]; omega)
theorem ite_yes {c : Prop} [Decidable c] {X Y : Prop} (h : c) (y : X) : if c then X else Y := by rw [if_pos h]; exact y
theorem ite_no {c : Prop} [Decidable c] {X Y : Prop} (h : ¬c) (y : Y) : if c then X else Y := by rw [if_neg h]; exact y
end
end Mine
end
-- E10
section
open PySem PySem.W PySem.Calls PyProof.Rows
set_option Elab.async false
set_option maxRecDepth 100000
namespace Mine
section
variable {M : Model} {A : Around} {E : Value → Shared → Prop} {s' : Shared} {base g g₂ : Heap} {outer : List Env} {L a e C dx t : Addr} {m : PySem.Str → Option Value} {env : Env} {Q : Unit → Shared → Prop} {news : List (Addr × Obj)}
/-- an exception in flight leaves a frame whose env has cells -/
theorem leaveD_onX (K : Below A base outer g) (F : Fr g L g₂ m) (hf : env.frame = some L) (R : RaisedD base g₂ (env :: outer) e C dx news s'.heap) (hsm : g₂.UpToSlots s'.heap)
    (hQ : ∀ h', RaisedD base g outer e C dx news h' → g.UpToSlots h' → Q () { s' with heap := h' }) :
    wpAny M (A.deeper env) (leaving env (.ref e)) Q E s' := by
  obtain ⟨B, a0, hB, hBG, hl, x⟩ := R
  refine d_leaveOn (Around.frames_deeper K.stack) hf x fun h' y u => hQ h' ⟨B, a0, hB, fun b o q nm => hBG b o (F.keep b o q) fun hm => ?_, fun q hq => ⟨(hl q hq).1, kts_none F.keep (hl q hq).2.1, (hl q hq).2.2⟩, y⟩ ((Heap.UpToSlots.of_keeps F.keep).trans (hsm.trans u))
  rw [List.filterMap_cons, hf] at hm
  rcases List.mem_cons.mp hm with z | z
  · rw [z, kts_self F] at q; cases q
  · exact nm z
end
end Mine
end
-- E11
section
open PySem PySem.W PySem.Calls PyProof.Rows
set_option Elab.async false
set_option maxRecDepth 100000
namespace Mine
/-! A loop over a range with an invariant of the frame and of the ledger. -/
section
variable {prog : Program} {w : World} {A : Around} {E : Value → Shared → Prop} {s : Shared} {env : Env} {h₀ : Heap} {x : PySem.Str} {body : List Stmt} {Q : Flow → Shared → Prop}
def LEnd (h₀ : Heap) (L : Addr) (s : Shared) (I : Addr) (oI : Obj) (J : (PySem.Str → Option Value) → List (Addr × Obj) → Prop) (s₂ : Shared) : Prop :=
  ∃ h' tk m' news', s₂ = { s with heap := h', toks := tk } ∧ Fr h₀ L h' m' ∧ News h₀ L h' ((I, oI) :: news') ∧ (∀ p ∈ news', p.1 ≠ I) ∧ J m' news'
def LPost (h₀ : Heap) (L : Addr) (s : Shared) (I : Addr) (oI : Obj) (J : (PySem.Str → Option Value) → List (Addr × Obj) → Prop) (Q : Flow → Shared → Prop) (f : Flow) (s₂ : Shared) : Prop :=
  match f with
  | .ret v => Q (.ret v) s₂
  | .brk => Q .next s₂
  | _ => LEnd h₀ L s I oI J s₂
theorem range_loop {r : Addr} {a₀ b₀ : Int} {t₀ u₀ v₀ : Tok} {m₀ : PySem.Str → Option Value} {news : List (Addr × Obj)} (J : (PySem.Str → Option Value) → List (Addr × Obj) → Prop) (n : Nat)
    (hh : A.handled = none) (hr : IsRange s.heap r a₀ b₀ 1 t₀ u₀ v₀) (hsmall : Builtin.Range.small a₀ b₀ 1 = true) (hn : Builtin.Range.rangeSize a₀ b₀ 1 = (n : Int)) (F : Fr h₀ env.locals s.heap m₀) (N : News h₀ env.locals s.heap news) (j0 : J m₀ news)
    (turn : ∀ m₁ news₁ (i : Int) t h tk I oI, J m₁ news₁ → Fr h₀ env.locals h (fun z => if z = x then some (.int i t) else m₁ z) → News h₀ env.locals h ((I, oI) :: news₁) → (∀ p ∈ news₁, p.1 ≠ I) → (∃ a b c, oI.data = .fields #[rawInt a, rawInt b, rawInt c]) →
      wpAny (model prog w) A (execs body env) (LPost h₀ env.locals { s with heap := h, toks := tk } I oI J Q) E { s with heap := h, toks := tk })
    (done : ∀ m₁ news₁ h tk, J m₁ news₁ → Fr h₀ env.locals h m₁ → News h₀ env.locals h news₁ → Q .next { s with heap := h, toks := tk }) :
    wpAny (model prog w) A (pyIter (.ref r)) (fun it s₂ => LoopAtV prog w A h₀ env x body Q E it s₂) E s := by
  refine wpAny_pyIter_range hr hsmall ?_
  have W : Walks prog w A s.heap.objs.size [s.heap.objs.size] [s.heap.objs.size] n (fun i v => i < n ∧ ∃ t, v = .int (a₀ + i * 1) t)
      (fun i h => IsRangeIter h s.heap.objs.size (a₀ + (i : Nat) * 1) ((n : Int) - (i : Nat)) 1) := (Walks.range hh _ a₀ 1 n).bound
  let J' : Nat → (PySem.Str → Option Value) → List (Addr × Obj) → Prop := fun _ m₁ news₁ => J m₁ news₁
  refine ⟨_, _, _, n, _, _, m₀, news, J', rfl, W, ?_, ?_, ?_, (by show IsRangeIter _ _ _ _ _; rw [hn]; simpa using Heap.get?_push_size _ rfl), F.push _, (fun p hp => ⟨Heap.get?_push_of_some _ (N p hp).1, (N p hp).2⟩), j0, ?_, ?_⟩
  · intro hm
    exact absurd F.ns.lt ((List.mem_singleton.mp hm) ▸ Nat.lt_irrefl _)
  · intro b hb
    rw [List.mem_singleton.mp hb]
    exact next_is_new F
  · intro p hp hI
    exact absurd (Heap.lt_size (N p hp).1) ((List.mem_singleton.mp hI) ▸ Nat.lt_irrefl _)
  · rintro i v m₁ news₁ s₁ own ⟨hh', tk', rfl⟩ hin ⟨_, t, rfl⟩ j1 hoff hown hget hall hst F₁ N₁
    have ho : ∃ oI, hh'.get? s.heap.objs.size = some oI := ⟨_, hst⟩
    obtain ⟨oI, hoI⟩ := ho
    have hd : ∃ a b c, oI.data = .fields #[rawInt a, rawInt b, rawInt c] := by
      have h1 : hh'.get? s.heap.objs.size = some _ := hst
      rw [hoI] at h1
      exact ⟨_, _, _, by rw [Option.some.inj h1]⟩
    have hmem : ∀ nw : List (Addr × Obj), ∀ p ∈ own ++ nw, p ∈ (s.heap.objs.size, oI) :: nw := fun nw p hp => by
      rcases List.mem_append.mp hp with hp | hp
      · have h1 := List.mem_singleton.mp (hown p hp)
        have h2 := hget p hp
        rw [h1] at h2
        have h3 : some p.2 = some oI := h2.symm.trans hoI
        have : p = (s.heap.objs.size, oI) := Prod.ext h1 (Option.some.inj h3)
        rw [this]; exact .head _
      · exact .tail _ hp
    have N₂ : News h₀ env.locals hh' ((s.heap.objs.size, oI) :: news₁) := fun p hp => by
      rcases List.mem_cons.mp hp with rfl | hp
      · exact N₁ _ (List.mem_append_left _ (hall _ (.head _) (next_is_new F) oI hoI))
      · exact N₁ _ (List.mem_append_right _ hp)
    refine wpAny_mono (turn m₁ news₁ _ t hh' tk' _ oI j1 F₁ N₂ (fun p hp q => hoff p hp (q ▸ .head _)) hd) (fun f s₂ p => ?_) fun _ _ e => e
    have fin : LEnd h₀ env.locals { s with heap := hh', toks := tk' } s.heap.objs.size oI J s₂ → LoopStepU h₀ env.locals [s.heap.objs.size] own (J' (i + 1)) { s with heap := hh', toks := tk' } .next s₂ := by
      rintro ⟨h', tk, m', news', e, F', N', off', j'⟩
      exact ⟨rfl, h', tk, m', news', e, F', fun p hp => N' p (hmem news' p hp), fun p hp hI => off' p hp (List.mem_singleton.mp hI), j'⟩
    cases f with
    | ret v => exact .ret p
    | brk => exact .brk p
    | next => exact .next (fin p)
    | cont => exact .cont (fin p)
  · rintro h' tk m' news' F' N' _ j'
    exact done m' news' h' tk j' F' N'
end
end Mine
end
-- E12
section
open PySem PySem.W PySem.Calls PyProof.Rows
set_option Elab.async false
set_option maxRecDepth 100000
namespace Mine
/-! Two types are compared: `!=`. -/
theorem slot_type_ne : Slot "type" (cmpInfo .NotEq).2.1 "object.__ne__" :=
  .of (owner := "object") (n := "__ne__") (by rw [typeLookup_type, builtinLookup_eq_fast]; kernel_rfl) (by decide +kernel) (by decide +kernel) (by decide +kernel)
    (by first | exact .inl (by decide +kernel) | exact .inr (by decide +kernel)) (by rw [isSubtype_type]; kernel_rfl)
section
variable {prog : Program} {w : World} {A : Around} {E : Value → Shared → Prop} {s : Shared} {Q : Value → Shared → Prop}
theorem eq_type_call {X : String} {A : Around} {Q : Value → Shared → Prop} (hX : ∀ s' : Shared, s'.TypeIs (.type X) "type") (h : Q (.bool true) s) : wpAny (model prog w) A (call (.builtin "object.__eq__") [.type X, .type X]) Q E s :=
  call_gives TypeEq.slot_type_eq (hX s) PySem.F.entry_object_eq (PySem.F.args_object_eq_2 _ _) (TypeEq.object_eq_same rfl (by simp)) h
theorem ne_type_same {X : String} (hX : ∀ s' : Shared, s'.TypeIs (.type X) "type") (h : Q (.bool false) s) : wpAny (model prog w) A (compareOp .NotEq (.type X) (.type X)) Q E s := by
  show wpAny _ A (richCompare .NotEq _ _) Q E s
  refine wpAny_richCompare_same (T := "type") (id := "object.__ne__") (hX s) (hX s) slot_type_ne ?_
  refine wpAny_call (codeAny_call_builtin slot_type_ne.plain PySem.F.cmpEntry_ne (slot_type_ne.check _ _ _ _ _ _ _ _ (hX s) (PySem.F.cmpArgs_ne _ _) ?_))
  show wpAny _ _ (Builtin.«object.__ne__» ⟨[.type X, .type X], []⟩) _ _ _
  unfold Builtin.«object.__ne__»
  repeat (first
    | with_reducible refine wpAny_cRoomFor_or (.inl rfl) ?_
    | (refine wpAny_bind (m := callSpecialIfBound? (.type X) (Str.ofString "__eq__") [.type X]) (wpAny_callSpecialIfBound?_slot (T := "type") (hX _) TypeEq.slot_type_eq (eq_type_call hX ?_)))
    | (refine wpAny_bind (m := truthy (.bool _)) (wpAny_truthy_bool ?_))
    | wp_step)
  exact ⟨(by intro e; cases e), h⟩
end
end Mine
end
-- E13
section
open PySem PySem.W PySem.Calls PyProof.Rows
set_option Elab.async false
set_option maxRecDepth 100000
set_option linter.unusedVariables false
namespace Mine
section
variable {prog : Program} {w : World} {A₀ : Around} {E : Value → Shared → Prop} {s' : Shared} {base g G : Heap} {outer : List Env} {L a e C dx : Addr} {m : Str → Option Value} {cn : Str} {cs : Scope} {ccd : Value} {cl : List (Str × Addr)}
  {n x : Str} {b₀ : Stmt} {suite : List Stmt} {pos np : Pos} {rest : List ExceptHandler} {Q : Flow → Shared → Prop} {news : List (Addr × Obj)} {KF : Frag}
  {p : Program} {loose : List Str} {mean : ExcName → Option Value} {mg mb : Str → Option Value}
/-- with no frame around, the ground stays as it was -/
theorem Fr.ground {g g' h : Heap} {L : Addr} {m : Str → Option Value} (T : KtsTurn [] g g') (F : Fr g' L h m) : Fr g L h m := ⟨F.ns, fun b o e => F.keep b o (T.other b o e (by intro q; cases q)), by rw [← T.size]; exact F.above⟩
theorem News.ground {g g' h : Heap} {L : Addr} {news : List (Addr × Obj)} (T : KtsTurn [] g g') (N : News g' L h news) : News g L h news := fun q hq => by
  refine ⟨(N q hq).1, (N q hq).2.1, ?_⟩
  cases e : g.get? q.1 with
  | none => rfl
  | some o => have h := T.other _ _ e (by intro q; cases q); rw [(N q hq).2.2] at h; cases h
/-- an own exception is caught in a frame whose env has cells -/
theorem caughtX0 (R : RaisedD base G (envX cn cs L a ccd cl   :: []) e C dx news s'.heap) (F : Fr g L G m) (K : Below A₀ base [] g) (hsm : G.UpToSlots s'.heap) (XB : KF.In g) (TB : Top p loose mean mg mb g)
    (ex : nsIn KF mainGlobals x = some (some (.ref C))) (X : ExcCls (model prog w) g C)
    (k : ∀ h' oe vs tk, Fr g L h' (fun y => if y = n then some (.ref e) else m y) → News g L h' ((e, oe) :: news) → oe.cls = .ref C → oe.dict = some dx → oe.data = .fields vs → vs[2]? = some .none →
      wpAny (model prog w) ((A₀.deeper (envX cn cs L a ccd cl)).mark (some (.ref e))) (execs (b₀ :: suite) (envX cn cs L a ccd cl))
        (fun f s₄ => wpAny (model prog w) (A₀.deeper (envX cn cs L a ccd cl)) (do bindName (envX cn cs L a ccd cl) n .none; unbindBehindTheSuite (envX cn cs L a ccd cl) n pos) (fun _ s₅ => Q f s₅) E s₄)
        (AsSuiteRaised (model prog w) ((A₀.deeper (envX cn cs L a ccd cl)).mark (some (.ref e))) (envX cn cs L a ccd cl) n pos (notedBy (model prog w) ((A₀.deeper (envX cn cs L a ccd cl)).mark (some (.ref e))) (envX cn cs L a ccd cl) (cameBackBy (model prog w) (A₀.deeper (envX cn cs L a ccd cl)) (envX cn cs L a ccd cl) E)))
        { s' with heap := h', toks := tk })
    (hk : cs.kind = .function := by rfl) (hlo : (envX cn cs L a ccd cl).kindOf n = some .local := by rfl) (hx : (envX cn cs L a ccd cl).kindOf x = some .globalImplicit := by rfl) (hd : (x == ("__debug__" : Str)) = false := by decide) :
    wpAny (model prog w) (A₀.deeper (envX cn cs L a ccd cl)) (noteFrame (.ref e) (envX cn cs L a ccd cl))
      (fun _ s₂ => wpAny (model prog w) (A₀.deeper (envX cn cs L a ccd cl)) (setFlight (.ref e) none) (fun _ s₃ =>
        wpAny (model prog w) (A₀.deeper (envX cn cs L a ccd cl)) (handleBy (.ref e) (envX cn cs L a ccd cl) (.ExceptHandler (some (.Name x np)) (some n) (b₀ :: suite) pos :: rest)) Q E s₃) E s₂) E s' := by
  obtain ⟨B, a0, hB, hBG, hl, fly⟩ := R
  have hL : B.get? L = none := by
    obtain ⟨_, ⟨L', _, hf, hn', _⟩, _⟩ := fly.frames
    obtain rfl : L = L' := Option.some.inj hf
    exact hn'
  refine d_note (Around.frames_deeper K.stack) rfl fly fun h₄ fly₄ u₄ => ?_
  refine d_setNone (s := { s' with heap := h₄ }) fly₄ fun h₅ fly₅ u₅ => ?_
  obtain ⟨g₅, T₅, F₅, K₅⟩ := kts_ground (outer := []) (name := cn) (scope := cs) (a := a) (cd := ccd) K F hBG fly₅.stays ((hsm.trans u₄).trans u₅)
  have kp₅ : ∀ b o, g.get? b = some o → g₅.get? b = some o := fun b o q => T₅.other b o q (by intro z; cases z)
  have X₅ : KF.In g₅ := XB.keeps kp₅
  have P₅ : TopRead p loose mg mb g₅ := topRead_of (TB.keeps kp₅)
  have C₅ : ExcCls (model prog w) h₅ C := (X.keeps kp₅).keeps F₅.keep
  obtain ⟨oe, vs, T, oT, ts, he, ⟨hc, hdx, h0⟩, hd', h1, hnT, hTe, hT, hdT, h3⟩ := id fly₅.trc
  refine wpAny_handleBy_cons (codeAny_handlers_test (nameX_K F₅ X₅ P₅ ex ?_ hk hx hd)) (by intro q; cases q)
  refine matches_self (s := { s' with heap := h₅ }) C₅ he hc ?_
  refine codeAny_handlers_suite_as ?_
  refine d_setNone (s := { s' with heap := h₅ }) fly₅ fun h₆ fly₆ u₆ => ?_
  obtain ⟨g₆, T₆, F₆, K₆⟩ := kts_ground (outer := []) (name := cn) (scope := cs) (a := a) (cd := ccd) K F hBG fly₆.stays (((hsm.trans u₄).trans u₅).trans u₆)
  obtain ⟨oe, vs, T, oT, ts, he, ⟨hc, hdx, h0⟩, hd', h1, hnT, hTe, hT, hdT, h3⟩ := id fly₆.trc
  have ne₆ : g₆.get? e = none := T₆.none_ _ (kts_fresh (outer := []) (name := cn) (scope := cs) (a := a) (cd := ccd) F hBG fly₆.new fun o ho mm => by
    obtain ⟨_, o', ho', hdd⟩ := K.frames.mem mm
    rw [ho] at ho'
    cases ho'
    obtain ⟨sl, hs⟩ := (((hsm.trans u₄).trans u₅).trans u₆) _ _ (F.keep _ _ ho) hdd
    rw [he] at hs
    cases hs
    exact hdd _ hd')
  have N₆ := News.more F₆ News.nil he (fun es n q => by rw [hd'] at q; cases q) ne₆
  have Nl : News g₆ L h₆ news := fun q hq => ⟨fly₆.stays _ _ (hl q hq).1, (fun z => by have := (hl q hq).1; rw [z, hL] at this; cases this), T₆.none_ _ (kts_none F.keep (hl q hq).2.1)⟩
  refine storeX_L F₆ (news := (e, oe) :: news) (fun q hq => (List.mem_cons.mp hq).elim (fun z => z ▸ N₆ (e, oe) (.head _)) (Nl q)) (fun h₇ F₇ N₇ => ?_) hk hlo
  exact k h₇ oe vs _ (Fr.ground T₆ F₇) (News.ground T₆ N₇) hc hdx hd' h0.2
end
end Mine
end
-- E14
section
open PySem PySem.W PySem.Calls PyProof.Rows
set_option Elab.async false
set_option maxRecDepth 100000
set_option linter.unusedVariables false
namespace Mine
/-! `min` of two numbers while an exception is handled: the end of the walk raises StopIteration, whose context is the handled one. -/
def Held (h : Heap) (e : Addr) : Prop := ∃ oe vs, h.get? e = some oe ∧ oe.data = .fields vs ∧ vs[2]? = some .none
theorem entry_unchain : entryFor table "proto.unchain" = some Builtin.«proto.unchain» := entryFor_of_fast (by kernel_rfl)
theorem plain_unchain : plainId "proto.unchain" = true := by decide +kernel
section
variable {prog : Program} {w : World} {A : Around} {E : Value → Shared → Prop} {s : Shared}
theorem unchain_none {e h : Addr} {Q : Value → Shared → Prop} (H : Held s.heap h) (hQ : Q .none s) : wpAny (model prog w) A (runValue (.builtin "proto.unchain" ⟨[.ref e, .ref h, .ref h, .bool false], []⟩)) Q E s := by
  obtain ⟨oe, vs, he, hd, h2⟩ := H
  refine wpAny_runValue (codeAny_builtin entry_unchain ?_)
  rw [Around.under_plainId plain_unchain _]
  show wpAny _ A.in1 (field (.ref h) 2 >>= _) _ _ s
  refine wpAny_bind (wpAny_field he hd h2 ?_)
  show wpAny _ _ (if (Value.none == Value.none) = true then _ else _) _ _ s
  rw [if_pos (by rfl)]
  exact wpAny_pure hQ
theorem pyNext_tuple_endH {it t e : Addr} {i : Nat} {items : Array Value} {Q : Option Value → Shared → Prop} (hh : A.handled = some (.ref e)) (H : Held s.heap e) (hne : e ≠ it)
    (hit : s.heap.IsTupleIter it t i) (ht : s.heap.IsTuple t items) (hx : items[i]? = none)
    (hQ : ∀ h', Heap.ExtBut it s.heap h' → Q none { s with heap := h' }) : wpAny (model prog w) A (pyNext (.ref it)) Q E s := by
  obtain ⟨o, ho, hc, hd⟩ := id hit
  obtain ⟨ol, hol, _, nl, hdl⟩ := ht
  obtain ⟨oe, vs, he, hde, h2⟩ := H
  unfold pyNext
  refine wpAny_bind (wpAny_attempt (wpAny_callSpecial?_slot (name := Str.ofString "__next__") hit.typeIs F.slot_tuple_iterator_next
    (wpAny_call_entry F.slot_tuple_iterator_next hit.typeIs F.entry_tuple_iterator_next ?_ (F.args_tuple_iterator_next_1 _))))
  show wpAny _ _ (field (.ref it) 0 >>= _) _ _ s
  refine wpAny_bind (wpAny_field ho hd (x := .ref t) rfl ?_)
  show wpAny _ _ (if (Value.ref t == Value.none) = true then _ else _) _ _ s
  rw [if_neg (show ¬ ((Value.ref t == Value.none) = true) from Bool.false_ne_true)]
  show wpAny _ _ (field (.ref it) 1 >>= _) _ _ s
  refine wpAny_bind (wpAny_field ho hd (x := .int i 0) rfl ?_)
  show wpAny _ _ (seqItems? (.ref t) >>= _) _ _ s
  refine wpAny_bind (wpAny_seqItems hol hdl ?_)
  simp only [Int.toNat_natCast, hx]
  refine wpAny_bind (wpAny_rule (wpAny_bind (wpAny_setField ho hd (by simp) ?_)))
  show wpAny _ _ (PySem.newExc (Value.type "StopIteration") [] >>= _) _ _ _
  refine wpAny_bind ?_
  simp only [PySem.newExc, PySem.newTuple]
  refine wpAny_bind (wpAny_newObj_type ?_ (by size_fits))
  refine wpAny_bind (m := firstArgMember _ _) (wpAny_of_eq (a := Value.none) (by first | rfl | (simp only [firstArgMember]; rfl)) ?_)
  refine wpAny_newObj_type ?_ (by size_fits)
  simp only [raiseNew]
  refine wpAny_bind (wpAny_handled ?_)
  first | rw [show A.in1.handled = some (.ref e) from hh] | rw [hh]
  dsimp only
  generalize hH1 : Heap.push (Heap.update s.heap it _) _ = H₁
  have k₁ : ∀ b o, b ≠ it → s.heap.get? b = some o → H₁.get? b = some o := fun b o hb q => by
    rw [← hH1]
    exact Heap.get?_push_of_some _ ((Heap.get?_update_other _ _ (Ne.symm hb)).trans q)
  have e1 := k₁ e oe hne he
  have hxe : H₁.objs.size ≠ e := Nat.ne_of_gt (Heap.lt_size e1)
  generalize hH2 : Heap.push H₁ _ = H₂
  have k₂ : ∀ b o, H₁.get? b = some o → H₂.get? b = some o := fun b o q => by
    rw [← hH2]
    exact Heap.get?_push_of_some _ q
  have hX : ∃ oX vX, H₂.get? H₁.objs.size = some oX ∧ oX.cls = .type "StopIteration" ∧ oX.data = .fields vX ∧ 2 < vX.size := by
    rw [← hH2]
    exact ⟨_, _, Heap.get?_push_size _ rfl, rfl, rfl, by simp; omega⟩
  obtain ⟨oX, vX, x1, x2, x3, x4⟩ := hX
  rw [if_pos (show (Value.ref e != Value.ref H₁.objs.size) = true from by simpa using Ne.symm hxe)]
  refine wpAny_bind (wpAny_holding (unchain_none ⟨oe, vs, k₂ e oe e1, hde, h2⟩ ?_))
  show wpAny _ _ (setField (.ref H₁.objs.size) 2 (.ref e) >>= _) _ _ _
  refine wpAny_bind (wpAny_setField x1 x3 x4 (wpAny_throw ?_))
  have x5 := Heap.get?_update_self (Obj.mapFields (·.setIfInBounds 2 (Value.ref e))) x1 (Obj.isFreed_of_fields (Obj.data_mapFields x3 _))
  refine wpAny_bind (wpAny_isInstance (T := "StopIteration") (b := true) ⟨_, x5, (Obj.cls_mapFields _ _).trans x2⟩ isSubtype_stop ?_)
  refine wpAny_pure (hQ _ fun b o hb q => ?_)
  have q1 := k₁ b o hb q
  exact (Heap.get?_update_other _ _ (Nat.ne_of_gt (Heap.lt_size q1))).trans (k₂ b o q1)
end
theorem Held.keeps {h h' : Heap} {e : Addr} (H : Held h e) (k : ∀ o, h.get? e = some o → h'.get? e = some o) : Held h' e := by
  obtain ⟨oe, vs, he, r⟩ := H
  exact ⟨oe, vs, k _ he, r⟩
theorem walks_tupleH {prog : Program} {w : World} {A : Around} {e : Addr} (hh : A.handled = some (.ref e)) (I ax : Addr) (hne : ax ≠ I) (hee : e ≠ I) (items : Array Value) :
    Walks prog w A I [I, ax, e] [I] items.size (fun i v => items[i]? = some v) (fun i h => h.IsTupleIter I ax i ∧ h.IsTuple ax items ∧ Held h e) where
  sub := fun b hb => by simp at hb; simp [hb]
  frame := fun _ _ _ st hk => ⟨st.1.at fun o e => hk I (by simp) o e, st.2.1.at fun o e => hk ax (by simp) o e, st.2.2.keeps fun o q => hk e (by simp) o q⟩
  item := fun i s Q E hi st hQ => by
    refine wpAny_pyNext_tuple_item st.1 st.2.1 (x := items[i]) (by simp [hi]) fun h' hit' hs' => ?_
    exact hQ _ h' s.toks (by simp [hi]) ⟨hit', st.2.1.extBut hs'.extBut hne, st.2.2.keeps fun o q => hs'.extBut e o hee q⟩ fun b o hb e => hs'.extBut b o (fun h => hb (by simp [h])) e
  done := fun s Q E st hQ => pyNext_tuple_endH hh st.2.2 hee st.1 st.2.1 (by simp) fun h' he' => hQ h' s.toks fun b o hb e => he' b o (fun h => hb (by simp [h])) e
  self := fun _ _ _ _ st hQ => wpAny_pyIter_tupleiter st.1 hQ
section
variable {prog : Program} {w : World} {A : Around} {E : Value → Shared → Prop} {s : Shared} {e : Addr}
theorem min_two_intsH {a b : Int} {t u : Tok} {Q : Value → Shared → Prop} (hh : A.handled = some (.ref e)) (H : Held s.heap e)
    (h : ∀ h' tk, (∀ c o, s.heap.get? c = some o → h'.get? c = some o) → Q (if b < a then .int b u else .int a t) { s with heap := h', toks := tk }) :
    wpAny (model prog w) A (call (.builtin "min") [.int a t, .int b u]) Q E s := by
  have hT : (s.heap.push { cls := .type "tuple", data := .seq #[.int a t, .int b u] }).IsTuple s.heap.objs.size (intItems #[(a, t), (b, u)]) := ⟨_, Heap.get?_push_size _ rfl, rfl, 0, by simp [intItems]⟩
  refine call_min_two (wpAny_pyIter_tuple hT ?_)
  have hsz : (s.heap.push { cls := .type "tuple", data := .seq #[.int a t, .int b u] }).objs.size = s.heap.objs.size + 1 := Heap.size_push ..
  have he : e < s.heap.objs.size := by obtain ⟨oe, vs, q, _⟩ := H; exact Heap.lt_size q
  refine ⟨_, [_, s.heap.objs.size, e], [_], _, _, _, _, rfl, walks_tupleH (A := A.in1) hh _ s.heap.objs.size (by rw [hsz]; exact Nat.ne_of_lt (Nat.lt_succ_self _)) (by rw [hsz]; exact Nat.ne_of_lt (Nat.lt_succ_of_lt he)) (intItems #[(a, t), (b, u)]),
    ⟨⟨_, Heap.get?_push_size _ rfl, rfl, rfl⟩, hT.push _, H.keeps fun o q => Heap.get?_push_of_some _ (Heap.get?_push_of_some _ q)⟩, fun c hc => ?_, by simp [intItems], CmpOf.ints_lt (numAt #[(a, t), (b, u)]) (fun _ _ => intItems_at), fun v h' tk hP hk => ?_⟩
  · show c < ((s.heap.push _).push _).objs.size
    rw [Heap.size_push, hsz]
    rcases List.mem_cons.mp hc with rfl | hc
    · rw [hsz]; exact Nat.lt_succ_self _
    rcases List.mem_cons.mp hc with rfl | hc
    · exact Nat.lt_succ_of_lt (Nat.lt_succ_self _)
    rcases List.mem_cons.mp hc with rfl | hc
    · exact Nat.lt_succ_of_lt (Nat.lt_succ_of_lt he)
    · cases hc
  · have hold : ∀ c o, s.heap.get? c = some o → h'.get? c = some o := fun c o e => by
      refine hk c o (fun hm => ?_) (Heap.get?_push_of_some _ (Heap.get?_push_of_some _ e))
      rcases List.mem_cons.mp hm with e1 | hm
      · have := Heap.lt_size e; rw [e1, hsz] at this; exact Nat.lt_irrefl _ (Nat.lt_of_succ_lt this)
      · cases hm
    have := h h' tk hold
    have hv : v = if b < a then Value.int b u else Value.int a t := by
      have hP' : (intItems #[(a, t), (b, u)])[argBest (fun i j => decide (numAt #[(a, t), (b, u)] i < numAt #[(a, t), (b, u)] j)) 1]? = some v := by
        have hsz2 : (intItems #[(a, t), (b, u)]).size - 1 = 1 := by simp [intItems]
        rw [← hsz2]; exact hP
      by_cases hba : b < a
      · simp [argBest, numAt, intItems, hba] at hP'
        rw [if_pos hba]; exact hP'.symm
      · simp [argBest, numAt, intItems, hba] at hP'
        rw [if_neg hba]; exact hP'.symm
    rw [hv]; exact this
theorem min_two_NH {h₀ : Heap} {L : Addr} {m : Str → Option Value} {news : List (Addr × Obj)} {oe : Obj} {vs : Array Value} {a b : Int} {t u : Tok} {Q : Value → Shared → Prop} (hh : A.handled = some (.ref e)) (F : Fr h₀ L s.heap m) (N : News h₀ L s.heap news) (he : (e, oe) ∈ news) (hd : oe.data = .fields vs) (h2 : vs[2]? = some .none)
    (h : ∀ h' tk, Fr h₀ L h' m → News h₀ L h' news → Q (.int (if b < a then b else a) (if b < a then u else t)) { s with heap := h', toks := tk }) :
    wpAny (model prog w) A (call (.builtin "min") [.int a t, .int b u]) Q E s :=
  min_two_intsH hh ⟨oe, vs, (N _ he).1, hd, h2⟩ fun h' tk hk => by
    have := h h' tk (F.grownK hk) (N.grown hk)
    by_cases c : b < a
    · simpa only [if_pos c] using this
    · simpa only [if_neg c] using this
end
end Mine
end
-- D1
section
open PySem PySem.W PySem.Calls PyProof.Rows
set_option pp.deepTerms false
set_option pp.deepTerms.threshold 6
set_option pp.maxSteps 20000
set_option format.width 180
set_option Elab.async false
set_option maxRecDepth 100000
namespace Mine
abbrev prog := PySem.Challenge.rw_og0089_01.row.prog
noncomputable abbrev LS := looseW view loose ++ (recsOf view).map (·.name) ++ (litsOf view).map (·.1) ++ (clssOf view (looseW view loose)).map (·.name)
abbrev Ar (hd : Option Value) (dp un : Nat) (gd : Option (List Code)) (cn : PySem.Str) (cs : Scope) (L a : Addr) (ccd : Value) (cl : List (PySem.Str × Addr)) (outer : List Env) : Around := { handled := hd, depth := dp, frames := some (envX cn cs L a ccd cl :: outer), guards := gd, units := un }
theorem reg : PySem.Challenge.rw_og0089_01 = PySem.Challenge.rw_og0089_01 ∧ frag.heap_1 = frag.heap_1 := by k_fill; exact ⟨rfl, rfl⟩
/-! The rows: a row's number is its place in the law's table. -/
noncomputable def KW : List (PySem.Str × PySem.Str) := [("word", "MOVE"), ("word", "END"), ("word", "ADD"), ("word", "A"), ("word", "B-1"), ("word", "AD"), ("word", "TO"), ("number", "12"), ("number", "1.50"), ("number", "007"), ("number", ".5"), ("number", "0"), ("literal", "x\"y"), ("literal", "ÿ"), ("literal", "Ā"), ("sign", "-"), ("sign", "+"), ("sign", "("), ("sign", ".")]
noncomputable def kd (i : Nat) : PySem.Str := (KW.getD i ("", "")).1
noncomputable def wd (i : Nat) : PySem.Str := (KW.getD i ("", "")).2
/-- the reader's objects, and the rows it stands on -/
structure RX where
  rd : Addr
  d : Addr
  TL : Addr
  nd : Addr
  h1 : Int
  h2 : Int
  h3 : Int
  t1 : Tok
  t2 : Tok
  t3 : Tok
  n : Nat
  Rw : List Nat
  tl : Nat → Addr
  td : Nat → Addr
  ta : Nat → Addr
abbrev rdO (r : RX) : Obj := instObj 305 r.d
abbrev rdD (r : RX) (p : Nat) (tk : Tok) : Obj := dictOf [⟨r.h1, .str "tokens" r.t1, .ref r.TL⟩, ⟨r.h2, .str "at" r.t2, .int (p : Int) tk⟩, ⟨r.h3, .str "named" r.t3, .ref r.nd⟩] 3
abbrev tup2 (a b : Value) : Obj := { cls := .type "tuple", data := .seq #[a, b] }
/-- what of the reader never changes -/
structure Rdr (r : RX) (rest : List (Addr × Obj)) : Prop where
  few : r.Rw.length ≤ 10
  small : ∀ i ∈ r.Rw, i < 19
  lst : (r.TL, listOf ((List.range r.Rw.length).map fun k => Value.ref (r.tl k)).toArray r.n) ∈ rest
  obj : ∀ k i, r.Rw[k]? = some i → (r.tl k, instObj 335 (r.td k)) ∈ rest
  dic : ∀ k i, r.Rw[k]? = some i → ∃ h1 h2 h3 h4 t1 t2 t3 t4 u v, (r.td k, dictOf [⟨h1, .str "kind" t1, .str (kd i) u⟩, ⟨h2, .str "worth" t2, .str (wd i) v⟩, ⟨h3, .str "at" t3, .ref (r.ta k)⟩, ⟨h4, .str "is_in_a" t4, .bool false⟩] 4) ∈ rest
  pl : ∀ k i, r.Rw[k]? = some i → ∃ t u, (r.ta k, tup2 (.int ((k : Int) + 1) t) (.int (8 + (k : Int)) u)) ∈ rest
  nrd : ∀ p ∈ rest, p.1 ≠ r.rd
  nd : ∀ p ∈ rest, p.1 ≠ r.d
  ne : r.rd ≠ r.d
theorem Rdr.more {r : RX} {rest : List (Addr × Obj)} {q : Addr × Obj} (R : Rdr r rest) (h1 : q.1 ≠ r.rd) (h2 : q.1 ≠ r.d) : Rdr r (q :: rest) :=
  ⟨R.few, R.small, .tail _ R.lst, fun k i h => .tail _ (R.obj k i h), fun k i h => by
    obtain ⟨a1, a2, a3, a4, b1, b2, b3, b4, u, v, m⟩ := R.dic k i h
    exact ⟨a1, a2, a3, a4, b1, b2, b3, b4, u, v, .tail _ m⟩, fun k i h => by
    obtain ⟨t, u, m⟩ := R.pl k i h
    exact ⟨t, u, .tail _ m⟩, List.forall_mem_cons.mpr ⟨h1, R.nrd⟩, List.forall_mem_cons.mpr ⟨h2, R.nd⟩, R.ne⟩
section
variable {w : World} {A : Around} {E : Value → Shared → Prop} {s : Shared} {h₀ : Heap} {L : Addr} {m : PySem.Str → Option Value} {news rest : List (Addr × Obj)} {r : RX} {k i : Nat}
theorem tok_inst {es : List DictEntry} (N : News h₀ L s.heap news) (sub : ∀ q ∈ rest, q ∈ news) (R : Rdr r rest) (hk : r.Rw[k]? = some i) (hd : (r.td k, dictOf es 4) ∈ rest) : InstAt s.heap (r.tl k) (instObj 335 (r.td k)) 335 (some (dictOf es 4)) :=
  ⟨(N _ (sub _ (R.obj k i hk))).1, rfl, rfl, (N _ (sub _ hd)).1⟩
theorem tok_kind {expr : Bool} {Q : Value → Shared → Prop} (F : Fr h₀ L s.heap m) (X : (frag.heap_1 w.params).In h₀) (N : News h₀ L s.heap news) (sub : ∀ q ∈ rest, q ∈ news) (R : Rdr r rest) (hk : r.Rw[k]? = some i)
    (h : ∀ t, Q (.str (kd i) t) { s with toks := s.toks + 1 }) : wpAny (model prog w) A (getAttr (.ref (r.tl k)) "kind" expr) Q E s := by
  obtain ⟨h1, h2, h3, h4, t1, t2, t3, t4, u, v, hd⟩ := R.dic k i hk
  exact get_own F X (tok_inst N sub R hk hd) (by k_is) (by k_is) (attr := none) (by k_is) (by k_is) rfl rfl (h _)
theorem tok_worth {expr : Bool} {Q : Value → Shared → Prop} (F : Fr h₀ L s.heap m) (X : (frag.heap_1 w.params).In h₀) (N : News h₀ L s.heap news) (sub : ∀ q ∈ rest, q ∈ news) (R : Rdr r rest) (hk : r.Rw[k]? = some i)
    (h : ∀ t, Q (.str (wd i) t) { s with toks := s.toks + 1 }) : wpAny (model prog w) A (getAttr (.ref (r.tl k)) "worth" expr) Q E s := by
  obtain ⟨h1, h2, h3, h4, t1, t2, t3, t4, u, v, hd⟩ := R.dic k i hk
  exact get_own F X (tok_inst N sub R hk hd) (by k_is) (by k_is) (attr := none) (by k_is) (by k_is) rfl rfl (h _)
theorem tok_at {expr : Bool} {Q : Value → Shared → Prop} (F : Fr h₀ L s.heap m) (X : (frag.heap_1 w.params).In h₀) (N : News h₀ L s.heap news) (sub : ∀ q ∈ rest, q ∈ news) (R : Rdr r rest) (hk : r.Rw[k]? = some i)
    (h : Q (.ref (r.ta k)) { s with toks := s.toks + 1 }) : wpAny (model prog w) A (getAttr (.ref (r.tl k)) "at" expr) Q E s := by
  obtain ⟨h1, h2, h3, h4, t1, t2, t3, t4, u, v, hd⟩ := R.dic k i hk
  exact get_own F X (tok_inst N sub R hk hd) (by k_is) (by k_is) (attr := none) (by k_is) (by k_is) rfl rfl h
theorem len_toks {Q : Value → Shared → Prop} (N : News h₀ L s.heap news) (sub : ∀ q ∈ rest, q ∈ news) (R : Rdr r rest) (h : Q (.int (r.Rw.length : Int) (s.toks + 1)) { s with toks := s.toks + 1 + 1 }) :
    wpAny (model prog w) A (call (.builtin "len") [.ref r.TL]) Q E s := by
  have e : ((List.range r.Rw.length).map fun k => Value.ref (r.tl k)).toArray.size = r.Rw.length := by rw [List.size_toArray, List.length_map, List.length_range]
  refine len_list ⟨_, (N _ (sub _ R.lst)).1, rfl, r.n, rfl⟩ (by rw [e]; have := R.few; omega) ?_
  rw [e]; exact h
theorem item_toks {value slice : Expr} {j : Int} {u : Tok} {Q : Value → Shared → Prop} (N : News h₀ L s.heap news) (sub : ∀ q ∈ rest, q ∈ news) (R : Rdr r rest) (k : Nat) (hj : j = (k : Int)) (hk : k < r.Rw.length)
    (h : ∀ i, r.Rw[k]? = some i → Q (.ref (r.tl k)) s)
    (hs : subscripted slice false (.ref r.TL) (.int j u) = operate [.ref r.TL, .int j u] (getItem (.ref r.TL) (.int j u)) := by with_unfolding_all rfl) (hg : ∀ q, letTemporaryGo value (.ref r.TL) q = pure () := by intro _; with_unfolding_all rfl) :
    wpAny (model prog w) A (subscriptTail value slice (.ref r.TL) (.int j u)) Q E s := by
  subst hj
  have e : ((List.range r.Rw.length).map fun k => Value.ref (r.tl k)).toArray.size = r.Rw.length := by rw [List.size_toArray, List.length_map, List.length_range]
  refine item_list ⟨_, (N _ (sub _ R.lst)).1, rfl, r.n, rfl⟩ (by omega) (by have := R.few; omega) (x := .ref (r.tl k)) ?_ (h _ (List.getElem?_eq_getElem hk)) hs hg
  rw [List.getElem?_toArray, show ((k : Int)).toNat = k from rfl]
  rw [List.getElem?_map, List.getElem?_range hk]; rfl
theorem item_toks2 {value slice : Expr} {p a : Nat} {u : Tok} {Q : Value → Shared → Prop} (N : News h₀ L s.heap news) (sub : ∀ q ∈ rest, q ∈ news) (R : Rdr r rest) (hk : (p : Int) + (a : Int) < (r.Rw.length : Int))
    (h : ∀ i, r.Rw[p + a]? = some i → Q (.ref (r.tl (p + a))) s)
    (hs : subscripted slice false (.ref r.TL) (.int ((p : Int) + (a : Int)) u) = operate [.ref r.TL, .int ((p : Int) + (a : Int)) u] (getItem (.ref r.TL) (.int ((p : Int) + (a : Int)) u)) := by with_unfolding_all rfl) (hg : ∀ q, letTemporaryGo value (.ref r.TL) q = pure () := by intro _; with_unfolding_all rfl) :
    wpAny (model prog w) A (subscriptTail value slice (.ref r.TL) (.int ((p : Int) + (a : Int)) u)) Q E s :=
  item_toks N sub R (p + a) (Int.natCast_add p a).symm (by omega) h hs hg
end
end Mine
end
namespace Mine
section
local macro_rules | `(tactic| walk_at $s:str) => `(tactic| k_extra $s)
-- D2
section
open PySem PySem.W PySem.Calls PyProof.Rows
set_option pp.deepTerms false
set_option pp.deepTerms.threshold 6
set_option pp.maxSteps 20000
set_option format.width 180
set_option Elab.async false
set_option linter.unusedVariables false
set_option maxRecDepth 100000
section
theorem cutD2 : True := by
  k_with_none
  trivial
theorem reg2 : PySem.Challenge.rw_og0089_01 = PySem.Challenge.rw_og0089_01 ∧ frag.heap_1 = frag.heap_1 := by k_fill; exact ⟨rfl, rfl⟩
noncomputable def kindAt (r : RX) (j : Nat) (k : PySem.Str) : Bool := match r.Rw[j]? with | some i => kd i == k | none => false
noncomputable def worthAt (r : RX) (j : Nat) (x : PySem.Str) : Bool := match r.Rw[j]? with | some i => wd i == x | none => false
theorem kindAt_some {r : RX} {j i : Nat} {k : PySem.Str} (h : r.Rw[j]? = some i) : kindAt r j k = (kd i == k) := by unfold kindAt; rw [h]
theorem kindAt_none {r : RX} {j : Nat} {k : PySem.Str} (h : r.Rw[j]? = none) : kindAt r j k = false := by unfold kindAt; rw [h]
theorem lines2 : True := by
  k_with "call builtin:len" => (k_dflt (refine' len_toks ?k1 ?k2 ?k3 ?_; (case k3 => assumption); (case k1 => k_asm); (case k2 => (intro q hq; repeat (first | exact hq | apply List.mem_cons_of_mem)))))
  k_with "subscriptTail" => (k_dflt (refine' item_toks2 ?k1 ?k2 ?k3 ?k5 ?_; (case k3 => assumption); (case k1 => k_asm); (case k2 => (intro q hq; repeat (first | exact hq | apply List.mem_cons_of_mem))); (case k5 => omega)); k_whole; intro i' i1')
  k_with "getAttr ref" => ((with_reducible (refine' tok_kind ?k1 ?k2 ?k3 ?k4 ?k5 ?k6 ?_)); (case k5 => assumption); (case k1 => k_asm); (case k2 => k_in); (case k3 => k_asm); (case k4 => (intro q hq; repeat (first | exact hq | apply List.mem_cons_of_mem))); (case k6 => assumption); intro t')
  k_with "getAttr ref" => ((with_reducible (refine' tok_worth ?k1 ?k2 ?k3 ?k4 ?k5 ?k6 ?_)); (case k5 => assumption); (case k1 => k_asm); (case k2 => k_in); (case k3 => k_asm); (case k4 => (intro q hq; repeat (first | exact hq | apply List.mem_cons_of_mem))); (case k6 => assumption); intro t')
  k_with "getAttr ref" => ((with_reducible (refine' tok_at ?k1 ?k2 ?k3 ?k4 ?k5 ?k6 ?_)); (case k5 => assumption); (case k1 => k_asm); (case k2 => k_in); (case k3 => k_asm); (case k4 => (intro q hq; repeat (first | exact hq | apply List.mem_cons_of_mem))); (case k6 => assumption))
  trivial
section
variable {w : World} {mean : ExcName → Option Value} {mg mb : PySem.Str → Option Value} {hd : Option Value} {dp un : Nat} {gd : Option (List Code)} {cn : PySem.Str} {cs : Scope} {a : Addr} {ccd : Value} {cl : List (PySem.Str × Addr)} {outer : List Env} {A₀ : Around} {base h₀ : Heap} {L : Addr} {m : PySem.Str → Option Value} {rest : List (Addr × Obj)} {s : Shared} {r : RX} {p : Nat} {tp : Tok}
set_option maxHeartbeats 4000000 in
theorem c_peek {Q E : Value → Shared → Prop} {pos : List Value} {ah : Nat} {ta : Tok}
    (B : Below A₀ base outer h₀) (F : Fr h₀ L s.heap m) (X : (frag.heap_1 w.params).In h₀) (N : News h₀ L s.heap ((r.rd, rdO r) :: (r.d, rdD r p tp) :: rest)) (R : Rdr r rest) (T : Top topProg LS mean mg mb h₀) (hk : cs.kind = .function)
    (hdp : dp < recursionLimit) (hun : un + 8 < cLine) (hpos : (pos = [.ref r.rd] ∧ ah = 0 ∧ ta = 377) ∨ pos = [.ref r.rd, .int (ah : Int) ta])
    (retS : ∀ i h' tk', r.Rw[p + ah]? = some i → Fr h₀ L h' m → News h₀ L h' ((r.rd, rdO r) :: (r.d, rdD r p tp) :: rest) → Q (.ref (r.tl (p + ah))) { s with heap := h', toks := tk' })
    (retN : ∀ h' tk', r.Rw[p + ah]? = none → Fr h₀ L h' m → News h₀ L h' ((r.rd, rdO r) :: (r.d, rdD r p tp) :: rest) → Q .none { s with heap := h', toks := tk' }) :
    wpAny (model prog w) (Ar none dp un gd cn cs L a ccd cl outer) (call (.ref 159) pos []) Q E s := by
  w_on
  refine wpAny_call ?_
  k_dflt (refine' code_def (binds := [("self", .ref r.rd), ("ahead", .int (ah : Int) ta)]) ?k1 ?k2 ?k3 ?k4 ?k5 ?kA ?kF ?kK ?k6 ?k7 ?k8 ?k9 ?kB ?_ ?c2 ?c3 ?c4 ?c5; (case kA => exact rfl); (case kF => exact rfl); (case kK => assumption); (case k1 => k_asm); (case k2 => k_asm); (case k3 => k_asm); (case k4 => k_asm); (case k5 => k_asm); (case k6 => k_is); (case k7 => k_is); (case k8 => ktr_room); (case k9 => rcases hpos with ⟨rfl, rfl, rfl⟩ | rfl <;> exact binds_K (by k_in) rfl (by k_is) rfl rfl rfl); (case c5 => decide); (case kB => exact locs rfl); (case c2 => exact rfl); (case c3 => exact rfl); (case c4 => exact rfl); k_whole; intro g' L' h' FG' F' N' B' X' T'; (try dsimp only); (try k_fold))
  k_steps
  · exact retS _ _ _ (by assumption) (by assumption) (by assumption)
  · exact retN _ _ (List.getElem?_eq_none (by omega)) (by assumption) (by assumption)
theorem lines2b : True := by
  k_with "call ref" => (k_dflt (refine' c_peek ?k1 ?k2 ?k3 ?k4 ?kR ?k5 ?k6 ?k7 ?k8 ?kp (fun i' h' tk' i1' F' N' => ?_) (fun h' tk' i1' F' N' => ?_); (case kR => assumption); (case k1 => k_asm); (case k2 => k_asm); (case k3 => k_in); (case k4 => first | k_asm | exact newsSub (by assumption) (by kcf_all)); (case k5 => k_asm); (case k6 => first | rfl | assumption); (case k7 => ktr_room); (case k8 => ktr_units); (case kp => first | exact .inl ⟨rfl, rfl, rfl⟩ | exact .inr rfl)))
  trivial
set_option maxHeartbeats 4000000 in
theorem c_isKind {Q E : Value → Shared → Prop} {pos : List Value} {k : PySem.Str} {tk : Tok} {ah : Nat} {ta : Tok}
    (B : Below A₀ base outer h₀) (F : Fr h₀ L s.heap m) (X : (frag.heap_1 w.params).In h₀) (N : News h₀ L s.heap ((r.rd, rdO r) :: (r.d, rdD r p tp) :: rest)) (R : Rdr r rest) (T : Top topProg LS mean mg mb h₀) (hk : cs.kind = .function)
    (hdp : dp + 1 < recursionLimit) (hun : un + 20 < cLine) (hpos : (pos = [.ref r.rd, .str k tk] ∧ ah = 0 ∧ ta = 409) ∨ pos = [.ref r.rd, .str k tk, .int (ah : Int) ta])
    (ret : ∀ h' tk', Fr h₀ L h' m → News h₀ L h' ((r.rd, rdO r) :: (r.d, rdD r p tp) :: rest) → Q (.bool (kindAt r (p + ah) k)) { s with heap := h', toks := tk' }) :
    wpAny (model prog w) (Ar none dp un gd cn cs L a ccd cl outer) (call (.ref 188) pos []) Q E s := by
  w_on
  refine wpAny_call ?_
  k_dflt (refine' code_def (binds := [("self", .ref r.rd), ("kind", .str k tk), ("ahead", .int (ah : Int) ta)]) ?k1 ?k2 ?k3 ?k4 ?k5 ?kA ?kF ?kK ?k6 ?k7 ?k8 ?k9 ?kB ?_ ?c2 ?c3 ?c4 ?c5; (case kA => exact rfl); (case kF => exact rfl); (case kK => assumption); (case k1 => k_asm); (case k2 => k_asm); (case k3 => k_asm); (case k4 => k_asm); (case k5 => k_asm); (case k6 => k_is); (case k7 => k_is); (case k8 => ktr_room); (case k9 => rcases hpos with ⟨rfl, rfl, rfl⟩ | rfl <;> exact binds_K (by k_in) rfl (by k_is) rfl rfl rfl); (case c5 => decide); (case kB => exact locs rfl); (case c2 => exact rfl); (case c3 => exact rfl); (case c4 => exact rfl); k_whole; intro g' L' h' FG' F' N' B' X' T'; (try dsimp only); (try k_fold))
  k_steps
  · rw [← kindAt_some i1']; exact ret _ _ (by assumption) (by assumption)
  · rw [← kindAt_none (k := k) i1']; exact ret _ _ (by assumption) (by assumption)
end
end
end
-- D3
section
open PySem PySem.W PySem.Calls PyProof.Rows
set_option pp.deepTerms false
set_option pp.deepTerms.threshold 6
set_option pp.maxSteps 20000
set_option format.width 180
set_option Elab.async false
set_option linter.unusedVariables false
set_option maxRecDepth 100000
section
theorem cutD3 : True := by
  k_with_none
  trivial
theorem reg3 : PySem.Challenge.rw_og0089_01 = PySem.Challenge.rw_og0089_01 ∧ frag.heap_1 = frag.heap_1 := by k_fill; exact ⟨rfl, rfl⟩
theorem excCls65 {w : World} {h : Heap} (X : (frag.heap_1 w.params).In h) : ExcCls (model prog w) h 65 :=
  ⟨.of_peek X (by kernel_rfl), .of_peek X (by kernel_rfl), .of_peek X (by kernel_rfl), .of_peek X (by kernel_rfl), .of_peek X (by kernel_rfl)⟩
abbrev tup1 (v : Value) : Obj := { cls := .type "tuple", data := .seq #[v] }
abbrev faultD (h1 h2 : Int) (t1 t2 : Tok) (v u : Value) : Obj := dictOf [⟨h1, .str "what" t1, v⟩, ⟨h2, .str "at" t2, u⟩] 2
theorem sub4 {h₀ h : Heap} {L : Addr} {a b c d : Addr × Obj} {news : List (Addr × Obj)} (N : News h₀ L h (a :: b :: c :: d :: news)) : News h₀ L h (a :: b :: c :: news) := fun q hq => N q (by
  rcases List.mem_cons.mp hq with rfl | hq
  · exact .head _
  · rcases List.mem_cons.mp hq with rfl | hq
    · exact .tail _ (.head _)
    · rcases List.mem_cons.mp hq with rfl | hq
      · exact .tail _ (.tail _ (.head _))
      · exact .tail _ (.tail _ (.tail _ (.tail _ hq))))
theorem ne3 {p q r : Addr × Obj} {news : List (Addr × Obj)} {e : Addr} (h1 : e ≠ p.1) (h2 : ∀ x ∈ (q :: r :: news), x.1 ≠ e) : ∀ x ∈ (p :: q :: news), x.1 ≠ e := fun x hx => by
  rcases List.mem_cons.mp hx with rfl | hx
  · exact Ne.symm h1
  · rcases List.mem_cons.mp hx with rfl | hx
    · exact h2 _ (.head _)
    · exact h2 _ (.tail _ (.tail _ hx))
theorem lines3 : True := by
  k_with "getMethod type:Exception" => (refine' method_type ?F ?X ?m (by decide +kernel) ?e ?h ?_; (case F => k_asm); (case X => k_asm); (case m => (first | rfl | kernel_rfl)); (case e => k_dflt k_is); (case h => k_handed))
  k_with "call builtin:Exception.__init__" => (k_dflt (refine' exc_initK ?k1 ?k2 ?k3 ?k4 ?k5 ?k6 ?k7 ?_; (case k1 => k_asm); (case k2 => k_asm); (case k3 => k_asm); (case k4 => assumption); (case k5 => k_is); (case k6 => decide +kernel); (case k7 => (simp only [List.length_cons, List.length_nil]; omega))); k_whole; intro b' h' F' N' n')
  k_with "setAttr ref" => (first | (k_dflt (refine' exc_setNew ?k1 ?k2 ?k3 ?k4 ?k5 ?k6 ?k7 ?_; (case k1 => k_asm); (case k2 => k_asm); (case k3 => k_asm); (case k4 => assumption); (case k5 => kernel_rfl); (case k6 => k_is); (case k7 => k_is)); k_whole; intro a' h' h1' t1' tk' F' N' n1' n2') | (k_dflt (refine' exc_setOld ?k1 ?k2 ?k3 ?k4 ?k5 ?k6 ?k7 ?k8 ?k9 ?k10 ?k11 ?_; (case k1 => k_asm); (case k2 => k_asm); (case k3 => k_asm); (case k4 => assumption); (case k5 => assumption); (case k6 => kernel_rfl); (case k7 => k_is); (case k8 => k_is); (case k9 => rfl); (case k10 => k_get); (case k11 => (simp only [List.length_cons, List.length_nil]; omega))); k_whole; intro h' h1' t1' tk' F' N'))
  trivial
section
variable {w : World} {mean : ExcName → Option Value} {mg mb : PySem.Str → Option Value} {hd : Option Value} {dp un : Nat} {gd : Option (List Code)} {cn : PySem.Str} {cs : Scope} {a : Addr} {ccd : Value} {cl : List (PySem.Str × Addr)} {outer : List Env} {A₀ : Around} {base h₀ : Heap} {L : Addr} {m : PySem.Str → Option Value} {news : List (Addr × Obj)} {s : Shared}
set_option maxHeartbeats 4000000 in
theorem c_newFault {x : PySem.Str} {tk : Tok} {tp : Addr} {Q E : Value → Shared → Prop}
    (B : Below A₀ base outer h₀) (F : Fr h₀ L s.heap m) (X : (frag.heap_1 w.params).In h₀) (N : News h₀ L s.heap news) (T : Top topProg LS mean mg mb h₀) (hk : cs.kind = .function)
    (hdp : dp + 6 < recursionLimit) (hun : un + 20 < cLine)
    (ret : ∀ e a b h1 h2 t1 t2 h' t', Fr h₀ L h' m → News h₀ L h' ((e, excO 65 b a) :: (a, faultD h1 h2 t1 t2 (.str x tk) (.ref tp)) :: (b, tup1 (.str x tk)) :: news) →
      (∀ q ∈ ((a, faultD h1 h2 t1 t2 (.str x tk) (.ref tp)) :: (b, tup1 (.str x tk)) :: news : List (Addr × Obj)), q.1 ≠ e) → Q (.ref e) { s with heap := h', toks := t' }) :
    wpAny (model prog w) (Ar none dp un gd cn cs L a ccd cl outer) (call (.ref 65) [.str x tk, .ref tp] []) Q E s := by
  w_on
  k_dflt (refine' call_excK ?k1 ?k2 ?k3 ?k4 ?k5 ?k6 ?k7 ?k8 ?k9 ?k10 ?_; (case k1 => k_asm); (case k2 => k_asm); (case k3 => k_asm); (case k4 => k_is); (case k5 => decide +kernel); (case k6 => decide +kernel); (case k7 => decide +kernel); (case k8 => k_is); (case k9 => k_is); (case k10 => (simp only [List.length_cons, List.length_nil]; omega)))
  intro e t h' F' N' l1 l2
  have n0 : ∀ p ∈ ((t, newTup [.str x tk, .ref tp]) :: news : List (Addr × Obj)), p.1 ≠ e := List.forall_mem_cons.mpr ⟨Nat.ne_of_lt l2, fun p hp => Nat.ne_of_lt (Nat.lt_trans (l1 p hp) l2)⟩
  k_dflt (refine' code_def  ?k1 ?k2 ?k3 ?k4 ?k5 ?kA ?kF ?kK ?k6 ?k7 ?k8 ?k9 ?kB ?_ ?c2 ?c3 ?c4 ?c5; (case kA => exact rfl); (case kF => exact rfl); (case kK => assumption); (case k1 => k_asm); (case k2 => k_asm); (case k3 => k_asm); (case k4 => k_asm); (case k5 => k_asm); (case k6 => k_is); (case k7 => k_is); (case k8 => ktr_room); (case k9 => exact binds_K (by k_in) rfl (by k_is) rfl rfl rfl); (case c5 => decide); (case kB => exact locs rfl); (case c2 => exact rfl); (case c3 => exact rfl); (case c4 => exact rfl); k_whole; intro g' L' h' FG' F' N' B' X' T'; (try dsimp only); (try k_fold))
  k_steps
  all_goals (rename News _ _ _ _ => kN9; exact ret e _ _ _ _ _ _ _ _ (by assumption) (sub4 kN9) (ne3 (by assumption) (by assumption)))
end
end
end
-- D4
section
open PySem PySem.W PySem.Calls PyProof.Rows
set_option pp.deepTerms false
set_option pp.deepTerms.threshold 6
set_option pp.maxSteps 20000
set_option format.width 180
set_option Elab.async false
set_option linter.unusedVariables false
set_option maxRecDepth 100000
section
theorem cutD4 : True := by
  k_with_none
  trivial
theorem reg4 : PySem.Challenge.rw_og0089_01 = PySem.Challenge.rw_og0089_01 ∧ frag.heap_1 = frag.heap_1 := by k_fill; exact ⟨rfl, rfl⟩
/-- where a fault stands -/
def Place (r : RX) (p : Nat) (x y : Int) : Prop := (r.Rw = [] ∧ x = 0 ∧ y = 0) ∨ (r.Rw ≠ [] ∧ x = ((min p (r.Rw.length - 1) : Nat) : Int) + 1 ∧ y = 8 + ((min p (r.Rw.length - 1) : Nat) : Int))
structure FX where
  dx : Addr
  pa : Addr
  h1 : Int
  h2 : Int
  t1 : Tok
  t2 : Tok
  x : PySem.Str
  tk : Tok
  u : Int
  v : Int
  tu : Tok
  tv : Tok
abbrev faultL (r : RX) (p : Nat) (tp : Tok) (rest : List (Addr × Obj)) (f : FX) : List (Addr × Obj) := (f.dx, faultD f.h1 f.h2 f.t1 f.t2 (.str f.x f.tk) (.ref f.pa)) :: (f.pa, tup2 (.int f.u f.tu) (.int f.v f.tv)) :: (r.rd, rdO r) :: (r.d, rdD r p tp) :: rest
theorem newsSub {h₀ h : Heap} {L : Addr} {l l' : List (Addr × Obj)} (N : News h₀ L h l) (k : ∀ q ∈ l', q ∈ l) : News h₀ L h l' := fun q hq => N q (k q hq)
section
variable {w : World} {A : Around} {E : Value → Shared → Prop} {s : Shared} {h₀ : Heap} {L : Addr} {m : PySem.Str → Option Value} {news rest : List (Addr × Obj)} {r : RX} {k i : Nat}
theorem truthy_toks {Q : Bool → Shared → Prop} (N : News h₀ L s.heap news) (sub : ∀ q ∈ rest, q ∈ news) (R : Rdr r rest) (h : Q (!r.Rw.isEmpty) { s with toks := s.toks + 1 + 1 }) :
    wpAny (model prog w) A (truthy (.ref r.TL)) Q E s := by
  have e : (!((List.range r.Rw.length).map fun k => Value.ref (r.tl k)).isEmpty) = !r.Rw.isEmpty := by
    cases r.Rw with
    | nil => rfl
    | cons a l => rw [List.length_cons, List.range_succ_eq_map]; rfl
  refine kgr_truthy N (sub _ R.lst) rfl rfl (by rw [List.length_map, List.length_range]; have := R.few; omega) ?_
  rw [e]; exact h
end
theorem lines4 : True := by
  k_with "call builtin:len" => (k_dflt (refine' len_toks ?k1 ?k2 ?k3 ?_; (case k3 => assumption); (case k1 => k_asm); (case k2 => (intro q hq; repeat (first | exact hq | apply List.mem_cons_of_mem)))))
  k_with "getAttr ref" => ((with_reducible (refine' tok_kind ?k1 ?k2 ?k3 ?k4 ?k5 ?k6 ?_)); (case k5 => assumption); (case k1 => k_asm); (case k2 => k_in); (case k3 => k_asm); (case k4 => (intro q hq; repeat (first | exact hq | apply List.mem_cons_of_mem))); (case k6 => assumption); intro t')
  k_with "getAttr ref" => ((with_reducible (refine' tok_worth ?k1 ?k2 ?k3 ?k4 ?k5 ?k6 ?_)); (case k5 => assumption); (case k1 => k_asm); (case k2 => k_in); (case k3 => k_asm); (case k4 => (intro q hq; repeat (first | exact hq | apply List.mem_cons_of_mem))); (case k6 => assumption); intro t')
  k_with "getAttr ref" => ((with_reducible (refine' tok_at ?k1 ?k2 ?k3 ?k4 ?k5 ?k6 ?_)); (case k5 => assumption); (case k1 => k_asm); (case k2 => k_in); (case k3 => k_asm); (case k4 => (intro q hq; repeat (first | exact hq | apply List.mem_cons_of_mem))); (case k6 => assumption))
  k_with "call ref" => (k_dflt (refine' c_newFault ?k1 ?k2 ?k3 ?k4 ?k5 ?k6 ?k7 ?k8 ?_; (case k1 => k_asm); (case k2 => k_asm); (case k3 => k_in); (case k4 => k_asm); (case k5 => k_asm); (case k6 => first | rfl | assumption); (case k7 => ktr_room); (case k8 => ktr_units)); intro e' a' b' h1' h2' t1' t2' h' tk' F' N' n')
  k_with "truthy ref" => ((with_reducible show wpAny _ _ (truthy (Value.ref _)) _ _ _); k_dflt (refine' truthy_toks ?k1 ?k2 ?k3 ?_; (case k3 => assumption); (case k1 => k_asm); (case k2 => (intro q hq; repeat (first | exact hq | apply List.mem_cons_of_mem)))))
  k_with "call builtin:min" => ((with_unfolding_all refine' min_two_N ?k0 ?k1 ?k2 ?_; (case k0 => rfl); (case k1 => k_asm); (case k2 => k_asm)); intro h' tk' F' N')
  k_with "subscriptTail" => (k_dflt (refine' item_toks ?k1 ?k2 ?k3 (min p (r.Rw.length - 1)) ?k4 ?k5 ?_; (case k3 => assumption); (case k1 => k_asm); (case k2 => (intro q hq; repeat (first | exact hq | apply List.mem_cons_of_mem))); (case k4 => (have := hne (by assumption)); split <;> omega); (case k5 => (have := hne (by assumption)); omega)); k_whole; intro i' i1')
  trivial
section
variable {w : World} {mean : ExcName → Option Value} {mg mb : PySem.Str → Option Value} {hd : Option Value} {dp un : Nat} {gd : Option (List Code)} {cn : PySem.Str} {cs : Scope} {a : Addr} {ccd : Value} {cl : List (PySem.Str × Addr)} {outer : List Env} {A₀ : Around} {base h₀ : Heap} {L : Addr} {m : PySem.Str → Option Value} {rest : List (Addr × Obj)} {s : Shared} {r : RX} {p : Nat} {tp : Tok}
set_option maxHeartbeats 4000000 in
theorem c_fault {Q E : Value → Shared → Prop} {x : PySem.Str} {tk : Tok}
    (B : Below A₀ base outer h₀) (F : Fr h₀ L s.heap m) (X : (frag.heap_1 w.params).In h₀) (N : News h₀ L s.heap ((r.rd, rdO r) :: (r.d, rdD r p tp) :: rest)) (R : Rdr r rest) (T : Top topProg LS mean mg mb h₀) (hk : cs.kind = .function)
    (hdp : dp + 8 < recursionLimit) (hun : un + 40 < cLine)
    (ret : ∀ e (f : FX) b h' tk', Place r p f.u f.v → Fr h₀ L h' m → News h₀ L h' ((e, excO 65 b f.dx) :: faultL r p tp rest f) → (∀ q ∈ faultL r p tp rest f, q.1 ≠ e) → Q (.ref e) { s with heap := h', toks := tk' }) :
    wpAny (model prog w) (Ar none dp un gd cn cs L a ccd cl outer) (call (.ref 173) [.ref r.rd, .str x tk] []) Q E s := by
  w_on
  refine wpAny_call ?_
  k_dflt (refine' code_def  ?k1 ?k2 ?k3 ?k4 ?k5 ?kA ?kF ?kK ?k6 ?k7 ?k8 ?k9 ?kB ?_ ?c2 ?c3 ?c4 ?c5; (case kA => exact rfl); (case kF => exact rfl); (case kK => assumption); (case k1 => k_asm); (case k2 => k_asm); (case k3 => k_asm); (case k4 => k_asm); (case k5 => k_asm); (case k6 => k_is); (case k7 => k_is); (case k8 => ktr_room); (case k9 => first | exact BindsTo.of_eq rfl | exact binds_K (by k_in) rfl (by k_is) rfl rfl rfl); (case c5 => decide); (case kB => exact locs rfl); (case c2 => exact rfl); (case c3 => exact rfl); (case c4 => exact rfl); k_whole; intro g' L' h' FG' F' N' B' X' T'; (try dsimp only); (try k_fold))
  have hne : r.Rw.isEmpty = false → 0 < r.Rw.length := fun h => by cases q : r.Rw with | nil => rw [q] at h; cases h | cons a l => exact Nat.succ_pos _
  k_steps
  · rename r.Rw.isEmpty = true => he
    exact ret e' (FX.mk a' _ h1' h2' t1' t2' _ _ _ _ _ _) _ _ _ (.inl ⟨List.isEmpty_iff.mp he, rfl, rfl⟩) (by assumption) (newsSub (by assumption) (by kcf_all)) (fun q hq => n' q ((by kcf_all : ∀ q ∈ _, q ∈ _) q hq))
  · rename r.Rw.isEmpty = false => he
    obtain ⟨tu, tv, hm⟩ := R.pl _ _ i1'
    exact ret e' (FX.mk a' _ h1' h2' t1' t2' _ _ _ _ tu tv) _ _ _ (.inr ⟨by rw [← List.isEmpty_eq_false_iff]; exact he, rfl, rfl⟩) (by assumption) (newsSub (by assumption) (by kcf_all)) (fun q hq => n' q ((by kcf_all : ∀ q ∈ _, q ∈ _) q hq))
end
end
end
-- D5
section
open PySem PySem.W PySem.Calls PyProof.Rows
set_option pp.deepTerms false
set_option pp.deepTerms.threshold 6
set_option pp.maxSteps 20000
set_option format.width 180
set_option Elab.async false
set_option linter.unusedVariables false
set_option maxRecDepth 100000
section
theorem cutD5 : True := by
  k_with_none
  trivial
theorem reg5 : PySem.Challenge.rw_og0089_01 = PySem.Challenge.rw_og0089_01 ∧ frag.heap_1 = frag.heap_1 := by k_fill; exact ⟨rfl, rfl⟩
section
variable {w : World} {A : Around} {E : Value → Shared → Prop} {s : Shared} {h₀ : Heap} {L : Addr} {m : PySem.Str → Option Value} {rest : List (Addr × Obj)} {r : RX} {p : Nat} {tp : Tok}
theorem set_at {Q : Unit → Shared → Prop} {v : Int} {u : Tok} (q : Nat) (F : Fr h₀ L s.heap m) (X : (frag.heap_1 w.params).In h₀) (N : News h₀ L s.heap ((r.rd, rdO r) :: (r.d, rdD r p tp) :: rest)) (R : Rdr r rest) (hv : v = (q : Int))
    (h : ∀ h' tk', Fr h₀ L h' m → News h₀ L h' ((r.rd, rdO r) :: (r.d, rdD r q u) :: rest) → Q () { s with heap := h', toks := tk' }) :
    wpAny (model prog w) A (setAttr (.ref r.rd) "at" (.int v u)) Q E s := by
  subst hv
  exact set_dict (es := [⟨r.h1, .str "tokens" r.t1, .ref r.TL⟩, ⟨r.h2, .str "at" r.t2, .int (p : Int) tp⟩, ⟨r.h3, .str "named" r.t3, .ref r.nd⟩]) (n := 3) F X N ⟨(N _ (.head _)).1, rfl, rfl, (N _ (.tail _ (.head _))).1⟩ rfl (by k_is) (by k_is) (by k_is) (by k_is) rfl rfl
    (.tail R.ne (.head R.nd)) (Nat.le_of_ble_eq_true rfl) fun h' F' N' => h h' _ F' N'
end
theorem lines5 : True := by
  k_with "call builtin:len" => (k_dflt (refine' len_toks ?k1 ?k2 ?k3 ?_; (case k3 => assumption); (case k1 => k_asm); (case k2 => (intro q hq; repeat (first | exact hq | apply List.mem_cons_of_mem)))))
  k_with "getAttr ref" => ((with_reducible (refine' tok_kind ?k1 ?k2 ?k3 ?k4 ?k5 ?k6 ?_)); (case k5 => assumption); (case k1 => k_asm); (case k2 => k_in); (case k3 => k_asm); (case k4 => (intro q hq; repeat (first | exact hq | apply List.mem_cons_of_mem))); (case k6 => assumption); intro t')
  k_with "getAttr ref" => ((with_reducible (refine' tok_worth ?k1 ?k2 ?k3 ?k4 ?k5 ?k6 ?_)); (case k5 => assumption); (case k1 => k_asm); (case k2 => k_in); (case k3 => k_asm); (case k4 => (intro q hq; repeat (first | exact hq | apply List.mem_cons_of_mem))); (case k6 => assumption); intro t')
  k_with "getAttr ref" => ((with_reducible (refine' tok_at ?k1 ?k2 ?k3 ?k4 ?k5 ?k6 ?_)); (case k5 => assumption); (case k1 => k_asm); (case k2 => k_in); (case k3 => k_asm); (case k4 => (intro q hq; repeat (first | exact hq | apply List.mem_cons_of_mem))); (case k6 => assumption))
  k_with "call ref" => (k_dflt (refine' c_peek ?k1 ?k2 ?k3 ?k4 ?kR ?k5 ?k6 ?k7 ?k8 ?kp (fun i' h' tk' i1' F' N' => ?_) (fun h' tk' i1' F' N' => ?_); (case kR => assumption); (case k1 => k_asm); (case k2 => k_asm); (case k3 => k_in); (case k4 => first | k_asm | exact newsSub (by assumption) (by kcf_all)); (case k5 => k_asm); (case k6 => first | rfl | assumption); (case k7 => ktr_room); (case k8 => ktr_units); (case kp => first | exact .inl ⟨rfl, rfl, rfl⟩ | exact .inr rfl)))
  k_with "exec Raise some none" => (k_dflt (refine raise_made (C := 65) (by rfl) ?_))
  k_with "RaisesMade" => (k_dflt (refine ⟨_, _, _, rfl, (News.get (by k_asm) (by k_mem)), rfl, rfl, rfl, excCls65 (by k_in), ?_⟩))
  k_with "leaving ref" => (first | (k_dflt (refine' leaveD_first ?k1 ?k2 ?k3 ?k4 ?_; (case k1 => assumption); (case k2 => assumption); (case k3 => k_asm); (case k4 => k_asm)); k_whole; intro h' R' U'; (try dsimp only at R' U' ⊢)) | (k_dflt (refine' leaveD_on ?k1 ?k2 ?k3 ?k4 ?_; (case k3 => assumption); (case k1 => assumption); (case k4 => assumption); (case k2 => assumption)); k_whole; intro h' R' U'; (try dsimp only at R' U' ⊢)))
  k_with "call ref" => (k_dflt (refine' c_fault ?k1 ?k2 ?k3 ?k4 ?kR ?k5 ?k6 ?k7 ?k8  (fun e' f' b' h' tk' P' F' N' ne' => ?_); (case kR => assumption); (case k1 => k_asm); (case k2 => k_asm); (case k3 => k_in); (case k4 => first | k_asm | exact newsSub (by assumption) (by kcf_all)); (case k5 => k_asm); (case k6 => first | rfl | assumption); (case k7 => ktr_room); (case k8 => ktr_units)))
  k_with "setAttr ref" => (k_dflt (refine' set_at (p + 1) ?k1 ?k2 ?k3 ?k4 ?k5 ?_; (case k4 => assumption); (case k1 => k_asm); (case k2 => k_in); (case k3 => first | k_asm | exact newsSub (by assumption) (by kcf_all)); (case k5 => first | rfl | omega)); intro h' tk' F' N')
  trivial
section
variable {w : World} {mean : ExcName → Option Value} {mg mb : PySem.Str → Option Value} {hd : Option Value} {dp un : Nat} {gd : Option (List Code)} {cn : PySem.Str} {cs : Scope} {a : Addr} {ccd : Value} {cl : List (PySem.Str × Addr)} {outer : List Env} {A₀ : Around} {base h₀ : Heap} {L : Addr} {m : PySem.Str → Option Value} {rest : List (Addr × Obj)} {s : Shared} {r : RX} {p : Nat} {tp : Tok}
set_option maxHeartbeats 4000000 in
theorem c_take {Q E : Value → Shared → Prop}
    (B : Below A₀ base outer h₀) (F : Fr h₀ L s.heap m) (X : (frag.heap_1 w.params).In h₀) (N : News h₀ L s.heap ((r.rd, rdO r) :: (r.d, rdD r p tp) :: rest)) (R : Rdr r rest) (T : Top topProg LS mean mg mb h₀) (hk : cs.kind = .function)
    (hdp : dp + 12 < recursionLimit) (hun : un + 60 < cLine)
    (ret : ∀ i h' tk' t, r.Rw[p]? = some i → Fr h₀ L h' m → News h₀ L h' ((r.rd, rdO r) :: (r.d, rdD r (p + 1) t) :: rest) → Q (.ref (r.tl p)) { s with heap := h', toks := tk' })
    (hexc : r.Rw[p]? = none → ∀ e (f : FX) g h' tk', Fr h₀ L g m → Place r p f.u f.v → RaisedD base g (envX cn cs L a ccd cl :: outer) e 65 f.dx (faultL r p tp rest f) h' → g.UpToSlots h' → E (.ref e) { s with heap := h', toks := tk' }) :
    wpAny (model prog w) (Ar none dp un gd cn cs L a ccd cl outer) (call (.ref 180) [.ref r.rd] []) Q E s := by
  w_on
  refine wpAny_call ?_
  k_dflt (refine' code_def  ?k1 ?k2 ?k3 ?k4 ?k5 ?kA ?kF ?kK ?k6 ?k7 ?k8 ?k9 ?kB ?_ ?c2 ?c3 ?c4 ?c5; (case kA => exact rfl); (case kF => exact rfl); (case kK => assumption); (case k1 => k_asm); (case k2 => k_asm); (case k3 => k_asm); (case k4 => k_asm); (case k5 => k_asm); (case k6 => k_is); (case k7 => k_is); (case k8 => ktr_room); (case k9 => first | exact BindsTo.of_eq rfl | exact binds_K (by k_in) rfl (by k_is) rfl rfl rfl); (case c5 => decide); (case kB => exact locs rfl); (case c2 => exact rfl); (case c3 => exact rfl); (case c4 => exact rfl); k_whole; intro g' L' h' FG' F' N' B' X' T'; (try dsimp only); (try k_fold))
  k_steps
  · exact ret _ _ _ _ i1' (by assumption) (by assumption)
  · exact hexc i1' _ _ _ _ _ (by assumption) P' R' U'
set_option maxHeartbeats 4000000 in
theorem c_isDone {Q E : Value → Shared → Prop}
    (B : Below A₀ base outer h₀) (F : Fr h₀ L s.heap m) (X : (frag.heap_1 w.params).In h₀) (N : News h₀ L s.heap ((r.rd, rdO r) :: (r.d, rdD r p tp) :: rest)) (R : Rdr r rest) (T : Top topProg LS mean mg mb h₀) (hk : cs.kind = .function)
    (hdp : dp < recursionLimit) (hun : un + 8 < cLine)
    (ret : ∀ h' tk', Fr h₀ L h' m → News h₀ L h' ((r.rd, rdO r) :: (r.d, rdD r p tp) :: rest) → Q (.bool (decide (r.Rw.length ≤ p))) { s with heap := h', toks := tk' }) :
    wpAny (model prog w) (Ar none dp un gd cn cs L a ccd cl outer) (call (.ref 166) [.ref r.rd] []) Q E s := by
  w_on
  refine wpAny_call ?_
  k_dflt (refine' code_def  ?k1 ?k2 ?k3 ?k4 ?k5 ?kA ?kF ?kK ?k6 ?k7 ?k8 ?k9 ?kB ?_ ?c2 ?c3 ?c4 ?c5; (case kA => exact rfl); (case kF => exact rfl); (case kK => assumption); (case k1 => k_asm); (case k2 => k_asm); (case k3 => k_asm); (case k4 => k_asm); (case k5 => k_asm); (case k6 => k_is); (case k7 => k_is); (case k8 => ktr_room); (case k9 => first | exact BindsTo.of_eq rfl | exact binds_K (by k_in) rfl (by k_is) rfl rfl rfl); (case c5 => decide); (case kB => exact locs rfl); (case c2 => exact rfl); (case c3 => exact rfl); (case c4 => exact rfl); k_whole; intro g' L' h' FG' F' N' B' X' T'; (try dsimp only); (try k_fold))
  k_steps
  rw [show decide ((r.Rw.length : Int) ≤ (p : Int)) = decide (r.Rw.length ≤ p) from decide_eq_decide.mpr Int.ofNat_le]
  exact ret _ _ (by assumption) (by assumption)
end
end
end
-- D6
section
open PySem PySem.W PySem.Calls PyProof.Rows
set_option pp.deepTerms false
set_option pp.deepTerms.threshold 6
set_option pp.maxSteps 20000
set_option format.width 180
set_option Elab.async false
set_option linter.unusedVariables false
set_option maxRecDepth 100000
section
theorem cutD6 : True := by
  k_with_none
  trivial
theorem reg6 : PySem.Challenge.rw_og0089_01 = PySem.Challenge.rw_og0089_01 ∧ frag.heap_1 = frag.heap_1 := by k_fill; exact ⟨rfl, rfl⟩
/-! A loop over a short list of written words, the reader at hand and unmoved from turn to turn. -/
section
variable {prog : Program} {w : World} {A : Around} {E : Value → Shared → Prop} {s : Shared} {env : Env} {h₀ : Heap} {x : PySem.Str} {body : List Stmt} {Q : Flow → Shared → Prop} {r : RX} {p : Nat} {tp : Tok} {rest : List (Addr × Obj)}
def WEnd (h₀ : Heap) (L : Addr) (s₁ : Shared) (news : List (Addr × Obj)) (more : (PySem.Str → Option Value) → Prop) (s₂ : Shared) : Prop :=
  ∃ h' tk m', s₂ = { s₁ with heap := h', toks := tk } ∧ Fr h₀ L h' m' ∧ News h₀ L h' news ∧ more m'
def WPost (h₀ : Heap) (L : Addr) (s₁ : Shared) (news : List (Addr × Obj)) (more : (PySem.Str → Option Value) → Prop) (Q : Flow → Shared → Prop) (f : Flow) (s₂ : Shared) : Prop :=
  match f with
  | .ret v => Q (.ret v) s₂
  | .brk => Q .next s₂
  | _ => WEnd h₀ L s₁ news more s₂
theorem WEnd.intro {L : Addr} {s₁ : Shared} {news : List (Addr × Obj)} {more : (PySem.Str → Option Value) → Prop} {h' : Heap} {tk : Nat} {m' : PySem.Str → Option Value} (F : Fr h₀ L h' m') (N : News h₀ L h' news) (k : more m') : WEnd h₀ L s₁ news more { s₁ with heap := h', toks := tk } := ⟨h', tk, m', rfl, F, N, k⟩
def WordsRest (prog : Program) (w : World) (A : Around) (E : Value → Shared → Prop) (h₀ : Heap) (env : Env) (x : PySem.Str) (body : List Stmt) (Q : Flow → Shared → Prop) (s : Shared) (r : RX) (p : Nat) (tp : Tok) (rest : List (Addr × Obj)) : List Value → (PySem.Str → Option Value) → Prop
  | [], m => ∀ h tk, Fr h₀ env.locals h m → News h₀ env.locals h ((r.rd, rdO r) :: (r.d, rdD r p tp) :: rest) → Q .next { s with heap := h, toks := tk }
  | v :: l, m => ∀ h tk rest2, Rdr r rest2 → (∀ q ∈ rest, q ∈ rest2) → Fr h₀ env.locals h (fun y => if y = x then some v else m y) → News h₀ env.locals h ((r.rd, rdO r) :: (r.d, rdD r p tp) :: rest2) →
      wpAny (model prog w) A (execs body env) (WPost h₀ env.locals { s with heap := h, toks := tk } ((r.rd, rdO r) :: (r.d, rdD r p tp) :: rest2) (WordsRest prog w A E h₀ env x body Q s r p tp rest l) Q) E { s with heap := h, toks := tk }
theorem WordsRest.zero {m : PySem.Str → Option Value} (h : ∀ h tk, Fr h₀ env.locals h m → News h₀ env.locals h ((r.rd, rdO r) :: (r.d, rdD r p tp) :: rest) → Q .next { s with heap := h, toks := tk }) : WordsRest prog w A E h₀ env x body Q s r p tp rest [] m := h
theorem WordsRest.succ {m : PySem.Str → Option Value} {v : Value} {l : List Value} (h : ∀ h tk rest2, Rdr r rest2 → (∀ q ∈ rest, q ∈ rest2) → Fr h₀ env.locals h (fun y => if y = x then some v else m y) → News h₀ env.locals h ((r.rd, rdO r) :: (r.d, rdD r p tp) :: rest2) →
      wpAny (model prog w) A (execs body env) (WPost h₀ env.locals { s with heap := h, toks := tk } ((r.rd, rdO r) :: (r.d, rdD r p tp) :: rest2) (WordsRest prog w A E h₀ env x body Q s r p tp rest l) Q) E { s with heap := h, toks := tk }) :
    WordsRest prog w A E h₀ env x body Q s r p tp rest (v :: l) m := h
theorem words_list {I D : Addr} {lo : Obj} (R : Rdr r rest) (hI : ∀ q ∈ ((D, lo) :: (r.rd, rdO r) :: (r.d, rdD r p tp) :: rest), q.1 < I) (h1 : D ≠ r.rd) (h2 : D ≠ r.d) : ∀ (vs : List Value) (m : PySem.Str → Option Value), WordsRest prog w A E h₀ env x body Q s r p tp rest vs m →
    ListRest prog w A E h₀ env x body Q s I (D, lo) vs m ((D, lo) :: (r.rd, rdO r) :: (r.d, rdD r p tp) :: rest)
  | [], m, k => ListRest.zero fun h tk F N => k h tk F (fun q hq => N q (.tail _ hq))
  | v :: l, m, k => ListRest.succ fun it h tk hc F N => by
    have i1 : I ≠ r.rd := Ne.symm (Nat.ne_of_lt (hI _ (.tail _ (.head _))))
    have i2 : I ≠ r.d := Ne.symm (Nat.ne_of_lt (hI _ (.tail _ (.tail _ (.head _)))))
    have R2 : Rdr r ((I, it) :: (D, lo) :: rest) := (R.more (q := (D, lo)) h1 h2).more (q := (I, it)) i1 i2
    refine wpAny_mono (k h tk _ R2 (fun q hq => .tail _ (.tail _ hq)) F (newsSub N (by kcf_all))) (fun f s₂ q => ?_) fun _ _ e => e
    have fin : WEnd h₀ env.locals { s with heap := h, toks := tk } ((r.rd, rdO r) :: (r.d, rdD r p tp) :: (I, it) :: (D, lo) :: rest) (WordsRest prog w A E h₀ env x body Q s r p tp rest l) s₂ → UnrEnd h₀ env.locals { s with heap := h, toks := tk } I it (fun m' n' => (D, lo) ∈ n' ∧ ListRest prog w A E h₀ env x body Q s I (D, lo) l m' n') s₂ := by
      rintro ⟨h', tk', m', rfl, F', N', W'⟩
      exact UnrEnd.intro F' N' ((D, lo) :: (r.rd, rdO r) :: (r.d, rdD r p tp) :: rest) (by kcf_all) (fun q hq => Nat.ne_of_lt (hI q hq)) ⟨.head _, words_list R hI h1 h2 l m' W'⟩
    cases f with
    | ret v => exact q
    | brk => exact q
    | next => exact fin q
    | cont => exact fin q
theorem words_loop {D : Addr} {lo : Obj} {vs : List Value} {n : Nat} {m₀ : PySem.Str → Option Value} (hh : A.handled = none) (F : Fr h₀ env.locals s.heap m₀) (N : News h₀ env.locals s.heap ((D, lo) :: (r.rd, rdO r) :: (r.d, rdD r p tp) :: rest)) (R : Rdr r rest) (hc : lo.cls = .type "list") (hd : lo.data = .seq vs.toArray n)
    (h1 : D ≠ r.rd) (h2 : D ≠ r.d) (k : WordsRest prog w A E h₀ env x body Q s r p tp rest vs m₀) :
    wpAny (model prog w) A (pyIter (.ref D)) (fun it s₂ => LoopAtV prog w A h₀ env x body Q E it s₂) E s :=
  iter_listUnr hh F N (.head _) hc hd fun I hI => words_list R hI h1 h2 vs m₀ k
end
noncomputable def wordAt (r : RX) (j : Nat) (x : PySem.Str) : Bool := kindAt r j "word" && worthAt r j x
theorem rest_sub {a b : Addr × Obj} {rest rest2 : List (Addr × Obj)} (h : ∀ q ∈ rest, q ∈ rest2) : ∀ q ∈ a :: b :: rest, q ∈ a :: b :: rest2 := fun q hq => by
  rcases List.mem_cons.mp hq with rfl | hq
  · exact .head _
  · rcases List.mem_cons.mp hq with rfl | hq
    · exact .tail _ (.head _)
    · exact .tail _ (.tail _ (h q hq))
theorem wordAt_no1 {r : RX} {j : Nat} {x : PySem.Str} (h : kindAt r j "word" = false) : wordAt r j x = false := by unfold wordAt; rw [h]; rfl
theorem wordAt_no2 {r : RX} {j i : Nat} {x : PySem.Str} (i1 : r.Rw[j]? = some i) (h : (wd i != x) = true) : wordAt r j x = false := by
  unfold wordAt worthAt; rw [i1]
  have : (wd i == x) = false := by rw [bne, Bool.not_eq_true'] at h; exact h
  show (_ && (wd i == x)) = false
  rw [this, Bool.and_false]
theorem wordAt_yes {r : RX} {j i : Nat} {x : PySem.Str} (k : kindAt r j "word" = true) (i1 : r.Rw[j]? = some i) (h : (wd i != x) = false) : wordAt r j x = true := by
  unfold wordAt worthAt; rw [i1, k]
  have : (wd i == x) = true := by rw [bne, Bool.not_eq_false'] at h; exact h
  show (true && (wd i == x)) = true
  rw [this]; rfl
theorem peek_no {r : RX} {j : Nat} {k : PySem.Str} {G : Prop} (i1 : r.Rw[j]? = none) (h : kindAt r j k = true) : G := by rw [kindAt_none i1] at h; cases h
section
variable {prog : Program} {w : World} {A : Around} {E : Value → Shared → Prop} {s : Shared} {h₀ : Heap} {L : Addr} {m : PySem.Str → Option Value} {news : List (Addr × Obj)} {Q : Value → Shared → Prop}
theorem split_one {x y : PySem.Str} {t u : Tok} (F : Fr h₀ L s.heap m) (N : News h₀ L s.heap news) (hy : (y.length == 0) = false) (hT : Txt.split x y = [x]) (hx : x.length ≤ 100)
    (h : ∀ D v h' k, Fr h₀ L h' m → News h₀ L h' ((D, listOf #[.str x v] 0) :: news) → (∀ p ∈ news, p.1 < D) → Q (.ref D) { s with heap := h', toks := k }) :
    wpAny (model prog w) A (call (.builtin "str.split") [.str x t, .str y u]) Q E s :=
  KSpl.split1 F N hy (fun D l h' k e a F' N' l1 => by
    rw [hT] at e
    obtain ⟨v, l', rfl, e2⟩ := KSpl.cons_of e
    have := KSpl.nil_of e2
    subst this
    exact h D v h' k F' N' l1) (by rw [sizeLine_eq]; omega)
end
abbrev sEND : PySem.Str := ⟨#[69, 78, 68]⟩
abbrev sADD : PySem.Str := ⟨#[65, 68, 68]⟩
theorem lines6 : True := by
  k_with "getAttr ref" => ((with_reducible (refine' tok_kind ?k1 ?k2 ?k3 ?k4 ?k5 ?k6 ?_)); (case k5 => assumption); (case k1 => k_asm); (case k2 => k_in); (case k3 => k_asm); (case k4 => (intro q hq; repeat (first | exact hq | apply List.mem_cons_of_mem))); (case k6 => assumption); intro t')
  k_with "getAttr ref" => ((with_reducible (refine' tok_worth ?k1 ?k2 ?k3 ?k4 ?k5 ?k6 ?_)); (case k5 => assumption); (case k1 => k_asm); (case k2 => k_in); (case k3 => k_asm); (case k4 => (intro q hq; repeat (first | exact hq | apply List.mem_cons_of_mem))); (case k6 => assumption); intro t')
  k_with "getAttr ref" => ((with_reducible (refine' tok_at ?k1 ?k2 ?k3 ?k4 ?k5 ?k6 ?_)); (case k5 => assumption); (case k1 => k_asm); (case k2 => k_in); (case k3 => k_asm); (case k4 => (intro q hq; repeat (first | exact hq | apply List.mem_cons_of_mem))); (case k6 => assumption))
  k_with "call ref" => (k_dflt (refine' c_peek ?k1 ?k2 ?k3 ?k4 ?kR ?k5 ?k6 ?k7 ?k8 ?kp (fun i' h' tk' i1' F' N' => ?_) (fun h' tk' i1' F' N' => ?_); (case kR => assumption); (case k1 => k_asm); (case k2 => k_asm); (case k3 => k_in); (case k4 => first | k_asm | exact newsSub (by assumption) (by kcf_all)); (case k5 => k_asm); (case k6 => first | rfl | assumption); (case k7 => ktr_room); (case k8 => ktr_units); (case kp => first | exact .inl ⟨rfl, rfl, rfl⟩ | exact .inr rfl)))
  k_with "call ref" => (k_dflt (refine' c_peek ?k1 ?k2 ?k3 ?k4 ?kR ?k5 ?k6 ?k7 ?k8 ?kp (fun i' h' tk' i1' F' N' => ?_) ?kN; (case kR => assumption); (case k1 => k_asm); (case k2 => k_asm); (case k3 => k_in); (case k4 => first | k_asm | exact newsSub (by assumption) (by kcf_all)); (case k5 => k_asm); (case k6 => first | rfl | assumption); (case k7 => ktr_room); (case k8 => ktr_units); (case kp => first | exact .inl ⟨rfl, rfl, rfl⟩ | exact .inr rfl); (case kN => (intro h' tk' i1' F' N'; exact peek_no i1' (by assumption)))))
  k_with "call ref" => (k_dflt (refine' c_isKind ?k1 ?k2 ?k3 ?k4 ?kR ?k5 ?k6 ?k7 ?k8 ?kp (fun h' tk' F' N' => ?_); (case kR => assumption); (case k1 => k_asm); (case k2 => k_asm); (case k3 => k_in); (case k4 => first | k_asm | exact newsSub (by assumption) (by kcf_all)); (case k5 => k_asm); (case k6 => first | rfl | assumption); (case k7 => ktr_room); (case k8 => ktr_units); (case kp => first | exact .inl ⟨rfl, rfl, rfl⟩ | exact .inr rfl)))
  k_with "pyIter ref" => ((with_reducible show wpAny _ _ (pyIter (Value.ref _)) (fun it s₂ => LoopAtV _ _ _ _ _ _ _ _ _ it s₂) _ _); (with_unfolding_all refine' words_loop ?k1 ?k2 ?k3 ?k4 ?k5 ?k6 ?k7 ?k8 ?_); (case k4 => assumption); (case k1 => rfl); (case k2 => k_asm); (case k3 => k_asm); (case k5 => rfl); (case k6 => rfl); (case k7 => k_ne); (case k8 => k_ne))
  k_with "WordsRest" => (with_unfolding_all first | (refine WordsRest.succ (fun h' tk' rest' R' z' F' N' => ?_)) | (refine WordsRest.zero (fun h' tk' F' N' => ?_)))
  k_with "WPost" => (dsimp only [WPost])
  k_with "WEnd" => (refine WEnd.intro (by assumption) (by assumption) ?_)
  trivial
section
variable {w : World} {mean : ExcName → Option Value} {mg mb : PySem.Str → Option Value} {hd : Option Value} {dp un : Nat} {gd : Option (List Code)} {cn : PySem.Str} {cs : Scope} {a : Addr} {ccd : Value} {cl : List (PySem.Str × Addr)} {outer : List Env} {A₀ : Around} {base h₀ : Heap} {L : Addr} {m : PySem.Str → Option Value} {rest : List (Addr × Obj)} {s : Shared} {r : RX} {p : Nat} {tp : Tok}
set_option maxHeartbeats 4000000 in
theorem c_isWord2 {Q E : Value → Shared → Prop} {tk : Tok}
    (B : Below A₀ base outer h₀) (F : Fr h₀ L s.heap m) (X : (frag.heap_1 w.params).In h₀) (N : News h₀ L s.heap ((r.rd, rdO r) :: (r.d, rdD r p tp) :: rest)) (R : Rdr r rest) (T : Top topProg LS mean mg mb h₀) (hk : cs.kind = .function)
    (hdp : dp + 12 < recursionLimit) (hun : un + 60 < cLine)
    (ret : ∀ b h' tk', b = (wordAt r p sEND && wordAt r (p + 1) sADD) → Fr h₀ L h' m → News h₀ L h' ((r.rd, rdO r) :: (r.d, rdD r p tp) :: rest) → Q (.bool b) { s with heap := h', toks := tk' }) :
    wpAny (model prog w) (Ar none dp un gd cn cs L a ccd cl outer) (call (.ref 195) [.ref r.rd, .str "END ADD" tk] []) Q E s := by
  w_on
  refine wpAny_call ?_
  k_dflt (refine' code_def  ?k1 ?k2 ?k3 ?k4 ?k5 ?kA ?kF ?kK ?k6 ?k7 ?k8 ?k9 ?kB ?_ ?c2 ?c3 ?c4 ?c5; (case kA => exact rfl); (case kF => exact rfl); (case kK => assumption); (case k1 => k_asm); (case k2 => k_asm); (case k3 => k_asm); (case k4 => k_asm); (case k5 => k_asm); (case k6 => k_is); (case k7 => k_is); (case k8 => ktr_room); (case k9 => first | exact BindsTo.of_eq rfl | exact binds_K (by k_in) rfl (by k_is) rfl rfl rfl); (case c5 => decide); (case kB => exact locs rfl); (case c2 => exact rfl); (case c3 => exact rfl); (case c4 => exact rfl); k_whole; intro g' L' h' FG' F' N' B' X' T'; (try dsimp only); (try k_fold))
  k_steps
  · exact ret _ _ _ (by rw [wordAt_no2 (x := sEND) (j := p) i1' (by assumption)]; rfl) (by assumption) (newsSub (by assumption) (rest_sub (by assumption)))
  · exact ret _ _ _ (by rw [wordAt_no2 (x := sADD) (j := p + 1) i1' (by assumption), Bool.and_false]) (by assumption) (newsSub (by assumption) (rest_sub (by assumption)))
  · exact ret _ _ _ (by rw [wordAt_yes (x := sEND) (j := p) (by assumption) (by assumption) (by assumption), wordAt_yes (x := sADD) (j := p + 1) (by assumption) (by assumption) (by assumption)]; rfl) (by assumption) (by assumption)
  · exact ret _ _ _ (by rw [wordAt_no1 (x := sADD) (j := p + 1) (by assumption), Bool.and_false]) (by assumption) (newsSub (by assumption) (rest_sub (by assumption)))
  · exact ret _ _ _ (by rw [wordAt_no1 (x := sEND) (j := p) (by assumption)]; rfl) (by assumption) (newsSub (by assumption) (rest_sub (by assumption)))
theorem lines6b : True := by
  k_with "call builtin:str.split" => (k_dflt (refine' split_one ?k1 ?k2 ?k3 ?k4 ?k5 ?_; (case k4 => assumption); (case k5 => assumption); (case k1 => k_asm); (case k2 => k_asm); (case k3 => decide)); intro D' v' h' k' F' N' l1'; (try k_lt l1'))
  trivial
set_option maxHeartbeats 4000000 in
theorem c_isWord1 {Q E : Value → Shared → Prop} {tk : Tok} {x : PySem.Str} (hx : Txt.split x (PySem.Str.ofString " ") = [x]) (hx2 : x.length ≤ 100)
    (B : Below A₀ base outer h₀) (F : Fr h₀ L s.heap m) (X : (frag.heap_1 w.params).In h₀) (N : News h₀ L s.heap ((r.rd, rdO r) :: (r.d, rdD r p tp) :: rest)) (R : Rdr r rest) (T : Top topProg LS mean mg mb h₀) (hk : cs.kind = .function)
    (hdp : dp + 12 < recursionLimit) (hun : un + 60 < cLine)
    (ret : ∀ b h' tk', b = wordAt r p x → Fr h₀ L h' m → News h₀ L h' ((r.rd, rdO r) :: (r.d, rdD r p tp) :: rest) → Q (.bool b) { s with heap := h', toks := tk' }) :
    wpAny (model prog w) (Ar none dp un gd cn cs L a ccd cl outer) (call (.ref 195) [.ref r.rd, .str x tk] []) Q E s := by
  w_on
  refine wpAny_call ?_
  k_dflt (refine' code_def  ?k1 ?k2 ?k3 ?k4 ?k5 ?kA ?kF ?kK ?k6 ?k7 ?k8 ?k9 ?kB ?_ ?c2 ?c3 ?c4 ?c5; (case kA => exact rfl); (case kF => exact rfl); (case kK => assumption); (case k1 => k_asm); (case k2 => k_asm); (case k3 => k_asm); (case k4 => k_asm); (case k5 => k_asm); (case k6 => k_is); (case k7 => k_is); (case k8 => ktr_room); (case k9 => first | exact BindsTo.of_eq rfl | exact binds_K (by k_in) rfl (by k_is) rfl rfl rfl); (case c5 => decide); (case kB => exact locs rfl); (case c2 => exact rfl); (case c3 => exact rfl); (case c4 => exact rfl); k_whole; intro g' L' h' FG' F' N' B' X' T'; (try dsimp only); (try k_fold))
  k_steps
  · exact ret _ _ _ (wordAt_no2 i1' (by assumption)).symm (by assumption) (newsSub (by assumption) (rest_sub (by assumption)))
  · exact ret _ _ _ (wordAt_yes (by assumption) i1' (by assumption)).symm (by assumption) (by assumption)
  · exact ret _ _ _ (wordAt_no1 (by assumption)).symm (by assumption) (newsSub (by assumption) (rest_sub (by assumption)))
end
end
end
-- D7
section
open PySem PySem.W PySem.Calls PyProof.Rows
set_option pp.deepTerms false
set_option pp.deepTerms.threshold 6
set_option pp.maxSteps 20000
set_option format.width 180
set_option Elab.async false
set_option linter.unusedVariables false
set_option maxRecDepth 100000
section
theorem cutD7 : True := by
  k_with_none
  trivial
theorem reg7 : PySem.Challenge.rw_og0089_01 = PySem.Challenge.rw_og0089_01 ∧ frag.heap_1 = frag.heap_1 := by k_fill; exact ⟨rfl, rfl⟩
abbrev sTO : PySem.Str := ⟨#[84, 79]⟩
abbrev sA : PySem.Str := ⟨#[65]⟩
theorem lines7 : True := by
  k_with "call ref" => (k_dflt (refine' c_isWord1 ?hx ?hx2 ?k1 ?k2 ?k3 ?k4 ?kR ?k5 ?k6 ?k7 ?k8  (fun b' h' tk' e' F' N' => ?_); (case kR => assumption); (case k1 => k_asm); (case k2 => k_asm); (case k3 => k_in); (case k4 => first | k_asm | exact newsSub (by assumption) (by kcf_all)); (case k5 => k_asm); (case k6 => first | rfl | assumption); (case k7 => ktr_room); (case k8 => ktr_units); (case hx => first | assumption | kernel_rfl); (case hx2 => first | assumption | exact Nat.le_of_ble_eq_true rfl)))
  k_with "call ref" => (k_dflt (refine' c_isWord2 ?k1 ?k2 ?k3 ?k4 ?kR ?k5 ?k6 ?k7 ?k8  (fun b' h' tk' e' F' N' => ?_); (case kR => assumption); (case k1 => k_asm); (case k2 => k_asm); (case k3 => k_in); (case k4 => first | k_asm | exact newsSub (by assumption) (by kcf_all)); (case k5 => k_asm); (case k6 => first | rfl | assumption); (case k7 => ktr_room); (case k8 => ktr_units)))
  k_with "setAttr ref" => (k_dflt (refine' set_at (p + 1) ?k1 ?k2 ?k3 ?k4 ?k5 ?_; (case k4 => assumption); (case k1 => k_asm); (case k2 => k_in); (case k3 => first | k_asm | exact newsSub (by assumption) (by kcf_all)); (case k5 => first | rfl | omega)); intro h' tk' F' N')
  k_with "call builtin:str.split" => (k_dflt (refine' split_one ?k1 ?k2 ?k3 ?k4 ?k5 ?_; (case k4 => assumption); (case k5 => assumption); (case k1 => k_asm); (case k2 => k_asm); (case k3 => decide)); intro D' v' h' k' F' N' l1'; (try k_lt l1'))
  trivial
section
variable {w : World} {mean : ExcName → Option Value} {mg mb : PySem.Str → Option Value} {hd : Option Value} {dp un : Nat} {gd : Option (List Code)} {cn : PySem.Str} {cs : Scope} {a : Addr} {ccd : Value} {cl : List (PySem.Str × Addr)} {outer : List Env} {A₀ : Around} {base h₀ : Heap} {L : Addr} {m : PySem.Str → Option Value} {rest : List (Addr × Obj)} {s : Shared} {r : RX} {p : Nat} {tp : Tok}
set_option maxHeartbeats 4000000 in
theorem c_skip1 {Q E : Value → Shared → Prop} {tk : Tok} {x : PySem.Str} (hx : Txt.split x (PySem.Str.ofString " ") = [x]) (hx2 : x.length ≤ 100)
    (B : Below A₀ base outer h₀) (F : Fr h₀ L s.heap m) (X : (frag.heap_1 w.params).In h₀) (N : News h₀ L s.heap ((r.rd, rdO r) :: (r.d, rdD r p tp) :: rest)) (R : Rdr r rest) (T : Top topProg LS mean mg mb h₀) (hk : cs.kind = .function)
    (hdp : dp + 14 < recursionLimit) (hun : un + 80 < cLine)
    (retT : ∀ h' tk' t, wordAt r p x = true → Fr h₀ L h' m → News h₀ L h' ((r.rd, rdO r) :: (r.d, rdD r (p + 1) t) :: rest) → Q (.bool true) { s with heap := h', toks := tk' })
    (retF : ∀ h' tk', wordAt r p x = false → Fr h₀ L h' m → News h₀ L h' ((r.rd, rdO r) :: (r.d, rdD r p tp) :: rest) → Q (.bool false) { s with heap := h', toks := tk' }) :
    wpAny (model prog w) (Ar none dp un gd cn cs L a ccd cl outer) (call (.ref 202) [.ref r.rd, .str x tk] []) Q E s := by
  w_on
  refine wpAny_call ?_
  k_dflt (refine' code_def  ?k1 ?k2 ?k3 ?k4 ?k5 ?kA ?kF ?kK ?k6 ?k7 ?k8 ?k9 ?kB ?_ ?c2 ?c3 ?c4 ?c5; (case kA => exact rfl); (case kF => exact rfl); (case kK => assumption); (case k1 => k_asm); (case k2 => k_asm); (case k3 => k_asm); (case k4 => k_asm); (case k5 => k_asm); (case k6 => k_is); (case k7 => k_is); (case k8 => ktr_room); (case k9 => first | exact BindsTo.of_eq rfl | exact binds_K (by k_in) rfl (by k_is) rfl rfl rfl); (case c5 => decide); (case kB => exact locs rfl); (case c2 => exact rfl); (case c3 => exact rfl); (case c4 => exact rfl); k_whole; intro g' L' h' FG' F' N' B' X' T'; (try dsimp only); (try k_fold))
  k_steps
  · exact retT _ _ _ (e'.symm.trans (by assumption)) (by assumption) (by assumption)
  · exact retF _ _ (e'.symm.trans (by assumption)) (by assumption) (by assumption)
theorem lines7b : True := by
  k_with "setAttr ref" => (k_dflt (refine' set_at (p + 2) ?k1 ?k2 ?k3 ?k4 ?k5 ?_; (case k4 => assumption); (case k1 => k_asm); (case k2 => k_in); (case k3 => first | k_asm | exact newsSub (by assumption) (by kcf_all)); (case k5 => first | rfl | omega)); intro h' tk' F' N')
  trivial
set_option maxHeartbeats 4000000 in
theorem c_skip2 {Q E : Value → Shared → Prop} {tk : Tok}
    (B : Below A₀ base outer h₀) (F : Fr h₀ L s.heap m) (X : (frag.heap_1 w.params).In h₀) (N : News h₀ L s.heap ((r.rd, rdO r) :: (r.d, rdD r p tp) :: rest)) (R : Rdr r rest) (T : Top topProg LS mean mg mb h₀) (hk : cs.kind = .function)
    (hdp : dp + 14 < recursionLimit) (hun : un + 80 < cLine)
    (retT : ∀ h' tk' t, (wordAt r p sEND && wordAt r (p + 1) sADD) = true → Fr h₀ L h' m → News h₀ L h' ((r.rd, rdO r) :: (r.d, rdD r (p + 2) t) :: rest) → Q (.bool true) { s with heap := h', toks := tk' })
    (retF : ∀ h' tk', (wordAt r p sEND && wordAt r (p + 1) sADD) = false → Fr h₀ L h' m → News h₀ L h' ((r.rd, rdO r) :: (r.d, rdD r p tp) :: rest) → Q (.bool false) { s with heap := h', toks := tk' }) :
    wpAny (model prog w) (Ar none dp un gd cn cs L a ccd cl outer) (call (.ref 202) [.ref r.rd, .str "END ADD" tk] []) Q E s := by
  w_on
  refine wpAny_call ?_
  k_dflt (refine' code_def  ?k1 ?k2 ?k3 ?k4 ?k5 ?kA ?kF ?kK ?k6 ?k7 ?k8 ?k9 ?kB ?_ ?c2 ?c3 ?c4 ?c5; (case kA => exact rfl); (case kF => exact rfl); (case kK => assumption); (case k1 => k_asm); (case k2 => k_asm); (case k3 => k_asm); (case k4 => k_asm); (case k5 => k_asm); (case k6 => k_is); (case k7 => k_is); (case k8 => ktr_room); (case k9 => first | exact BindsTo.of_eq rfl | exact binds_K (by k_in) rfl (by k_is) rfl rfl rfl); (case c5 => decide); (case kB => exact locs rfl); (case c2 => exact rfl); (case c3 => exact rfl); (case c4 => exact rfl); k_whole; intro g' L' h' FG' F' N' B' X' T'; (try dsimp only); (try k_fold))
  k_steps
  · exact retT _ _ _ (e'.symm.trans (by assumption)) (by assumption) (by assumption)
  · exact retF _ _ (e'.symm.trans (by assumption)) (by assumption) (by assumption)
theorem lines7c : True := by
  k_with "call ref" => (k_dflt (refine' c_skip1 ?hx ?hx2 ?k1 ?k2 ?k3 ?k4 ?kR ?k5 ?k6 ?k7 ?k8  (fun h' tk' t' w' F' N' => ?_) (fun h' tk' w' F' N' => ?_); (case kR => assumption); (case k1 => k_asm); (case k2 => k_asm); (case k3 => k_in); (case k4 => first | k_asm | exact newsSub (by assumption) (by kcf_all)); (case k5 => k_asm); (case k6 => first | rfl | assumption); (case k7 => ktr_room); (case k8 => ktr_units); (case hx => first | assumption | kernel_rfl); (case hx2 => first | assumption | exact Nat.le_of_ble_eq_true rfl)))
  k_with "exec Raise some none" => (k_dflt (refine raise_made (C := 65) (by rfl) ?_))
  k_with "RaisesMade" => (k_dflt (refine ⟨_, _, _, rfl, (News.get (by k_asm) (by k_mem)), rfl, rfl, rfl, excCls65 (by k_in), ?_⟩))
  k_with "leaving ref" => (first | (k_dflt (refine' leaveD_first ?k1 ?k2 ?k3 ?k4 ?_; (case k1 => assumption); (case k2 => assumption); (case k3 => k_asm); (case k4 => k_asm)); k_whole; intro h' R' U'; (try dsimp only at R' U' ⊢)) | (k_dflt (refine' leaveD_on ?k1 ?k2 ?k3 ?k4 ?_; (case k3 => assumption); (case k1 => assumption); (case k4 => assumption); (case k2 => assumption)); k_whole; intro h' R' U'; (try dsimp only at R' U' ⊢)))
  k_with "call ref" => (k_dflt (refine' c_fault ?k1 ?k2 ?k3 ?k4 ?kR ?k5 ?k6 ?k7 ?k8  (fun e' f' b' h' tk' P' F' N' ne' => ?_); (case kR => assumption); (case k1 => k_asm); (case k2 => k_asm); (case k3 => k_in); (case k4 => first | k_asm | exact newsSub (by assumption) (by kcf_all)); (case k5 => k_asm); (case k6 => first | rfl | assumption); (case k7 => ktr_room); (case k8 => ktr_units)))
  trivial
set_option maxHeartbeats 4000000 in
theorem c_need {Q E : Value → Shared → Prop} {tk : Tok}
    (B : Below A₀ base outer h₀) (F : Fr h₀ L s.heap m) (X : (frag.heap_1 w.params).In h₀) (N : News h₀ L s.heap ((r.rd, rdO r) :: (r.d, rdD r p tp) :: rest)) (R : Rdr r rest) (T : Top topProg LS mean mg mb h₀) (hk : cs.kind = .function)
    (hdp : dp + 18 < recursionLimit) (hun : un + 120 < cLine)
    (ret : ∀ h' tk' t, wordAt r p "MOVE" = true → Fr h₀ L h' m → News h₀ L h' ((r.rd, rdO r) :: (r.d, rdD r (p + 1) t) :: rest) → Q .none { s with heap := h', toks := tk' })
    (hexc : wordAt r p "MOVE" = false → ∀ e (f : FX) g h' tk', Fr h₀ L g m → Place r p f.u f.v → RaisedD base g (envX cn cs L a ccd cl :: outer) e 65 f.dx (faultL r p tp rest f) h' → g.UpToSlots h' → E (.ref e) { s with heap := h', toks := tk' }) :
    wpAny (model prog w) (Ar none dp un gd cn cs L a ccd cl outer) (call (.ref 209) [.ref r.rd, .str "MOVE" tk] []) Q E s := by
  w_on
  refine wpAny_call ?_
  k_dflt (refine' code_def  ?k1 ?k2 ?k3 ?k4 ?k5 ?kA ?kF ?kK ?k6 ?k7 ?k8 ?k9 ?kB ?_ ?c2 ?c3 ?c4 ?c5; (case kA => exact rfl); (case kF => exact rfl); (case kK => assumption); (case k1 => k_asm); (case k2 => k_asm); (case k3 => k_asm); (case k4 => k_asm); (case k5 => k_asm); (case k6 => k_is); (case k7 => k_is); (case k8 => ktr_room); (case k9 => first | exact BindsTo.of_eq rfl | exact binds_K (by k_in) rfl (by k_is) rfl rfl rfl); (case c5 => decide); (case kB => exact locs rfl); (case c2 => exact rfl); (case c3 => exact rfl); (case c4 => exact rfl); k_whole; intro g' L' h' FG' F' N' B' X' T'; (try dsimp only); (try k_fold))
  k_steps
  · exact ret _ _ _ w' (by assumption) (by assumption)
  · exact hexc w' _ _ _ _ _ (by assumption) P' R' U'
theorem lines7d : True := by
  k_with "pyIter ref" => ((with_reducible show wpAny _ _ (pyIter (Value.ref _)) (fun it s₂ => LoopAtV _ _ _ _ _ _ _ _ _ it s₂) _ _); (with_unfolding_all refine' words_loop ?k1 ?k2 ?k3 ?k4 ?k5 ?k6 ?k7 ?k8 ?_); (case k4 => assumption); (case k1 => rfl); (case k2 => k_asm); (case k3 => k_asm); (case k5 => rfl); (case k6 => rfl); (case k7 => k_ne); (case k8 => k_ne))
  k_with "WordsRest" => (with_unfolding_all first | (refine WordsRest.succ (fun h' tk' rest' R' z' F' N' => ?_)) | (refine WordsRest.zero (fun h' tk' F' N' => ?_)))
  k_with "WPost" => (dsimp only [WPost])
  k_with "WEnd" => (refine WEnd.intro (by assumption) (by assumption) ?_)
  trivial
set_option maxHeartbeats 4000000 in
theorem c_oneOf {Q E : Value → Shared → Prop} {tk : Tok}
    (B : Below A₀ base outer h₀) (F : Fr h₀ L s.heap m) (X : (frag.heap_1 w.params).In h₀) (N : News h₀ L s.heap ((r.rd, rdO r) :: (r.d, rdD r p tp) :: rest)) (R : Rdr r rest) (T : Top topProg LS mean mg mb h₀) (hk : cs.kind = .function)
    (hdp : dp + 18 < recursionLimit) (hun : un + 120 < cLine)
    (retS : ∀ x v h' tk' t, (if wordAt r p sTO then some sTO else if wordAt r p sA then some sA else if wordAt r p sEND then some sEND else none) = some x → Fr h₀ L h' m → News h₀ L h' ((r.rd, rdO r) :: (r.d, rdD r (p + 1) t) :: rest) → Q (.str x v) { s with heap := h', toks := tk' })
    (retN : ∀ v h' tk', (if wordAt r p sTO then some sTO else if wordAt r p sA then some sA else if wordAt r p sEND then some sEND else none) = none → Fr h₀ L h' m → News h₀ L h' ((r.rd, rdO r) :: (r.d, rdD r p tp) :: rest) → Q (.str "" v) { s with heap := h', toks := tk' }) :
    wpAny (model prog w) (Ar none dp un gd cn cs L a ccd cl outer) (call (.ref 216) [.ref r.rd, .str "TO A END" tk] []) Q E s := by
  w_on
  refine wpAny_call ?_
  k_dflt (refine' code_def  ?k1 ?k2 ?k3 ?k4 ?k5 ?kA ?kF ?kK ?k6 ?k7 ?k8 ?k9 ?kB ?_ ?c2 ?c3 ?c4 ?c5; (case kA => exact rfl); (case kF => exact rfl); (case kK => assumption); (case k1 => k_asm); (case k2 => k_asm); (case k3 => k_asm); (case k4 => k_asm); (case k5 => k_asm); (case k6 => k_is); (case k7 => k_is); (case k8 => ktr_room); (case k9 => first | exact BindsTo.of_eq rfl | exact binds_K (by k_in) rfl (by k_is) rfl rfl rfl); (case c5 => decide); (case kB => exact locs rfl); (case c2 => exact rfl); (case c3 => exact rfl); (case c4 => exact rfl); k_whole; intro g' L' h' FG' F' N' B' X' T'; (try dsimp only); (try k_fold))
  k_steps
  · exact retS _ _ _ _ _ (if_pos w') (by assumption) (newsSub (by assumption) (rest_sub (by assumption)))
  · exact retS _ _ _ _ _ ((if_neg (ne_true_of_eq_false (by assumption))).trans (if_pos w')) (by assumption) (newsSub (by assumption) (rest_sub (by assumption)))
  · exact retS _ _ _ _ _ ((if_neg (ne_true_of_eq_false (b := wordAt r p sTO) (by assumption))).trans ((if_neg (ne_true_of_eq_false (b := wordAt r p sA) (by assumption))).trans (if_pos w'))) (by assumption) (newsSub (by assumption) (rest_sub (by assumption)))
  · exact retN _ _ _ ((if_neg (ne_true_of_eq_false (b := wordAt r p sTO) (by assumption))).trans ((if_neg (ne_true_of_eq_false (b := wordAt r p sA) (by assumption))).trans (if_neg (ne_true_of_eq_false w')))) (by assumption) (by assumption)
end
end
end
-- D8
section
open PySem PySem.W PySem.Calls PyProof.Rows
set_option pp.deepTerms false
set_option pp.deepTerms.threshold 6
set_option pp.maxSteps 20000
set_option format.width 180
set_option Elab.async false
set_option linter.unusedVariables false
set_option maxRecDepth 100000
section
theorem cutD8 : True := by
  k_with_none
  trivial
theorem reg8 : PySem.Challenge.rw_og0089_01 = PySem.Challenge.rw_og0089_01 ∧ frag.heap_1 = frag.heap_1 := by k_fill; exact ⟨rfl, rfl⟩
noncomputable def textOf (p : Program) (i : Nat) : PySem.Str := match p.main.body[i]? with
  | some (.Assign _ (.Constant (.str x) _ _) _) => x
  | _ => ""
noncomputable def RS : PySem.Str := textOf PySem.Challenge.pw_og0089_01 16
noncomputable def resB (x : PySem.Str) : Bool := !(Builtin.Str.occurrences RS ((" " : PySem.Str) ++ x ++ (" " : PySem.Str)) 0 RS.length 1).isEmpty
section
variable {w : World} {mean : ExcName → Option Value} {mg mb : PySem.Str → Option Value} {hd : Option Value} {dp un : Nat} {gd : Option (List Code)} {cn : PySem.Str} {cs : Scope} {a : Addr} {ccd : Value} {cl : List (PySem.Str × Addr)} {outer : List Env} {A₀ : Around} {base h₀ : Heap} {L : Addr} {m : PySem.Str → Option Value} {news : List (Addr × Obj)} {s : Shared}
set_option maxHeartbeats 4000000 in
theorem c_isReserved {x : PySem.Str} {tk : Tok} {Q E : Value → Shared → Prop}
    (B : Below A₀ base outer h₀) (F : Fr h₀ L s.heap m) (X : (frag.heap_1 w.params).In h₀) (N : News h₀ L s.heap news) (T : Top topProg LS mean mg mb h₀) (hk : cs.kind = .function)
    (hdp : dp < recursionLimit) (hun : un + 8 < cLine) (hx : x.length ≤ 1000) (b : Bool) (hb : resB x = b)
    (ret : ∀ h' tk', Fr h₀ L h' m → News h₀ L h' news → Q (.bool b) { s with heap := h', toks := tk' }) :
    wpAny (model prog w) (Ar none dp un gd cn cs L a ccd cl outer) (call (.ref 131) [.str x tk] []) Q E s := by
  subst hb
  w_on
  refine wpAny_call ?_
  k_dflt (refine' code_def  ?k1 ?k2 ?k3 ?k4 ?k5 ?kA ?kF ?kK ?k6 ?k7 ?k8 ?k9 ?kB ?_ ?c2 ?c3 ?c4 ?c5; (case kA => exact rfl); (case kF => exact rfl); (case kK => assumption); (case k1 => k_asm); (case k2 => k_asm); (case k3 => k_asm); (case k4 => k_asm); (case k5 => k_asm); (case k6 => k_is); (case k7 => k_is); (case k8 => ktr_room); (case k9 => first | exact BindsTo.of_eq rfl | exact binds_K (by k_in) rfl (by k_is) rfl rfl rfl); (case c5 => decide); (case kB => exact locs rfl); (case c2 => exact rfl); (case c3 => exact rfl); (case c4 => exact rfl); k_whole; intro g' L' h' FG' F' N' B' X' T'; (try dsimp only); (try k_fold))
  k_steps
  all_goals exact ret _ _ (by assumption) (by assumption)
end
noncomputable def nameAt (r : RX) (j : Nat) : Bool := match r.Rw[j]? with | some i => kd i == "word" && !resB (wd i) | none => false
theorem nameAt_some {r : RX} {j i : Nat} (k : kindAt r j "word" = true) (h : r.Rw[j]? = some i) : nameAt r j = !resB (wd i) := by
  rw [kindAt_some h] at k
  unfold nameAt; rw [h]
  show (kd i == "word" && _) = _
  rw [k, Bool.true_and]
theorem nameAt_no {r : RX} {j : Nat} (k : kindAt r j "word" = false) : nameAt r j = false := by
  unfold nameAt
  cases h : r.Rw[j]? with
  | none => rfl
  | some i => rw [kindAt_some h] at k; show (kd i == "word" && _) = _; rw [k, Bool.false_and]
theorem name_no {r : RX} {j : Nat} {G : Prop} (i1 : r.Rw[j]? = none) (h : nameAt r j = true) : G := by unfold nameAt at h; rw [i1] at h; cases h
theorem wd_len (i : Nat) : (wd i).length ≤ 1000 := by
  have h : ∀ q ∈ KW, q.2.length ≤ 1000 := by
    have : KW.all (fun q => Nat.ble q.2.length 1000) = true := by unfold KW; decide +kernel
    exact fun q hq => Nat.le_of_ble_eq_true (List.all_eq_true.mp this q hq)
  unfold wd
  rw [List.getD_eq_getElem?_getD]
  cases q : KW[i]? with
  | none => exact Nat.le_of_ble_eq_true rfl
  | some v => exact h v (List.mem_of_getElem? q)
theorem lines8 : True := by
  k_with "getAttr ref" => ((with_reducible (refine' tok_kind ?k1 ?k2 ?k3 ?k4 ?k5 ?k6 ?_)); (case k5 => assumption); (case k1 => k_asm); (case k2 => k_in); (case k3 => k_asm); (case k4 => (intro q hq; repeat (first | exact hq | apply List.mem_cons_of_mem))); (case k6 => assumption); intro t')
  k_with "getAttr ref" => ((with_reducible (refine' tok_worth ?k1 ?k2 ?k3 ?k4 ?k5 ?k6 ?_)); (case k5 => assumption); (case k1 => k_asm); (case k2 => k_in); (case k3 => k_asm); (case k4 => (intro q hq; repeat (first | exact hq | apply List.mem_cons_of_mem))); (case k6 => assumption); intro t')
  k_with "getAttr ref" => ((with_reducible (refine' tok_at ?k1 ?k2 ?k3 ?k4 ?k5 ?k6 ?_)); (case k5 => assumption); (case k1 => k_asm); (case k2 => k_in); (case k3 => k_asm); (case k4 => (intro q hq; repeat (first | exact hq | apply List.mem_cons_of_mem))); (case k6 => assumption))
  k_with "call ref" => (k_dflt (refine' c_peek ?k1 ?k2 ?k3 ?k4 ?kR ?k5 ?k6 ?k7 ?k8 ?kp (fun i' h' tk' i1' F' N' => ?_) (fun h' tk' i1' F' N' => ?_); (case kR => assumption); (case k1 => k_asm); (case k2 => k_asm); (case k3 => k_in); (case k4 => first | k_asm | exact newsSub (by assumption) (by kcf_all)); (case k5 => k_asm); (case k6 => first | rfl | assumption); (case k7 => ktr_room); (case k8 => ktr_units); (case kp => first | exact .inl ⟨rfl, rfl, rfl⟩ | exact .inr rfl)))
  k_with "call ref" => (k_dflt (refine' c_peek ?k1 ?k2 ?k3 ?k4 ?kR ?k5 ?k6 ?k7 ?k8 ?kp (fun i' h' tk' i1' F' N' => ?_) ?kN; (case kR => assumption); (case k1 => k_asm); (case k2 => k_asm); (case k3 => k_in); (case k4 => first | k_asm | exact newsSub (by assumption) (by kcf_all)); (case k5 => k_asm); (case k6 => first | rfl | assumption); (case k7 => ktr_room); (case k8 => ktr_units); (case kp => first | exact .inl ⟨rfl, rfl, rfl⟩ | exact .inr rfl); (case kN => (intro h' tk' i1' F' N'; exact peek_no i1' (by assumption)))))
  k_with "call ref" => (k_dflt (refine' c_isKind ?k1 ?k2 ?k3 ?k4 ?kR ?k5 ?k6 ?k7 ?k8 ?kp (fun h' tk' F' N' => ?_); (case kR => assumption); (case k1 => k_asm); (case k2 => k_asm); (case k3 => k_in); (case k4 => first | k_asm | exact newsSub (by assumption) (by kcf_all)); (case k5 => k_asm); (case k6 => first | rfl | assumption); (case k7 => ktr_room); (case k8 => ktr_units); (case kp => first | exact .inl ⟨rfl, rfl, rfl⟩ | exact .inr rfl)))
  k_with "call ref" => (k_dflt (refine' c_fault ?k1 ?k2 ?k3 ?k4 ?kR ?k5 ?k6 ?k7 ?k8  (fun e' f' b' h' tk' P' F' N' ne' => ?_); (case kR => assumption); (case k1 => k_asm); (case k2 => k_asm); (case k3 => k_in); (case k4 => first | k_asm | exact newsSub (by assumption) (by kcf_all)); (case k5 => k_asm); (case k6 => first | rfl | assumption); (case k7 => ktr_room); (case k8 => ktr_units)))
  k_with "exec Raise some none" => (k_dflt (refine raise_made (C := 65) (by rfl) ?_))
  k_with "RaisesMade" => (k_dflt (refine ⟨_, _, _, rfl, (News.get (by k_asm) (by k_mem)), rfl, rfl, rfl, excCls65 (by k_in), ?_⟩))
  k_with "leaving ref" => (first | (k_dflt (refine' leaveD_first ?k1 ?k2 ?k3 ?k4 ?_; (case k1 => assumption); (case k2 => assumption); (case k3 => k_asm); (case k4 => k_asm)); k_whole; intro h' R' U'; (try dsimp only at R' U' ⊢)) | (k_dflt (refine' leaveD_on ?k1 ?k2 ?k3 ?k4 ?_; (case k3 => assumption); (case k1 => assumption); (case k4 => assumption); (case k2 => assumption)); k_whole; intro h' R' U'; (try dsimp only at R' U' ⊢)))
  k_with "call ref" => (k_dflt (refine' c_take ?k1 ?k2 ?k3 ?k4 ?kR ?k5 ?k6 ?k7 ?k8 (fun i' h' tk' t' i1' F' N' => ?_) (fun i1' e' f' g' h' tk' FG' P' R' U' => ?_); (case kR => assumption); (case k1 => k_asm); (case k2 => k_asm); (case k3 => k_in); (case k4 => first | k_asm | exact newsSub (by assumption) (by kcf_all)); (case k5 => k_asm); (case k6 => first | rfl | assumption); (case k7 => ktr_room); (case k8 => ktr_units)))
  k_with "call ref" => (k_dflt (refine' c_take ?k1 ?k2 ?k3 ?k4 ?kR ?k5 ?k6 ?k7 ?k8 (fun i' h' tk' t' i1' F' N' => ?_) ?kN; (case kR => assumption); (case k1 => k_asm); (case k2 => k_asm); (case k3 => k_in); (case k4 => first | k_asm | exact newsSub (by assumption) (by kcf_all)); (case k5 => k_asm); (case k6 => first | rfl | assumption); (case k7 => ktr_room); (case k8 => ktr_units); (case kN => (intro i1'; first | exact peek_no i1' (by assumption) | exact name_no i1' (by assumption)))))
  k_with "call ref" => (k_dflt (refine' c_isReserved ?k1 ?k2 ?k3 ?k4 ?k5 ?k6 ?k7 ?k8 ?k9 (resB _) rfl ?_; (case k1 => k_asm); (case k2 => k_asm); (case k3 => k_in); (case k4 => k_asm); (case k5 => k_asm); (case k6 => first | rfl | assumption); (case k7 => ktr_room); (case k8 => ktr_units); (case k9 => first | exact wd_len _ | assumption | omega)); intro h' tk' F' N')
  trivial
section
variable {w : World} {mean : ExcName → Option Value} {mg mb : PySem.Str → Option Value} {hd : Option Value} {dp un : Nat} {gd : Option (List Code)} {cn : PySem.Str} {cs : Scope} {a : Addr} {ccd : Value} {cl : List (PySem.Str × Addr)} {outer : List Env} {A₀ : Around} {base h₀ : Heap} {L : Addr} {m : PySem.Str → Option Value} {rest : List (Addr × Obj)} {s : Shared} {r : RX} {p : Nat} {tp : Tok}
set_option maxHeartbeats 4000000 in
theorem c_isName {Q E : Value → Shared → Prop}
    (B : Below A₀ base outer h₀) (F : Fr h₀ L s.heap m) (X : (frag.heap_1 w.params).In h₀) (N : News h₀ L s.heap ((r.rd, rdO r) :: (r.d, rdD r p tp) :: rest)) (R : Rdr r rest) (T : Top topProg LS mean mg mb h₀) (hk : cs.kind = .function)
    (hdp : dp + 12 < recursionLimit) (hun : un + 60 < cLine)
    (ret : ∀ h' tk', Fr h₀ L h' m → News h₀ L h' ((r.rd, rdO r) :: (r.d, rdD r p tp) :: rest) → Q (.bool (nameAt r p)) { s with heap := h', toks := tk' }) :
    wpAny (model prog w) (Ar none dp un gd cn cs L a ccd cl outer) (call (.ref 231) [.ref r.rd] []) Q E s := by
  w_on
  refine wpAny_call ?_
  k_dflt (refine' code_def  ?k1 ?k2 ?k3 ?k4 ?k5 ?kA ?kF ?kK ?k6 ?k7 ?k8 ?k9 ?kB ?_ ?c2 ?c3 ?c4 ?c5; (case kA => exact rfl); (case kF => exact rfl); (case kK => assumption); (case k1 => k_asm); (case k2 => k_asm); (case k3 => k_asm); (case k4 => k_asm); (case k5 => k_asm); (case k6 => k_is); (case k7 => k_is); (case k8 => ktr_room); (case k9 => first | exact BindsTo.of_eq rfl | exact binds_K (by k_in) rfl (by k_is) rfl rfl rfl); (case c5 => decide); (case kB => exact locs rfl); (case c2 => exact rfl); (case c3 => exact rfl); (case c4 => exact rfl); k_whole; intro g' L' h' FG' F' N' B' X' T'; (try dsimp only); (try k_fold))
  k_steps
  · rw [← nameAt_some (by assumption) i1']; exact ret _ _ (by assumption) (by assumption)
  · rw [show kindAt r (p + 0) "word" = nameAt r p from Eq.trans (by assumption) (nameAt_no (by assumption)).symm]; exact ret _ _ (by assumption) (by assumption)
theorem lines8b : True := by
  k_with "call ref" => (k_dflt (refine' c_isName ?k1 ?k2 ?k3 ?k4 ?kR ?k5 ?k6 ?k7 ?k8  (fun h' tk' F' N' => ?_); (case kR => assumption); (case k1 => k_asm); (case k2 => k_asm); (case k3 => k_in); (case k4 => first | k_asm | exact newsSub (by assumption) (by kcf_all)); (case k5 => k_asm); (case k6 => first | rfl | assumption); (case k7 => ktr_room); (case k8 => ktr_units)))
  trivial
set_option maxHeartbeats 4000000 in
theorem c_name {Q E : Value → Shared → Prop}
    (B : Below A₀ base outer h₀) (F : Fr h₀ L s.heap m) (X : (frag.heap_1 w.params).In h₀) (N : News h₀ L s.heap ((r.rd, rdO r) :: (r.d, rdD r p tp) :: rest)) (R : Rdr r rest) (T : Top topProg LS mean mg mb h₀) (hk : cs.kind = .function)
    (hdp : dp + 18 < recursionLimit) (hun : un + 120 < cLine)
    (ret : ∀ i v h' tk' t, nameAt r p = true → r.Rw[p]? = some i → Fr h₀ L h' m → News h₀ L h' ((r.rd, rdO r) :: (r.d, rdD r (p + 1) t) :: rest) → Q (.str (wd i) v) { s with heap := h', toks := tk' })
    (hexc : nameAt r p = false → ∀ e (f : FX) g h' tk', Fr h₀ L g m → Place r p f.u f.v → RaisedD base g (envX cn cs L a ccd cl :: outer) e 65 f.dx (faultL r p tp rest f) h' → g.UpToSlots h' → E (.ref e) { s with heap := h', toks := tk' }) :
    wpAny (model prog w) (Ar none dp un gd cn cs L a ccd cl outer) (call (.ref 238) [.ref r.rd] []) Q E s := by
  w_on
  refine wpAny_call ?_
  k_dflt (refine' code_def  ?k1 ?k2 ?k3 ?k4 ?k5 ?kA ?kF ?kK ?k6 ?k7 ?k8 ?k9 ?kB ?_ ?c2 ?c3 ?c4 ?c5; (case kA => exact rfl); (case kF => exact rfl); (case kK => assumption); (case k1 => k_asm); (case k2 => k_asm); (case k3 => k_asm); (case k4 => k_asm); (case k5 => k_asm); (case k6 => k_is); (case k7 => k_is); (case k8 => ktr_room); (case k9 => first | exact BindsTo.of_eq rfl | exact binds_K (by k_in) rfl (by k_is) rfl rfl rfl); (case c5 => decide); (case kB => exact locs rfl); (case c2 => exact rfl); (case c3 => exact rfl); (case c4 => exact rfl); k_whole; intro g' L' h' FG' F' N' B' X' T'; (try dsimp only); (try k_fold))
  k_steps
  · exact ret _ _ _ _ _ (by assumption) i1' (by assumption) (by assumption)
  · exact hexc (by assumption) _ _ _ _ _ (by assumption) P' R' U'
set_option maxHeartbeats 4000000 in
theorem c_word {Q E : Value → Shared → Prop}
    (B : Below A₀ base outer h₀) (F : Fr h₀ L s.heap m) (X : (frag.heap_1 w.params).In h₀) (N : News h₀ L s.heap ((r.rd, rdO r) :: (r.d, rdD r p tp) :: rest)) (R : Rdr r rest) (T : Top topProg LS mean mg mb h₀) (hk : cs.kind = .function)
    (hdp : dp + 18 < recursionLimit) (hun : un + 120 < cLine)
    (ret : ∀ i v h' tk' t, kindAt r p "word" = true → r.Rw[p]? = some i → Fr h₀ L h' m → News h₀ L h' ((r.rd, rdO r) :: (r.d, rdD r (p + 1) t) :: rest) → Q (.str (wd i) v) { s with heap := h', toks := tk' })
    (hexc : kindAt r p "word" = false → ∀ e (f : FX) g h' tk', Fr h₀ L g m → Place r p f.u f.v → RaisedD base g (envX cn cs L a ccd cl :: outer) e 65 f.dx (faultL r p tp rest f) h' → g.UpToSlots h' → E (.ref e) { s with heap := h', toks := tk' }) :
    wpAny (model prog w) (Ar none dp un gd cn cs L a ccd cl outer) (call (.ref 223) [.ref r.rd] []) Q E s := by
  w_on
  refine wpAny_call ?_
  k_dflt (refine' code_def  ?k1 ?k2 ?k3 ?k4 ?k5 ?kA ?kF ?kK ?k6 ?k7 ?k8 ?k9 ?kB ?_ ?c2 ?c3 ?c4 ?c5; (case kA => exact rfl); (case kF => exact rfl); (case kK => assumption); (case k1 => k_asm); (case k2 => k_asm); (case k3 => k_asm); (case k4 => k_asm); (case k5 => k_asm); (case k6 => k_is); (case k7 => k_is); (case k8 => ktr_room); (case k9 => first | exact BindsTo.of_eq rfl | exact binds_K (by k_in) rfl (by k_is) rfl rfl rfl); (case c5 => decide); (case kB => exact locs rfl); (case c2 => exact rfl); (case c3 => exact rfl); (case c4 => exact rfl); k_whole; intro g' L' h' FG' F' N' B' X' T'; (try dsimp only); (try k_fold))
  k_steps
  · exact ret _ _ _ _ _ (by assumption) i1' (by assumption) (by assumption)
  · exact hexc (by assumption) _ _ _ _ _ (by assumption) P' R' U'
set_option maxHeartbeats 4000000 in
theorem c_literal {Q E : Value → Shared → Prop}
    (B : Below A₀ base outer h₀) (F : Fr h₀ L s.heap m) (X : (frag.heap_1 w.params).In h₀) (N : News h₀ L s.heap ((r.rd, rdO r) :: (r.d, rdD r p tp) :: rest)) (R : Rdr r rest) (T : Top topProg LS mean mg mb h₀) (hk : cs.kind = .function)
    (hdp : dp + 18 < recursionLimit) (hun : un + 120 < cLine)
    (ret : ∀ i v h' tk' t, kindAt r p "literal" = true → r.Rw[p]? = some i → Fr h₀ L h' m → News h₀ L h' ((r.rd, rdO r) :: (r.d, rdD r (p + 1) t) :: rest) → Q (.str (wd i) v) { s with heap := h', toks := tk' })
    (hexc : kindAt r p "literal" = false → ∀ e (f : FX) g h' tk', Fr h₀ L g m → Place r p f.u f.v → RaisedD base g (envX cn cs L a ccd cl :: outer) e 65 f.dx (faultL r p tp rest f) h' → g.UpToSlots h' → E (.ref e) { s with heap := h', toks := tk' }) :
    wpAny (model prog w) (Ar none dp un gd cn cs L a ccd cl outer) (call (.ref 295) [.ref r.rd] []) Q E s := by
  w_on
  refine wpAny_call ?_
  k_dflt (refine' code_def  ?k1 ?k2 ?k3 ?k4 ?k5 ?kA ?kF ?kK ?k6 ?k7 ?k8 ?k9 ?kB ?_ ?c2 ?c3 ?c4 ?c5; (case kA => exact rfl); (case kF => exact rfl); (case kK => assumption); (case k1 => k_asm); (case k2 => k_asm); (case k3 => k_asm); (case k4 => k_asm); (case k5 => k_asm); (case k6 => k_is); (case k7 => k_is); (case k8 => ktr_room); (case k9 => first | exact BindsTo.of_eq rfl | exact binds_K (by k_in) rfl (by k_is) rfl rfl rfl); (case c5 => decide); (case kB => exact locs rfl); (case c2 => exact rfl); (case c3 => exact rfl); (case c4 => exact rfl); k_whole; intro g' L' h' FG' F' N' B' X' T'; (try dsimp only); (try k_fold))
  k_steps
  · exact ret _ _ _ _ _ (by assumption) i1' (by assumption) (by assumption)
  · exact hexc (by assumption) _ _ _ _ _ (by assumption) P' R' U'
end
end
end
-- D9
section
open PySem PySem.W PySem.Calls PyProof.Rows
set_option pp.deepTerms false
set_option pp.deepTerms.threshold 6
set_option pp.maxSteps 20000
set_option format.width 180
set_option Elab.async false
set_option linter.unusedVariables false
set_option maxRecDepth 100000
section
theorem cutD9 : True := by
  k_with_none
  trivial
theorem reg9 : PySem.Challenge.rw_og0089_01 = PySem.Challenge.rw_og0089_01 ∧ frag.heap_1 = frag.heap_1 := by k_fill; exact ⟨rfl, rfl⟩
noncomputable def signAt (r : RX) (j : Nat) (x : PySem.Str) : Bool := match r.Rw[j]? with | some i => kd i == "sign" && wd i == x | none => false
theorem signAt_some {r : RX} {j i : Nat} {x : PySem.Str} (k : kindAt r j "sign" = true) (h : r.Rw[j]? = some i) : signAt r j x = (wd i == x) := by
  rw [kindAt_some h] at k
  unfold signAt; rw [h]
  show (kd i == "sign" && _) = _
  rw [k, Bool.true_and]
theorem signAt_no {r : RX} {j : Nat} {x : PySem.Str} (k : kindAt r j "sign" = false) : signAt r j x = false := by
  unfold signAt
  cases h : r.Rw[j]? with
  | none => rfl
  | some i => rw [kindAt_some h] at k; show (kd i == "sign" && _) = _; rw [k, Bool.false_and]
noncomputable def numAt (r : RX) (p : Nat) : Bool := if (signAt r p "+" || signAt r p "-") = true then kindAt r (p + 1) "number" else kindAt r p "number"
theorem numAt_1 {r : RX} {p : Nat} (h : signAt r p "+" = true) : numAt r p = kindAt r (p + 1) "number" := by unfold numAt; rw [if_pos (by rw [h, Bool.true_or])]
theorem numAt_2 {r : RX} {p : Nat} (h : signAt r p "-" = true) : numAt r p = kindAt r (p + 1) "number" := by unfold numAt; rw [if_pos (by rw [h, Bool.or_true])]
theorem numAt_3 {r : RX} {p : Nat} (h : signAt r p "+" = false) (h2 : signAt r p "-" = false) : numAt r p = kindAt r p "number" := by unfold numAt; rw [if_neg (by rw [h, h2]; decide)]
theorem lines9 : True := by
  k_with "getAttr ref" => ((with_reducible (refine' tok_kind ?k1 ?k2 ?k3 ?k4 ?k5 ?k6 ?_)); (case k5 => assumption); (case k1 => k_asm); (case k2 => k_in); (case k3 => k_asm); (case k4 => (intro q hq; repeat (first | exact hq | apply List.mem_cons_of_mem))); (case k6 => assumption); intro t')
  k_with "getAttr ref" => ((with_reducible (refine' tok_worth ?k1 ?k2 ?k3 ?k4 ?k5 ?k6 ?_)); (case k5 => assumption); (case k1 => k_asm); (case k2 => k_in); (case k3 => k_asm); (case k4 => (intro q hq; repeat (first | exact hq | apply List.mem_cons_of_mem))); (case k6 => assumption); intro t')
  k_with "getAttr ref" => ((with_reducible (refine' tok_at ?k1 ?k2 ?k3 ?k4 ?k5 ?k6 ?_)); (case k5 => assumption); (case k1 => k_asm); (case k2 => k_in); (case k3 => k_asm); (case k4 => (intro q hq; repeat (first | exact hq | apply List.mem_cons_of_mem))); (case k6 => assumption))
  k_with "call ref" => (k_dflt (refine' c_peek ?k1 ?k2 ?k3 ?k4 ?kR ?k5 ?k6 ?k7 ?k8 ?kp (fun i' h' tk' i1' F' N' => ?_) (fun h' tk' i1' F' N' => ?_); (case kR => assumption); (case k1 => k_asm); (case k2 => k_asm); (case k3 => k_in); (case k4 => first | k_asm | exact newsSub (by assumption) (by kcf_all)); (case k5 => k_asm); (case k6 => first | rfl | assumption); (case k7 => ktr_room); (case k8 => ktr_units); (case kp => first | exact .inl ⟨rfl, rfl, rfl⟩ | exact .inr rfl)))
  k_with "call ref" => (k_dflt (refine' c_peek ?k1 ?k2 ?k3 ?k4 ?kR ?k5 ?k6 ?k7 ?k8 ?kp (fun i' h' tk' i1' F' N' => ?_) ?kN; (case kR => assumption); (case k1 => k_asm); (case k2 => k_asm); (case k3 => k_in); (case k4 => first | k_asm | exact newsSub (by assumption) (by kcf_all)); (case k5 => k_asm); (case k6 => first | rfl | assumption); (case k7 => ktr_room); (case k8 => ktr_units); (case kp => first | exact .inl ⟨rfl, rfl, rfl⟩ | exact .inr rfl); (case kN => (intro h' tk' i1' F' N'; exact peek_no i1' (by assumption)))))
  k_with "call ref" => (k_dflt (refine' c_isKind ?k1 ?k2 ?k3 ?k4 ?kR ?k5 ?k6 ?k7 ?k8 ?kp (fun h' tk' F' N' => ?_); (case kR => assumption); (case k1 => k_asm); (case k2 => k_asm); (case k3 => k_in); (case k4 => first | k_asm | exact newsSub (by assumption) (by kcf_all)); (case k5 => k_asm); (case k6 => first | rfl | assumption); (case k7 => ktr_room); (case k8 => ktr_units); (case kp => first | exact .inl ⟨rfl, rfl, rfl⟩ | exact .inr rfl)))
  k_with "call ref" => (k_dflt (refine' c_fault ?k1 ?k2 ?k3 ?k4 ?kR ?k5 ?k6 ?k7 ?k8  (fun e' f' b' h' tk' P' F' N' ne' => ?_); (case kR => assumption); (case k1 => k_asm); (case k2 => k_asm); (case k3 => k_in); (case k4 => first | k_asm | exact newsSub (by assumption) (by kcf_all)); (case k5 => k_asm); (case k6 => first | rfl | assumption); (case k7 => ktr_room); (case k8 => ktr_units)))
  k_with "exec Raise some none" => (k_dflt (refine raise_made (C := 65) (by rfl) ?_))
  k_with "RaisesMade" => (k_dflt (refine ⟨_, _, _, rfl, (News.get (by k_asm) (by k_mem)), rfl, rfl, rfl, excCls65 (by k_in), ?_⟩))
  k_with "leaving ref" => (first | (k_dflt (refine' leaveD_first ?k1 ?k2 ?k3 ?k4 ?_; (case k1 => assumption); (case k2 => assumption); (case k3 => k_asm); (case k4 => k_asm)); k_whole; intro h' R' U'; (try dsimp only at R' U' ⊢)) | (k_dflt (refine' leaveD_on ?k1 ?k2 ?k3 ?k4 ?_; (case k3 => assumption); (case k1 => assumption); (case k4 => assumption); (case k2 => assumption)); k_whole; intro h' R' U'; (try dsimp only at R' U' ⊢)))
  k_with "setAttr ref" => (k_dflt (refine' set_at (p + 1) ?k1 ?k2 ?k3 ?k4 ?k5 ?_; (case k4 => assumption); (case k1 => k_asm); (case k2 => k_in); (case k3 => first | k_asm | exact newsSub (by assumption) (by kcf_all)); (case k5 => first | rfl | omega)); intro h' tk' F' N')
  trivial
section
variable {w : World} {mean : ExcName → Option Value} {mg mb : PySem.Str → Option Value} {hd : Option Value} {dp un : Nat} {gd : Option (List Code)} {cn : PySem.Str} {cs : Scope} {a : Addr} {ccd : Value} {cl : List (PySem.Str × Addr)} {outer : List Env} {A₀ : Around} {base h₀ : Heap} {L : Addr} {m : PySem.Str → Option Value} {rest : List (Addr × Obj)} {s : Shared} {r : RX} {p : Nat} {tp : Tok}
set_option maxHeartbeats 4000000 in
theorem c_isSign {Q E : Value → Shared → Prop} {x : PySem.Str} {tk : Tok}
    (B : Below A₀ base outer h₀) (F : Fr h₀ L s.heap m) (X : (frag.heap_1 w.params).In h₀) (N : News h₀ L s.heap ((r.rd, rdO r) :: (r.d, rdD r p tp) :: rest)) (R : Rdr r rest) (T : Top topProg LS mean mg mb h₀) (hk : cs.kind = .function)
    (hdp : dp + 12 < recursionLimit) (hun : un + 60 < cLine)
    (ret : ∀ h' tk', Fr h₀ L h' m → News h₀ L h' ((r.rd, rdO r) :: (r.d, rdD r p tp) :: rest) → Q (.bool (signAt r p x)) { s with heap := h', toks := tk' }) :
    wpAny (model prog w) (Ar none dp un gd cn cs L a ccd cl outer) (call (.ref 253) [.ref r.rd, .str x tk] []) Q E s := by
  w_on
  refine wpAny_call ?_
  k_dflt (refine' code_def  ?k1 ?k2 ?k3 ?k4 ?k5 ?kA ?kF ?kK ?k6 ?k7 ?k8 ?k9 ?kB ?_ ?c2 ?c3 ?c4 ?c5; (case kA => exact rfl); (case kF => exact rfl); (case kK => assumption); (case k1 => k_asm); (case k2 => k_asm); (case k3 => k_asm); (case k4 => k_asm); (case k5 => k_asm); (case k6 => k_is); (case k7 => k_is); (case k8 => ktr_room); (case k9 => first | exact BindsTo.of_eq rfl | exact binds_K (by k_in) rfl (by k_is) rfl rfl rfl); (case c5 => decide); (case kB => exact locs rfl); (case c2 => exact rfl); (case c3 => exact rfl); (case c4 => exact rfl); k_whole; intro g' L' h' FG' F' N' B' X' T'; (try dsimp only); (try k_fold))
  k_steps
  · rw [← signAt_some (by assumption) i1']; exact ret _ _ (by assumption) (by assumption)
  · rw [show kindAt r (p + 0) "sign" = signAt r p x from Eq.trans (by assumption) (signAt_no (by assumption)).symm]; exact ret _ _ (by assumption) (by assumption)
theorem lines9b : True := by
  k_with "call ref" => (k_dflt (refine' c_isSign ?k1 ?k2 ?k3 ?k4 ?kR ?k5 ?k6 ?k7 ?k8  (fun h' tk' F' N' => ?_); (case kR => assumption); (case k1 => k_asm); (case k2 => k_asm); (case k3 => k_in); (case k4 => first | k_asm | exact newsSub (by assumption) (by kcf_all)); (case k5 => k_asm); (case k6 => first | rfl | assumption); (case k7 => ktr_room); (case k8 => ktr_units)))
  trivial
set_option maxHeartbeats 4000000 in
theorem c_skipSign {Q E : Value → Shared → Prop} {x : PySem.Str} {tk : Tok}
    (B : Below A₀ base outer h₀) (F : Fr h₀ L s.heap m) (X : (frag.heap_1 w.params).In h₀) (N : News h₀ L s.heap ((r.rd, rdO r) :: (r.d, rdD r p tp) :: rest)) (R : Rdr r rest) (T : Top topProg LS mean mg mb h₀) (hk : cs.kind = .function)
    (hdp : dp + 14 < recursionLimit) (hun : un + 80 < cLine)
    (retT : ∀ h' tk' t, signAt r p x = true → Fr h₀ L h' m → News h₀ L h' ((r.rd, rdO r) :: (r.d, rdD r (p + 1) t) :: rest) → Q (.bool true) { s with heap := h', toks := tk' })
    (retF : ∀ h' tk', signAt r p x = false → Fr h₀ L h' m → News h₀ L h' ((r.rd, rdO r) :: (r.d, rdD r p tp) :: rest) → Q (.bool false) { s with heap := h', toks := tk' }) :
    wpAny (model prog w) (Ar none dp un gd cn cs L a ccd cl outer) (call (.ref 260) [.ref r.rd, .str x tk] []) Q E s := by
  w_on
  refine wpAny_call ?_
  k_dflt (refine' code_def  ?k1 ?k2 ?k3 ?k4 ?k5 ?kA ?kF ?kK ?k6 ?k7 ?k8 ?k9 ?kB ?_ ?c2 ?c3 ?c4 ?c5; (case kA => exact rfl); (case kF => exact rfl); (case kK => assumption); (case k1 => k_asm); (case k2 => k_asm); (case k3 => k_asm); (case k4 => k_asm); (case k5 => k_asm); (case k6 => k_is); (case k7 => k_is); (case k8 => ktr_room); (case k9 => first | exact BindsTo.of_eq rfl | exact binds_K (by k_in) rfl (by k_is) rfl rfl rfl); (case c5 => decide); (case kB => exact locs rfl); (case c2 => exact rfl); (case c3 => exact rfl); (case c4 => exact rfl); k_whole; intro g' L' h' FG' F' N' B' X' T'; (try dsimp only); (try k_fold))
  k_steps
  · exact retT _ _ _ (by assumption) (by assumption) (by assumption)
  · exact retF _ _ (by assumption) (by assumption) (by assumption)
theorem lines9c : True := by
  k_with "call ref" => (k_dflt (refine' c_skipSign ?k1 ?k2 ?k3 ?k4 ?kR ?k5 ?k6 ?k7 ?k8  (fun h' tk' t' w' F' N' => ?_) (fun h' tk' w' F' N' => ?_); (case kR => assumption); (case k1 => k_asm); (case k2 => k_asm); (case k3 => k_in); (case k4 => first | k_asm | exact newsSub (by assumption) (by kcf_all)); (case k5 => k_asm); (case k6 => first | rfl | assumption); (case k7 => ktr_room); (case k8 => ktr_units)))
  trivial
set_option maxHeartbeats 4000000 in
theorem c_needSign {Q E : Value → Shared → Prop} {tk : Tok}
    (B : Below A₀ base outer h₀) (F : Fr h₀ L s.heap m) (X : (frag.heap_1 w.params).In h₀) (N : News h₀ L s.heap ((r.rd, rdO r) :: (r.d, rdD r p tp) :: rest)) (R : Rdr r rest) (T : Top topProg LS mean mg mb h₀) (hk : cs.kind = .function)
    (hdp : dp + 18 < recursionLimit) (hun : un + 120 < cLine)
    (ret : ∀ h' tk' t, signAt r p "(" = true → Fr h₀ L h' m → News h₀ L h' ((r.rd, rdO r) :: (r.d, rdD r (p + 1) t) :: rest) → Q .none { s with heap := h', toks := tk' })
    (hexc : signAt r p "(" = false → ∀ e (f : FX) g h' tk', Fr h₀ L g m → Place r p f.u f.v → RaisedD base g (envX cn cs L a ccd cl :: outer) e 65 f.dx (faultL r p tp rest f) h' → g.UpToSlots h' → E (.ref e) { s with heap := h', toks := tk' }) :
    wpAny (model prog w) (Ar none dp un gd cn cs L a ccd cl outer) (call (.ref 267) [.ref r.rd, .str "(" tk] []) Q E s := by
  w_on
  refine wpAny_call ?_
  k_dflt (refine' code_def  ?k1 ?k2 ?k3 ?k4 ?k5 ?kA ?kF ?kK ?k6 ?k7 ?k8 ?k9 ?kB ?_ ?c2 ?c3 ?c4 ?c5; (case kA => exact rfl); (case kF => exact rfl); (case kK => assumption); (case k1 => k_asm); (case k2 => k_asm); (case k3 => k_asm); (case k4 => k_asm); (case k5 => k_asm); (case k6 => k_is); (case k7 => k_is); (case k8 => ktr_room); (case k9 => first | exact BindsTo.of_eq rfl | exact binds_K (by k_in) rfl (by k_is) rfl rfl rfl); (case c5 => decide); (case kB => exact locs rfl); (case c2 => exact rfl); (case c3 => exact rfl); (case c4 => exact rfl); k_whole; intro g' L' h' FG' F' N' B' X' T'; (try dsimp only); (try k_fold))
  k_steps
  · exact ret _ _ _ w' (by assumption) (by assumption)
  · exact hexc w' _ _ _ _ _ (by assumption) P' R' U'
set_option maxHeartbeats 4000000 in
theorem c_isNumber {Q E : Value → Shared → Prop}
    (B : Below A₀ base outer h₀) (F : Fr h₀ L s.heap m) (X : (frag.heap_1 w.params).In h₀) (N : News h₀ L s.heap ((r.rd, rdO r) :: (r.d, rdD r p tp) :: rest)) (R : Rdr r rest) (T : Top topProg LS mean mg mb h₀) (hk : cs.kind = .function)
    (hdp : dp + 18 < recursionLimit) (hun : un + 120 < cLine)
    (ret : ∀ h' tk', Fr h₀ L h' m → News h₀ L h' ((r.rd, rdO r) :: (r.d, rdD r p tp) :: rest) → Q (.bool (numAt r p)) { s with heap := h', toks := tk' }) :
    wpAny (model prog w) (Ar none dp un gd cn cs L a ccd cl outer) (call (.ref 274) [.ref r.rd] []) Q E s := by
  w_on
  refine wpAny_call ?_
  k_dflt (refine' code_def  ?k1 ?k2 ?k3 ?k4 ?k5 ?kA ?kF ?kK ?k6 ?k7 ?k8 ?k9 ?kB ?_ ?c2 ?c3 ?c4 ?c5; (case kA => exact rfl); (case kF => exact rfl); (case kK => assumption); (case k1 => k_asm); (case k2 => k_asm); (case k3 => k_asm); (case k4 => k_asm); (case k5 => k_asm); (case k6 => k_is); (case k7 => k_is); (case k8 => ktr_room); (case k9 => first | exact BindsTo.of_eq rfl | exact binds_K (by k_in) rfl (by k_is) rfl rfl rfl); (case c5 => decide); (case kB => exact locs rfl); (case c2 => exact rfl); (case c3 => exact rfl); (case c4 => exact rfl); k_whole; intro g' L' h' FG' F' N' B' X' T'; (try dsimp only); (try k_fold))
  k_steps
  · rw [← numAt_1 (by assumption)]; exact ret _ _ (by assumption) (by assumption)
  · rw [← numAt_2 (by assumption)]; exact ret _ _ (by assumption) (by assumption)
  · rw [show kindAt r (p + 0) "number" = numAt r p from (numAt_3 (by assumption) (by assumption)).symm]; exact ret _ _ (by assumption) (by assumption)
end
end
end
-- D10
section
open PySem PySem.W PySem.Calls PyProof.Rows
set_option pp.deepTerms false
set_option pp.deepTerms.threshold 6
set_option pp.maxSteps 20000
set_option format.width 180
set_option Elab.async false
set_option linter.unusedVariables false
set_option maxRecDepth 100000
section
theorem cutD10 : True := by
  k_with_none
  trivial
theorem reg10 : PySem.Challenge.rw_og0089_01 = PySem.Challenge.rw_og0089_01 ∧ frag.heap_1 = frag.heap_1 := by k_fill; exact ⟨rfl, rfl⟩
noncomputable def takeNames : List Nat → List PySem.Str
  | [] => []
  | i :: t => if (kd i == "word" && !resB (wd i)) = true then wd i :: takeNames t else []
theorem takeNames_yes {r : RX} {p i : Nat} (h : nameAt r p = true) (i1 : r.Rw[p]? = some i) : takeNames (r.Rw.drop p) = wd i :: takeNames (r.Rw.drop (p + 1)) := by
  obtain ⟨hp, e⟩ := List.getElem?_eq_some_iff.mp i1
  rw [List.drop_eq_getElem_cons hp, e, takeNames]
  unfold nameAt at h
  rw [i1] at h
  rw [if_pos h]
theorem takeNames_no {r : RX} {p : Nat} (h : nameAt r p = false) : takeNames (r.Rw.drop p) = [] := by
  cases q : r.Rw[p]? with
  | none => rw [List.drop_eq_nil_of_le (List.getElem?_eq_none_iff.mp q), takeNames]
  | some i =>
    obtain ⟨hp, e⟩ := List.getElem?_eq_some_iff.mp q
    rw [List.drop_eq_getElem_cons hp, e, takeNames]
    unfold nameAt at h
    rw [q] at h
    rw [if_neg (ne_true_of_eq_false h)]
structure NJ (r : RX) (p p' : Nat) (l : List (PySem.Str × Tok)) : Prop where
  at' : p' = p + l.length
  le : p' ≤ r.Rw.length
  run : l.map (·.1) ++ takeNames (r.Rw.drop p') = takeNames (r.Rw.drop p)
theorem NJ.first {r : RX} {p i : Nat} {v : Tok} (h : nameAt r p = true) (i1 : r.Rw[p]? = some i) : NJ r p (p + 1) [(wd i, v)] :=
  ⟨rfl, (List.getElem?_eq_some_iff.mp i1).1, by rw [takeNames_yes h i1]; rfl⟩
theorem NJ.step {r : RX} {p p' i : Nat} {v : Tok} {l : List (PySem.Str × Tok)} (J : NJ r p p' l) (h : nameAt r p' = true) (i1 : r.Rw[p']? = some i) : NJ r p (p' + 1) (l ++ [(wd i, v)]) :=
  ⟨by rw [List.length_append, List.length_singleton, J.at']; omega, (List.getElem?_eq_some_iff.mp i1).1, by rw [List.map_append, List.append_assoc, ← J.run, takeNames_yes h i1]; rfl⟩
theorem NJ.last {r : RX} {p p' : Nat} {l : List (PySem.Str × Tok)} (J : NJ r p p' l) (h : nameAt r p' = false) : l.map (·.1) = takeNames (r.Rw.drop p) := by rw [← J.run, takeNames_no h, List.append_nil]
theorem allLt_at {D : Nat} {l : List (Addr × Obj)} (h : AllLt D l) : ∀ q ∈ l, q.1 ≠ D := by
  induction l with
  | nil => intro q hq; cases hq
  | cons p r ih =>
    intro q hq
    cases hq with
    | head => exact Nat.ne_of_lt h.1
    | tail _ hq => exact ih h.2 q hq
abbrev strL (l : List (PySem.Str × Tok)) (c : Nat) : Obj := listOf (strValues l).toArray c
section
variable {prog : Program} {w : World} {A : Around} {E : Value → Shared → Prop} {s : Shared} {env : Env} {h₀ : Heap} {L : Addr} {Q : Flow → Shared → Prop} {r : RX} {p p1 : Nat} {tp : Tok} {rest : List (Addr × Obj)}
abbrev nLed (r : RX) (p : Nat) (tp : Tok) (D : Addr) (l : List (PySem.Str × Tok)) (c : Nat) (rest : List (Addr × Obj)) : List (Addr × Obj) := (r.rd, rdO r) :: (r.d, rdD r p tp) :: (D, strL l c) :: rest
def NEnd (h₀ : Heap) (L : Addr) (s : Shared) (m₀ : PySem.Str → Option Value) (r : RX) (p : Nat) (D : Addr) (rest : List (Addr × Obj)) (p' : Nat) (s₂ : Shared) : Prop :=
  ∃ h' tk p2 tp2 l2 c2, s₂ = { s with heap := h', toks := tk } ∧ Fr h₀ L h' m₀ ∧ News h₀ L h' (nLed r p2 tp2 D l2 c2 rest) ∧ NJ r p p2 l2 ∧ p2 = p' + 1
def NPost (h₀ : Heap) (L : Addr) (s : Shared) (m₀ : PySem.Str → Option Value) (r : RX) (p : Nat) (D : Addr) (rest : List (Addr × Obj)) (p' : Nat) (Q : Flow → Shared → Prop) (f : Flow) (s₂ : Shared) : Prop :=
  match f with
  | .ret v => Q (.ret v) s₂
  | .brk => Q .next s₂
  | _ => NEnd h₀ L s m₀ r p D rest p' s₂
theorem names_while {D : Addr} {test : Expr} {body : List Stmt} {pos : Pos} {m₀ : PySem.Str → Option Value} {l : List (PySem.Str × Tok)} {c : Nat} (R : Rdr r rest) (hD : r.rd < D ∧ r.d < D ∧ AllLt D rest)
    (F : Fr h₀ L s.heap m₀) (N : News h₀ L s.heap (nLed r p1 tp D l c rest)) (J : NJ r p p1 l)
    (turn : ∀ p' tp' l' c' h tk, NJ r p p' l' → Rdr r ((D, strL l' c') :: rest) → Fr h₀ L h m₀ → News h₀ L h (nLed r p' tp' D l' c' rest) →
      wpAny (model prog w) A (isTrue test env (eval test env)) (fun b s₂ =>
        if b = true then wpAny (model prog w) A (execs body env) (NPost h₀ L s m₀ r p D rest p' Q) E s₂ else Q .next s₂) E { s with heap := h, toks := tk })
    (hE : PassesOwn (model prog w) A env E := by passes_own) :
    wpAny (model prog w) A (exec (.While test body [] pos) env) Q E s := by
  have h1 : D ≠ r.rd := Ne.symm (Nat.ne_of_lt hD.1)
  have h2 : D ≠ r.d := Ne.symm (Nat.ne_of_lt hD.2.1)
  refine While_inv2 (fun n m nx => m = m₀ ∧ ∃ p' tp' l' c', nx = nLed r p' tp' D l' c' rest ∧ NJ r p p' l' ∧ n = r.Rw.length - p') F N ⟨rfl, _, _, _, _, rfl, J, rfl⟩ ?_ hE
  rintro n m₁ nx h tk F₁ N₁ ⟨rfl, p', tp', l', c', rfl, J', rfl⟩
  refine wpAny_mono (turn p' tp' l' c' h tk J' (R.more (q := (D, strL l' c')) h1 h2) F₁ N₁) (fun b s₂ q => ?_) fun _ _ x => x
  cases b with
  | false => simpa using q
  | true =>
    simp only [if_true] at q ⊢
    refine wpAny_mono q (fun f s₃ q => ?_) fun _ _ x => x
    have fin : NEnd h₀ L s m₁ r p D rest p' s₃ → ∃ h' tk' m' nx' n', s₃ = { s with heap := h', toks := tk' } ∧ Fr h₀ L h' m' ∧ News h₀ L h' nx' ∧ n' < r.Rw.length - p' ∧ (m' = m₁ ∧ ∃ p' tp' l' c', nx' = nLed r p' tp' D l' c' rest ∧ NJ r p p' l' ∧ n' = r.Rw.length - p') := by
      rintro ⟨h', tk', p2, tp2, l2, c2, rfl, F', N', J2, rfl⟩
      exact ⟨h', tk', m₁, _, _, rfl, F', N', by have := J2.le; omega, rfl, _, _, _, _, rfl, J2, rfl⟩
    cases f with
    | ret v => exact q
    | brk => exact q
    | next => exact fin q
    | cont => exact fin q
end
section
variable {prog : Program} {w : World} {A : Around} {E : Value → Shared → Prop} {s : Shared} {h₀ : Heap} {L : Addr} {m : PySem.Str → Option Value} {r : RX} {p p' : Nat} {tp : Tok} {rest : List (Addr × Obj)} {Q : Value → Shared → Prop}
theorem names_app {D : Addr} {l : List (PySem.Str × Tok)} {c : Nat} {x : PySem.Str} {t : Tok} {p0 : Nat} (J : NJ r p0 p l) (R : Rdr r ((D, strL l c) :: rest)) (hD : r.rd < D ∧ r.d < D ∧ AllLt D rest)
    (F : Fr h₀ L s.heap m) (N : News h₀ L s.heap (nLed r p' tp D l c rest)) (h : ∀ h', Fr h₀ L h' m → News h₀ L h' (nLed r p' tp D (l ++ [(x, t)]) (c + 1) rest) → Q .none { s with heap := h' }) :
    wpAny (model prog w) A (call (.builtin "list.append") [.ref D, .str x t]) Q E s := by
  refine append_K F N (.tail (Nat.ne_of_lt hD.1) (.tail (Nat.ne_of_lt hD.2.1) (.head (allLt_at hD.2.2)))) (fun h' F' N' => h h' F' ?_) ?_
  · have e : strL (l ++ [(x, t)]) (c + 1) = listOf ((strValues l).toArray.push (.str x t)) (c + 1) := by
      unfold strL
      congr 1
      rw [List.push_toArray]
      congr 1
      unfold strValues
      rw [List.map_append]; rfl
    unfold nLed
    rw [e]; exact N'
  · have := J.le; have := J.at'; have := R.few
    rw [List.size_toArray]; unfold strValues; rw [List.length_map, sizeLine_eq]; omega
end
theorem lines10 : True := by
  k_with "call ref" => (k_dflt (refine' c_fault ?k1 ?k2 ?k3 ?k4 ?kR ?k5 ?k6 ?k7 ?k8  (fun e' f' b' h' tk' P' F' N' ne' => ?_); (case kR => assumption); (case k1 => k_asm); (case k2 => k_asm); (case k3 => k_in); (case k4 => first | k_asm | exact newsSub (by assumption) (by kcf_all)); (case k5 => k_asm); (case k6 => first | rfl | assumption); (case k7 => ktr_room); (case k8 => ktr_units)))
  k_with "exec Raise some none" => (k_dflt (refine raise_made (C := 65) (by rfl) ?_))
  k_with "RaisesMade" => (k_dflt (refine ⟨_, _, _, rfl, (News.get (by k_asm) (by k_mem)), rfl, rfl, rfl, excCls65 (by k_in), ?_⟩))
  k_with "leaving ref" => (first | (k_dflt (refine' leaveD_first ?k1 ?k2 ?k3 ?k4 ?_; (case k1 => assumption); (case k2 => assumption); (case k3 => k_asm); (case k4 => k_asm)); k_whole; intro h' R' U'; (try dsimp only at R' U' ⊢)) | (k_dflt (refine' leaveD_on ?k1 ?k2 ?k3 ?k4 ?_; (case k3 => assumption); (case k1 => assumption); (case k4 => assumption); (case k2 => assumption)); k_whole; intro h' R' U'; (try dsimp only at R' U' ⊢)))
  k_with "call ref" => (k_dflt (refine' c_name ?k1 ?k2 ?k3 ?k4 ?kR ?k5 ?k6 ?k7 ?k8 (fun i' v' h' tk' t' n' i1' F' N' => ?_) (fun n' e' f' g' h' tk' FG' P' R' U' => ?_); (case kR => assumption); (case k1 => k_asm); (case k2 => k_asm); (case k3 => k_in); (case k4 => first | k_asm | exact newsSub (by assumption) (by kcf_all)); (case k5 => k_asm); (case k6 => first | rfl | assumption); (case k7 => ktr_room); (case k8 => ktr_units)))
  k_with "call ref" => (k_dflt (refine' c_name ?k1 ?k2 ?k3 ?k4 ?kR ?k5 ?k6 ?k7 ?k8 (fun i' v' h' tk' t' n' i1' F' N' => ?_) ?kN; (case kR => assumption); (case k1 => k_asm); (case k2 => k_asm); (case k3 => k_in); (case k4 => first | k_asm | exact newsSub (by assumption) (by kcf_all)); (case k5 => k_asm); (case k6 => first | rfl | assumption); (case k7 => ktr_room); (case k8 => ktr_units); (case kN => (intro n'; exact absurd ((by assumption : nameAt r _ = true).symm.trans n') (by decide)))))
  k_with "exec While" => ((with_unfolding_all refine' names_while ?k1 ?k2 ?k3 ?k4 ?k5 ?_ ?kE); (case k1 => assumption); (case k5 => exact NJ.first (v := v') n' i1'); (case k2 => assumption); (case k3 => k_asm); (case k4 => exact newsSub (by assumption) (by kcf_all)); (case kE => passes_own); intro p' tp' l' c' h' tk' J' R' F' N')
  k_with "call builtin:list.append" => (k_dflt (refine' names_app ?k1 ?k2 ?k3 ?k4 ?k5 ?_; (case k1 => assumption); (case k2 => assumption); (case k3 => assumption); (case k4 => k_asm); (case k5 => k_asm)); intro h' F' N')
  k_with "NPost" => (dsimp only [NPost])
  k_with "NEnd" => (exact ⟨_, _, _, _, _, _, rfl, by assumption, by assumption, NJ.step (by assumption) (by assumption) (by assumption), rfl⟩)
  k_with "call ref" => (k_dflt (refine' c_isName ?k1 ?k2 ?k3 ?k4 ?kR ?k5 ?k6 ?k7 ?k8  (fun h' tk' F' N' => ?_); (case kR => assumption); (case k1 => k_asm); (case k2 => k_asm); (case k3 => k_in); (case k4 => first | k_asm | exact newsSub (by assumption) (by kcf_all)); (case k5 => k_asm); (case k6 => first | rfl | assumption); (case k7 => ktr_room); (case k8 => ktr_units)))
  trivial
section
variable {w : World} {mean : ExcName → Option Value} {mg mb : PySem.Str → Option Value} {hd : Option Value} {dp un : Nat} {gd : Option (List Code)} {cn : PySem.Str} {cs : Scope} {a : Addr} {ccd : Value} {cl : List (PySem.Str × Addr)} {outer : List Env} {A₀ : Around} {base h₀ : Heap} {L : Addr} {m : PySem.Str → Option Value} {rest : List (Addr × Obj)} {s : Shared} {r : RX} {p : Nat} {tp : Tok}
set_option maxHeartbeats 4000000 in
theorem c_names {Q E : Value → Shared → Prop}
    (B : Below A₀ base outer h₀) (F : Fr h₀ L s.heap m) (X : (frag.heap_1 w.params).In h₀) (N : News h₀ L s.heap ((r.rd, rdO r) :: (r.d, rdD r p tp) :: rest)) (R : Rdr r rest) (T : Top topProg LS mean mg mb h₀) (hk : cs.kind = .function)
    (hdp : dp + 22 < recursionLimit) (hun : un + 160 < cLine)
    (ret : ∀ D l c h' tk' p' t, nameAt r p = true → NJ r p p' l → l.map (·.1) = takeNames (r.Rw.drop p) → Fr h₀ L h' m → News h₀ L h' (nLed r p' t D l c rest) → Q (.ref D) { s with heap := h', toks := tk' })
    (hexc : nameAt r p = false → ∀ e (f : FX) g h' tk', Fr h₀ L g m → Place r p f.u f.v → RaisedD base g (envX cn cs L a ccd cl :: outer) e 65 f.dx (faultL r p tp rest f) h' → g.UpToSlots h' → E (.ref e) { s with heap := h', toks := tk' }) :
    wpAny (model prog w) (Ar none dp un gd cn cs L a ccd cl outer) (call (.ref 245) [.ref r.rd] []) Q E s := by
  w_on
  refine wpAny_call ?_
  k_dflt (refine' code_def  ?k1 ?k2 ?k3 ?k4 ?k5 ?kA ?kF ?kK ?k6 ?k7 ?k8 ?k9 ?kB ?_ ?c2 ?c3 ?c4 ?c5; (case kA => exact rfl); (case kF => exact rfl); (case kK => assumption); (case k1 => k_asm); (case k2 => k_asm); (case k3 => k_asm); (case k4 => k_asm); (case k5 => k_asm); (case k6 => k_is); (case k7 => k_is); (case k8 => ktr_room); (case k9 => first | exact BindsTo.of_eq rfl | exact binds_K (by k_in) rfl (by k_is) rfl rfl rfl); (case c5 => decide); (case kB => exact locs rfl); (case c2 => exact rfl); (case c3 => exact rfl); (case c4 => exact rfl); k_whole; intro g' L' h' FG' F' N' B' X' T'; (try dsimp only); (try k_fold))
  k_steps
  · exact ret _ _ _ _ _ _ _ n' J' (J'.last (by assumption)) (by assumption) (by assumption)
  · exact hexc n' _ _ _ _ _ (by assumption) P' R' U'
end
end
end
-- D11
section
open PySem PySem.W PySem.Calls PyProof.Rows
set_option pp.deepTerms false
set_option pp.deepTerms.threshold 6
set_option pp.maxSteps 20000
set_option format.width 180
set_option Elab.async false
set_option linter.unusedVariables false
set_option maxRecDepth 100000
section
theorem cutD11 : True := by
  k_with_none
  trivial
theorem reg11 : PySem.Challenge.rw_og0089_01 = PySem.Challenge.rw_og0089_01 ∧ frag.heap_1 = frag.heap_1 := by k_fill; exact ⟨rfl, rfl⟩
/-! The code points of a text, as a list. -/
abbrev ordsOf (x : PySem.Str) : List Int := x.cps.toList.map fun c : Nat => (c : Int)
def OrdEl (news : List (Addr × Obj)) (c : Nat) (y : Value) (news' : List (Addr × Obj)) : Prop := news' = news ∧ ∃ t, y = .int (c : Int) t
theorem OrdEl.intro {news : List (Addr × Obj)} {c : Nat} {t : Tok} : OrdEl news c (.int (c : Int) t) news := ⟨rfl, t, rfl⟩
theorem ints_snoc {n : Int} {t : Tok} : ∀ {vs : List Value} {ns : List Int}, IntsAre vs ns → IntsAre (vs ++ [.int n t]) (ns ++ [n])
  | _, _, .nil => .cons n t .nil
  | _, _, .cons z u r => .cons z u (ints_snoc r)
section
open LCg
variable {prog : Program} {w : World} {A : Around} {h₀ : Heap} {L : Addr} {m : PySem.Str → Option Value} {env : Env} {elt : Expr} {x : PySem.Str} {scope : Scope} {cl : List (PySem.Str × Addr)} {s : Shared} {Fin : List Value → List (Addr × Obj) → Prop} {news : List (Addr × Obj)}
theorem ords_rest {x0 : PySem.Str}
    (turn : ∀ c u I oI C oC D m₂ ys h tk (E' : Value → Shared → Prop), NsObj oC m₂ → m₂ x = some (.str ⟨#[c]⟩ u) → Fr h₀ L h m → News h₀ L h ((I, oI) :: (C, oC) :: (D, lst ys) :: news) → Off3 I C D news → ((@Ne Nat I C) ∧ (@Ne Nat I D) ∧ (@Ne Nat C D)) →
      wpAny (model prog w) A (eval elt (compEnvC scope cl C env)) (CompEnd h₀ L m { s with heap := h, toks := tk } I oI C oC D (lst ys) (fun _ => True) (fun y news' => OrdEl news c y news')) E' { s with heap := h, toks := tk })
    (fin : ∀ ys, IntsAre ys (ordsOf x0) → Fin ys news) : CompRest prog w A h₀ L m env elt x scope cl s (fun _ => True) (SignAt x0) Fin x0.cps.size 0 [] news := by
  have key : ∀ (j i : Nat) (ys : List Value), i + j = x0.cps.size → IntsAre ys ((x0.cps.toList.take i).map fun c : Nat => (c : Int)) → CompRest prog w A h₀ L m env elt x scope cl s (fun _ => True) (SignAt x0) Fin j i ys news := by
    intro j
    induction j with
    | zero =>
      intro i ys hi hy
      have e : i = x0.cps.toList.length := by rw [Array.length_toList]; omega
      subst e
      rw [List.take_length] at hy
      exact CompRest.zero (fin ys hy)
    | succ j ih =>
      intro i ys hi hy
      refine CompRest.succ ?_
      intro v I oI C oC D m₂ h tk E' hv hC hx F N off ne
      obtain ⟨c, u, hc, rfl⟩ := hv
      refine wpAny_mono (turn c u I oI C oC D m₂ ys h tk E' hC hx F N off ne) (fun y s₂ hq => ?_) fun _ _ e => e
      obtain ⟨h', tk', nw, e, F', N', off', hS, rfl, t', rfl⟩ := hq
      refine ⟨h', tk', _, e, F', N', off', hS, ih (i + 1) _ (by omega) ?_⟩
      have hl : x0.cps.toList[i]? = some c := by rw [Array.getElem?_toList]; exact hc
      rw [List.take_add_one, hl, List.map_append]
      exact ints_snoc hy
  exact key _ 0 [] (by omega) (by simp only [List.take_zero, List.map_nil]; exact .nil)
end
theorem compEnd_same {h₀ : Heap} {L I C D : Addr} {m : PySem.Str → Option Value} {s₁ : Shared} {oI oC oD : Obj} {S : List (Addr × Obj) → Prop} {more : Value → List (Addr × Obj) → Prop} {y : Value} {h' : Heap} {tk : Nat} {news : List (Addr × Obj)}
    (F : Fr h₀ L h' m) (N : News h₀ L h' ((I, oI) :: (C, oC) :: (D, oD) :: news)) (off : LCg.Off3 I C D news) (hS : S news) (r : more y news) :
    LCg.CompEnd h₀ L m s₁ I oI C oC D oD S more y { s₁ with heap := h', toks := tk } := LCg.CompEnd.intro F N news (fun _ hp => hp) off hS r
def TestEl (news : List (Addr × Obj)) (k : Int) (y : Value) (news' : List (Addr × Obj)) : Prop := news' = news ∧ (∃ t, y = .int k t) ∧ 255 < k
def TestNo (news : List (Addr × Obj)) (k : Int) (news' : List (Addr × Obj)) : Prop := news' = news ∧ ¬ 255 < k
theorem TestEl.intro {news : List (Addr × Obj)} {k : Int} {t : Tok} (h : 255 < k) : TestEl news k (.int k t) news := ⟨rfl, ⟨t, rfl⟩, h⟩
theorem TestNo.intro {news : List (Addr × Obj)} {k : Int} (h : ¬ 255 < k) : TestNo news k news := ⟨rfl, h⟩
section
open LCg LCt
variable {prog : Program} {w : World} {A : Around} {h₀ : Heap} {L : Addr} {m : PySem.Str → Option Value} {env : Env} {ct elt : Expr} {x : PySem.Str} {scope : Scope} {cl : List (PySem.Str × Addr)} {s : Shared} {Fin : List Value → List (Addr × Obj) → Prop} {news : List (Addr × Obj)} {S : List (Addr × Obj) → Prop}
theorem big_rest {vs : List Value} {ns : List Int} (hi : IntsAre vs ns)
    (turn : ∀ k t I oI C oC D m₂ ys h tk (E' : Value → Shared → Prop), NsObj oC m₂ → m₂ x = some (.int k t) → Fr h₀ L h m → News h₀ L h ((I, oI) :: (C, oC) :: (D, lst ys) :: news) → Off3 I C D news → ((@Ne Nat I C) ∧ (@Ne Nat I D) ∧ (@Ne Nat C D)) →
      wpAny (model prog w) A (isTrue ct (compEnvC scope cl C env) (eval ct (compEnvC scope cl C env))) (fun ok s' => if ok = true then
        wpAny (model prog w) A (eval elt (compEnvC scope cl C env)) (CompEnd h₀ L m { s with heap := h, toks := tk } I oI C oC D (lst ys) S (fun y news' => TestEl news k y news')) E' s'
        else CompEnd h₀ L m { s with heap := h, toks := tk } I oI C oC D (lst ys) S (fun _ news' => TestNo news k news') Value.none s') E' { s with heap := h, toks := tk })
    (fin : ∀ ys, IntsAre ys (ns.filter fun k => decide (255 < k)) → Fin ys news) : CompRestT prog w A h₀ L m env ct elt x scope cl s S (fun i v => vs.toArray[i]? = some v) Fin vs.toArray.size 0 [] news := by
  have key : ∀ (j i : Nat) (ys : List Value), i + j = ns.length → IntsAre ys ((ns.take i).filter fun k => decide (255 < k)) → CompRestT prog w A h₀ L m env ct elt x scope cl s S (fun i v => vs.toArray[i]? = some v) Fin j i ys news := by
    intro j
    induction j with
    | zero =>
      intro i ys hi' hy
      have e : i = ns.length := by omega
      subst e
      rw [List.take_length] at hy
      exact CompRestT.zero (fin ys hy)
    | succ j ih =>
      intro i ys hi' hy
      refine CompRestT.succ ?_
      intro v I oI C oC D m₂ h tk E' hv hC hx F N off ne
      obtain ⟨k, t, e, hk⟩ := IntsAre.at hi i v (by simpa using hv)
      subst e
      refine wpAny_mono (turn k t I oI C oC D m₂ ys h tk E' hC hx F N off ne) (fun ok s₂ hq => ?_) fun _ _ e => e
      cases ok with
      | true =>
        rw [if_pos rfl] at hq ⊢
        refine wpAny_mono hq (fun y s₃ hq => ?_) fun _ _ e => e
        obtain ⟨h', tk', nw, e, F', N', off', hS, rfl, ⟨t', rfl⟩, hb⟩ := hq
        refine ⟨h', tk', _, e, F', N', off', hS, ih (i + 1) _ (by omega) ?_⟩
        rw [List.take_add_one, hk, List.filter_append]
        simpa [hb] using ints_snoc hy
      | false =>
        rw [if_neg Bool.false_ne_true] at hq ⊢
        obtain ⟨h', tk', nw, e, F', N', off', hS, rfl, hb⟩ := hq
        refine ⟨h', tk', _, e, F', N', off', hS, ih (i + 1) _ (by omega) ?_⟩
        rw [List.take_add_one, hk, List.filter_append]
        simpa [hb] using hy
  rw [List.size_toArray, hi.length]
  exact key _ 0 [] (by omega) (by simp only [List.take_zero, List.filter_nil]; exact .nil)
end
theorem ints_few {vs : List Value} {x : PySem.Str} (hi : IntsAre vs (ordsOf x)) (hx : x.length ≤ 1000) : vs.toArray.size ≤ sizeLine := by
  rw [List.size_toArray, hi.length, List.length_map, Array.length_toList, sizeLine_eq]
  exact Nat.le_trans hx (by decide)
theorem ints_lt {vs : List Value} {x : PySem.Str} {c : Int → Bool} (hi : IntsAre vs ((ordsOf x).filter c)) (hx : x.length ≤ 1000) : vs.length < 2 ^ 62 := by
  rw [hi.length]
  refine Nat.lt_of_le_of_lt (List.length_filter_le _ _) ?_
  rw [List.length_map, Array.length_toList]
  exact Nat.lt_of_le_of_lt hx (by decide)
theorem ints_few2 {vs : List Value} {x : PySem.Str} (hi : IntsAre vs (ordsOf x)) (hx : x.length ≤ 1000) : vs.length ≤ sizeLine := by
  have := ints_few hi hx
  rwa [List.size_toArray] at this
noncomputable def smallB (x : PySem.Str) : Bool := (ordsOf x).all fun k => decide (k < 256)
noncomputable def octOf (x : PySem.Str) : Array UInt8 := ((ordsOf x).map fun n => n.toNat.toUInt8).toArray
theorem small_yes {x : PySem.Str} {ys : List Value} (hi : IntsAre ys ((ordsOf x).filter fun k => decide (255 < k))) (he : ys.isEmpty = true) : smallB x = true := by
  have h0 : ((ordsOf x).filter fun k => decide (255 < k)).length = 0 := by rw [← hi.length, List.isEmpty_iff.mp he]; rfl
  have h1 := List.length_eq_zero_iff.mp h0
  rw [List.filter_eq_nil_iff] at h1
  unfold smallB
  rw [List.all_eq_true]
  intro k hk
  have := h1 k hk
  rw [decide_eq_true_eq] at this ⊢
  omega
theorem small_no {x : PySem.Str} {ys : List Value} (hi : IntsAre ys ((ordsOf x).filter fun k => decide (255 < k))) (he : ys.isEmpty = false) : smallB x = false := by
  cases q : smallB x with
  | false => rfl
  | true =>
    unfold smallB at q
    rw [List.all_eq_true] at q
    have h1 : ((ordsOf x).filter fun k => decide (255 < k)) = [] := by
      rw [List.filter_eq_nil_iff]
      intro k hk
      have := q k hk
      rw [decide_eq_true_eq] at this ⊢
      omega
    rw [h1] at hi
    have := hi.length
    cases ys with
    | nil => cases he
    | cons a l => cases this
theorem ords_small {x : PySem.Str} {ys : List Value} (hi : IntsAre ys ((ordsOf x).filter fun k => decide (255 < k))) (he : ys.isEmpty = true) : ∀ n ∈ ordsOf x, 0 ≤ n ∧ n < 256 := by
  have h := small_yes hi he
  unfold smallB at h
  rw [List.all_eq_true] at h
  intro n hn
  have := h n hn
  rw [decide_eq_true_eq] at this
  obtain ⟨c, _, rfl⟩ := List.mem_map.mp hn
  exact ⟨Int.natCast_nonneg c, this⟩
theorem lines11 : True := by
  k_with "exec Assign cons ListComp" => (k_dflt (refine Assign_ListComp_S (F₀ := by k_asm) (by rfl) (by with_unfolding_all rfl) (by with_unfolding_all rfl) (by decide) (by rfl) (by decide) (by rfl) (by rfl) (by rfl) ?_))
  k_with "eval ListComp" => (k_dflt (refine ListComp_S (F₀ := by k_asm) (by with_unfolding_all rfl) (by decide) (by rfl) (by decide) (by rfl) ?_))
  k_with "SrcS" => (k_dflt (refine' SrcS.intro ?k1 ?k2 ?k3 ?k4 ?_; (case k1 => rfl); (case k2 => k_asm); (case k3 => k_asm); (case k4 => first | assumption | exact wd_len _)); intro g'; (refine' ords_rest (fun c' u' I' oI' C' oC' D' m' ys' h' tk' E' hC' hx' F' N' off' ne' => ?_) (fun ys' hI' => ?_)))
  k_with "CompEnd" => (k_dflt (refine' compEnd_same ?k1 ?k2 ?k4 ?k5 ?_; (case k1 => assumption); (case k2 => assumption); (case k4 => assumption); (case k5 => first | exact True.intro | exact .inr ⟨_, by k_mem, rfl, _, rfl⟩)))
  k_with "OrdEl" => (k_dflt (exact OrdEl.intro))
  k_with "eval ListComp" => (k_dflt (refine LCt.ListComp_T (F₀ := by k_asm) (by with_unfolding_all rfl) (by decide) (by rfl) (by decide) (by rfl) ?_))
  k_with "CompSrcT" => (k_dflt (refine' LCt.CompSrcT.ledger ?k1 ?k2 ?k3 ?k4 ?k5 ?_; (case k1 => rfl); (case k2 => k_asm); (case k3 => k_asm); (case k4 => k_mem); (case k5 => exact ints_few (by assumption) (by first | assumption | exact wd_len _))); intro g'; (refine' big_rest (by assumption) (fun k' t' I' oI' C' oC' D' m' ys' h' tk' E' hC' hx' F' N' off' ne' => ?_) (fun ys' hI' => ?_)))
  k_with "TestEl" => (k_dflt (exact TestEl.intro (by omega)))
  k_with "TestNo" => (k_dflt (exact TestNo.intro (by omega)))
  k_with "truthy ref" => ((with_reducible show wpAny _ _ (truthy (Value.ref _)) _ _ _); k_dflt (refine' kgr_truthy ?N ?m ?c ?d ?f ?_; (case N => k_asm); (case m => k_mem); (case c => rfl); (case d => rfl); (case f => exact ints_lt (by assumption) (by first | assumption | exact wd_len _))))
  k_with "call type:bytes" => (k_dflt (refine' bytes_K ?F ?N ?l ?i ?r ?z ?h ?_; (case F => k_asm); (case N => k_asm); (case l => exact ⟨_, News.get (by k_asm) (by k_mem), rfl, _, rfl⟩); (case i => assumption); (case r => exact ords_small (by assumption) (by assumption)); (case z => exact ints_few2 (by assumption) (by first | assumption | exact wd_len _)); (case h => rfl)); intro h' t' k' F' N' hB')
  trivial
section
variable {w : World} {mean : ExcName → Option Value} {mg mb : PySem.Str → Option Value} {hd : Option Value} {dp un : Nat} {gd : Option (List Code)} {cn : PySem.Str} {cs : Scope} {a : Addr} {ccd : Value} {cl : List (PySem.Str × Addr)} {outer : List Env} {A₀ : Around} {base h₀ : Heap} {L : Addr} {m : PySem.Str → Option Value} {news : List (Addr × Obj)} {s : Shared}
set_option maxHeartbeats 4000000 in
theorem c_octetsOf {x : PySem.Str} {tk : Tok} {Q E : Value → Shared → Prop}
    (B : Below A₀ base outer h₀) (F : Fr h₀ L s.heap m) (X : (frag.heap_1 w.params).In h₀) (N : News h₀ L s.heap news) (T : Top topProg LS mean mg mb h₀) (hk : cs.kind = .function)
    (hdp : dp + 8 < recursionLimit) (hun : un + 40 < cLine) (hx : x.length ≤ 1000)
    (retB : ∀ h' tk' t, smallB x = true → Fr h₀ L h' m → News h₀ L h' news → Q (.bytes (octOf x) t) { s with heap := h', toks := tk' })
    (retN : ∀ h' tk', smallB x = false → Fr h₀ L h' m → News h₀ L h' news → Q .none { s with heap := h', toks := tk' }) :
    wpAny (model prog w) (Ar none dp un gd cn cs L a ccd cl outer) (call (.ref 136) [.str x tk] []) Q E s := by
  w_on
  refine wpAny_call ?_
  k_dflt (refine' code_def  ?k1 ?k2 ?k3 ?k4 ?k5 ?kA ?kF ?kK ?k6 ?k7 ?k8 ?k9 ?kB ?_ ?c2 ?c3 ?c4 ?c5; (case kA => exact rfl); (case kF => exact rfl); (case kK => assumption); (case k1 => k_asm); (case k2 => k_asm); (case k3 => k_asm); (case k4 => k_asm); (case k5 => k_asm); (case k6 => k_is); (case k7 => k_is); (case k8 => ktr_room); (case k9 => first | exact BindsTo.of_eq rfl | exact binds_K (by k_in) rfl (by k_is) rfl rfl rfl); (case c5 => decide); (case kB => exact locs rfl); (case c2 => exact rfl); (case c3 => exact rfl); (case c4 => exact rfl); k_whole; intro g' L' h' FG' F' N' B' X' T'; (try dsimp only); (try k_fold))
  k_steps
  · exact retB _ _ _ (small_yes (by assumption) (by assumption)) (by assumption) (newsSub (by assumption) (by kcf_all))
  · exact retN _ _ (small_no (by assumption) (by assumption)) (by assumption) (newsSub (by assumption) (by kcf_all))
theorem lines11b : True := by
  k_with "getAttr ref" => ((with_reducible (refine' tok_kind ?k1 ?k2 ?k3 ?k4 ?k5 ?k6 ?_)); (case k5 => assumption); (case k1 => k_asm); (case k2 => k_in); (case k3 => k_asm); (case k4 => (intro q hq; repeat (first | exact hq | apply List.mem_cons_of_mem))); (case k6 => assumption); intro t')
  k_with "getAttr ref" => ((with_reducible (refine' tok_worth ?k1 ?k2 ?k3 ?k4 ?k5 ?k6 ?_)); (case k5 => assumption); (case k1 => k_asm); (case k2 => k_in); (case k3 => k_asm); (case k4 => (intro q hq; repeat (first | exact hq | apply List.mem_cons_of_mem))); (case k6 => assumption); intro t')
  k_with "getAttr ref" => ((with_reducible (refine' tok_at ?k1 ?k2 ?k3 ?k4 ?k5 ?k6 ?_)); (case k5 => assumption); (case k1 => k_asm); (case k2 => k_in); (case k3 => k_asm); (case k4 => (intro q hq; repeat (first | exact hq | apply List.mem_cons_of_mem))); (case k6 => assumption))
  k_with "call ref" => (k_dflt (refine' c_peek ?k1 ?k2 ?k3 ?k4 ?kR ?k5 ?k6 ?k7 ?k8 ?kp (fun i' h' tk' i1' F' N' => ?_) (fun h' tk' i1' F' N' => ?_); (case kR => assumption); (case k1 => k_asm); (case k2 => k_asm); (case k3 => k_in); (case k4 => first | k_asm | exact newsSub (by assumption) (by kcf_all)); (case k5 => k_asm); (case k6 => first | rfl | assumption); (case k7 => ktr_room); (case k8 => ktr_units); (case kp => first | exact .inl ⟨rfl, rfl, rfl⟩ | exact .inr rfl)))
  k_with "call ref" => (k_dflt (refine' c_peek ?k1 ?k2 ?k3 ?k4 ?kR ?k5 ?k6 ?k7 ?k8 ?kp (fun i' h' tk' i1' F' N' => ?_) ?kN; (case kR => assumption); (case k1 => k_asm); (case k2 => k_asm); (case k3 => k_in); (case k4 => first | k_asm | exact newsSub (by assumption) (by kcf_all)); (case k5 => k_asm); (case k6 => first | rfl | assumption); (case k7 => ktr_room); (case k8 => ktr_units); (case kp => first | exact .inl ⟨rfl, rfl, rfl⟩ | exact .inr rfl); (case kN => (intro h' tk' i1' F' N'; exact peek_no i1' (by assumption)))))
  k_with "call ref" => (k_dflt (refine' c_isKind ?k1 ?k2 ?k3 ?k4 ?kR ?k5 ?k6 ?k7 ?k8 ?kp (fun h' tk' F' N' => ?_); (case kR => assumption); (case k1 => k_asm); (case k2 => k_asm); (case k3 => k_in); (case k4 => first | k_asm | exact newsSub (by assumption) (by kcf_all)); (case k5 => k_asm); (case k6 => first | rfl | assumption); (case k7 => ktr_room); (case k8 => ktr_units); (case kp => first | exact .inl ⟨rfl, rfl, rfl⟩ | exact .inr rfl)))
  k_with "call ref" => (k_dflt (refine' c_fault ?k1 ?k2 ?k3 ?k4 ?kR ?k5 ?k6 ?k7 ?k8  (fun e' f' b' h' tk' P' F' N' ne' => ?_); (case kR => assumption); (case k1 => k_asm); (case k2 => k_asm); (case k3 => k_in); (case k4 => first | k_asm | exact newsSub (by assumption) (by kcf_all)); (case k5 => k_asm); (case k6 => first | rfl | assumption); (case k7 => ktr_room); (case k8 => ktr_units)))
  k_with "exec Raise some none" => (k_dflt (refine raise_made (C := 65) (by rfl) ?_))
  k_with "RaisesMade" => (k_dflt (refine ⟨_, _, _, rfl, (News.get (by k_asm) (by k_mem)), rfl, rfl, rfl, excCls65 (by k_in), ?_⟩))
  k_with "leaving ref" => (first | (k_dflt (refine' leaveD_first ?k1 ?k2 ?k3 ?k4 ?_; (case k1 => assumption); (case k2 => assumption); (case k3 => k_asm); (case k4 => k_asm)); k_whole; intro h' R' U'; (try dsimp only at R' U' ⊢)) | (k_dflt (refine' leaveD_on ?k1 ?k2 ?k3 ?k4 ?_; (case k3 => assumption); (case k1 => assumption); (case k4 => assumption); (case k2 => assumption)); k_whole; intro h' R' U'; (try dsimp only at R' U' ⊢)))
  k_with "setAttr ref" => (k_dflt (refine' set_at (p + 1) ?k1 ?k2 ?k3 ?k4 ?k5 ?_; (case k4 => assumption); (case k1 => k_asm); (case k2 => k_in); (case k3 => first | k_asm | exact newsSub (by assumption) (by kcf_all)); (case k5 => first | rfl | omega)); intro h' tk' F' N')
  k_with "call ref" => (k_dflt (refine' c_octetsOf ?k1 ?k2 ?k3 ?k4 ?k5 ?k6 ?k7 ?k8 ?k9 (fun h' tk' t' s' F' N' => ?_) (fun h' tk' s' F' N' => ?_); (case k1 => k_asm); (case k2 => k_asm); (case k3 => k_in); (case k4 => k_asm); (case k5 => k_asm); (case k6 => first | rfl | assumption); (case k7 => ktr_room); (case k8 => ktr_units); (case k9 => first | exact wd_len _ | assumption | omega)))
  trivial
section
variable {w : World} {mean : ExcName → Option Value} {mg mb : PySem.Str → Option Value} {hd : Option Value} {dp un : Nat} {gd : Option (List Code)} {cn : PySem.Str} {cs : Scope} {a : Addr} {ccd : Value} {cl : List (PySem.Str × Addr)} {outer : List Env} {A₀ : Around} {base h₀ : Heap} {L : Addr} {m : PySem.Str → Option Value} {rest : List (Addr × Obj)} {s : Shared} {r : RX} {p : Nat} {tp : Tok}
set_option maxHeartbeats 4000000 in
theorem c_octets {Q E : Value → Shared → Prop}
    (B : Below A₀ base outer h₀) (F : Fr h₀ L s.heap m) (X : (frag.heap_1 w.params).In h₀) (N : News h₀ L s.heap ((r.rd, rdO r) :: (r.d, rdD r p tp) :: rest)) (R : Rdr r rest) (T : Top topProg LS mean mg mb h₀) (hk : cs.kind = .function)
    (hdp : dp + 18 < recursionLimit) (hun : un + 120 < cLine)
    (ret : ∀ i v h' tk' t, kindAt r p "literal" = true → r.Rw[p]? = some i → smallB (wd i) = true → Fr h₀ L h' m → News h₀ L h' ((r.rd, rdO r) :: (r.d, rdD r (p + 1) t) :: rest) → Q (.bytes (octOf (wd i)) v) { s with heap := h', toks := tk' })
    (hexc : (kindAt r p "literal" = false ∨ ∃ i, r.Rw[p]? = some i ∧ smallB (wd i) = false) → ∀ e (f : FX) g h' tk', Fr h₀ L g m → Place r p f.u f.v → RaisedD base g (envX cn cs L a ccd cl :: outer) e 65 f.dx (faultL r p tp rest f) h' → g.UpToSlots h' → E (.ref e) { s with heap := h', toks := tk' }) :
    wpAny (model prog w) (Ar none dp un gd cn cs L a ccd cl outer) (call (.ref 302) [.ref r.rd] []) Q E s := by
  w_on
  refine wpAny_call ?_
  k_dflt (refine' code_def  ?k1 ?k2 ?k3 ?k4 ?k5 ?kA ?kF ?kK ?k6 ?k7 ?k8 ?k9 ?kB ?_ ?c2 ?c3 ?c4 ?c5; (case kA => exact rfl); (case kF => exact rfl); (case kK => assumption); (case k1 => k_asm); (case k2 => k_asm); (case k3 => k_asm); (case k4 => k_asm); (case k5 => k_asm); (case k6 => k_is); (case k7 => k_is); (case k8 => ktr_room); (case k9 => first | exact BindsTo.of_eq rfl | exact binds_K (by k_in) rfl (by k_is) rfl rfl rfl); (case c5 => decide); (case kB => exact locs rfl); (case c2 => exact rfl); (case c3 => exact rfl); (case c4 => exact rfl); k_whole; intro g' L' h' FG' F' N' B' X' T'; (try dsimp only); (try k_fold))
  k_steps
  · exact ret _ _ _ _ _ (by assumption) i1' s' (by assumption) (by assumption)
  · exact hexc (.inr ⟨_, i1', s'⟩) _ _ _ _ _ (by assumption) P' R' U'
  · exact hexc (.inl (by assumption)) _ _ _ _ _ (by assumption) P' R' U'
end
end
end
end
-- D12
section
open PySem PySem.W PySem.Calls PyProof.Rows
set_option pp.deepTerms false
set_option pp.deepTerms.threshold 6
set_option pp.maxSteps 20000
set_option format.width 180
set_option Elab.async false
set_option linter.unusedVariables false
set_option maxRecDepth 100000
section
theorem cutD12 : True := by
  k_with_none
  trivial
theorem reg12 : PySem.Challenge.rw_og0089_01 = PySem.Challenge.rw_og0089_01 ∧ frag.heap_1 = frag.heap_1 := by k_fill; exact ⟨rfl, rfl⟩
structure Dig (x : PySem.Str) : Prop where
  dig : ∀ c ∈ x.cps.toList, 48 ≤ c ∧ c < 58
  few : x.length ≤ 10
noncomputable def valS (acc : Int) (c : Nat) : Int := acc * 10 + ((c : Int) - 48)
noncomputable def valN (x : PySem.Str) : Int := x.cps.toList.foldl valS 0
section
variable {prog : Program} {w : World} {A : Around} {E : Value → Shared → Prop} {s : Shared} {Q : Value → Shared → Prop}
theorem index_fig {c : Nat} {t u : Tok} (h : 48 ≤ c ∧ c < 58) (hq : ∀ t' k, Q (.int ((c : Int) - 48) t') { s with toks := k }) :
    wpAny (model prog w) A (call (.builtin "str.index") [.str (PySem.Str.ofString "0123456789") t, .str ⟨#[c]⟩ u]) Q E s := by
  have hc : c = 48 ∨ c = 49 ∨ c = 50 ∨ c = 51 ∨ c = 52 ∨ c = 53 ∨ c = 54 ∨ c = 55 ∨ c = 56 ∨ c = 57 := by omega
  rcases hc with rfl | rfl | rfl | rfl | rfl | rfl | rfl | rfl | rfl | rfl
  · exact SC.index (i := 0) (rest := []) (by decide +kernel) (hq _ _)
  · exact SC.index (i := 1) (rest := []) (by decide +kernel) (hq _ _)
  · exact SC.index (i := 2) (rest := []) (by decide +kernel) (hq _ _)
  · exact SC.index (i := 3) (rest := []) (by decide +kernel) (hq _ _)
  · exact SC.index (i := 4) (rest := []) (by decide +kernel) (hq _ _)
  · exact SC.index (i := 5) (rest := []) (by decide +kernel) (hq _ _)
  · exact SC.index (i := 6) (rest := []) (by decide +kernel) (hq _ _)
  · exact SC.index (i := 7) (rest := []) (by decide +kernel) (hq _ _)
  · exact SC.index (i := 8) (rest := []) (by decide +kernel) (hq _ _)
  · exact SC.index (i := 9) (rest := []) (by decide +kernel) (hq _ _)
end
theorem lines12 : True := by
  k_with "pyIter str" => ((with_reducible show wpAny _ _ (pyIter (Value.str _ _)) (fun it s₂ => LoopAtV _ _ _ _ _ _ _ _ _ it s₂) _ _); (with_unfolding_all refine' signs_inv "number" valS ?k1 ?k2 ?k3 ?k4 ?k5 (fun c' acc' t' u' h' tk' I' oI' hc' F' N' o' => ?_) (fun u' v' h' tk' F' N' => ?_)); (case k1 => decide); (case k2 => rfl); (case k3 => k_asm); (case k4 => k_asm); (case k5 => rfl))
  k_with "call builtin:str.index" => (k_dflt (refine' index_fig ?k1 ?_; (case k1 => exact Dig.dig (by assumption) _ (by assumption))); intro t' tk')
  k_with "InvEnd" => (refine InvEnd.intro (by assumption) (by assumption) (by k_sub) ⟨⟨_, by with_unfolding_all rfl⟩, by intro z h1 h2; simp only [if_neg h1, if_neg h2]⟩)
  trivial
section
variable {w : World} {mean : ExcName → Option Value} {mg mb : PySem.Str → Option Value} {hd : Option Value} {dp un : Nat} {gd : Option (List Code)} {cn : PySem.Str} {cs : Scope} {a : Addr} {ccd : Value} {cl : List (PySem.Str × Addr)} {outer : List Env} {A₀ : Around} {base h₀ : Heap} {L : Addr} {m : PySem.Str → Option Value} {news : List (Addr × Obj)} {s : Shared}
set_option maxHeartbeats 4000000 in
theorem c_worthOf {x : PySem.Str} {tk : Tok} {Q E : Value → Shared → Prop}
    (B : Below A₀ base outer h₀) (F : Fr h₀ L s.heap m) (X : (frag.heap_1 w.params).In h₀) (N : News h₀ L s.heap news) (T : Top topProg LS mean mg mb h₀) (hk : cs.kind = .function)
    (hdp : dp + 8 < recursionLimit) (hun : un + 40 < cLine) (hx : Dig x)
    (ret : ∀ h' tk' t, Fr h₀ L h' m → News h₀ L h' news → Q (.int (valN x) t) { s with heap := h', toks := tk' }) :
    wpAny (model prog w) (Ar none dp un gd cn cs L a ccd cl outer) (call (.ref 117) [.str x tk] []) Q E s := by
  w_on
  refine wpAny_call ?_
  k_dflt (refine' code_def  ?k1 ?k2 ?k3 ?k4 ?k5 ?kA ?kF ?kK ?k6 ?k7 ?k8 ?k9 ?kB ?_ ?c2 ?c3 ?c4 ?c5; (case kA => exact rfl); (case kF => exact rfl); (case kK => assumption); (case k1 => k_asm); (case k2 => k_asm); (case k3 => k_asm); (case k4 => k_asm); (case k5 => k_asm); (case k6 => k_is); (case k7 => k_is); (case k8 => ktr_room); (case k9 => first | exact BindsTo.of_eq rfl | exact binds_K (by k_in) rfl (by k_is) rfl rfl rfl); (case c5 => decide); (case kB => exact locs rfl); (case c2 => exact rfl); (case c3 => exact rfl); (case c4 => exact rfl); k_whole; intro g' L' h' FG' F' N' B' X' T'; (try dsimp only); (try k_fold))
  k_steps
  exact ret _ _ _ (by assumption) (by assumption)
theorem lines12b : True := by
  k_with "exec While BoolOp" => (k_dflt (refine whl_start 100 ?_))
  trivial
set_option maxHeartbeats 4000000 in
theorem c_decimal0 {x : Int} {t u : Tok} {Q E : Value → Shared → Prop}
    (B : Below A₀ base outer h₀) (F : Fr h₀ L s.heap m) (X : (frag.heap_1 w.params).In h₀) (N : News h₀ L s.heap news) (T : Top topProg LS mean mg mb h₀) (hk : cs.kind = .function)
    (hdp : dp + 8 < recursionLimit) (hun : un + 40 < cLine)
    (ret : ∀ D t1 t2 h' tk', Fr h₀ L h' m → News h₀ L h' ((D, tup2 (.int x t1) (.int 0 t2)) :: news) → (∀ q ∈ news, q.1 < D) → Q (.ref D) { s with heap := h', toks := tk' }) :
    wpAny (model prog w) (Ar none dp un gd cn cs L a ccd cl outer) (call (.ref 82) [.int x t, .int 0 u] []) Q E s := by
  w_on
  refine wpAny_call ?_
  k_dflt (refine' code_def  ?k1 ?k2 ?k3 ?k4 ?k5 ?kA ?kF ?kK ?k6 ?k7 ?k8 ?k9 ?kB ?_ ?c2 ?c3 ?c4 ?c5; (case kA => exact rfl); (case kF => exact rfl); (case kK => assumption); (case k1 => k_asm); (case k2 => k_asm); (case k3 => k_asm); (case k4 => k_asm); (case k5 => k_asm); (case k6 => k_is); (case k7 => k_is); (case k8 => ktr_room); (case k9 => first | exact BindsTo.of_eq rfl | exact binds_K (by k_in) rfl (by k_is) rfl rfl rfl); (case c5 => decide); (case kB => exact locs rfl); (case c2 => exact rfl); (case c3 => exact rfl); (case c4 => exact rfl); k_whole; intro g' L' h' FG' F' N' B' X' T'; (try dsimp only); (try k_fold))
  k_steps
  all_goals exact ret _ _ _ _ _ (by assumption) (by assumption) (by assumption)
set_option maxHeartbeats 4000000 in
theorem c_decimal150 {t u : Tok} {Q E : Value → Shared → Prop}
    (B : Below A₀ base outer h₀) (F : Fr h₀ L s.heap m) (X : (frag.heap_1 w.params).In h₀) (N : News h₀ L s.heap news) (T : Top topProg LS mean mg mb h₀) (hk : cs.kind = .function)
    (hdp : dp + 8 < recursionLimit) (hun : un + 40 < cLine)
    (ret : ∀ D t1 t2 h' tk', Fr h₀ L h' m → News h₀ L h' ((D, tup2 (.int 15 t1) (.int 1 t2)) :: news) → (∀ q ∈ news, q.1 < D) → Q (.ref D) { s with heap := h', toks := tk' }) :
    wpAny (model prog w) (Ar none dp un gd cn cs L a ccd cl outer) (call (.ref 82) [.int 150 t, .int 2 u] []) Q E s := by
  w_on
  refine wpAny_call ?_
  k_dflt (refine' code_def  ?k1 ?k2 ?k3 ?k4 ?k5 ?kA ?kF ?kK ?k6 ?k7 ?k8 ?k9 ?kB ?_ ?c2 ?c3 ?c4 ?c5; (case kA => exact rfl); (case kF => exact rfl); (case kK => assumption); (case k1 => k_asm); (case k2 => k_asm); (case k3 => k_asm); (case k4 => k_asm); (case k5 => k_asm); (case k6 => k_is); (case k7 => k_is); (case k8 => ktr_room); (case k9 => first | exact BindsTo.of_eq rfl | exact binds_K (by k_in) rfl (by k_is) rfl rfl rfl); (case c5 => decide); (case kB => exact locs rfl); (case c2 => exact rfl); (case c3 => exact rfl); (case c4 => exact rfl); k_whole; intro g' L' h' FG' F' N' B' X' T'; (try dsimp only); (try k_fold))
  k_steps
  all_goals exact ret _ _ _ _ _ (by assumption) (by assumption) (by assumption)
set_option maxHeartbeats 4000000 in
theorem c_decimal5 {t u : Tok} {Q E : Value → Shared → Prop}
    (B : Below A₀ base outer h₀) (F : Fr h₀ L s.heap m) (X : (frag.heap_1 w.params).In h₀) (N : News h₀ L s.heap news) (T : Top topProg LS mean mg mb h₀) (hk : cs.kind = .function)
    (hdp : dp + 8 < recursionLimit) (hun : un + 40 < cLine)
    (ret : ∀ D t1 t2 h' tk', Fr h₀ L h' m → News h₀ L h' ((D, tup2 (.int 5 t1) (.int 1 t2)) :: news) → (∀ q ∈ news, q.1 < D) → Q (.ref D) { s with heap := h', toks := tk' }) :
    wpAny (model prog w) (Ar none dp un gd cn cs L a ccd cl outer) (call (.ref 82) [.int 5 t, .int 1 u] []) Q E s := by
  w_on
  refine wpAny_call ?_
  k_dflt (refine' code_def  ?k1 ?k2 ?k3 ?k4 ?k5 ?kA ?kF ?kK ?k6 ?k7 ?k8 ?k9 ?kB ?_ ?c2 ?c3 ?c4 ?c5; (case kA => exact rfl); (case kF => exact rfl); (case kK => assumption); (case k1 => k_asm); (case k2 => k_asm); (case k3 => k_asm); (case k4 => k_asm); (case k5 => k_asm); (case k6 => k_is); (case k7 => k_is); (case k8 => ktr_room); (case k9 => first | exact BindsTo.of_eq rfl | exact binds_K (by k_in) rfl (by k_is) rfl rfl rfl); (case c5 => decide); (case kB => exact locs rfl); (case c2 => exact rfl); (case c3 => exact rfl); (case c4 => exact rfl); k_whole; intro g' L' h' FG' F' N' B' X' T'; (try dsimp only); (try k_fold))
  k_steps
  all_goals exact ret _ _ _ _ _ (by assumption) (by assumption) (by assumption)
end
end
end
-- D13
section
open PySem PySem.W PySem.Calls PyProof.Rows
set_option pp.deepTerms false
set_option pp.deepTerms.threshold 6
set_option pp.maxSteps 20000
set_option format.width 180
set_option Elab.async false
set_option linter.unusedVariables false
set_option maxRecDepth 100000
section
theorem cutD13 : True := by
  k_with_none
  trivial
theorem reg13 : PySem.Challenge.rw_og0089_01 = PySem.Challenge.rw_og0089_01 ∧ frag.heap_1 = frag.heap_1 := by k_fill; exact ⟨rfl, rfl⟩
inductive DecOk : Int → Int → Int → Int → Prop
  | z (x : Int) : DecOk x 0 x 0
  | a : DecOk 150 2 15 1
  | b : DecOk 5 1 5 1
abbrev FIG : PySem.Str := PySem.Str.ofString "0123456789"
section
variable {w : World} {mean : ExcName → Option Value} {mg mb : PySem.Str → Option Value} {hd : Option Value} {dp un : Nat} {gd : Option (List Code)} {cn : PySem.Str} {cs : Scope} {a : Addr} {ccd : Value} {cl : List (PySem.Str × Addr)} {outer : List Env} {A₀ : Around} {base h₀ : Heap} {L : Addr} {m : PySem.Str → Option Value} {news : List (Addr × Obj)} {s : Shared}
theorem c_decimal {x y uu vv : Int} {t u : Tok} {Q E : Value → Shared → Prop} (hD : DecOk x y uu vv)
    (B : Below A₀ base outer h₀) (F : Fr h₀ L s.heap m) (X : (frag.heap_1 w.params).In h₀) (N : News h₀ L s.heap news) (T : Top topProg LS mean mg mb h₀) (hk : cs.kind = .function)
    (hdp : dp + 8 < recursionLimit) (hun : un + 40 < cLine)
    (ret : ∀ D t1 t2 h' tk', Fr h₀ L h' m → News h₀ L h' ((D, tup2 (.int uu t1) (.int vv t2)) :: news) → (∀ q ∈ news, q.1 < D) → Q (.ref D) { s with heap := h', toks := tk' }) :
    wpAny (model prog w) (Ar none dp un gd cn cs L a ccd cl outer) (call (.ref 82) [.int x t, .int y u] []) Q E s := by
  cases hD with
  | z => exact c_decimal0 B F X N T hk hdp hun ret
  | a => exact c_decimal150 B F X N T hk hdp hun ret
  | b => exact c_decimal5 B F X N T hk hdp hun ret
theorem figs_no {P : Nat → Prop} {b : Nat → Bool} {n i : Nat} (hf : ∀ i : Nat, i < n → b i = true → P i) (l : i < n) (h : b i = true) (hp : ¬ P i) : False := hp (hf i l h)
theorem lines13 : True := by
  k_with "subscriptTail Name Slice str ref" => ((with_reducible show wpAny _ _ (subscriptTail _ (PySem.Expr.Slice (some _) none _ _) _ _) _ _ _); k_dflt (refine' slice_sn_eq ?ke ?k1 ?k2 ?k3 ?_; (case ke => first | with_reducible assumption | assumption); (case k1 => k_asm); (case k2 => k_asm); (case k3 => first | assumption | omega)); intro h' t' tk' F' N')
  k_with "subscriptTail Name Slice str ref" => ((with_reducible show wpAny _ _ (subscriptTail _ (PySem.Expr.Slice none (some _) _ _) _ _) _ _ _); k_dflt (refine' slice_ns_eq ?ke ?k1 ?k2 ?k3 ?_; (case ke => first | with_reducible assumption | assumption); (case k1 => k_asm); (case k2 => k_asm); (case k3 => first | assumption | omega)); intro h' t' tk' F' N')
  k_with "binaryOp Add str str" => (k_dflt (refine' add_eq ?ke ?k3 ?_; (case ke => first | with_reducible assumption | assumption); (case k3 => first | omega | (show _ + 0 ≤ _; omega))); intro t' tk')
  k_with "ite" => (first | (refine ite_yes (by assumption) ?_) | (refine ite_no (ne_true_of_eq_false (by assumption)) ?_))
  k_with "pyIter ref" => ((with_reducible show wpAny _ _ (pyIter (Value.ref _)) (fun it s₂ => LoopAtV _ _ _ _ _ _ _ _ _ it s₂) _ _); (rename IsRange _ _ _ _ _ _ _ _ => rgX); k_dflt ((with_unfolding_all refine' range_keep x.length ?k1 rgX ?k2 ?k3 ?k4 ?k5 (fun i' u' t' h' tk' I' oI' l' F' N' o' => ?_) (fun u' h' tk' F' N' => ?_)); (case k1 => rfl); (case k2 => exact small_one (by decide) (by decide) (by omega) (by omega)); (case k3 => (rw [rangeSize_nat]; omega)); (case k4 => k_asm); (case k5 => k_asm)))
  k_with "InvEnd" => (refine InvEnd.intro (by assumption) (by assumption) (by k_sub) (by intro z h1; simp only [if_neg h1]))
  k_with "exec Raise some none" => ((exfalso; exact absurd (hf i' l' (by assumption)) (by assumption)))
  k_with "call ref" => (k_dflt (refine' c_worthOf ?k1 ?k2 ?k3 ?k4 ?k5 ?k6 ?k7 ?k8 ?k9 ?_; (case k1 => k_asm); (case k2 => k_asm); (case k3 => k_in); (case k4 => k_asm); (case k5 => k_asm); (case k6 => first | rfl | assumption); (case k7 => ktr_room); (case k8 => ktr_units); (case k9 => assumption)); intro h' tk' t' F' N')
  k_with "call ref" => (k_dflt (refine' c_decimal ?k9 ?k1 ?k2 ?k3 ?k4 ?k5 ?k6 ?k7 ?k8 ?_; (case k9 => assumption); (case k1 => k_asm); (case k2 => k_asm); (case k3 => k_in); (case k4 => k_asm); (case k5 => k_asm); (case k6 => first | rfl | assumption); (case k7 => ktr_room); (case k8 => ktr_units)); intro D' t1' t2' h' tk' F' N' l')
  trivial
set_option maxHeartbeats 4000000 in
theorem c_readDec1 {x : PySem.Str} {tk : Tok} {uu vv : Int} {Q E : Value → Shared → Prop}
    (f1 : ([PySem.Str.ofString "+", PySem.Str.ofString "-"].any fun z => z == Txt.slice x none (some 1)) = false) (e1 : Txt.slice x (some 0) none = x) (f2 : (!(Builtin.Str.occurrences x (PySem.Str.ofString ".") 0 x.length 1).isEmpty) = false)
    (e2 : x ++ PySem.Str.ofString "" = x) (f4 : (x == PySem.Str.ofString "") = false) (hf : ∀ i : Nat, i < x.length → (Builtin.Str.occurrences FIG (Txt.item x (0 + (i : Int))) 0 FIG.length 1).isEmpty = true → 0 + (i : Int) = 0 + (x.length : Int))
    (f5 : (Txt.slice x none (some 1) == PySem.Str.ofString "-") = false) (hx : Dig x) (hD : DecOk (valN x) 0 uu vv)
    (B : Below A₀ base outer h₀) (F : Fr h₀ L s.heap m) (X : (frag.heap_1 w.params).In h₀) (N : News h₀ L s.heap news) (T : Top topProg LS mean mg mb h₀) (hk : cs.kind = .function)
    (hdp : dp + 12 < recursionLimit) (hun : un + 80 < cLine)
    (ret : ∀ D t1 t2 h' tk', Fr h₀ L h' m → News h₀ L h' ((D, tup2 (.int uu t1) (.int vv t2)) :: news) → (∀ q ∈ news, q.1 < D) → Q (.ref D) { s with heap := h', toks := tk' }) :
    wpAny (model prog w) (Ar none dp un gd cn cs L a ccd cl outer) (call (.ref 124) [.str x tk] []) Q E s := by
  have hx1 : x.length ≤ 1000 := Nat.le_trans hx.few (by decide)
  w_on
  refine wpAny_call ?_
  k_dflt (refine' code_def  ?k1 ?k2 ?k3 ?k4 ?k5 ?kA ?kF ?kK ?k6 ?k7 ?k8 ?k9 ?kB ?_ ?c2 ?c3 ?c4 ?c5; (case kA => exact rfl); (case kF => exact rfl); (case kK => assumption); (case k1 => k_asm); (case k2 => k_asm); (case k3 => k_asm); (case k4 => k_asm); (case k5 => k_asm); (case k6 => k_is); (case k7 => k_is); (case k8 => ktr_room); (case k9 => first | exact BindsTo.of_eq rfl | exact binds_K (by k_in) rfl (by k_is) rfl rfl rfl); (case c5 => decide); (case kB => exact locs rfl); (case c2 => exact rfl); (case c3 => exact rfl); (case c4 => exact rfl); k_whole; intro g' L' h' FG' F' N' B' X' T'; (try dsimp only); (try k_fold))
  k_steps
  all_goals exact ret _ _ _ _ _ (by assumption) (newsSub (by assumption) (by kcf_all)) (by intro q hq; exact l' q (by repeat (first | exact hq | apply List.mem_cons_of_mem)))
theorem lines13b : True := by
  k_with "call builtin:str.index" => (k_dflt (refine' SC.index (rest := []) ?k1 ?_; (case k1 => assumption)))
  trivial
set_option maxHeartbeats 4000000 in
theorem c_readDec2 {x a' b' y : PySem.Str} {k : Nat} {tk : Tok} {uu vv : Int} {Q E : Value → Shared → Prop}
    (f1 : ([PySem.Str.ofString "+", PySem.Str.ofString "-"].any fun z => z == Txt.slice x none (some 1)) = false) (e1 : Txt.slice x (some 0) none = x) (f2 : (!(Builtin.Str.occurrences x (PySem.Str.ofString ".") 0 x.length 1).isEmpty) = true)
    (hoc : Builtin.Str.occurrences x (PySem.Str.ofString ".") 0 x.length 1 = [k]) (e6 : Txt.slice x none (some (k : Int)) = a') (e7 : Txt.slice x (some ((k : Int) + 1)) none = b') (f3 : (b' == PySem.Str.ofString "") = false)
    (e2 : a' ++ b' = y) (f4 : (y == PySem.Str.ofString "") = false) (hf : ∀ i : Nat, i < x.length → (Builtin.Str.occurrences FIG (Txt.item x (0 + (i : Int))) 0 FIG.length 1).isEmpty = true → 0 + (i : Int) = 0 + (a'.length : Int))
    (f5 : (Txt.slice x none (some 1) == PySem.Str.ofString "-") = false) (hx : Dig y) (hl : x.length ≤ 1000) (hl2 : a'.length ≤ 100) (hl3 : b'.length ≤ 100) (hD : DecOk (valN y) (b'.length : Int) uu vv)
    (B : Below A₀ base outer h₀) (F : Fr h₀ L s.heap m) (X : (frag.heap_1 w.params).In h₀) (N : News h₀ L s.heap news) (T : Top topProg LS mean mg mb h₀) (hk : cs.kind = .function)
    (hdp : dp + 12 < recursionLimit) (hun : un + 80 < cLine)
    (ret : ∀ D t1 t2 h' tk', Fr h₀ L h' m → News h₀ L h' ((D, tup2 (.int uu t1) (.int vv t2)) :: news) → (∀ q ∈ news, q.1 < D) → Q (.ref D) { s with heap := h', toks := tk' }) :
    wpAny (model prog w) (Ar none dp un gd cn cs L a ccd cl outer) (call (.ref 124) [.str x tk] []) Q E s := by
  w_on
  refine wpAny_call ?_
  k_dflt (refine' code_def  ?k1 ?k2 ?k3 ?k4 ?k5 ?kA ?kF ?kK ?k6 ?k7 ?k8 ?k9 ?kB ?_ ?c2 ?c3 ?c4 ?c5; (case kA => exact rfl); (case kF => exact rfl); (case kK => assumption); (case k1 => k_asm); (case k2 => k_asm); (case k3 => k_asm); (case k4 => k_asm); (case k5 => k_asm); (case k6 => k_is); (case k7 => k_is); (case k8 => ktr_room); (case k9 => first | exact BindsTo.of_eq rfl | exact binds_K (by k_in) rfl (by k_is) rfl rfl rfl); (case c5 => decide); (case kB => exact locs rfl); (case c2 => exact rfl); (case c3 => exact rfl); (case c4 => exact rfl); k_whole; intro g' L' h' FG' F' N' B' X' T'; (try dsimp only); (try k_fold))
  k_steps
  all_goals exact ret _ _ _ _ _ (by assumption) (newsSub (by assumption) (by kcf_all)) (by intro q hq; exact l' q (by repeat (first | exact hq | apply List.mem_cons_of_mem)))
end
end
end
-- D14
section
open PySem PySem.W PySem.Calls PyProof.Rows
set_option pp.deepTerms false
set_option pp.deepTerms.threshold 6
set_option pp.maxSteps 20000
set_option format.width 180
set_option Elab.async false
set_option linter.unusedVariables false
set_option maxRecDepth 100000
section
theorem cutD14 : True := by
  k_with_none
  trivial
theorem reg14 : PySem.Challenge.rw_og0089_01 = PySem.Challenge.rw_og0089_01 ∧ frag.heap_1 = frag.heap_1 := by k_fill; exact ⟨rfl, rfl⟩
/-- the number rows' worth: units and scale -/
inductive NumRow : Nat → Int → Int → Prop
  | r7 : NumRow 7 12 0
  | r8 : NumRow 8 15 1
  | r9 : NumRow 9 7 0
  | r10 : NumRow 10 5 1
  | r11 : NumRow 11 0 0
section
variable {w : World} {mean : ExcName → Option Value} {mg mb : PySem.Str → Option Value} {hd : Option Value} {dp un : Nat} {gd : Option (List Code)} {cn : PySem.Str} {cs : Scope} {a : Addr} {ccd : Value} {cl : List (PySem.Str × Addr)} {outer : List Env} {A₀ : Around} {base h₀ : Heap} {L : Addr} {m : PySem.Str → Option Value} {news : List (Addr × Obj)} {s : Shared}
theorem dig_of {x : PySem.Str} (l : List Nat) (e : x.cps.toList = l) (h : (l.all fun c => Nat.ble 48 c && Nat.ble (c + 1) 58) = true) (h2 : Nat.ble l.length 10 = true) : Dig x := by
  refine ⟨fun c hc => ?_, ?_⟩
  · rw [e] at hc
    have := List.all_eq_true.mp h c hc
    rw [Bool.and_eq_true] at this
    exact ⟨Nat.le_of_ble_eq_true this.1, Nat.le_of_ble_eq_true this.2⟩
  · show x.cps.size ≤ 10
    rw [← Array.length_toList, e]; exact Nat.le_of_ble_eq_true h2
theorem figs_all {n : Nat} {b : Nat → Bool} {P : Nat → Prop} [∀ i, Decidable (P i)] (h : (List.range n).all (fun i => !b i || decide (P i)) = true) : ∀ i : Nat, i < n → b i = true → P i := fun i hi hb => by
  have := List.all_eq_true.mp h i (List.mem_range.mpr hi)
  rw [hb] at this
  simpa using this
theorem c_readRow {i : Nat} {tk : Tok} {uu vv : Int} {Q E : Value → Shared → Prop} (hr : NumRow i uu vv)
    (B : Below A₀ base outer h₀) (F : Fr h₀ L s.heap m) (X : (frag.heap_1 w.params).In h₀) (N : News h₀ L s.heap news) (T : Top topProg LS mean mg mb h₀) (hk : cs.kind = .function)
    (hdp : dp + 12 < recursionLimit) (hun : un + 80 < cLine)
    (ret : ∀ D t1 t2 h' tk', Fr h₀ L h' m → News h₀ L h' ((D, tup2 (.int uu t1) (.int vv t2)) :: news) → (∀ q ∈ news, q.1 < D) → Q (.ref D) { s with heap := h', toks := tk' }) :
    wpAny (model prog w) (Ar none dp un gd cn cs L a ccd cl outer) (call (.ref 124) [.str (wd i) tk] []) Q E s := by
  cases hr with
  | r7 => 
    have e : wd 7 = ⟨#[49, 50]⟩ := by kernel_rfl
    rw [e]
    exact c_readDec1 (by decide +kernel) (by decide +kernel) (by decide +kernel) (by decide +kernel) (by decide +kernel) (figs_all (by decide +kernel)) (by decide +kernel) (dig_of [49, 50] rfl (by decide) (by decide)) (by rw [show valN ⟨#[49, 50]⟩ = 12 from by decide +kernel]; exact .z _) B F X N T hk hdp hun ret
  | r8 =>
    have e : wd 8 = ⟨#[49, 46, 53, 48]⟩ := by kernel_rfl
    rw [e]
    exact c_readDec2 (a' := ⟨#[49]⟩) (b' := ⟨#[53, 48]⟩) (y := ⟨#[49, 53, 48]⟩) (k := 1) (by decide +kernel) (by decide +kernel) (by decide +kernel) (by decide +kernel) (by decide +kernel) (by decide +kernel) (by decide +kernel) (by decide +kernel) (by decide +kernel) (figs_all (by decide +kernel)) (by decide +kernel) (dig_of [49, 53, 48] rfl (by decide) (by decide)) (by decide) (by decide) (by decide)
      (by rw [show valN ⟨#[49, 53, 48]⟩ = 150 from by decide +kernel]; exact .a) B F X N T hk hdp hun ret
  | r9 =>
    have e : wd 9 = ⟨#[48, 48, 55]⟩ := by kernel_rfl
    rw [e]
    exact c_readDec1 (by decide +kernel) (by decide +kernel) (by decide +kernel) (by decide +kernel) (by decide +kernel) (figs_all (by decide +kernel)) (by decide +kernel) (dig_of [48, 48, 55] rfl (by decide) (by decide)) (by rw [show valN ⟨#[48, 48, 55]⟩ = 7 from by decide +kernel]; exact .z _) B F X N T hk hdp hun ret
  | r10 =>
    have e : wd 10 = ⟨#[46, 53]⟩ := by kernel_rfl
    rw [e]
    exact c_readDec2 (a' := ⟨#[]⟩) (b' := ⟨#[53]⟩) (y := ⟨#[53]⟩) (k := 0) (by decide +kernel) (by decide +kernel) (by decide +kernel) (by decide +kernel) (by decide +kernel) (by decide +kernel) (by decide +kernel) (by decide +kernel) (by decide +kernel) (figs_all (by decide +kernel)) (by decide +kernel) (dig_of [53] rfl (by decide) (by decide)) (by decide) (by decide) (by decide)
      (by rw [show valN ⟨#[53]⟩ = 5 from by decide +kernel]; exact .b) B F X N T hk hdp hun ret
  | r11 =>
    have e : wd 11 = ⟨#[48]⟩ := by kernel_rfl
    rw [e]
    exact c_readDec1 (by decide +kernel) (by decide +kernel) (by decide +kernel) (by decide +kernel) (by decide +kernel) (figs_all (by decide +kernel)) (by decide +kernel) (dig_of [48] rfl (by decide) (by decide)) (by rw [show valN ⟨#[48]⟩ = 0 from by decide +kernel]; exact .z _) B F X N T hk hdp hun ret
end
end
end
-- D15
section
open PySem PySem.W PySem.Calls PyProof.Rows
set_option pp.deepTerms false
set_option pp.deepTerms.threshold 6
set_option pp.maxSteps 20000
set_option format.width 180
set_option Elab.async false
set_option linter.unusedVariables false
set_option maxRecDepth 100000
section
theorem cutD15 : True := by
  k_with_none
  trivial
theorem reg15 : PySem.Challenge.rw_og0089_01 = PySem.Challenge.rw_og0089_01 ∧ frag.heap_1 = frag.heap_1 := by k_fill; exact ⟨rfl, rfl⟩
theorem numRow_of {r : RX} {rest : List (Addr × Obj)} {p i : Nat} (R : Rdr r rest) (k : kindAt r p "number" = true) (i1 : r.Rw[p]? = some i) : ∃ uu vv, NumRow i uu vv := by
  rw [kindAt_some i1] at k
  have h := R.small i (List.mem_of_getElem? i1)
  have hb : ∀ j, j < 19 → (kd j == "number") = true → j = 7 ∨ j = 8 ∨ j = 9 ∨ j = 10 ∨ j = 11 := by
    have : (List.range 19).all (fun j => !(kd j == "number") || decide (j = 7 ∨ j = 8 ∨ j = 9 ∨ j = 10 ∨ j = 11)) = true := by decide +kernel
    exact fun j hj hk => by
      have := List.all_eq_true.mp this j (List.mem_range.mpr hj)
      rw [hk] at this
      simpa using this
  rcases hb i h k with rfl | rfl | rfl | rfl | rfl
  · exact ⟨_, _, .r7⟩
  · exact ⟨_, _, .r8⟩
  · exact ⟨_, _, .r9⟩
  · exact ⟨_, _, .r10⟩
  · exact ⟨_, _, .r11⟩
theorem num_minus {r : RX} {p : Nat} (h : numAt r p = true) (m : signAt r p "-" = true) : kindAt r (p + 1) "number" = true := by rw [← numAt_2 m]; exact h
theorem num_plus {r : RX} {p : Nat} (h : numAt r p = true) (m : signAt r p "+" = true) : kindAt r (p + 1) "number" = true := by rw [← numAt_1 m]; exact h
theorem num_bare {r : RX} {p : Nat} (h : numAt r p = true) (m : signAt r p "-" = false) (m2 : signAt r p "+" = false) : kindAt r p "number" = true := by rw [← numAt_3 m2 m]; exact h
theorem allLt_le {D : Nat} {l : List (Addr × Obj)} (h : AllLt D l) : ∀ q ∈ l, q.1 < D := by
  induction l with
  | nil => intro q hq; cases hq
  | cons p r ih =>
    intro q hq
    cases hq with
    | head => exact h.1
    | tail _ hq => exact ih h.2 q hq
theorem allLt_lt {D a : Nat} {l : List (Addr × Obj)} (h : a < D ∧ AllLt D l) : ∀ q ∈ l, q.1 < D := allLt_le h.2
theorem newsDup {h₀ h : Heap} {L : Addr} {l : List (Addr × Obj)} {q : Addr × Obj} (N : News h₀ L h l) (hm : q ∈ l) : News h₀ L h (q :: l) := fun x hx => (List.mem_cons.mp hx).elim (fun e => N x (e ▸ hm)) (N x)
theorem whole_zero {b : Bool} {v : Int} (h : b = (v == 0)) (t : b = true) : v = 0 := by rw [t] at h; exact eq_of_beq h.symm
theorem whole_no {b : Bool} {v : Int} (h : b = (v == 0)) (t : b = false) : v ≠ 0 := by rintro rfl; rw [t] at h; cases h
theorem raisedSub {base G h : Heap} {l : List Env} {e C dx : Addr} {n n' : List (Addr × Obj)} (x : RaisedD base G l e C dx n h) (k : ∀ q ∈ n', q ∈ n) : RaisedD base G l e C dx n' h := by
  obtain ⟨B, a0, h1, h2, h3, h4⟩ := x
  exact ⟨B, a0, h1, h2, fun q hq => h3 q (k q hq), h4⟩
inductive SignedAt (r : RX) (p : Nat) : Int → Int → Nat → Prop
  | minus {i : Nat} {uu vv : Int} : signAt r p "-" = true → kindAt r (p + 1) "number" = true → r.Rw[p + 1]? = some i → NumRow i uu vv → SignedAt r p (-uu) vv (p + 2)
  | plus {i : Nat} {uu vv : Int} : signAt r p "-" = false → signAt r p "+" = true → kindAt r (p + 1) "number" = true → r.Rw[p + 1]? = some i → NumRow i uu vv → SignedAt r p uu vv (p + 2)
  | bare {i : Nat} {uu vv : Int} : signAt r p "-" = false → signAt r p "+" = false → kindAt r p "number" = true → r.Rw[p]? = some i → NumRow i uu vv → SignedAt r p uu vv (p + 1)
section
variable {w : World} {mean : ExcName → Option Value} {mg mb : PySem.Str → Option Value} {hd : Option Value} {dp un : Nat} {gd : Option (List Code)} {cn : PySem.Str} {cs : Scope} {a : Addr} {ccd : Value} {cl : List (PySem.Str × Addr)} {outer : List Env} {A₀ : Around} {base h₀ : Heap} {L : Addr} {m : PySem.Str → Option Value} {news : List (Addr × Obj)} {s : Shared}
set_option maxHeartbeats 4000000 in
theorem c_isWhole {D : Addr} {x y : Int} {t1 t2 : Tok} {Q E : Value → Shared → Prop}
    (B : Below A₀ base outer h₀) (F : Fr h₀ L s.heap m) (X : (frag.heap_1 w.params).In h₀) (N : News h₀ L s.heap ((D, tup2 (.int x t1) (.int y t2)) :: news)) (T : Top topProg LS mean mg mb h₀) (hk : cs.kind = .function)
    (hdp : dp + 2 < recursionLimit) (hun : un + 20 < cLine)
    (ret : ∀ b h' tk', b = (y == 0) → Fr h₀ L h' m → News h₀ L h' ((D, tup2 (.int x t1) (.int y t2)) :: news) → Q (.bool b) { s with heap := h', toks := tk' }) :
    wpAny (model prog w) (Ar none dp un gd cn cs L a ccd cl outer) (call (.ref 103) [.ref D] []) Q E s := by
  w_on
  refine wpAny_call ?_
  k_dflt (refine' code_def  ?k1 ?k2 ?k3 ?k4 ?k5 ?kA ?kF ?kK ?k6 ?k7 ?k8 ?k9 ?kB ?_ ?c2 ?c3 ?c4 ?c5; (case kA => exact rfl); (case kF => exact rfl); (case kK => assumption); (case k1 => k_asm); (case k2 => k_asm); (case k3 => k_asm); (case k4 => k_asm); (case k5 => k_asm); (case k6 => k_is); (case k7 => k_is); (case k8 => ktr_room); (case k9 => first | exact BindsTo.of_eq rfl | exact binds_K (by k_in) rfl (by k_is) rfl rfl rfl); (case c5 => decide); (case kB => exact locs rfl); (case c2 => exact rfl); (case c3 => exact rfl); (case c4 => exact rfl); k_whole; intro g' L' h' FG' F' N' B' X' T'; (try dsimp only); (try k_fold))
  k_steps
  all_goals exact ret _ _ _ rfl (by assumption) (by assumption)
set_option maxHeartbeats 4000000 in
theorem c_unitsAt {D : Addr} {x : Int} {t1 t2 t3 : Tok} {Q E : Value → Shared → Prop}
    (B : Below A₀ base outer h₀) (F : Fr h₀ L s.heap m) (X : (frag.heap_1 w.params).In h₀) (N : News h₀ L s.heap ((D, tup2 (.int x t1) (.int 0 t2)) :: news)) (T : Top topProg LS mean mg mb h₀) (hk : cs.kind = .function)
    (hdp : dp + 2 < recursionLimit) (hun : un + 20 < cLine)
    (ret : ∀ t h' tk', Fr h₀ L h' m → News h₀ L h' ((D, tup2 (.int x t1) (.int 0 t2)) :: news) → Q (.int (x * 1) t) { s with heap := h', toks := tk' }) :
    wpAny (model prog w) (Ar none dp un gd cn cs L a ccd cl outer) (call (.ref 96) [.ref D, .int 0 t3, .bool false] []) Q E s := by
  w_on
  refine wpAny_call ?_
  k_dflt (refine' code_def  ?k1 ?k2 ?k3 ?k4 ?k5 ?kA ?kF ?kK ?k6 ?k7 ?k8 ?k9 ?kB ?_ ?c2 ?c3 ?c4 ?c5; (case kA => exact rfl); (case kF => exact rfl); (case kK => assumption); (case k1 => k_asm); (case k2 => k_asm); (case k3 => k_asm); (case k4 => k_asm); (case k5 => k_asm); (case k6 => k_is); (case k7 => k_is); (case k8 => ktr_room); (case k9 => first | exact BindsTo.of_eq rfl | exact binds_K (by k_in) rfl (by k_is) rfl rfl rfl); (case c5 => decide); (case kB => exact locs rfl); (case c2 => exact rfl); (case c3 => exact rfl); (case c4 => exact rfl); k_whole; intro g' L' h' FG' F' N' B' X' T'; (try dsimp only); (try k_fold))
  k_steps
  all_goals exact ret _ _ _ (by assumption) (by assumption)
theorem lines15 : True := by
  k_with "call ref" => (k_dflt (refine' c_unitsAt ?k1 ?k2 ?k3 ?k4 ?k5 ?k6 ?k7 ?k8 ?_; (case k1 => k_asm); (case k2 => k_asm); (case k3 => k_in); (case k4 => k_asm); (case k5 => k_asm); (case k6 => first | rfl | assumption); (case k7 => ktr_room); (case k8 => ktr_units)); intro t' h' tk' F' N')
  trivial
set_option maxHeartbeats 4000000 in
theorem c_wholeOf {D : Addr} {x : Int} {t1 t2 : Tok} {Q E : Value → Shared → Prop}
    (B : Below A₀ base outer h₀) (F : Fr h₀ L s.heap m) (X : (frag.heap_1 w.params).In h₀) (N : News h₀ L s.heap ((D, tup2 (.int x t1) (.int 0 t2)) :: news)) (T : Top topProg LS mean mg mb h₀) (hk : cs.kind = .function)
    (hdp : dp + 4 < recursionLimit) (hun : un + 40 < cLine)
    (ret : ∀ t h' tk', Fr h₀ L h' m → News h₀ L h' ((D, tup2 (.int x t1) (.int 0 t2)) :: news) → Q (.int x t) { s with heap := h', toks := tk' }) :
    wpAny (model prog w) (Ar none dp un gd cn cs L a ccd cl outer) (call (.ref 110) [.ref D] []) Q E s := by
  w_on
  refine wpAny_call ?_
  k_dflt (refine' code_def  ?k1 ?k2 ?k3 ?k4 ?k5 ?kA ?kF ?kK ?k6 ?k7 ?k8 ?k9 ?kB ?_ ?c2 ?c3 ?c4 ?c5; (case kA => exact rfl); (case kF => exact rfl); (case kK => assumption); (case k1 => k_asm); (case k2 => k_asm); (case k3 => k_asm); (case k4 => k_asm); (case k5 => k_asm); (case k6 => k_is); (case k7 => k_is); (case k8 => ktr_room); (case k9 => first | exact BindsTo.of_eq rfl | exact binds_K (by k_in) rfl (by k_is) rfl rfl rfl); (case c5 => decide); (case kB => exact locs rfl); (case c2 => exact rfl); (case c3 => exact rfl); (case c4 => exact rfl); k_whole; intro g' L' h' FG' F' N' B' X' T'; (try dsimp only); (try k_fold))
  k_steps
  all_goals (rw [Int.mul_one]; exact ret _ _ _ (by assumption) (by assumption))
set_option maxHeartbeats 4000000 in
theorem c_negated {D : Addr} {x y : Int} {t1 t2 : Tok} {Q E : Value → Shared → Prop}
    (B : Below A₀ base outer h₀) (F : Fr h₀ L s.heap m) (X : (frag.heap_1 w.params).In h₀) (N : News h₀ L s.heap ((D, tup2 (.int x t1) (.int y t2)) :: news)) (T : Top topProg LS mean mg mb h₀) (hk : cs.kind = .function)
    (hdp : dp + 2 < recursionLimit) (hun : un + 20 < cLine)
    (ret : ∀ D2 u1 u2 h' tk', Fr h₀ L h' m → News h₀ L h' ((D2, tup2 (.int (-x) u1) (.int y u2)) :: news) → (∀ q ∈ news, q.1 < D2) → Q (.ref D2) { s with heap := h', toks := tk' }) :
    wpAny (model prog w) (Ar none dp un gd cn cs L a ccd cl outer) (call (.ref 89) [.ref D] []) Q E s := by
  w_on
  refine wpAny_call ?_
  k_dflt (refine' code_def  ?k1 ?k2 ?k3 ?k4 ?k5 ?kA ?kF ?kK ?k6 ?k7 ?k8 ?k9 ?kB ?_ ?c2 ?c3 ?c4 ?c5; (case kA => exact rfl); (case kF => exact rfl); (case kK => assumption); (case k1 => k_asm); (case k2 => k_asm); (case k3 => k_asm); (case k4 => k_asm); (case k5 => k_asm); (case k6 => k_is); (case k7 => k_is); (case k8 => ktr_room); (case k9 => first | exact BindsTo.of_eq rfl | exact binds_K (by k_in) rfl (by k_is) rfl rfl rfl); (case c5 => decide); (case kB => exact locs rfl); (case c2 => exact rfl); (case c3 => exact rfl); (case c4 => exact rfl); k_whole; intro g' L' h' FG' F' N' B' X' T'; (try dsimp only); (try k_fold))
  k_steps
  all_goals exact ret _ _ _ _ _ (by assumption) (newsSub (by assumption) (by kcf_all)) (allLt_lt (by assumption))
end
theorem lines15b : True := by
  k_with "getAttr ref" => ((with_reducible (refine' tok_kind ?k1 ?k2 ?k3 ?k4 ?k5 ?k6 ?_)); (case k5 => assumption); (case k1 => k_asm); (case k2 => k_in); (case k3 => k_asm); (case k4 => (intro q hq; repeat (first | exact hq | apply List.mem_cons_of_mem))); (case k6 => assumption); intro t')
  k_with "getAttr ref" => ((with_reducible (refine' tok_worth ?k1 ?k2 ?k3 ?k4 ?k5 ?k6 ?_)); (case k5 => assumption); (case k1 => k_asm); (case k2 => k_in); (case k3 => k_asm); (case k4 => (intro q hq; repeat (first | exact hq | apply List.mem_cons_of_mem))); (case k6 => assumption); intro t')
  k_with "getAttr ref" => ((with_reducible (refine' tok_at ?k1 ?k2 ?k3 ?k4 ?k5 ?k6 ?_)); (case k5 => assumption); (case k1 => k_asm); (case k2 => k_in); (case k3 => k_asm); (case k4 => (intro q hq; repeat (first | exact hq | apply List.mem_cons_of_mem))); (case k6 => assumption))
  k_with "call ref" => (k_dflt (refine' c_peek ?k1 ?k2 ?k3 ?k4 ?kR ?k5 ?k6 ?k7 ?k8 ?kp (fun i' h' tk' i1' F' N' => ?_) (fun h' tk' i1' F' N' => ?_); (case kR => assumption); (case k1 => k_asm); (case k2 => k_asm); (case k3 => k_in); (case k4 => first | k_asm | exact newsSub (by assumption) (by kcf_all)); (case k5 => k_asm); (case k6 => first | rfl | assumption); (case k7 => ktr_room); (case k8 => ktr_units); (case kp => first | exact .inl ⟨rfl, rfl, rfl⟩ | exact .inr rfl)))
  k_with "call ref" => (k_dflt (refine' c_peek ?k1 ?k2 ?k3 ?k4 ?kR ?k5 ?k6 ?k7 ?k8 ?kp (fun i' h' tk' i1' F' N' => ?_) ?kN; (case kR => assumption); (case k1 => k_asm); (case k2 => k_asm); (case k3 => k_in); (case k4 => first | k_asm | exact newsSub (by assumption) (by kcf_all)); (case k5 => k_asm); (case k6 => first | rfl | assumption); (case k7 => ktr_room); (case k8 => ktr_units); (case kp => first | exact .inl ⟨rfl, rfl, rfl⟩ | exact .inr rfl); (case kN => (intro h' tk' i1' F' N'; exact peek_no i1' (by assumption)))))
  k_with "call ref" => (k_dflt (refine' c_isKind ?k1 ?k2 ?k3 ?k4 ?kR ?k5 ?k6 ?k7 ?k8 ?kp (fun h' tk' F' N' => ?_); (case kR => assumption); (case k1 => k_asm); (case k2 => k_asm); (case k3 => k_in); (case k4 => first | k_asm | exact newsSub (by assumption) (by kcf_all)); (case k5 => k_asm); (case k6 => first | rfl | assumption); (case k7 => ktr_room); (case k8 => ktr_units); (case kp => first | exact .inl ⟨rfl, rfl, rfl⟩ | exact .inr rfl)))
  k_with "call ref" => (k_dflt (refine' c_fault ?k1 ?k2 ?k3 ?k4 ?kR ?k5 ?k6 ?k7 ?k8  (fun e' f' b' h' tk' P' F' N' ne' => ?_); (case kR => assumption); (case k1 => k_asm); (case k2 => k_asm); (case k3 => k_in); (case k4 => first | k_asm | exact newsSub (by assumption) (by kcf_all)); (case k5 => k_asm); (case k6 => first | rfl | assumption); (case k7 => ktr_room); (case k8 => ktr_units)))
  k_with "exec Raise some none" => (k_dflt (refine raise_made (C := 65) (by rfl) ?_))
  k_with "RaisesMade" => (k_dflt (refine ⟨_, _, _, rfl, (News.get (by k_asm) (by k_mem)), rfl, rfl, rfl, excCls65 (by k_in), ?_⟩))
  k_with "leaving ref" => (first | (k_dflt (refine' leaveD_first ?k1 ?k2 ?k3 ?k4 ?_; (case k1 => assumption); (case k2 => assumption); (case k3 => k_asm); (case k4 => k_asm)); k_whole; intro h' R' U'; (try dsimp only at R' U' ⊢)) | (k_dflt (refine' leaveD_on ?k1 ?k2 ?k3 ?k4 ?_; (case k3 => assumption); (case k1 => assumption); (case k4 => assumption); (case k2 => assumption)); k_whole; intro h' R' U'; (try dsimp only at R' U' ⊢)))
  k_with "setAttr ref" => (k_dflt (refine' set_at (p + 1) ?k1 ?k2 ?k3 ?k4 ?k5 ?_; (case k4 => assumption); (case k1 => k_asm); (case k2 => k_in); (case k3 => first | k_asm | exact newsSub (by assumption) (by kcf_all)); (case k5 => first | rfl | omega)); intro h' tk' F' N')
  k_with "call ref" => (k_dflt (refine' c_take ?k1 ?k2 ?k3 ?k4 ?kR ?k5 ?k6 ?k7 ?k8 (fun i' h' tk' t' i1' F' N' => ?_) (fun i1' e' f' g' h' tk' FG' P' R' U' => ?_); (case kR => assumption); (case k1 => k_asm); (case k2 => k_asm); (case k3 => k_in); (case k4 => first | k_asm | exact newsSub (by assumption) (by kcf_all)); (case k5 => k_asm); (case k6 => first | rfl | assumption); (case k7 => ktr_room); (case k8 => ktr_units)))
  k_with "call ref" => (k_dflt (refine' c_take ?k1 ?k2 ?k3 ?k4 ?kR ?k5 ?k6 ?k7 ?k8 (fun i' h' tk' t' i1' F' N' => ?_) ?kN; (case kR => assumption); (case k1 => k_asm); (case k2 => k_asm); (case k3 => k_in); (case k4 => first | k_asm | exact newsSub (by assumption) (by kcf_all)); (case k5 => k_asm); (case k6 => first | rfl | assumption); (case k7 => ktr_room); (case k8 => ktr_units); (case kN => (intro i1'; first | exact peek_no i1' (by assumption) | exact name_no i1' (by assumption)))))
  k_with "call ref" => (k_dflt (refine' c_isNumber ?k1 ?k2 ?k3 ?k4 ?kR ?k5 ?k6 ?k7 ?k8  (fun h' tk' F' N' => ?_); (case kR => assumption); (case k1 => k_asm); (case k2 => k_asm); (case k3 => k_in); (case k4 => first | k_asm | exact newsSub (by assumption) (by kcf_all)); (case k5 => k_asm); (case k6 => first | rfl | assumption); (case k7 => ktr_room); (case k8 => ktr_units)))
  k_with "call ref" => (k_dflt (refine' c_skipSign ?k1 ?k2 ?k3 ?k4 ?kR ?k5 ?k6 ?k7 ?k8 (fun h' tk' t' w' F' N' => ?_) (fun h' tk' w' F' N' => ?_); (case kR => assumption); (case k1 => k_asm); (case k2 => k_asm); (case k3 => k_in); (case k4 => first | k_asm | exact newsSub (by assumption) (by kcf_all)); (case k5 => k_asm); (case k6 => first | rfl | assumption); (case k7 => ktr_room); (case k8 => ktr_units)); (all_goals (try (have kk' := num_minus (by assumption) w'))); (all_goals (try (have kk' := num_plus (by assumption) w'))); (all_goals (try (have kk' := num_bare (by assumption) (by assumption) w'))))
  k_with "call ref" => ((with_reducible show wpAny _ _ (call (Value.ref 124) _ _) _ _ _); (obtain ⟨uu', vv', hr'⟩ := numRow_of (by assumption) (by assumption) i1'); k_dflt (refine' c_readRow hr' ?k1 ?k2 ?k3 ?k4 ?k5 ?k6 ?k7 ?k8 ?_; (case k1 => k_asm); (case k2 => k_asm); (case k3 => k_in); (case k4 => k_asm); (case k5 => k_asm); (case k6 => first | rfl | assumption); (case k7 => ktr_room); (case k8 => ktr_units)); intro D' t1' t2' h' tk' F' N' l'; (have R2 := Rdr.more (q := (D', tup2 (.int uu' t1') (.int vv' t2'))) R (Ne.symm (Nat.ne_of_lt (l' _ (.head _)))) (Ne.symm (Nat.ne_of_lt (l' _ (.tail _ (.head _)))))); (have N2 : News _ _ _ ((r.rd, rdO r) :: (r.d, rdD r p tp) :: (D', tup2 (.int uu' t1') (.int vv' t2')) :: rest) := newsSub N' (by kcf_all)); clear N')
  k_with "call ref" => (k_dflt (refine' c_isWhole ?k1 ?k2 ?k3 ?k4 ?k5 ?k6 ?k7 ?k8 ?_; (case k1 => k_asm); (case k2 => k_asm); (case k3 => k_in); (case k4 => first | k_asm | exact newsDup (by assumption) (by k_mem)); (case k5 => k_asm); (case k6 => first | rfl | assumption); (case k7 => ktr_room); (case k8 => ktr_units)); intro b' h' tk' hb' F' N')
  k_with "call ref" => ((with_reducible show wpAny _ _ (call (Value.ref 110) _ _) _ _ _); (have hv0 := whole_zero hb' (by assumption)); subst hv0; k_dflt (refine' c_wholeOf ?k1 ?k2 ?k3 ?k4 ?k5 ?k6 ?k7 ?k8 ?_; (case k1 => k_asm); (case k2 => k_asm); (case k3 => k_in); (case k4 => first | k_asm | exact newsDup (by assumption) (by k_mem)); (case k5 => k_asm); (case k6 => first | rfl | assumption); (case k7 => ktr_room); (case k8 => ktr_units)); intro t' h' tk' F' N')
  k_with "call ref" => (k_dflt (refine' c_negated ?k1 ?k2 ?k3 ?k4 ?k5 ?k6 ?k7 ?k8 ?_; (case k1 => k_asm); (case k2 => k_asm); (case k3 => k_in); (case k4 => k_asm); (case k5 => k_asm); (case k6 => first | rfl | assumption); (case k7 => ktr_room); (case k8 => ktr_units)); intro D' t1' t2' h' tk' F' N' l')
  trivial
section
variable {w : World} {mean : ExcName → Option Value} {mg mb : PySem.Str → Option Value} {hd : Option Value} {dp un : Nat} {gd : Option (List Code)} {cn : PySem.Str} {cs : Scope} {a : Addr} {ccd : Value} {cl : List (PySem.Str × Addr)} {outer : List Env} {A₀ : Around} {base h₀ : Heap} {L : Addr} {m : PySem.Str → Option Value} {rest : List (Addr × Obj)} {s : Shared} {r : RX} {p : Nat} {tp : Tok}
set_option maxHeartbeats 4000000 in
theorem c_whole {Q E : Value → Shared → Prop}
    (B : Below A₀ base outer h₀) (F : Fr h₀ L s.heap m) (X : (frag.heap_1 w.params).In h₀) (N : News h₀ L s.heap ((r.rd, rdO r) :: (r.d, rdD r p tp) :: rest)) (R : Rdr r rest) (T : Top topProg LS mean mg mb h₀) (hk : cs.kind = .function)
    (hdp : dp + 18 < recursionLimit) (hun : un + 120 < cLine)
    (ret : ∀ i uu v h' tk' t, kindAt r p "number" = true → r.Rw[p]? = some i → NumRow i uu 0 → Fr h₀ L h' m → News h₀ L h' ((r.rd, rdO r) :: (r.d, rdD r (p + 1) t) :: rest) → Q (.int uu v) { s with heap := h', toks := tk' })
    (hexc : (kindAt r p "number" = false ∨ ∃ i uu vv, kindAt r p "number" = true ∧ r.Rw[p]? = some i ∧ NumRow i uu vv ∧ vv ≠ 0) → ∀ e (f : FX) g h' tk', Fr h₀ L g m → Place r p f.u f.v → RaisedD base g (envX cn cs L a ccd cl :: outer) e 65 f.dx (faultL r p tp rest f) h' → g.UpToSlots h' → E (.ref e) { s with heap := h', toks := tk' }) :
    wpAny (model prog w) (Ar none dp un gd cn cs L a ccd cl outer) (call (.ref 288) [.ref r.rd] []) Q E s := by
  w_on
  refine wpAny_call ?_
  k_dflt (refine' code_def  ?k1 ?k2 ?k3 ?k4 ?k5 ?kA ?kF ?kK ?k6 ?k7 ?k8 ?k9 ?kB ?_ ?c2 ?c3 ?c4 ?c5; (case kA => exact rfl); (case kF => exact rfl); (case kK => assumption); (case k1 => k_asm); (case k2 => k_asm); (case k3 => k_asm); (case k4 => k_asm); (case k5 => k_asm); (case k6 => k_is); (case k7 => k_is); (case k8 => ktr_room); (case k9 => first | exact BindsTo.of_eq rfl | exact binds_K (by k_in) rfl (by k_is) rfl rfl rfl); (case c5 => decide); (case kB => exact locs rfl); (case c2 => exact rfl); (case c3 => exact rfl); (case c4 => exact rfl); k_whole; intro g' L' h' FG' F' N' B' X' T'; (try dsimp only); (try k_fold))
  k_steps
  · exact ret _ _ _ _ _ _ (by assumption) i1' hr' (by assumption) (newsSub (by assumption) (by kcf_all))
  · exact hexc (.inr ⟨_, _, _, by assumption, i1', hr', whole_no hb' (by assumption)⟩) _ f' _ _ _ (by assumption) P' (raisedSub R' (by kcf_all)) U'
  · exact hexc (.inl (by assumption)) _ _ _ _ _ (by assumption) P' R' U'
theorem lines15c : True := by
  k_with "call ref" => ((with_reducible show wpAny _ _ (call (Value.ref 124) _ _) _ _ _); (obtain ⟨uu', vv', hr'⟩ := numRow_of (by assumption) (by assumption) i1'); k_dflt (refine' c_readRow hr' ?k1 ?k2 ?k3 ?k4 ?k5 ?k6 ?k7 ?k8 ?_; (case k1 => k_asm); (case k2 => k_asm); (case k3 => k_in); (case k4 => k_asm); (case k5 => k_asm); (case k6 => first | rfl | assumption); (case k7 => ktr_room); (case k8 => ktr_units)); intro D' t1' t2' h' tk' F' N' l')
  trivial
set_option maxHeartbeats 4000000 in
theorem c_signed {Q E : Value → Shared → Prop}
    (B : Below A₀ base outer h₀) (F : Fr h₀ L s.heap m) (X : (frag.heap_1 w.params).In h₀) (N : News h₀ L s.heap ((r.rd, rdO r) :: (r.d, rdD r p tp) :: rest)) (R : Rdr r rest) (T : Top topProg LS mean mg mb h₀) (hk : cs.kind = .function)
    (hdp : dp + 24 < recursionLimit) (hun : un + 160 < cLine)
    (ret : ∀ D x y t1 t2 p' h' tk' t, numAt r p = true → SignedAt r p x y p' → Fr h₀ L h' m → News h₀ L h' ((D, tup2 (.int x t1) (.int y t2)) :: (r.rd, rdO r) :: (r.d, rdD r p' t) :: rest) → (∀ q ∈ ((r.rd, rdO r) :: (r.d, rdD r p' t) :: rest : List (Addr × Obj)), q.1 < D) → Q (.ref D) { s with heap := h', toks := tk' })
    (hexc : numAt r p = false → ∀ e (f : FX) g h' tk', Fr h₀ L g m → Place r p f.u f.v → RaisedD base g (envX cn cs L a ccd cl :: outer) e 65 f.dx (faultL r p tp rest f) h' → g.UpToSlots h' → E (.ref e) { s with heap := h', toks := tk' }) :
    wpAny (model prog w) (Ar none dp un gd cn cs L a ccd cl outer) (call (.ref 281) [.ref r.rd] []) Q E s := by
  w_on
  refine wpAny_call ?_
  k_dflt (refine' code_def  ?k1 ?k2 ?k3 ?k4 ?k5 ?kA ?kF ?kK ?k6 ?k7 ?k8 ?k9 ?kB ?_ ?c2 ?c3 ?c4 ?c5; (case kA => exact rfl); (case kF => exact rfl); (case kK => assumption); (case k1 => k_asm); (case k2 => k_asm); (case k3 => k_asm); (case k4 => k_asm); (case k5 => k_asm); (case k6 => k_is); (case k7 => k_is); (case k8 => ktr_room); (case k9 => first | exact BindsTo.of_eq rfl | exact binds_K (by k_in) rfl (by k_is) rfl rfl rfl); (case c5 => decide); (case kB => exact locs rfl); (case c2 => exact rfl); (case c3 => exact rfl); (case c4 => exact rfl); k_whole; intro g' L' h' FG' F' N' B' X' T'; (try dsimp only); (try k_fold))
  k_steps
  · exact ret _ _ _ _ _ _ _ _ _ (by assumption) (.minus w' kk' i1' hr') (by assumption) (by assumption) l'
  · exact ret _ _ _ _ _ _ _ _ _ (by assumption) (.plus (by assumption) w' kk' i1' hr') (by assumption) (by assumption) l'
  · exact ret _ _ _ _ _ _ _ _ _ (by assumption) (.bare (by assumption) w' kk' i1' hr') (by assumption) (by assumption) l'
  · exact hexc (by assumption) _ _ _ _ _ (by assumption) P' R' U'
end
end
end
-- D16
section
open PySem PySem.W PySem.Calls PyProof.Rows
set_option pp.deepTerms false
set_option pp.deepTerms.threshold 6
set_option pp.maxSteps 20000
set_option format.width 180
set_option Elab.async false
set_option linter.unusedVariables false
set_option maxRecDepth 100000
section
theorem cutD16 : True := by
  k_with_none
  trivial
theorem reg16 : PySem.Challenge.rw_og0089_01 = PySem.Challenge.rw_og0089_01 ∧ frag.heap_1 = frag.heap_1 := by k_fill; exact ⟨rfl, rfl⟩
theorem led_lt {D a b : Nat} {o1 o2 : Obj} {l : List (Addr × Obj)} (h : a < D ∧ b < D ∧ AllLt D l) : ∀ q ∈ ((a, o1) :: (b, o2) :: l : List (Addr × Obj)), q.1 < D := by
  intro q hq
  rcases List.mem_cons.mp hq with rfl | hq
  · exact h.1
  · rcases List.mem_cons.mp hq with rfl | hq
    · exact h.2.1
    · exact allLt_le h.2.2 q hq
theorem lines16 : True := by
  k_with "getAttr ref" => ((with_reducible (refine' tok_kind ?k1 ?k2 ?k3 ?k4 ?k5 ?k6 ?_)); (case k5 => assumption); (case k1 => k_asm); (case k2 => k_in); (case k3 => k_asm); (case k4 => (intro q hq; repeat (first | exact hq | apply List.mem_cons_of_mem))); (case k6 => assumption); intro t')
  k_with "getAttr ref" => ((with_reducible (refine' tok_worth ?k1 ?k2 ?k3 ?k4 ?k5 ?k6 ?_)); (case k5 => assumption); (case k1 => k_asm); (case k2 => k_in); (case k3 => k_asm); (case k4 => (intro q hq; repeat (first | exact hq | apply List.mem_cons_of_mem))); (case k6 => assumption); intro t')
  k_with "getAttr ref" => ((with_reducible (refine' tok_at ?k1 ?k2 ?k3 ?k4 ?k5 ?k6 ?_)); (case k5 => assumption); (case k1 => k_asm); (case k2 => k_in); (case k3 => k_asm); (case k4 => (intro q hq; repeat (first | exact hq | apply List.mem_cons_of_mem))); (case k6 => assumption))
  trivial
section
variable {w : World} {mean : ExcName → Option Value} {mg mb : PySem.Str → Option Value} {hd : Option Value} {dp un : Nat} {gd : Option (List Code)} {cn : PySem.Str} {cs : Scope} {a : Addr} {ccd : Value} {cl : List (PySem.Str × Addr)} {outer : List Env} {A₀ : Around} {base h₀ : Heap} {L : Addr} {m : PySem.Str → Option Value} {rest : List (Addr × Obj)} {s : Shared} {r : RX} {p : Nat} {tp : Tok}
set_option maxHeartbeats 4000000 in
theorem c_told {Q E : Value → Shared → Prop} {k i : Nat} (hi : r.Rw[k]? = some i)
    (B : Below A₀ base outer h₀) (F : Fr h₀ L s.heap m) (X : (frag.heap_1 w.params).In h₀) (N : News h₀ L s.heap ((r.rd, rdO r) :: (r.d, rdD r p tp) :: rest)) (R : Rdr r rest) (T : Top topProg LS mean mg mb h₀) (hk : cs.kind = .function)
    (hdp : dp + 2 < recursionLimit) (hun : un + 20 < cLine)
    (ret : ∀ D t u h' tk', Fr h₀ L h' m → News h₀ L h' ((D, tup2 (.str (kd i) t) (.str (wd i) u)) :: (r.rd, rdO r) :: (r.d, rdD r p tp) :: rest) → (∀ q ∈ ((r.rd, rdO r) :: (r.d, rdD r p tp) :: rest : List (Addr × Obj)), q.1 < D) → Q (.ref D) { s with heap := h', toks := tk' }) :
    wpAny (model prog w) (Ar none dp un gd cn cs L a ccd cl outer) (call (.ref 332) [.ref (r.tl k)] []) Q E s := by
  w_on
  refine wpAny_call ?_
  k_dflt (refine' code_def  ?k1 ?k2 ?k3 ?k4 ?k5 ?kA ?kF ?kK ?k6 ?k7 ?k8 ?k9 ?kB ?_ ?c2 ?c3 ?c4 ?c5; (case kA => exact rfl); (case kF => exact rfl); (case kK => assumption); (case k1 => k_asm); (case k2 => k_asm); (case k3 => k_asm); (case k4 => k_asm); (case k5 => k_asm); (case k6 => k_is); (case k7 => k_is); (case k8 => ktr_room); (case k9 => first | exact BindsTo.of_eq rfl | exact binds_K (by k_in) rfl (by k_is) rfl rfl rfl); (case c5 => decide); (case kB => exact locs rfl); (case c2 => exact rfl); (case c3 => exact rfl); (case c4 => exact rfl); k_whole; intro g' L' h' FG' F' N' B' X' T'; (try dsimp only); (try k_fold))
  k_steps
  all_goals exact ret _ _ _ _ _ (by assumption) (by assumption) (led_lt (by assumption))
end
section
variable {w : World} {mean : ExcName → Option Value} {mg mb : PySem.Str → Option Value} {hd : Option Value} {dp un : Nat} {gd : Option (List Code)} {cn : PySem.Str} {cs : Scope} {a : Addr} {ccd : Value} {cl : List (PySem.Str × Addr)} {outer : List Env} {A₀ : Around} {base h₀ : Heap} {L : Addr} {m : PySem.Str → Option Value} {news : List (Addr × Obj)} {s : Shared}
theorem ints_at {vs : List Value} {ns : List Int} (hI : IntsAre vs ns) {i : Nat} (hi : i < ns.length) : ∃ k t, ns[i]? = some k ∧ vs[i]? = some (.int k t) := by
  have hl : i < vs.length := by rw [hI.length]; exact hi
  obtain ⟨k, t, e, hk⟩ := IntsAre.at hI i vs[i] (List.getElem?_eq_getElem hl)
  exact ⟨k, t, hk, by rw [List.getElem?_eq_getElem hl, e]⟩
theorem ints_set {x : Int} {t : Tok} : ∀ {vs : List Value} {ns : List Int} {i : Nat}, IntsAre vs ns → IntsAre (vs.set i (.int x t)) (ns.set i x)
  | _, _, _, .nil => .nil
  | _, _, 0, .cons n u r => .cons x t r
  | _, _, i + 1, .cons n u r => .cons n u (ints_set r)
theorem ki_setL_at {v : Value} : ∀ {l : List Value} {k : Nat}, k < l.length → ki_setL l k v = some (l.set k v)
  | x :: r, 0, _ => rfl
  | x :: r, k + 1, h => by
    unfold ki_setL
    rw [ki_setL_at (l := r) (k := k) (Nat.lt_of_succ_lt_succ h)]
    rfl
section
variable {tp ca : Addr} {q : Nat} {tq : Tok} {n c : Nat} {vs : List Value} {ns : List Int}
abbrev tapeL (tp ca : Addr) (q : Int) (tq : Tok) (n : Nat) (vs : List Value) (c : Nat) (news : List (Addr × Obj)) : List (Addr × Obj) := (tp, listOf #[.ref ca, .int q tq] n) :: (ca, listOf vs.toArray c) :: news
theorem set_tape {A : Around} {E : Value → Shared → Prop} {q v : Int} {t u : Tok} {Q : Unit → Shared → Prop} (hnp : ∀ p ∈ news, p.1 ≠ tp ∧ p.1 ≠ ca) (hne2 : tp ≠ ca) (F : Fr h₀ L s.heap m) (N : News h₀ L s.heap (tapeL tp ca q tq n vs c news))
    (h : ∀ h', Fr h₀ L h' m → News h₀ L h' (tapeL tp ca v u n vs c news) → Q () { s with heap := h' }) : wpAny (model prog w) A (setItem (.ref tp) (.int 1 t) (.int v u)) Q E s :=
  ki_set (q := [.ref ca, .int v u]) F N (by decide) (by decide) rfl (.head (List.forall_mem_cons.mpr ⟨Ne.symm hne2, fun p hp => (hnp p hp).1⟩)) h
theorem item_cells {A : Around} {E : Value → Shared → Prop} {value slice : Expr} {q k : Int} {u : Tok} {Q : Value → Shared → Prop} (hI : IntsAre vs ns) (N : News h₀ L s.heap (tapeL tp ca q tq n vs c news)) (h0 : 0 ≤ k) (h1 : k < (ns.length : Int)) (hn : ns.length ≤ 60)
    (h : ∀ x t, x ∈ ns → Q (.int x t) s)
    (hs : subscripted slice false (.ref ca) (.int k u) = operate [.ref ca, .int k u] (getItem (.ref ca) (.int k u)) := by with_unfolding_all rfl) (hg : ∀ q, letTemporaryGo value (.ref ca) q = pure () := by intro _; with_unfolding_all rfl) :
    wpAny (model prog w) A (subscriptTail value slice (.ref ca) (.int k u)) Q E s := by
  obtain ⟨x, t, hx, hv⟩ := ints_at hI (i := k.toNat) (by omega)
  refine item_list ⟨_, (N _ (.tail _ (.head _))).1, rfl, c, rfl⟩ h0 (by omega) (x := .int x t) ?_ (h x t (List.mem_of_getElem? hx)) hs hg
  rw [List.getElem?_toArray]; exact hv
theorem set_cells {A : Around} {E : Value → Shared → Prop} {q k v : Int} {t u : Tok} {Q : Unit → Shared → Prop} (hI : IntsAre vs ns) (hnp : ∀ p ∈ news, p.1 ≠ tp ∧ p.1 ≠ ca) (hne2 : tp ≠ ca) (h0 : 0 ≤ k) (h1 : k < (ns.length : Int)) (hn : ns.length ≤ 60) (F : Fr h₀ L s.heap m) (N : News h₀ L s.heap (tapeL tp ca q tq n vs c news))
    (h : ∀ h' vs', IntsAre vs' (ns.set k.toNat v) → Fr h₀ L h' m → News h₀ L h' (tapeL tp ca q tq n vs' c news) → Q () { s with heap := h' }) : wpAny (model prog w) A (setItem (.ref ca) (.int k t) (.int v u)) Q E s :=
  ki_set (q := vs.set k.toNat (.int v u)) F N h0 (by omega) (ki_setL_at (by show _ < vs.length; rw [hI.length]; omega)) (.tail hne2 (.head fun p hp => (hnp p hp).2)) fun h' F' N' => h h' _ (ints_set hI) F' N'
end
theorem lines16b : True := by
  k_with "setItem ref int" => (k_dflt (refine' set_tape ?k1 ?k2 ?k3 ?k4 ?_; (case k1 => assumption); (case k2 => assumption); (case k3 => k_asm); (case k4 => k_asm)); intro h' F' N')
  k_with "setItem ref int" => (k_dflt (refine' set_cells ?k1 ?k2 ?k3 ?k5 ?k6 ?k7 ?k8 ?k9 ?_; (case k1 => assumption); (case k2 => assumption); (case k3 => assumption); (case k5 => exact Int.fmod_nonneg_of_pos _ (Int.natCast_pos.mpr hne)); (case k6 => exact Int.fmod_lt_of_pos _ (Int.natCast_pos.mpr hne)); (case k7 => assumption); (case k8 => k_asm); (case k9 => k_asm)); intro h' vs' hI' F' N')
  k_with "subscriptTail" => (k_dflt (refine' item_cells ?k1 ?k2 ?k3 ?k4 ?k5 ?_; (case k1 => assumption); (case k2 => k_asm); (case k3 => first | assumption | exact Int.fmod_nonneg_of_pos _ (Int.natCast_pos.mpr hne)); (case k4 => first | assumption | exact Int.fmod_lt_of_pos _ (Int.natCast_pos.mpr hne)); (case k5 => assumption)); intro x' t' hx')
  trivial
set_option maxHeartbeats 1000000 in
theorem c_draw {tp ca : Addr} {q : Int} {tq tl : Tok} {n c : Nat} {lim : Int} {vs : List Value} {ns : List Int} {Q E : Value → Shared → Prop}
    (B : Below A₀ base outer h₀) (F : Fr h₀ L s.heap m) (X : (frag.heap_1 w.params).In h₀) (N : News h₀ L s.heap (tapeL tp ca q tq n vs c news)) (T : Top topProg LS mean mg mb h₀) (hk : cs.kind = .function)
    (hdp : dp + 2 < recursionLimit) (hun : un + 20 < cLine) (hI : IntsAre vs ns) (hne : 0 < ns.length) (hn : ns.length ≤ 60) (hl0 : 0 < lim) (hl1 : lim ≤ 20) (hnp : ∀ p ∈ news, p.1 ≠ tp ∧ p.1 ≠ ca) (hne2 : tp ≠ ca)
    (ret : ∀ v t t2 vs' ns' h' tk', 0 ≤ v → v < lim → IntsAre vs' ns' → ns'.length = ns.length → Fr h₀ L h' m → News h₀ L h' (tapeL tp ca (q + 1) t2 n vs' c news) → Q (.int v t) { s with heap := h', toks := tk' }) :
    wpAny (model prog w) (Ar none dp un gd cn cs L a ccd cl outer) (call (.ref 346) [.ref tp, .int lim tl] []) Q E s := by
  w_on
  refine wpAny_call ?_
  k_dflt (refine' code_def  ?k1 ?k2 ?k3 ?k4 ?k5 ?kA ?kF ?kK ?k6 ?k7 ?k8 ?k9 ?kB ?_ ?c2 ?c3 ?c4 ?c5; (case kA => exact rfl); (case kF => exact rfl); (case kK => assumption); (case k1 => k_asm); (case k2 => k_asm); (case k3 => k_asm); (case k4 => k_asm); (case k5 => k_asm); (case k6 => k_is); (case k7 => k_is); (case k8 => ktr_room); (case k9 => first | exact BindsTo.of_eq rfl | exact binds_K (by k_in) rfl (by k_is) rfl rfl rfl); (case c5 => decide); (case kB => exact locs rfl); (case c2 => exact rfl); (case c3 => exact rfl); (case c4 => exact rfl); k_whole; intro g' L' h' FG' F' N' B' X' T'; (try dsimp only); (try k_fold))
  k_steps
  all_goals exact ret _ _ _ _ _ _ _ (Int.fmod_nonneg_of_pos _ hl0) (Int.fmod_lt_of_pos _ hl0) hI' (List.length_set ..) (by assumption) (by assumption)
end
end
end
-- D17
section
open PySem PySem.W PySem.Calls PyProof.Rows
set_option pp.deepTerms false
set_option pp.deepTerms.threshold 6
set_option pp.maxSteps 20000
set_option format.width 180
set_option Elab.async false
set_option linter.unusedVariables false
set_option maxRecDepth 100000
section
theorem cutD17 : True := by
  k_with_none
  trivial
theorem reg17 : PySem.Challenge.rw_og0089_01 = PySem.Challenge.rw_og0089_01 ∧ frag.heap_1 = frag.heap_1 := by k_fill; exact ⟨rfl, rfl⟩
theorem allLt_lt2 {D a b : Nat} {l : List (Addr × Obj)} (h : a < D ∧ b < D ∧ AllLt D l) : ∀ q ∈ l, q.1 < D := allLt_le h.2.2
theorem allLt_lt3 {D a b c : Nat} {l : List (Addr × Obj)} (h : a < D ∧ b < D ∧ c < D ∧ AllLt D l) : ∀ q ∈ l, q.1 < D := allLt_le h.2.2.2
noncomputable def valS2 (acc : Int) (c : Nat) : Int := 10 * acc + ((c : Int) - 48)
section
variable {prog : Program} {w : World} {A : Around} {E : Value → Shared → Prop} {s : Shared}
theorem len_eq {x : PySem.Str} {t : Tok} {nb : Int} {Q : Value → Shared → Prop} (hb : (x.length : Int) = nb) (hx : x.length ≤ 1000) (h : ∀ u tk, Q (.int nb u) { s with toks := tk }) : wpAny (model prog w) A (call (.builtin "len") [.str x t]) Q E s := by
  subst hb
  exact P.len_str (by omega) (h _ _)
end
section
variable {prog : Program} {w : World} {A : Around} {E : Value → Shared → Prop} {s : Shared} {env : Env} {h₀ : Heap} {x : PySem.Str} {body : List Stmt} {Q : Flow → Shared → Prop}
theorem signs_inv_eq {x0 : PySem.Str} {t0 : Tok} {m₀ : PySem.Str → Option Value} {news : List (Addr × Obj)} {n0 W : Int} {k0 : Tok} (y : PySem.Str) (step : Int → Nat → Int) (hW : x0.cps.toList.foldl step n0 = W)
    (hxy : x ≠ y) (hh : A.handled = none) (F : Fr h₀ env.locals s.heap m₀) (N : News h₀ env.locals s.heap news) (hy : m₀ y = some (.int n0 k0))
    (turn : ∀ (c : Nat) (acc : Int) t u h tk I oI, c ∈ x0.cps.toList → Fr h₀ env.locals h (fun z => if z = x then some (.str ⟨#[c]⟩ t) else if z = y then some (.int acc u) else m₀ z) → News h₀ env.locals h ((I, oI) :: news) → (∀ p ∈ news, p.1 ≠ I) →
      wpAny (model prog w) A (execs body env) (InvPost h₀ env.locals (fun m' => (∃ u', m' y = some (.int (step acc c) u')) ∧ ∀ z, z ≠ x → z ≠ y → m' z = m₀ z) ((I, oI) :: news) { s with heap := h, toks := tk } Q) E { s with heap := h, toks := tk })
    (done : ∀ (u : PySem.Str → Option Value) v h tk, Fr h₀ env.locals h (fun z => if z = x then u z else if z = y then some (.int W v) else m₀ z) → News h₀ env.locals h news → Q .next { s with heap := h, toks := tk }) :
    wpAny (model prog w) A (pyIter (.str x0 t0)) (fun it s₂ => LoopAtV prog w A h₀ env x body Q E it s₂) E s := by
  subst hW
  exact signs_inv y step hxy hh F N hy turn done
end
theorem lines17 : True := by
  k_with "call builtin:str.partition" => (k_dflt (refine' KXpa.partition ?k1 ?k2 ?k3 ?k4 ?k5 ?k6 ?k7 ?_; (case k4 => assumption); (case k5 => assumption); (case k6 => assumption); (case k1 => k_asm); (case k2 => k_asm); (case k3 => decide); (case k7 => exact Nat.le_trans (by assumption : _ ≤ 1000) (by rw [sizeLine_eq]; decide))); intro D' ta' tb' tc' h' tk' F' N' l1'; (try k_lt l1'))
  k_with "binaryOp Add str str" => (k_dflt (refine' add_eq ?ke ?k3 ?_; (case ke => assumption); (case k3 => omega)); intro t' tk')
  k_with "call builtin:len" => (k_dflt (refine' len_eq ?k1 ?k2 ?_; (case k1 => assumption); (case k2 => assumption)); intro t' tk')
  k_with "pyIter str" => ((with_reducible show wpAny _ _ (pyIter (Value.str _ _)) (fun it s₂ => LoopAtV _ _ _ _ _ _ _ _ _ it s₂) _ _); k_dflt ((with_unfolding_all refine' signs_inv_eq "units" valS2 hW ?k1 ?k2 ?k3 ?k4 ?k5 (fun c' acc' t' u' h' tk' I' oI' hc' F' N' o' => ?_) (fun u' v' h' tk' F' N' => ?_)); (case k1 => decide); (case k2 => rfl); (case k3 => k_asm); (case k4 => k_asm); (case k5 => rfl)))
  k_with "call builtin:str.index" => (k_dflt (refine' index_fig ?k1 ?_; (case k1 => exact Dig.dig (by assumption) _ (by assumption))); intro t' tk')
  k_with "InvEnd" => (k_dflt (refine InvEnd.intro (by assumption) (by assumption) (by k_sub) ⟨⟨_, by with_unfolding_all rfl⟩, by intro z h1 h2; simp only [if_neg h1, if_neg h2]⟩))
  k_with "exec For Name BinOp cons nil" => ((rename Fr _ _ _ _ => lF'); (with_unfolding_all refine' For_invVF lF' ?k1 ?k2 ?_; (case k1 => exact rfl); (case k2 => exact rfl); k_whole))
  k_with "exec For Name BinOp" => ((rename Fr _ _ _ _ => lF'); (with_unfolding_all refine' For_invVF lF' ?k1 ?k2 ?_; (case k1 => exact rfl); (case k2 => exact rfl); k_whole))
  k_with "exec For" => ((rename Fr _ _ _ _ => lF'); (with_unfolding_all refine' For_invVF lF' ?k1 ?k2 ?_; (case k1 => exact rfl); (case k2 => exact rfl); k_whole))
  k_with "exec While BoolOp" => ((cases hD <;> k_dflt (refine whl_start 100 ?_)))
  trivial
section
variable {w : World} {mean : ExcName → Option Value} {mg mb : PySem.Str → Option Value} {hd : Option Value} {dp un : Nat} {gd : Option (List Code)} {cn : PySem.Str} {cs : Scope} {a : Addr} {ccd : Value} {cl : List (PySem.Str × Addr)} {outer : List Env} {A₀ : Around} {base h₀ : Heap} {L : Addr} {m : PySem.Str → Option Value} {news : List (Addr × Obj)} {s : Shared}
set_option maxHeartbeats 2000000 in
theorem c_lawDecimal0 {x a' sp b' y : PySem.Str} {W nb uu vv : Int} {bl : Bool} {tk : Tok} {Q E : Value → Shared → Prop}
    (e1 : (Txt.partition x (PySem.Str.ofString ".")).1 = a') (e2 : (Txt.partition x (PySem.Str.ofString ".")).2.1 = sp) (e3 : (Txt.partition x (PySem.Str.ofString ".")).2.2 = b') (ey : a' ++ b' = y)
    (hx : Dig y) (hl : x.length ≤ 1000) (hl2 : a'.length ≤ 100) (hl3 : b'.length ≤ 100) (hl4 : b'.length ≤ 1000) (hW : y.cps.toList.foldl valS2 0 = W) (hb : (b'.length : Int) = nb) (hD : DecOk W nb uu vv)
    (B : Below A₀ base outer h₀) (F : Fr h₀ L s.heap m) (X : (frag.heap_1 w.params).In h₀) (N : News h₀ L s.heap news) (T : Top topProg LS mean mg mb h₀) (hk : cs.kind = .function)
    (hdp : dp + 12 < recursionLimit) (hun : un + 80 < cLine)
    (ret : ∀ D z t1 t2 h' tk', z = (if bl = true then -uu else uu) → Fr h₀ L h' m → News h₀ L h' ((D, tup2 (.int z t1) (.int vv t2)) :: news) → (∀ q ∈ news, q.1 < D) → Q (.ref D) { s with heap := h', toks := tk' }) :
    wpAny (model prog w) (Ar none dp un gd cn cs L a ccd cl outer) (call (.ref 374) [.str x tk, .bool bl] []) Q E s := by
  w_on
  refine wpAny_call ?_
  k_dflt (refine' code_def  ?k1 ?k2 ?k3 ?k4 ?k5 ?kA ?kF ?kK ?k6 ?k7 ?k8 ?k9 ?kB ?_ ?c2 ?c3 ?c4 ?c5; (case kA => exact rfl); (case kF => exact rfl); (case kK => assumption); (case k1 => k_asm); (case k2 => k_asm); (case k3 => k_asm); (case k4 => k_asm); (case k5 => k_asm); (case k6 => k_is); (case k7 => k_is); (case k8 => ktr_room); (case k9 => first | exact BindsTo.of_eq rfl | exact binds_K (by k_in) rfl (by k_is) rfl rfl rfl); (case c5 => decide); (case kB => exact locs rfl); (case c2 => exact rfl); (case c3 => exact rfl); (case c4 => exact rfl); k_whole; intro g' L' h' FG' F' N' B' X' T'; (try dsimp only); (try k_fold))
  k_steps
  all_goals (refine ret _ _ _ _ _ _ ?e (by assumption) (newsSub (by assumption) (by kcf_all)) ?l; (case l => first | exact allLt_lt (by assumption) | exact allLt_lt2 (by assumption) | exact allLt_lt3 (by assumption)); (case e => first | exact (if_pos (by assumption)).symm | exact (if_neg (ne_true_of_eq_false (by assumption))).symm))
theorem c_lawDecimal {i : Nat} {bl : Bool} {tk : Tok} {uu vv : Int} {Q E : Value → Shared → Prop} (hr : NumRow i uu vv)
    (B : Below A₀ base outer h₀) (F : Fr h₀ L s.heap m) (X : (frag.heap_1 w.params).In h₀) (N : News h₀ L s.heap news) (T : Top topProg LS mean mg mb h₀) (hk : cs.kind = .function)
    (hdp : dp + 12 < recursionLimit) (hun : un + 80 < cLine)
    (ret : ∀ D z t1 t2 h' tk', z = (if bl = true then -uu else uu) → Fr h₀ L h' m → News h₀ L h' ((D, tup2 (.int z t1) (.int vv t2)) :: news) → (∀ q ∈ news, q.1 < D) → Q (.ref D) { s with heap := h', toks := tk' }) :
    wpAny (model prog w) (Ar none dp un gd cn cs L a ccd cl outer) (call (.ref 374) [.str (wd i) tk, .bool bl] []) Q E s := by
  cases hr with
  | r7 =>
    rw [show wd 7 = ⟨#[49, 50]⟩ from by kernel_rfl]
    exact c_lawDecimal0 (a' := ⟨#[49, 50]⟩) (sp := ⟨#[]⟩) (b' := ⟨#[]⟩) (y := ⟨#[49, 50]⟩) (W := 12) (nb := 0) (by decide +kernel) (by decide +kernel) (by decide +kernel) (by decide +kernel) (dig_of [49, 50] rfl (by decide) (by decide)) (by decide) (by decide) (by decide) (by decide) (by decide +kernel) (by decide) (.z _) B F X N T hk hdp hun ret
  | r8 =>
    rw [show wd 8 = ⟨#[49, 46, 53, 48]⟩ from by kernel_rfl]
    exact c_lawDecimal0 (a' := ⟨#[49]⟩) (sp := ⟨#[46]⟩) (b' := ⟨#[53, 48]⟩) (y := ⟨#[49, 53, 48]⟩) (W := 150) (nb := 2) (by decide +kernel) (by decide +kernel) (by decide +kernel) (by decide +kernel) (dig_of [49, 53, 48] rfl (by decide) (by decide)) (by decide) (by decide) (by decide) (by decide) (by decide +kernel) (by decide) .a B F X N T hk hdp hun ret
  | r9 =>
    rw [show wd 9 = ⟨#[48, 48, 55]⟩ from by kernel_rfl]
    exact c_lawDecimal0 (a' := ⟨#[48, 48, 55]⟩) (sp := ⟨#[]⟩) (b' := ⟨#[]⟩) (y := ⟨#[48, 48, 55]⟩) (W := 7) (nb := 0) (by decide +kernel) (by decide +kernel) (by decide +kernel) (by decide +kernel) (dig_of [48, 48, 55] rfl (by decide) (by decide)) (by decide) (by decide) (by decide) (by decide) (by decide +kernel) (by decide) (.z _) B F X N T hk hdp hun ret
  | r10 =>
    rw [show wd 10 = ⟨#[46, 53]⟩ from by kernel_rfl]
    exact c_lawDecimal0 (a' := ⟨#[]⟩) (sp := ⟨#[46]⟩) (b' := ⟨#[53]⟩) (y := ⟨#[53]⟩) (W := 5) (nb := 1) (by decide +kernel) (by decide +kernel) (by decide +kernel) (by decide +kernel) (dig_of [53] rfl (by decide) (by decide)) (by decide) (by decide) (by decide) (by decide) (by decide +kernel) (by decide) .b B F X N T hk hdp hun ret
  | r11 =>
    rw [show wd 11 = ⟨#[48]⟩ from by kernel_rfl]
    exact c_lawDecimal0 (a' := ⟨#[48]⟩) (sp := ⟨#[]⟩) (b' := ⟨#[]⟩) (y := ⟨#[48]⟩) (W := 0) (nb := 0) (by decide +kernel) (by decide +kernel) (by decide +kernel) (by decide +kernel) (dig_of [48] rfl (by decide) (by decide)) (by decide) (by decide) (by decide) (by decide) (by decide +kernel) (by decide) (.z _) B F X N T hk hdp hun ret
end
end
end
-- P1
section
open PySem PySem.W PySem.Calls PyProof.Rows
open Builtin Builtin.Str
set_option Elab.async false
set_option maxRecDepth 100000
section
theorem cutP1 : True := by
  k_with_none
  trivial
/-! Which of the law's seven words the reader keeps: by its own list. -/
noncomputable def mkS (l : List Nat) : PySem.Str := ⟨⟨l⟩⟩
theorem toNat_ofNat {c : Nat} (h : c < 55296) : (Char.ofNat c).toNat = c := by
  have : c.isValidChar := Or.inl h
  unfold Char.ofNat
  rw [dif_pos this]
  rfl
theorem str_codes {s : String} {l : List Nat} (h : s = String.ofList (l.map Char.ofNat)) (hl : l.all (fun c => Nat.blt c 55296) = true) : PySem.Str.ofString s = mkS l := by
  subst h
  rw [Fast.ofString_ofList, List.map_map]
  have : l.map (Char.toNat ∘ Char.ofNat) = l := by
    have H := List.all_eq_true.mp hl
    induction l with
    | nil => rfl
    | cons a r ih =>
      rw [List.map_cons, ih (by rw [List.all_cons, Bool.and_eq_true] at hl; exact hl.2) (fun x hx => H x (.tail _ hx))]
      show (Char.ofNat a).toNat :: r = _
      rw [toNat_ofNat (by have := H a (.head _); exact Nat.blt_eq.mp this)]
  rw [this]; rfl
theorem rs_is : RS = mkS RESl := by
  have : ∃ s : String, RS = PySem.Str.ofString s ∧ s = String.ofList (RESl.map Char.ofNat) := ⟨_, rfl, by kernel_rfl⟩
  obtain ⟨s, h1, h2⟩ := this
  rw [h1, str_codes h2 (by decide +kernel)]
theorem sp_is : (" " : PySem.Str) = ⟨#[32]⟩ := by kernel_rfl
noncomputable def hasN (y : List Nat) : List Nat → Bool
  | [] => false
  | c :: r => Fast.lEq ((c :: r).take y.length) y || hasN y r
theorem hasN_iff {y : List Nat} (hy : y ≠ []) : ∀ {l : List Nat}, hasN y l = true ↔ ∃ i, (l.drop i).take y.length = y
  | [] => by
    constructor
    · intro h; cases h
    · rintro ⟨i, h⟩; rw [List.drop_nil, List.take_nil] at h; exact absurd h.symm hy
  | c :: r => by
    rw [hasN, Bool.or_eq_true, Fast.lEq_iff, hasN_iff hy (l := r)]
    constructor
    · rintro (h | ⟨i, h⟩)
      · exact ⟨0, h⟩
      · exact ⟨i + 1, h⟩
    · rintro ⟨i, h⟩
      cases i with
      | zero => exact .inl h
      | succ i => exact .inr ⟨i, h⟩
theorem resB_list {x : PySem.Str} : resB x = hasN (32 :: x.cps.toList ++ [32]) RESl := by
  rw [Bool.eq_iff_iff, hasN_iff (by simp)]
  unfold resB
  rw [StrLaws.found_iff, rs_is, sp_is]
  have hy : ((⟨#[32]⟩ : PySem.Str) ++ x ++ ⟨#[32]⟩).cps.toList = 32 :: x.cps.toList ++ [32] := by
    rw [Str.cps_append, Str.cps_append, Array.toList_append, Array.toList_append]; rfl
  have hl : ((⟨#[32]⟩ : PySem.Str) ++ x ++ ⟨#[32]⟩).length = (32 :: x.cps.toList ++ [32]).length := by
    show ((⟨#[32]⟩ : PySem.Str) ++ x ++ ⟨#[32]⟩).cps.size = _
    rw [← Array.length_toList, hy]
  constructor
  · rintro ⟨i, _, h⟩
    rw [StrLaws.subAt_eq, hy, hl, beq_iff_eq] at h
    exact ⟨i, h⟩
  · rintro ⟨i, h⟩
    refine ⟨i, ?_, ?_⟩
    · have := congrArg List.length h
      rw [List.length_take, List.length_drop] at this
      rw [hl]
      show i + _ ≤ RESl.toArray.size
      simp only [List.length_append, List.length_cons, List.length_nil] at this ⊢
      rw [List.size_toArray]
      omega
    · rw [StrLaws.subAt_eq, hy, hl, beq_iff_eq]; exact h
noncomputable def keptB (x : PySem.Str) : Bool := [(("MOVE" : PySem.Str)), "END", "ADD", "TO"].any (· == x)
theorem kept_words : (List.range 7).all (fun i => resB (wd i) == keptB (wd i)) = true := by
  rw [show (fun i => resB (wd i) == keptB (wd i)) = (fun i => hasN (32 :: (wd i).cps.toList ++ [32]) RESl == keptB (wd i)) from funext fun i => by rw [resB_list]]
  decide +kernel
theorem kinds : (List.range 19).all (fun i => !(kd i == "word") || Nat.blt i 7) = true := by decide +kernel
theorem kept_law {i : Nat} (h : i < 19) (k : (kd i == "word") = true) : resB (wd i) = keptB (wd i) := by
  have h1 := List.all_eq_true.mp kinds i (List.mem_range.mpr h)
  rw [k] at h1
  exact beq_iff_eq.mp (List.all_eq_true.mp kept_words i (List.mem_range.mpr (Nat.blt_eq.mp h1)))
end
end
-- D18
section
open PySem PySem.W PySem.Calls PyProof.Rows
set_option pp.deepTerms false
set_option pp.deepTerms.threshold 6
set_option pp.maxSteps 20000
set_option format.width 180
set_option Elab.async false
set_option linter.unusedVariables false
set_option maxRecDepth 100000
section
theorem cutD18 : True := by
  k_with_none
  trivial
theorem reg18 : PySem.Challenge.rw_og0089_01 = PySem.Challenge.rw_og0089_01 ∧ frag.heap_1 = frag.heap_1 := by k_fill; exact ⟨rfl, rfl⟩
/-! What an ask answers: its worth, and where the reader stands behind it. -/
inductive RV
  | none
  | bool (b : Bool)
  | str (x : PySem.Str)
  | pair (x y : PySem.Str)
  | names (l : List PySem.Str)
  | dec (x y : Int)
  | int (x : Int)
  | bytes (x : Array UInt8)
noncomputable def rowA (r : RX) (p : Nat) : Nat := (r.Rw[p]?).getD 0
noncomputable def wdA (r : RX) (p : Nat) : PySem.Str := match r.Rw[p]? with | some i => wd i | none => ""
noncomputable def kdA (r : RX) (p : Nat) : PySem.Str := match r.Rw[p]? with | some i => kd i | none => ""
noncomputable def numU (i : Nat) : Int := [0, 0, 0, 0, 0, 0, 0, 12, 15, 7, 5, 0].getD i 0
noncomputable def numV (i : Nat) : Int := [0, 0, 0, 0, 0, 0, 0, 0, 1, 0, 1, 0].getD i 0
theorem numRow_is {i : Nat} {uu vv : Int} (h : NumRow i uu vv) : uu = numU i ∧ vv = numV i := by cases h <;> exact ⟨rfl, rfl⟩
noncomputable def oneOf (r : RX) (p : Nat) : Option PySem.Str := if wordAt r p sTO then some sTO else if wordAt r p sA then some sA else if wordAt r p sEND then some sEND else none
def oneDue (p : Nat) : Option PySem.Str → Option (RV × Nat)
  | some x => some (.str x, p + 1)
  | none => some (.str "", p)
noncomputable def pairAt (r : RX) (p : Nat) : Bool := wordAt r p sEND && wordAt r (p + 1) sADD
noncomputable def dueL (r : RX) (p : Nat) : List (Option (RV × Nat)) := [
  some (.bool (pairAt r p), p),
  some (.bool (pairAt r p), if pairAt r p = true then p + 2 else p),
  if wordAt r p "MOVE" = true then some (.none, p + 1) else none,
  oneDue p (oneOf r p),
  if nameAt r p = true then some (.str (wdA r p), p + 1) else none,
  if nameAt r p = true then some (.names (takeNames (r.Rw.drop p)), p + (takeNames (r.Rw.drop p)).length) else none,
  if numAt r p = true then (if signAt r p "-" = true then some (.dec (-numU (rowA r (p + 1))) (numV (rowA r (p + 1))), p + 2) else if signAt r p "+" = true then some (.dec (numU (rowA r (p + 1))) (numV (rowA r (p + 1))), p + 2) else some (.dec (numU (rowA r p)) (numV (rowA r p)), p + 1)) else none,
  if (kindAt r p "number" && (numV (rowA r p) == 0)) = true then some (.int (numU (rowA r p)), p + 1) else none,
  if kindAt r p "literal" = true then some (.str (wdA r p), p + 1) else none,
  if (kindAt r p "literal" && smallB (wdA r p)) = true then some (.bytes (octOf (wdA r p)), p + 1) else none,
  some (.bool (signAt r p "-"), if signAt r p "-" = true then p + 1 else p),
  if signAt r p "(" = true then some (.none, p + 1) else none,
  match r.Rw[p]? with | some i => some (.pair (kd i) (wd i), p + 1) | none => none,
  if kindAt r p "word" = true then some (.str (wdA r p), p + 1) else none,
  some (.bool (decide (r.Rw.length ≤ p)), p),
  some (.bool (nameAt r p), p),
  some (.bool (numAt r p), p),
  some (.bool (kindAt r (p + 1) "sign"), p)]
noncomputable def dueF (r : RX) (p ask : Nat) : Option (RV × Nat) := (dueL r p).getD ask none
def Has (h₀ : Heap) (nx : List (Addr × Obj)) (a : Addr) (o : Obj) : Prop := (a, o) ∈ nx ∨ h₀.get? a = some o
def Sh (h₀ : Heap) (nx : List (Addr × Obj)) : RV → Value → Prop
  | .none, v => v = .none
  | .bool b, v => v = .bool b
  | .str x, v => ∃ t, v = .str x t
  | .pair x y, v => ∃ a t u, v = .ref a ∧ Has h₀ nx a (tup2 (.str x t) (.str y u))
  | .names l, v => ∃ D ts c, v = .ref D ∧ (D, strL ts c) ∈ nx ∧ ts.map (·.1) = l ∧ ts.length ≤ 10
  | .dec x y, v => ∃ D t u, v = .ref D ∧ (D, tup2 (.int x t) (.int y u)) ∈ nx
  | .int x, v => ∃ t, v = .int x t
  | .bytes x, v => ∃ t, v = .bytes x t
theorem Has.more {h₀ : Heap} {nx nx' : List (Addr × Obj)} {a : Addr} {o : Obj} (x : Has h₀ nx a o) (k : ∀ q ∈ nx, q ∈ nx') : Has h₀ nx' a o := x.imp (k _) id
theorem Sh.more {h₀ : Heap} {nx nx' : List (Addr × Obj)} (k : ∀ q ∈ nx, q ∈ nx') : ∀ {rv : RV} {v : Value}, Sh h₀ nx rv v → Sh h₀ nx' rv v
  | .none, _, h => h
  | .bool _, _, h => h
  | .str _, _, h => h
  | .pair _ _, _, ⟨a, t, u, e, h⟩ => ⟨a, t, u, e, h.more k⟩
  | .names _, _, ⟨D, ts, c, e, h, r⟩ => ⟨D, ts, c, e, k _ h, r⟩
  | .dec _ _, _, ⟨D, t, u, e, h⟩ => ⟨D, t, u, e, k _ h⟩
  | .int _, _, h => h
  | .bytes _, _, h => h
/-! The code table of _law_asked: 381, in the ledger. -/
abbrev LQ : PySem.Str := (envX "_law_asked" { kind := .function, names := [], isGenerator := false, isCoroutine := false } 0 0 (.ref 385) []).qual ++ "<lambda>"
structure TG (r : RX) (ps : Array Value) (rest : List (Addr × Obj)) : Prop where
  tr : TriplesOk ps.toList
  rdr : Rdr r rest
  code : ∀ pos cv, codeAmong pos ps.toList = some cv → ∃ c' oc vs t, cv = .ref c' ∧ (c', oc) ∈ rest ∧ oc.data = .fields vs ∧ vs[1]? = some (.str LQ t)
  ne : ∀ q ∈ rest, q.1 ≠ 381
  n1 : (381 : Nat) ≠ r.rd
  n2 : (381 : Nat) ≠ r.d
theorem TG.more {r : RX} {ps : Array Value} {rest : List (Addr × Obj)} {q : Addr × Obj} (G : TG r ps rest) (h1 : q.1 ≠ r.rd) (h2 : q.1 ≠ r.d) (h3 : q.1 ≠ 381) : TG r ps (q :: rest) :=
  ⟨G.tr, G.rdr.more h1 h2, fun pos cv h => by
    obtain ⟨c', oc, vs, t, e, hm, r⟩ := G.code pos cv h
    exact ⟨c', oc, vs, t, e, .tail _ hm, r⟩, List.forall_mem_cons.mpr ⟨h3, G.ne⟩, G.n1, G.n2⟩
theorem TG.rd {r : RX} {ps : Array Value} {rest : List (Addr × Obj)} (G : TG r ps rest) : Rdr r ((381, tabObj ps) :: rest) := G.rdr.more G.n1 G.n2
theorem among_snoc {pos : Pos} {a b : Int} {c cv : Value} (l : List Value) (h : TriplesOk l) (hf : codeAmong pos (l ++ [rawInt a, rawInt b, c]) = some cv) : codeAmong pos l = some cv ∨ cv = c := by
  fun_induction TriplesOk l with
  | case1 =>
    right
    simp only [List.nil_append, rawInt, codeAmong] at hf
    split at hf
    · exact (Option.some.inj hf).symm
    · cases hf
  | case2 a' t b' u x rest ih =>
    simp only [List.cons_append, codeAmong] at hf ⊢
    split at hf
    · rename_i hc; rw [if_pos hc]; exact .inl hf
    · rename_i hc; rw [if_neg hc]; exact ih h hf
  | case3 l h1 h2 => exact h.elim
section
variable {M : Model} {A : Around} {E : Value → Shared → Prop} {s : Shared} {h₀ : Heap} {L a : Addr} {m mg mb : PySem.Str → Option Value} {cn : PySem.Str} {cs : Scope} {ccd : Value} {cl : List (PySem.Str × Addr)} {rest : List (Addr × Obj)} {r : RX} {p : Nat} {tp : Tok}
  {P : Program} {loose : List PySem.Str} {mean : ExcName → Option Value} {params : Arguments} {body : Expr} {scope : Scope} {ps : Array Value} {pos : Pos} {clos : List (PySem.Str × Addr)}
theorem lam_eval {Q : Value → Shared → Prop} (F : Fr h₀ L s.heap m) (N : News h₀ L s.heap ((r.rd, rdO r) :: (r.d, rdD r p tp) :: (381, tabObj ps) :: rest)) (T : Top P loose mean mg mb h₀) (C : CodeHd h₀ 385 381) (G : TG r ps rest)
    (hcd : ccd = .ref 385) (hq : (envX cn cs L a ccd cl).qual ++ "<lambda>" = LQ) (hdef : defaultsOf params (envX cn cs L a ccd cl) = ([], [])) (hcl : closureFor scope (envX cn cs L a ccd cl) = pure clos)
    (h : ∀ f c' oc vs t ctv ps' h' tk, TG r ps' ((f, kla_obj "<lambda>" LQ params body scope clos ((mg "__name__").getD .none) c' ctv) :: (c', oc) :: rest) → Fr h₀ L h' m →
      News h₀ L h' ((r.rd, rdO r) :: (r.d, rdD r p tp) :: (381, tabObj ps') :: (f, kla_obj "<lambda>" LQ params body scope clos ((mg "__name__").getD .none) c' ctv) :: (c', oc) :: rest) →
      oc.data = .fields vs → vs[1]? = some (.str LQ t) → Q (.ref f) { s with heap := h', toks := tk }) :
    wpAny M A (eval (.Lambda params body scope pos) (envX cn cs L a ccd cl)) Q E s := by
  refine kla_eval hdef ?_
  rw [hq]
  cases hc : codeAmong pos ps.toList with
  | none =>
    refine kla_nest (clos := clos) F N T C hcd (.tail (Ne.symm G.n1) (.tail (Ne.symm G.n2) (.head G.ne))) G.tr hc hcl fun f c' oc vs t ctv h' tk F' N' d1 d2 l1 l2 => ?_
    have b1 := l1 _ (.head _)
    have b2 := l1 _ (.tail _ (.head _))
    have b3 := l1 _ (.tail _ (.tail _ (.head _)))
    refine h f c' oc vs t ctv (ps ++ #[rawInt pos.line, rawInt pos.col, .ref c']) h' tk ⟨?_, ((G.rdr.more (Nat.ne_of_gt b1) (Nat.ne_of_gt b2)).more (Nat.ne_of_gt (Nat.lt_trans b1 l2)) (Nat.ne_of_gt (Nat.lt_trans b2 l2))), fun pos' cv hf => ?_, ?_, G.n1, G.n2⟩ F' (newsSub N' ?_) d1 d2
    · rw [Array.toList_append]; exact TriplesOk_snoc _ _ _ _ G.tr
    · rw [Array.toList_append] at hf
      rcases among_snoc _ G.tr hf with hf | rfl
      · obtain ⟨c₂, o₂, vs₂, t₂, e, hm, x⟩ := G.code pos' cv hf
        exact ⟨c₂, o₂, vs₂, t₂, e, .tail _ (.tail _ hm), x⟩
      · exact ⟨c', oc, vs, t, rfl, .tail _ (.head _), d1, d2⟩
    · exact List.forall_mem_cons.mpr ⟨Nat.ne_of_gt (Nat.lt_trans b3 l2), List.forall_mem_cons.mpr ⟨Nat.ne_of_gt b3, G.ne⟩⟩
    · kcf_all
  | some cv =>
    obtain ⟨c', oc, vs, t, rfl, hm, d1, d2⟩ := G.code pos cv hc
    refine kla_hit (clos := clos) F N T C hcd (.tail _ (.tail _ (.head _))) G.tr hc hcl fun f ctv h' tk F' N' l1 => ?_
    have b1 := l1 _ (.head _)
    have b2 := l1 _ (.tail _ (.head _))
    have b3 := l1 _ (.tail _ (.tail _ (.head _)))
    refine h f c' oc vs t ctv _ h' tk ((G.more (G.rdr.nrd _ hm) (G.rdr.nd _ hm) (G.ne _ hm)).more (Nat.ne_of_gt b1) (Nat.ne_of_gt b2) (Nat.ne_of_gt b3)) F' (fun q hq => ?_) d1 d2
    rcases List.mem_cons.mp hq with rfl | hq
    · exact N' _ (.tail _ (.head _))
    · rcases List.mem_cons.mp hq with rfl | hq
      · exact N' _ (.tail _ (.tail _ (.head _)))
      · rcases List.mem_cons.mp hq with rfl | hq
        · exact N' _ (.tail _ (.tail _ (.tail _ (.head _))))
        · rcases List.mem_cons.mp hq with rfl | hq
          · exact N' _ (.head _)
          · rcases List.mem_cons.mp hq with rfl | hq
            · exact N' _ (.tail _ (.tail _ (.tail _ (.tail _ hm))))
            · exact N' _ (.tail _ (.tail _ (.tail _ (.tail _ hq))))
end
end
end
-- P3
section
open PySem PySem.W PySem.Calls PyProof.Rows
set_option Elab.async false
set_option maxRecDepth 100000
section
theorem cutP3 : True := by
  k_with_none
  trivial
/-! What each ask is due, by what the contracts of the reader tell. -/
section
variable {r : RX} {p p' i : Nat} {x y uu vv : Int}
theorem rowA_is (h : r.Rw[p]? = some i) : rowA r p = i := by unfold rowA; rw [h]; rfl
theorem wdA_is (h : r.Rw[p]? = some i) : wdA r p = wd i := by unfold wdA; rw [h]
theorem kdA_is (h : r.Rw[p]? = some i) : kdA r p = kd i := by unfold kdA; rw [h]
theorem due_of {i : Nat} {o : Option (RV × Nat)} (h : (dueL r p)[i]? = some o) : dueF r p i = o := by unfold dueF; rw [List.getD_eq_getElem?_getD, h]; rfl
theorem due0 {b : Bool} (e : b = (wordAt r p sEND && wordAt r (p + 1) sADD)) : dueF r p 0 = some (.bool b, p) := by subst e; exact due_of rfl
theorem due1T (w : (wordAt r p sEND && wordAt r (p + 1) sADD) = true) : dueF r p 1 = some (.bool true, p + 2) :=
  due_of (show some (some (RV.bool (pairAt r p), if pairAt r p = true then p + 2 else p)) = _ by rw [show pairAt r p = true from w]; rfl)
theorem due1F (w : (wordAt r p sEND && wordAt r (p + 1) sADD) = false) : dueF r p 1 = some (.bool false, p) :=
  due_of (show some (some (RV.bool (pairAt r p), if pairAt r p = true then p + 2 else p)) = _ by rw [show pairAt r p = false from w]; rfl)
theorem due2T (w : wordAt r p "MOVE" = true) : dueF r p 2 = some (.none, p + 1) := due_of (congrArg some (if_pos w))
theorem due2F (w : wordAt r p "MOVE" = false) : dueF r p 2 = none := due_of (congrArg some (if_neg (ne_true_of_eq_false w)))
theorem due3 {o : Option PySem.Str} (w : (if wordAt r p sTO then some sTO else if wordAt r p sA then some sA else if wordAt r p sEND then some sEND else none) = o) : dueF r p 3 = oneDue p o := by subst w; exact due_of rfl
theorem due4T (n : nameAt r p = true) (i1 : r.Rw[p]? = some i) : dueF r p 4 = some (.str (wd i), p + 1) := by rw [← wdA_is i1]; exact due_of (congrArg some (if_pos n))
theorem due4F (n : nameAt r p = false) : dueF r p 4 = none := due_of (congrArg some (if_neg (ne_true_of_eq_false n)))
theorem due5T {l : List (PySem.Str × Tok)} (n : nameAt r p = true) (J : NJ r p p' l) (e : l.map (·.1) = takeNames (r.Rw.drop p)) : dueF r p 5 = some (.names (l.map (·.1)), p') := by
  have h : p' = p + (takeNames (r.Rw.drop p)).length := by rw [← e, List.length_map]; exact J.at'
  rw [e, h]; exact due_of (congrArg some (if_pos n))
theorem due5F (n : nameAt r p = false) : dueF r p 5 = none := due_of (congrArg some (if_neg (ne_true_of_eq_false n)))
theorem due6T (n : numAt r p = true) (S : SignedAt r p x y p') : dueF r p 6 = some (.dec x y, p') := by
  refine due_of (congrArg some ((if_pos n).trans ?_))
  cases S with
  | minus w k i1 h => rw [if_pos w, rowA_is i1, ← (numRow_is h).1, ← (numRow_is h).2]
  | plus w w2 k i1 h => rw [if_neg (ne_true_of_eq_false w), if_pos w2, rowA_is i1, ← (numRow_is h).1, ← (numRow_is h).2]
  | bare w w2 k i1 h => rw [if_neg (ne_true_of_eq_false w), if_neg (ne_true_of_eq_false w2), rowA_is i1, ← (numRow_is h).1, ← (numRow_is h).2]
theorem due6F (n : numAt r p = false) : dueF r p 6 = none := due_of (congrArg some (if_neg (ne_true_of_eq_false n)))
theorem due7T (k : kindAt r p "number" = true) (i1 : r.Rw[p]? = some i) (h : NumRow i uu 0) : dueF r p 7 = some (.int uu, p + 1) := by
  refine due_of (congrArg some ((if_pos ?_).trans ?_))
  · rw [k, rowA_is i1, ← (numRow_is h).2]; rfl
  · rw [rowA_is i1, ← (numRow_is h).1]
theorem due7F (h : kindAt r p "number" = false ∨ ∃ i uu vv, kindAt r p "number" = true ∧ r.Rw[p]? = some i ∧ NumRow i uu vv ∧ vv ≠ 0) : dueF r p 7 = none := by
  refine due_of (congrArg some (if_neg (ne_true_of_eq_false ?_)))
  rcases h with k | ⟨i, uu, vv, k, i1, h, hv⟩
  · rw [k, Bool.false_and]
  · rw [rowA_is i1, ← (numRow_is h).2, k, Bool.true_and]; exact beq_eq_false_iff_ne.mpr hv
theorem due8T (k : kindAt r p "literal" = true) (i1 : r.Rw[p]? = some i) : dueF r p 8 = some (.str (wd i), p + 1) := by rw [← wdA_is i1]; exact due_of (congrArg some (if_pos k))
theorem due8F (k : kindAt r p "literal" = false) : dueF r p 8 = none := due_of (congrArg some (if_neg (ne_true_of_eq_false k)))
theorem due9T (k : kindAt r p "literal" = true) (i1 : r.Rw[p]? = some i) (s : smallB (wd i) = true) : dueF r p 9 = some (.bytes (octOf (wd i)), p + 1) := by
  rw [← wdA_is i1] at s ⊢
  exact due_of (congrArg some (if_pos (by rw [k, s]; rfl)))
theorem due9F (h : kindAt r p "literal" = false ∨ ∃ i, r.Rw[p]? = some i ∧ smallB (wd i) = false) : dueF r p 9 = none := by
  refine due_of (congrArg some (if_neg (ne_true_of_eq_false ?_)))
  rcases h with k | ⟨i, i1, s⟩
  · rw [k, Bool.false_and]
  · rw [wdA_is i1, s, Bool.and_false]
theorem due10T (w : signAt r p "-" = true) : dueF r p 10 = some (.bool true, p + 1) :=
  due_of (show some (some (RV.bool (signAt r p "-"), if signAt r p "-" = true then p + 1 else p)) = _ by rw [w]; rfl)
theorem due10F (w : signAt r p "-" = false) : dueF r p 10 = some (.bool false, p) :=
  due_of (show some (some (RV.bool (signAt r p "-"), if signAt r p "-" = true then p + 1 else p)) = _ by rw [w]; rfl)
theorem due11T (w : signAt r p "(" = true) : dueF r p 11 = some (.none, p + 1) := due_of (congrArg some (if_pos w))
theorem due11F (w : signAt r p "(" = false) : dueF r p 11 = none := due_of (congrArg some (if_neg (ne_true_of_eq_false w)))
theorem due12T (i1 : r.Rw[p]? = some i) : dueF r p 12 = some (.pair (kd i) (wd i), p + 1) :=
  due_of (congrArg some (show (match r.Rw[p]? with | some i => some (RV.pair (kd i) (wd i), p + 1) | none => none) = _ by rw [i1]))
theorem due12F (i1 : r.Rw[p]? = none) : dueF r p 12 = none :=
  due_of (congrArg some (show (match r.Rw[p]? with | some i => some (RV.pair (kd i) (wd i), p + 1) | none => none) = _ by rw [i1]))
theorem due13T (k : kindAt r p "word" = true) (i1 : r.Rw[p]? = some i) : dueF r p 13 = some (.str (wd i), p + 1) := by rw [← wdA_is i1]; exact due_of (congrArg some (if_pos k))
theorem due13F (k : kindAt r p "word" = false) : dueF r p 13 = none := due_of (congrArg some (if_neg (ne_true_of_eq_false k)))
theorem due14 : dueF r p 14 = some (.bool (decide (r.Rw.length ≤ p)), p) := due_of rfl
theorem due15 : dueF r p 15 = some (.bool (nameAt r p), p) := due_of rfl
theorem due16 : dueF r p 16 = some (.bool (numAt r p), p) := due_of rfl
theorem due17 : dueF r p 17 = some (.bool (kindAt r (p + 1) "sign"), p) := due_of rfl
theorem news_apart {h₀ h : Heap} {L : Addr} {nx : List (Addr × Obj)} {a b : Addr} {o u : Obj} (N : News h₀ L h nx) (ha : (a, o) ∈ nx) (hb : (b, u) ∈ nx) (hne : o.cls ≠ u.cls) : a ≠ b := by
  rintro rfl
  have h1 := (N _ ha).1
  have h2 := (N _ hb).1
  rw [h1] at h2
  exact hne (congrArg Obj.cls (Option.some.inj h2))
theorem names_few {l : List (PySem.Str × Tok)} (R : r.Rw.length ≤ 10) (J : NJ r p p' l) : l.length ≤ 10 := by have := J.at'; have := J.le; omega
end
end
end
section
open PySem PySem.W PySem.Calls PyProof.Rows
local macro_rules | `(tactic| k_room) => `(tactic| ((try simp only [depth_under_make, depth_under_kw, depth_in1, depth_deeper]); (try dsimp only [Ar, Around.mark, Around.deeper]); omega))
-- D19
section
open PySem PySem.W PySem.Calls PyProof.Rows
set_option pp.deepTerms false
set_option pp.deepTerms.threshold 6
set_option pp.maxSteps 20000
set_option format.width 180
set_option Elab.async false
set_option linter.unusedVariables false
set_option maxRecDepth 100000
section
theorem cutD19 : True := by
  k_with_none
  trivial
theorem reg19 : PySem.Challenge.rw_og0089_01 = PySem.Challenge.rw_og0089_01 ∧ frag.heap_1 = frag.heap_1 := by k_fill; exact ⟨rfl, rfl⟩
theorem lines19 : True := by
  k_with "eval Lambda" => (k_dflt (refine' lam_eval ?kF ?kN ?kT ?kC ?kG ?cd ?q ?d ?cl ?_; (case kG => assumption); (case kF => k_asm); (case kN => assumption); (case kT => k_asm); (case kC => assumption); (case cd => rfl); (case q => rfl); (case d => rfl); (case cl => rfl); k_whole); intro f' c' oc' vs' t' ct' ps' h' tk' G' F' N' d1' d2')
  k_with "leaving ref" => (k_dflt (refine' leaveD_onX ?k1 ?k2 ?kf ?k3 ?k4 ?_; (case k3 => assumption); (case k1 => assumption); (case kf => rfl); (case k4 => assumption); (case k2 => assumption)); k_whole; intro h' R' U'; (try dsimp only at R' U' ⊢))
  k_with "subscriptTail" => (((have hz' : z = 0 ∨ z = 1 ∨ z = 2 ∨ z = 3 := by omega); (have R9 := TG.rd (by assumption)); rcases hz' with rfl | rfl | rfl | rfl))
  k_with "call ref" => (k_dflt (refine' c_isWord2 ?k1 ?k2 ?k3 ?k4 ?kR ?k5 ?k6 ?k7 ?k8  (fun b' h' tk' e' F' N' => ?_); (case kR => assumption); (case k1 => k_asm); (case k2 => k_asm); (case k3 => k_in); (case k4 => first | k_asm | exact newsSub (by assumption) (by kcf_all)); (case k5 => k_asm); (case k6 => first | rfl | assumption); (case k7 => ktr_room); (case k8 => ktr_units)))
  k_with "call ref" => (k_dflt (refine' c_skip2 ?k1 ?k2 ?k3 ?k4 ?kR ?k5 ?k6 ?k7 ?k8  (fun h' tk' t' w' F' N' => ?_) (fun h' tk' w' F' N' => ?_); (case kR => assumption); (case k1 => k_asm); (case k2 => k_asm); (case k3 => k_in); (case k4 => first | k_asm | exact newsSub (by assumption) (by kcf_all)); (case k5 => k_asm); (case k6 => first | rfl | assumption); (case k7 => ktr_room); (case k8 => ktr_units)))
  k_with "call ref" => (k_dflt (refine' c_need ?k1 ?k2 ?k3 ?k4 ?kR ?k5 ?k6 ?k7 ?k8  (fun h' tk' t' w' F' N' => ?_) (fun w' e' f' g' h' tk' FG' P' R' U' => ?_); (case kR => assumption); (case k1 => k_asm); (case k2 => k_asm); (case k3 => k_in); (case k4 => first | k_asm | exact newsSub (by assumption) (by kcf_all)); (case k5 => k_asm); (case k6 => first | rfl | assumption); (case k7 => ktr_room); (case k8 => ktr_units)))
  k_with "call ref" => (k_dflt (refine' c_oneOf ?k1 ?k2 ?k3 ?k4 ?kR ?k5 ?k6 ?k7 ?k8  (fun x' v' h' tk' t' w' F' N' => ?_) (fun v' h' tk' w' F' N' => ?_); (case kR => assumption); (case k1 => k_asm); (case k2 => k_asm); (case k3 => k_in); (case k4 => first | k_asm | exact newsSub (by assumption) (by kcf_all)); (case k5 => k_asm); (case k6 => first | rfl | assumption); (case k7 => ktr_room); (case k8 => ktr_units)))
  trivial
section
variable {w : World} {mean : ExcName → Option Value} {mg mb : PySem.Str → Option Value} {hd : Option Value} {dp un : Nat} {gd : Option (List Code)} {cn : PySem.Str} {cs : Scope} {a : Addr} {ccd : Value} {cl : List (PySem.Str × Addr)} {outer : List Env} {A₀ : Around} {base h₀ : Heap} {L : Addr} {m : PySem.Str → Option Value} {rest : List (Addr × Obj)} {s : Shared} {r : RX} {p : Nat} {tp : Tok}
set_option maxHeartbeats 1000000 in
theorem c_asked1 {z : Int} {tk : Tok} {ps : Array Value} {Q E : Value → Shared → Prop}
    (B : Below A₀ base outer h₀) (F : Fr h₀ L s.heap m) (X : (frag.heap_1 w.params).In h₀) (N : News h₀ L s.heap ((r.rd, rdO r) :: (r.d, rdD r p tp) :: (381, tabObj ps) :: rest)) (G : TG r ps rest) (T : Top topProg LS mean mg mb h₀) (C : CodeHd h₀ 385 381) (hk : cs.kind = .function)
    (hdp : dp + 40 < 1000) (hun : un + 400 < cLine) (h0 : 0 ≤ z) (h1 : z < 4)
    (ret : ∀ v rv p' t ps' rest' h' tk', dueF r p z.toNat = some (rv, p') → TG r ps' rest' → (∀ q ∈ rest, q ∈ rest') → Sh h₀ rest' rv v → Fr h₀ L h' m → News h₀ L h' ((r.rd, rdO r) :: (r.d, rdD r p' t) :: (381, tabObj ps') :: rest') → Q v { s with heap := h', toks := tk' })
    (hexc : dueF r p z.toNat = none → ∀ e (f : FX) ps' rest' g h' tk', TG r ps' rest' → (∀ q ∈ rest, q ∈ rest') → Fr h₀ L g m → Place r p f.u f.v → RaisedD base g (envX cn cs L a ccd cl :: outer) e 65 f.dx (faultL r p tp ((381, tabObj ps') :: rest') f) h' → g.UpToSlots h' → E (.ref e) { s with heap := h', toks := tk' }) :
    wpAny (model prog w) (Ar none dp un gd cn cs L a ccd cl outer) (call (.ref 386) [.ref r.rd, .int z tk] []) Q E s := by
  have hrL : recursionLimit = 1000 := rfl
  w_on
  refine wpAny_call ?_
  k_dflt (refine' code_defC ?k1 ?k2 ?k3 ?k4 ?k5 ?kA ?kF ?kK ?k6 ?k7 ?k8 ?k9 ?kB ?kD ?_ ?c2 ?c3 ?c4; (case kA => exact rfl); (case kF => exact rfl); (case kK => assumption); (case k1 => k_asm); (case k2 => k_asm); (case k3 => k_asm); (case k4 => k_asm); (case k5 => k_asm); (case k6 => k_is); (case k7 => k_is); (case k8 => ktr_room); (case k9 => first | exact BindsTo.of_eq rfl | exact binds_K (by k_in) rfl (by k_is) rfl rfl rfl); (case kB => exact rfl); (case kD => decide +kernel); (case c2 => exact rfl); (case c3 => exact rfl); (case c4 => exact rfl); k_whole; intro g' L' h' tk' cells' FG' F' N' Y' B' X' T' l1; (try k_lt l1); k_cells Y'; (try simp only [List.cons_append, List.nil_append] at N'); (try dsimp only); (try k_lift B'); (try k_fold))
  rename Obj => o'
  have C' : CodeHd g' 385 381 := C.keeps FG'.keep
  have G1 := G.more (q := (L' + 1, o')) (Nat.ne_of_gt (Nat.lt_succ_of_lt l1.1)) (Nat.ne_of_gt (Nat.lt_succ_of_lt l1.2.1)) (Nat.ne_of_gt (Nat.lt_succ_of_lt l1.2.2.1))
  have N1 : News g' L' h' ((r.rd, rdO r) :: (r.d, rdD r p tp) :: (381, tabObj ps) :: (L' + 1, o') :: rest) := newsSub N' (by kcf_all)
  clear N'
  k_steps
  · exact ret _ _ _ _ _ _ _ _ (due0 e') (by assumption) (by kcf_all) rfl (by assumption) (by assumption)
  · exact ret _ _ _ _ _ _ _ _ (due1T w') (by assumption) (by kcf_all) rfl (by assumption) (by assumption)
  · exact ret _ _ _ _ _ _ _ _ (due1F w') (by assumption) (by kcf_all) rfl (by assumption) (by assumption)
  · exact ret _ _ _ _ _ _ _ _ (due2T w') (by assumption) (by kcf_all) rfl (by assumption) (by assumption)
  · exact hexc (due2F w') _ _ _ _ _ _ _ (by assumption) (by kcf_all) (by assumption) P' R' U'
  · exact ret _ _ _ _ _ _ _ _ (due3 w') (by assumption) (by kcf_all) ⟨_, rfl⟩ (by assumption) (by assumption)
  · exact ret _ _ _ _ _ _ _ _ (due3 w') (by assumption) (by kcf_all) ⟨_, rfl⟩ (by assumption) (by assumption)
end
end
end
-- D21
section
open PySem PySem.W PySem.Calls PyProof.Rows
set_option pp.deepTerms false
set_option pp.deepTerms.threshold 6
set_option pp.maxSteps 20000
set_option format.width 180
set_option Elab.async false
set_option linter.unusedVariables false
set_option maxRecDepth 100000
section
theorem cutD21 : True := by
  k_with_none
  trivial
theorem reg21 : PySem.Challenge.rw_og0089_01 = PySem.Challenge.rw_og0089_01 ∧ frag.heap_1 = frag.heap_1 := by k_fill; exact ⟨rfl, rfl⟩
theorem lines21 : True := by
  k_with "eval Lambda" => (k_dflt (refine' lam_eval ?kF ?kN ?kT ?kC ?kG ?cd ?q ?d ?cl ?_; (case kG => assumption); (case kF => k_asm); (case kN => assumption); (case kT => k_asm); (case kC => assumption); (case cd => rfl); (case q => rfl); (case d => rfl); (case cl => rfl); k_whole); intro f' c' oc' vs' t' ct' ps' h' tk' G' F' N' d1' d2')
  k_with "leaving ref" => (k_dflt (refine' leaveD_onX ?k1 ?k2 ?kf ?k3 ?k4 ?_; (case k3 => assumption); (case k1 => assumption); (case kf => rfl); (case k4 => assumption); (case k2 => assumption)); k_whole; intro h' R' U'; (try dsimp only at R' U' ⊢))
  k_with "subscriptTail" => (((have hz' : (z - 4 = 0 ∧ z = 4) ∨ (z - 4 = 1 ∧ z = 5) ∨ (z - 4 = 2 ∧ z = 6) ∨ (z - 4 = 3 ∧ z = 7) := by omega); (have R9 := TG.rd (by assumption)); rcases hz' with ⟨h9, rfl⟩ | ⟨h9, rfl⟩ | ⟨h9, rfl⟩ | ⟨h9, rfl⟩; (all_goals rw [h9])))
  k_with "call ref" => (k_dflt (refine' c_name ?k1 ?k2 ?k3 ?k4 ?kR ?k5 ?k6 ?k7 ?k8  (fun i' v' h' tk' t' n' i1' F' N' => ?_) (fun n' e' f' g' h' tk' FG' P' R' U' => ?_); (case kR => assumption); (case k1 => k_asm); (case k2 => k_asm); (case k3 => k_in); (case k4 => first | k_asm | exact newsSub (by assumption) (by kcf_all)); (case k5 => k_asm); (case k6 => first | rfl | assumption); (case k7 => ktr_room); (case k8 => ktr_units)))
  k_with "call ref" => (k_dflt (refine' c_names ?k1 ?k2 ?k3 ?k4 ?kR ?k5 ?k6 ?k7 ?k8  (fun D' l' c' h' tk' p' t' n' J' e' F' N' => ?_) (fun n' e' f' g' h' tk' FG' P' R' U' => ?_); (case kR => assumption); (case k1 => k_asm); (case k2 => k_asm); (case k3 => k_in); (case k4 => first | k_asm | exact newsSub (by assumption) (by kcf_all)); (case k5 => k_asm); (case k6 => first | rfl | assumption); (case k7 => ktr_room); (case k8 => ktr_units)))
  k_with "call ref" => (k_dflt (refine' c_signed ?k1 ?k2 ?k3 ?k4 ?kR ?k5 ?k6 ?k7 ?k8  (fun D' x' y' t1' t2' p' h' tk' t' n' S' F' N' l' => ?_) (fun n' e' f' g' h' tk' FG' P' R' U' => ?_); (case kR => assumption); (case k1 => k_asm); (case k2 => k_asm); (case k3 => k_in); (case k4 => first | k_asm | exact newsSub (by assumption) (by kcf_all)); (case k5 => k_asm); (case k6 => first | rfl | assumption); (case k7 => ktr_room); (case k8 => ktr_units)))
  k_with "call ref" => (k_dflt (refine' c_whole ?k1 ?k2 ?k3 ?k4 ?kR ?k5 ?k6 ?k7 ?k8  (fun i' uu' v' h' tk' t' n' i1' w' F' N' => ?_) (fun n' e' f' g' h' tk' FG' P' R' U' => ?_); (case kR => assumption); (case k1 => k_asm); (case k2 => k_asm); (case k3 => k_in); (case k4 => first | k_asm | exact newsSub (by assumption) (by kcf_all)); (case k5 => k_asm); (case k6 => first | rfl | assumption); (case k7 => ktr_room); (case k8 => ktr_units)))
  trivial
section
variable {w : World} {mean : ExcName → Option Value} {mg mb : PySem.Str → Option Value} {hd : Option Value} {dp un : Nat} {gd : Option (List Code)} {cn : PySem.Str} {cs : Scope} {a : Addr} {ccd : Value} {cl : List (PySem.Str × Addr)} {outer : List Env} {A₀ : Around} {base h₀ : Heap} {L : Addr} {m : PySem.Str → Option Value} {rest : List (Addr × Obj)} {s : Shared} {r : RX} {p : Nat} {tp : Tok}
set_option maxHeartbeats 1000000 in
theorem c_asked2 {z : Int} {tk : Tok} {ps : Array Value} {Q E : Value → Shared → Prop}
    (B : Below A₀ base outer h₀) (F : Fr h₀ L s.heap m) (X : (frag.heap_1 w.params).In h₀) (N : News h₀ L s.heap ((r.rd, rdO r) :: (r.d, rdD r p tp) :: (381, tabObj ps) :: rest)) (G : TG r ps rest) (T : Top topProg LS mean mg mb h₀) (C : CodeHd h₀ 385 381) (hk : cs.kind = .function)
    (hdp : dp + 40 < 1000) (hun : un + 400 < cLine) (h0 : 4 ≤ z) (h1 : z < 8)
    (ret : ∀ v rv p' t ps' rest' h' tk', dueF r p z.toNat = some (rv, p') → TG r ps' rest' → (∀ q ∈ rest, q ∈ rest') → Sh h₀ rest' rv v → Fr h₀ L h' m → News h₀ L h' ((r.rd, rdO r) :: (r.d, rdD r p' t) :: (381, tabObj ps') :: rest') → Q v { s with heap := h', toks := tk' })
    (hexc : dueF r p z.toNat = none → ∀ e (f : FX) ps' rest' g h' tk', TG r ps' rest' → (∀ q ∈ rest, q ∈ rest') → Fr h₀ L g m → Place r p f.u f.v → RaisedD base g (envX cn cs L a ccd cl :: outer) e 65 f.dx (faultL r p tp ((381, tabObj ps') :: rest') f) h' → g.UpToSlots h' → E (.ref e) { s with heap := h', toks := tk' }) :
    wpAny (model prog w) (Ar none dp un gd cn cs L a ccd cl outer) (call (.ref 386) [.ref r.rd, .int z tk] []) Q E s := by
  have hrL : recursionLimit = 1000 := rfl
  w_on
  refine wpAny_call ?_
  k_dflt (refine' code_defC ?k1 ?k2 ?k3 ?k4 ?k5 ?kA ?kF ?kK ?k6 ?k7 ?k8 ?k9 ?kB ?kD ?_ ?c2 ?c3 ?c4; (case kA => exact rfl); (case kF => exact rfl); (case kK => assumption); (case k1 => k_asm); (case k2 => k_asm); (case k3 => k_asm); (case k4 => k_asm); (case k5 => k_asm); (case k6 => k_is); (case k7 => k_is); (case k8 => ktr_room); (case k9 => first | exact BindsTo.of_eq rfl | exact binds_K (by k_in) rfl (by k_is) rfl rfl rfl); (case kB => exact rfl); (case kD => decide +kernel); (case c2 => exact rfl); (case c3 => exact rfl); (case c4 => exact rfl); k_whole; intro g' L' h' tk' cells' FG' F' N' Y' B' X' T' l1; (try k_lt l1); k_cells Y'; (try simp only [List.cons_append, List.nil_append] at N'); (try dsimp only); (try k_lift B'); (try k_fold))
  rename Obj => o'
  have C' : CodeHd g' 385 381 := C.keeps FG'.keep
  have G1 := G.more (q := (L' + 1, o')) (Nat.ne_of_gt (Nat.lt_succ_of_lt l1.1)) (Nat.ne_of_gt (Nat.lt_succ_of_lt l1.2.1)) (Nat.ne_of_gt (Nat.lt_succ_of_lt l1.2.2.1))
  have N1 : News g' L' h' ((r.rd, rdO r) :: (r.d, rdD r p tp) :: (381, tabObj ps) :: (L' + 1, o') :: rest) := newsSub N' (by kcf_all)
  clear N'
  k_steps
  · exact ret _ _ _ _ _ _ _ _ (due4T n' i1') (by assumption) (by kcf_all) ⟨_, rfl⟩ (by assumption) (by assumption)
  · exact hexc (due4F n') _ _ _ _ _ _ _ (by assumption) (by kcf_all) (by assumption) P' R' U'
  · rename TG _ _ _ => Gx
    rename News _ _ _ _ => Nx
    exact ret _ _ _ _ _ _ _ _ (due5T n' J' e') (Gx.more (news_apart Nx (.tail _ (.tail _ (.head _))) (.head _) (fun h => by cases (show Value.type "list" = Value.ref 305 from h))) (news_apart Nx (.tail _ (.tail _ (.head _))) (.tail _ (.head _)) (fun h => absurd (Value.type.inj (show Value.type "list" = Value.type "dict" from h)) (by decide))) (news_apart Nx (.tail _ (.tail _ (.head _))) (.tail _ (.tail _ (.tail _ (.head _)))) (fun h => by cases (show Value.type "list" = Value.none from h)))) (by kcf_all) ⟨_, _, _, rfl, .head _, rfl, names_few Gx.rdr.few J'⟩ (by assumption) (newsSub Nx (by kcf_all))
  · exact hexc (due5F n') _ _ _ _ _ _ _ (by assumption) (by kcf_all) (by assumption) P' R' U'
  · rename TG _ _ _ => Gx
    rename News _ _ _ _ => Nx
    exact ret _ _ _ _ _ _ _ _ (due6T n' S') (Gx.more (Ne.symm (Nat.ne_of_lt (l' _ (.head _)))) (Ne.symm (Nat.ne_of_lt (l' _ (.tail _ (.head _))))) (Ne.symm (Nat.ne_of_lt (l' _ (.tail _ (.tail _ (.head _))))))) (by kcf_all) ⟨_, _, _, rfl, .head _⟩ (by assumption) (newsSub Nx (by kcf_all))
  · exact hexc (due6F n') _ _ _ _ _ _ _ (by assumption) (by kcf_all) (by assumption) P' R' U'
  · exact ret _ _ _ _ _ _ _ _ (due7T n' i1' w') (by assumption) (by kcf_all) ⟨_, rfl⟩ (by assumption) (by assumption)
  · exact hexc (due7F n') _ _ _ _ _ _ _ (by assumption) (by kcf_all) (by assumption) P' R' U'
end
end
end
-- D22
section
open PySem PySem.W PySem.Calls PyProof.Rows
set_option pp.deepTerms false
set_option pp.deepTerms.threshold 6
set_option pp.maxSteps 20000
set_option format.width 180
set_option Elab.async false
set_option linter.unusedVariables false
set_option maxRecDepth 100000
section
theorem cutD22 : True := by
  k_with_none
  trivial
theorem reg22 : PySem.Challenge.rw_og0089_01 = PySem.Challenge.rw_og0089_01 ∧ frag.heap_1 = frag.heap_1 := by k_fill; exact ⟨rfl, rfl⟩
theorem lines22 : True := by
  k_with "eval Lambda" => (k_dflt (refine' lam_eval ?kF ?kN ?kT ?kC ?kG ?cd ?q ?d ?cl ?_; (case kG => assumption); (case kF => k_asm); (case kN => assumption); (case kT => k_asm); (case kC => assumption); (case cd => rfl); (case q => rfl); (case d => rfl); (case cl => rfl); k_whole); intro f' c' oc' vs' t' ct' ps' h' tk' G' F' N' d1' d2')
  k_with "leaving ref" => (k_dflt (refine' leaveD_onX ?k1 ?k2 ?kf ?k3 ?k4 ?_; (case k3 => assumption); (case k1 => assumption); (case kf => rfl); (case k4 => assumption); (case k2 => assumption)); k_whole; intro h' R' U'; (try dsimp only at R' U' ⊢))
  k_with "subscriptTail" => (((have hz' : (z - 8 = 0 ∧ z = 8) ∨ (z - 8 = 1 ∧ z = 9) ∨ (z - 8 = 2 ∧ z = 10) ∨ (z - 8 = 3 ∧ z = 11) := by omega); (have R9 := TG.rd (by assumption)); rcases hz' with ⟨h9, rfl⟩ | ⟨h9, rfl⟩ | ⟨h9, rfl⟩ | ⟨h9, rfl⟩; (all_goals rw [h9])))
  k_with "call ref" => (k_dflt (refine' c_literal ?k1 ?k2 ?k3 ?k4 ?kR ?k5 ?k6 ?k7 ?k8  (fun i' v' h' tk' t' n' i1' F' N' => ?_) (fun n' e' f' g' h' tk' FG' P' R' U' => ?_); (case kR => assumption); (case k1 => k_asm); (case k2 => k_asm); (case k3 => k_in); (case k4 => first | k_asm | exact newsSub (by assumption) (by kcf_all)); (case k5 => k_asm); (case k6 => first | rfl | assumption); (case k7 => ktr_room); (case k8 => ktr_units)))
  k_with "call ref" => (k_dflt (refine' c_octets ?k1 ?k2 ?k3 ?k4 ?kR ?k5 ?k6 ?k7 ?k8  (fun i' v' h' tk' t' n' i1' s' F' N' => ?_) (fun n' e' f' g' h' tk' FG' P' R' U' => ?_); (case kR => assumption); (case k1 => k_asm); (case k2 => k_asm); (case k3 => k_in); (case k4 => first | k_asm | exact newsSub (by assumption) (by kcf_all)); (case k5 => k_asm); (case k6 => first | rfl | assumption); (case k7 => ktr_room); (case k8 => ktr_units)))
  k_with "call ref" => (k_dflt (refine' c_skipSign ?k1 ?k2 ?k3 ?k4 ?kR ?k5 ?k6 ?k7 ?k8  (fun h' tk' t' w' F' N' => ?_) (fun h' tk' w' F' N' => ?_); (case kR => assumption); (case k1 => k_asm); (case k2 => k_asm); (case k3 => k_in); (case k4 => first | k_asm | exact newsSub (by assumption) (by kcf_all)); (case k5 => k_asm); (case k6 => first | rfl | assumption); (case k7 => ktr_room); (case k8 => ktr_units)))
  k_with "call ref" => (k_dflt (refine' c_needSign ?k1 ?k2 ?k3 ?k4 ?kR ?k5 ?k6 ?k7 ?k8  (fun h' tk' t' w' F' N' => ?_) (fun w' e' f' g' h' tk' FG' P' R' U' => ?_); (case kR => assumption); (case k1 => k_asm); (case k2 => k_asm); (case k3 => k_in); (case k4 => first | k_asm | exact newsSub (by assumption) (by kcf_all)); (case k5 => k_asm); (case k6 => first | rfl | assumption); (case k7 => ktr_room); (case k8 => ktr_units)))
  trivial
section
variable {w : World} {mean : ExcName → Option Value} {mg mb : PySem.Str → Option Value} {hd : Option Value} {dp un : Nat} {gd : Option (List Code)} {cn : PySem.Str} {cs : Scope} {a : Addr} {ccd : Value} {cl : List (PySem.Str × Addr)} {outer : List Env} {A₀ : Around} {base h₀ : Heap} {L : Addr} {m : PySem.Str → Option Value} {rest : List (Addr × Obj)} {s : Shared} {r : RX} {p : Nat} {tp : Tok}
set_option maxHeartbeats 1000000 in
theorem c_asked3 {z : Int} {tk : Tok} {ps : Array Value} {Q E : Value → Shared → Prop}
    (B : Below A₀ base outer h₀) (F : Fr h₀ L s.heap m) (X : (frag.heap_1 w.params).In h₀) (N : News h₀ L s.heap ((r.rd, rdO r) :: (r.d, rdD r p tp) :: (381, tabObj ps) :: rest)) (G : TG r ps rest) (T : Top topProg LS mean mg mb h₀) (C : CodeHd h₀ 385 381) (hk : cs.kind = .function)
    (hdp : dp + 40 < 1000) (hun : un + 400 < cLine) (h0 : 8 ≤ z) (h1 : z < 12)
    (ret : ∀ v rv p' t ps' rest' h' tk', dueF r p z.toNat = some (rv, p') → TG r ps' rest' → (∀ q ∈ rest, q ∈ rest') → Sh h₀ rest' rv v → Fr h₀ L h' m → News h₀ L h' ((r.rd, rdO r) :: (r.d, rdD r p' t) :: (381, tabObj ps') :: rest') → Q v { s with heap := h', toks := tk' })
    (hexc : dueF r p z.toNat = none → ∀ e (f : FX) ps' rest' g h' tk', TG r ps' rest' → (∀ q ∈ rest, q ∈ rest') → Fr h₀ L g m → Place r p f.u f.v → RaisedD base g (envX cn cs L a ccd cl :: outer) e 65 f.dx (faultL r p tp ((381, tabObj ps') :: rest') f) h' → g.UpToSlots h' → E (.ref e) { s with heap := h', toks := tk' }) :
    wpAny (model prog w) (Ar none dp un gd cn cs L a ccd cl outer) (call (.ref 386) [.ref r.rd, .int z tk] []) Q E s := by
  have hrL : recursionLimit = 1000 := rfl
  w_on
  refine wpAny_call ?_
  k_dflt (refine' code_defC ?k1 ?k2 ?k3 ?k4 ?k5 ?kA ?kF ?kK ?k6 ?k7 ?k8 ?k9 ?kB ?kD ?_ ?c2 ?c3 ?c4; (case kA => exact rfl); (case kF => exact rfl); (case kK => assumption); (case k1 => k_asm); (case k2 => k_asm); (case k3 => k_asm); (case k4 => k_asm); (case k5 => k_asm); (case k6 => k_is); (case k7 => k_is); (case k8 => ktr_room); (case k9 => first | exact BindsTo.of_eq rfl | exact binds_K (by k_in) rfl (by k_is) rfl rfl rfl); (case kB => exact rfl); (case kD => decide +kernel); (case c2 => exact rfl); (case c3 => exact rfl); (case c4 => exact rfl); k_whole; intro g' L' h' tk' cells' FG' F' N' Y' B' X' T' l1; (try k_lt l1); k_cells Y'; (try simp only [List.cons_append, List.nil_append] at N'); (try dsimp only); (try k_lift B'); (try k_fold))
  rename Obj => o'
  have C' : CodeHd g' 385 381 := C.keeps FG'.keep
  have G1 := G.more (q := (L' + 1, o')) (Nat.ne_of_gt (Nat.lt_succ_of_lt l1.1)) (Nat.ne_of_gt (Nat.lt_succ_of_lt l1.2.1)) (Nat.ne_of_gt (Nat.lt_succ_of_lt l1.2.2.1))
  have N1 : News g' L' h' ((r.rd, rdO r) :: (r.d, rdD r p tp) :: (381, tabObj ps) :: (L' + 1, o') :: rest) := newsSub N' (by kcf_all)
  clear N'
  k_steps
  · exact ret _ _ _ _ _ _ _ _ (due8T n' i1') (by assumption) (by kcf_all) ⟨_, rfl⟩ (by assumption) (by assumption)
  · exact hexc (due8F n') _ _ _ _ _ _ _ (by assumption) (by kcf_all) (by assumption) P' R' U'
  · exact ret _ _ _ _ _ _ _ _ (due9T n' i1' s') (by assumption) (by kcf_all) ⟨_, rfl⟩ (by assumption) (by assumption)
  · exact hexc (due9F n') _ _ _ _ _ _ _ (by assumption) (by kcf_all) (by assumption) P' R' U'
  · exact ret _ _ _ _ _ _ _ _ (due10T w') (by assumption) (by kcf_all) rfl (by assumption) (by assumption)
  · exact ret _ _ _ _ _ _ _ _ (due10F w') (by assumption) (by kcf_all) rfl (by assumption) (by assumption)
  · exact ret _ _ _ _ _ _ _ _ (due11T w') (by assumption) (by kcf_all) rfl (by assumption) (by assumption)
  · exact hexc (due11F w') _ _ _ _ _ _ _ (by assumption) (by kcf_all) (by assumption) P' R' U'
end
end
end
-- D23
section
open PySem PySem.W PySem.Calls PyProof.Rows
set_option pp.deepTerms false
set_option pp.deepTerms.threshold 6
set_option pp.maxSteps 20000
set_option format.width 180
set_option Elab.async false
set_option linter.unusedVariables false
set_option maxRecDepth 100000
section
theorem cutD23 : True := by
  k_with_none
  trivial
theorem reg23 : PySem.Challenge.rw_og0089_01 = PySem.Challenge.rw_og0089_01 ∧ frag.heap_1 = frag.heap_1 := by k_fill; exact ⟨rfl, rfl⟩
section
variable {w : World} {A : Around} {E : Value → Shared → Prop} {s : Shared} {h₀ : Heap} {L : Addr} {m : PySem.Str → Option Value} {news rest : List (Addr × Obj)} {r : RX} {k i : Nat}
theorem tok_told {pl : Sem Bool} {Q : Value × List Value → Shared → Prop} (F : Fr h₀ L s.heap m) (X : (frag.heap_1 w.params).In h₀) (N : News h₀ L s.heap news) (sub : ∀ q ∈ rest, q ∈ news) (R : Rdr r rest) (hk : r.Rw[k]? = some i)
    (h : Q (.ref 332, [.ref (r.tl k)]) s) : wpAny (model prog w) A (getMethod (.ref (r.tl k)) "told" pl) Q E s := by
  obtain ⟨h1, h2, h3, h4, t1, t2, t3, t4, u, v, hd⟩ := R.dic k i hk
  exact method_inst F X (tok_inst N sub R hk hd) (by k_is) (by k_is) (by k_is) rfl h
end
theorem lines23 : True := by
  k_with "eval Lambda" => (k_dflt (refine' lam_eval ?kF ?kN ?kT ?kC ?kG ?cd ?q ?d ?cl ?_; (case kG => assumption); (case kF => k_asm); (case kN => assumption); (case kT => k_asm); (case kC => assumption); (case cd => rfl); (case q => rfl); (case d => rfl); (case cl => rfl); k_whole); intro f' c' oc' vs' t' ct' ps' h' tk' G' F' N' d1' d2')
  k_with "leaving ref" => (k_dflt (refine' leaveD_onX ?k1 ?k2 ?kf ?k3 ?k4 ?_; (case k3 => assumption); (case k1 => assumption); (case kf => rfl); (case k4 => assumption); (case k2 => assumption)); k_whole; intro h' R' U'; (try dsimp only at R' U' ⊢))
  k_with "subscriptTail" => (((have hz' : (z - 12 = 0 ∧ z = 12) ∨ (z - 12 = 1 ∧ z = 13) ∨ (z - 12 = 2 ∧ z = 14) ∨ (z - 12 = 3 ∧ z = 15) ∨ (z - 12 = 4 ∧ z = 16) ∨ (z - 12 = 5 ∧ z = 17) := by omega); (have R9 := TG.rd (by assumption)); rcases hz' with ⟨h9, rfl⟩ | ⟨h9, rfl⟩ | ⟨h9, rfl⟩ | ⟨h9, rfl⟩ | ⟨h9, rfl⟩ | ⟨h9, rfl⟩; (all_goals rw [h9])))
  k_with "call ref" => (k_dflt (refine' c_take ?k1 ?k2 ?k3 ?k4 ?kR ?k5 ?k6 ?k7 ?k8 (fun i' h' tk' t' i1' F' N' => ?_) (fun i1' e' f' g' h' tk' FG' P' R' U' => ?_); (case kR => assumption); (case k1 => k_asm); (case k2 => k_asm); (case k3 => k_in); (case k4 => first | k_asm | exact newsSub (by assumption) (by kcf_all)); (case k5 => k_asm); (case k6 => first | rfl | assumption); (case k7 => ktr_room); (case k8 => ktr_units)))
  k_with "getMethod ref" => ((with_reducible (refine' tok_told ?k1 ?k2 ?k3 ?k4 ?k5 ?k6 ?_)); (case k5 => assumption); (case k1 => k_asm); (case k2 => k_in); (case k3 => k_asm); (case k4 => (intro q hq; repeat (first | exact hq | apply List.mem_cons_of_mem))); (case k6 => assumption))
  k_with "call ref" => (k_dflt (refine' c_told i1' ?k1 ?k2 ?k3 ?k4 ?kR ?k5 ?k6 ?k7 ?k8  (fun D' t' u' h' tk' F' N' l' => ?_); (case kR => assumption); (case k1 => k_asm); (case k2 => k_asm); (case k3 => k_in); (case k4 => first | k_asm | exact newsSub (by assumption) (by kcf_all)); (case k5 => k_asm); (case k6 => first | rfl | assumption); (case k7 => ktr_room); (case k8 => ktr_units)))
  k_with "call ref" => (k_dflt (refine' c_word ?k1 ?k2 ?k3 ?k4 ?kR ?k5 ?k6 ?k7 ?k8  (fun i' v' h' tk' t' n' i1' F' N' => ?_) (fun n' e' f' g' h' tk' FG' P' R' U' => ?_); (case kR => assumption); (case k1 => k_asm); (case k2 => k_asm); (case k3 => k_in); (case k4 => first | k_asm | exact newsSub (by assumption) (by kcf_all)); (case k5 => k_asm); (case k6 => first | rfl | assumption); (case k7 => ktr_room); (case k8 => ktr_units)))
  k_with "call ref" => (k_dflt (refine' c_isDone ?k1 ?k2 ?k3 ?k4 ?kR ?k5 ?k6 ?k7 ?k8  (fun h' tk' F' N' => ?_); (case kR => assumption); (case k1 => k_asm); (case k2 => k_asm); (case k3 => k_in); (case k4 => first | k_asm | exact newsSub (by assumption) (by kcf_all)); (case k5 => k_asm); (case k6 => first | rfl | assumption); (case k7 => ktr_room); (case k8 => ktr_units)))
  k_with "call ref" => (k_dflt (refine' c_isName ?k1 ?k2 ?k3 ?k4 ?kR ?k5 ?k6 ?k7 ?k8  (fun h' tk' F' N' => ?_); (case kR => assumption); (case k1 => k_asm); (case k2 => k_asm); (case k3 => k_in); (case k4 => first | k_asm | exact newsSub (by assumption) (by kcf_all)); (case k5 => k_asm); (case k6 => first | rfl | assumption); (case k7 => ktr_room); (case k8 => ktr_units)))
  k_with "call ref" => (k_dflt (refine' c_isNumber ?k1 ?k2 ?k3 ?k4 ?kR ?k5 ?k6 ?k7 ?k8  (fun h' tk' F' N' => ?_); (case kR => assumption); (case k1 => k_asm); (case k2 => k_asm); (case k3 => k_in); (case k4 => first | k_asm | exact newsSub (by assumption) (by kcf_all)); (case k5 => k_asm); (case k6 => first | rfl | assumption); (case k7 => ktr_room); (case k8 => ktr_units)))
  k_with "call ref" => (k_dflt (refine' c_isKind ?k1 ?k2 ?k3 ?k4 ?kR ?k5 ?k6 ?k7 ?k8 ?kp (fun h' tk' F' N' => ?_); (case kR => assumption); (case k1 => k_asm); (case k2 => k_asm); (case k3 => k_in); (case k4 => first | k_asm | exact newsSub (by assumption) (by kcf_all)); (case k5 => k_asm); (case k6 => first | rfl | assumption); (case k7 => ktr_room); (case k8 => ktr_units); (case kp => first | exact .inl ⟨rfl, rfl, rfl⟩ | exact .inr rfl)))
  trivial
section
variable {w : World} {mean : ExcName → Option Value} {mg mb : PySem.Str → Option Value} {hd : Option Value} {dp un : Nat} {gd : Option (List Code)} {cn : PySem.Str} {cs : Scope} {a : Addr} {ccd : Value} {cl : List (PySem.Str × Addr)} {outer : List Env} {A₀ : Around} {base h₀ : Heap} {L : Addr} {m : PySem.Str → Option Value} {rest : List (Addr × Obj)} {s : Shared} {r : RX} {p : Nat} {tp : Tok}
set_option maxHeartbeats 1000000 in
theorem c_asked4 {z : Int} {tk : Tok} {ps : Array Value} {Q E : Value → Shared → Prop}
    (B : Below A₀ base outer h₀) (F : Fr h₀ L s.heap m) (X : (frag.heap_1 w.params).In h₀) (N : News h₀ L s.heap ((r.rd, rdO r) :: (r.d, rdD r p tp) :: (381, tabObj ps) :: rest)) (G : TG r ps rest) (T : Top topProg LS mean mg mb h₀) (C : CodeHd h₀ 385 381) (hk : cs.kind = .function)
    (hdp : dp + 40 < 1000) (hun : un + 400 < cLine) (h0 : 12 ≤ z) (h1 : z < 18)
    (ret : ∀ v rv p' t ps' rest' h' tk', dueF r p z.toNat = some (rv, p') → TG r ps' rest' → (∀ q ∈ rest, q ∈ rest') → Sh h₀ rest' rv v → Fr h₀ L h' m → News h₀ L h' ((r.rd, rdO r) :: (r.d, rdD r p' t) :: (381, tabObj ps') :: rest') → Q v { s with heap := h', toks := tk' })
    (hexc : dueF r p z.toNat = none → ∀ e (f : FX) ps' rest' g h' tk', TG r ps' rest' → (∀ q ∈ rest, q ∈ rest') → Fr h₀ L g m → Place r p f.u f.v → RaisedD base g (envX cn cs L a ccd cl :: outer) e 65 f.dx (faultL r p tp ((381, tabObj ps') :: rest') f) h' → g.UpToSlots h' → E (.ref e) { s with heap := h', toks := tk' }) :
    wpAny (model prog w) (Ar none dp un gd cn cs L a ccd cl outer) (call (.ref 386) [.ref r.rd, .int z tk] []) Q E s := by
  have hrL : recursionLimit = 1000 := rfl
  w_on
  refine wpAny_call ?_
  k_dflt (refine' code_defC ?k1 ?k2 ?k3 ?k4 ?k5 ?kA ?kF ?kK ?k6 ?k7 ?k8 ?k9 ?kB ?kD ?_ ?c2 ?c3 ?c4; (case kA => exact rfl); (case kF => exact rfl); (case kK => assumption); (case k1 => k_asm); (case k2 => k_asm); (case k3 => k_asm); (case k4 => k_asm); (case k5 => k_asm); (case k6 => k_is); (case k7 => k_is); (case k8 => ktr_room); (case k9 => first | exact BindsTo.of_eq rfl | exact binds_K (by k_in) rfl (by k_is) rfl rfl rfl); (case kB => exact rfl); (case kD => decide +kernel); (case c2 => exact rfl); (case c3 => exact rfl); (case c4 => exact rfl); k_whole; intro g' L' h' tk' cells' FG' F' N' Y' B' X' T' l1; (try k_lt l1); k_cells Y'; (try simp only [List.cons_append, List.nil_append] at N'); (try dsimp only); (try k_lift B'); (try k_fold))
  rename Obj => o'
  have C' : CodeHd g' 385 381 := C.keeps FG'.keep
  have G1 := G.more (q := (L' + 1, o')) (Nat.ne_of_gt (Nat.lt_succ_of_lt l1.1)) (Nat.ne_of_gt (Nat.lt_succ_of_lt l1.2.1)) (Nat.ne_of_gt (Nat.lt_succ_of_lt l1.2.2.1))
  have N1 : News g' L' h' ((r.rd, rdO r) :: (r.d, rdD r p tp) :: (381, tabObj ps) :: (L' + 1, o') :: rest) := newsSub N' (by kcf_all)
  clear N'
  k_steps
  · rename TG _ _ _ => Gx
    rename News _ _ _ _ => Nx
    exact ret _ _ _ _ _ _ _ _ (due12T i1') (Gx.more (Ne.symm (Nat.ne_of_lt (l' _ (.head _)))) (Ne.symm (Nat.ne_of_lt (l' _ (.tail _ (.head _))))) (Ne.symm (Nat.ne_of_lt (l' _ (.tail _ (.tail _ (.head _))))))) (by kcf_all) ⟨_, _, _, rfl, .inl (.head _)⟩ (by assumption) (newsSub Nx (by kcf_all))
  · exact hexc (due12F i1') _ _ _ _ _ _ _ (by assumption) (by kcf_all) (by assumption) P' R' U'
  · exact ret _ _ _ _ _ _ _ _ (due13T n' i1') (by assumption) (by kcf_all) ⟨_, rfl⟩ (by assumption) (by assumption)
  · exact hexc (due13F n') _ _ _ _ _ _ _ (by assumption) (by kcf_all) (by assumption) P' R' U'
  · exact ret _ _ _ _ _ _ _ _ (due14) (by assumption) (by kcf_all) rfl (by assumption) (by assumption)
  · exact ret _ _ _ _ _ _ _ _ (due15) (by assumption) (by kcf_all) rfl (by assumption) (by assumption)
  · exact ret _ _ _ _ _ _ _ _ (due16) (by assumption) (by kcf_all) rfl (by assumption) (by assumption)
  · exact ret _ _ _ _ _ _ _ _ (due17) (by assumption) (by kcf_all) rfl (by assumption) (by assumption)
end
end
end
-- D24
section
open PySem PySem.W PySem.Calls PyProof.Rows
set_option pp.deepTerms false
set_option pp.deepTerms.threshold 6
set_option pp.maxSteps 20000
set_option format.width 180
set_option Elab.async false
set_option linter.unusedVariables false
set_option maxRecDepth 100000
section
theorem cutD24 : True := by
  k_with_none
  trivial
section
variable {w : World} {mean : ExcName → Option Value} {mg mb : PySem.Str → Option Value} {hd : Option Value} {dp un : Nat} {gd : Option (List Code)} {cn : PySem.Str} {cs : Scope} {a : Addr} {ccd : Value} {cl : List (PySem.Str × Addr)} {outer : List Env} {A₀ : Around} {base h₀ : Heap} {L : Addr} {m : PySem.Str → Option Value} {rest : List (Addr × Obj)} {s : Shared} {r : RX} {p : Nat} {tp : Tok}
theorem c_asked {z : Int} {tk : Tok} {ps : Array Value} {Q E : Value → Shared → Prop}
    (B : Below A₀ base outer h₀) (F : Fr h₀ L s.heap m) (X : (frag.heap_1 w.params).In h₀) (N : News h₀ L s.heap ((r.rd, rdO r) :: (r.d, rdD r p tp) :: (381, tabObj ps) :: rest)) (G : TG r ps rest) (T : Top topProg LS mean mg mb h₀) (C : CodeHd h₀ 385 381) (hk : cs.kind = .function)
    (hdp : dp + 40 < 1000) (hun : un + 400 < cLine) (h0 : 0 ≤ z) (h1 : z < 18)
    (ret : ∀ v rv p' t ps' rest' h' tk', dueF r p z.toNat = some (rv, p') → TG r ps' rest' → (∀ q ∈ rest, q ∈ rest') → Sh h₀ rest' rv v → Fr h₀ L h' m → News h₀ L h' ((r.rd, rdO r) :: (r.d, rdD r p' t) :: (381, tabObj ps') :: rest') → Q v { s with heap := h', toks := tk' })
    (hexc : dueF r p z.toNat = none → ∀ e (f : FX) ps' rest' g h' tk', TG r ps' rest' → (∀ q ∈ rest, q ∈ rest') → Fr h₀ L g m → Place r p f.u f.v → RaisedD base g (envX cn cs L a ccd cl :: outer) e 65 f.dx (faultL r p tp ((381, tabObj ps') :: rest') f) h' → g.UpToSlots h' → E (.ref e) { s with heap := h', toks := tk' }) :
    wpAny (model prog w) (Ar none dp un gd cn cs L a ccd cl outer) (call (.ref 386) [.ref r.rd, .int z tk] []) Q E s := by
  rcases Int.lt_or_le z 4 with a | a
  · exact c_asked1 B F X N G T C hk hdp hun h0 a ret hexc
  rcases Int.lt_or_le z 8 with b | b
  · exact c_asked2 B F X N G T C hk hdp hun a b ret hexc
  rcases Int.lt_or_le z 12 with c | c
  · exact c_asked3 B F X N G T C hk hdp hun b c ret hexc
  · exact c_asked4 B F X N G T C hk hdp hun c h1 ret hexc
end
end
end
-- D30
section
open PySem PySem.W PySem.Calls PyProof.Rows
set_option pp.deepTerms false
set_option pp.deepTerms.threshold 6
set_option pp.maxSteps 20000
set_option format.width 180
set_option Elab.async false
set_option linter.unusedVariables false
set_option maxRecDepth 100000
section
theorem cutD30 : True := by
  k_with_none
  trivial
theorem reg30 : PySem.Challenge.rw_og0089_01 = PySem.Challenge.rw_og0089_01 ∧ frag.heap_1 = frag.heap_1 := by k_fill; exact ⟨rfl, rfl⟩
/-! The law's rows: the list that holds them, a row, the pair of rows. -/
theorem row_K {P : Params} : ∀ i, i < 19 → (frag.heap_1 P).lookup (347 + i) = some (tup2 (.str (kd i) (621 + 2 * i)) (.str (wd i) (622 + 2 * i)))
  | 0, _ => by rfl
  | 1, _ => by rfl
  | 2, _ => by rfl
  | 3, _ => by rfl
  | 4, _ => by rfl
  | 5, _ => by rfl
  | 6, _ => by rfl
  | 7, _ => by rfl
  | 8, _ => by rfl
  | 9, _ => by rfl
  | 10, _ => by rfl
  | 11, _ => by rfl
  | 12, _ => by rfl
  | 13, _ => by rfl
  | 14, _ => by rfl
  | 15, _ => by rfl
  | 16, _ => by rfl
  | 17, _ => by rfl
  | 18, _ => by rfl
  | n + 19, h => absurd h (Nat.not_lt.mpr (Nat.le_add_left 19 n))
abbrev rowVs (r : RX) : List Value := r.Rw.map fun i => Value.ref (347 + i)
abbrev rowsL (r : RX) (c : Nat) : Obj := listOf (rowVs r).toArray c
structure Few (r : RX) : Prop where
  few : r.Rw.length ≤ 10
  small : ∀ i ∈ r.Rw, i < 19
def RowAt (r : RX) (nx : List (Addr × Obj)) (q : Nat) (x : Addr) : Prop := (∃ i, r.Rw[q]? = some i ∧ x = 347 + i) ∨ (r.Rw[q]? = none ∧ ∃ t u, (x, tup2 (.str "" t) (.str "" u)) ∈ nx)
theorem RowAt.more {r : RX} {nx nx' : List (Addr × Obj)} {q : Nat} {x : Addr} (R : RowAt r nx q x) (k : ∀ q ∈ nx, q ∈ nx') : RowAt r nx' q x :=
  R.imp id fun ⟨a, t, u, h⟩ => ⟨a, t, u, k _ h⟩
theorem kd_ok : ∀ i, PyData.strOk (kd i) = true ∧ PyData.strOk (wd i) = true := by
  have h : KW.all (fun q => PyData.strOk q.1 && PyData.strOk q.2) = true := by unfold KW; decide +kernel
  intro i
  unfold kd wd
  rw [List.getD_eq_getElem?_getD]
  cases q : KW[i]? with
  | none => exact ⟨by kernel_rfl, by kernel_rfl⟩
  | some v => exact Bool.and_eq_true_iff.mp (List.all_eq_true.mp h v (List.mem_of_getElem? q))
theorem kdA_ok (r : RX) (p : Nat) : PyData.strOk (kdA r p) = true := by
  unfold kdA; split
  · exact (kd_ok _).1
  · kernel_rfl
theorem wdA_ok (r : RX) (p : Nat) : PyData.strOk (wdA r p) = true := by
  unfold wdA; split
  · exact (kd_ok _).2
  · kernel_rfl
theorem kdA_beq {r : RX} {p : Nat} {k : PySem.Str} (h : (("" : PySem.Str) == k) = false) : (kdA r p == k) = kindAt r p k := by
  unfold kdA kindAt
  cases r.Rw[p]? with
  | none => exact h
  | some i => rfl
theorem wdA_beq {r : RX} {p : Nat} {k : PySem.Str} (h : (("" : PySem.Str) == k) = false) : (wdA r p == k) = worthAt r p k := by
  unfold wdA worthAt
  cases r.Rw[p]? with
  | none => exact h
  | some i => rfl
theorem signAt_eq {r : RX} {p : Nat} {k : PySem.Str} : signAt r p k = (kindAt r p "sign" && worthAt r p k) := by
  unfold signAt kindAt worthAt
  cases r.Rw[p]? <;> rfl
section
variable {w : World} {A : Around} {E : Value → Shared → Prop} {s : Shared} {h₀ : Heap} {L : Addr} {m : PySem.Str → Option Value} {nx : List (Addr × Obj)} {r : RX} {p q : Nat} {x : Addr}
theorem RowAt.obj (X : (frag.heap_1 w.params).In h₀) (F : Fr h₀ L s.heap m) (N : News h₀ L s.heap nx) (W : Few r) (R : RowAt r nx q x) : ∃ t u, s.heap.get? x = some (tup2 (.str (kdA r q) t) (.str (wdA r q) u)) := by
  rcases R with ⟨i, i1, rfl⟩ | ⟨i1, t, u, h⟩
  · rw [kdA_is i1, wdA_is i1]
    exact ⟨_, _, F.keep _ _ (X _ _ (row_K i (W.small i (List.mem_of_getElem? i1))))⟩
  · refine ⟨t, u, ?_⟩
    have e1 : kdA r q = "" := by unfold kdA; rw [i1]
    have e2 : wdA r q = "" := by unfold wdA; rw [i1]
    rw [e1, e2]; exact (N _ h).1
theorem row_read (X : (frag.heap_1 w.params).In h₀) (F : Fr h₀ L s.heap m) (N : News h₀ L s.heap nx) (W : Few r) (R : RowAt r nx q x) : ∃ as, Reads s.heap (.ref x) (.tuple [.str (kdA r q), .str (wdA r q)]) as := by
  obtain ⟨t, u, e⟩ := R.obj X F N W
  exact ⟨_, reads_tuple_at e rfl rfl (.cons (.str _ t) (.cons (.str _ u) .nil))⟩
theorem row_item0 {value slice : Expr} {u : Tok} {Q : Value → Shared → Prop} (X : (frag.heap_1 w.params).In h₀) (F : Fr h₀ L s.heap m) (N : News h₀ L s.heap nx) (W : Few r) (R : RowAt r nx q x) (h : ∀ t, Q (.str (kdA r q) t) s)
    (hs : subscripted slice false (.ref x) (.int 0 u) = operate [.ref x, .int 0 u] (getItem (.ref x) (.int 0 u)) := by with_unfolding_all rfl) (hg : ∀ q, letTemporaryGo value (.ref x) q = pure () := by intro _; with_unfolding_all rfl) :
    wpAny (model prog w) A (subscriptTail value slice (.ref x) (.int 0 u)) Q E s := by
  obtain ⟨t, u, e⟩ := R.obj X F N W
  exact item_tuple (items := #[.str (kdA r q) t, .str (wdA r q) u]) (j := 0) ⟨_, e, rfl, _, rfl⟩ (by decide) (by decide) (by rfl) rfl (h t) hs hg
theorem row_item1 {value slice : Expr} {u : Tok} {Q : Value → Shared → Prop} (X : (frag.heap_1 w.params).In h₀) (F : Fr h₀ L s.heap m) (N : News h₀ L s.heap nx) (W : Few r) (R : RowAt r nx q x) (h : ∀ t, Q (.str (wdA r q) t) s)
    (hs : subscripted slice false (.ref x) (.int 1 u) = operate [.ref x, .int 1 u] (getItem (.ref x) (.int 1 u)) := by with_unfolding_all rfl) (hg : ∀ q, letTemporaryGo value (.ref x) q = pure () := by intro _; with_unfolding_all rfl) :
    wpAny (model prog w) A (subscriptTail value slice (.ref x) (.int 1 u)) Q E s := by
  obtain ⟨t, u, e⟩ := R.obj X F N W
  exact item_tuple (items := #[.str (kdA r q) t, .str (wdA r q) u]) (j := 1) ⟨_, e, rfl, _, rfl⟩ (by decide) (by decide) (by rfl) rfl (h u) hs hg
theorem shaped2 {a b : PySem.Str} (h1 : PyData.strOk a = true) (h2 : PyData.strOk b = true) : SeqAt.shaped (.tuple [.str a, .str b]) = true := by
  simp [SeqAt.shaped, PyData.canLay0, PyData.canLayAll0, PyData.depth, PyData.depthAll, h1, h2]
theorem row_eq {y : Addr} {a b : PySem.Str} {t u : Tok} {Q : Value → Shared → Prop} (X : (frag.heap_1 w.params).In h₀) (F : Fr h₀ L s.heap m) (N : News h₀ L s.heap nx) (W : Few r) (R : RowAt r nx q x) (hy : (y, tup2 (.str a t) (.str b u)) ∈ nx)
    (oa : PyData.strOk a = true) (ob : PyData.strOk b = true) (na : (("" : PySem.Str) == a) = false) (nb : (("" : PySem.Str) == b) = false) (hu : A.units + 64 < cLine) (h : Q (.bool (kindAt r q a && worthAt r q b)) s) :
    wpAny (model prog w) A (compareOp .Eq (.ref x) (.ref y)) Q E s := by
  obtain ⟨as, ra⟩ := row_read X F N W R
  refine eq_dataH ra (reads_tuple_at (N _ hy).1 rfl rfl (.cons (.str _ _) (.cons (.str _ _) .nil))) (shaped2 (kdA_ok r q) (wdA_ok r q)) (shaped2 oa ob) hu ?_
  rw [show PyData.eqv (.tuple [.str (kdA r q), .str (wdA r q)]) (.tuple [.str a, .str b]) = (kindAt r q a && worthAt r q b) from by rw [← kdA_beq na, ← wdA_beq nb]; simp [PyData.eqv, PyData.eqvAll]]
  exact h
theorem row_in2 {y y1 y2 : Addr} {a b c d : PySem.Str} {t1 t2 t3 t4 : Tok} {Q : Value → Shared → Prop} (X : (frag.heap_1 w.params).In h₀) (F : Fr h₀ L s.heap m) (N : News h₀ L s.heap nx) (W : Few r) (R : RowAt r nx q x)
    (hy : (y, tup2 (.ref y1) (.ref y2)) ∈ nx) (hy1 : (y1, tup2 (.str a t1) (.str b t2)) ∈ nx) (hy2 : (y2, tup2 (.str c t3) (.str d t4)) ∈ nx)
    (ok : (PyData.strOk a && PyData.strOk b && PyData.strOk c && PyData.strOk d) = true) (ne : (!(("" : PySem.Str) == a) && !(("" : PySem.Str) == b) && !(("" : PySem.Str) == c) && !(("" : PySem.Str) == d)) = true) (hu : A.units + 64 < cLine)
    (h : Q (.bool ((kindAt r q a && worthAt r q b) || (kindAt r q c && worthAt r q d))) s) :
    wpAny (model prog w) A (compareOp .In (.ref x) (.ref y)) Q E s := by
  obtain ⟨as, ra⟩ := row_read X F N W R
  simp only [Bool.and_eq_true, Bool.not_eq_true'] at ok ne
  obtain ⟨⟨⟨o1, o2⟩, o3⟩, o4⟩ := ok
  obtain ⟨⟨⟨n1, n2⟩, n3⟩, n4⟩ := ne
  have r1 := reads_tuple_at (N _ hy1).1 rfl rfl (.cons (.str a t1) (.cons (.str b t2) .nil))
  have r2 := reads_tuple_at (N _ hy2).1 rfl rfl (.cons (.str c t3) (.cons (.str d t4) .nil))
  refine PySem.SeqAt.in_tuple_reads (reads_tuple_at (N _ hy).1 rfl rfl (.cons r1 (.cons r2 .nil))) ra ?_ ?_ ?_ ?_
  · simp [PyData.canLay0, PyData.canLayAll0, o1, o2, o3, o4]
  · simp [PyData.canLay0, PyData.canLayAll0, kdA_ok r q, wdA_ok r q]
  · simp [PyData.depth, PyData.depthAll]; omega
  · have e : ∀ a b : PySem.Str, (("" : PySem.Str) == a) = false → (("" : PySem.Str) == b) = false → PyData.eqv (.tuple [.str a, .str b]) (.tuple [.str (kdA r q), .str (wdA r q)]) = (kindAt r q a && worthAt r q b) := by
      intro a b na nb
      rw [← kdA_beq na, ← wdA_beq nb, BEq.comm (a := kdA r q), BEq.comm (a := wdA r q)]
      simp [PyData.eqv, PyData.eqvAll]
    simp only [List.any_cons, List.any_nil, Bool.or_false, e a b n1 n2, e c d n3 n4]
    exact h
theorem rows_len {RL : Addr} {c : Nat} {Q : Value → Shared → Prop} (N : News h₀ L s.heap nx) (W : Few r) (hm : (RL, rowsL r c) ∈ nx) (h : Q (.int (r.Rw.length : Int) (s.toks + 1)) { s with toks := s.toks + 1 + 1 }) :
    wpAny (model prog w) A (call (.builtin "len") [.ref RL]) Q E s := by
  have e : (rowVs r).toArray.size = r.Rw.length := by rw [List.size_toArray, List.length_map]
  refine len_list ⟨_, (N _ hm).1, rfl, c, rfl⟩ (by rw [e]; have := W.few; omega) ?_
  rw [e]; exact h
theorem rows_item {RL : Addr} {c : Nat} {value slice : Expr} {j : Int} {u : Tok} {Q : Value → Shared → Prop} (N : News h₀ L s.heap nx) (W : Few r) (hm : (RL, rowsL r c) ∈ nx) (k : Nat) (hj : j = (k : Int)) (hk : k < r.Rw.length)
    (h : ∀ i, r.Rw[k]? = some i → RowAt r nx k (347 + i) → Q (.ref (347 + i)) s)
    (hs : subscripted slice false (.ref RL) (.int j u) = operate [.ref RL, .int j u] (getItem (.ref RL) (.int j u)) := by with_unfolding_all rfl) (hg : ∀ q, letTemporaryGo value (.ref RL) q = pure () := by intro _; with_unfolding_all rfl) :
    wpAny (model prog w) A (subscriptTail value slice (.ref RL) (.int j u)) Q E s := by
  subst hj
  have e := List.getElem?_eq_getElem hk
  refine item_list ⟨_, (N _ hm).1, rfl, c, rfl⟩ (by omega) (by have := W.few; omega) (x := .ref (347 + r.Rw[k])) ?_ (h _ e (.inl ⟨_, e, rfl⟩)) hs hg
  rw [List.getElem?_toArray, show ((k : Int)).toNat = k from rfl, List.getElem?_map, e]; rfl
theorem rows_slice {RL : Addr} {c : Nat} {value slice : PySem.Expr} {j k : Int} {uj uk : Tok} {Q : Value → Shared → Prop} (F : Fr h₀ L s.heap m) (N : News h₀ L s.heap nx) (W : Few r) (hm : (RL, rowsL r c) ∈ nx) (hj : j = (p : Int)) (hk : k = (p : Int) + 2)
    (h : ∀ D h', Fr h₀ L h' m → News h₀ L h' ((D, listOf (((rowVs r).drop p).take 2).toArray 0) :: nx) → (∀ p ∈ nx, p.1 < D) → Q (.ref D) { s with heap := h' })
    (hs : subscripted slice false (.ref RL) (.ref s.heap.objs.size) = operate [.ref s.heap.objs.size, .ref RL] (getItem (.ref RL) (.ref s.heap.objs.size)) := by with_unfolding_all rfl) (ht : ∀ r, letTemporaryGo value (.ref RL) r = pure () := by intro _; with_unfolding_all rfl) :
    wpAny (model prog w) A (subscriptTail value slice (.ref RL) (.ref s.heap.objs.size)) Q E { s with heap := s.heap.push { cls := .type "slice", data := .fields #[.int j uj, .int k uk, .none] } } := by
  subst hj hk
  have e : kms_pick (rowVs r) (some (p : Int)) (some ((p : Int) + 2)) = ((rowVs r).drop p).take 2 := by
    simp only [kms_pick, kms_lo, kms_hi]
    rw [if_neg (by omega), if_neg (by omega), show ((p : Int)).toNat = p from rfl, show ((p : Int) + 2).toNat = p + 2 from rfl]
    generalize rowVs r = l
    rcases Nat.le_total p l.length with h1 | h1
    · rw [Nat.min_eq_left h1]
      rcases Nat.le_total (p + 2) l.length with h2 | h2
      · rw [Nat.min_eq_left h2, Nat.add_sub_cancel_left]
      · rw [Nat.min_eq_right h2, List.take_of_length_le (by rw [List.length_drop]; omega), List.take_of_length_le (by rw [List.length_drop]; omega)]
    · rw [Nat.min_eq_right h1, List.drop_length, List.drop_of_length_le h1, List.take_nil, List.take_nil]
  exact kms_slice_lit F N ⟨_, (N _ hm).1, rfl, c, rfl⟩ (.int _ _) (.int _ _) e h hs ht (by rw [List.size_toArray, List.length_map, sizeLine_eq]; have := W.few; omega)
theorem rows_reads (X : (frag.heap_1 w.params).In h₀) (F : Fr h₀ L s.heap m) : ∀ (l : List Nat), (∀ i ∈ l, i < 19) → ∃ as, ReadsAll s.heap (l.map fun i => Value.ref (347 + i)) (l.map fun i => .tuple [.str (kd i), .str (wd i)]) as
  | [], _ => ⟨_, .nil⟩
  | i :: t, h => by
    obtain ⟨as, ih⟩ := rows_reads X F t fun j hj => h j (.tail _ hj)
    exact ⟨_, .cons (reads_tuple_at (F.keep _ _ (X _ _ (row_K i (h i (.head _))))) rfl rfl (.cons (.str _ _) (.cons (.str _ _) .nil))) ih⟩
theorem rows_lay : ∀ (l : List Nat), PyData.canLayAll0 (l.map fun i => .tuple [.str (kd i), .str (wd i)]) = true ∧ PyData.depthAll (l.map fun i => .tuple [.str (kd i), .str (wd i)]) ≤ 2
  | [] => ⟨rfl, by simp [PyData.depthAll]⟩
  | i :: t => by
    have ih := rows_lay t
    have := kd_ok i
    constructor
    · simp [PyData.canLayAll0, PyData.canLay0, this.1, this.2]; exact ih.1
    · have h2 := ih.2
      simp only [List.map_cons, PyData.depthAll, PyData.depth]; omega
theorem pair_is (W : Few r) : PyData.eqvAll (((r.Rw.drop p).take 2).map fun i => .tuple [.str (kd i), .str (wd i)]) [.tuple [.str "word", .str "END"], .tuple [.str "word", .str "ADD"]] = pairAt r p := by
  unfold pairAt wordAt kindAt worthAt
  have e0 : (r.Rw.drop p)[0]? = r.Rw[p]? := by rw [List.getElem?_drop]; rfl
  have e1 : (r.Rw.drop p)[1]? = r.Rw[p + 1]? := by rw [List.getElem?_drop]
  rw [← e0, ← e1]
  have hE : (sEND : PySem.Str) = "END" := by kernel_rfl
  have hA : (sADD : PySem.Str) = "ADD" := by kernel_rfl
  cases r.Rw.drop p with
  | nil => rfl
  | cons a t =>
    cases t with
    | nil => simp [PyData.eqvAll]
    | cons b t => simp [PyData.eqvAll, PyData.eqv, hE, hA]
theorem pair_eq {y y1 y2 : Addr} {t1 t2 t3 t4 : Tok} {c1 c2 : Nat} {Q : Value → Shared → Prop} (X : (frag.heap_1 w.params).In h₀) (F : Fr h₀ L s.heap m) (N : News h₀ L s.heap nx) (W : Few r) (hx : (x, listOf (((rowVs r).drop p).take 2).toArray c1) ∈ nx)
    (hy : (y, listOf #[.ref y1, .ref y2] c2) ∈ nx) (hy1 : (y1, tup2 (.str "word" t1) (.str "END" t2)) ∈ nx) (hy2 : (y2, tup2 (.str "word" t3) (.str "ADD" t4)) ∈ nx) (hu : A.units + 64 < cLine) (h : Q (.bool (pairAt r p)) s) :
    wpAny (model prog w) A (compareOp .Eq (.ref x) (.ref y)) Q E s := by
  have hs : ∀ i ∈ (r.Rw.drop p).take 2, i < 19 := fun i hi => W.small i (List.mem_of_mem_drop (List.mem_of_mem_take hi))
  obtain ⟨as, ra⟩ := rows_reads (w := w) X F ((r.Rw.drop p).take 2) hs
  have e : ((rowVs r).drop p).take 2 = ((r.Rw.drop p).take 2).map fun i => Value.ref (347 + i) := by rw [List.map_take, List.map_drop]
  have r1 := reads_tuple_at (N _ hy1).1 rfl rfl (.cons (.str _ t1) (.cons (.str _ t2) .nil))
  have r2 := reads_tuple_at (N _ hy2).1 rfl rfl (.cons (.str _ t3) (.cons (.str _ t4) .nil))
  have l1 := rows_lay ((r.Rw.drop p).take 2)
  refine eq_dataH (reads_list_at (N _ hx).1 rfl rfl (by rw [e]; exact ra)) (reads_list_at (N _ hy).1 rfl rfl (.cons r1 (.cons r2 .nil))) ?_ ?_ hu ?_
  · unfold SeqAt.shaped
    rw [show PyData.canLay0 (.list _) = _ from by rw [PyData.canLay0], l1.1, Bool.true_and]
    refine decide_eq_true ?_
    rw [PyData.depth]
    have := l1.2
    omega
  · decide +kernel
  · rw [PyData.eqv, pair_is W]; exact h
end
end
end
-- D31
section
open PySem PySem.W PySem.Calls PyProof.Rows
set_option pp.deepTerms false
set_option pp.deepTerms.threshold 6
set_option pp.maxSteps 20000
set_option format.width 180
set_option Elab.async false
set_option linter.unusedVariables false
set_option maxRecDepth 100000
section
theorem cutD31 : True := by
  k_with_none
  trivial
theorem reg31 : PySem.Challenge.rw_og0089_01 = PySem.Challenge.rw_og0089_01 ∧ frag.heap_1 = frag.heap_1 := by k_fill; exact ⟨rfl, rfl⟩
/-! The law's plain run of names. -/
structure PJ (r : RX) (p : Nat) (l : List (PySem.Str × Tok)) : Prop where
  few : l.length ≤ r.Rw.length
  run : l.map (·.1) ++ takeNames (r.Rw.drop (p + l.length)) = takeNames (r.Rw.drop p)
theorem PJ.first {r : RX} {p : Nat} : PJ r p [] := ⟨Nat.zero_le _, rfl⟩
theorem kd_word {r : RX} (p : Nat) : (kdA r p == "word") = kindAt r p "word" := kdA_beq (by decide +kernel)
theorem some_row {r : RX} {p : Nat} {k : PySem.Str} (h : kindAt r p k = true) : ∃ i, r.Rw[p]? = some i := by
  cases i1 : r.Rw[p]? with
  | none => exact peek_no i1 h
  | some i => exact ⟨i, rfl⟩
theorem take_word {r : RX} {k : Nat} (W : Few r) (hk : (kdA r k == "word") = true) : takeNames (r.Rw.drop k) = if keptB (wdA r k) = true then [] else wdA r k :: takeNames (r.Rw.drop (k + 1)) := by
  rw [kd_word] at hk
  obtain ⟨i, i1⟩ := some_row hk
  rw [kindAt_some i1] at hk
  rw [wdA_is i1]
  obtain ⟨hp, e⟩ := List.getElem?_eq_some_iff.mp i1
  rw [List.drop_eq_getElem_cons hp, e, takeNames, hk, ← kept_law (W.small i (List.mem_of_getElem? i1)) hk, Bool.true_and]
  cases resB (wd i) <;> rfl
theorem take_else {r : RX} {k : Nat} (hk : (kdA r k == "word") = false) : takeNames (r.Rw.drop k) = [] := by
  rw [kd_word] at hk
  cases i1 : r.Rw[k]? with
  | none => rw [List.drop_eq_nil_of_le (List.getElem?_eq_none_iff.mp i1), takeNames]
  | some i =>
    rw [kindAt_some i1] at hk
    obtain ⟨hp, e⟩ := List.getElem?_eq_some_iff.mp i1
    rw [List.drop_eq_getElem_cons hp, e, takeNames, hk]; rfl
theorem PJ.step {r : RX} {p : Nat} {v : Tok} {l : List (PySem.Str × Tok)} (W : Few r) (J : PJ r p l) (hp : p + l.length < r.Rw.length) (hk : (kdA r (p + l.length) == "word") = true) (hn : keptB (wdA r (p + l.length)) = false) : PJ r p (l ++ [(wdA r (p + l.length), v)]) := by
  refine ⟨by rw [List.length_append, List.length_singleton]; omega, ?_⟩
  rw [← J.run, List.map_append, List.append_assoc, List.length_append, List.length_singleton, take_word W hk, if_neg (ne_true_of_eq_false hn)]
  rfl
theorem PJ.last1 {r : RX} {p : Nat} {l : List (PySem.Str × Tok)} (J : PJ r p l) (h : ¬ p + l.length < r.Rw.length) : l.map (·.1) = takeNames (r.Rw.drop p) := by
  rw [← J.run, List.drop_eq_nil_of_le (Nat.le_of_not_lt h), takeNames, List.append_nil]
theorem PJ.last2 {r : RX} {p : Nat} {l : List (PySem.Str × Tok)} (J : PJ r p l) (hk : (kdA r (p + l.length) == "word") = false) : l.map (·.1) = takeNames (r.Rw.drop p) := by
  rw [← J.run, take_else hk, List.append_nil]
theorem PJ.last3 {r : RX} {p : Nat} {l : List (PySem.Str × Tok)} (W : Few r) (J : PJ r p l) (hk : (kdA r (p + l.length) == "word") = true) (hn : keptB (wdA r (p + l.length)) = true) : l.map (·.1) = takeNames (r.Rw.drop p) := by
  rw [← J.run, take_word W hk, if_pos hn, List.append_nil]
abbrev plL (D : Addr) (l : List (PySem.Str × Tok)) (c : Nat) (nx : List (Addr × Obj)) : List (Addr × Obj) := (D, strL l c) :: nx
section
variable {prog : Program} {w : World} {A : Around} {E : Value → Shared → Prop} {s : Shared} {env : Env} {h₀ : Heap} {L : Addr} {Q : Flow → Shared → Prop} {r : RX} {p : Nat} {nx : List (Addr × Obj)}
def PEnd (h₀ : Heap) (L : Addr) (s : Shared) (m₀ : PySem.Str → Option Value) (r : RX) (p : Nat) (D : Addr) (nx : List (Addr × Obj)) (l : List (PySem.Str × Tok)) (f : Flow) (s₂ : Shared) : Prop :=
  f = .next ∧ ∃ h' tk x c2, s₂ = { s with heap := h', toks := tk } ∧ Fr h₀ L h' m₀ ∧ News h₀ L h' (plL D (l ++ [x]) c2 nx) ∧ PJ r p (l ++ [x])
def PExit (h₀ : Heap) (L : Addr) (s : Shared) (m₀ : PySem.Str → Option Value) (r : RX) (p : Nat) (D : Addr) (nx : List (Addr × Obj)) (l : List (PySem.Str × Tok)) (c : Nat) (s₂ : Shared) : Prop :=
  ∃ h' tk, s₂ = { s with heap := h', toks := tk } ∧ Fr h₀ L h' m₀ ∧ News h₀ L h' (plL D l c nx) ∧ l.map (·.1) = takeNames (r.Rw.drop p)
theorem PEnd.intro {m₀ : PySem.Str → Option Value} {D : Addr} {l : List (PySem.Str × Tok)} {x : PySem.Str × Tok} {c2 tk : Nat} {h' : Heap} (F : Fr h₀ L h' m₀) (N : News h₀ L h' (plL D (l ++ [x]) c2 nx)) (J : PJ r p (l ++ [x])) : PEnd h₀ L s m₀ r p D nx l .next { s with heap := h', toks := tk } :=
  ⟨rfl, h', tk, x, c2, rfl, F, N, J⟩
theorem PExit.intro {m₀ : PySem.Str → Option Value} {D : Addr} {l : List (PySem.Str × Tok)} {c tk : Nat} {h' : Heap} (F : Fr h₀ L h' m₀) (N : News h₀ L h' (plL D l c nx)) (J : l.map (·.1) = takeNames (r.Rw.drop p)) : PExit h₀ L s m₀ r p D nx l c { s with heap := h', toks := tk } :=
  ⟨h', tk, rfl, F, N, J⟩
theorem plain_while {D : Addr} {test : Expr} {body : List Stmt} {pos : Pos} {m₀ : PySem.Str → Option Value} {l0 : List (PySem.Str × Tok)} {c0 : Nat} (h0 : l0 = []) (F : Fr h₀ L s.heap m₀) (N : News h₀ L s.heap (plL D l0 c0 nx))
    (turn : ∀ l c h tk, PJ r p l → Fr h₀ L h m₀ → News h₀ L h (plL D l c nx) →
      wpAny (model prog w) A (isTrue test env (eval test env)) (fun b s₂ =>
        if b = true then wpAny (model prog w) A (execs body env) (PEnd h₀ L s m₀ r p D nx l) E s₂ else PExit h₀ L s m₀ r p D nx l c s₂) E { s with heap := h, toks := tk })
    (done : ∀ l c h tk, l.map (·.1) = takeNames (r.Rw.drop p) → l.length ≤ r.Rw.length → Fr h₀ L h m₀ → News h₀ L h (plL D l c nx) → Q .next { s with heap := h, toks := tk })
    (hE : PassesOwn (model prog w) A env E := by passes_own) :
    wpAny (model prog w) A (exec (.While test body [] pos) env) Q E s := by
  subst h0
  refine While_inv2 (fun n m x => m = m₀ ∧ ∃ l c, x = plL D l c nx ∧ PJ r p l ∧ n = r.Rw.length - l.length) F N ⟨rfl, _, _, rfl, PJ.first, rfl⟩ ?_ hE
  rintro n m₁ x h tk F₁ N₁ ⟨rfl, l, c, rfl, J, rfl⟩
  refine wpAny_mono (turn l c h tk J F₁ N₁) (fun b s₂ q => ?_) fun _ _ x => x
  cases b with
  | false =>
    simp only [Bool.false_eq_true, if_false] at q ⊢
    obtain ⟨h', tk', rfl, F', N', e⟩ := q
    exact done l c h' tk' e J.few F' N'
  | true =>
    simp only [if_true] at q ⊢
    refine wpAny_mono q (fun f s₃ q => ?_) fun _ _ x => x
    obtain ⟨rfl, h', tk', x, c2, rfl, F', N', J2⟩ := q
    have hl : (l ++ [x]).length = l.length + 1 := by rw [List.length_append]; rfl
    exact ⟨h', tk', m₁, _, _, rfl, F', N', by have := J2.few; omega, rfl, _, _, rfl, J2, rfl⟩
end
section
variable {w : World} {A : Around} {E : Value → Shared → Prop} {s : Shared} {h₀ : Heap} {L : Addr} {m : PySem.Str → Option Value} {nx : List (Addr × Obj)} {r : RX} {p q : Nat} {D : Addr} {l : List (PySem.Str × Tok)} {c : Nat} {Q : Value → Shared → Prop}
theorem plain_len (N : News h₀ L s.heap nx) (hm : (D, strL l c) ∈ nx) (hl : l.length ≤ 10) (h : Q (.int (l.length : Int) (s.toks + 1)) { s with toks := s.toks + 1 + 1 }) : wpAny (model prog w) A (call (.builtin "len") [.ref D]) Q E s := by
  have e : (strValues l).toArray.size = l.length := by rw [List.size_toArray]; unfold strValues; rw [List.length_map]
  refine len_list ⟨_, (N _ hm).1, rfl, c, rfl⟩ (by rw [e]; omega) ?_
  rw [e]; exact h
theorem plain_app {x : PySem.Str} {t : Tok} (hl : l.length ≤ 10) (hD : ∀ q ∈ nx, q.1 ≠ D) (F : Fr h₀ L s.heap m) (N : News h₀ L s.heap (plL D l c nx)) (h : ∀ h', Fr h₀ L h' m → News h₀ L h' (plL D (l ++ [(x, t)]) (c + 1) nx) → Q .none { s with heap := h' }) :
    wpAny (model prog w) A (call (.builtin "list.append") [.ref D, .str x t]) Q E s := by
  refine append_K F N (.head hD) (fun h' F' N' => h h' F' ?_) ?_
  · have e : strL (l ++ [(x, t)]) (c + 1) = listOf ((strValues l).toArray.push (.str x t)) (c + 1) := by
      unfold strL
      congr 1
      rw [List.push_toArray]
      congr 1
      unfold strValues
      rw [List.map_append]; rfl
    unfold plL
    rw [e]; exact N'
  · rw [List.size_toArray]; unfold strValues; rw [List.length_map, sizeLine_eq]; omega
theorem kept_notin {x : PySem.Str} {t : Tok} (X : (frag.heap_1 w.params).In h₀) (F : Fr h₀ L s.heap m) (hx : PyData.strOk x = true) (hu : A.units + 64 < cLine) (h : Q (.bool (!keptB x)) s) : wpAny (model prog w) A (compareOp .NotIn (.str x t) (.ref 367)) Q E s := by
  have e : (frag.heap_1 w.params).lookup 367 = some { cls := .type "tuple", data := .seq #[.str "MOVE" 660, .str "END" 661, .str "ADD" 662, .str "TO" 663] } := by rfl
  refine PySem.SeqAt.notIn_tuple_reads (reads_tuple_at (F.keep _ _ (X _ _ e)) rfl rfl (.cons (.str _ _) (.cons (.str _ _) (.cons (.str _ _) (.cons (.str _ _) .nil))))) (.str x t) (by decide +kernel) (by rw [PyData.canLay0]; exact hx) ?_ ?_
  · simp [PyData.depth, PyData.depthAll]; omega
  · rw [show (List.any [.str "MOVE", .str "END", .str "ADD", .str "TO"] fun y => PyData.eqv y (.str x)) = keptB x from by simp [PyData.eqv, keptB]]; exact h
theorem strs_read (N : News h₀ L s.heap nx) (hm : (D, strL l c) ∈ nx) : ∃ as, Reads s.heap (.ref D) (.list (l.map fun q => .str q.1)) as := by
  have : ∀ l : List (PySem.Str × Tok), ∃ as, ReadsAll s.heap (strValues l) (l.map fun q => .str q.1) as := by
    intro l
    induction l with
    | nil => exact ⟨_, .nil⟩
    | cons a t ih =>
      obtain ⟨as, h⟩ := ih
      exact ⟨_, .cons (.str a.1 a.2) h⟩
  obtain ⟨as, h⟩ := this l
  exact ⟨_, reads_list_at (N _ hm).1 rfl rfl h⟩
theorem strs_lay : ∀ (l : List (PySem.Str × Tok)), (∀ q ∈ l, PyData.strOk q.1 = true) → SeqAt.shaped (.list (l.map fun q => .str q.1)) = true := by
  have : ∀ (l : List (PySem.Str × Tok)), (∀ q ∈ l, PyData.strOk q.1 = true) → PyData.canLayAll0 (l.map fun q => .str q.1) = true ∧ PyData.depthAll (l.map fun q => .str q.1) = 0 := by
    intro l
    induction l with
    | nil => intro _; exact ⟨rfl, by simp [PyData.depthAll]⟩
    | cons a t ih =>
      intro h
      have h2 := ih fun q hq => h q (.tail _ hq)
      constructor
      · simp [PyData.canLayAll0, PyData.canLay0, h a (.head _)]; simpa using h2.1
      · have h3 := h2.2
        simp only [List.map_cons, PyData.depthAll, PyData.depth]; omega
  intro l h
  unfold SeqAt.shaped
  rw [PyData.canLay0, (this l h).1, Bool.true_and, PyData.depth, (this l h).2]; rfl
theorem take_ok : ∀ (l : List Nat) (x : PySem.Str), x ∈ takeNames l → PyData.strOk x = true
  | [], _, h => by cases h
  | i :: t, x, h => by
    rw [takeNames] at h
    split at h
    · rcases List.mem_cons.mp h with rfl | h
      · exact (kd_ok i).2
      · exact take_ok t x h
    · cases h
theorem take_ok2 {k : List Nat} (e : l.map (·.1) = takeNames k) : ∀ q ∈ l, PyData.strOk q.1 = true := fun q hq => take_ok k _ (by rw [← e]; exact List.mem_map_of_mem hq)
theorem plain_ne {y : Addr} {c2 : Nat} (N : News h₀ L s.heap nx) (hm : (D, strL l c) ∈ nx) (hy : (y, listOf #[] c2) ∈ nx) (hok : ∀ q ∈ l, PyData.strOk q.1 = true) (hu : A.units + 64 < cLine) (h : Q (.bool (!l.isEmpty)) s) :
    wpAny (model prog w) A (compareOp .NotEq (.ref D) (.ref y)) Q E s := by
  obtain ⟨as, ra⟩ := strs_read N hm
  refine ne_dataH ra (reads_list_at (N _ hy).1 rfl rfl .nil) (strs_lay l hok) (by decide +kernel) hu ?_
  rw [show PyData.eqv (.list (l.map fun q => .str q.1)) (.list []) = l.isEmpty from by cases l <;> simp [PyData.eqv, PyData.eqvAll]]
  exact h
theorem plain_item {value slice : Expr} {u : Tok} {x : PySem.Str} (N : News h₀ L s.heap nx) (hm : (D, strL l c) ∈ nx) (hx : l[0]?.map (·.1) = some x) (h : ∀ t, Q (.str x t) s)
    (hs : subscripted slice false (.ref D) (.int 0 u) = operate [.ref D, .int 0 u] (getItem (.ref D) (.int 0 u)) := by with_unfolding_all rfl) (hg : ∀ q, letTemporaryGo value (.ref D) q = pure () := by intro _; with_unfolding_all rfl) :
    wpAny (model prog w) A (subscriptTail value slice (.ref D) (.int 0 u)) Q E s := by
  cases l with
  | nil => cases hx
  | cons a t =>
    obtain rfl := Option.some.inj hx
    exact item_list ⟨_, (N _ hm).1, rfl, c, rfl⟩ (by decide) (by decide) (x := .str a.1 a.2) rfl (h _) hs hg
theorem plain_name {k : Nat} (e : l.map (·.1) = takeNames (r.Rw.drop k)) : (!l.isEmpty) = nameAt r k := by
  cases hn : nameAt r k with
  | true =>
    cases i1 : r.Rw[k]? with
    | none => exact name_no i1 hn
    | some i => rw [takeNames_yes hn i1] at e; cases l with
      | nil => cases e
      | cons a t => rfl
  | false =>
    rw [takeNames_no hn] at e
    cases l with
    | nil => rfl
    | cons a t => cases e
theorem plain_head {k : Nat} (e : l.map (·.1) = takeNames (r.Rw.drop k)) (hn : nameAt r k = true) : l[0]?.map (·.1) = some (wdA r k) := by
  cases i1 : r.Rw[k]? with
  | none => exact name_no i1 hn
  | some i =>
    rw [takeNames_yes hn i1] at e
    cases l with
    | nil => cases e
    | cons a t => rw [wdA_is i1]; exact congrArg some (List.cons.inj e).1
end
/-! Joins: a value, or a statement, of which alone a fact is kept. -/
section
variable {M : Model} {A : Around} {E : Value → Shared → Prop} {s : Shared} {h₀ : Heap} {L : Addr} {m : PySem.Str → Option Value} {nx : List (Addr × Obj)}
def JV (h₀ : Heap) (L : Addr) (m : PySem.Str → Option Value) (nx : List (Addr × Obj)) (P : List (Addr × Obj) → Value → Prop) (s : Shared) (v : Value) (s' : Shared) : Prop :=
  ∃ h' tk nx', s' = { s with heap := h', toks := tk } ∧ Fr h₀ L h' m ∧ News h₀ L h' nx' ∧ (∀ q ∈ nx, q ∈ nx') ∧ P nx' v
theorem JV.intro {P : List (Addr × Obj) → Value → Prop} {v : Value} {h' : Heap} {tk : Nat} {nx' : List (Addr × Obj)} (F : Fr h₀ L h' m) (N : News h₀ L h' nx') (k : ∀ q ∈ nx, q ∈ nx') (p : P nx' v) : JV h₀ L m nx P s v { s with heap := h', toks := tk } := ⟨h', tk, nx', rfl, F, N, k, p⟩
theorem joinV {t : Sem Value} {Q : Value → Shared → Prop} (P : List (Addr × Obj) → Value → Prop) (F : Fr h₀ L s.heap m) (N : News h₀ L s.heap nx) (h1 : wpAny M A t (JV h₀ L m nx P s) E s)
    (h2 : ∀ v h' tk nx', Fr h₀ L h' m → News h₀ L h' nx' → (∀ q ∈ nx, q ∈ nx') → P nx' v → Q v { s with heap := h', toks := tk }) : wpAny M A t Q E s :=
  wpAny_mono h1 (fun v s' ⟨h', tk, nx', e, F', N', k, p⟩ => e ▸ h2 v h' tk nx' F' N' k p) fun _ _ e => e
def JS (h₀ : Heap) (L : Addr) (m : PySem.Str → Option Value) (x y : PySem.Str) (nx : List (Addr × Obj)) (P : List (Addr × Obj) → Value → Prop) (s : Shared) (f : Flow) (s' : Shared) : Prop :=
  f = .next ∧ ∃ h' tk nx' u v, s' = { s with heap := h', toks := tk } ∧ Fr h₀ L h' (fun z => if z = x then u else if z = y then some v else m z) ∧ News h₀ L h' nx' ∧ (∀ q ∈ nx, q ∈ nx') ∧ P nx' v
theorem JS.intro {x y : PySem.Str} {P : List (Addr × Obj) → Value → Prop} {h' : Heap} {tk : Nat} {nx' : List (Addr × Obj)} {m' : PySem.Str → Option Value} {v : Value} (F : Fr h₀ L h' m') (N : News h₀ L h' nx') (k : ∀ q ∈ nx, q ∈ nx') (hv : m' y = some v) (hm : ∀ z, z ≠ x → z ≠ y → m' z = m z) (hxy : y ≠ x) (p : P nx' v) :
    JS h₀ L m x y nx P s .next { s with heap := h', toks := tk } := by
  refine ⟨rfl, h', tk, nx', m' x, v, rfl, ?_, N, k, p⟩
  have e : (fun z => if z = x then m' x else if z = y then some v else m z) = m' := by
    funext z
    by_cases h1 : z = x
    · simp [h1]
    · simp only [if_neg h1]
      by_cases h2 : z = y
      · simp [h2, hv]
      · simp only [if_neg h2]; exact (hm z h1 h2).symm
  rw [e]; exact F
theorem joinS {t : Sem Flow} {Q : Flow → Shared → Prop} (x y : PySem.Str) (P : List (Addr × Obj) → Value → Prop) (F : Fr h₀ L s.heap m) (N : News h₀ L s.heap nx) (h1 : wpAny M A t (JS h₀ L m x y nx P s) E s)
    (h2 : ∀ u v h' tk nx', Fr h₀ L h' (fun z => if z = x then u else if z = y then some v else m z) → News h₀ L h' nx' → (∀ q ∈ nx, q ∈ nx') → P nx' v → Q .next { s with heap := h', toks := tk }) : wpAny M A t Q E s :=
  wpAny_mono h1 (fun f s' ⟨e1, h', tk, nx', u, v, e, F', N', k, p⟩ => by subst e1 e; exact h2 u v h' tk nx' F' N' k p) fun _ _ e => e
end
def ResO (h₀ : Heap) (nx : List (Addr × Obj)) : Option (RV × Nat) → Value → Prop
  | none, v => v = .none
  | some (rv, p'), v => ∃ D x t, v = .ref D ∧ (D, tup2 x (.int (p' : Int) t)) ∈ nx ∧ Sh h₀ nx rv x
theorem ResO.more {h₀ : Heap} {nx nx' : List (Addr × Obj)} (k : ∀ q ∈ nx, q ∈ nx') : ∀ {o : Option (RV × Nat)} {v : Value}, ResO h₀ nx o v → ResO h₀ nx' o v
  | none, _, h => h
  | some (_, _), _, ⟨D, x, t, e, h, hs⟩ => ⟨D, x, t, e, k _ h, hs.more k⟩
theorem ResO.no {h₀ : Heap} {nx : List (Addr × Obj)} {o : Option (RV × Nat)} (e : o = none) : ResO h₀ nx o .none := by subst e; rfl
theorem ResO.yes {h₀ : Heap} {nx : List (Addr × Obj)} {o : Option (RV × Nat)} {rv : RV} {p' : Nat} {D : Addr} {x : Value} {y : Int} {t : Tok} (e : o = some (rv, p')) (hm : (D, tup2 x (.int y t)) ∈ nx) (e2 : y = (p' : Int)) (hs : Sh h₀ nx rv x) : ResO h₀ nx o (.ref D) := by
  subst e e2; exact ⟨D, x, t, rfl, hm, hs⟩
end
end
-- P4
section
open PySem PySem.W PySem.Calls PyProof.Rows
set_option Elab.async false
set_option linter.unusedVariables false
set_option maxRecDepth 100000
section
theorem cutP4 : True := by
  k_with_none
  trivial
/-! What the law computes as due, in the words of the reader. -/
noncomputable abbrev mk (r : RX) (p : Nat) : Bool := (kindAt r p "sign" && worthAt r p "-" || kindAt r p "sign" && worthAt r p "+")
noncomputable abbrev mq (r : RX) (p : Nat) : Nat := if mk r p = true then p + 1 else p
section
variable {r : RX} {p i j : Nat} {x y uu vv : Int}
theorem kd_num (p : Nat) : (kdA r p == "number") = kindAt r p "number" := kdA_beq (by decide +kernel)
theorem kd_lit (p : Nat) : (kdA r p == "literal") = kindAt r p "literal" := kdA_beq (by decide +kernel)
theorem kd_sign (p : Nat) : (kdA r p == "sign") = kindAt r p "sign" := kdA_beq (by decide +kernel)
theorem one_any (h : kindAt r p "word" = true) : oneOf r p = if ([("TO" : PySem.Str), "A", "END"].any (· == wdA r p)) = true then some (wdA r p) else none := by
  have e : ∀ x : PySem.Str, (("" : PySem.Str) == x) = false → wordAt r p x = (x == wdA r p) := fun x hx => by unfold wordAt; rw [h, ← wdA_beq hx, Bool.true_and, BEq.comm]
  have hT : (sTO : PySem.Str) = "TO" := by kernel_rfl
  have hA : (sA : PySem.Str) = "A" := by kernel_rfl
  have hE : (sEND : PySem.Str) = "END" := by kernel_rfl
  unfold oneOf
  rw [hT, hA, hE, e "TO" (by decide +kernel), e "A" (by decide +kernel), e "END" (by decide +kernel), List.any_cons, List.any_cons, List.any_cons, List.any_nil, Bool.or_false]
  by_cases h1 : ("TO" : PySem.Str) = wdA r p
  · rw [← h1]; simp
  · by_cases h2 : ("A" : PySem.Str) = wdA r p
    · have a1 : ¬ (("TO" : PySem.Str) = "A") := fun q => absurd (beq_iff_eq.mpr q) (ne_true_of_eq_false (by decide +kernel))
      rw [← h2]; simp [a1]
    · by_cases h3 : ("END" : PySem.Str) = wdA r p
      · have a1 : ¬ (("TO" : PySem.Str) = "END") := fun q => absurd (beq_iff_eq.mpr q) (ne_true_of_eq_false (by decide +kernel))
        have a2 : ¬ (("A" : PySem.Str) = "END") := fun q => absurd (beq_iff_eq.mpr q) (ne_true_of_eq_false (by decide +kernel))
        rw [← h3]; simp [a1, a2]
      · simp [h1, h2, h3]
theorem due3L1 (h : (kdA r p == "word") = true) (ha : ([("TO" : PySem.Str), "A", "END"].any (· == wdA r p)) = true) : dueF r p 3 = some (.str (wdA r p), p + 1) := by
  rw [kd_word] at h
  exact due3 ((one_any h).trans (if_pos ha))
theorem due3L2 (h : (kdA r p == "word") = true) (ha : ([("TO" : PySem.Str), "A", "END"].any (· == wdA r p)) = false) : dueF r p 3 = some (.str "", p) := by
  rw [kd_word] at h
  exact due3 ((one_any h).trans (if_neg (ne_true_of_eq_false ha)))
theorem due3L3 (h : (kdA r p == "word") = false) : dueF r p 3 = some (.str "", p) := by
  rw [kd_word] at h
  refine due3 (o := none) ?_
  rw [if_neg (ne_true_of_eq_false (wordAt_no1 h)), if_neg (ne_true_of_eq_false (wordAt_no1 h)), if_neg (ne_true_of_eq_false (wordAt_no1 h))]
theorem due4L {b : Bool} (h : b = true) (e : b = nameAt r p) : dueF r p 4 = some (.str (wdA r p), p + 1) := by
  have n : nameAt r p = true := e.symm.trans h
  cases i1 : r.Rw[p]? with
  | none => exact name_no i1 n
  | some i => rw [wdA_is i1]; exact due4T n i1
theorem due4N {b : Bool} (h : b = false) (e : b = nameAt r p) : dueF r p 4 = none := due4F (e.symm.trans h)
theorem due5L {l : List (PySem.Str × Tok)} (h : (!l.isEmpty) = true) (e : l.map (·.1) = takeNames (r.Rw.drop p)) : dueF r p 5 = some (.names (l.map (·.1)), p + l.length) := by
  have n : nameAt r p = true := (plain_name e).symm.trans h
  have h : p + l.length = p + (takeNames (r.Rw.drop p)).length := by rw [← e, List.length_map]
  rw [e, h]; exact due_of (congrArg some (if_pos n))
theorem due5N {l : List (PySem.Str × Tok)} (h : (!l.isEmpty) = false) (e : l.map (·.1) = takeNames (r.Rw.drop p)) : dueF r p 5 = none := due5F ((plain_name e).symm.trans h)
theorem mk_or : mk r p = (signAt r p "-" || signAt r p "+") := by rw [signAt_eq, signAt_eq]
theorem sg_minus : (kindAt r p "sign" && worthAt r p "-") = signAt r p "-" := signAt_eq.symm
theorem num_mk : (kdA r (mq r p) == "number") = numAt r p := by
  rw [kd_num]
  unfold numAt mq
  rw [mk_or, Bool.or_comm]
  split <;> rfl
theorem two_signs (h : signAt r p "-" = true) : signAt r p "+" = false := by
  unfold signAt at h ⊢
  cases i1 : r.Rw[p]? with
  | none => rfl
  | some i =>
    rw [i1] at h
    have h2 := (Bool.and_eq_true_iff.mp h).2
    show (kd i == "sign" && wd i == "+") = false
    rw [show wd i = "-" from beq_iff_eq.mp h2, show ((("-" : PySem.Str)) == "+") = false from by decide +kernel, Bool.and_false]
theorem due6L {z : Int} (hn : (kdA r (mq r p) == "number") = true) (i1 : r.Rw[mq r p]? = some i) (h : NumRow i uu vv) (hz : z = if (kindAt r p "sign" && worthAt r p "-") = true then -uu else uu) : dueF r p 6 = some (.dec z vv, p + (if mk r p = true then 2 else 1)) := by
  subst hz
  rw [sg_minus]
  have n : numAt r p = true := num_mk.symm.trans hn
  rw [kd_num] at hn
  cases hm : signAt r p "-" with
  | true =>
    have e : mk r p = true := by rw [mk_or, hm]; rfl
    unfold mq at hn i1
    rw [if_pos e] at hn i1 ⊢
    rw [if_pos rfl]
    exact due6T n (.minus hm hn i1 h)
  | false =>
    rw [if_neg (by decide)]
    cases hp : signAt r p "+" with
    | true =>
      have e : mk r p = true := by rw [mk_or, hm, hp]; rfl
      unfold mq at hn i1
      rw [if_pos e] at hn i1 ⊢
      exact due6T n (.plus hm hp hn i1 h)
    | false =>
      have e : ¬ mk r p = true := by rw [mk_or, hm, hp]; decide
      unfold mq at hn i1
      rw [if_neg e] at hn i1 ⊢
      exact due6T n (.bare hm hp hn i1 h)
theorem due6N (hn : (kdA r (mq r p) == "number") = false) : dueF r p 6 = none := due6F (num_mk.symm.trans hn)
theorem row_num {q : Nat} (W : Few r) (hn : (kdA r q == "number") = true) : ∃ i uu vv, r.Rw[q]? = some i ∧ NumRow i uu vv := by
  rw [kd_num] at hn
  cases i1 : r.Rw[q]? with
  | none => exact peek_no i1 hn
  | some i =>
    rw [kindAt_some i1] at hn
    have hs := W.small i (List.mem_of_getElem? i1)
    have hk : (List.range 19).all (fun i => !(kd i == "number") || (Nat.ble 7 i && Nat.ble i 11)) = true := by decide +kernel
    have h1 := List.all_eq_true.mp hk i (List.mem_range.mpr hs)
    rw [hn] at h1
    have h2 := Bool.and_eq_true_iff.mp h1
    have a := Nat.le_of_ble_eq_true h2.1
    have b := Nat.le_of_ble_eq_true h2.2
    have : i = 7 ∨ i = 8 ∨ i = 9 ∨ i = 10 ∨ i = 11 := by omega
    rcases this with rfl | rfl | rfl | rfl | rfl
    · exact ⟨_, _, _, rfl, .r7⟩
    · exact ⟨_, _, _, rfl, .r8⟩
    · exact ⟨_, _, _, rfl, .r9⟩
    · exact ⟨_, _, _, rfl, .r10⟩
    · exact ⟨_, _, _, rfl, .r11⟩
theorem due7L {uu2 vv2 : Int} (hn : (kdA r p == "number") = true) (i1 : r.Rw[p]? = some i) (h : NumRow i uu vv) (hv : (vv == 0) = true) (j1 : r.Rw[p]? = some j) (h2 : NumRow j uu2 vv2) : dueF r p 7 = some (.int uu2, p + 1) := by
  obtain rfl : i = j := Option.some.inj (i1.symm.trans j1)
  rw [kd_num] at hn
  rw [(numRow_is h2).1, ← (numRow_is h).1]
  have : vv = 0 := beq_iff_eq.mp hv
  subst this
  exact due7T hn i1 h
theorem due7N1 (hn : (kdA r p == "number") = false) : dueF r p 7 = none := due7F (.inl ((kd_num p).symm.trans hn))
theorem due7N2 (hn : (kdA r p == "number") = true) (i1 : r.Rw[p]? = some i) (h : NumRow i uu vv) (hv : (vv == 0) = false) : dueF r p 7 = none :=
  due7F (.inr ⟨i, uu, vv, (kd_num p).symm.trans hn, i1, h, beq_eq_false_iff_ne.mp hv⟩)
theorem due8L (h : (kdA r p == "literal") = true) : dueF r p 8 = some (.str (wdA r p), p + 1) := by
  rw [kd_lit] at h
  obtain ⟨i, i1⟩ := some_row h
  rw [wdA_is i1]; exact due8T h i1
theorem due8N (h : (kdA r p == "literal") = false) : dueF r p 8 = none := due8F ((kd_lit p).symm.trans h)
theorem small_lit (W : Few r) (h : (kdA r p == "literal") = true) : smallB (wdA r p) = (wdA r p != "Ā") := by
  rw [kd_lit] at h
  obtain ⟨i, i1⟩ := some_row h
  rw [kindAt_some i1] at h
  rw [wdA_is i1]
  have hk : (List.range 19).all (fun i => !(kd i == "literal") || (smallB (wd i) == (wd i != "Ā"))) = true := by decide +kernel
  have h1 := List.all_eq_true.mp hk i (List.mem_range.mpr (W.small i (List.mem_of_getElem? i1)))
  rw [h] at h1
  exact beq_iff_eq.mp h1
theorem due9L (W : Few r) (h : (kdA r p == "literal") = true) (hw : (wdA r p != "Ā") = true) : dueF r p 9 = some (.bytes (octOf (wdA r p)), p + 1) := by
  have hs := (small_lit W h).trans hw
  rw [kd_lit] at h
  obtain ⟨i, i1⟩ := some_row h
  rw [wdA_is i1] at hs ⊢
  exact due9T h i1 hs
theorem due9N1 (h : (kdA r p == "literal") = false) : dueF r p 9 = none := due9F (.inl ((kd_lit p).symm.trans h))
theorem due9N2 (W : Few r) (h : (kdA r p == "literal") = true) (hw : (wdA r p != "Ā") = false) : dueF r p 9 = none := by
  have hs := (small_lit W h).trans hw
  rw [kd_lit] at h
  obtain ⟨i, i1⟩ := some_row h
  rw [wdA_is i1] at hs
  exact due9F (.inr ⟨i, i1, hs⟩)
theorem due10L : dueF r p 10 = some (.bool (kindAt r p "sign" && worthAt r p "-"), p + (if (kindAt r p "sign" && worthAt r p "-") = true then 1 else 0)) := by
  rw [sg_minus]
  cases h : signAt r p "-" with
  | true => exact due10T h
  | false => exact due10F h
theorem due11L (h : (kindAt r p "sign" && worthAt r p "(") = true) : dueF r p 11 = some (.none, p + 1) := due11T (signAt_eq.trans h)
theorem due11N (h : (kindAt r p "sign" && worthAt r p "(") = false) : dueF r p 11 = none := due11F (signAt_eq.trans h)
theorem due12L (i1 : r.Rw[p]? = some i) : dueF r p 12 = some (.pair (kdA r p) (wdA r p), p + 1) := by rw [kdA_is i1, wdA_is i1]; exact due12T i1
theorem due13L (h : (kdA r p == "word") = true) : dueF r p 13 = some (.str (wdA r p), p + 1) := by
  rw [kd_word] at h
  obtain ⟨i, i1⟩ := some_row h
  rw [wdA_is i1]; exact due13T h i1
theorem due13N (h : (kdA r p == "word") = false) : dueF r p 13 = none := due13F ((kd_word p).symm.trans h)
theorem due14L : dueF r p 14 = some (.bool (decide ((r.Rw.length : Int) ≤ (p : Int))), p) := by
  rw [show decide ((r.Rw.length : Int) ≤ (p : Int)) = decide (r.Rw.length ≤ p) from decide_eq_decide.mpr Int.ofNat_le]; exact due14
theorem due15L {l : List (PySem.Str × Tok)} (e : l.map (·.1) = takeNames (r.Rw.drop p)) : dueF r p 15 = some (.bool (!l.isEmpty), p) := by rw [plain_name e]; exact due15
theorem due16L : dueF r p 16 = some (.bool (kdA r (mq r p) == "number"), p) := by rw [num_mk]; exact due16
theorem due17L : dueF r p 17 = some (.bool (kdA r (p + 1) == "sign"), p) := by rw [kd_sign]; exact due17
end
end
end
-- D32
section
open PySem PySem.W PySem.Calls PyProof.Rows
set_option pp.deepTerms false
set_option pp.deepTerms.threshold 6
set_option pp.maxSteps 20000
set_option format.width 180
set_option Elab.async false
set_option linter.unusedVariables false
set_option maxRecDepth 100000
section
theorem cutD32 : True := by
  k_with_none
  trivial
theorem reg32 : PySem.Challenge.rw_og0089_01 = PySem.Challenge.rw_og0089_01 ∧ frag.heap_1 = frag.heap_1 := by k_fill; exact ⟨rfl, rfl⟩
section
variable {M : Model} {A : Around} {E : Value → Shared → Prop} {s : Shared} {h₀ h₁ : Heap} {L : Addr} {m : PySem.Str → Option Value} {nx : List (Addr × Obj)} {t : Sem Value} {Q : Value → Shared → Prop}
theorem joinRow {r : RX} {q : Nat} (F : Fr h₀ L s.heap m) (N : News h₀ L s.heap nx) (h1 : wpAny M A t (JV h₀ L m nx (fun nx v => ∃ x, v = Value.ref x ∧ RowAt r nx q x) s) E s)
    (h2 : ∀ x h' tk nx', Fr h₀ L h' m → News h₀ L h' nx' → (∀ q ∈ nx, q ∈ nx') → RowAt r nx' q x → Q (.ref x) { s with heap := h', toks := tk }) : wpAny M A t Q E s :=
  joinV _ F N h1 fun v h' tk nx' F' N' k ⟨x, e, R⟩ => e ▸ h2 x h' tk nx' F' N' k R
theorem joinInt {n : Int} (F : Fr h₀ L s.heap m) (N : News h₀ L s.heap nx) (h1 : wpAny M A t (JV h₀ L m nx (fun nx v => ∃ t, v = Value.int n t) s) E s)
    (h2 : ∀ t h' tk nx', Fr h₀ L h' m → News h₀ L h' nx' → (∀ q ∈ nx, q ∈ nx') → Q (.int n t) { s with heap := h', toks := tk }) : wpAny M A t Q E s :=
  joinV _ F N h1 fun v h' tk nx' F' N' k ⟨x, e⟩ => e ▸ h2 x h' tk nx' F' N' k
theorem joinRes {o : Option (RV × Nat)} (F : Fr h₀ L s.heap m) (N : News h₀ L s.heap nx) (h1 : wpAny M A t (JV h₀ L m nx (fun nx v => ResO h₁ nx o v) s) E s)
    (h2 : ∀ v h' tk nx', Fr h₀ L h' m → News h₀ L h' nx' → (∀ q ∈ nx, q ∈ nx') → ResO h₁ nx' o v → Q v { s with heap := h', toks := tk }) : wpAny M A t Q E s :=
  joinV _ F N h1 h2
end
theorem idx_eq {M : Model} {A : Around} {E : Value → Shared → Prop} {s : Shared} {v sl : PySem.Expr} {c : Value} {a b : Int} {u : Tok} {Q : Value → Shared → Prop} (h : a = b) (k : wpAny M A (subscriptTail v sl c (.int b u)) Q E s) : wpAny M A (subscriptTail v sl c (.int a u)) Q E s := h ▸ k
theorem zl0 {z : Int} (h0 : 0 ≤ z) (h1 : z < 4) : z = 0 ∨ z = 1 ∨ z = 2 ∨ z = 3 := by omega
theorem zl4 {z : Int} (h0 : ¬ z < 4) (h1 : z < 8) : (z - 4 = 0 ∧ z = 4) ∨ (z - 4 = 1 ∧ z = 5) ∨ (z - 4 = 2 ∧ z = 6) ∨ (z - 4 = 3 ∧ z = 7) := by
  have : z = 4 ∨ z = 5 ∨ z = 6 ∨ z = 7 := by omega
  rcases this with rfl | rfl | rfl | rfl <;> decide
theorem zl8 {z : Int} (h0 : ¬ z < 8) (h1 : z < 12) : (z - 8 = 0 ∧ z = 8) ∨ (z - 8 = 1 ∧ z = 9) ∨ (z - 8 = 2 ∧ z = 10) ∨ (z - 8 = 3 ∧ z = 11) := by
  have : z = 8 ∨ z = 9 ∨ z = 10 ∨ z = 11 := by omega
  rcases this with rfl | rfl | rfl | rfl <;> decide
theorem zl12 {z : Int} (h0 : ¬ z < 12) (h1 : z < 18) : (z - 12 = 0 ∧ z = 12) ∨ (z - 12 = 1 ∧ z = 13) ∨ (z - 12 = 2 ∧ z = 14) ∨ (z - 12 = 3 ∧ z = 15) ∨ (z - 12 = 4 ∧ z = 16) ∨ (z - 12 = 5 ∧ z = 17) := by
  have : z = 12 ∨ z = 13 ∨ z = 14 ∨ z = 15 ∨ z = 16 ∨ z = 17 := by omega
  rcases this with rfl | rfl | rfl | rfl | rfl | rfl <;> decide
theorem ResO.from {h₀ : Heap} {nx nx' : List (Addr × Obj)} {o : Option (RV × Nat)} {v : Value} (h : ResO h₀ nx o v) (k : ∀ q ∈ nx, q ∈ nx') : ResO h₀ nx' o v := h.more k
section
variable {r : RX} {p : Nat} {l : List (PySem.Str × Tok)}
theorem ne_of_empty (h : l.isEmpty = false) : (!l.isEmpty) = true := by rw [h]; rfl
theorem no_of_empty (h : l.isEmpty = true) : (!l.isEmpty) = false := by rw [h]; rfl
theorem due4E (h : l.isEmpty = false) (e : l.map (·.1) = takeNames (r.Rw.drop p)) : dueF r p 4 = some (.str (wdA r p), p + 1) := due4L (ne_of_empty h) (plain_name e)
theorem due4O (h : l.isEmpty = true) (e : l.map (·.1) = takeNames (r.Rw.drop p)) : dueF r p 4 = none := due4N (no_of_empty h) (plain_name e)
theorem due5E (h : l.isEmpty = false) (e : l.map (·.1) = takeNames (r.Rw.drop p)) : dueF r p 5 = some (.names (l.map (·.1)), p + l.length) := due5L (ne_of_empty h) e
theorem due5O (h : l.isEmpty = true) (e : l.map (·.1) = takeNames (r.Rw.drop p)) : dueF r p 5 = none := due5N (no_of_empty h) e
theorem head_of (e : l.map (·.1) = takeNames (r.Rw.drop p)) (h : l.isEmpty = false) : l[0]?.map (·.1) = some (wdA r p) := plain_head e ((plain_name e).symm.trans (ne_of_empty h))
theorem RowAt.mqT {nx : List (Addr × Obj)} {x : Addr} (h : mk r p = true) (R : RowAt r nx (p + 1) x) : RowAt r nx (mq r p) x := by unfold mq; rw [if_pos h]; exact R
theorem RowAt.mqF {nx : List (Addr × Obj)} {x : Addr} (h : mk r p = false) (R : RowAt r nx p x) : RowAt r nx (mq r p) x := by unfold mq; rw [if_neg (ne_true_of_eq_false h)]; exact R
end
theorem due0L {r : RX} {p : Nat} : dueF r p 0 = some (.bool (pairAt r p), p) := due_of rfl
theorem due1L {r : RX} {p : Nat} : dueF r p 1 = some (.bool (pairAt r p), if pairAt r p = true then p + 2 else p) := due_of rfl
theorem due7M {r : RX} {p i j : Nat} {uu vv uu2 vv2 : Int} (hv : (vv == 0) = true) (h : NumRow i uu vv) (i1 : r.Rw[p]? = some i) (hn : (kdA r p == "number") = true) (j1 : r.Rw[p]? = some j) (h2 : NumRow j uu2 vv2) : dueF r p 7 = some (.int uu2, p + 1) := due7L hn i1 h hv j1 h2
theorem due7M2 {r : RX} {p i : Nat} {uu vv : Int} (hv : (vv == 0) = false) (h : NumRow i uu vv) (i1 : r.Rw[p]? = some i) (hn : (kdA r p == "number") = true) : dueF r p 7 = none := due7N2 hn i1 h hv
theorem res12 {w : World} {h₀ : Heap} {nx : List (Addr × Obj)} {r : RX} {p : Nat} {x D : Addr} {y : Int} {t : Tok} (X : (frag.heap_1 w.params).In h₀) (W : Few r) (R : RowAt r nx p x) (h : p < r.Rw.length) (hm : (D, tup2 (.ref x) (.int y t)) ∈ nx) (e2 : y = ((p + 1 : Nat) : Int)) : ResO h₀ nx (dueF r p 12) (.ref D) := by
  rcases R with ⟨i, i1, rfl⟩ | ⟨i1, _⟩
  · have e := due12L i1
    rw [kdA_is i1, wdA_is i1] at e
    exact ResO.yes e hm e2 ⟨347 + i, _, _, rfl, .inr (X _ _ (row_K i (W.small i (List.mem_of_getElem? i1))))⟩
  · rw [List.getElem?_eq_getElem h] at i1; cases i1
theorem wdA_len (r : RX) (p : Nat) : (wdA r p).length ≤ 1000 := by
  unfold wdA; split
  · exact wd_len _
  · exact Nat.le_of_ble_eq_true rfl
theorem ords_small2 {x : PySem.Str} (h : smallB x = true) : ∀ n ∈ ordsOf x, 0 ≤ n ∧ n < 256 := by
  unfold smallB at h
  rw [List.all_eq_true] at h
  intro n hn
  have := h n hn
  rw [decide_eq_true_eq] at this
  obtain ⟨c, _, rfl⟩ := List.mem_map.mp hn
  exact ⟨Int.natCast_nonneg c, this⟩
section
variable {w : World} {mean : ExcName → Option Value} {mg mb : PySem.Str → Option Value} {hd : Option Value} {dp un : Nat} {gd : Option (List Code)} {cn : PySem.Str} {cs : Scope} {a : Addr} {ccd : Value} {cl : List (PySem.Str × Addr)} {outer : List Env} {A₀ : Around} {base h₀ : Heap} {L : Addr} {m : PySem.Str → Option Value} {news : List (Addr × Obj)} {s : Shared}
theorem c_lawDecimalA {r : RX} {q : Nat} {bl : Bool} {tk : Tok} {Q E : Value → Shared → Prop} (W : Few r) (hn : (kdA r q == "number") = true)
    (B : Below A₀ base outer h₀) (F : Fr h₀ L s.heap m) (X : (frag.heap_1 w.params).In h₀) (N : News h₀ L s.heap news) (T : Top topProg LS mean mg mb h₀) (hk : cs.kind = .function)
    (hdp : dp + 12 < recursionLimit) (hun : un + 80 < cLine)
    (ret : ∀ i uu vv D z t1 t2 h' tk', r.Rw[q]? = some i → NumRow i uu vv → z = (if bl = true then -uu else uu) → Fr h₀ L h' m → News h₀ L h' ((D, tup2 (.int z t1) (.int vv t2)) :: news) → (∀ q ∈ news, q.1 < D) → Q (.ref D) { s with heap := h', toks := tk' }) :
    wpAny (model prog w) (Ar none dp un gd cn cs L a ccd cl outer) (call (.ref 374) [.str (wdA r q) tk, .bool bl] []) Q E s := by
  obtain ⟨i, uu, vv, i1, h⟩ := row_num W hn
  rw [wdA_is i1]
  exact c_lawDecimal h B F X N T hk hdp hun fun D z t1 t2 h' tk' => ret i uu vv D z t1 t2 h' tk' i1 h
end
theorem lines32 : True := by
  k_with "execs cons Expr nil" => (refine wpAny_execs_cons ?_)
  k_with "ite" => ((k_openite; first | (refine ite_pos (by with_reducible assumption) ?_) | (refine ite_isFalse (by with_reducible assumption) ?_) | (with_reducible refine split_not ?_) | ((with_reducible show (if decide _ = true then _ else _)); (refine split_dec ?_ ?_) <;> intro _) | ((with_reducible refine split_bool ?_ ?_) <;> intro _)))
  k_with "call builtin:len" => (k_dflt (refine' rows_len ?k1 ?k2 ?k3 ?_; (case k2 => assumption); (case k1 => k_asm); (case k3 => (repeat (first | assumption | exact List.Mem.head _ | apply List.mem_cons_of_mem | (refine (by assumption : ∀ q ∈ _, q ∈ _) _ ?_))))); k_whole)
  k_with "call builtin:len" => (k_dflt (refine' plain_len ?k1 ?k2 ?k3 ?_; (case k1 => k_asm); (case k2 => (repeat (first | assumption | exact List.Mem.head _ | apply List.mem_cons_of_mem | (refine (by assumption : ∀ q ∈ _, q ∈ _) _ ?_)))); (case k3 => first | exact Nat.le_trans (PJ.few (by assumption)) W.few | exact Nat.le_trans (by assumption) W.few)); k_whole)
  k_with "subscriptTail" => ((with_reducible show wpAny _ _ (subscriptTail _ _ (Value.ref RL) (Value.int ((p : Int)) _)) _ _ _); k_dflt (refine' rows_item ?k1 ?k2 ?k3 (p) ?k4 ?k5 ?_; (case k2 => assumption); (case k1 => k_asm); (case k3 => (repeat (first | assumption | exact List.Mem.head _ | apply List.mem_cons_of_mem | (refine (by assumption : ∀ q ∈ _, q ∈ _) _ ?_)))); (case k4 => exact rfl); (case k5 => omega)); k_whole; intro i' i1' hR')
  k_with "subscriptTail" => ((with_reducible show wpAny _ _ (subscriptTail _ _ (Value.ref RL) (Value.int ((p : Int) + 1) _)) _ _ _); k_dflt (refine' rows_item ?k1 ?k2 ?k3 (p + 1) ?k4 ?k5 ?_; (case k2 => assumption); (case k1 => k_asm); (case k3 => (repeat (first | assumption | exact List.Mem.head _ | apply List.mem_cons_of_mem | (refine (by assumption : ∀ q ∈ _, q ∈ _) _ ?_)))); (case k4 => exact rfl); (case k5 => omega)); k_whole; intro i' i1' hR')
  k_with "subscriptTail" => ((with_reducible show wpAny _ _ (subscriptTail _ _ (Value.ref RL) (Value.int ((p : Int) + (List.length l' : Int)) _)) _ _ _); k_dflt (refine' rows_item ?k1 ?k2 ?k3 (p + l'.length) ?k4 ?k5 ?_; (case k2 => assumption); (case k1 => k_asm); (case k3 => (repeat (first | assumption | exact List.Mem.head _ | apply List.mem_cons_of_mem | (refine (by assumption : ∀ q ∈ _, q ∈ _) _ ?_)))); (case k4 => exact rfl); (case k5 => omega)); k_whole; intro i' i1' hR')
  k_with "subscriptTail" => ((with_reducible show wpAny _ _ (subscriptTail _ _ (Value.ref _) (Value.int 0 _)) _ _ _); k_dflt (refine' row_item0 ?k1 ?k2 ?k3 ?k4 ?k5 ?_; (case k4 => assumption); (case k2 => k_asm); (case k3 => k_asm); (case k1 => k_in); (case k5 => first | assumption | exact RowAt.more (by assumption) (by (intro q hq; repeat (first | exact hq | apply List.mem_cons_of_mem | (refine (by assumption : ∀ q ∈ _, q ∈ _) _ ?_)))))); k_whole; intro t')
  k_with "subscriptTail" => ((with_reducible show wpAny _ _ (subscriptTail _ _ (Value.ref _) (Value.int 1 _)) _ _ _); k_dflt (refine' row_item1 ?k1 ?k2 ?k3 ?k4 ?k5 ?_; (case k4 => assumption); (case k2 => k_asm); (case k3 => k_asm); (case k1 => k_in); (case k5 => first | assumption | exact RowAt.more (by assumption) (by (intro q hq; repeat (first | exact hq | apply List.mem_cons_of_mem | (refine (by assumption : ∀ q ∈ _, q ∈ _) _ ?_)))))); k_whole; intro t')
  k_with "subscriptTail" => ((with_reducible show wpAny _ _ (subscriptTail _ (PySem.Expr.Slice _ _ _ _) (Value.ref RL) _) _ _ _); k_dflt (refine' rows_slice (p := p) ?k1 ?k2 ?k3 ?k4 ?k5 ?k6 ?_; (case k3 => assumption); (case k1 => k_asm); (case k2 => k_asm); (case k4 => (repeat (first | assumption | exact List.Mem.head _ | apply List.mem_cons_of_mem | (refine (by assumption : ∀ q ∈ _, q ∈ _) _ ?_)))); (case k5 => exact rfl); (case k6 => exact rfl)); k_whole; intro D' h' F' N' l1')
  k_with "compareOp Eq ref ref" => (k_dflt (refine' row_eq ?k1 ?k2 ?k3 ?k4 ?k5 ?k6 ?k7 ?k8 ?k9 ?k10 ?k11 ?_; (case k4 => assumption); (case k2 => k_asm); (case k3 => k_asm); (case k1 => k_in); (case k6 => k_mem); (case k5 => first | assumption | exact RowAt.more (by assumption) (by (intro q hq; repeat (first | exact hq | apply List.mem_cons_of_mem | (refine (by assumption : ∀ q ∈ _, q ∈ _) _ ?_))))); (case k7 => kernel_rfl); (case k8 => kernel_rfl); (case k9 => decide +kernel); (case k10 => decide +kernel); (case k11 => ktr_units)); k_whole)
  k_with "compareOp Eq ref ref" => (k_dflt (refine' pair_eq (p := p) ?k1 ?k2 ?k3 ?k4 ?k5 ?k6 ?k7 ?k8 ?k9 ?_; (case k4 => assumption); (case k2 => k_asm); (case k3 => k_asm); (case k1 => k_in); (case k5 => (repeat (first | assumption | exact List.Mem.head _ | apply List.mem_cons_of_mem | (refine (by assumption : ∀ q ∈ _, q ∈ _) _ ?_)))); (case k6 => k_mem); (case k7 => k_mem); (case k8 => k_mem); (case k9 => ktr_units)); k_whole)
  k_with "compareOp In ref ref" => (k_dflt (refine' row_in2 ?k1 ?k2 ?k3 ?k4 ?k5 ?k6 ?k7 ?k8 ?k9 ?k10 ?k11 ?_; (case k4 => assumption); (case k2 => k_asm); (case k3 => k_asm); (case k1 => k_in); (case k6 => k_mem); (case k7 => k_mem); (case k8 => k_mem); (case k5 => first | assumption | exact RowAt.more (by assumption) (by (intro q hq; repeat (first | exact hq | apply List.mem_cons_of_mem | (refine (by assumption : ∀ q ∈ _, q ∈ _) _ ?_))))); (case k9 => kernel_rfl); (case k10 => decide +kernel); (case k11 => ktr_units)); k_whole)
  k_with "compareOp NotIn str ref" => (k_dflt (refine' kept_notin ?k1 ?k2 ?k3 ?k4 ?_; (case k2 => k_asm); (case k1 => k_in); (case k3 => exact wdA_ok _ _); (case k4 => ktr_units)); k_whole)
  k_with "eval IfExp Compare Subscript" => ((goal_lacks Mine.JV); (with_reducible show wpAny _ _ (eval (Expr.IfExp (Expr.Compare (Expr.Name _ _) _ _ _) _ _ _) _) _ _ _); ((with_unfolding_all refine' joinRow (r := r) (q := p) ?k1 ?k2 ?_ (fun x' h' tk' nx' F' N' k' R' => ?_)); (case k1 => k_asm); (case k2 => k_asm)))
  k_with "eval IfExp Compare Subscript" => ((goal_lacks Mine.JV); (with_reducible show wpAny _ _ (eval (Expr.IfExp (Expr.Compare (Expr.BinOp _ _ _ _) _ _ _) _ _ _) _) _ _ _); ((with_unfolding_all refine' joinRow (r := r) (q := p + 1) ?k1 ?k2 ?_ (fun x' h' tk' nx' F' N' k' R' => ?_)); (case k1 => k_asm); (case k2 => k_asm)))
  k_with "eval IfExp Name Name Name" => ((goal_lacks Mine.JV); ((with_unfolding_all refine' joinRow (r := r) (q := mq r p) ?k1 ?k2 ?_ (fun x' h' tk' nx' F' N' k' R' => ?_)); (case k1 => k_asm); (case k2 => k_asm)))
  k_with "eval IfExp Name BinOp Name" => ((goal_lacks Mine.JV); ((with_unfolding_all refine' joinInt (n := ((if pairAt r p = true then p + 2 else p : Nat) : Int)) ?k1 ?k2 ?_ (fun t' h' tk' nx' F' N' k' => ?_)); (case k1 => k_asm); (case k2 => k_asm)))
  k_with "eval IfExp Name Constant Constant" => ((goal_lacks Mine.JV); ((with_unfolding_all refine' joinInt (n := ((if mk r p = true then 2 else 1 : Nat) : Int)) ?k1 ?k2 ?_ (fun t' h' tk' nx' F' N' k' => ?_)); (case k1 => k_asm); (case k2 => k_asm)))
  k_with "eval IfExp Compare Constant Constant" => ((goal_lacks Mine.JV); ((with_unfolding_all refine' joinInt (n := ((if (kindAt r p "sign" && worthAt r p "-") = true then 1 else 0 : Nat) : Int)) ?k1 ?k2 ?_ (fun t' h' tk' nx' F' N' k' => ?_)); (case k1 => k_asm); (case k2 => k_asm)))
  k_with "eval IfExp Compare Tuple Constant" => ((goal_lacks Mine.JV); (with_reducible show wpAny _ _ (eval (Expr.IfExp (Expr.Compare (Expr.Name (Str.ofString "here") _) _ [Expr.Tuple [_, Expr.Constant (Const.str (Str.ofString "MOVE")) _ _] _ _] _) _ _ _) _) _ _ _); ((with_unfolding_all refine' joinRes (h₁ := h₀) (o := dueF r p 2) ?k1 ?k2 ?_ (fun v' h' tk' nx' F' N' k' o' => ?_)); (case k1 => k_asm); (case k2 => k_asm)))
  k_with "eval IfExp Compare Tuple Constant" => ((goal_lacks Mine.JV); (with_reducible show wpAny _ _ (eval (Expr.IfExp (Expr.Compare (Expr.Name (Str.ofString "here") _) _ [Expr.Tuple [_, Expr.Constant (Const.str (Str.ofString "(")) _ _] _ _] _) _ _ _) _) _ _ _); ((with_unfolding_all refine' joinRes (h₁ := h₀) (o := dueF r p 11) ?k1 ?k2 ?_ (fun v' h' tk' nx' F' N' k' o' => ?_)); (case k1 => k_asm); (case k2 => k_asm)))
  k_with "eval IfExp Compare Tuple Constant" => ((goal_lacks Mine.JV); (with_reducible show wpAny _ _ (eval (Expr.IfExp (Expr.Compare (Expr.Name (Str.ofString "plain") _) _ _ _) (Expr.Tuple [Expr.Subscript _ _ _, _] _ _) _ _) _) _ _ _); ((with_unfolding_all refine' joinRes (h₁ := h₀) (o := dueF r p 4) ?k1 ?k2 ?_ (fun v' h' tk' nx' F' N' k' o' => ?_)); (case k1 => k_asm); (case k2 => k_asm)))
  k_with "eval IfExp Compare Tuple Constant" => ((goal_lacks Mine.JV); (with_reducible show wpAny _ _ (eval (Expr.IfExp (Expr.Compare (Expr.Name (Str.ofString "plain") _) _ _ _) (Expr.Tuple [Expr.Name _ _, _] _ _) _ _) _) _ _ _); ((with_unfolding_all refine' joinRes (h₁ := h₀) (o := dueF r p 5) ?k1 ?k2 ?_ (fun v' h' tk' nx' F' N' k' o' => ?_)); (case k1 => k_asm); (case k2 => k_asm)))
  k_with "eval IfExp Compare Tuple Constant" => ((goal_lacks Mine.JV); (with_reducible show wpAny _ _ (eval (Expr.IfExp (Expr.Compare (Expr.Name (Str.ofString "at") _) _ _ _) _ _ _) _) _ _ _); ((with_unfolding_all refine' joinRes (h₁ := h₀) (o := dueF r p 12) ?k1 ?k2 ?_ (fun v' h' tk' nx' F' N' k' o' => ?_)); (case k1 => k_asm); (case k2 => k_asm)))
  k_with "eval IfExp Compare Tuple Constant" => ((goal_lacks Mine.JV); (with_reducible show wpAny _ _ (eval (Expr.IfExp (Expr.Compare (Expr.Subscript _ _ _) _ [Expr.Constant (Const.str (Str.ofString "literal")) _ _] _) _ _ _) _) _ _ _); ((with_unfolding_all refine' joinRes (h₁ := h₀) (o := dueF r p 8) ?k1 ?k2 ?_ (fun v' h' tk' nx' F' N' k' o' => ?_)); (case k1 => k_asm); (case k2 => k_asm)))
  k_with "eval IfExp Compare Tuple Constant" => ((goal_lacks Mine.JV); (with_reducible show wpAny _ _ (eval (Expr.IfExp (Expr.Compare (Expr.Subscript _ _ _) _ [Expr.Constant (Const.str (Str.ofString "word")) _ _] _) _ _ _) _) _ _ _); ((with_unfolding_all refine' joinRes (h₁ := h₀) (o := dueF r p 13) ?k1 ?k2 ?_ (fun v' h' tk' nx' F' N' k' o' => ?_)); (case k1 => k_asm); (case k2 => k_asm)))
  k_with "eval IfExp BoolOp Tuple Tuple" => ((goal_lacks Mine.JV); ((with_unfolding_all refine' joinRes (h₁ := h₀) (o := dueF r p 3) ?k1 ?k2 ?_ (fun v' h' tk' nx' F' N' k' o' => ?_)); (case k1 => k_asm); (case k2 => k_asm)))
  k_with "JV" => ((refine JV.intro (by assumption) (by assumption) (by (intro q hq; repeat (first | exact hq | apply List.mem_cons_of_mem | (refine (by assumption : ∀ q ∈ _, q ∈ _) _ ?_)))) ⟨_, rfl, (by first | assumption | exact RowAt.more (by assumption) (by (intro q hq; repeat (first | exact hq | apply List.mem_cons_of_mem | (refine (by assumption : ∀ q ∈ _, q ∈ _) _ ?_)))))⟩))
  k_with "JV" => ((with_reducible show JV _ _ _ _ (fun nx v => ∃ x, v = Value.ref x ∧ RowAt r nx (mq r p) x) _ _ _); (refine JV.intro (by assumption) (by assumption) (by (intro q hq; repeat (first | exact hq | apply List.mem_cons_of_mem | (refine (by assumption : ∀ q ∈ _, q ∈ _) _ ?_)))) ⟨_, rfl, RowAt.mqT (by with_reducible assumption : mk r p = true) (by first | assumption | exact RowAt.more (by assumption) (by (intro q hq; repeat (first | exact hq | apply List.mem_cons_of_mem | (refine (by assumption : ∀ q ∈ _, q ∈ _) _ ?_)))))⟩))
  k_with "JV" => ((with_reducible show JV _ _ _ _ (fun nx v => ∃ x, v = Value.ref x ∧ RowAt r nx (mq r p) x) _ _ _); (refine JV.intro (by assumption) (by assumption) (by (intro q hq; repeat (first | exact hq | apply List.mem_cons_of_mem | (refine (by assumption : ∀ q ∈ _, q ∈ _) _ ?_)))) ⟨_, rfl, RowAt.mqF (by with_reducible assumption : mk r p = false) (by first | assumption | exact RowAt.more (by assumption) (by (intro q hq; repeat (first | exact hq | apply List.mem_cons_of_mem | (refine (by assumption : ∀ q ∈ _, q ∈ _) _ ?_)))))⟩))
  k_with "JV" => ((refine JV.intro (by assumption) (by assumption) (by (intro q hq; repeat (first | exact hq | apply List.mem_cons_of_mem | (refine (by assumption : ∀ q ∈ _, q ∈ _) _ ?_)))) ⟨_, rfl, .inr ⟨List.getElem?_eq_none (by omega), _, _, by k_mem⟩⟩))
  k_with "JV" => ((refine JV.intro (by assumption) (by assumption) (by (intro q hq; repeat (first | exact hq | apply List.mem_cons_of_mem | (refine (by assumption : ∀ q ∈ _, q ∈ _) _ ?_)))) ⟨_, congrArg (fun n => Value.int n _) (by (rw [if_pos (by with_reducible assumption : (pairAt r p) = true)]); first | done | rfl)⟩))
  k_with "JV" => ((refine JV.intro (by assumption) (by assumption) (by (intro q hq; repeat (first | exact hq | apply List.mem_cons_of_mem | (refine (by assumption : ∀ q ∈ _, q ∈ _) _ ?_)))) ⟨_, congrArg (fun n => Value.int n _) (by (rw [if_neg (ne_true_of_eq_false (by with_reducible assumption : (pairAt r p) = false))]); first | done | rfl)⟩))
  k_with "JV" => ((refine JV.intro (by assumption) (by assumption) (by (intro q hq; repeat (first | exact hq | apply List.mem_cons_of_mem | (refine (by assumption : ∀ q ∈ _, q ∈ _) _ ?_)))) ⟨_, congrArg (fun n => Value.int n _) (by (rw [if_pos (by with_reducible assumption : (mk r p) = true)]); first | done | rfl)⟩))
  k_with "JV" => ((refine JV.intro (by assumption) (by assumption) (by (intro q hq; repeat (first | exact hq | apply List.mem_cons_of_mem | (refine (by assumption : ∀ q ∈ _, q ∈ _) _ ?_)))) ⟨_, congrArg (fun n => Value.int n _) (by (rw [if_neg (ne_true_of_eq_false (by with_reducible assumption : (mk r p) = false))]); first | done | rfl)⟩))
  k_with "JV" => ((refine JV.intro (by assumption) (by assumption) (by (intro q hq; repeat (first | exact hq | apply List.mem_cons_of_mem | (refine (by assumption : ∀ q ∈ _, q ∈ _) _ ?_)))) ⟨_, congrArg (fun n => Value.int n _) (by (rw [if_pos (by with_reducible assumption : (kindAt r p "sign" && worthAt r p "-") = true)]); first | done | rfl)⟩))
  k_with "JV" => ((refine JV.intro (by assumption) (by assumption) (by (intro q hq; repeat (first | exact hq | apply List.mem_cons_of_mem | (refine (by assumption : ∀ q ∈ _, q ∈ _) _ ?_)))) ⟨_, congrArg (fun n => Value.int n _) (by (rw [if_neg (ne_true_of_eq_false (by with_reducible assumption : (kindAt r p "sign" && worthAt r p "-") = false))]); first | done | rfl)⟩))
  k_with "JV" => ((with_reducible show JV _ _ _ _ (fun nx v => ResO _ nx (dueF r p 2) v) _ _ _); (refine JV.intro (by assumption) (by assumption) (by (intro q hq; repeat (first | exact hq | apply List.mem_cons_of_mem | (refine (by assumption : ∀ q ∈ _, q ∈ _) _ ?_)))) (ResO.yes (due2T (by with_reducible assumption : (kindAt r p "word" && worthAt r p "MOVE") = true)) (by k_mem) rfl rfl)))
  k_with "JV" => ((with_reducible show JV _ _ _ _ (fun nx v => ResO _ nx (dueF r p 2) v) _ _ _); (refine JV.intro (by assumption) (by assumption) (by (intro q hq; repeat (first | exact hq | apply List.mem_cons_of_mem | (refine (by assumption : ∀ q ∈ _, q ∈ _) _ ?_)))) (ResO.no (due2F (by with_reducible assumption : (kindAt r p "word" && worthAt r p "MOVE") = false)))))
  k_with "JV" => ((with_reducible show JV _ _ _ _ (fun nx v => ResO _ nx (dueF r p 3) v) _ _ _); (refine JV.intro (by assumption) (by assumption) (by (intro q hq; repeat (first | exact hq | apply List.mem_cons_of_mem | (refine (by assumption : ∀ q ∈ _, q ∈ _) _ ?_)))) (ResO.yes (due3L1 (by with_reducible assumption : (kdA r p == "word") = true) (by with_reducible assumption : ([("TO" : Str), "A", "END"].any (· == wdA r p)) = true)) (by k_mem) rfl ⟨_, rfl⟩)))
  k_with "JV" => ((with_reducible show JV _ _ _ _ (fun nx v => ResO _ nx (dueF r p 3) v) _ _ _); (refine JV.intro (by assumption) (by assumption) (by (intro q hq; repeat (first | exact hq | apply List.mem_cons_of_mem | (refine (by assumption : ∀ q ∈ _, q ∈ _) _ ?_)))) (ResO.yes (due3L2 (by with_reducible assumption : (kdA r p == "word") = true) (by with_reducible assumption : ([("TO" : Str), "A", "END"].any (· == wdA r p)) = false)) (by k_mem) rfl ⟨_, rfl⟩)))
  k_with "JV" => ((with_reducible show JV _ _ _ _ (fun nx v => ResO _ nx (dueF r p 3) v) _ _ _); (refine JV.intro (by assumption) (by assumption) (by (intro q hq; repeat (first | exact hq | apply List.mem_cons_of_mem | (refine (by assumption : ∀ q ∈ _, q ∈ _) _ ?_)))) (ResO.yes (due3L3 (by with_reducible assumption : (kdA r p == "word") = false)) (by k_mem) rfl ⟨_, rfl⟩)))
  k_with "JV" => ((with_reducible show JV _ _ _ _ (fun nx v => ResO _ nx (dueF r p 4) v) _ _ _); (refine JV.intro (by assumption) (by assumption) (by (intro q hq; repeat (first | exact hq | apply List.mem_cons_of_mem | (refine (by assumption : ∀ q ∈ _, q ∈ _) _ ?_)))) (ResO.yes (due4E (by with_reducible assumption : (l'.isEmpty) = false) e') (by k_mem) rfl ⟨_, rfl⟩)))
  k_with "JV" => ((with_reducible show JV _ _ _ _ (fun nx v => ResO _ nx (dueF r p 4) v) _ _ _); (refine JV.intro (by assumption) (by assumption) (by (intro q hq; repeat (first | exact hq | apply List.mem_cons_of_mem | (refine (by assumption : ∀ q ∈ _, q ∈ _) _ ?_)))) (ResO.no (due4O (by with_reducible assumption : (l'.isEmpty) = true) e'))))
  k_with "JV" => ((with_reducible show JV _ _ _ _ (fun nx v => ResO _ nx (dueF r p 5) v) _ _ _); (refine JV.intro (by assumption) (by assumption) (by (intro q hq; repeat (first | exact hq | apply List.mem_cons_of_mem | (refine (by assumption : ∀ q ∈ _, q ∈ _) _ ?_)))) (ResO.yes (due5E (by with_reducible assumption : (l'.isEmpty) = false) e') (by k_mem) rfl ⟨_, _, _, rfl, by (repeat (first | assumption | exact List.Mem.head _ | apply List.mem_cons_of_mem | (refine (by assumption : ∀ q ∈ _, q ∈ _) _ ?_))), rfl, Nat.le_trans hl' W.few⟩)))
  k_with "JV" => ((with_reducible show JV _ _ _ _ (fun nx v => ResO _ nx (dueF r p 5) v) _ _ _); (refine JV.intro (by assumption) (by assumption) (by (intro q hq; repeat (first | exact hq | apply List.mem_cons_of_mem | (refine (by assumption : ∀ q ∈ _, q ∈ _) _ ?_)))) (ResO.no (due5O (by with_reducible assumption : (l'.isEmpty) = true) e'))))
  k_with "JV" => ((with_reducible show JV _ _ _ _ (fun nx v => ResO _ nx (dueF r p 8) v) _ _ _); (refine JV.intro (by assumption) (by assumption) (by (intro q hq; repeat (first | exact hq | apply List.mem_cons_of_mem | (refine (by assumption : ∀ q ∈ _, q ∈ _) _ ?_)))) (ResO.yes (due8L (by with_reducible assumption : (kdA r p == "literal") = true)) (by k_mem) rfl ⟨_, rfl⟩)))
  k_with "JV" => ((with_reducible show JV _ _ _ _ (fun nx v => ResO _ nx (dueF r p 8) v) _ _ _); (refine JV.intro (by assumption) (by assumption) (by (intro q hq; repeat (first | exact hq | apply List.mem_cons_of_mem | (refine (by assumption : ∀ q ∈ _, q ∈ _) _ ?_)))) (ResO.no (due8N (by with_reducible assumption : (kdA r p == "literal") = false)))))
  k_with "JV" => ((with_reducible show JV _ _ _ _ (fun nx v => ResO _ nx (dueF r p 11) v) _ _ _); (refine JV.intro (by assumption) (by assumption) (by (intro q hq; repeat (first | exact hq | apply List.mem_cons_of_mem | (refine (by assumption : ∀ q ∈ _, q ∈ _) _ ?_)))) (ResO.yes (due11L (by with_reducible assumption : (kindAt r p "sign" && worthAt r p "(") = true)) (by k_mem) rfl rfl)))
  k_with "JV" => ((with_reducible show JV _ _ _ _ (fun nx v => ResO _ nx (dueF r p 11) v) _ _ _); (refine JV.intro (by assumption) (by assumption) (by (intro q hq; repeat (first | exact hq | apply List.mem_cons_of_mem | (refine (by assumption : ∀ q ∈ _, q ∈ _) _ ?_)))) (ResO.no (due11N (by with_reducible assumption : (kindAt r p "sign" && worthAt r p "(") = false)))))
  k_with "JV" => ((with_reducible show JV _ _ _ _ (fun nx v => ResO _ nx (dueF r p 12) v) _ _ _); (refine JV.intro (by assumption) (by assumption) (by (intro q hq; repeat (first | exact hq | apply List.mem_cons_of_mem | (refine (by assumption : ∀ q ∈ _, q ∈ _) _ ?_)))) (res12 (by k_in) W (by first | assumption | exact RowAt.more (by assumption) (by (intro q hq; repeat (first | exact hq | apply List.mem_cons_of_mem | (refine (by assumption : ∀ q ∈ _, q ∈ _) _ ?_))))) (by omega) (by k_mem) rfl)))
  k_with "JV" => ((with_reducible show JV _ _ _ _ (fun nx v => ResO _ nx (dueF r p 12) v) _ _ _); (refine JV.intro (by assumption) (by assumption) (by (intro q hq; repeat (first | exact hq | apply List.mem_cons_of_mem | (refine (by assumption : ∀ q ∈ _, q ∈ _) _ ?_)))) (ResO.no (due12F (List.getElem?_eq_none (by omega))))))
  k_with "JV" => ((with_reducible show JV _ _ _ _ (fun nx v => ResO _ nx (dueF r p 13) v) _ _ _); (refine JV.intro (by assumption) (by assumption) (by (intro q hq; repeat (first | exact hq | apply List.mem_cons_of_mem | (refine (by assumption : ∀ q ∈ _, q ∈ _) _ ?_)))) (ResO.yes (due13L (by with_reducible assumption : (kdA r p == "word") = true)) (by k_mem) rfl ⟨_, rfl⟩)))
  k_with "JV" => ((with_reducible show JV _ _ _ _ (fun nx v => ResO _ nx (dueF r p 13) v) _ _ _); (refine JV.intro (by assumption) (by assumption) (by (intro q hq; repeat (first | exact hq | apply List.mem_cons_of_mem | (refine (by assumption : ∀ q ∈ _, q ∈ _) _ ?_)))) (ResO.no (due13N (by with_reducible assumption : (kdA r p == "word") = false)))))
  k_with "exec While" => ((with_unfolding_all refine' plain_while (p := p) (l0 := []) rfl ?k1 ?k2 (fun l' c' h' tk' J' F' N' => ?_) (fun l' c' h' tk' e' hl' F' N' => ?_) ?kE); (case k1 => k_asm); (case k2 => k_asm); (case kE => passes_own))
  k_with "call builtin:list.append" => (k_dflt (refine' plain_app ?k1 ?k2 ?k3 ?k4 ?_; (case k3 => k_asm); (case k4 => k_asm); (case k1 => first | exact Nat.le_trans (PJ.few (by assumption)) W.few | exact Nat.le_trans (by assumption) W.few); (case k2 => first | assumption | exact allLt_at (by assumption))); intro h' F' N')
  k_with "PEnd" => (k_dflt (exact PEnd.intro (by assumption) (by assumption) (PJ.step W (by assumption) (by omega) (by with_reducible assumption : (kdA r (p + l'.length) == "word") = true) (by with_reducible assumption : keptB (wdA r (p + l'.length)) = false))))
  k_with "PExit" => (k_dflt (refine PExit.intro (by assumption) (by assumption) ?_; first | exact PJ.last1 (by assumption) (by omega) | exact PJ.last2 (by assumption) (by with_reducible assumption : (kdA r (p + l'.length) == "word") = false) | exact PJ.last3 W (by assumption) (by with_reducible assumption : (kdA r (p + l'.length) == "word") = true) (by with_reducible assumption : keptB (wdA r (p + l'.length)) = true)))
  k_with "exec If Name" => ((goal_lacks Mine.JS); (with_reducible show wpAny _ _ (exec (Stmt.If _ (_ :: _ :: _) _ _) _) _ _ _); (with_unfolding_all refine' joinS "worth" "decimal_here" (fun nx v => ResO h₀ nx (dueF r p 6) v) ?k1 ?k2 ?_ (fun u' v' h' tk' nx' F' N' k' o' => ?_)); (case k1 => k_asm); (case k2 => k_asm))
  k_with "exec If BoolOp" => ((goal_lacks Mine.JS); (with_reducible show wpAny _ _ (exec (Stmt.If _ [Stmt.Assign [Expr.Name (Str.ofString "whole_here") _] _ _] _ _) _) _ _ _); (with_unfolding_all refine' joinS "worth" "whole_here" (fun nx v => ResO h₀ nx (dueF r p 7) v) ?k1 ?k2 ?_ (fun u' v' h' tk' nx' F' N' k' o' => ?_)); (case k1 => k_asm); (case k2 => k_asm))
  k_with "exec If BoolOp" => ((goal_lacks Mine.JS); (with_reducible show wpAny _ _ (exec (Stmt.If _ [Stmt.Assign [Expr.Name (Str.ofString "octets_here") _] _ _] _ _) _) _ _ _); (with_unfolding_all refine' joinS "worth" "octets_here" (fun nx v => ResO h₀ nx (dueF r p 9) v) ?k1 ?k2 ?_ (fun u' v' h' tk' nx' F' N' k' o' => ?_)); (case k1 => k_asm); (case k2 => k_asm))
  k_with "JS" => ((refine JS.intro (by assumption) (by assumption) (by (intro q hq; repeat (first | exact hq | apply List.mem_cons_of_mem | (refine (by assumption : ∀ q ∈ _, q ∈ _) _ ?_)))) (by rfl) (by intro z h1 h2; first | rfl | (simp only [if_neg h1, if_neg h2])) (by decide) (ResO.no (due6N (by with_reducible assumption : (kdA r (mq r p) == "number") = false)))))
  k_with "JS" => ((refine JS.intro (by assumption) (by assumption) (by (intro q hq; repeat (first | exact hq | apply List.mem_cons_of_mem | (refine (by assumption : ∀ q ∈ _, q ∈ _) _ ?_)))) (by rfl) (by intro z h1 h2; first | rfl | (simp only [if_neg h1, if_neg h2])) (by decide) (ResO.yes (due6L (by with_reducible assumption : (kdA r (mq r p) == "number") = true) i1' hr' hz') (by k_mem) rfl ⟨_, _, _, rfl, by (repeat (first | assumption | exact List.Mem.head _ | apply List.mem_cons_of_mem | (refine (by assumption : ∀ q ∈ _, q ∈ _) _ ?_)))⟩)))
  k_with "JS" => ((refine JS.intro (by assumption) (by assumption) (by (intro q hq; repeat (first | exact hq | apply List.mem_cons_of_mem | (refine (by assumption : ∀ q ∈ _, q ∈ _) _ ?_)))) (by rfl) (by intro z h1 h2; first | rfl | (simp only [if_neg h1, if_neg h2])) (by decide) (ResO.no (due7N1 (by with_reducible assumption : (kdA r p == "number") = false)))))
  k_with "JS" => ((refine JS.intro (by assumption) (by assumption) (by (intro q hq; repeat (first | exact hq | apply List.mem_cons_of_mem | (refine (by assumption : ∀ q ∈ _, q ∈ _) _ ?_)))) (by rfl) (by intro z h1 h2; first | rfl | (simp only [if_neg h1, if_neg h2])) (by decide) (ResO.no (due7M2 (by assumption : (_ == (0 : Int)) = false) (by assumption) (by assumption) (by with_reducible assumption : (kdA r p == "number") = true)))))
  k_with "JS" => ((refine JS.intro (by assumption) (by assumption) (by (intro q hq; repeat (first | exact hq | apply List.mem_cons_of_mem | (refine (by assumption : ∀ q ∈ _, q ∈ _) _ ?_)))) (by rfl) (by intro z h1 h2; first | rfl | (simp only [if_neg h1, if_neg h2])) (by decide) (ResO.yes (due7M (by assumption : (_ == (0 : Int)) = true) (by assumption) (by assumption) (by with_reducible assumption : (kdA r p == "number") = true) i1' hr') (by k_mem) rfl ⟨_, rfl⟩)))
  k_with "JS" => ((refine JS.intro (by assumption) (by assumption) (by (intro q hq; repeat (first | exact hq | apply List.mem_cons_of_mem | (refine (by assumption : ∀ q ∈ _, q ∈ _) _ ?_)))) (by rfl) (by intro z h1 h2; first | rfl | (simp only [if_neg h1, if_neg h2])) (by decide) (ResO.no (due9N1 (by with_reducible assumption : (kdA r p == "literal") = false)))))
  k_with "JS" => ((refine JS.intro (by assumption) (by assumption) (by (intro q hq; repeat (first | exact hq | apply List.mem_cons_of_mem | (refine (by assumption : ∀ q ∈ _, q ∈ _) _ ?_)))) (by rfl) (by intro z h1 h2; first | rfl | (simp only [if_neg h1, if_neg h2])) (by decide) (ResO.no (due9N2 W (by with_reducible assumption : (kdA r p == "literal") = true) (by with_reducible assumption : (wdA r p != "Ā") = false)))))
  k_with "JS" => ((refine JS.intro (by assumption) (by assumption) (by (intro q hq; repeat (first | exact hq | apply List.mem_cons_of_mem | (refine (by assumption : ∀ q ∈ _, q ∈ _) _ ?_)))) (by rfl) (by intro z h1 h2; first | rfl | (simp only [if_neg h1, if_neg h2])) (by decide) (ResO.yes (due9L W (by with_reducible assumption : (kdA r p == "literal") = true) (by with_reducible assumption : (wdA r p != "Ā") = true)) (by k_mem) rfl ⟨_, rfl⟩)))
  k_with "exec Assign cons ListComp" => (k_dflt (refine Assign_ListComp_S (F₀ := by k_asm) (by rfl) (by with_unfolding_all rfl) (by with_unfolding_all rfl) (by decide) (by rfl) (by decide) (by rfl) (by rfl) (by rfl) ?_))
  k_with "eval ListComp" => (k_dflt (refine ListComp_S (F₀ := by k_asm) (by with_unfolding_all rfl) (by decide) (by rfl) (by decide) (by rfl) ?_))
  k_with "SrcS" => (k_dflt (refine' SrcS.intro ?k1 ?k2 ?k3 ?k4 ?_; (case k1 => rfl); (case k2 => k_asm); (case k3 => k_asm); (case k4 => first | assumption | exact wd_len _)); intro g'; (refine' ords_rest (fun c' u' I' oI' C' oC' D' m' ys' h' tk' E' hC' hx' F' N' off' ne' => ?_) (fun ys' hI' => ?_)))
  k_with "CompEnd" => (k_dflt (refine' compEnd_same ?k1 ?k2 ?k4 ?k5 ?_; (case k1 => assumption); (case k2 => assumption); (case k4 => assumption); (case k5 => first | exact True.intro | exact .inr ⟨_, by k_mem, rfl, _, rfl⟩)))
  k_with "OrdEl" => (k_dflt (exact OrdEl.intro))
  k_with "compareOp NotEq ref ref" => (k_dflt (refine' plain_ne ?k1 ?k2 ?k3 ?k4 ?k5 ?_; (case k1 => k_asm); (case k3 => k_mem); (case k2 => (repeat (first | assumption | exact List.Mem.head _ | apply List.mem_cons_of_mem | (refine (by assumption : ∀ q ∈ _, q ∈ _) _ ?_)))); (case k4 => exact take_ok2 e'); (case k5 => ktr_units)); k_whole)
  k_with "subscriptTail" => ((with_reducible show wpAny _ _ (subscriptTail _ _ (Value.ref _) (Value.int 0 _)) _ _ _); k_dflt (refine' plain_item ?k1 ?k2 ?k3 ?_; (case k1 => k_asm); (case k2 => (repeat (first | assumption | exact List.Mem.head _ | apply List.mem_cons_of_mem | (refine (by assumption : ∀ q ∈ _, q ∈ _) _ ?_)))); (case k3 => exact head_of e' (by with_reducible assumption : l'.isEmpty = false))); k_whole; intro t')
  k_with "call ref" => ((with_reducible show wpAny _ _ (call (Value.ref 374) _ _) _ _ _); k_dflt (refine' c_lawDecimalA W ?kn ?k1 ?k2 ?k3 ?k4 ?k5 ?k6 ?k7 ?k8 (fun i' uu' vv' D' z' t1' t2' h' tk' i1' hr' hz' F' N' l1' => ?_); (case kn => assumption); (case k1 => k_asm); (case k2 => k_asm); (case k3 => k_in); (case k4 => k_asm); (case k5 => k_asm); (case k6 => first | rfl | assumption); (case k7 => ktr_room); (case k8 => ktr_units)); (try ((rw [if_neg Bool.false_ne_true] at hz'); subst hz')))
  k_with "SrcS" => (k_dflt (refine' SrcS.intro ?k1 ?k2 ?k3 ?k4 ?_; (case k1 => rfl); (case k2 => k_asm); (case k3 => k_asm); (case k4 => exact wdA_len _ _)); intro g'; (refine' ords_rest (fun c' u' I' oI' C' oC' D' m' ys' h' tk' E' hC' hx' F' N' off' ne' => ?_) (fun ys' hI' => ?_)))
  k_with "call type:bytes" => (k_dflt (refine' bytes_K ?bq1 ?bq2 ?bq3 ?bq4 ?bq5 ?bq6 ?bq7 ?_; (case bq1 => k_asm); (case bq2 => k_asm); (case bq3 => exact ⟨_, News.get (by k_asm) (by k_mem), rfl, _, rfl⟩); (case bq4 => assumption); (case bq5 => exact ords_small2 ((small_lit W (by with_reducible assumption : (kdA r p == "literal") = true)).trans (by with_reducible assumption : (wdA r p != "Ā") = true))); (case bq6 => exact ints_few2 (by assumption) (wdA_len _ _)); (case bq7 => rfl)); intro h' t' k' F' N' hB')
  k_with "subscriptTail" => ((with_reducible show wpAny _ _ (subscriptTail _ _ (Value.ref _) (Value.int z _)) _ _ _); have h8 := zl0 h0 (by with_reducible assumption : z < 4); rcases h8 with rfl | rfl | rfl | rfl)
  k_with "subscriptTail" => ((with_reducible show wpAny _ _ (subscriptTail _ _ (Value.ref _) (Value.int (z - 4) _)) _ _ _); have h8 := zl4 (by with_reducible assumption : ¬ z < 4) (by with_reducible assumption : z < 8); rcases h8 with ⟨h9, rfl⟩ | ⟨h9, rfl⟩ | ⟨h9, rfl⟩ | ⟨h9, rfl⟩; (all_goals (with_reducible refine idx_eq h9 ?_)))
  k_with "subscriptTail" => ((with_reducible show wpAny _ _ (subscriptTail _ _ (Value.ref _) (Value.int (z - 8) _)) _ _ _); have h8 := zl8 (by with_reducible assumption : ¬ z < 8) (by with_reducible assumption : z < 12); rcases h8 with ⟨h9, rfl⟩ | ⟨h9, rfl⟩ | ⟨h9, rfl⟩ | ⟨h9, rfl⟩; (all_goals (with_reducible refine idx_eq h9 ?_)))
  k_with "subscriptTail" => ((with_reducible show wpAny _ _ (subscriptTail _ _ (Value.ref _) (Value.int (z - 12) _)) _ _ _); have h8 := zl12 (by with_reducible assumption : ¬ z < 12) h1; rcases h8 with ⟨h9, rfl⟩ | ⟨h9, rfl⟩ | ⟨h9, rfl⟩ | ⟨h9, rfl⟩ | ⟨h9, rfl⟩ | ⟨h9, rfl⟩; (all_goals (with_reducible refine idx_eq h9 ?_)))
  trivial
section
variable {w : World} {mean : ExcName → Option Value} {mg mb : PySem.Str → Option Value} {hd : Option Value} {dp un : Nat} {gd : Option (List Code)} {cn : PySem.Str} {cs : Scope} {a : Addr} {ccd : Value} {cl : List (PySem.Str × Addr)} {outer : List Env} {A₀ : Around} {base h₀ : Heap} {L : Addr} {m : PySem.Str → Option Value} {nx : List (Addr × Obj)} {s : Shared} {r : RX} {p : Nat} {tp : Tok} {RL : Addr} {c : Nat}
set_option maxHeartbeats 4000000 in
theorem c_due {z : Int} {tk : Tok} {Q E : Value → Shared → Prop}
    (B : Below A₀ base outer h₀) (F : Fr h₀ L s.heap m) (X : (frag.heap_1 w.params).In h₀) (N : News h₀ L s.heap nx) (W : Few r) (hm : (RL, rowsL r c) ∈ nx) (T : Top topProg LS mean mg mb h₀) (hk : cs.kind = .function)
    (hdp : dp + 40 < 1000) (hun : un + 400 < cLine) (h0 : 0 ≤ z) (h1 : z < 18)
    (ret : ∀ v nx' h' tk', ResO h₀ nx' (dueF r p z.toNat) v → (∀ q ∈ nx, q ∈ nx') → Fr h₀ L h' m → News h₀ L h' nx' → Q v { s with heap := h', toks := tk' }) :
    wpAny (model prog w) (Ar none dp un gd cn cs L a ccd cl outer) (call (.ref 379) [.ref RL, .int (p : Int) tp, .int z tk] []) Q E s := by
  have hrL : recursionLimit = 1000 := rfl
  have ret' : ∀ v h' tk' nx', Fr h₀ L h' m → News h₀ L h' nx' → (∀ q ∈ nx, q ∈ nx') → ResO h₀ nx' (dueF r p z.toNat) v → Q v { s with heap := h', toks := tk' } := fun v h' tk' nx' F N k R => ret v nx' h' tk' R k F N
  clear ret
  w_on
  refine wpAny_call ?_
  k_dflt (refine' code_def  ?k1 ?k2 ?k3 ?k4 ?k5 ?kA ?kF ?kK ?k6 ?k7 ?k8 ?k9 ?kB ?_ ?c2 ?c3 ?c4 ?c5; (case kA => exact rfl); (case kF => exact rfl); (case kK => assumption); (case k1 => k_asm); (case k2 => k_asm); (case k3 => k_asm); (case k4 => k_asm); (case k5 => k_asm); (case k6 => k_is); (case k7 => k_is); (case k8 => ktr_room); (case k9 => first | exact BindsTo.of_eq rfl | exact binds_K (by k_in) rfl (by k_is) rfl rfl rfl); (case c5 => decide); (case kB => exact locs rfl); (case c2 => exact rfl); (case c3 => exact rfl); (case c4 => exact rfl); k_whole; intro g' L' h' FG' F' N' B' X' T'; (try dsimp only); (try k_fold))
  k_steps
  · exact ret' _ _ _ _ (by assumption) (by assumption) (by (intro q hq; repeat (first | exact hq | apply List.mem_cons_of_mem | (refine (by assumption : ∀ q ∈ _, q ∈ _) _ ?_)))) (ResO.yes (due0L) (by (repeat (first | assumption | exact List.Mem.head _ | apply List.mem_cons_of_mem | (refine (by assumption : ∀ q ∈ _, q ∈ _) _ ?_)))) rfl rfl)
  · exact ret' _ _ _ _ (by assumption) (by assumption) (by (intro q hq; repeat (first | exact hq | apply List.mem_cons_of_mem | (refine (by assumption : ∀ q ∈ _, q ∈ _) _ ?_)))) (ResO.yes (due1L) (by (repeat (first | assumption | exact List.Mem.head _ | apply List.mem_cons_of_mem | (refine (by assumption : ∀ q ∈ _, q ∈ _) _ ?_)))) rfl rfl)
  · exact ret' _ _ _ _ (by assumption) (by assumption) (by (intro q hq; repeat (first | exact hq | apply List.mem_cons_of_mem | (refine (by assumption : ∀ q ∈ _, q ∈ _) _ ?_)))) (ResO.from (by assumption) (by (intro q hq; repeat (first | exact hq | apply List.mem_cons_of_mem | (refine (by assumption : ∀ q ∈ _, q ∈ _) _ ?_)))))
  · exact ret' _ _ _ _ (by assumption) (by assumption) (by (intro q hq; repeat (first | exact hq | apply List.mem_cons_of_mem | (refine (by assumption : ∀ q ∈ _, q ∈ _) _ ?_)))) (ResO.from (by assumption) (by (intro q hq; repeat (first | exact hq | apply List.mem_cons_of_mem | (refine (by assumption : ∀ q ∈ _, q ∈ _) _ ?_)))))
  · exact ret' _ _ _ _ (by assumption) (by assumption) (by (intro q hq; repeat (first | exact hq | apply List.mem_cons_of_mem | (refine (by assumption : ∀ q ∈ _, q ∈ _) _ ?_)))) (ResO.from (by assumption) (by (intro q hq; repeat (first | exact hq | apply List.mem_cons_of_mem | (refine (by assumption : ∀ q ∈ _, q ∈ _) _ ?_)))))
  · exact ret' _ _ _ _ (by assumption) (by assumption) (by (intro q hq; repeat (first | exact hq | apply List.mem_cons_of_mem | (refine (by assumption : ∀ q ∈ _, q ∈ _) _ ?_)))) (ResO.from (by assumption) (by (intro q hq; repeat (first | exact hq | apply List.mem_cons_of_mem | (refine (by assumption : ∀ q ∈ _, q ∈ _) _ ?_)))))
  · exact ret' _ _ _ _ (by assumption) (by assumption) (by (intro q hq; repeat (first | exact hq | apply List.mem_cons_of_mem | (refine (by assumption : ∀ q ∈ _, q ∈ _) _ ?_)))) (ResO.from (by assumption) (by (intro q hq; repeat (first | exact hq | apply List.mem_cons_of_mem | (refine (by assumption : ∀ q ∈ _, q ∈ _) _ ?_)))))
  · exact ret' _ _ _ _ (by assumption) (by assumption) (by (intro q hq; repeat (first | exact hq | apply List.mem_cons_of_mem | (refine (by assumption : ∀ q ∈ _, q ∈ _) _ ?_)))) (ResO.from (by assumption) (by (intro q hq; repeat (first | exact hq | apply List.mem_cons_of_mem | (refine (by assumption : ∀ q ∈ _, q ∈ _) _ ?_)))))
  · exact ret' _ _ _ _ (by assumption) (by assumption) (by (intro q hq; repeat (first | exact hq | apply List.mem_cons_of_mem | (refine (by assumption : ∀ q ∈ _, q ∈ _) _ ?_)))) (ResO.from (by assumption) (by (intro q hq; repeat (first | exact hq | apply List.mem_cons_of_mem | (refine (by assumption : ∀ q ∈ _, q ∈ _) _ ?_)))))
  · exact ret' _ _ _ _ (by assumption) (by assumption) (by (intro q hq; repeat (first | exact hq | apply List.mem_cons_of_mem | (refine (by assumption : ∀ q ∈ _, q ∈ _) _ ?_)))) (ResO.from (by assumption) (by (intro q hq; repeat (first | exact hq | apply List.mem_cons_of_mem | (refine (by assumption : ∀ q ∈ _, q ∈ _) _ ?_)))))
  · exact ret' _ _ _ _ (by assumption) (by assumption) (by (intro q hq; repeat (first | exact hq | apply List.mem_cons_of_mem | (refine (by assumption : ∀ q ∈ _, q ∈ _) _ ?_)))) (ResO.yes (due10L) (by (repeat (first | assumption | exact List.Mem.head _ | apply List.mem_cons_of_mem | (refine (by assumption : ∀ q ∈ _, q ∈ _) _ ?_)))) rfl rfl)
  · exact ret' _ _ _ _ (by assumption) (by assumption) (by (intro q hq; repeat (first | exact hq | apply List.mem_cons_of_mem | (refine (by assumption : ∀ q ∈ _, q ∈ _) _ ?_)))) (ResO.from (by assumption) (by (intro q hq; repeat (first | exact hq | apply List.mem_cons_of_mem | (refine (by assumption : ∀ q ∈ _, q ∈ _) _ ?_)))))
  · exact ret' _ _ _ _ (by assumption) (by assumption) (by (intro q hq; repeat (first | exact hq | apply List.mem_cons_of_mem | (refine (by assumption : ∀ q ∈ _, q ∈ _) _ ?_)))) (ResO.from (by assumption) (by (intro q hq; repeat (first | exact hq | apply List.mem_cons_of_mem | (refine (by assumption : ∀ q ∈ _, q ∈ _) _ ?_)))))
  · exact ret' _ _ _ _ (by assumption) (by assumption) (by (intro q hq; repeat (first | exact hq | apply List.mem_cons_of_mem | (refine (by assumption : ∀ q ∈ _, q ∈ _) _ ?_)))) (ResO.from (by assumption) (by (intro q hq; repeat (first | exact hq | apply List.mem_cons_of_mem | (refine (by assumption : ∀ q ∈ _, q ∈ _) _ ?_)))))
  · exact ret' _ _ _ _ (by assumption) (by assumption) (by (intro q hq; repeat (first | exact hq | apply List.mem_cons_of_mem | (refine (by assumption : ∀ q ∈ _, q ∈ _) _ ?_)))) (ResO.yes (due14L) (by (repeat (first | assumption | exact List.Mem.head _ | apply List.mem_cons_of_mem | (refine (by assumption : ∀ q ∈ _, q ∈ _) _ ?_)))) rfl rfl)
  · exact ret' _ _ _ _ (by assumption) (by assumption) (by (intro q hq; repeat (first | exact hq | apply List.mem_cons_of_mem | (refine (by assumption : ∀ q ∈ _, q ∈ _) _ ?_)))) (ResO.yes (due15L (by assumption)) (by (repeat (first | assumption | exact List.Mem.head _ | apply List.mem_cons_of_mem | (refine (by assumption : ∀ q ∈ _, q ∈ _) _ ?_)))) rfl rfl)
  · exact ret' _ _ _ _ (by assumption) (by assumption) (by (intro q hq; repeat (first | exact hq | apply List.mem_cons_of_mem | (refine (by assumption : ∀ q ∈ _, q ∈ _) _ ?_)))) (ResO.yes (due16L) (by (repeat (first | assumption | exact List.Mem.head _ | apply List.mem_cons_of_mem | (refine (by assumption : ∀ q ∈ _, q ∈ _) _ ?_)))) rfl rfl)
  · exact ret' _ _ _ _ (by assumption) (by assumption) (by (intro q hq; repeat (first | exact hq | apply List.mem_cons_of_mem | (refine (by assumption : ∀ q ∈ _, q ∈ _) _ ?_)))) (ResO.yes (due17L) (by (repeat (first | assumption | exact List.Mem.head _ | apply List.mem_cons_of_mem | (refine (by assumption : ∀ q ∈ _, q ∈ _) _ ?_)))) rfl rfl)
end
end
end
end
-- D33
section
open PySem PySem.W PySem.Calls PyProof.Rows
set_option pp.deepTerms false
set_option pp.deepTerms.threshold 6
set_option pp.maxSteps 20000
set_option format.width 180
set_option Elab.async false
set_option linter.unusedVariables false
set_option maxRecDepth 100000
section
theorem cutD33 : True := by
  k_with_none
  trivial
theorem reg33 : PySem.Challenge.rw_og0089_01 = PySem.Challenge.rw_og0089_01 ∧ frag.heap_1 = frag.heap_1 := by k_fill; exact ⟨rfl, rfl⟩
def Stop (p : Prop) : Prop := p
/-! The tape, sealed. -/
structure TX where
  tp : Addr
  ca : Addr
  n : Nat
  c : Nat
structure TS where
  q : Int
  tq : Tok
  vs : List Value
abbrev tapeX (x : TX) (st : TS) (news : List (Addr × Obj)) : List (Addr × Obj) := (x.tp, listOf #[.ref x.ca, .int st.q st.tq] x.n) :: (x.ca, listOf st.vs.toArray x.c) :: news
def TOk (st : TS) : Prop := ∃ ns, IntsAre st.vs ns ∧ 0 < ns.length ∧ ns.length ≤ 60
structure Away (x : TX) (as : List Addr) : Prop where
  ne : x.tp ≠ x.ca
  all : ∀ a ∈ as, a ≠ x.tp ∧ a ≠ x.ca
theorem Away.more {x : TX} {as : List Addr} {a : Addr} (W : Away x as) (h1 : a ≠ x.tp) (h2 : a ≠ x.ca) : Away x (a :: as) := ⟨W.ne, List.forall_mem_cons.mpr ⟨⟨h1, h2⟩, W.all⟩⟩
section
variable {w : World} {mean : ExcName → Option Value} {mg mb : PySem.Str → Option Value} {hd : Option Value} {dp un : Nat} {gd : Option (List Code)} {cn : PySem.Str} {cs : Scope} {a : Addr} {ccd : Value} {cl : List (PySem.Str × Addr)} {outer : List Env} {A₀ : Around} {base h₀ : Heap} {L : Addr} {m : PySem.Str → Option Value} {news : List (Addr × Obj)} {s : Shared}
theorem c_drawX {x : TX} {st : TS} {tl : Tok} {lim : Int} {Q E : Value → Shared → Prop} (O : TOk st) (W : Away x (news.map (·.1)))
    (B : Below A₀ base outer h₀) (F : Fr h₀ L s.heap m) (X : (frag.heap_1 w.params).In h₀) (N : News h₀ L s.heap (tapeX x st news)) (T : Top topProg LS mean mg mb h₀) (hk : cs.kind = .function)
    (hdp : dp + 2 < recursionLimit) (hun : un + 20 < cLine) (hl0 : 0 < lim) (hl1 : lim ≤ 20)
    (ret : ∀ v t st' h' tk', 0 ≤ v → v < lim → TOk st' → Fr h₀ L h' m → News h₀ L h' (tapeX x st' news) → Q (.int v t) { s with heap := h', toks := tk' }) :
    wpAny (model prog w) (Ar none dp un gd cn cs L a ccd cl outer) (call (.ref 346) [.ref x.tp, .int lim tl] []) Q E s := by
  obtain ⟨ns, hI, h0, h1⟩ := O
  exact c_draw B F X N T hk hdp hun hI h0 h1 hl0 hl1 (fun p hp => W.all p.1 (List.mem_map_of_mem hp)) W.ne fun v t t2 vs' ns' h' tk' v0 v1 hI' e F' N' => ret v t ⟨st.q + 1, t2, vs'⟩ h' tk' v0 v1 ⟨ns', hI', by omega, by omega⟩ F' N'
end
/-! A comprehension with an invariant. -/
section
variable {prog : Program} {w : World} {A : Around} {s : Shared} {h₀ : Heap} {L : Addr} {m : PySem.Str → Option Value} {env : Env}
theorem compRest_inv {elt : Expr} {x : PySem.Str} {scope : Scope} {cl : List (PySem.Str × Addr)} {S : List (Addr × Obj) → Prop} {P : Nat → Value → Prop} {Fin : List Value → List (Addr × Obj) → Prop} {n : Nat}
    (J : Nat → List Value → List (Addr × Obj) → Prop)
    (turn : ∀ i ys news v I oI C oC D m₂ h tk (E' : Value → Shared → Prop), i < n → J i ys news → P i v → LCg.NsObj oC m₂ → m₂ x = some v → Fr h₀ L h m → News h₀ L h ((I, oI) :: (C, oC) :: (D, LCg.lst ys) :: news) → LCg.Off3 I C D news → ((@Ne Nat I C) ∧ (@Ne Nat I D) ∧ (@Ne Nat C D)) →
      wpAny (model prog w) A (eval elt (compEnvC scope cl C env)) (LCg.CompEnd h₀ L m { s with heap := h, toks := tk } I oI C oC D (LCg.lst ys) S (fun y news' => J (i + 1) (ys ++ [y]) news')) E' { s with heap := h, toks := tk })
    (fin : ∀ ys news, J n ys news → Fin ys news) : ∀ k i ys news, i + k = n → J i ys news → LCg.CompRest prog w A h₀ L m env elt x scope cl s S P Fin k i ys news
  | 0, i, ys, news, e, j => LCg.CompRest.zero (fin ys news (by rw [← show i = n from e]; exact j))
  | k + 1, i, ys, news, e, j => LCg.CompRest.succ fun v I oI C oC D m₂ h tk E' hv hC hx F N off ne =>
    wpAny_mono (turn i ys news v I oI C oC D m₂ h tk E' (by omega) j hv hC hx F N off ne) (fun y s₂ ⟨h', tk', nw, e', F', N', off', hS, j'⟩ => ⟨h', tk', nw, e', F', N', off', hS, compRest_inv J turn fin k (i + 1) (ys ++ [y]) nw (by omega) j'⟩) fun _ _ e => e
end
/-! The tape's cells: the script's numbers, or a nought. -/
def JT (h₀ : Heap) (L : Addr) (m : PySem.Str → Option Value) (nx : List (Addr × Obj)) (s : Shared) (v : Value) (s' : Shared) : Prop :=
  ∃ ca vs ns c h' tk, v = .ref ca ∧ s' = { s with heap := h', toks := tk } ∧ Fr h₀ L h' m ∧ News h₀ L h' ((ca, listOf vs.toArray c) :: nx) ∧ (∀ q ∈ nx, q.1 < ca) ∧ IntsAre vs ns ∧ 0 < ns.length ∧ ns.length ≤ 60
section
variable {M : Model} {A : Around} {E : Value → Shared → Prop} {s : Shared} {h₀ : Heap} {L : Addr} {m : PySem.Str → Option Value} {nx : List (Addr × Obj)}
theorem joinT {t : Sem Value} {Q : Value → Shared → Prop} (F : Fr h₀ L s.heap m) (N : News h₀ L s.heap nx) (h1 : wpAny M A t (JT h₀ L m nx s) E s)
    (h2 : ∀ ca vs c h' tk t0, TOk ⟨0, t0, vs⟩ → Fr h₀ L h' m → News h₀ L h' ((ca, listOf vs.toArray c) :: nx) → (∀ q ∈ nx, q.1 < ca) → Q (.ref ca) { s with heap := h', toks := tk }) : wpAny M A t Q E s :=
  wpAny_mono h1 (fun v s' ⟨ca, vs, ns, c, h', tk, e1, e2, F', N', l, hI, a, b⟩ => by subst e1 e2; exact h2 ca vs c h' tk 0 ⟨ns, hI, a, b⟩ F' N' l) fun _ _ e => e
end
theorem tape_seal {h₀ h : Heap} {L tp ca : Addr} {t t0 : Tok} {vs : List Value} {n c : Nat} {nx : List (Addr × Obj)} (N : News h₀ L h ((tp, listOf #[.ref ca, .int 0 t] n) :: (ca, listOf vs.toArray c) :: nx)) (l1 : ca < tp) (l : ∀ q ∈ nx, q.1 < ca) (O : TOk ⟨0, t0, vs⟩) :
    ∃ x st, x.tp = tp ∧ News h₀ L h (tapeX x st nx) ∧ Away x (nx.map (·.1)) ∧ TOk st :=
  ⟨⟨tp, ca, n, c⟩, ⟨0, t, vs⟩, rfl, N, ⟨Nat.ne_of_gt l1, fun a ha => by
    obtain ⟨q, hq, rfl⟩ := List.mem_map.mp ha
    exact ⟨Nat.ne_of_lt (Nat.lt_trans (l q hq) l1), Nat.ne_of_lt (l q hq)⟩⟩, O⟩
theorem range_small {v : Int} (h0 : 0 ≤ v) (h1 : v < 30) : Builtin.Range.small 0 v 1 = true := by
  have h : (List.range 30).all (fun k => Builtin.Range.small 0 (k : Int) 1) = true := by decide +kernel
  have e : v = ((v.toNat : Nat) : Int) := (Int.toNat_of_nonneg h0).symm
  rw [e]
  exact List.all_eq_true.mp h v.toNat (List.mem_range.mpr (by omega))
theorem range_size {v : Int} : Builtin.Range.rangeSize 0 v 1 = ((v.toNat : Nat) : Int) := by rw [rangeSize_nat, Int.sub_zero]
/-! The law's rows, drawn. -/
def JR (h₀ : Heap) (L : Addr) (m : PySem.Str → Option Value) (x : TX) (nx : List (Addr × Obj)) (s : Shared) (y : Value) (s₂ : Shared) : Prop :=
  ∃ h' tk st j, s₂ = { s with heap := h', toks := tk } ∧ y = .ref (347 + j) ∧ j < 19 ∧ TOk st ∧ Fr h₀ L h' m ∧ News h₀ L h' (tapeX x st nx)
theorem JR.intro {h₀ h' : Heap} {L : Addr} {m : PySem.Str → Option Value} {x : TX} {nx : List (Addr × Obj)} {s : Shared} {tk : Nat} {st : TS} {j : Nat} (hj : j < 19) (O : TOk st) (F : Fr h₀ L h' m) (N : News h₀ L h' (tapeX x st nx)) : JR h₀ L m x nx s (.ref (347 + j)) { s with heap := h', toks := tk } :=
  ⟨h', tk, st, j, rfl, rfl, hj, O, F, N⟩
section
variable {prog : Program} {w : World} {A : Around} {s₁ : Shared} {h₀ : Heap} {L : Addr} {m : PySem.Str → Option Value} {env : Env}
theorem CompSrc.drawn {elt : Expr} {y : PySem.Str} {scope : Scope} {cl : List (PySem.Str × Addr)} {Fin : Shared → List Value → List (Addr × Obj) → Prop} {r : Addr} {v : Int} {t u z : Tok} {x : TX} {st : TS} {news : List (Addr × Obj)}
    (hh : A.handled = none) (F : Fr h₀ L s₁.heap m) (N : News h₀ L s₁.heap (tapeX x st news)) (O : TOk st) (W : Away x (news.map (·.1))) (hr : IsRange s₁.heap r 0 v 1 t u z) (h0 : 0 ≤ v) (h1 : v < 11)
    (turn : ∀ g st' ys I oI C oC D m₂ h tk (E' : Value → Shared → Prop), TOk st' → LCg.NsObj oC m₂ → Fr h₀ L h m → News h₀ L h (tapeX x st' ((I, oI) :: (C, oC) :: (D, LCg.lst ys) :: news)) → Away x (((I, oI) :: (C, oC) :: (D, LCg.lst ys) :: news).map (·.1)) →
      wpAny (model prog w) A (eval elt (compEnvC scope cl C env)) (JR h₀ L m x ((I, oI) :: (C, oC) :: (D, LCg.lst ys) :: news) { { s₁ with heap := g } with heap := h, toks := tk }) E' { { s₁ with heap := g } with heap := h, toks := tk })
    (fin : ∀ g (l : List Nat) st', l.length ≤ 10 → (∀ j ∈ l, j < 19) → TOk st' → Fin { s₁ with heap := g } (l.map fun i => Value.ref (347 + i)) (tapeX x st' news)) :
    LCg.CompSrc prog w A h₀ L m env elt y scope cl Fin (.ref r) s₁ := by
  refine LCg.CompSrc.range hh F N hr (range_small h0 (by omega)) range_size (by rw [sizeLine_eq]; omega) fun g => ?_
  refine compRest_inv (n := v.toNat) (fun i ys nx => ∃ (l : List Nat) (st' : TS), ys = l.map (fun i => Value.ref (347 + i)) ∧ l.length = i ∧ (∀ j ∈ l, j < 19) ∧ TOk st' ∧ nx = tapeX x st' news) ?_ ?_ v.toNat 0 [] (tapeX x st news) (Nat.zero_add _) ⟨[], st, rfl, rfl, (fun j hj => by cases hj), O, rfl⟩
  · rintro i ys nx v' I oI C oC D m₂ h tk E' hi ⟨l, st', rfl, hl, hs, O', rfl⟩ hv hC hx F' N' off ne
    have o1 := off.1
    have o2 := off.2.1
    have o3 := off.2.2.mem
    have W' : Away x (((I, oI) :: (C, oC) :: (D, LCg.lst (l.map fun i => Value.ref (347 + i))) :: news).map (·.1)) :=
      ((W.more (Ne.symm o1.2.2) (Ne.symm o2.2.2)).more (Ne.symm o1.2.1) (Ne.symm o2.2.1)).more (Ne.symm o1.1) (Ne.symm o2.1)
    refine wpAny_mono (turn g st' _ I oI C oC D m₂ h tk E' O' hC F' (newsSub N' (by kcf_all)) W') ?_ fun _ _ e => e
    rintro y s₂ ⟨h', tk', st'', j, rfl, rfl, hj, O'', F'', N''⟩
    refine ⟨h', tk', tapeX x st'' news, rfl, F'', newsSub N'' (by kcf_all), ⟨o1, o2, off.2.2⟩, trivial, l ++ [j], st'', ?_, ?_, ?_, O'', rfl⟩
    · rw [List.map_append]; rfl
    · rw [List.length_append, hl]; rfl
    · intro k hk
      rcases List.mem_append.mp hk with hk | hk
      · exact hs k hk
      · rw [List.mem_singleton.mp hk]; exact hj
  · rintro ys nx ⟨l, st', rfl, hl, hs, O', rfl⟩
    exact fin g l st' (by omega) hs O'
end
section
variable {w : World} {A : Around} {E : Value → Shared → Prop} {s : Shared} {h₀ : Heap} {L : Addr} {m : PySem.Str → Option Value}
theorem item_rows {value slice : Expr} {v : Int} {u : Tok} {Q : Value → Shared → Prop} (X : (frag.heap_1 w.params).In h₀) (F : Fr h₀ L s.heap m) (h0 : 0 ≤ v) (h1 : v < 19) (h : ∀ j, j < 19 → Q (.ref (347 + j)) s)
    (hs : subscripted slice false (.ref 366) (.int v u) = operate [.ref 366, .int v u] (getItem (.ref 366) (.int v u)) := by with_unfolding_all rfl) (hg : ∀ q, letTemporaryGo value (.ref 366) q = pure () := by intro _; with_unfolding_all rfl) :
    wpAny (model prog w) A (subscriptTail value slice (.ref 366) (.int v u)) Q E s := by
  have e : (frag.heap_1 w.params).lookup 366 = some { cls := .type "tuple", data := .seq ((List.range 19).map fun k => Value.ref (347 + k)).toArray } := by rfl
  have hk : v.toNat < 19 := by omega
  refine item_tuple (items := ((List.range 19).map fun k => Value.ref (347 + k)).toArray) (j := v.toNat) ⟨_, F.keep _ _ (X _ _ e), rfl, _, rfl⟩ (by omega) (by omega) ?_ ?_ (h v.toNat hk) hs hg
  · rw [List.size_toArray, List.length_map, List.length_range]
    exact seqIndex_of h0 (by omega)
  · rw [List.getElem?_toArray, List.getElem?_map, List.getElem?_range hk]; rfl
end
end
end
-- D34
section
open PySem PySem.W PySem.Calls PyProof.Rows
set_option pp.deepTerms false
set_option pp.deepTerms.threshold 6
set_option pp.maxSteps 20000
set_option format.width 180
set_option Elab.async false
set_option linter.unusedVariables false
set_option maxRecDepth 100000
section
theorem cutD34 : True := by
  k_with_none
  trivial
theorem reg34 : PySem.Challenge.rw_og0089_01 = PySem.Challenge.rw_og0089_01 ∧ frag.heap_1 = frag.heap_1 := by k_fill; exact ⟨rfl, rfl⟩
/-! The tokens of the law's rows. -/
structure KX where
  t : Addr
  d : Addr
  a : Addr
  h1 : Int
  h2 : Int
  h3 : Int
  h4 : Int
  t1 : Tok
  t2 : Tok
  t3 : Tok
  t4 : Tok
  u : Tok
  v : Tok
  u2 : Tok
  v2 : Tok
noncomputable abbrev tokL (k : KX) (i j : Nat) (nx : List (Addr × Obj)) : List (Addr × Obj) := (k.t, instObj 335 k.d) :: (k.d, dictOf [⟨k.h1, .str "kind" k.t1, .str (kd j) k.u⟩, ⟨k.h2, .str "worth" k.t2, .str (wd j) k.v⟩, ⟨k.h3, .str "at" k.t3, .ref k.a⟩, ⟨k.h4, .str "is_in_a" k.t4, .bool false⟩] 4) :: (k.a, tup2 (.int ((i : Int) + 1) k.u2) (.int (8 + (i : Int)) k.v2)) :: nx
/-- what stands after i tokens -/
structure Toks (l : List Nat) (i : Nat) (ks : Nat → KX) (ex : List (Addr × Obj)) : Prop where
  mem : ∀ k j, k < i → l[k]? = some j → ∀ q ∈ tokL (ks k) k j [], q ∈ ex
theorem Toks.zero {l : List Nat} {ks : Nat → KX} : Toks l 0 ks [] := ⟨fun k j h => absurd h (Nat.not_lt_zero k)⟩
theorem Toks.step {l : List Nat} {i j : Nat} {ks : Nat → KX} {ex : List (Addr × Obj)} (T : Toks l i ks ex) (hj : l[i]? = some j) (k : KX) : Toks l (i + 1) (fun n => if n = i then k else ks n) (tokL k i j ex) :=
  ⟨fun n m hn hm q hq => by
    try dsimp only at hq
    by_cases e : n = i
    · subst e
      rw [if_pos rfl] at hq
      obtain rfl : j = m := Option.some.inj (hj.symm.trans hm)
      rcases List.mem_cons.mp hq with rfl | hq
      · exact .head _
      rcases List.mem_cons.mp hq with rfl | hq
      · exact .tail _ (.head _)
      rcases List.mem_cons.mp hq with rfl | hq
      · exact .tail _ (.tail _ (.head _))
      · cases hq
    · rw [if_neg e] at hq
      exact .tail _ (.tail _ (.tail _ (T.mem n m (by omega) hm q hq)))⟩
def JK (h₀ : Heap) (L : Addr) (m : PySem.Str → Option Value) (i j : Nat) (nx : List (Addr × Obj)) (s : Shared) (y : Value) (s₂ : Shared) : Prop :=
  ∃ h' tk k, s₂ = { s with heap := h', toks := tk } ∧ y = .ref (KX.t k) ∧ Fr h₀ L h' m ∧ News h₀ L h' (tokL k i j nx) ∧ (∀ q ∈ nx, q.1 ≠ k.t ∧ q.1 ≠ k.d ∧ q.1 ≠ k.a)
theorem JK.intro {h₀ h' : Heap} {L t d a : Addr} {m : PySem.Str → Option Value} {i j tk : Nat} {nx : List (Addr × Obj)} {s : Shared} {h1 h2 h3 h4 : Int} {t1 t2 t3 t4 u v u2 v2 : Tok} {p q : Int} (F : Fr h₀ L h' m)
    (N : News h₀ L h' ((t, instObj 335 d) :: (d, dictOf [⟨h1, .str "kind" t1, .str (kd j) u⟩, ⟨h2, .str "worth" t2, .str (wd j) v⟩, ⟨h3, .str "at" t3, .ref a⟩, ⟨h4, .str "is_in_a" t4, .bool false⟩] 4) :: (a, tup2 (.int p u2) (.int q v2)) :: nx))
    (hp : p = (i : Int) + 1) (hq : q = 8 + (i : Int)) (hA : ∀ q ∈ nx, q.1 < a) (l0 : AllLt d ((a, tup2 (.int p u2) (.int q v2)) :: nx)) (l2 : d < t) : JK h₀ L m i j nx s (.ref t) { s with heap := h', toks := tk } := by
  have l1 : a < d := l0.1
  subst hp hq
  exact ⟨h', tk, ⟨t, d, a, h1, h2, h3, h4, t1, t2, t3, t4, u, v, u2, v2⟩, rfl, rfl, F, N, fun q hq => ⟨Nat.ne_of_lt (Nat.lt_trans (Nat.lt_trans (hA q hq) l1) l2), Nat.ne_of_lt (Nat.lt_trans (hA q hq) l1), Nat.ne_of_lt (hA q hq)⟩⟩
theorem tok_range {l : List Nat} {i j : Nat} {ks : Nat → KX} (hj : l[i]? = some j) (k : KX) : ((List.range i).map fun n => Value.ref (ks n).t) ++ [Value.ref k.t] = (List.range (i + 1)).map fun n => Value.ref (if n = i then k else ks n).t := by
  rw [List.range_succ, List.map_append]
  congr 1
  · apply List.map_congr_left
    intro n hn
    have := List.mem_range.mp hn
    rw [if_neg (by omega)]
  · show _ = [Value.ref (if i = i then k else ks i).t]
    rw [if_pos rfl]
section
variable {prog : Program} {w : World} {A : Around} {s₁ : Shared} {h₀ : Heap} {L : Addr} {m : PySem.Str → Option Value} {env : Env}
theorem CompSrc.toks {elt : Expr} {y : PySem.Str} {scope : Scope} {cl : List (PySem.Str × Addr)} {Fin : Shared → List Value → List (Addr × Obj) → Prop} {r : Addr} {t u z : Tok} {x : TX} {st : TS} {l : List Nat} {b : List (Addr × Obj)}
    (hh : A.handled = none) (F : Fr h₀ L s₁.heap m) (N : News h₀ L s₁.heap (tapeX x st b)) (W : Away x (b.map (·.1))) (hl : l.length ≤ 10) (hr : IsRange s₁.heap r 0 (l.length : Int) 1 t u z)
    (turn : ∀ g i j ex ys I oI C oC D m₂ h tk tq (E' : Value → Shared → Prop), i < l.length → l[i]? = some j → LCg.NsObj oC m₂ → m₂ y = some (.int (i : Int) tq) → Fr h₀ L h m → News h₀ L h ((I, oI) :: (C, oC) :: (D, LCg.lst ys) :: tapeX x st (b ++ ex)) →
      wpAny (model prog w) A (eval elt (compEnvC scope cl C env)) (JK h₀ L m i j ((I, oI) :: (C, oC) :: (D, LCg.lst ys) :: tapeX x st (b ++ ex)) { { s₁ with heap := g } with heap := h, toks := tk }) E' { { s₁ with heap := g } with heap := h, toks := tk })
    (fin : ∀ g ks ex, Toks l l.length ks ex → Away x (ex.map (·.1)) → Fin { s₁ with heap := g } ((List.range l.length).map fun n => Value.ref (KX.t (ks n))) (tapeX x st (b ++ ex))) :
    LCg.CompSrc prog w A h₀ L m env elt y scope cl Fin (.ref r) s₁ := by
  refine LCg.CompSrc.range hh F N hr (range_small (Int.natCast_nonneg _) (by omega)) range_size (by rw [sizeLine_eq]; omega) fun g => ?_
  rw [Int.toNat_natCast]
  refine compRest_inv (n := l.length) (fun i ys nx => ∃ ks ex, ys = (List.range i).map (fun n => Value.ref (KX.t (ks n))) ∧ Toks l i ks ex ∧ Away x (ex.map (·.1)) ∧ nx = tapeX x st (b ++ ex)) ?_ ?_ l.length 0 [] (tapeX x st b) (Nat.zero_add _) ⟨fun _ => ⟨0, 0, 0, 0, 0, 0, 0, 0, 0, 0, 0, 0, 0, 0, 0⟩, [], rfl, Toks.zero, ⟨W.ne, fun a ha => by cases ha⟩, by rw [List.append_nil]⟩
  · rintro i ys nx v' I oI C oC D m₂ h tk E' hi ⟨ks, ex, rfl, T, We, rfl⟩ ⟨tq, rfl⟩ hC hx F' N' off ne
    rw [Int.zero_add] at hx
    have hj := List.getElem?_eq_getElem hi
    refine wpAny_mono (turn g i _ ex _ I oI C oC D m₂ h tk tq E' hi hj hC hx F' N') ?_ fun _ _ e => e
    rintro y s₂ ⟨h', tk', k, rfl, rfl, F'', N'', hn⟩
    have a1 := hn _ (.tail _ (.tail _ (.tail _ (.head _))))
    have a2 := hn _ (.tail _ (.tail _ (.tail _ (.tail _ (.head _)))))
    have b1 := hn _ (.head _)
    have b2 := hn _ (.tail _ (.head _))
    have b3 := hn _ (.tail _ (.tail _ (.head _)))
    have We' : Away x ((tokL k i l[i] ex).map (·.1)) := ((We.more (Ne.symm a1.2.2) (Ne.symm a2.2.2)).more (Ne.symm a1.2.1) (Ne.symm a2.2.1)).more (Ne.symm a1.1) (Ne.symm a2.1)
    refine ⟨h', tk', tapeX x st (b ++ tokL k i l[i] ex), rfl, F'', newsSub N'' (fun q hq => ?_), .of fun q hq => ?_, trivial, _, _, tok_range hj k, T.step hj k, We', rfl⟩
    · have key : q ∈ tapeX x st (b ++ tokL k i l[i] ex) → q ∈ tokL k i l[i] ((I, oI) :: (C, oC) :: (D, LCg.lst ((List.range i).map fun n => Value.ref (ks n).t)) :: tapeX x st (b ++ ex)) := by
        intro hq
        simp only [tapeX, tokL, List.mem_cons, List.mem_append] at hq ⊢
        rcases hq with h | h | h | h | h | h | h <;> simp [h]
      rcases List.mem_cons.mp hq with rfl | hq
      · exact .tail _ (.tail _ (.tail _ (.head _)))
      rcases List.mem_cons.mp hq with rfl | hq
      · exact .tail _ (.tail _ (.tail _ (.tail _ (.head _))))
      rcases List.mem_cons.mp hq with rfl | hq
      · exact .tail _ (.tail _ (.tail _ (.tail _ (.tail _ (.head _)))))
      · exact key hq
    · have old : ∀ q ∈ tapeX x st (b ++ ex), q.1 ≠ I ∧ q.1 ≠ C ∧ q.1 ≠ D := off.mem
      simp only [tapeX, tokL, List.mem_cons, List.mem_append] at hq
      rcases hq with rfl | rfl | h | rfl | rfl | rfl | h
      · exact old _ (.head _)
      · exact old _ (.tail _ (.head _))
      · exact old _ (.tail _ (.tail _ (List.mem_append_left _ h)))
      · exact ⟨Ne.symm b1.1, Ne.symm b2.1, Ne.symm b3.1⟩
      · exact ⟨Ne.symm b1.2.1, Ne.symm b2.2.1, Ne.symm b3.2.1⟩
      · exact ⟨Ne.symm b1.2.2, Ne.symm b2.2.2, Ne.symm b3.2.2⟩
      · exact old _ (.tail _ (.tail _ (List.mem_append_right _ h)))
  · rintro ys nx ⟨ks, ex, rfl, T, We, rfl⟩
    exact fin g ks ex T We
end
section
variable {w : World} {A : Around} {E : Value → Shared → Prop} {s : Shared} {h₀ : Heap} {L : Addr} {m : PySem.Str → Option Value} {nx : List (Addr × Obj)}
theorem rowK_item0 {value slice : Expr} {j : Nat} {u : Tok} {Q : Value → Shared → Prop} (hj : j < 19) (X : (frag.heap_1 w.params).In h₀) (F : Fr h₀ L s.heap m) (h : ∀ t, Q (.str (kd j) t) s)
    (hs : subscripted slice false (.ref (347 + j)) (.int 0 u) = operate [.ref (347 + j), .int 0 u] (getItem (.ref (347 + j)) (.int 0 u)) := by with_unfolding_all rfl) (hg : ∀ q, letTemporaryGo value (.ref (347 + j)) q = pure () := by intro _; with_unfolding_all rfl) :
    wpAny (model prog w) A (subscriptTail value slice (.ref (347 + j)) (.int 0 u)) Q E s :=
  item_tuple (items := #[.str (kd j) (621 + 2 * j), .str (wd j) (622 + 2 * j)]) (j := 0) ⟨_, F.keep _ _ (X _ _ (row_K j hj)), rfl, _, rfl⟩ (by decide) (by decide) (by rfl) rfl (h _) hs hg
theorem rowK_item1 {value slice : Expr} {j : Nat} {u : Tok} {Q : Value → Shared → Prop} (hj : j < 19) (X : (frag.heap_1 w.params).In h₀) (F : Fr h₀ L s.heap m) (h : ∀ t, Q (.str (wd j) t) s)
    (hs : subscripted slice false (.ref (347 + j)) (.int 1 u) = operate [.ref (347 + j), .int 1 u] (getItem (.ref (347 + j)) (.int 1 u)) := by with_unfolding_all rfl) (hg : ∀ q, letTemporaryGo value (.ref (347 + j)) q = pure () := by intro _; with_unfolding_all rfl) :
    wpAny (model prog w) A (subscriptTail value slice (.ref (347 + j)) (.int 1 u)) Q E s :=
  item_tuple (items := #[.str (kd j) (621 + 2 * j), .str (wd j) (622 + 2 * j)]) (j := 1) ⟨_, F.keep _ _ (X _ _ (row_K j hj)), rfl, _, rfl⟩ (by decide) (by decide) (by rfl) rfl (h _) hs hg
theorem rowsL_item {RL : Addr} {l : List Nat} {i j : Nat} {value slice : Expr} {u : Tok} {Q : Value → Shared → Prop} (hj : l[i]? = some j) (N : News h₀ L s.heap nx) (hm : (RL, LCg.lst (l.map fun i => Value.ref (347 + i))) ∈ nx) (hl : l.length ≤ 10)
    (h : Q (.ref (347 + j)) s)
    (hs : subscripted slice false (.ref RL) (.int (i : Int) u) = operate [.ref RL, .int (i : Int) u] (getItem (.ref RL) (.int (i : Int) u)) := by with_unfolding_all rfl) (hg : ∀ q, letTemporaryGo value (.ref RL) q = pure () := by intro _; with_unfolding_all rfl) :
    wpAny (model prog w) A (subscriptTail value slice (.ref RL) (.int (i : Int) u)) Q E s := by
  have hi := (List.getElem?_eq_some_iff.mp hj).1
  refine item_list ⟨_, (N _ hm).1, rfl, _, rfl⟩ (by omega) (by omega) (x := .ref (347 + j)) ?_ h hs hg
  rw [List.getElem?_toArray, show ((i : Int)).toNat = i from rfl, List.getElem?_map, hj]; rfl
theorem len_rows {RL : Addr} {l : List Nat} {Q : Value → Shared → Prop} (N : News h₀ L s.heap nx) (hm : (RL, LCg.lst (l.map fun i => Value.ref (347 + i))) ∈ nx) (hl : l.length ≤ 10)
    (h : Q (.int (l.length : Int) (s.toks + 1)) { s with toks := s.toks + 1 + 1 }) : wpAny (model prog w) A (call (.builtin "len") [.ref RL]) Q E s := by
  have e : (l.map fun i => Value.ref (347 + i)).toArray.size = l.length := by rw [List.size_toArray, List.length_map]
  refine len_list ⟨_, (N _ hm).1, rfl, _, rfl⟩ (by rw [e]; omega) ?_
  rw [e]; exact h
end
end
end
-- D35
section
open PySem PySem.W PySem.Calls PyProof.Rows
set_option pp.deepTerms false
set_option pp.deepTerms.threshold 6
set_option pp.maxSteps 20000
set_option format.width 180
set_option Elab.async false
set_option linter.unusedVariables false
set_option maxRecDepth 100000
section
theorem cutD35 : True := by
  k_with_none
  trivial
theorem reg35 : PySem.Challenge.rw_og0089_01 = PySem.Challenge.rw_og0089_01 ∧ frag.heap_1 = frag.heap_1 := by k_fill; exact ⟨rfl, rfl⟩
/-! The law's ledger in the loop: the reader, the code table, the tape, the two cells, the rows, and what else lies there. -/
structure LX where
  r : RX
  x : TX
  cR : Addr
  cT : Addr
  RL : Addr
  oR : Obj
  oT : Obj
  c : Nat
abbrev restX (k : LX) (R : List (Addr × Obj)) : List (Addr × Obj) := (k.cR, k.oR) :: (k.cT, k.oT) :: (k.RL, rowsL k.r k.c) :: R
abbrev can (k : LX) (p : Nat) (tq : Tok) (st : TS) (ps : Array Value) (R : List (Addr × Obj)) : List (Addr × Obj) :=
  (k.r.rd, rdO k.r) :: (k.r.d, rdD k.r p tq) :: (381, tabObj ps) :: tapeX k.x st (restX k R)
structure Led (k : LX) (st : TS) (ps : Array Value) (R : List (Addr × Obj)) : Prop where
  tok : TOk st
  tg : TG k.r ps R
  away : Away k.x (k.r.rd :: k.r.d :: 381 :: R.map (·.1))
  mcR : (k.cR, k.oR) ∈ R
  mcT : (k.cT, k.oT) ∈ R
  mRL : (k.RL, rowsL k.r k.c) ∈ R
  dR : k.oR.data = .cell (some (.ref k.RL))
  dT : k.oT.data = .cell (some (.ref k.x.tp))
def offL (k : LX) (a : Addr) : Bool := !(a == k.r.rd) && !(a == k.r.d) && !(a == 381) && !(a == k.x.tp) && !(a == k.x.ca)
theorem offL_iff {k : LX} {a : Addr} : offL k a = true ↔ a ≠ k.r.rd ∧ a ≠ k.r.d ∧ a ≠ 381 ∧ a ≠ k.x.tp ∧ a ≠ k.x.ca := by
  unfold offL
  simp only [Bool.and_eq_true, Bool.not_eq_true', beq_eq_false_iff_ne, and_assoc]
theorem Led.off {k : LX} {st : TS} {ps : Array Value} {R : List (Addr × Obj)} (W : Led k st ps R) {q : Addr × Obj} (hq : q ∈ R) : offL k q.1 = true :=
  offL_iff.mpr ⟨W.tg.rdr.nrd q hq, W.tg.rdr.nd q hq, W.tg.ne q hq, (W.away.all q.1 (.tail _ (.tail _ (.tail _ (List.mem_map_of_mem hq))))).1, (W.away.all q.1 (.tail _ (.tail _ (.tail _ (List.mem_map_of_mem hq))))).2⟩
theorem uniq {h₀ h : Heap} {L : Addr} {nx : List (Addr × Obj)} {a b : Addr} {o u : Obj} (N : News h₀ L h nx) (ha : (a, o) ∈ nx) (hb : (b, u) ∈ nx) (hne : o ≠ u) : a ≠ b := by
  rintro rfl
  have h1 := (N _ ha).1
  rw [(N _ hb).1] at h1
  exact hne (Option.some.inj h1).symm
theorem data_ne {o u : Obj} (h : o.data ≠ u.data) : o ≠ u := fun e => h (congrArg Obj.data e)
/-- an object that is a tuple, or a list of texts -/
def Plain (o : Obj) : Prop := o.cls = .type "tuple" ∨ (∃ ts c, o = strL ts c)
theorem plain_off {k : LX} {h₀ h : Heap} {L : Addr} {nx : List (Addr × Obj)} {p : Nat} {tq : Tok} {st : TS} {ps : Array Value} {R : List (Addr × Obj)} (N : News h₀ L h nx) (sub : ∀ q ∈ can k p tq st ps R, q ∈ nx) (O : TOk st)
    {q : Addr × Obj} (hq : q ∈ nx) (hp : Plain q.2) : offL k q.1 = true := by
  have a1 := sub _ (.head _)
  have a2 := sub _ (.tail _ (.head _))
  have a3 := sub _ (.tail _ (.tail _ (.head _)))
  have a4 := sub _ (.tail _ (.tail _ (.tail _ (.head _))))
  have a5 := sub _ (.tail _ (.tail _ (.tail _ (.tail _ (.head _)))))
  obtain ⟨ns, hI, hn, _⟩ := O
  rcases hp with hc | ⟨ts, c, ho⟩
  · have ne : ∀ u : Obj, u.cls ≠ .type "tuple" → q.2 ≠ u := fun u h e => h (e ▸ hc)
    exact offL_iff.mpr ⟨uniq N hq a1 (ne _ (by intro h; cases h)), uniq N hq a2 (ne _ (fun h => absurd (Value.type.inj h) (by decide))), uniq N hq a3 (ne _ (by intro h; cases h)), uniq N hq a4 (ne _ (fun h => absurd (Value.type.inj h) (by decide))), uniq N hq a5 (ne _ (fun h => absurd (Value.type.inj h) (by decide)))⟩
  · have ne : ∀ u : Obj, u.cls ≠ .type "list" → q.2 ≠ u := fun u h e => h (by rw [← e, ho])
    refine offL_iff.mpr ⟨uniq N hq a1 (ne _ (by intro h; cases h)), uniq N hq a2 (ne _ (fun h => absurd (Value.type.inj h) (by decide))), uniq N hq a3 (ne _ (by intro h; cases h)), uniq N hq a4 ?_, uniq N hq a5 ?_⟩
    · rw [ho]
      refine data_ne fun e => ?_
      have e2 : (strValues ts).toArray = #[.ref k.x.ca, .int st.q st.tq] := by injection e
      have e3 := congrArg Array.toList e2
      cases ts with
      | nil => cases e3
      | cons a t => cases (List.cons.inj e3).1
    · rw [ho]
      refine data_ne fun e => ?_
      have e2 : (strValues ts).toArray = st.vs.toArray := by injection e
      have e3 : strValues ts = st.vs := congrArg Array.toList e2
      rw [← e3] at hI
      cases ts with
      | nil =>
        have := hI.length
        have h0 : ns.length = 0 := this.symm
        omega
      | cons a t =>
        obtain ⟨n, u, e, _⟩ := IntsAre.at hI 0 (.str a.1 a.2) rfl
        cases e
theorem Led.fit {k : LX} {h₀ h : Heap} {L : Addr} {nx : List (Addr × Obj)} {p : Nat} {tq : Tok} {st : TS} {ps : Array Value} {R : List (Addr × Obj)} (W : Led k st ps R) (N : News h₀ L h nx) (sub : ∀ q ∈ can k p tq st ps R, q ∈ nx) :
    ∃ R2, Led k st ps R2 ∧ News h₀ L h (can k p tq st ps R2) ∧ (∀ q ∈ R, q ∈ R2) ∧ (∀ q ∈ nx, offL k q.1 = true → q ∈ R2) ∧ (∀ q ∈ nx, Plain q.2 → q ∈ R2) := by
  have up : ∀ q ∈ R, q ∈ nx := fun q hq => sub _ (.tail _ (.tail _ (.tail _ (.tail _ (.tail _ (.tail _ (.tail _ (.tail _ hq))))))))
  have in2 : ∀ q ∈ R, q ∈ nx.filter fun q => offL k q.1 := fun q hq => List.mem_filter.mpr ⟨up q hq, W.off hq⟩
  have out2 : ∀ q ∈ nx.filter (fun q => offL k q.1), q ∈ nx ∧ (q.1 ≠ k.r.rd ∧ q.1 ≠ k.r.d ∧ q.1 ≠ 381 ∧ q.1 ≠ k.x.tp ∧ q.1 ≠ k.x.ca) := fun q hq => ⟨(List.mem_filter.mp hq).1, offL_iff.mp (List.mem_filter.mp hq).2⟩
  have G := W.tg
  have Rd := G.rdr
  refine ⟨nx.filter fun q => offL k q.1, ⟨W.tok, ⟨G.tr, ⟨Rd.few, Rd.small, in2 _ Rd.lst, fun a b e => in2 _ (Rd.obj a b e), fun a b e => ?_, fun a b e => ?_, fun q hq => (out2 q hq).2.1, fun q hq => (out2 q hq).2.2.1, Rd.ne⟩, fun pos cv hc => ?_, fun q hq => (out2 q hq).2.2.2.1, G.n1, G.n2⟩, ⟨W.away.ne, fun a ha => ?_⟩, in2 _ W.mcR, in2 _ W.mcT, in2 _ W.mRL, W.dR, W.dT⟩, fun q hq => ?_, in2, fun q hq ho => List.mem_filter.mpr ⟨hq, ho⟩, fun q hq hp => List.mem_filter.mpr ⟨hq, plain_off N sub W.tok hq hp⟩⟩
  · obtain ⟨a1, a2, a3, a4, b1, b2, b3, b4, u, v, m⟩ := Rd.dic a b e
    exact ⟨a1, a2, a3, a4, b1, b2, b3, b4, u, v, in2 _ m⟩
  · obtain ⟨t, u, m⟩ := Rd.pl a b e
    exact ⟨t, u, in2 _ m⟩
  · obtain ⟨c', oc, vs, t, e, hm, rr⟩ := G.code pos cv hc
    exact ⟨c', oc, vs, t, e, in2 _ hm, rr⟩
  · rcases List.mem_cons.mp ha with rfl | ha
    · exact W.away.all _ (.head _)
    rcases List.mem_cons.mp ha with rfl | ha
    · exact W.away.all _ (.tail _ (.head _))
    rcases List.mem_cons.mp ha with rfl | ha
    · exact W.away.all _ (.tail _ (.tail _ (.head _)))
    obtain ⟨q, hq, rfl⟩ := List.mem_map.mp ha
    exact ⟨(out2 q hq).2.2.2.2.1, (out2 q hq).2.2.2.2.2⟩
  · refine N q ?_
    rcases List.mem_cons.mp hq with rfl | hq
    · exact sub _ (.head _)
    rcases List.mem_cons.mp hq with rfl | hq
    · exact sub _ (.tail _ (.head _))
    rcases List.mem_cons.mp hq with rfl | hq
    · exact sub _ (.tail _ (.tail _ (.head _)))
    rcases List.mem_cons.mp hq with rfl | hq
    · exact sub _ (.tail _ (.tail _ (.tail _ (.head _))))
    rcases List.mem_cons.mp hq with rfl | hq
    · exact sub _ (.tail _ (.tail _ (.tail _ (.tail _ (.head _)))))
    rcases List.mem_cons.mp hq with rfl | hq
    · exact up _ W.mcR
    rcases List.mem_cons.mp hq with rfl | hq
    · exact up _ W.mcT
    rcases List.mem_cons.mp hq with rfl | hq
    · exact up _ W.mRL
    · exact (out2 q hq).1
end
end
-- D36
section
open PySem PySem.W PySem.Calls PyProof.Rows
set_option pp.deepTerms false
set_option pp.deepTerms.threshold 6
set_option pp.maxSteps 20000
set_option format.width 180
set_option Elab.async false
set_option linter.unusedVariables false
set_option maxRecDepth 100000
section
theorem cutD36 : True := by
  k_with_none
  trivial
/-! The reply against what was due. -/
def RVok : RV → Prop
  | .pair x y => PyData.strOk x = true ∧ PyData.strOk y = true
  | .names l => ∀ x ∈ l, PyData.strOk x = true
  | _ => True
def tyOf : RV → String
  | .none => "NoneType"
  | .bool _ => "bool"
  | .str _ => "str"
  | .pair _ _ => "tuple"
  | .names _ => "list"
  | .dec _ _ => "tuple"
  | .int _ => "int"
  | .bytes _ => "bytes"
theorem meta_of (rv : RV) (s' : Shared) : s'.TypeIs (.type (tyOf rv)) "type" := by
  cases rv
  · exact TypeEq.meta_NoneType s'
  · exact TypeEq.meta_bool s'
  · exact TypeEq.meta_str s'
  · exact TypeEq.meta_tuple s'
  · exact TypeEq.meta_list s'
  · exact TypeEq.meta_tuple s'
  · exact TypeEq.meta_int s'
  · exact TypeEq.meta_bytes s'
section
variable {w : World} {A : Around} {E : Value → Shared → Prop} {s : Shared} {h₀ : Heap} {L : Addr} {m : PySem.Str → Option Value} {nx : List (Addr × Obj)} {Q : Value → Shared → Prop} {rv : RV} {v v' : Value}
theorem Has.at {a : Addr} {o : Obj} (H : Has h₀ nx a o) (F : Fr h₀ L s.heap m) (N : News h₀ L s.heap nx) : s.heap.get? a = some o := H.elim (fun h => (N _ h).1) fun h => F.keep _ _ h
theorem type_at {a : Addr} {o : Obj} {T : String} (ha : s.heap.get? a = some o) (hc : o.cls = .type T) (hn : (Value.type T == Value.type "builtin_function_or_method") = false) (h : Q (.type T) s) : wpAny (model prog w) A (call (.type "type") [.ref a]) Q E s := by
  obtain ⟨hh, g, d, t, os⟩ := s
  exact call_type_obj ha (by rw [hc]; exact hn) (by rw [hc]; exact h)
theorem type_sh (F : Fr h₀ L s.heap m) (N : News h₀ L s.heap nx) (S : Sh h₀ nx rv v) (h : Q (.type (tyOf rv)) s) : wpAny (model prog w) A (call (.type "type") [v]) Q E s := by
  cases rv with
  | none => obtain rfl := S; exact call_type_of (Tx := "NoneType") rfl (by decide +kernel) h
  | bool b => obtain rfl := S; exact call_type_of (Tx := "bool") rfl (by decide +kernel) h
  | str x => obtain ⟨t, rfl⟩ := S; exact call_type_of (Tx := "str") rfl (by decide +kernel) h
  | pair x y => obtain ⟨a, t, u, rfl, H⟩ := S; exact type_at (H.at F N) rfl (by decide +kernel) h
  | names l => obtain ⟨D, ts, c, rfl, H, _⟩ := S; exact type_at (N _ H).1 rfl (by decide +kernel) h
  | dec x y => obtain ⟨D, t, u, rfl, H⟩ := S; exact type_at (N _ H).1 rfl (by decide +kernel) h
  | int x => obtain ⟨t, rfl⟩ := S; exact call_type_of (Tx := "int") rfl (by decide +kernel) h
  | bytes x => obtain ⟨t, rfl⟩ := S; exact call_type_of (Tx := "bytes") rfl (by decide +kernel) h
theorem ne_sh (F : Fr h₀ L s.heap m) (N : News h₀ L s.heap nx) (S : Sh h₀ nx rv v) (S' : Sh h₀ nx rv v') (ok : RVok rv) (hu : A.units + 64 < cLine) (h : Q (.bool false) s) : wpAny (model prog w) A (compareOp .NotEq v v') Q E s := by
  cases rv with
  | none => obtain rfl := S; obtain rfl := S'; exact EqNone.ne_none_none h
  | bool b => obtain rfl := S; obtain rfl := S'; exact ne_bool (by rw [bne_self_eq_false]; exact h)
  | str x => obtain ⟨t, rfl⟩ := S; obtain ⟨t', rfl⟩ := S'; exact ne_str (by rw [bne_self_eq_false]; exact h)
  | int x => obtain ⟨t, rfl⟩ := S; obtain ⟨t', rfl⟩ := S'; exact ne_int (by rw [bne_self_eq_false]; exact h)
  | bytes x => obtain ⟨t, rfl⟩ := S; obtain ⟨t', rfl⟩ := S'; exact ne_bytes (by rw [bne_self_eq_false]; exact h)
  | pair x y =>
    obtain ⟨a, t, u, rfl, H⟩ := S; obtain ⟨a', t', u', rfl, H'⟩ := S'
    refine ne_dataH (reads_tuple_at (H.at F N) rfl rfl (.cons (.str _ _) (.cons (.str _ _) .nil))) (reads_tuple_at (H'.at F N) rfl rfl (.cons (.str _ _) (.cons (.str _ _) .nil))) (shaped2 ok.1 ok.2) (shaped2 ok.1 ok.2) hu ?_
    rw [show PyData.eqv (.tuple [.str x, .str y]) (.tuple [.str x, .str y]) = true from by simp [PyData.eqv, PyData.eqvAll]]; exact h
  | dec x y =>
    obtain ⟨D, t, u, rfl, H⟩ := S; obtain ⟨D', t', u', rfl, H'⟩ := S'
    refine ne_dataH (reads_tuple_at (N _ H).1 rfl rfl (.cons (.int _ _) (.cons (.int _ _) .nil))) (reads_tuple_at (N _ H').1 rfl rfl (.cons (.int _ _) (.cons (.int _ _) .nil))) (by simp [SeqAt.shaped, PyData.canLay0, PyData.canLayAll0, PyData.depth, PyData.depthAll]) (by simp [SeqAt.shaped, PyData.canLay0, PyData.canLayAll0, PyData.depth, PyData.depthAll]) hu ?_
    rw [show PyData.eqv (.tuple [.int x, .int y]) (.tuple [.int x, .int y]) = true from by simp [PyData.eqv, PyData.eqvAll]]; exact h
  | names l =>
    obtain ⟨D, ts, c, rfl, H, e, _⟩ := S; obtain ⟨D', ts', c', rfl, H', e', _⟩ := S'
    obtain ⟨as, ra⟩ := strs_read N H
    obtain ⟨bs, rb⟩ := strs_read N H'
    have m1 : (ts.map fun q => PyData.str q.1) = l.map PyData.str := by rw [← e, List.map_map]; rfl
    have m2 : (ts'.map fun q => PyData.str q.1) = l.map PyData.str := by rw [← e', List.map_map]; rfl
    have k1 := strs_lay ts fun q hq => ok q.1 (by rw [← e]; exact List.mem_map_of_mem hq)
    have k2 := strs_lay ts' fun q hq => ok q.1 (by rw [← e']; exact List.mem_map_of_mem hq)
    rw [m1] at ra k1
    rw [m2] at rb k2
    refine ne_dataH ra rb k1 k2 hu ?_
    have key : ∀ l : List PySem.Str, PyData.eqvAll (l.map PyData.str) (l.map PyData.str) = true := by
      intro l
      induction l with
      | nil => simp [PyData.eqvAll]
      | cons a t ih => simp [PyData.eqvAll, PyData.eqv, ih]
    rw [show PyData.eqv (.list (l.map PyData.str)) (.list (l.map PyData.str)) = true from by rw [PyData.eqv, key]]; exact h
end
theorem due_ok {r : RX} {p z p' : Nat} {rv : RV} (h : dueF r p z = some (rv, p')) : RVok rv := by
  have all : ∀ o ∈ dueL r p, ∀ rv p', o = some (rv, p') → RVok rv := by
    intro o ho rv p' e
    subst e
    simp only [dueL, List.mem_cons, List.not_mem_nil, or_false] at ho
    rcases ho with h | h | h | h | h | h | h | h | h | h | h | h | h | h | h | h | h | h
    all_goals first
      | (cases h; exact True.intro)
      | (unfold oneDue at h; split at h <;> (cases h; exact True.intro))
      | (split at h; (cases h; first | exact True.intro | exact ⟨(kd_ok _).1, (kd_ok _).2⟩ | exact fun x hx => take_ok _ x hx); cases h)
      | (split at h; (split at h; (cases h; exact True.intro); split at h <;> (cases h; exact True.intro)); cases h)
  unfold dueF at h
  rw [List.getD_eq_getElem?_getD] at h
  cases q : (dueL r p)[z]? with
  | none => rw [q] at h; cases h
  | some o => rw [q] at h; exact all o (List.mem_of_getElem? q) rv p' h
end
end
-- D37
section
open PySem PySem.W PySem.Calls PyProof.Rows
set_option pp.deepTerms false
set_option pp.deepTerms.threshold 6
set_option pp.maxSteps 20000
set_option format.width 180
set_option Elab.async false
set_option linter.unusedVariables false
set_option maxRecDepth 100000
section
theorem cutD37 : True := by
  k_with_none
  trivial
/-! The ledger as it stands before the loop. -/
abbrev rx (rd d TL nd : Addr) (h1 h2 h3 : Int) (t1 t2 t3 : Tok) (l : List Nat) (ks : Nat → KX) : RX :=
  { rd := rd, d := d, TL := TL, nd := nd, h1 := h1, h2 := h2, h3 := h3, t1 := t1, t2 := t2, t3 := t3, n := ((List.range l.length).map fun n => Value.ref (KX.t (ks n))).length, Rw := l, tl := fun n => (ks n).t, td := fun n => (ks n).d, ta := fun n => (ks n).a }
abbrev bef (x : TX) (st : TS) (TL RL cR cT : Addr) (oR oT : Obj) (l : List Nat) (ks : Nat → KX) (ex : List (Addr × Obj)) : List (Addr × Obj) :=
  (TL, LCg.lst ((List.range l.length).map fun n => Value.ref (KX.t (ks n)))) :: tapeX x st ((RL, LCg.lst (l.map fun i => Value.ref (347 + i))) :: (cR, oR) :: (cT, oT) :: (381, tabObj #[]) :: ex)
theorem loop_start {h₀ h : Heap} {L rd d TL nd RL cR cT : Addr} {on oR oT : Obj} {h1 h2 h3 v : Int} {t1 t2 t3 tq : Tok} {l : List Nat} {ks : Nat → KX} {ex : List (Addr × Obj)} {x : TX} {st : TS}
    (N : News h₀ L h ((nd, on) :: (rd, instObj 305 d) :: (d, dictOf [⟨h1, .str "tokens" t1, .ref TL⟩, ⟨h2, .str "at" t2, .int v tq⟩, ⟨h3, .str "named" t3, .ref nd⟩] 3) :: bef x st TL RL cR cT oR oT l ks ex))
    (T : Toks l l.length ks ex) (We : Away x (ex.map (·.1))) (W2 : Away x [RL, cR, cT, 381]) (hTL : x.tp ≠ TL ∧ x.ca ≠ TL) (lt : ∀ q ∈ bef x st TL RL cR cT oR oT l ks ex, q.1 < d) (l2 : d < rd)
    (v0 : 0 ≤ v) (hl : l.length ≤ 10) (hs : ∀ j ∈ l, j < 19) (O : TOk st) (dR : oR.data = .cell (some (.ref RL))) (dT : oT.data = .cell (some (.ref x.tp))) :
    ∃ (k : LX) (p : Nat) (R : List (Addr × Obj)), k.r.rd = rd ∧ k.x = x ∧ k.cR = cR ∧ k.cT = cT ∧ k.oR = oR ∧ k.oT = oT ∧ k.RL = RL ∧ k.r.Rw = l ∧ v = (p : Int) ∧ Led k st #[] R ∧ News h₀ L h (can k p tq st #[] R) := by
  obtain ⟨p, rfl⟩ := Int.eq_ofNat_of_zero_le v0
  let k : LX := ⟨rx rd d TL nd h1 h2 h3 t1 t2 t3 l ks, x, cR, cT, RL, oR, oT, (l.map fun i => Value.ref (347 + i)).length⟩
  generalize hnx : ((nd, on) :: (rd, instObj 305 d) :: (d, dictOf [⟨h1, .str "tokens" t1, .ref TL⟩, ⟨h2, .str "at" t2, .int (p : Int) tq⟩, ⟨h3, .str "named" t3, .ref nd⟩] 3) :: bef x st TL RL cR cT oR oT l ks ex) = nx at N
  have sub : ∀ q ∈ bef x st TL RL cR cT oR oT l ks ex, q ∈ nx := fun q hq => by rw [← hnx]; exact .tail _ (.tail _ (.tail _ hq))
  have m381 := sub (381, tabObj #[]) (.tail _ (.tail _ (.tail _ (.tail _ (.tail _ (.tail _ (.head _)))))))
  have off : ∀ q ∈ bef x st TL RL cR cT oR oT l ks ex, q.2.data ≠ .fields #[] → q.1 ≠ x.tp → q.1 ≠ x.ca → q ∈ nx.filter fun q => offL k q.1 := fun q hq h1 h2 h3 =>
    List.mem_filter.mpr ⟨sub q hq, offL_iff.mpr ⟨Nat.ne_of_lt (Nat.lt_trans (lt q hq) l2), Nat.ne_of_lt (lt q hq), uniq N (sub q hq) m381 (data_ne h1), h2, h3⟩⟩
  have out : ∀ q ∈ nx.filter (fun q => offL k q.1), q ∈ nx ∧ (q.1 ≠ rd ∧ q.1 ≠ d ∧ q.1 ≠ 381 ∧ q.1 ≠ x.tp ∧ q.1 ≠ x.ca) := fun q hq => ⟨(List.mem_filter.mp hq).1, offL_iff.mp (List.mem_filter.mp hq).2⟩
  have inx : ∀ q ∈ ex, q ∈ bef x st TL RL cR cT oR oT l ks ex := fun q hq => .tail _ (.tail _ (.tail _ (.tail _ (.tail _ (.tail _ (.tail _ hq))))))
  have awx : ∀ q ∈ ex, q.1 ≠ x.tp ∧ q.1 ≠ x.ca := fun q hq => We.all q.1 (List.mem_map_of_mem hq)
  have tk : ∀ n j, l[n]? = some j → ∀ q ∈ tokL (ks n) n j [], q ∈ ex := fun n j hn => T.mem n j (List.getElem?_eq_some_iff.mp hn).1 hn
  have a381 := lt (381, tabObj #[]) (.tail _ (.tail _ (.tail _ (.tail _ (.tail _ (.tail _ (.head _)))))))
  have atp := lt _ (.tail _ (.head _))
  have aca := lt _ (.tail _ (.tail _ (.head _)))
  have mR : (cR, oR) ∈ nx.filter fun q => offL k q.1 := off _ (.tail _ (.tail _ (.tail _ (.tail _ (.head _))))) (by rw [dR]; intro e; cases e) (W2.all cR (.tail _ (.head _))).1 (W2.all cR (.tail _ (.head _))).2
  have mT : (cT, oT) ∈ nx.filter fun q => offL k q.1 := off _ (.tail _ (.tail _ (.tail _ (.tail _ (.tail _ (.head _)))))) (by rw [dT]; intro e; cases e) (W2.all cT (.tail _ (.tail _ (.head _)))).1 (W2.all cT (.tail _ (.tail _ (.head _)))).2
  have mL : (RL, rowsL k.r k.c) ∈ nx.filter fun q => offL k q.1 := off _ (.tail _ (.tail _ (.tail _ (.head _)))) (by intro e; cases e) (W2.all RL (.head _)).1 (W2.all RL (.head _)).2
  have W : Led k st #[] (nx.filter fun q => offL k q.1) := by
    refine ⟨O, ⟨trivial, ⟨hl, hs, off _ (.head _) (by intro e; cases e) (Ne.symm hTL.1) (Ne.symm hTL.2), fun n j hn => ?_, fun n j hn => ?_, fun n j hn => ?_, fun q hq => (out q hq).2.1, fun q hq => (out q hq).2.2.1, Nat.ne_of_gt l2⟩, fun pos cv hc => (by cases hc), fun q hq => (out q hq).2.2.2.1, Nat.ne_of_lt (Nat.lt_trans a381 l2), Nat.ne_of_lt a381⟩, ⟨W2.ne, fun a ha => ?_⟩, mR, mT, mL, dR, dT⟩
    · have m := tk n j hn _ (.head _)
      exact off _ (inx _ m) (by intro e; cases e) (awx _ m).1 (awx _ m).2
    · have m := tk n j hn _ (.tail _ (.head _))
      exact ⟨_, _, _, _, _, _, _, _, _, _, off _ (inx _ m) (by intro e; cases e) (awx _ m).1 (awx _ m).2⟩
    · have m := tk n j hn _ (.tail _ (.tail _ (.head _)))
      exact ⟨_, _, off _ (inx _ m) (by intro e; cases e) (awx _ m).1 (awx _ m).2⟩
    · rcases List.mem_cons.mp ha with rfl | ha
      · exact ⟨Nat.ne_of_gt (Nat.lt_trans atp l2), Nat.ne_of_gt (Nat.lt_trans aca l2)⟩
      rcases List.mem_cons.mp ha with rfl | ha
      · exact ⟨Nat.ne_of_gt atp, Nat.ne_of_gt aca⟩
      rcases List.mem_cons.mp ha with rfl | ha
      · exact W2.all 381 (.tail _ (.tail _ (.tail _ (.head _))))
      obtain ⟨q, hq, rfl⟩ := List.mem_map.mp ha
      exact ⟨(out q hq).2.2.2.2.1, (out q hq).2.2.2.2.2⟩
  refine ⟨k, p, nx.filter fun q => offL k q.1, rfl, rfl, rfl, rfl, rfl, rfl, rfl, rfl, rfl, W, fun q hq => ?_⟩
  rcases List.mem_cons.mp hq with rfl | hq
  · exact N _ (by rw [← hnx]; exact .tail _ (.head _))
  rcases List.mem_cons.mp hq with rfl | hq
  · exact N _ (by rw [← hnx]; exact .tail _ (.tail _ (.head _)))
  rcases List.mem_cons.mp hq with rfl | hq
  · exact N _ m381
  rcases List.mem_cons.mp hq with rfl | hq
  · exact N _ (sub _ (.tail _ (.head _)))
  rcases List.mem_cons.mp hq with rfl | hq
  · exact N _ (sub _ (.tail _ (.tail _ (.head _))))
  rcases List.mem_cons.mp hq with rfl | hq
  · exact N _ (out _ mR).1
  rcases List.mem_cons.mp hq with rfl | hq
  · exact N _ (out _ mT).1
  rcases List.mem_cons.mp hq with rfl | hq
  · exact N _ (out _ mL).1
  · exact N _ (out _ hq).1
end
end
-- D38
section
open PySem PySem.W PySem.Calls PyProof.Rows
set_option pp.deepTerms false
set_option pp.deepTerms.threshold 6
set_option pp.maxSteps 20000
set_option format.width 180
set_option Elab.async false
set_option linter.unusedVariables false
set_option maxRecDepth 100000
section
theorem cutD38 : True := by
  k_with_none
  trivial
/-! The loop's turns, and the two calls of a turn over the law's ledger. -/
theorem Led.draw {k : LX} {st st' : TS} {ps : Array Value} {R : List (Addr × Obj)} (W : Led k st ps R) (O : TOk st') : Led k st' ps R := ⟨O, W.tg, W.away, W.mcR, W.mcT, W.mRL, W.dR, W.dT⟩
theorem Led.in_off {k : LX} {st : TS} {ps : Array Value} {R : List (Addr × Obj)} (W : Led k st ps R) : ∀ q ∈ restX k R, q ∈ R := fun q hq => by
  rcases List.mem_cons.mp hq with rfl | hq
  · exact W.mcR
  rcases List.mem_cons.mp hq with rfl | hq
  · exact W.mcT
  rcases List.mem_cons.mp hq with rfl | hq
  · exact W.mRL
  · exact hq
theorem Led.few {k : LX} {st : TS} {ps : Array Value} {R : List (Addr × Obj)} (W : Led k st ps R) : Few k.r := ⟨W.tg.rdr.few, W.tg.rdr.small⟩
abbrev turnL (k : LX) (I : Addr) (oI : Obj) (p : Nat) (tq : Tok) (ps : Array Value) (R : List (Addr × Obj)) : List (Addr × Obj) := (I, oI) :: (k.r.rd, rdO k.r) :: (k.r.d, rdD k.r p tq) :: (381, tabObj ps) :: restX k R
theorem Led.awayI {k : LX} {st : TS} {ps : Array Value} {R : List (Addr × Obj)} {I : Addr} {oI : Obj} {p : Nat} {tq : Tok} (W : Led k st ps R) (off : ∀ q ∈ can k p tq st ps R, q.1 ≠ I) : Away k.x ((turnL k I oI p tq ps R).map (·.1)) := by
  refine ⟨W.away.ne, fun a ha => ?_⟩
  obtain ⟨q, hq, rfl⟩ := List.mem_map.mp ha
  rcases List.mem_cons.mp hq with rfl | hq
  · exact ⟨Ne.symm (off _ (.tail _ (.tail _ (.tail _ (.head _))))), Ne.symm (off _ (.tail _ (.tail _ (.tail _ (.tail _ (.head _))))))⟩
  rcases List.mem_cons.mp hq with rfl | hq
  · exact W.away.all _ (.head _)
  rcases List.mem_cons.mp hq with rfl | hq
  · exact W.away.all _ (.tail _ (.head _))
  rcases List.mem_cons.mp hq with rfl | hq
  · exact W.away.all _ (.tail _ (.tail _ (.head _)))
  · exact W.away.all _ (.tail _ (.tail _ (.tail _ (List.mem_map_of_mem (W.in_off q hq)))))
def JL (k : LX) (m : PySem.Str → Option Value) (nx : List (Addr × Obj)) : Prop :=
  ∃ p tq tA st ps R, Led k st ps R ∧ nx = can k p tq st ps R ∧ m "at" = some (.int (p : Int) tA) ∧ m "reader" = some (.ref k.r.rd)
section
variable {prog : Program} {w : World} {A : Around} {E : Value → Shared → Prop} {s : Shared} {env : Env} {h₀ : Heap} {x : PySem.Str} {body : List Stmt} {Q : Flow → Shared → Prop}
theorem loop8 {rg cRv cTv : Addr} {t₀ u₀ v₀ : Tok} {m₀ : PySem.Str → Option Value} {k : LX} {p : Nat} {tq tA : Tok} {st : TS} {ps : Array Value} {R : List (Addr × Obj)}
    (hh : A.handled = none) (hr : IsRange s.heap rg 0 8 1 t₀ u₀ v₀) (F : Fr h₀ env.locals s.heap m₀) (N : News h₀ env.locals s.heap (can k p tq st ps R)) (W : Led k st ps R) (h1 : m₀ "at" = some (.int (p : Int) tA)) (h2 : m₀ "reader" = some (.ref k.r.rd)) (hR : k.cR = cRv) (hT : k.cT = cTv)
    (turn : ∀ p tq tA st ps R (u : PySem.Str → Option Value) (i : Int) t h tk I oI, Led k st ps R → Away k.x (((cRv, k.oR) :: (cTv, k.oT) :: turnL k I oI p tq ps R).map (·.1)) → (∀ q ∈ can k p tq st ps R, q.1 ≠ I) → (∃ a b c, oI.data = .fields #[rawInt a, rawInt b, rawInt c]) → TOk st → k.oR.data = .cell (some (.ref k.RL)) → k.oT.data = .cell (some (.ref k.x.tp)) →
      Fr h₀ env.locals h (fun z => if z = x then some (.int i t) else if z = "at" then some (.int (p : Int) tA) else if z = "reader" then some (.ref k.r.rd) else u z) → News h₀ env.locals h (tapeX k.x st ((cRv, k.oR) :: (cTv, k.oT) :: turnL k I oI p tq ps R)) →
      wpAny (model prog w) A (execs body env) (LPost h₀ env.locals { s with heap := h, toks := tk } I oI (JL k) Q) E { s with heap := h, toks := tk })
    (done : ∀ p tq st ps R (u : PySem.Str → Option Value) h tk, Led k st ps R → Fr h₀ env.locals h u → News h₀ env.locals h (can k p tq st ps R) → Q .next { s with heap := h, toks := tk }) :
    wpAny (model prog w) A (pyIter (.ref rg)) (fun it s₂ => LoopAtV prog w A h₀ env x body Q E it s₂) E s := by
  subst hR hT
  refine range_loop (JL k) 8 hh hr (by decide +kernel) (by decide +kernel) F N ⟨p, tq, tA, st, ps, R, W, rfl, h1, h2⟩ ?_ ?_
  · rintro m₁ nx i t h tk I oI ⟨p, tq, tA, st, ps, R, W, rfl, a1, a2⟩ F₁ N₁ off hd
    have e : (fun z => if z = x then some (Value.int i t) else m₁ z) = fun z => if z = x then some (Value.int i t) else if z = "at" then some (.int (p : Int) tA) else if z = "reader" then some (.ref k.r.rd) else m₁ z := by
      funext z
      by_cases h1 : z = x
      · simp [h1]
      · simp only [if_neg h1]
        by_cases h2 : z = "at"
        · simp [h2, a1]
        · simp only [if_neg h2]
          by_cases h3 : z = "reader"
          · simp [h3, a2]
          · simp only [if_neg h3]
    rw [e] at F₁
    exact turn p tq tA st ps R m₁ i t h tk I oI W (((W.awayI off).more (W.awayI (oI := oI) off |>.all _ (.tail _ (.tail _ (.tail _ (.tail _ (.tail _ (.head _))))))).1 (W.awayI (oI := oI) off |>.all _ (.tail _ (.tail _ (.tail _ (.tail _ (.tail _ (.head _))))))).2).more (W.awayI (oI := oI) off |>.all _ (.tail _ (.tail _ (.tail _ (.tail _ (.head _)))))).1 (W.awayI (oI := oI) off |>.all _ (.tail _ (.tail _ (.tail _ (.tail _ (.head _)))))).2) off hd W.tok W.dR W.dT F₁ (newsSub N₁ (by kcf_all))
  · rintro m₁ nx h tk ⟨p, tq, tA, st, ps, R, W, rfl, a1, a2⟩ F₁ N₁
    exact done p tq st ps R m₁ h tk W F₁ N₁
end
theorem Led.drop {k : LX} {h₀ h : Heap} {L I : Addr} {oI : Obj} {p : Nat} {tq : Tok} {st st0 : TS} {ps ps0 : Array Value} {R R0 : List (Addr × Obj)} {p0 : Nat} {tq0 : Tok} (W : Led k st ps R) (W0 : Led k st0 ps0 R0) (off : ∀ q ∈ can k p0 tq0 st0 ps0 R0, q.1 ≠ I) (sub : ∀ q ∈ R0, q ∈ R)
    (hI : (I, oI) ∈ R) (hd : ∃ a b c, oI.data = .fields #[rawInt a, rawInt b, rawInt c]) (N : News h₀ L h (can k p tq st ps R)) :
    ∃ R2, Led k st ps R2 ∧ News h₀ L h ((I, oI) :: can k p tq st ps R2) ∧ (∀ q ∈ can k p tq st ps R2, q.1 ≠ I) := by
  have up : ∀ q ∈ R, q ∈ can k p tq st ps R := fun q hq => .tail _ (.tail _ (.tail _ (.tail _ (.tail _ (.tail _ (.tail _ (.tail _ hq)))))))
  have off0 : ∀ q ∈ R0, q.1 ≠ I := fun q hq => off q (.tail _ (.tail _ (.tail _ (.tail _ (.tail _ (.tail _ (.tail _ (.tail _ hq))))))))
  have in2 : ∀ q ∈ R0, q ∈ R.filter fun q => !(q.1 == I) := fun q hq => List.mem_filter.mpr ⟨sub q hq, by rw [beq_eq_false_iff_ne.mpr (off0 q hq)]; rfl⟩
  have out2 : ∀ q ∈ R.filter (fun q => !(q.1 == I)), q ∈ R ∧ q.1 ≠ I := fun q hq => ⟨(List.mem_filter.mp hq).1, by have := (List.mem_filter.mp hq).2; rw [Bool.not_eq_true'] at this; exact beq_eq_false_iff_ne.mp this⟩
  have G := W.tg
  have Rd := W0.tg.rdr
  have nr := up _ hI
  refine ⟨R.filter fun q => !(q.1 == I), ⟨W.tok, ⟨G.tr, ⟨Rd.few, Rd.small, in2 _ Rd.lst, fun a b e => in2 _ (Rd.obj a b e), fun a b e => ?_, fun a b e => ?_, fun q hq => G.rdr.nrd q (out2 q hq).1, fun q hq => G.rdr.nd q (out2 q hq).1, Rd.ne⟩, fun pos cv hc => ?_, fun q hq => G.ne q (out2 q hq).1, G.n1, G.n2⟩, ⟨W.away.ne, fun a ha => ?_⟩, in2 _ W0.mcR, in2 _ W0.mcT, in2 _ W0.mRL, W.dR, W.dT⟩, fun q hq => ?_, fun q hq => ?_⟩
  · obtain ⟨a1, a2, a3, a4, b1, b2, b3, b4, u, v, m⟩ := Rd.dic a b e
    exact ⟨a1, a2, a3, a4, b1, b2, b3, b4, u, v, in2 _ m⟩
  · obtain ⟨t, u, m⟩ := Rd.pl a b e
    exact ⟨t, u, in2 _ m⟩
  · obtain ⟨c', oc, vs, t, e, hm, r1, r2⟩ := G.code pos cv hc
    have hne : c' ≠ I := by
      obtain ⟨x, y, z, hx⟩ := hd
      refine uniq N (up _ hm) nr (data_ne fun e => ?_)
      rw [r1, hx] at e
      have e2 : vs = #[rawInt x, rawInt y, rawInt z] := by injection e
      rw [e2] at r2
      cases r2
    exact ⟨c', oc, vs, t, e, List.mem_filter.mpr ⟨hm, by rw [beq_eq_false_iff_ne.mpr hne]; rfl⟩, r1, r2⟩
  · rcases List.mem_cons.mp ha with rfl | ha
    · exact W.away.all _ (.head _)
    rcases List.mem_cons.mp ha with rfl | ha
    · exact W.away.all _ (.tail _ (.head _))
    rcases List.mem_cons.mp ha with rfl | ha
    · exact W.away.all _ (.tail _ (.tail _ (.head _)))
    obtain ⟨q, hq, rfl⟩ := List.mem_map.mp ha
    exact W.away.all _ (.tail _ (.tail _ (.tail _ (List.mem_map_of_mem (out2 q hq).1))))
  · rcases List.mem_cons.mp hq with rfl | hq
    · exact N _ nr
    rcases List.mem_cons.mp hq with rfl | hq
    · exact N _ (.head _)
    rcases List.mem_cons.mp hq with rfl | hq
    · exact N _ (.tail _ (.head _))
    rcases List.mem_cons.mp hq with rfl | hq
    · exact N _ (.tail _ (.tail _ (.head _)))
    rcases List.mem_cons.mp hq with rfl | hq
    · exact N _ (.tail _ (.tail _ (.tail _ (.head _))))
    rcases List.mem_cons.mp hq with rfl | hq
    · exact N _ (.tail _ (.tail _ (.tail _ (.tail _ (.head _)))))
    rcases List.mem_cons.mp hq with rfl | hq
    · exact N _ (up _ W.mcR)
    rcases List.mem_cons.mp hq with rfl | hq
    · exact N _ (up _ W.mcT)
    rcases List.mem_cons.mp hq with rfl | hq
    · exact N _ (up _ W.mRL)
    · exact N _ (up _ (out2 q hq).1)
  · rcases List.mem_cons.mp hq with rfl | hq
    · exact off (k.r.rd, rdO k.r) (.head _)
    rcases List.mem_cons.mp hq with rfl | hq
    · exact off (k.r.d, rdD k.r p0 tq0) (.tail _ (.head _))
    rcases List.mem_cons.mp hq with rfl | hq
    · exact off (381, tabObj ps0) (.tail _ (.tail _ (.head _)))
    rcases List.mem_cons.mp hq with rfl | hq
    · exact off (k.x.tp, listOf #[.ref k.x.ca, .int st0.q st0.tq] k.x.n) (.tail _ (.tail _ (.tail _ (.head _))))
    rcases List.mem_cons.mp hq with rfl | hq
    · exact off (k.x.ca, listOf st0.vs.toArray k.x.c) (.tail _ (.tail _ (.tail _ (.tail _ (.head _)))))
    rcases List.mem_cons.mp hq with rfl | hq
    · exact off0 _ W0.mcR
    rcases List.mem_cons.mp hq with rfl | hq
    · exact off0 _ W0.mcT
    rcases List.mem_cons.mp hq with rfl | hq
    · exact off0 _ W0.mRL
    · exact (out2 q hq).2
theorem Sh.fit {h₀ : Heap} {nx nx' : List (Addr × Obj)} (k : ∀ q ∈ nx, Plain q.2 → q ∈ nx') : ∀ {rv : RV} {v : Value}, Sh h₀ nx rv v → Sh h₀ nx' rv v
  | .none, _, h => h
  | .bool _, _, h => h
  | .str _, _, h => h
  | .pair _ _, _, ⟨a, t, u, e, h⟩ => ⟨a, t, u, e, h.imp (fun h => k _ h (.inl rfl)) id⟩
  | .names _, _, ⟨D, ts, c, e, h, r⟩ => ⟨D, ts, c, e, k _ h (.inr ⟨_, _, rfl⟩), r⟩
  | .dec _ _, _, ⟨D, t, u, e, h⟩ => ⟨D, t, u, e, k _ h (.inl rfl)⟩
  | .int _, _, h => h
  | .bytes _, _, h => h
theorem ResO.fit {h₀ : Heap} {nx nx' : List (Addr × Obj)} (k : ∀ q ∈ nx, Plain q.2 → q ∈ nx') : ∀ {o : Option (RV × Nat)} {v : Value}, ResO h₀ nx o v → ResO h₀ nx' o v
  | none, _, h => h
  | some (_, _), _, ⟨D, x, t, e, h, hs⟩ => ⟨D, x, t, e, k _ h (.inl rfl), hs.fit k⟩
theorem Led.tgAll {k : LX} {st : TS} {ps : Array Value} {R : List (Addr × Obj)} (W : Led k st ps R) : TG k.r ps (tapeX k.x st (restX k R)) := by
  have G := W.tg
  have m1 := G.more (q := (k.RL, rowsL k.r k.c)) (G.rdr.nrd _ W.mRL) (G.rdr.nd _ W.mRL) (G.ne _ W.mRL)
  have m2 := m1.more (q := (k.cT, k.oT)) (G.rdr.nrd _ W.mcT) (G.rdr.nd _ W.mcT) (G.ne _ W.mcT)
  have m3 := m2.more (q := (k.cR, k.oR)) (G.rdr.nrd _ W.mcR) (G.rdr.nd _ W.mcR) (G.ne _ W.mcR)
  have a0 := W.away.all _ (.head _)
  have a1 := W.away.all _ (.tail _ (.head _))
  have a2 := W.away.all _ (.tail _ (.tail _ (.head _)))
  have m4 := m3.more (q := (k.x.ca, listOf st.vs.toArray k.x.c)) (Ne.symm a0.2) (Ne.symm a1.2) (Ne.symm a2.2)
  exact m4.more (q := (k.x.tp, listOf #[.ref k.x.ca, .int st.q st.tq] k.x.n)) (Ne.symm a0.1) (Ne.symm a1.1) (Ne.symm a2.1)
theorem Led.fit2 {k : LX} {h₀ h : Heap} {L : Addr} {rest' : List (Addr × Obj)} {p p' : Nat} {tq t : Tok} {st : TS} {ps ps' : Array Value} {R : List (Addr × Obj)} (W : Led k st ps R) (G : TG k.r ps' rest')
    (sub : ∀ q ∈ tapeX k.x st (restX k R), q ∈ rest') (N : News h₀ L h ((k.r.rd, rdO k.r) :: (k.r.d, rdD k.r p' t) :: (381, tabObj ps') :: rest')) :
    ∃ R2, Led k st ps' R2 ∧ News h₀ L h (can k p' t st ps' R2) ∧ (∀ q ∈ R, q ∈ R2) ∧ (∀ q ∈ rest', Plain q.2 → q ∈ R2) := by
  have up : ∀ q ∈ R, q ∈ rest' := fun q hq => sub _ (.tail _ (.tail _ (.tail _ (.tail _ (.tail _ hq)))))
  have mtp := sub _ (.head _)
  have mca := sub _ (.tail _ (.head _))
  have in2 : ∀ q ∈ R, q ∈ rest'.filter fun q => offL k q.1 := fun q hq => List.mem_filter.mpr ⟨up q hq, W.off hq⟩
  have out2 : ∀ q ∈ rest'.filter (fun q => offL k q.1), q ∈ rest' ∧ (q.1 ≠ k.r.rd ∧ q.1 ≠ k.r.d ∧ q.1 ≠ 381 ∧ q.1 ≠ k.x.tp ∧ q.1 ≠ k.x.ca) := fun q hq => ⟨(List.mem_filter.mp hq).1, offL_iff.mp (List.mem_filter.mp hq).2⟩
  have Rd := W.tg.rdr
  have N' : News h₀ L h rest' := fun q hq => N q (.tail _ (.tail _ (.tail _ hq)))
  have subN : ∀ q ∈ can k p' t st ps' R, q ∈ (k.r.rd, rdO k.r) :: (k.r.d, rdD k.r p' t) :: (381, tabObj ps') :: rest' := fun q hq => by
    rcases List.mem_cons.mp hq with rfl | hq
    · exact .head _
    rcases List.mem_cons.mp hq with rfl | hq
    · exact .tail _ (.head _)
    rcases List.mem_cons.mp hq with rfl | hq
    · exact .tail _ (.tail _ (.head _))
    · exact .tail _ (.tail _ (.tail _ (sub q hq)))
  refine ⟨rest'.filter fun q => offL k q.1, ⟨W.tok, ⟨G.tr, ⟨Rd.few, Rd.small, in2 _ Rd.lst, fun a b e => in2 _ (Rd.obj a b e), fun a b e => ?_, fun a b e => ?_, fun q hq => (out2 q hq).2.1, fun q hq => (out2 q hq).2.2.1, Rd.ne⟩, fun pos cv hc => ?_, fun q hq => (out2 q hq).2.2.2.1, G.n1, G.n2⟩, ⟨W.away.ne, fun a ha => ?_⟩, in2 _ W.mcR, in2 _ W.mcT, in2 _ W.mRL, W.dR, W.dT⟩, fun q hq => ?_, in2, fun q hq hp => List.mem_filter.mpr ⟨hq, plain_off (p := p') (tq := t) N subN W.tok (.tail _ (.tail _ (.tail _ hq))) hp⟩⟩
  · obtain ⟨a1, a2, a3, a4, b1, b2, b3, b4, u, v, m⟩ := Rd.dic a b e
    exact ⟨a1, a2, a3, a4, b1, b2, b3, b4, u, v, in2 _ m⟩
  · obtain ⟨t, u, m⟩ := Rd.pl a b e
    exact ⟨t, u, in2 _ m⟩
  · obtain ⟨c', oc, vs, t, e, hm, r1, r2⟩ := G.code pos cv hc
    exact ⟨c', oc, vs, t, e, List.mem_filter.mpr ⟨hm, offL_iff.mpr ⟨G.rdr.nrd _ hm, G.rdr.nd _ hm, G.ne _ hm, uniq N' hm mtp (data_ne (by rw [r1]; intro e; cases e)), uniq N' hm mca (data_ne (by rw [r1]; intro e; cases e))⟩⟩, r1, r2⟩
  · rcases List.mem_cons.mp ha with rfl | ha
    · exact W.away.all _ (.head _)
    rcases List.mem_cons.mp ha with rfl | ha
    · exact W.away.all _ (.tail _ (.head _))
    rcases List.mem_cons.mp ha with rfl | ha
    · exact W.away.all _ (.tail _ (.tail _ (.head _)))
    obtain ⟨q, hq, rfl⟩ := List.mem_map.mp ha
    exact ⟨(out2 q hq).2.2.2.2.1, (out2 q hq).2.2.2.2.2⟩
  · rcases List.mem_cons.mp hq with rfl | hq
    · exact N _ (.head _)
    rcases List.mem_cons.mp hq with rfl | hq
    · exact N _ (.tail _ (.head _))
    rcases List.mem_cons.mp hq with rfl | hq
    · exact N _ (.tail _ (.tail _ (.head _)))
    rcases List.mem_cons.mp hq with rfl | hq
    · exact N' _ mtp
    rcases List.mem_cons.mp hq with rfl | hq
    · exact N' _ mca
    rcases List.mem_cons.mp hq with rfl | hq
    · exact N' _ (up _ W.mcR)
    rcases List.mem_cons.mp hq with rfl | hq
    · exact N' _ (up _ W.mcT)
    rcases List.mem_cons.mp hq with rfl | hq
    · exact N' _ (up _ W.mRL)
    · exact N' _ (out2 q hq).1
section
variable {w : World} {mean : ExcName → Option Value} {mg mb : PySem.Str → Option Value} {hd : Option Value} {dp un : Nat} {gd : Option (List Code)} {cn : PySem.Str} {cs : Scope} {a : Addr} {ccd : Value} {cl : List (PySem.Str × Addr)} {outer : List Env} {A₀ : Around} {base h₀ : Heap} {L : Addr} {m : PySem.Str → Option Value} {s : Shared} {k : LX} {p : Nat} {tq : Tok} {st : TS} {ps : Array Value} {R : List (Addr × Obj)}
theorem c_dueL {st0 : TS} {I cRv cTv : Addr} {oI : Obj} {tp : Tok} {z : Int} {tk : Tok} {Q E : Value → Shared → Prop} (W : Led k st ps R) (O : TOk st) (off : ∀ q ∈ can k p tq st0 ps R, q.1 ≠ I) (hR : k.cR = cRv)
    (B : Below A₀ base outer h₀) (F : Fr h₀ L s.heap m) (X : (frag.heap_1 w.params).In h₀) (N : News h₀ L s.heap (tapeX k.x st ((cRv, k.oR) :: (cTv, k.oT) :: turnL k I oI p tq ps R))) (T : Top topProg LS mean mg mb h₀) (hk : cs.kind = .function)
    (hdp : dp + 40 < 1000) (hun : un + 400 < cLine) (h0 : 0 ≤ z) (h1 : z < 18)
    (ret : ∀ v R2 h' tk', Led k st ps R2 → (∀ q ∈ R, q ∈ R2) → (I, oI) ∈ R2 → ResO h₀ R2 (dueF k.r p z.toNat) v → Fr h₀ L h' m → News h₀ L h' ((cRv, k.oR) :: can k p tq st ps R2) → Q v { s with heap := h', toks := tk' }) :
    wpAny (model prog w) (Ar none dp un gd cn cs L a ccd cl outer) (call (.ref 379) [.ref k.RL, .int (p : Int) tp, .int z tk] []) Q E s := by
  subst hR
  refine c_due B F X N W.few (by k_mem) T hk hdp hun h0 h1 fun v nx' h' tk' o kk F' N' => ?_
  have sub : ∀ q ∈ can k p tq st ps R, q ∈ nx' := fun q hq => kk q ((by kcf_all : ∀ q ∈ can k p tq st ps R, q ∈ tapeX k.x st ((k.cR, k.oR) :: (cTv, k.oT) :: turnL k I oI p tq ps R)) q hq)
  obtain ⟨R2, W2, N2, i1, i2, i3⟩ := W.fit N' sub
  refine ret v R2 h' tk' W2 i1 (i2 _ (kk _ (by k_mem)) (offL_iff.mpr ⟨Ne.symm (off _ (.head _)), Ne.symm (off _ (.tail _ (.head _))), Ne.symm (off _ (.tail _ (.tail _ (.head _)))), Ne.symm (off _ (.tail _ (.tail _ (.tail _ (.head _))))), Ne.symm (off _ (.tail _ (.tail _ (.tail _ (.tail _ (.head _))))))⟩)) (o.fit i3) F' (newsSub N2 (by kcf_all))
theorem c_askedL {cRv : Addr} {z : Int} {tk : Tok} {Q E : Value → Shared → Prop} (W : Led k st ps R) (hR : k.cR = cRv)
    (B : Below A₀ base outer h₀) (F : Fr h₀ L s.heap m) (X : (frag.heap_1 w.params).In h₀) (N : News h₀ L s.heap ((cRv, k.oR) :: can k p tq st ps R)) (T : Top topProg LS mean mg mb h₀) (C : CodeHd h₀ 385 381) (hk : cs.kind = .function)
    (hdp : dp + 40 < 1000) (hun : un + 400 < cLine) (h0 : 0 ≤ z) (h1 : z < 18)
    (ret : ∀ v rv p' t ps' R2 h' tk', dueF k.r p z.toNat = some (rv, p') → Led k st ps' R2 → (∀ q ∈ R, q ∈ R2) → Sh h₀ R2 rv v → Fr h₀ L h' m → News h₀ L h' ((cRv, k.oR) :: can k p' t st ps' R2) → Q v { s with heap := h', toks := tk' })
    (hexc : dueF k.r p z.toNat = none → ∀ e (f : FX) ps' rest' g h' tk', TG k.r ps' rest' → (∀ q ∈ tapeX k.x st (restX k R), q ∈ rest') → Fr h₀ L g m → Place k.r p f.u f.v → RaisedD base g (envX cn cs L a ccd cl :: outer) e 65 f.dx (faultL k.r p tq ((381, tabObj ps') :: rest') f) h' → g.UpToSlots h' → E (.ref e) { s with heap := h', toks := tk' }) :
    wpAny (model prog w) (Ar none dp un gd cn cs L a ccd cl outer) (call (.ref 386) [.ref k.r.rd, .int z tk] []) Q E s := by
  subst hR
  refine c_asked B F X (fun q hq => N q (.tail _ hq)) W.tgAll T C hk hdp hun h0 h1 (fun v rv p' t ps' rest' h' tk' hd G sub S F' N' => ?_) hexc
  obtain ⟨R2, W2, N2, i1, i2⟩ := W.fit2 (p := p) (tq := tq) G sub N'
  exact ret v rv p' t ps' R2 h' tk' hd W2 i1 (S.fit i2) F' (newsSub N2 (by kcf_all))
end
end
end
-- D39
section
open PySem PySem.W PySem.Calls PyProof.Rows
set_option pp.deepTerms false
set_option pp.deepTerms.threshold 6
set_option pp.maxSteps 20000
set_option format.width 180
set_option Elab.async false
set_option linter.unusedVariables false
set_option maxRecDepth 100000
section
theorem cutD39 : True := by
  k_with_none
  trivial
/-! What is left of a turn behind the reply. -/
theorem Led.rdrAll {k : LX} {st : TS} {ps : Array Value} {R : List (Addr × Obj)} (W : Led k st ps R) : Rdr k.r ((381, tabObj ps) :: tapeX k.x st (restX k R)) := W.tgAll.rd
section
variable {w : World} {A : Around} {E : Value → Shared → Prop} {s : Shared} {h₀ : Heap} {L : Addr} {m : PySem.Str → Option Value} {nx R R2 : List (Addr × Obj)} {Q : Value → Shared → Prop} {rv : RV} {v v' : Value}
theorem tup_item0 {value slice : Expr} {D : Addr} {a b : Value} {u : Tok} (N : News h₀ L s.heap nx) (hm : (D, tup2 a b) ∈ R) (sub : ∀ q ∈ R, q ∈ nx) (h : Q a s)
    (hs : subscripted slice false (.ref D) (.int 0 u) = operate [.ref D, .int 0 u] (getItem (.ref D) (.int 0 u)) := by with_unfolding_all rfl) (hg : ∀ q, letTemporaryGo value (.ref D) q = pure () := by intro _; with_unfolding_all rfl) :
    wpAny (model prog w) A (subscriptTail value slice (.ref D) (.int 0 u)) Q E s :=
  item_tuple (items := #[a, b]) (j := 0) ⟨_, (N _ (sub _ hm)).1, rfl, _, rfl⟩ (by decide) (by decide) (by rfl) rfl h hs hg
theorem tup_item1 {value slice : Expr} {D : Addr} {a b : Value} {u : Tok} (N : News h₀ L s.heap nx) (hm : (D, tup2 a b) ∈ R) (sub : ∀ q ∈ R, q ∈ nx) (h : Q b s)
    (hs : subscripted slice false (.ref D) (.int 1 u) = operate [.ref D, .int 1 u] (getItem (.ref D) (.int 1 u)) := by with_unfolding_all rfl) (hg : ∀ q, letTemporaryGo value (.ref D) q = pure () := by intro _; with_unfolding_all rfl) :
    wpAny (model prog w) A (subscriptTail value slice (.ref D) (.int 1 u)) Q E s :=
  item_tuple (items := #[a, b]) (j := 1) ⟨_, (N _ (sub _ hm)).1, rfl, _, rfl⟩ (by decide) (by decide) (by rfl) rfl h hs hg
theorem ne_reply {r : RX} {p z p' : Nat} (hd : dueF r p z = some (rv, p')) (F : Fr h₀ L s.heap m) (N : News h₀ L s.heap nx) (S : Sh h₀ R2 rv v) (S' : Sh h₀ R rv v') (s2 : ∀ q ∈ R, q ∈ R2) (sub : ∀ q ∈ R2, q ∈ nx) (hu : A.units + 64 < cLine) (h : Q (.bool false) s) : wpAny (model prog w) A (compareOp .NotEq v v') Q E s :=
  ne_sh F N (S.more sub) ((S'.more s2).more sub) (due_ok hd) hu h
theorem type_reply (F : Fr h₀ L s.heap m) (N : News h₀ L s.heap nx) (S : Sh h₀ R2 rv v) (sub : ∀ q ∈ R2, q ∈ nx) (h : Q (.type (tyOf rv)) s) : wpAny (model prog w) A (call (.type "type") [v]) Q E s := type_sh F N (S.more sub) h
theorem ne_same {a : Int} {t u : Tok} (h : Q (.bool false) s) : wpAny (model prog w) A (compareOp .NotEq (.int a t) (.int a u)) Q E s := ne_int (by rw [bne_self_eq_false]; exact h)
theorem ge_no {r : RX} {p i : Nat} {t u : Tok} (hi : r.Rw[p]? = some i) (h : Q (.bool false) s) : wpAny (model prog w) A (compareOp .GtE (.int (p : Int) t) (.int (r.Rw.length : Int) u)) Q E s := by
  have hp := (List.getElem?_eq_some_iff.mp hi).1
  refine ge_int ?_
  rw [show decide ((p : Int) ≥ (r.Rw.length : Int)) = false from decide_eq_false (by omega)]
  exact h
theorem ge_yes {r : RX} {p : Nat} {t u : Tok} (hi : r.Rw[p]? = none) (h : Q (.bool true) s) : wpAny (model prog w) A (compareOp .GtE (.int (p : Int) t) (.int (r.Rw.length : Int) u)) Q E s := by
  have hp := List.getElem?_eq_none_iff.mp hi
  refine ge_int ?_
  rw [show decide ((p : Int) ≥ (r.Rw.length : Int)) = true from decide_eq_true (by omega)]
  exact h
theorem rows_at {r : RX} {RL : Addr} {c p i : Nat} {value slice : Expr} {u : Tok} (hi : r.Rw[p]? = some i) (W : Few r) (N : News h₀ L s.heap nx) (hm : (RL, rowsL r c) ∈ nx) (h : Q (.ref (347 + i)) s)
    (hs : subscripted slice false (.ref RL) (.int (p : Int) u) = operate [.ref RL, .int (p : Int) u] (getItem (.ref RL) (.int (p : Int) u)) := by with_unfolding_all rfl) (hg : ∀ q, letTemporaryGo value (.ref RL) q = pure () := by intro _; with_unfolding_all rfl) :
    wpAny (model prog w) A (subscriptTail value slice (.ref RL) (.int (p : Int) u)) Q E s :=
  rows_item N W hm p rfl (List.getElem?_eq_some_iff.mp hi).1 (fun j hj _ => by obtain rfl : i = j := Option.some.inj (hi.symm.trans hj); exact h) hs hg
theorem row_same {D : Addr} {i : Nat} {t u : Tok} (hi : i < 19) (X : (frag.heap_1 w.params).In h₀) (F : Fr h₀ L s.heap m) (N : News h₀ L s.heap nx) (hm : (D, tup2 (.str (kd i) t) (.str (wd i) u)) ∈ nx) (hu : A.units + 64 < cLine) (h : Q (.bool false) s) :
    wpAny (model prog w) A (compareOp .NotEq (.ref D) (.ref (347 + i))) Q E s := by
  refine ne_dataH (reads_tuple_at (N _ hm).1 rfl rfl (.cons (.str _ _) (.cons (.str _ _) .nil))) (reads_tuple_at (F.keep _ _ (X _ _ (row_K i hi))) rfl rfl (.cons (.str _ _) (.cons (.str _ _) .nil))) (shaped2 (kd_ok i).1 (kd_ok i).2) (shaped2 (kd_ok i).1 (kd_ok i).2) hu ?_
  rw [show PyData.eqv (.tuple [.str (kd i), .str (wd i)]) (.tuple [.str (kd i), .str (wd i)]) = true from by simp [PyData.eqv, PyData.eqvAll]]; exact h
end
theorem LEnd.intro {k : LX} {h₀ h' : Heap} {L I : Addr} {oI : Obj} {p0 p : Nat} {tq0 tq tA : Tok} {st0 st : TS} {ps0 ps : Array Value} {R0 R nx : List (Addr × Obj)} {m' : PySem.Str → Option Value} {s : Shared} {tk : Nat} (W : Led k st ps R) (W0 : Led k st0 ps0 R0) (off : ∀ q ∈ can k p0 tq0 st0 ps0 R0, q.1 ≠ I) (sub : ∀ q ∈ R0, q ∈ R)
    (hI : (I, oI) ∈ R) (hd : ∃ a b c, oI.data = .fields #[rawInt a, rawInt b, rawInt c]) (F : Fr h₀ L h' m') (N : News h₀ L h' nx) (sn : ∀ q ∈ can k p tq st ps R, q ∈ nx) (h1 : m' "at" = some (.int (p : Int) tA)) (h2 : m' "reader" = some (.ref k.r.rd)) :
    LEnd h₀ L s I oI (JL k) { s with heap := h', toks := tk } := by
  obtain ⟨R2, W2, N2, o2⟩ := W.drop W0 off sub hI hd (fun q hq => N q (sn q hq))
  exact ⟨h', tk, m', _, rfl, F, N2, o2, p, tq, tA, st, ps, R2, W2, rfl, h1, h2⟩
end
end
-- D40
section
open PySem PySem.W PySem.Calls PyProof.Rows
set_option pp.deepTerms false
set_option pp.deepTerms.threshold 6
set_option pp.maxSteps 20000
set_option format.width 180
set_option Elab.async false
set_option linter.unusedVariables false
set_option maxRecDepth 100000
section
theorem cutD40 : True := by
  k_with_none
  trivial
/-! The turn's except suite. -/
section
variable {w : World} {A : Around} {E : Value → Shared → Prop} {s : Shared} {h₀ : Heap} {L : Addr} {m : PySem.Str → Option Value} {nx : List (Addr × Obj)} {Q : Value → Shared → Prop}
theorem rows_nil {r : RX} {RL y : Addr} {c d : Nat} (W : Few r) (X : (frag.heap_1 w.params).In h₀) (F : Fr h₀ L s.heap m) (N : News h₀ L s.heap nx) (hm : (RL, rowsL r c) ∈ nx) (hy : (y, listOf #[] d) ∈ nx) (hu : A.units + 64 < cLine) (h : Q (.bool r.Rw.isEmpty) s) :
    wpAny (model prog w) A (compareOp .Eq (.ref RL) (.ref y)) Q E s := by
  obtain ⟨as, ra⟩ := rows_reads (w := w) X F r.Rw W.small
  have l1 := rows_lay r.Rw
  refine eq_dataH (reads_list_at (N _ hm).1 rfl rfl ra) (reads_list_at (N _ hy).1 rfl rfl .nil) ?_ (by decide +kernel) hu ?_
  · unfold SeqAt.shaped
    rw [show PyData.canLay0 (.list _) = _ from by rw [PyData.canLay0], l1.1, Bool.true_and]
    refine decide_eq_true ?_
    rw [PyData.depth]
    have := l1.2
    omega
  · rw [PyData.eqv, show PyData.eqvAll (r.Rw.map fun i => PyData.tuple [.str (kd i), .str (wd i)]) [] = r.Rw.isEmpty from by cases r.Rw <;> simp [PyData.eqvAll]]
    exact h
theorem int2_same {x y : Addr} {a b a' b' : Int} {t u t' u' : Tok} (N : News h₀ L s.heap nx) (hx : (x, tup2 (.int a t) (.int b u)) ∈ nx) (hy : (y, tup2 (.int a' t') (.int b' u')) ∈ nx) (ea : a = a') (eb : b = b') (hu : A.units + 64 < cLine) (h : Q (.bool false) s) :
    wpAny (model prog w) A (compareOp .NotEq (.ref x) (.ref y)) Q E s := by
  subst ea eb
  refine ne_dataH (reads_tuple_at (N _ hx).1 rfl rfl (.cons (.int _ _) (.cons (.int _ _) .nil))) (reads_tuple_at (N _ hy).1 rfl rfl (.cons (.int _ _) (.cons (.int _ _) .nil))) (by simp [SeqAt.shaped, PyData.canLay0, PyData.canLayAll0, PyData.depth, PyData.depthAll]) (by simp [SeqAt.shaped, PyData.canLay0, PyData.canLayAll0, PyData.depth, PyData.depthAll]) hu ?_
  rw [show PyData.eqv (.tuple [.int a, .int b]) (.tuple [.int a, .int b]) = true from by simp [PyData.eqv, PyData.eqvAll]]; exact h
end
theorem name_goesX {M : Model} {A : Around} {E : Value → Shared → Prop} {s : Shared} {cn : PySem.Str} {cs : Scope} {L a : Addr} {ccd : Value} {cl : List (PySem.Str × Addr)} {h₀ : Heap} {m : PySem.Str → Option Value} {news : List (Addr × Obj)} {n : PySem.Str} {pos : Pos} {Q : Unit → Shared → Prop} (F : Fr h₀ L s.heap m) (N : News h₀ L s.heap news)
    (h : ∀ h' v tk, Fr h₀ L h' (fun x => if x = n then v else m x) → News h₀ L h' news → Q () { s with heap := h', toks := tk })
    (hk : cs.kind = .function := by rfl) (hl : (envX cn cs L a ccd cl).kindOf n = some .local := by rfl) :
    wpAny M A (do bindName (envX cn cs L a ccd cl) n .none; unbindBehindTheSuite (envX cn cs L a ccd cl) n pos) Q E s :=
  wpAny_nameGoes_keeps hl F.ns (by show (cs.kind == .class || (cs.kind == .module && L != mainGlobals)) = false; rw [hk]; rfl) fun h' v hn hs => h h' v _ (F.set hn hs) (N.set hs)
theorem Place.nil {r : RX} {p : Nat} {u v : Int} (P : Place r p u v) (h : r.Rw.isEmpty = true) : u = 0 ∧ v = 0 := by
  rcases P with ⟨_, a⟩ | ⟨n, _⟩
  · exact a
  · exact absurd (List.isEmpty_iff.mp h) n
theorem Place.rows {r : RX} {p : Nat} {u v : Int} (P : Place r p u v) (h : r.Rw.isEmpty = false) : u = ((min p (r.Rw.length - 1) : Nat) : Int) + 1 ∧ v = 8 + ((min p (r.Rw.length - 1) : Nat) : Int) := by
  rcases P with ⟨n, _⟩ | ⟨_, a⟩
  · rw [n] at h; cases h
  · exact a
theorem len_pos {r : RX} (h : r.Rw.isEmpty = false) : 0 < r.Rw.length := by
  cases q : r.Rw with
  | nil => rw [q] at h; cases h
  | cons a l => exact Nat.succ_pos _
section
variable {w : World} {mean : ExcName → Option Value} {mg mb : PySem.Str → Option Value} {A₀ : Around} {cn : PySem.Str} {cs : Scope} {a : Addr} {ccd : Value} {cl : List (PySem.Str × Addr)} {base h₀ g : Heap} {L : Addr} {m : PySem.Str → Option Value} {s' : Shared} {k : LX} {p : Nat} {tq : Tok} {st : TS} {ps ps' : Array Value} {R rest' : List (Addr × Obj)}
  {n x : PySem.Str} {b₀ : Stmt} {suite : List Stmt} {pos np : Pos} {rest : List ExceptHandler} {Q : Flow → Shared → Prop} {E : Value → Shared → Prop} {e : Addr} {f : FX}
/-- the law's own `except GrammarFault as fault` -/
theorem caughtL {cRv : Addr} (W : Led k st ps R) (hR : k.cR = cRv) (G : TG k.r ps' rest') (sub : ∀ q ∈ tapeX k.x st (restX k R), q ∈ rest') (RD : RaisedD base g (envX cn cs L a ccd cl :: []) e 65 f.dx (faultL k.r p tq ((381, tabObj ps') :: rest') f) s'.heap) (F : Fr h₀ L g m) (K : Below A₀ base [] h₀) (hsm : g.UpToSlots s'.heap)
    (X : (frag.heap_1 w.params).In h₀) (T : Top topProg LS mean mg mb h₀) (ex : nsIn (frag.heap_1 w.params) mainGlobals x = some (some (.ref 65)))
    (kk : ∀ h' oe vs tk R2, Led k st ps' R2 → (∀ q ∈ R, q ∈ R2) → Fr h₀ L h' (fun y => if y = n then some (.ref e) else m y) → News h₀ L h' ((e, oe) :: (f.dx, faultD f.h1 f.h2 f.t1 f.t2 (.str f.x f.tk) (.ref f.pa)) :: (f.pa, tup2 (.int f.u f.tu) (.int f.v f.tv)) :: (cRv, k.oR) :: can k p tq st ps' R2) → oe.cls = .ref 65 → oe.dict = some f.dx → oe.data = .fields vs → vs[2]? = some .none →
      wpAny (model prog w) ((A₀.deeper (envX cn cs L a ccd cl)).mark (some (.ref e))) (execs (b₀ :: suite) (envX cn cs L a ccd cl))
        (fun f s₄ => wpAny (model prog w) (A₀.deeper (envX cn cs L a ccd cl)) (do bindName (envX cn cs L a ccd cl) n .none; unbindBehindTheSuite (envX cn cs L a ccd cl) n pos) (fun _ s₅ => Q f s₅) E s₄)
        (AsSuiteRaised (model prog w) ((A₀.deeper (envX cn cs L a ccd cl)).mark (some (.ref e))) (envX cn cs L a ccd cl) n pos (notedBy (model prog w) ((A₀.deeper (envX cn cs L a ccd cl)).mark (some (.ref e))) (envX cn cs L a ccd cl) (cameBackBy (model prog w) (A₀.deeper (envX cn cs L a ccd cl)) (envX cn cs L a ccd cl) E)))
        { s' with heap := h', toks := tk })
    (hk : cs.kind = .function := by rfl) (hlo : (envX cn cs L a ccd cl).kindOf n = some .local := by rfl) (hx : (envX cn cs L a ccd cl).kindOf x = some .globalImplicit := by rfl) (hd : (x == ("__debug__" : PySem.Str)) = false := by decide) :
    wpAny (model prog w) (A₀.deeper (envX cn cs L a ccd cl)) (noteFrame (.ref e) (envX cn cs L a ccd cl))
      (fun _ s₂ => wpAny (model prog w) (A₀.deeper (envX cn cs L a ccd cl)) (setFlight (.ref e) none) (fun _ s₃ =>
        wpAny (model prog w) (A₀.deeper (envX cn cs L a ccd cl)) (handleBy (.ref e) (envX cn cs L a ccd cl) (.ExceptHandler (some (.Name x np)) (some n) (b₀ :: suite) pos :: rest)) Q E s₃) E s₂) E s' := by
  subst hR
  refine caughtX0 (KF := frag.heap_1 w.params) RD F K hsm X T ex (excCls65 X) (fun h' oe vs tk F' N' h1 h2 h3 h4 => ?_) hk hlo hx hd
  obtain ⟨R2, W2, N2, s2, _⟩ := W.fit2 (p := p) (tq := tq) G sub (fun q hq => N' q (.tail _ (.tail _ (.tail _ hq))))
  refine kk h' oe vs tk R2 W2 s2 F' (fun q hq => ?_) h1 h2 h3 h4
  rcases List.mem_cons.mp hq with rfl | hq
  · exact N' _ (.head _)
  rcases List.mem_cons.mp hq with rfl | hq
  · exact N' _ (.tail _ (.head _))
  rcases List.mem_cons.mp hq with rfl | hq
  · exact N' _ (.tail _ (.tail _ (.head _)))
  rcases List.mem_cons.mp hq with rfl | hq
  · exact N2 _ ((by kcf_all : ∀ q ∈ [(k.cR, k.oR)], q ∈ can k p tq st ps' R2) _ (.head _))
  · exact N2 _ hq
end
end
end
-- W2
section
open PySem PySem.W PySem.Calls PyProof.Rows
set_option pp.deepTerms false
set_option pp.deepTerms.threshold 6
set_option pp.maxSteps 20000
set_option format.width 180
set_option Elab.async false
set_option linter.unusedVariables false
set_option maxRecDepth 100000
section
theorem cutW2 : True := by
  k_with_none
  trivial
theorem reg42 : PySem.Challenge.rw_og0089_01 = PySem.Challenge.rw_og0089_01 ∧ frag.heap_1 = frag.heap_1 := by k_fill; exact ⟨rfl, rfl⟩
/-! The loop of the law: its body, and what stands behind the try. -/
def loopOf : List Stmt → List Stmt
  | .For _ _ body _ _ :: _ => body
  | _ :: t => loopOf t
  | [] => []
theorem Led.rdrC {k : LX} {st : TS} {ps : Array Value} {R : List (Addr × Obj)} {c : Addr} (W : Led k st ps R) (hR : k.cR = c) : Rdr k.r ((c, k.oR) :: (381, tabObj ps) :: tapeX k.x st (restX k R)) := by
  subst hR
  exact Rdr.more (q := (k.cR, k.oR)) W.rdrAll (W.tg.rdr.nrd _ W.mcR) (W.tg.rdr.nd _ W.mcR)
section
variable {M : Model} {A : Around} {E : Value → Shared → Prop} {s : Shared} {Q : Value → Shared → Prop}
theorem is_none_ref {x : Addr} (h : Q (.bool false) s) : wpAny M A (compareOp .Is (.ref x) .none) Q E s := wpAny_is_other rfl (by intro e; cases e) h
theorem is_none_none (h : Q (.bool true) s) : wpAny M A (compareOp .Is .none .none) Q E s := wpAny_is_self rfl h
theorem isnot_none_ref {x : Addr} (h : Q (.bool true) s) : wpAny M A (compareOp .IsNot (.ref x) .none) Q E s := wpAny_isNot_other rfl (by intro e; cases e) h
theorem isnot_none_none (h : Q (.bool false) s) : wpAny M A (compareOp .IsNot .none .none) Q E s := wpAny_isNot_self rfl h
end
theorem ne_bool_same {prog : Program} {w : World} {A : Around} {E : Value → Shared → Prop} {s : Shared} {Q : Value → Shared → Prop} {b : Bool} (h : Q (.bool false) s) : wpAny (model prog w) A (compareOp .NotEq (.bool b) (.bool b)) Q E s := ne_bool (by rw [bne_self_eq_false]; exact h)
theorem lines42 : True := by
  k_with "execs cons Expr nil" => (refine wpAny_execs_cons ?_)
  k_with "ite" => ((k_openite; first | (refine ite_pos (by with_reducible assumption) ?_) | (refine ite_isFalse (by with_reducible assumption) ?_) | (with_reducible refine split_not ?_) | ((with_reducible show (if decide _ = true then _ else _)); (refine split_dec ?_ ?_) <;> intro _) | ((with_reducible refine split_bool ?_ ?_) <;> intro _)))
  k_with "compareOp Is" => (k_dflt (refine is_none_ref ?_))
  k_with "compareOp Is" => (k_dflt (refine is_none_none ?_))
  k_with "compareOp IsNot" => (k_dflt (refine isnot_none_ref ?_))
  k_with "compareOp IsNot" => (k_dflt (refine isnot_none_none ?_))
  k_with "compareOp NotEq bool bool" => (k_dflt (refine ne_bool_same ?_))
  k_with "compareOp NotEq int int" => (with_reducible refine ne_same ?_)
  k_with "compareOp GtE int int" => (first | k_dflt (refine ge_no i1' ?_) | k_dflt (refine ge_yes i1' ?_))
  k_with "call builtin:len" => (k_dflt (refine' rows_len ?z1 W9 ?z3 ?_; (case z1 => k_asm); (case z3 => (repeat (first | assumption | exact List.Mem.head _ | apply List.mem_cons_of_mem | (refine (by assumption : ∀ q ∈ _, q ∈ _) _ ?_))))); k_whole)
  k_with "subscriptTail" => ((with_reducible show wpAny _ _ (subscriptTail _ _ (Value.ref (LX.RL k)) _) _ _ _); k_dflt (refine' rows_at i1' W9 ?z1 ?z3 ?_; (case z1 => k_asm); (case z3 => (repeat (first | assumption | exact List.Mem.head _ | apply List.mem_cons_of_mem | (refine (by assumption : ∀ q ∈ _, q ∈ _) _ ?_))))); k_whole)
  k_with "compareOp NotEq ref ref" => (k_dflt (refine' row_same ?x1 ?x2 ?x3 ?x4 ?x5 ?x6 ?_; (case x3 => k_asm); (case x2 => k_in); (case x4 => k_asm); (case x5 => k_mem); (case x1 => exact W9.small _ (List.mem_of_getElem? i1')); (case x6 => ktr_units)); k_whole)
  k_with "LPost" => (dsimp only [LPost])
  k_with "LEnd" => (k_dflt (exact LEnd.intro W W0 off0 sub0 mI hd (by assumption) (newsSub (by assumption) (by kcf_all)) (fun q hq => hq) rfl rfl))
  k_with "call ref" => (k_dflt (refine' c_peek ?k1 ?k2 ?k3 ?k4 ?kR ?k5 ?k6 ?k7 ?k8 ?kp (fun i' h' tk' i1' F' N' => ?_) (fun h' tk' i1' F' N' => ?_); (case kR => assumption); (case k1 => k_asm); (case k2 => k_asm); (case k3 => k_in); (case k4 => first | k_asm | exact newsSub (by assumption) (by kcf_all)); (case k5 => k_asm); (case k6 => first | rfl | assumption); (case k7 => ktr_room); (case k8 => ktr_units); (case kp => first | exact .inl ⟨rfl, rfl, rfl⟩ | exact .inr rfl)))
  k_with "getMethod ref" => ((with_reducible (refine' tok_told ?k1 ?k2 ?k3 ?k4 ?k5 ?k6 ?_)); (case k5 => assumption); (case k1 => k_asm); (case k2 => k_in); (case k3 => k_asm); (case k4 => (intro q hq; repeat (first | exact hq | apply List.mem_cons_of_mem))); (case k6 => assumption))
  k_with "call ref" => (k_dflt (refine' c_told i1' ?k1 ?k2 ?k3 ?k4 ?kR ?k5 ?k6 ?k7 ?k8  (fun D' t' u' h' tk' F' N' l' => ?_); (case kR => assumption); (case k1 => k_asm); (case k2 => k_asm); (case k3 => k_in); (case k4 => first | k_asm | exact newsSub (by assumption) (by kcf_all)); (case k5 => k_asm); (case k6 => first | rfl | assumption); (case k7 => ktr_room); (case k8 => ktr_units)))
  trivial
set_option maxHeartbeats 3000000 in
theorem tailT {w : World} {d : DefRec} {kwd : List (PySem.Str × PySem.Expr)} (hdef : defOf view "law" = some (d, kwd)) {mean : ExcName → Option Value} {mg mb : PySem.Str → Option Value} {h₀ : Heap} {L fa I : Addr} {cd : Value} {k : LX} {p p0 : Nat} {tq tA tq0 : Tok} {st st0 : TS} {ps ps0 : Array Value} {R R0 : List (Addr × Obj)} {oI : Obj} {u : PySem.Str → Option Value} {s : Shared} {h : Heap} {tk : Nat} {Q : Flow → Shared → Prop} {E : Value → Shared → Prop}
    (K : Below callerA h₀ [] h₀) (X : (frag.heap_1 w.params).In h₀) (T : Top topProg LS mean mg mb h₀) (hR : k.cR = L + 1 + 1)
    (W : Led k st ps R) (W0 : Led k st0 ps0 R0) (off0 : ∀ q ∈ can k p0 tq0 st0 ps0 R0, q.1 ≠ I) (sub0 : ∀ q ∈ R0, q ∈ R) (mI : (I, oI) ∈ R) (hd : ∃ a b c, oI.data = .fields #[rawInt a, rawInt b, rawInt c])
    (F : Fr h₀ L h (fun z => if z = "at" then some (.int (p : Int) tA) else if z = "reader" then some (.ref k.r.rd) else u z))
    (N : News h₀ L h ((k.r.rd, rdO k.r) :: (k.r.d, rdD k.r p tq) :: (L + 1 + 1, k.oR) :: (381, tabObj ps) :: tapeX k.x st (restX k R))) :
    wpAny (model prog w) (callerA.deeper (envOfC "law" d.scope L fa cd)) (execs ((loopOf d.body).drop 3) (envOfC "law" d.scope L fa cd)) (LPost h₀ L s I oI (JL k) Q) E { s with heap := h, toks := tk } := by
  obtain ⟨rfl, rfl⟩ := Prod.mk.inj (Option.some.inj (show some _ = some _ from hdef))
  clear hdef
  dsimp only [loopOf, List.drop]
  have W9 := W.few
  have Rd9 := W.rdrC hR
  have dR := W.dR
  dsimp only [tapeX, restX] at N Rd9
  w_on
  k_steps
end
end
-- W3
section
open PySem PySem.W PySem.Calls PyProof.Rows
set_option pp.deepTerms false
set_option pp.deepTerms.threshold 6
set_option pp.maxSteps 20000
set_option format.width 180
set_option Elab.async false
set_option linter.unusedVariables false
set_option maxRecDepth 100000
section
theorem cutW3 : True := by
  k_with_none
  trivial
theorem reg43 : PySem.Challenge.rw_og0089_01 = PySem.Challenge.rw_og0089_01 ∧ frag.heap_1 = frag.heap_1 := by k_fill; exact ⟨rfl, rfl⟩
/-! A turn of the law's loop. -/
structure HDf (d : DefRec) (kwd : List (PySem.Str × PySem.Expr)) : Prop where
  h : defOf view "law" = some (d, kwd)
theorem due_no {h₀ : Heap} {nx : List (Addr × Obj)} {v : Value} (h : ResO h₀ nx none v) : v = .none := h
theorem tail_ok {w : World} {d : DefRec} {kwd : List (PySem.Str × PySem.Expr)} (hdef : HDf d kwd) {mean : ExcName → Option Value} {mg mb : PySem.Str → Option Value} {h₀ : Heap} {L fa I : Addr} {cd : Value} {k : LX} {p p0 : Nat} {tq tA tq0 : Tok} {st st0 : TS} {ps ps0 : Array Value} {R R0 : List (Addr × Obj)} {oI : Obj} {m : PySem.Str → Option Value} {s : Shared} {h : Heap} {tk : Nat} {Q : Flow → Shared → Prop} {E : Value → Shared → Prop}
    (K : Below callerA h₀ [] h₀) (X : (frag.heap_1 w.params).In h₀) (T : Top topProg LS mean mg mb h₀) (hR : k.cR = L + 1 + 1)
    (W : Led k st ps R) (W0 : Led k st0 ps0 R0) (off0 : ∀ q ∈ can k p0 tq0 st0 ps0 R0, q.1 ≠ I) (sub0 : ∀ q ∈ R0, q ∈ R) (mI : (I, oI) ∈ R) (hd : ∃ a b c, oI.data = .fields #[rawInt a, rawInt b, rawInt c])
    (F : Fr h₀ L h m) (a1 : m "at" = some (.int (p : Int) tA)) (a2 : m "reader" = some (.ref k.r.rd))
    (N : News h₀ L h ((L + 1 + 1, k.oR) :: can k p tq st ps R)) :
    wpAny (model prog w) (callerA.deeper (envOfC "law" d.scope L fa cd)) (execs ((loopOf d.body).drop 3) (envOfC "law" d.scope L fa cd)) (LPost h₀ L s I oI (JL k) Q) E { s with heap := h, toks := tk } := by
  have e : m = fun z : PySem.Str => if z = "at" then some (Value.int (p : Int) tA) else if z = "reader" then some (.ref k.r.rd) else m z := by
    funext z
    by_cases h1 : z = "at"
    · simp [h1, a1]
    · simp only [if_neg h1]
      by_cases h2 : z = "reader"
      · simp [h2, a2]
      · simp only [if_neg h2]
  rw [e] at F
  exact tailT hdef.h K X T hR W W0 off0 sub0 mI hd F (newsSub N (by kcf_all))
theorem lines43 : True := by
  k_with "execs cons Expr nil" => (refine wpAny_execs_cons ?_)
  k_with "ite" => ((k_openite; first | (refine ite_pos (by with_reducible assumption) ?_) | (refine ite_isFalse (by with_reducible assumption) ?_) | (with_reducible refine split_not ?_) | ((with_reducible show (if decide _ = true then _ else _)); (refine split_dec ?_ ?_) <;> intro _) | ((with_reducible refine split_bool ?_ ?_) <;> intro _)))
  k_with "call ref" => ((with_reducible show wpAny _ _ (call (Value.ref 346) _ _) _ _ _); k_dflt (refine' c_drawX ?dO ?dW ?d1 ?d2 ?d3 ?d4 ?d5 ?d6 ?d7 ?d8 ?d9 ?da (fun v' t' st' h' tk' v0' v1' O' F' N' => ?_); (case dO => assumption); (case d1 => k_asm); (case d2 => k_asm); (case d3 => k_in); (case d4 => k_asm); (case dW => assumption); (case d5 => k_asm); (case d6 => first | rfl | assumption); (case d7 => ktr_room); (case d8 => ktr_units); (case d9 => omega); (case da => omega)))
  k_with "call ref" => ((with_reducible show wpAny _ _ (call (Value.ref 379) _ _) _ _ _); k_dflt (refine' c_dueL (k := k) ?u1 ?u2 off0 hR ?u5 ?u6 ?u7 ?u8 ?u9 ?ua ?ub ?uc ?ud ?ue (fun vd' R2' h' tk' W2' s2' i2' o2' F' N' => ?_); (case u5 => k_asm); (case u6 => k_asm); (case u7 => k_in); (case u8 => k_asm); (case u2 => assumption); (case u1 => exact Led.draw W0 (by assumption)); (case u9 => k_asm); (case ua => first | rfl | assumption); (case ub => ktr_room); (case uc => ktr_units); (case ud => assumption); (case ue => assumption)))
  k_with "call ref" => ((with_reducible show wpAny _ _ (call (Value.ref 386) _ _) _ _ _); k_dflt ((rename News _ _ _ _ => N9); (refine' c_askedL (k := k) ?u1 hR ?u5 ?u6 ?u7 N9 ?u9 ?ux ?ua ?ub ?uc ?ud ?ue (fun vr' rv' p2' t2' ps2' R3' h' tk' hd2' W3' s3' S3' F' N' => ?_) (fun hd2' e' f' ps2' rest' g' h' tk' G3' s3' FG' P' RD' U' => ?_); (case u1 => assumption); (case u5 => k_asm); (case u6 => k_asm); (case u7 => k_in); (case u9 => k_asm); (case ux => assumption); (case ua => first | rfl | assumption); (case ub => ktr_room); (case uc => ktr_units); (case ud => assumption); (case ue => assumption)); (all_goals first | (rw [hd2'] at o2'; obtain ⟨D9, x9, t9, e9, hm9, S9⟩ := o2'; subst e9; (dsimp only [can, tapeX, restX] at N')) | (rw [hd2'] at o2'; have o9 := due_no o2'; subst o9))))
  k_with "exec Try" => (refine wpAny_Try_except ?_)
  k_with "execs cons" => ((with_reducible show wpAny _ _ (execs (Stmt.If (Expr.Compare (Expr.Attribute _ _ _) _ _ _) _ _ _ :: _) _) _ _ _); k_dflt (first | (refine' tail_ok hdef0 K X T hR W3' W0 off0 ?z1 ?z2 hd ?z3 ?z4 ?z5 ?z6; (case z3 => k_asm); (case z1 => exact fun q hq => s3' _ (s2' _ hq)); (case z2 => exact s3' _ i2'); (case z4 => rfl); (case z5 => rfl); (case z6 => exact newsSub (by k_asm) (by kcf_all)))))
  k_with "subscriptTail" => ((with_reducible show wpAny _ _ (subscriptTail _ _ (Value.ref D9) (Value.int 0 _)) _ _ _); k_dflt (refine' tup_item0 ?v1 hm9 ?v2 ?_; (case v1 => k_asm); (case v2 => (intro q hq; repeat (first | exact hq | apply List.mem_cons_of_mem | (refine (by assumption : ∀ q ∈ _, q ∈ _) _ ?_))))); k_whole)
  k_with "subscriptTail" => ((with_reducible show wpAny _ _ (subscriptTail _ _ (Value.ref D9) (Value.int 1 _)) _ _ _); k_dflt (refine' tup_item1 ?v1 hm9 ?v2 ?_; (case v1 => k_asm); (case v2 => (intro q hq; repeat (first | exact hq | apply List.mem_cons_of_mem | (refine (by assumption : ∀ q ∈ _, q ∈ _) _ ?_))))); k_whole)
  k_with "compareOp NotEq" => ((with_reducible show wpAny _ _ (compareOp _ vr' x9) _ _ _); k_dflt (refine' ne_reply hd2' ?w1 ?w2 S3' S9 s3' ?w3 ?w4 ?_; (case w1 => k_asm); (case w2 => k_asm); (case w3 => (intro q hq; repeat (first | exact hq | apply List.mem_cons_of_mem | (refine (by assumption : ∀ q ∈ _, q ∈ _) _ ?_)))); (case w4 => ktr_units)); k_whole)
  k_with "call type:type" => ((with_reducible show wpAny _ _ (call _ [vr']) _ _ _); k_dflt (refine' type_reply ?y1 ?y2 S3' ?y3 ?_; (case y1 => k_asm); (case y2 => k_asm); (case y3 => (intro q hq; repeat (first | exact hq | apply List.mem_cons_of_mem | (refine (by assumption : ∀ q ∈ _, q ∈ _) _ ?_))))); k_whole)
  k_with "call type:type" => ((with_reducible show wpAny _ _ (call _ [x9]) _ _ _); k_dflt (refine' type_reply ?y1 ?y2 (S9.more s3') ?y3 ?_; (case y1 => k_asm); (case y2 => k_asm); (case y3 => (intro q hq; repeat (first | exact hq | apply List.mem_cons_of_mem | (refine (by assumption : ∀ q ∈ _, q ∈ _) _ ?_))))); k_whole)
  k_with "compareOp NotEq" => ((with_reducible show wpAny _ _ (compareOp _ (Value.type (tyOf _)) (Value.type (tyOf _))) _ _ _); k_dflt (refine ne_type_same (meta_of _) ?_); k_whole)
  k_with "compareOp Is" => (k_dflt (refine is_none_ref ?_))
  k_with "compareOp Is" => (k_dflt (refine is_none_none ?_))
  k_with "compareOp IsNot" => (k_dflt (refine isnot_none_ref ?_))
  k_with "compareOp IsNot" => (k_dflt (refine isnot_none_none ?_))
  k_with "compareOp NotEq bool bool" => (k_dflt (refine ne_bool_same ?_))
  k_with "compareOp NotEq int int" => (with_reducible refine ne_same ?_)
  k_with "bind" => (k_dflt (refine' name_goesX ?z1 ?z2 (fun h' v' tk' F' N' => ?_); (case z1 => k_asm); (case z2 => k_asm)))
  k_with "noteFrame" => (k_dflt (refine' caughtL W2' hR G3' s3' RD' FG' K U' X T ?ex (fun h' oe' vs' tk' R3' W3' s3' F' N' c' d' f9' g9' => ?_); (case ex => k_is); (dsimp only [can, tapeX, restX] at N')))
  k_with "getAttr ref" => ((with_reducible show wpAny _ _ (getAttr (Value.ref e') _ _) _ _ _); k_dflt (refine' get_excK ?k1 ?k2 ?k3 ?k4 c' d' f9' ?k8 ?k9 ?k10 ?k11 ?k12 ?k13 ?k14 ?k15 ?_; (case k1 => k_asm); (case k2 => k_asm); (case k3 => k_asm); (case k4 => k_mem); (case k8 => k_mem); (case k9 => k_is); (case k10 => k_is); (case k11 => k_is); (case k12 => k_is); (case k13 => k_is); (case k14 => k_get); (case k15 => k_handed); k_whole))
  k_with "call builtin:min" => (k_dflt (refine' min_two_NH ?k0 ?k1 ?k2 ?k3 f9' g9' ?_; (case k0 => rfl); (case k1 => k_asm); (case k2 => k_asm); (case k3 => k_mem)); intro h' tk' F' N')
  k_with "call builtin:len" => (k_dflt (refine' rows_len ?z1 (Led.few W3') ?z3 ?_; (case z1 => k_asm); (case z3 => (repeat (first | assumption | exact List.Mem.head _ | apply List.mem_cons_of_mem | (refine (by assumption : ∀ q ∈ _, q ∈ _) _ ?_))))); k_whole)
  k_with "compareOp Eq ref ref" => (k_dflt (refine' rows_nil (Led.few W3') ?z1 ?z2 ?z3 ?z4 ?z5 ?z6 ?_; (case z2 => k_asm); (case z3 => k_asm); (case z1 => k_in); (case z4 => (repeat (first | assumption | exact List.Mem.head _ | apply List.mem_cons_of_mem | (refine (by assumption : ∀ q ∈ _, q ∈ _) _ ?_)))); (case z5 => k_mem); (case z6 => ktr_units)); k_whole)
  k_with "compareOp NotEq ref ref" => (k_dflt (refine' int2_same ?z1 ?z2 ?z3 ?z4 ?z5 ?z6 ?_; (case z1 => k_asm); (case z2 => k_mem); (case z3 => k_mem); (case z4 => first | exact (Place.nil P' (by assumption)).1 | (rw [(Place.rows P' (by assumption)).1]; have := len_pos (r := k.r) (by assumption); split <;> omega)); (case z5 => first | exact (Place.nil P' (by assumption)).2 | (rw [(Place.rows P' (by assumption)).2]; have := len_pos (r := k.r) (by assumption); split <;> omega)); (case z6 => ktr_units)); k_whole)
  trivial
set_option maxHeartbeats 3000000 in
theorem turnT {w : World} {d : DefRec} {kwd : List (PySem.Str × PySem.Expr)} (hdef0 : HDf d kwd) {mean : ExcName → Option Value} {mg mb : PySem.Str → Option Value} {h₀ : Heap} {L fa I : Addr} {cd : Value} {k : LX} {p : Nat} {tq tA t : Tok} {i : Int} {st st0 : TS} {ps : Array Value} {R : List (Addr × Obj)} {oI : Obj} {u : PySem.Str → Option Value} {s : Shared} {Q : Flow → Shared → Prop} {E : Value → Shared → Prop}
    (K : Below callerA h₀ [] h₀) (X : (frag.heap_1 w.params).In h₀) (T : Top topProg LS mean mg mb h₀) (C : CodeHd h₀ 385 381) (hR : k.cR = L + 1 + 1)
    (W0 : Led k st0 ps R) (Aw : Away k.x (((L + 1 + 1, k.oR) :: (L + 1, k.oT) :: turnL k I oI p tq ps R).map (·.1))) (off0 : ∀ q ∈ can k p tq st0 ps R, q.1 ≠ I) (hd : ∃ a b c, oI.data = .fields #[rawInt a, rawInt b, rawInt c]) (O : TOk st)
    (dR : k.oR.data = .cell (some (.ref k.RL))) (dT : k.oT.data = .cell (some (.ref k.x.tp)))
    (F : Fr h₀ L s.heap (fun z => if z = "turn" then some (.int i t) else if z = "at" then some (.int (p : Int) tA) else if z = "reader" then some (.ref k.r.rd) else u z))
    (N : News h₀ L s.heap (tapeX k.x st ((L + 1 + 1, k.oR) :: (L + 1, k.oT) :: turnL k I oI p tq ps R))) :
    wpAny (model prog w) (callerA.deeper (envOfC "law" d.scope L fa cd)) (execs (loopOf d.body) (envOfC "law" d.scope L fa cd)) (LPost h₀ L s I oI (JL k) Q) E s := by
  obtain ⟨rfl, rfl⟩ := Prod.mk.inj (Option.some.inj (show some _ = some _ from hdef0.h))
  dsimp only [loopOf]
  w_on
  k_steps
end
end
-- W1
section
open PySem PySem.W PySem.Calls PyProof.Rows
set_option pp.deepTerms false
set_option pp.deepTerms.threshold 6
set_option pp.maxSteps 20000
set_option format.width 180
set_option Elab.async false
set_option linter.unusedVariables false
set_option maxRecDepth 100000
section
theorem cutW1 : True := by
  k_with_none
  trivial
theorem reg40 : PySem.Challenge.rw_og0089_01 = PySem.Challenge.rw_og0089_01 ∧ frag.heap_1 = frag.heap_1 := by k_fill; exact ⟨rfl, rfl⟩
theorem forall3 {a b c : Addr × Obj} {D : Addr} (h : a.1 < D ∧ b.1 < D ∧ c.1 < D) : ∀ q ∈ [a, b, c], q.1 < D := List.forall_mem_cons.mpr ⟨h.1, List.forall_mem_cons.mpr ⟨h.2.1, List.forall_mem_cons.mpr ⟨h.2.2, fun q hq => by cases hq⟩⟩⟩
theorem cells_lt {a b c D : Addr} {o1 o2 o3 u1 u2 u3 : Obj} (l : ∀ q ∈ [(a, o1), (b, o2), (c, o3)], q.1 < D) : ∀ q ∈ [(a, u1), (b, u2), (c, u3)], q.1 < D := by
  have h1 := l (a, o1) (.head _)
  have h2 := l (b, o2) (.tail _ (.head _))
  have h3 := l (c, o3) (.tail _ (.tail _ (.head _)))
  exact forall3 ⟨h1, h2, h3⟩
theorem and2 {a b c : Prop} (h : a ∧ b ∧ c) : a ∧ b := ⟨h.1, h.2.1⟩
structure Mark1 : Prop where
structure Mark2 : Prop where
theorem news3 {h₀ h : Heap} {L : Addr} {a b c : Addr × Obj} {l : List (Addr × Obj)} (N : News h₀ L h (a :: b :: c :: l)) : News h₀ L h (b :: c :: a :: l) := newsSub N (by kcf_all)
theorem lines40 : True := by
  k_with "execs cons Expr nil" => (refine wpAny_execs_cons ?_)
  k_with "ite" => ((k_openite; first | (refine ite_pos (by with_reducible assumption) ?_) | (refine ite_isFalse (by with_reducible assumption) ?_) | (with_reducible refine split_not ?_) | ((with_reducible show (if decide _ = true then _ else _)); (refine split_dec ?_ ?_) <;> intro _) | ((with_reducible refine split_bool ?_ ?_) <;> intro _)))
  k_with "eval BoolOp" => ((goal_lacks Mine.JT); ((with_unfolding_all refine' joinT ?jq1 ?jq2 ?_ (fun ca' vs' c' h' tk' t0' O' F' N' l' => ?_)); (case jq1 => k_asm); (case jq2 => k_asm)))
  k_with "JT" => ((exact ⟨_, _, _, _, _, _, rfl, rfl, by assumption, newsSub (by assumption) (by kcf_all), forall3 (by assumption : _ < _ ∧ _ < _ ∧ _ < _ ∧ _ < _).2, by assumption, by assumption, Nat.le_trans (Nat.le_of_eq (List.length_take ..)) (Nat.min_le_left _ _)⟩))
  k_with "JT" => ((exact ⟨_, [Value.int 0 _], [0], 0, _, _, rfl, rfl, by assumption, newsSub (by assumption) (by kcf_all), forall3 (by assumption : _ < _ ∧ _ < _ ∧ _ < _ ∧ _ < _ ∧ _ < _).2.2, .cons _ _ .nil, by decide, by decide⟩))
  k_with "exec Assign cons ListComp" => ((fail_if_success (have x9 := (by assumption : TX))); (rename News _ _ _ _ => N9); (simp only [List.cons_append, List.nil_append] at N9); (obtain ⟨x, st', ex', N1', W', O1'⟩ := tape_seal N9 (by assumption : _ < _ ∧ _ < _ ∧ _ < _ ∧ _ < _).1 (cells_lt l') O'); subst ex'; clear N9 O')
  k_with "call ref" => ((with_reducible show wpAny _ _ (call (Value.ref 346) _ _) _ _ _); k_dflt (refine' c_drawX ?dO ?dW ?d1 ?d2 ?d3 ?d4 ?d5 ?d6 ?d7 ?d8 ?d9 ?da (fun v' t' st' h' tk' v0' v1' O' F' N' => ?_); (case dO => assumption); (case d1 => k_asm); (case d2 => k_asm); (case d3 => k_in); (case d4 => k_asm); (case dW => assumption); (case d5 => k_asm); (case d6 => first | rfl | assumption); (case d7 => ktr_room); (case d8 => ktr_units); (case d9 => omega); (case da => omega)))
  k_with "CompSrc" => (k_dflt (refine' CompSrc.drawn ?ch ?cF ?cN ?cO ?cW ?cr ?c0 ?c1 (fun g' st' ys' I' oI' C' oC' D' m' h' tk' E' O' hC' F' N' W' => ?_) (fun g' l' st' hl' hs' O' => ?_); (case ch => rfl); (case cF => k_asm); (case cN => k_asm); (case cO => assumption); (case cW => assumption); (case cr => assumption); (case c0 => assumption); (case c1 => assumption)))
  k_with "subscriptTail" => ((with_reducible show wpAny _ _ (subscriptTail _ _ (Value.ref 366) _) _ _ _); k_dflt (refine' item_rows ?i1 ?i2 ?i3 ?i4 (fun j' hj' => ?_); (case i2 => k_asm); (case i1 => k_in); (case i3 => assumption); (case i4 => assumption)))
  k_with "JR" => ((exact JR.intro (by assumption) (by assumption) (by assumption) (by assumption)))
  k_with "call builtin:len" => (k_dflt (refine' len_rows ?lr1 ?lr2 ?lr3 ?_; (case lr1 => k_asm); (case lr2 => k_mem); (case lr3 => assumption)); k_whole)
  k_with "exec Assign cons Call" => ((with_reducible show wpAny _ _ (exec (Stmt.Assign [Expr.Name (Str.ofString "at") _] _ _) _) _ _ _); (fail_if_success (have y9 := (by assumption : Mark1))); have M1' := Mark1.mk; (rename News _ _ _ _ => N9); (simp only [List.cons_append, List.nil_append] at N9); have N2' := news3 N9; have o9' := (by assumption : x.tp ≠ _ ∧ x.ca ≠ _ ∧ _ ≠ _ ∧ _ ≠ _ ∧ _ ≠ _); have W2' := Away.more W' (Ne.symm o9'.1) (Ne.symm o9'.2.1); clear N9)
  k_with "CompSrc" => (k_dflt (refine' CompSrc.toks (l := l') ?th ?tF ?tN ?tW ?tl ?tr (fun g' i' j' ex' ys' I' oI' C' oC' D' m' h' tk' tq' E' hi' hj' hC' hx' F' N' => ?_) (fun g' ks' ex' T' We' => ?_); (case th => rfl); (case tF => k_asm); (case tN => k_asm); (case tW => assumption); (case tl => assumption); (case tr => assumption)); (try simp only [List.cons_append, List.nil_append] at N'))
  k_with "subscriptTail" => ((with_reducible show wpAny _ _ (subscriptTail _ _ (Value.ref _) (Value.int (Nat.cast _) _)) _ _ _); k_dflt (refine' rowsL_item ?rl1 ?rl2 ?rl3 ?rl4 ?_; (case rl1 => assumption); (case rl2 => k_asm); (case rl3 => k_mem); (case rl4 => assumption)); k_whole)
  k_with "subscriptTail" => ((with_reducible show wpAny _ _ (subscriptTail _ _ (Value.ref _) (Value.int 0 _)) _ _ _); k_dflt (refine' rowK_item0 ?rk1 ?rk2 ?rk3 ?_; (case rk1 => exact hs' _ (List.mem_of_getElem? (by assumption))); (case rk3 => k_asm); (case rk2 => k_in)); k_whole; intro t')
  k_with "subscriptTail" => ((with_reducible show wpAny _ _ (subscriptTail _ _ (Value.ref _) (Value.int 1 _)) _ _ _); k_dflt (refine' rowK_item1 ?rk1 ?rk2 ?rk3 ?_; (case rk1 => exact hs' _ (List.mem_of_getElem? (by assumption))); (case rk3 => k_asm); (case rk2 => k_in)); k_whole; intro t')
  k_with "JK" => (k_dflt (exact JK.intro (by assumption) (by assumption) rfl rfl (allLt_le (by assumption)) (by assumption) (by assumption)))
  k_with "pyIter ref" => ((with_reducible show wpAny _ _ (pyIter (Value.ref _)) (fun it s₂ => LoopAtV _ _ _ _ _ _ _ _ _ it s₂) _ _); k_dflt ((rename IsRange _ _ _ _ _ _ _ _ => rgX); (rename News _ _ _ _ => N9); (try simp only [List.cons_append, List.nil_append] at N9); k_dflt (have L9 := loop_start N9 (by assumption : Toks _ _ _ _) We' W2' (and2 (by assumption)) (allLt_le (by assumption)) (by assumption) (by assumption) hl' hs' O' (by assumption) (by assumption)); (obtain ⟨k, p0, R0, e1, e2, e3, e4, e5, e6, e7, e8, e9, W9, N9'⟩ := L9); subst e1; subst e9; clear N9; (with_unfolding_all refine' loop8 (k := k) ?g1 rgX ?g2 ?g3 W9 ?g4 ?g5 e3 e4 (fun p' tq' tA' st' ps' R' u' i' t' h' tk' I' oI' W' Aw' off' hd' O' dR' dT' F' N' => ?_) (fun p' tq' st' ps' R' u' h' tk' W' F' N' => ?_)); (case g1 => rfl); (case g2 => k_asm); (case g3 => k_asm); (case g4 => rfl); (case g5 => rfl)))
  k_with "call ref" => ((with_reducible show wpAny _ _ (call (Value.ref 379) _ _) _ _ _); k_dflt (refine' c_dueL (k := k) ?u1 ?u2 off' e3 ?u5 ?u6 ?u7 ?u8 ?u9 ?ua ?ub ?uc ?ud ?ue (fun vd' R2' h' tk' W2' s2' i2' o2' F' N' => ?_); (case u5 => k_asm); (case u6 => k_asm); (case u7 => k_in); (case u8 => k_asm); (case u2 => assumption); (case u1 => exact Led.draw W' (by assumption)); (case u9 => k_asm); (case ua => first | rfl | assumption); (case ub => ktr_room); (case uc => ktr_units); (case ud => assumption); (case ue => assumption)))
  k_with "call ref" => ((with_reducible show wpAny _ _ (call (Value.ref 386) _ _) _ _ _); k_dflt ((rename News _ _ _ _ => N9); (refine' c_askedL (k := k) ?u1 e3 ?u5 ?u6 ?u7 N9 ?u9 ?ux ?ua ?ub ?uc ?ud ?ue (fun vr' rv' p2' t2' ps2' R3' h' tk' hd2' W3' s3' S3' F' N' => ?_) (fun hd2' e' f' ps2' rest' g' h' tk' G3' s3' FG' P' RD' U' => ?_); (case u1 => assumption); (case u5 => k_asm); (case u6 => k_asm); (case u7 => k_in); (case u9 => k_asm); (case ux => assumption); (case ua => first | rfl | assumption); (case ub => ktr_room); (case uc => ktr_units); (case ud => assumption); (case ue => assumption)); (rw [hd2'] at o2'); (obtain ⟨D9, x9, t9, e9, hm9, S9⟩ := o2'); subst e9; (dsimp only [can, tapeX, restX] at N'); have Rd9 := Led.rdrAll W3'; have W9' := Led.few W3'))
  k_with "noteFrame" => (k_dflt (refine (id : Stop _ → _) ?_))
  k_with "pyIter ref" => ((with_reducible show wpAny _ _ (pyIter (Value.ref _)) (fun it s₂ => LoopAtV _ _ _ _ _ _ _ _ _ it s₂) _ _); k_dflt ((rename IsRange _ _ _ _ _ _ _ _ => rgX); (rename News _ _ _ _ => N9); (try simp only [List.cons_append, List.nil_append] at N9); k_dflt (have L9 := loop_start N9 (by assumption : Toks _ _ _ _) We' W2' (and2 (by assumption)) (allLt_le (by assumption)) (by assumption) (by assumption) hl' hs' O' (by assumption) (by assumption)); (obtain ⟨k, p0, R0, e1, e2, e3, e4, e5, e6, e7, e8, e9, W9, N9'⟩ := L9); subst e1; subst e9; clear N9; (with_unfolding_all refine' loop8 (k := k) ?g1 rgX ?g2 ?g3 W9 ?g4 ?g5 e3 e4 (fun p' tq' tA' st' ps' R' u' i' t' h' tk' I' oI' W' Aw' off' hd' O' dR' dT' F' N' => turnT hd00 (by k_asm) (by k_in) (by k_asm) codeHd e3 W' Aw' off' hd' O' dR' dT' F' N') (fun p' tq' st' ps' R' u' h' tk' W' F' N' => ?_)); (case g1 => rfl); (case g2 => k_asm); (case g3 => k_asm); (case g4 => rfl); (case g5 => rfl)))
  trivial
set_option maxHeartbeats 3000000 in
theorem walk : WalkT := by
  intro d kwd hdef
  obtain ⟨rfl, rfl⟩ := Prod.mk.inj (Option.some.inj (show some _ = some _ from hdef))
  have hd00 := HDf.mk hdef
  clear hdef
  k_go0
  all_goals try k_fold
  k_steps
end
end
end
end Mine
-- Top1
section
open PySem PySem.W PyProof.Rows
set_option Elab.async false
set_option maxRecDepth 100000
namespace Mine
theorem road_list {x : PySem.Str} (h : x.cps.toList.all (fun c => c != 123 && c != 125 && c != 46) = true) : roadStr x = false := by
  have H := List.all_eq_true.mp h
  have h1 : x.cps.any (fun c => c == 123 || c == 125) = false := by
    rw [← Array.any_toList]
    rw [List.any_eq_false]
    intro c hc
    have := H c hc
    simp only [Bool.and_eq_true, bne_iff_ne, ne_eq] at this
    simp [this.1.1, this.1.2]
  have h2 : x.cps.any (fun c => c == 46) = false := by
    rw [← Array.any_toList]
    rw [List.any_eq_false]
    intro c hc
    have := H c hc
    simp only [Bool.and_eq_true, bne_iff_ne, ne_eq] at this
    simp [this.2]
  unfold roadStr
  rw [h1, h2]; rfl
theorem str_of {k : Look} {x : PySem.Str} (hw : k.word x = true) (h : x.cps.toList.all (fun c => c != 123 && c != 125 && c != 46) = true) : k.str x = true := by
  unfold Look.str
  rw [hw, road_list h]; simp
theorem road_cons {k : Look} {s : Stmt} {r : List Stmt} : noRoadLSs k (s :: r) = (noRoadLS k s && noRoadLSs k r) := rfl
theorem road_app {k : Look} : ∀ {l r : List Stmt}, noRoadLSs k (l ++ r) = (noRoadLSs k l && noRoadLSs k r)
  | [], r => by rw [show noRoadLSs k [] = true from rfl]; rfl
  | s :: l, r => by rw [List.cons_append, road_cons, road_cons, road_app, Bool.and_assoc]
theorem road_cut {k : Look} {body : List Stmt} (i : Nat) {s : Stmt} (h1 : noRoadLSs k (body.take i) = true) (hs : body[i]? = some s) (h : noRoadLS k s = true) (h2 : noRoadLSs k (body.drop (i + 1)) = true) : noRoadLSs k body = true := by
  have hb : body = body.take i ++ s :: body.drop (i + 1) := by
    have hlt : i < body.length := by
      rcases Nat.lt_or_ge i body.length with h | h
      · exact h
      · rw [List.getElem?_eq_none h] at hs; cases hs
    rw [List.getElem?_eq_getElem hlt] at hs
    cases hs
    rw [List.getElem_cons_drop, List.take_append_drop]
  rw [hb, road_app, road_cons, h1, h, h2]; rfl
theorem road_assign {k : Look} {n : PySem.Str} {pn p q : Pos} {x : PySem.Str} {kk : Nat} (hs : k.stores [.Name n pn] = true) (hn : noRoadLs k [.Name n pn] = true) (hx : k.str x = true) :
    noRoadLS k (.Assign [.Name n pn] (.Constant (.str x) kk p) q) = true := by
  have e : noRoadLS k (.Assign [.Name n pn] (.Constant (.str x) kk p) q) = (k.stores [.Name n pn] && noRoadLs k [.Name n pn] && noRoadL k (.Constant (.str x) kk p)) := rfl
  have e2 : noRoadL k (.Constant (.str x) kk p) = k.str x := rfl
  rw [e, hs, hn, e2, hx]; rfl
theorem road_look {b : Bool} {l : List PySem.Str} {p : List Stmt} (hs : (!b) = true) (hl : l.isEmpty = true) (h : noRoadLSs { strict := false, foot := none, bare := [] } p = true) : noRoadLSs { strict := b, foot := none, bare := l } p = true := by
  cases b
  · rw [List.isEmpty_iff] at hl
    subst hl
    exact h
  · cases hs
set_option maxHeartbeats 0 in
theorem road : noRoadLSs { strict := false, foot := none, bare := [] } PySem.Challenge.pw_og0089_01.main.body = true := by
  refine road_cut 16 ?_ rfl (road_assign ?_ ?_ (str_of ?_ ?_)) ?_
  · decide +kernel
  · decide +kernel
  · decide +kernel
  · k_qdec
  · k_qdec
  · decide +kernel
set_option maxHeartbeats 0 in
theorem looks : looksOpen PySem.Challenge.pw_og0089_01 = true := by
  unfold looksOpen
  repeat' (with_reducible apply look_both)
  case' x.y => 
    with_reducible refine road_look ?_ ?_ ?_
    · decide +kernel
    · decide +kernel
    · exact road
  all_goals decide +kernel
theorem looks2 : looksOpen PySem.Challenge.rw_og0089_01.row.toRowW.prog = true := looks
set_option maxHeartbeats 0 in
theorem said : PySem.Challenge.rw_og0089_01.wellSaid = true := by
  unfold OpenLaw.wellSaid OpenRow.wellSaid OpenRow.partSaid
  repeat' (with_reducible apply look_both)
  all_goals first
    | with_reducible exact looks2
    | decide +kernel
end Mine
namespace Mine
section
local macro_rules | `(tactic| refine PySem.W.holds_open $_*) => do
  let (a, b, c) := (Lean.mkIdent `hl, Lean.mkIdent `hw, Lean.mkIdent `hc)
  `(tactic| refine @holds_open PySem.Challenge.rw_og0089_01.row view loose XtV (XL view []) _ (Hook.obs HV) (Hook.val HV) (Hook.says HV) _ _ 5110 ?$a (Hook.of HV) (Hook.keeps HV) (fun s e => xl_of s (Bool.and_eq_true_iff.mp e).1) XL.keeps (by rfl) (by rfl) (by rfl) (fun s e => recFacts_of (Bool.and_eq_true_iff.mp e).2) (by rfl) (by assumption) (by decide +kernel) ⟨rfl, rfl, rfl, rfl, rfl, by decide +kernel⟩ ?$b ?$c)
set_option Elab.async true
set_option maxHeartbeats 8000000
theorem holds.tw2999367486015432354 : True := trivial
theorem holds.tw5791938023122869331 : True := trivial
theorem holds.tw11021402016762074336 : True := trivial
theorem holds.tw4381346726385406224 : True := trivial
theorem holds.tw10981351503976158137 : True := trivial
theorem holds.tw5635654813233479639 : True := trivial
theorem holds.tw9766128667603022514 : True := trivial
theorem holds.tw13416111870119765123 : True := trivial
theorem holds.tw4583756282420477746 : True := trivial
theorem holds.tw5471403574791894133 : True := trivial
theorem holds.tw10009309266167291388 : True := trivial
theorem holds.tw1092734292537931370 : True := trivial
theorem holds.tw16049930973857864354 : True := trivial
theorem holds.tw11450275943994455990 : True := trivial
theorem holds.tw14062913937729191461 : True := trivial
theorem holds.tw2156681307112010326 : True := trivial
theorem holds.tw14947864908287233490 : True := trivial
theorem holds.tw5082999880386992228 : True := trivial
theorem holds.tw5619803957841784048 : True := trivial
theorem holds.tw5857794014393010482 : True := trivial
theorem holds.tw14432740918813763817 : True := trivial
theorem holds.tw18173914834931495973 : True := trivial
theorem holds.tw12056596633878991817 : True := trivial
theorem holds.tw10240100896771907615 : True := trivial
theorem holds.tw5323918697378788693 : True := trivial
theorem holds.tw17856180979147524769 : True := trivial
theorem holds.tw10953125311028157021 : True := trivial
theorem holds.tw16569799976186059295 : True := trivial
theorem holds.tw8944343764007091065 : True := trivial
theorem holds.tw759334954848157859 : True := trivial
theorem holds.tw14533596452844920548 : True := trivial
theorem holds.tw10280545108713110612 : True := trivial
theorem holds.tw9408521175777228426 : True := trivial
theorem holds.tw3579776383272448420 : True := trivial
theorem holds.tw2697976716319701033 : True := trivial
theorem holds.tw9518972631687950247 : True := trivial
theorem holds.tw9245723823536211039 : True := trivial
theorem holds.tw12629177860411813126 : True := trivial
theorem holds.tw12788872388335264594 : True := trivial
theorem holds.tw8239031253751857358 : True := trivial
theorem holds.tw16179787414501680475 : True := trivial
theorem holds.tw2084331650109322480 : True := trivial
theorem holds.tw12528141070781557109 : True := trivial
theorem holds.tw17094759248423572775 : True := trivial
theorem holds.tw3093010850272755244 : True := trivial
theorem holds.tw16260029586006496120 : True := trivial
theorem holds.tw14404905868111484630 : True := trivial
theorem holds.tw12337024466821633839 : True := trivial
theorem holds.tw9569093901706499007 : True := trivial
theorem holds.tw8801499457356032720 : True := trivial
theorem holds.tw5531990279233569197 : True := trivial
theorem holds.tw14977296931134136204 : True := trivial
theorem holds.tw11566098377363298415 : True := trivial
theorem holds.tw3083665863380995925 : True := trivial
theorem holds.tw12553914923479104506 : True := trivial
theorem holds.tw3381435865837020940 : True := trivial
theorem holds.tw10645105620128953169 : True := trivial
theorem holds.tw10817008591213730988 : True := trivial
theorem holds.tw2859639342388718247 : True := trivial
theorem holds.tw4876135695594978501 : True := trivial
theorem holds.tw18224010420261798391 : True := trivial
theorem holds.tw5932082505621288647 : True := trivial
theorem holds.tw8260078842695283502 : True := trivial
theorem holds.tw6166532556598395850 : True := trivial
theorem holds.tw15750308709622187472 : True := trivial
theorem holds.tw15216533652830951187 : True := trivial
theorem holds.tw14758506691493655192 : True := trivial
theorem holds.tw15464432741802594518 : True := trivial
theorem holds.tw9866653766423218390 : True := trivial
theorem holds.tw3626213265524300766 : True := trivial
theorem holds.tw8163853742193369449 : True := trivial
theorem holds.tw4043779546988386903 : True := trivial
theorem holds.tw5747684920607356772 : True := trivial
theorem holds.tw2422663375537807432 : True := trivial
theorem holds.tw8575535491628544125 : True := trivial
theorem holds.tw15296638952792297585 : True := trivial
theorem holds.tw5031978486770369989 : True := trivial
theorem holds.tw5252246860307943348 : True := trivial
theorem holds.tw1569810199879761147 : True := trivial
theorem holds.tw8903297777125119442 : True := trivial
theorem holds.tw13758948915013449397 : True := trivial
theorem holds.tw4532548537324856634 : True := trivial
theorem holds.tw16239030619513480838 : True := trivial
theorem holds.tw12004703523718567385 : True := trivial
theorem holds.tw7400771686186127474 : True := trivial
theorem holds.tw15573729904360925794 : True := trivial
theorem holds.tw14341210406198164329 : True := trivial
theorem holds.tw11750193621415288269 : True := trivial
theorem holds.tw9140063382869304120 : True := trivial
theorem holds.tw3081346186701454755 : True := trivial
theorem holds.tw6307330118970589470 : True := trivial
theorem holds.tw12197886580098802412 : True := trivial
theorem holds.tw6674158366018852832 : True := trivial
theorem holds.tw8070350036930755802 : True := trivial
theorem holds.tw4381757428849502282 : True := trivial
theorem holds.tw8571184235532366510 : True := trivial
theorem holds.tw1876284267304334591 : True := trivial
theorem holds.tw16034146489351607153 : True := trivial
theorem holds.tw17591727778206626035 : True := trivial
theorem holds.tw15785218014132313688 : True := trivial
theorem holds.tw4624323801304008105 : True := trivial
theorem holds.tw7386276620348827510 : True := trivial
theorem holds.tw18280242975402648179 : True := trivial
theorem holds.tw151567797773009622 : True := trivial
theorem holds.tw8087799500789234286 : True := trivial
theorem holds.tw12473093590975522102 : True := trivial
theorem holds.tw3279077582325829838 : True := trivial
theorem holds.tw3232270311777372273 : True := trivial
theorem holds.tw15043986215568586124 : True := trivial
theorem holds.tw2335221107431800076 : True := trivial
theorem holds.tw15659084048362614264 : True := trivial
theorem holds.tw15421342739227911939 : True := trivial
theorem holds.tw4905061745869718969 : True := trivial
theorem holds.tw8544898525704183065 : True := trivial
theorem holds.tw8684541073956307770 : True := trivial
theorem holds.tw7580357766596436714 : True := trivial
theorem holds.tw1382383790286775375 : True := trivial
theorem holds.tw6817751937963910627 : True := trivial
theorem holds.tw15462992800728643659 : True := trivial
theorem holds.tw10894570999934473159 : True := trivial
theorem holds.tw4021013208564600997 : True := trivial
theorem holds.tw8324913547053779211 : True := trivial
theorem holds.tw8551410553514715252 : True := trivial
theorem holds.tw3210078786618844196 : True := trivial
theorem holds.tw14247145606103189434 : True := trivial
theorem holds.tw1806510154697437235 : True := trivial
theorem holds.tw17802202589639625741 : True := trivial
theorem holds.tw9838259718981141350 : True := trivial
theorem holds.tw10876536743886354276 : True := trivial
theorem holds.tw9160814584890018001 : True := trivial
theorem holds.tw8451429660923938374 : True := trivial
theorem holds.tw2972900019843275892 : True := trivial
theorem holds.tw17647985033660283594 : True := trivial
theorem holds.tw16055282646502057757 : True := trivial
theorem holds.tw15580662879708500073 : True := trivial
theorem holds.tw1446027475299390936 : True := trivial
theorem holds.tw15493915963290111440 : True := trivial
theorem holds.tw945861476033566700 : True := trivial
theorem holds.tw187104208977503339 : True := trivial
theorem holds.tw16307742377514257941 : True := trivial
theorem holds.tw576298715544257586 : True := trivial
theorem holds.tw3589964763223657672 : True := trivial
theorem holds.tw10494946348260405530 : True := trivial
theorem holds.tw8218819101457601776 : True := trivial
theorem holds.tw4137054072099604216 : True := trivial
theorem holds.tw15969937429085165904 : True := trivial
theorem holds.tw14777700561071354170 : True := trivial
theorem holds.tw1466284255255076664 : True := trivial
theorem holds.tw12698916279152862973 : True := trivial
theorem holds.tw4197124852483764760 : True := trivial
theorem holds.tw16725066886706607050 : True := trivial
theorem holds.tw14205006904943715905 : True := trivial
theorem holds.tw13945929957867325323 : True := trivial
theorem holds.tw10853043219271619230 : True := trivial
theorem holds.tw10576265454180977796 : True := trivial
theorem holds.tw4998001990490953706 : True := trivial
theorem holds.tw4949047195023096438 : True := trivial
theorem holds.tw13980644296350529377 : True := trivial
theorem holds.tw10828986214106111531 : True := trivial
theorem holds.tw7942442253511216057 : True := trivial
theorem holds.tw7798976556582896058 : True := trivial
theorem holds.tw7129523546110730894 : True := trivial
theorem holds.tw6896159741398044905 : True := trivial
theorem holds.tw3864012138097595758 : True := trivial
theorem holds.tw244668840739839672 : True := trivial
theorem holds.tw11619669790576578751 : True := trivial
theorem holds.tw11210861575573996130 : True := trivial
theorem holds.tw9647410926604887880 : True := trivial
theorem holds.tw303617358959260456 : True := trivial
theorem holds.tw12808162357026388105 : True := trivial
theorem holds.tw4422276619278600727 : True := trivial
theorem holds.tw17450472940649059298 : True := trivial
theorem holds.tw8323465864499181419 : True := trivial
theorem holds.tw14083834280242248106 : True := trivial
theorem holds.tw9458989268892848673 : True := trivial
theorem holds.tw2207817973478938216 : True := trivial
theorem holds.tw15356600547250028879 : True := trivial
theorem holds.tw2490583276235294983 : True := trivial
theorem holds.tw12467034654032377186 : True := trivial
theorem holds.tw8868445881999480663 : True := trivial
theorem holds.tw14003321668765796800 : True := trivial
theorem holds.tw12633084752571091873 : True := trivial
theorem holds.tw9558947954444422064 : True := trivial
theorem holds.tw4485590747672999114 : True := trivial
theorem holds.tw2661161477798328453 : True := trivial
theorem holds.tw5763553328388235881 : True := trivial
theorem holds.tw17822619038779606285 : True := trivial
theorem holds.tw14054693376921006050 : True := trivial
theorem holds.tw9638990691586225099 : True := trivial
theorem holds.tw7873036012977236159 : True := trivial
theorem holds.tw18145382148040430673 : True := trivial
theorem holds.tw14965632525203468049 : True := trivial
theorem holds.tw12762722769849151566 : True := trivial
theorem holds.tw2296293446034493066 : True := trivial
theorem holds.tw12135579543755162760 : True := trivial
theorem holds.tw9816476011544392670 : True := trivial
theorem holds.tw960582308587345451 : True := trivial
theorem holds.tw10677865647760817919 : True := trivial
theorem holds.tw6159885450047824267 : True := trivial
theorem holds.tw8778671856527934898 : True := trivial
theorem holds.tw15814798929938293467 : True := trivial
theorem holds.tw13860560629476652642 : True := trivial
theorem holds.tw10859938921441162988 : True := trivial
theorem holds.tw2682973687022302978 : True := trivial
theorem holds.tw3378624336152846145 : True := trivial
theorem holds.tw17549760099613038055 : True := trivial
theorem holds.tw4921510776622977656 : True := trivial
theorem holds.tw17631178891982236634 : True := trivial
theorem holds.tw15827797367808243584 : True := trivial
theorem holds.tw820627826665183454 : True := trivial
theorem holds.tw6489310206099298910 : True := trivial
theorem holds.tw5599412692616142259 : True := trivial
theorem holds.tw16461013251600362008 : True := trivial
theorem holds.tw14954761832788094973 : True := trivial
theorem holds.tw13222035019132090745 : True := trivial
theorem holds.tw8102643725754146565 : True := trivial
theorem holds.tw9441326970708011783 : True := trivial
theorem holds.tw9260842090827677427 : True := trivial
theorem holds.tw4065146272016792997 : True := trivial
theorem holds.tw15203487316939043196 : True := trivial
theorem holds.tw9855210162650666830 : True := trivial
theorem holds.tw7145057240379410032 : True := trivial
theorem holds.tw6816380694822836728 : True := trivial
theorem holds.tw4954732016240277505 : True := trivial
theorem holds.tw16887932952891968693 : True := trivial
theorem holds.tw15326264675407861456 : True := trivial
theorem holds.tw14438757958421221462 : True := trivial
theorem holds.tw14085268106739128817 : True := trivial
theorem holds.tw13563289320671947111 : True := trivial
theorem holds.tw13306226422529918579 : True := trivial
theorem holds.tw9327718836232418737 : True := trivial
theorem holds.tw12540800736699631050 : True := trivial
theorem holds.tw11413208387583891290 : True := trivial
theorem holds.tw10684964147190113176 : True := trivial
theorem holds.tw10447927361281507451 : True := trivial
theorem holds.tw13373784697917265674 : True := trivial
theorem holds.tw12354433232887552844 : True := trivial
theorem holds.tw11822188140940861840 : True := trivial
theorem holds.tw7442186320969616419 : True := trivial
theorem holds.tw4077311611012620791 : True := trivial
theorem holds.tw15566814792845459997 : True := trivial
theorem holds.tw8253004272172430988 : True := trivial
theorem holds.tw3529921767576855348 : True := trivial
theorem holds.tw2003794701753356343 : True := trivial
theorem holds.tw10595842591828190984 : True := trivial
theorem holds.tw16532224993992427823 : True := trivial
theorem holds.tw14064534554856164141 : True := trivial
theorem holds.tw13356387430892511905 : True := trivial
theorem holds.tw12563481999192008768 : True := trivial
theorem holds.tw16035096773351161327 : True := trivial
theorem holds.tw10274680400919065884 : True := trivial
theorem holds.tw7258431392514884226 : True := trivial
theorem holds.tw17533166617710000329 : True := trivial
theorem holds.tw9930548314228155742 : True := trivial
theorem holds.tw8006095370074002437 : True := trivial
theorem holds.tw1692041494862269998 : True := trivial
theorem holds.tw14387954076880322906 : True := trivial
theorem holds.tw13108245259352980691 : True := trivial
theorem holds.tw2451063411067222376 : True := trivial
theorem holds.tw11147610243538415374 : True := trivial
theorem holds.tw5846433953695962338 : True := trivial
theorem holds.tw13926404443759844560 : True := trivial
theorem holds.tw8868040359437915812 : True := trivial
theorem holds.tw6814298959634865110 : True := trivial
theorem holds.tw5959074840488112208 : True := trivial
theorem holds.tw4374827463496512255 : True := trivial
theorem holds.tw14411328915609312922 : True := trivial
theorem holds.tw13370180491053348 : True := trivial
theorem holds.tw13334661261001831826 : True := trivial
theorem holds.tw13130249910395747862 : True := trivial
theorem holds.tw11111472982789046935 : True := trivial
theorem holds.tw10705619171732726748 : True := trivial
theorem holds.tw5498966250228494579 : True := trivial
theorem holds.tw5078402968320093544 : True := trivial
theorem holds.tw15228004617427520810 : True := trivial
theorem holds.tw7365562674294520451 : True := trivial
theorem holds.tw5112738896828158680 : True := trivial
theorem holds.tw14691085348537605332 : True := trivial
theorem holds.tw13672525897604787429 : True := trivial
theorem holds.tw13150661809386230508 : True := trivial
theorem holds.tw11612728935029869629 : True := trivial
theorem holds.tw298297018594106725 : True := trivial
theorem holds.tw2277698456845511444 : True := trivial
theorem holds.tw2160012875989923789 : True := trivial
theorem holds.tw1639197193820686003 : True := trivial
theorem holds.tw12542415522573167287 : True := trivial
theorem holds.tw13702956955421727492 : True := trivial
theorem holds.tw2925613047288587165 : True := trivial
theorem holds.tw17148229171239856432 : True := trivial
theorem holds.tw15411162144904376069 : True := trivial
theorem holds.tw7944191787301449481 : True := trivial
theorem holds.tw6545324650690627985 : True := trivial
theorem holds.tw5274829272982666545 : True := trivial
theorem holds.tw4717937361131159733 : True := trivial
theorem holds.tw341249449185904685 : True := trivial
theorem holds.tw1552857426587298226 : True := trivial
theorem holds.tw142377125942736700 : True := trivial
theorem holds.tw12632932662738783937 : True := trivial
theorem holds.tw12160635655254385198 : True := trivial
theorem holds.tw4132201380793018340 : True := trivial
theorem holds.tw7516632072315021061 : True := trivial
theorem holds.tw6735552807121987811 : True := trivial
theorem holds.tw1086655338775486843 : True := trivial
theorem holds.tw9143120035062812437 : True := trivial
theorem holds.tw16281141667863336784 : True := trivial
theorem holds.tw12941468149822085856 : True := trivial
theorem holds.tw10675174832548182787 : True := trivial
theorem holds.tw10061326939861387809 : True := trivial
theorem holds.tw9784731065822230439 : True := trivial
theorem holds.tw9430090754398894584 : True := trivial
theorem holds.tw9370115536473471133 : True := trivial
theorem holds.tw9321796208036801940 : True := trivial
theorem holds.tw9284948610034456067 : True := trivial
theorem holds.tw9250495785965993271 : True := trivial
theorem holds.tw9188266559522036927 : True := trivial
theorem holds.tw9160933379109621080 : True := trivial
theorem holds.tw8827755016177155863 : True := trivial
theorem holds.tw8459412815380089504 : True := trivial
theorem holds.tw8413133151647880539 : True := trivial
theorem holds.tw8105830805119860317 : True := trivial
theorem holds.tw7923702915469573346 : True := trivial
theorem holds.tw7885888744534978006 : True := trivial
theorem holds.tw7366336091430424897 : True := trivial
theorem holds.tw7350330377624401328 : True := trivial
theorem holds.tw7122917452565745793 : True := trivial
theorem holds.tw707885073954110949 : True := trivial
theorem holds.tw6654929391614583909 : True := trivial
theorem holds.tw6606875086121380550 : True := trivial
theorem holds.tw6330134614895140133 : True := trivial
theorem holds.tw6278366128872770721 : True := trivial
theorem holds.tw5915465848944024539 : True := trivial
theorem holds.tw5878047611234877577 : True := trivial
theorem holds.tw5588498093969417903 : True := trivial
theorem holds.tw5295917329084666069 : True := trivial
theorem holds.tw5282283922864298156 : True := trivial
theorem holds.tw5099458221760260784 : True := trivial
theorem holds.tw5015485144833937494 : True := trivial
theorem holds.tw4952593789767209597 : True := trivial
theorem holds.tw4796666493748621973 : True := trivial
theorem holds.tw4772410448533662562 : True := trivial
theorem holds.tw4702539438339769474 : True := trivial
theorem holds.tw4480811336153992742 : True := trivial
theorem holds.tw4475622257904601326 : True := trivial
theorem holds.tw4399152324972305773 : True := trivial
theorem holds.tw4046193847619289583 : True := trivial
theorem holds.tw3969078344035082030 : True := trivial
theorem holds.tw3937267528351423324 : True := trivial
theorem holds.tw3339025504875072537 : True := trivial
theorem holds.tw3117193011312037209 : True := trivial
theorem holds.tw3101148707280403237 : True := trivial
theorem holds.tw2946744036017948005 : True := trivial
theorem holds.tw2929439407932294337 : True := trivial
theorem holds.tw2781561513384061212 : True := trivial
theorem holds.tw2667925813562934949 : True := trivial
theorem holds.tw1986877004247180340 : True := trivial
theorem holds.tw1974762919298152056 : True := trivial
theorem holds.tw1882270145967814011 : True := trivial
theorem holds.tw185807328385624810 : True := trivial
theorem holds.tw1833173380454153921 : True := trivial
theorem holds.tw18292032506088726422 : True := trivial
theorem holds.tw17858152450515298520 : True := trivial
theorem holds.tw17779774989671706653 : True := trivial
theorem holds.tw17642598502550569490 : True := trivial
theorem holds.tw17597196502641442581 : True := trivial
theorem holds.tw17500814259130102135 : True := trivial
theorem holds.tw17294395744611713098 : True := trivial
theorem holds.tw17180457848445815676 : True := trivial
theorem holds.tw17087466662150396210 : True := trivial
theorem holds.tw16939745714101447976 : True := trivial
theorem holds.tw16878984735049331645 : True := trivial
theorem holds.tw1672651397029140864 : True := trivial
theorem holds.tw16568243084613897719 : True := trivial
theorem holds.tw16497969686579978388 : True := trivial
theorem holds.tw16315053957116525436 : True := trivial
theorem holds.tw16141144775947785660 : True := trivial
theorem holds.tw16092805596483526096 : True := trivial
theorem holds.tw15733542881966949079 : True := trivial
theorem holds.tw15663057623668237757 : True := trivial
theorem holds.tw154871700347349385 : True := trivial
theorem holds.tw15402825562841796884 : True := trivial
theorem holds.tw15305512045591798990 : True := trivial
theorem holds.tw150268843892594924 : True := trivial
theorem holds.tw14856189802965030758 : True := trivial
theorem holds.tw14786868411472786527 : True := trivial
theorem holds.tw14786066558164337950 : True := trivial
theorem holds.tw14642846902033847964 : True := trivial
theorem holds.tw14394845925615563878 : True := trivial
theorem holds.tw1438057683635843531 : True := trivial
theorem holds.tw14149781006570564392 : True := trivial
theorem holds.tw14012497318314112844 : True := trivial
theorem holds.tw1389151227800987198 : True := trivial
theorem holds.tw13852269592442650856 : True := trivial
theorem holds.tw13651502964188933756 : True := trivial
theorem holds.tw1357463484097335404 : True := trivial
theorem holds.tw13564983018704479910 : True := trivial
theorem holds.tw13384883100587833847 : True := trivial
theorem holds.tw13341946137322399123 : True := trivial
theorem holds.tw13281364814482169325 : True := trivial
theorem holds.tw13208604148985916543 : True := trivial
theorem holds.tw1316056555746827224 : True := trivial
theorem holds.tw13002855754428957212 : True := trivial
theorem holds.tw12733908048491186811 : True := trivial
theorem holds.tw12657093848384798476 : True := trivial
theorem holds.tw12461706298059298081 : True := trivial
theorem holds.tw12306811582311103309 : True := trivial
theorem holds.tw12158838097934144204 : True := trivial
theorem holds.tw1213666046027356511 : True := trivial
theorem holds.tw12120267992661811481 : True := trivial
theorem holds.tw11723004889028688699 : True := trivial
theorem holds.tw11569915684508697678 : True := trivial
theorem holds.tw11362502574520024841 : True := trivial
theorem holds.tw11341941285841758863 : True := trivial
theorem holds.tw11319453509113102234 : True := trivial
theorem holds.tw1095465085569150570 : True := trivial
theorem holds.tw10824115321126796680 : True := trivial
theorem holds.tw10726778698580467152 : True := trivial
theorem holds.tw10698829266838348154 : True := trivial
theorem holds.tw10531532615022067580 : True := trivial
theorem holds.tw10520202591518659360 : True := trivial
theorem holds.tw1032644102275906610 : True := trivial
theorem holds.tw15004777664458750778 : True := trivial
theorem holds.tw7763344658700670257 : True := trivial
theorem holds.tw3670351161055659297 : True := trivial
theorem holds.tw17893526652203389834 : True := trivial
theorem holds.tw11742658214675903120 : True := trivial
theorem holds.tw7370308895400197790 : True := trivial
theorem holds.tw8270278653016635061 : True := trivial
theorem holds.tw11757145585665559448 : True := trivial
theorem holds.tw11494791960118129380 : True := trivial
theorem holds.tw3096042556717091049 : True := trivial
theorem holds.tw11956711915636137400 : True := trivial
theorem holds.tw11971922278079979827 : True := trivial
theorem holds.tw8145764620000357539 : True := trivial
theorem holds.tw11734026912317775079 : True := trivial
theorem holds.tw11493643416074753605 : True := trivial
theorem holds.tw7174038241597521435 : True := trivial
theorem holds.tw3530135242861716626 : True := trivial
theorem holds.tw13173306291159398833 : True := trivial
theorem holds.tw15976165524378199686 : True := trivial
theorem holds.tw15068483726869450994 : True := trivial
theorem holds : PySem.Challenge.rw_og0089_01.Holds := by
  w_on
  refine holds_law Mine.said fun said => ?_
  o_head (kHook frag.heap_1 KAs keysOf)
  (case hw => w_witness2)
  exact walk _ _ rfl
end
end Mine
end
theorem PySem.Challenge.cw_og0089_01_holds : PySem.Challenge.rw_og0089_01.Holds := by
  exact Mine.holds
