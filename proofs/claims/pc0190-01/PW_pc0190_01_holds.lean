import PyProof.Rows.All
import Wide.All
import OpenK.AllK
import Wide.FinOn
import Lean
import PySem.Challenge.RW_pc0190_01
open PySem PySem.W PyProof.Rows
set_option Elab.async false
set_option maxRecDepth 100000
set_option maxHeartbeats 8000000
set_option rowWalk.seconds 0
namespace Mine
-- the kit's head with the top checked in two theorems (one a value of the row that the world is asked), not in pieces: 3 MB of compiled file for 20 MB, the lid being 32 MiB
def pick : List Bool → List Stmt → List Stmt
  | true :: bs, a :: l => a :: pick bs l
  | false :: bs, _ :: l => pick bs l
  | _, l => l
def hd.view_39 : Program := { (PySem.Challenge.rw_pc0190_01.row.prog) with main := { (PySem.Challenge.rw_pc0190_01.row.prog).main with body := pick [false, true, true, false, true, true, true, true, true, false, true, true, true, true, true, true, true, true, true, true, true, true, true, true, true, false] (PySem.Challenge.rw_pc0190_01.row.prog).main.body } }
theorem head_both {A B C : Prop} (f : A → B → C) (h : A ∧ B) : C := f h.1 h.2
section
set_option hygiene false in
local macro_rules | `(tactic| o_head $H) => `(tactic| (
  refine head_both (fun hl9 hc9 => holds_open (q := hd.view_39) (loose := [Str.ofString "RowsError", Str.ofString "WIDTHS"]) (Xt := fun s => xlAt hd.view_39 [] s && recOk (RowW.records (OpenRow.toRowW PySem.Challenge.rw_pc0190_01.row)) s) (XP := XL hd.view_39 []) (Yf := Hook.obs $H) (Ya := Hook.val $H) (YP := Hook.says $H) (N := 3112)
    hl9 (Hook.of $H) (Hook.keeps $H) (fun s e => xl_of s (Bool.and_eq_true_iff.mp e).1) XL.keeps (by rfl) (by rfl) (by rfl) (fun s e => recFacts_of (Bool.and_eq_true_iff.mp e).2) (by rfl) ?hs (by decide +kernel) ⟨rfl, rfl, rfl, rfl, rfl, by decide +kernel⟩ ?hw hc9) ?hc
  (case hs => assumption)))
open_top hd for PySem.Challenge.rw_pc0190_01
end
abbrev kAs : List Nat := [2, 3, 15, 22, 23, 25, 26, 28, 29, 30, 31, 32, 33, 36, 43, 45, 46, 48, 49, 50, 51, 52, 55, 57, 58, 60, 61, 62,
          64, 65, 67, 68, 69, 71, 72, 74, 75, 76, 78, 79, 81, 82, 83, 85, 86, 88, 89, 90, 91, 93, 94, 96, 97, 98, 100,
          101, 103, 104, 105, 107, 108, 110, 111, 112, 114, 115, 117, 118, 119, 121, 122, 124, 125, 126, 128, 129, 131,
          132, 133, 135, 136, 138, 139, 140, 142, 143, 145, 146, 147, 149, 150, 152, 153, 154, 156, 157, 159, 160, 161,
          163, 164, 166, 167, 168, 170, 171, 173, 174, 175, 177, 178, 180, 181, 182, 184, 185, 187, 188, 189, 191, 192,
          194, 195, 196, 198, 199, 201, 202, 203, 205, 206, 208, 209, 210, 212, 213, 215, 216, 217, 220, 221, 222, 224,
          225, 227, 228, 229, 231, 232, 234, 235, 236, 239, 240]
noncomputable abbrev kH := kHook hd.heap_39 kAs (fun _ => by kernel_rfl)
abbrev leftAt (w : World) : Prop := (openEnds PySem.treeTable PySem.Challenge.rw_pc0190_01.row.prog w 3112).map (fun s => (openSeen hd.view_39 [Str.ofString "RowsError", Str.ofString "WIDTHS"] (importedModules PySem.Challenge.rw_pc0190_01.row.prog.main.body) (fun s => xlAt hd.view_39 [] s && recOk (RowW.records (OpenRow.toRowW PySem.Challenge.rw_pc0190_01.row)) s) true s, kH.obs s)) = some (openGood hd.view_39 [Str.ofString "RowsError", Str.ofString "WIDTHS"], kH.val w)
theorem left_f (w : World) : leftAt (w.withFollow "special-get-raises" false) := by
  unfold leftAt
  kernel_rfl
theorem left_t (w : World) : leftAt (w.withFollow "special-get-raises" true) := by
  unfold leftAt
  kernel_rfl
theorem left : LeftO PySem.Challenge.rw_pc0190_01.row.prog hd.view_39 [Str.ofString "RowsError", Str.ofString "WIDTHS"] (fun s => xlAt hd.view_39 [] s && recOk (RowW.records (OpenRow.toRowW PySem.Challenge.rw_pc0190_01.row)) s) kH.obs kH.val 3112 :=
  byRow2 "special-get-raises" (P := leftAt) left_f left_t
def PRet (h₀ : Heap) (L : Addr) (m : Str → Option Value) (news : List (Addr × Obj)) (s : Shared) (Q : Value → Shared → Prop) (R : Value → Prop) : Prop :=
  ∀ v h' tk', R v → Fr h₀ L h' m → News h₀ L h' news → Q v { s with heap := h', toks := tk' }

def PCl (w : World) (mean : ExcName → Option Value) (mg mb : Str → Option Value) (f : Addr) (d : Nat) (vs : List Value) (R : Value → Prop) : Prop :=
  ∀ (news : List (Addr × Obj)) (dp un : Nat) (gd : Option (List Code)) (cn : Str) (cs : Scope) (a : Addr) (ccd : Value) (cl : List (Str × Addr)) (outer : List Env) (A₀ : Around) (base h₀ : Heap) (L : Addr) (m : Str → Option Value) (s : Shared) (Q E : Value → Shared → Prop),
    Below A₀ base outer h₀ → Fr h₀ L s.heap m → (hd.heap_39 w.params).In h₀ → News h₀ L s.heap news →
    Top hd.view_39 (looseW hd.view_39 [Str.ofString "RowsError", Str.ofString "WIDTHS"]) mean mg mb h₀ → cs.kind = .function → dp + d < recursionLimit → un + 8 * d < cLine →
    PRet h₀ L m news s Q R →
    wpAny (model PySem.Challenge.rw_pc0190_01.row.prog w) (ktrTop dp un gd cn cs L a ccd cl outer) (call (.ref f) vs) Q E s

section
variable {w : World} {mean : ExcName → Option Value} {mg mb : Str → Option Value} {f : Addr} {d : Nat} {vs : List Value} {R : Value → Prop}
 {news : List (Addr × Obj)} {dp un : Nat} {gd : Option (List Code)} {cn : Str} {cs : Scope} {a : Addr} {ccd : Value} {cl : List (Str × Addr)} {outer : List Env} {A₀ : Around} {base h₀ : Heap} {L : Addr} {m : Str → Option Value} {s : Shared} {Q E : Value → Shared → Prop}
theorem PCl.use (C : PCl w mean mg mb f d vs R) (B : Below A₀ base outer h₀) (F : Fr h₀ L s.heap m) (X : (hd.heap_39 w.params).In h₀) (N : News h₀ L s.heap news)
    (T : Top hd.view_39 (looseW hd.view_39 [Str.ofString "RowsError", Str.ofString "WIDTHS"]) mean mg mb h₀) (hk : cs.kind = .function) (hd : dp + d < recursionLimit) (hu : un + 8 * d < cLine)
    (h : ∀ v h' tk', R v → Fr h₀ L h' m → News h₀ L h' news → Q v { s with heap := h', toks := tk' }) :
    wpAny (model PySem.Challenge.rw_pc0190_01.row.prog w) (ktrTop dp un gd cn cs L a ccd cl outer) (call (.ref f) vs) Q E s := C _ _ _ _ _ _ _ _ _ _ _ _ _ _ _ _ _ _ B F X N T hk hd hu h
theorem PCl.out {R : Value → Prop} {v : Value} {s : Shared} {h' : Heap} {tk' : Nat} {Q : Value → Shared → Prop} {news' : List (Addr × Obj)} (hret : PRet h₀ L m news s Q R)
   (hR : R v) (F : Fr h₀ L h' m) (N : News h₀ L h' news') (hs : ∀ p ∈ news, p ∈ news') : Q v { s with heap := h', toks := tk' } := hret v h' tk' hR F (cb_drop N hs)
end

inductive Kind where
  | i8 | u8 | i16 | u16 | i32 | u32 | i64 | u64
def Kind.name : Kind → Str
  | .i8 => Str.ofString "Int8"
  | .u8 => Str.ofString "UInt8"
  | .i16 => Str.ofString "Int16"
  | .u16 => Str.ofString "UInt16"
  | .i32 => Str.ofString "Int32"
  | .u32 => Str.ofString "UInt32"
  | .i64 => Str.ofString "Int64"
  | .u64 => Str.ofString "UInt64"
def Kind.sgn : Kind → Bool
  | .i8 | .i16 | .i32 | .i64 => true
  | _ => false
def Kind.lo : Kind → Int
  | .i8 => -128
  | .i16 => -32768
  | .i32 => -2147483648
  | .i64 => -9223372036854775808
  | _ => 0
def Kind.hi : Kind → Int
  | .i8 => 127
  | .u8 => 255
  | .i16 => 32767
  | .u16 => 65535
  | .i32 => 2147483647
  | .u32 => 4294967295
  | .i64 => 9223372036854775807
  | .u64 => 18446744073709551615


theorem noPy {a b : Int} (h : b.natAbs < 73786976294838206464) : PySem.Builtin.divisionGoesByPylong a b = false := by
  refine PyProof.noPylong_of_log2 ?_
  by_cases h0 : b.natAbs = 0
  · rw [h0]; decide +kernel
  · have h66 : b.natAbs.log2 < 66 := (Nat.log2_lt h0).mpr h
    omega
-- the helpers' keys
local macro_rules | `(tactic| walk_at "pcl") => `(tactic| (unfold PCl; k_fill; intros))
local macro_rules | `(tactic| walk_at "enter") => `(tactic| (refine wpAny_call ?_; k_dflt cell_enter))
local macro_rules | `(tactic| walk_at "fin") => `(tactic| first | (with_unfolding_all rfl) | exact ⟨_, rfl⟩ | ((try dsimp only [Kind.lo, Kind.hi, Kind.sgn]); first | exact ⟨_, rfl⟩ | rfl | (simp; done)) | (refine congrArg Value.bool ?_; rw [Bool.eq_iff_iff]; simp only [Bool.and_eq_true, Bool.or_eq_true, decide_eq_true_eq, Bool.not_eq_true', decide_eq_false_iff_not]; omega))
local macro_rules | `(tactic| walk_at "sub") => `(tactic| first | exact fun _ hp => hp | exact fun _ hp => List.Mem.tail _ hp | exact fun _ hp => List.Mem.tail _ (List.Mem.tail _ hp) | exact fun _ hp => List.Mem.tail _ (List.Mem.tail _ (List.Mem.tail _ hp)) | exact fun _ hp => List.Mem.tail _ (List.Mem.tail _ (List.Mem.tail _ (List.Mem.tail _ hp))) | (refine List.forall_mem_cons.mpr ⟨List.Mem.head _, ?_⟩; exact fun _ hp => List.Mem.tail _ (List.Mem.tail _ hp)) | kcj_all)
local macro_rules | `(tactic| walk_at "out") => `(tactic| (refine' PCl.out ?e0 ?e1 ?e2 ?e3 ?e4; (case e0 => assumption); (case e2 => k_asm); (case e3 => k_asm); (case e4 => walk_at "sub"); (case e1 => ((try dsimp only); walk_at "fin"))))
local macro_rules | `(tactic| walk_at "int goal") => `(tactic| first | omega | (split <;> omega) | (simp_all; done))
local macro_rules | `(tactic| walk_at "binaryOp FloorDiv int int") => `(tactic| (refine' floordiv_int ?hne ?_ (Or.inl (noPy ?hb)); (case hne => walk_at "int goal"); (case hb => walk_at "int goal")))
local macro_rules | `(tactic| walk_at "binaryOp Mod int int") => `(tactic| (refine' mod_int' ?hne ?_; (case hne => walk_at "int goal")))
local macro_rules | `(tactic| walk_at "call ref") => `(tactic| k_dflt (refine' PCl.use ?kC ?k1 ?k2 ?k3 ?k4 ?k5 ?kK ?kd ?ku ?_; (case k1 => k_asm); (case k2 => k_asm); (case k3 => k_asm); (case k4 => k_asm); (case k5 => k_asm); (case kC => walk_at "spec"); (case kK => first | exact rfl | assumption); (case kd => ktr_room); (case ku => ktr_units); intro v9 h9 tk9 hR9 F9 N9; (try dsimp only at hR9); (first | subst hR9 | (obtain ⟨t9, e9⟩ := hR9; subst e9) | (obtain ⟨x9, t9, e9, p9⟩ := hR9; subst e9) | skip); (try dsimp only); (try k_fold)))
section
section
theorem fdiv_nn {a b : Int} (ha : 0 ≤ a) (hb : 0 ≤ b) : a.fdiv b = a.tdiv b := by
  rw [Int.fdiv_eq_ediv_of_nonneg _ hb, Int.tdiv_eq_ediv_of_nonneg ha]
theorem cut_same {a b : Int} (h : (decide (a < 0) == decide (b < 0)) = true) : (if a < 0 then -a else a).fdiv (if b < 0 then -b else b) = a.tdiv b := by
  by_cases ha : a < 0 <;> by_cases hb : b < 0
  · rw [if_pos ha, if_pos hb, fdiv_nn (by omega) (by omega), Int.neg_tdiv, Int.tdiv_neg]; omega
  · simp [ha, hb] at h
  · simp [ha, hb] at h
  · rw [if_neg ha, if_neg hb]; exact fdiv_nn (by omega) (by omega)
theorem cut_diff {a b : Int} (h : (decide (a < 0) == decide (b < 0)) = false) : 0 - (if a < 0 then -a else a).fdiv (if b < 0 then -b else b) = a.tdiv b := by
  by_cases ha : a < 0 <;> by_cases hb : b < 0
  · simp [ha, hb] at h
  · rw [if_pos ha, if_neg hb, fdiv_nn (by omega) (by omega), Int.neg_tdiv]; omega
  · rw [if_neg ha, if_pos hb, fdiv_nn (by omega) (by omega), Int.tdiv_neg]; omega
  · simp [ha, hb] at h
end
end
section
section
open PySem.Calls Builtin Builtin.ObjectAttr
abbrev bmE : List Value := [.type "Exception", .type "BaseException", .type "object"]
abbrev excO (C t : Addr) (d : Option Addr) : Obj := { cls := .ref C, dict := d, data := .fields #[.ref t, .none, .none, .none, .bool false, .none] }
abbrev tupO (vs : List Value) : Obj := { cls := .type "tuple", data := .seq vs.toArray }

section
variable {M : Model} {A : Around} {E : Value → Shared → Prop} {h : Heap} {g : Array GenState} {d : Drawn} {t : Nat} {os : OsState}
variable {nm q : Str} {C D N : Addr} {bs : List Value} {hdct : Bool} {sn : List Str} {sub : List Value} {ab : Bool} {col : Option Bool} {dd : Option Addr} {k0 k1 k2 k3 k5 : Option Value}
theorem check_newX {rest : List Value} {Q : Unit → Shared → Prop} (hC : h.get? C = some (excClassObj nm q C N bs (.ref D :: bmE) hdct sn sub ab col dd k0 k1 k2 k3 k5 "Exception.__new__"))
    (hq : Q () ⟨h, g, d, t, os⟩) : wpAny M A (checkBuiltinCall "Exception.__new__" ⟨.ref C :: rest, []⟩) Q E ⟨h, g, d, t, os⟩ := by
  have F := PySem.F.excBase_Exception
  have hcont : (Value.ref C :: .ref D :: bmE).contains (.type "Exception") = true := by rw [List.contains_cons, List.contains_cons, F.hasB, Bool.or_true, Bool.or_true]
  have hstar := F.noStar
  simp only [checkBuiltinCall, F.newKind, F.newSplit, F.newRow]
  repeat (first | refine wpAny_loadPart_at hC ?_ | (refine wpAny_isSubtype_exc hC ?_; rw [hcont]) | refine wpAny_staticBase_exc hC ?_ | refine wpAny_madeBy_exc hC ?_ | simp only [bne_self_eq_false, Bool.false_eq_true, if_false] | wp_step)
  exact hq
end
section
variable {prog : Program} {w : World} {A : Around} {E : Value → Shared → Prop} {R : Result → Shared → Prop} {h : Heap} {g : Array GenState} {d : Drawn} {t : Nat} {os : OsState}
variable {nm q : Str} {C D N : Addr} {bs : List Value} {hdct : Bool} {sn : List Str} {sub : List Value} {ab : Bool} {col : Option Bool} {dd : Option Addr} {k0 k1 k2 k3 k5 : Option Value}
theorem newX {rest : List Value} (hC : h.get? C = some (excClassObj nm q C N bs (.ref D :: bmE) hdct sn sub ab col dd k0 k1 k2 k3 k5 "Exception.__new__"))
    (hq : R (.ok (.ret (.ref (h.objs.size + 1)))) ⟨(h.push (tupO rest)).push (excO C h.objs.size none), g, d, t, os⟩) (hrest : rest.length ≤ sizeLine := by size_fits) :
    codeAny (model prog w) A (.builtin "Exception.__new__" ⟨.ref C :: rest, []⟩) R ⟨h, g, d, t, os⟩ := by
  have F := PySem.F.excBase_Exception
  have hends := F.ends
  have hcB : (Value.ref C :: .ref D :: bmE).contains (.type "Exception") = true := by rw [List.contains_cons, List.contains_cons, F.hasB, Bool.or_true, Bool.or_true]
  have hcA : (Value.ref C :: .ref D :: bmE).contains (.type "AttributeError") = false := by rw [List.contains_cons, List.contains_cons, F.noAttr]; rfl
  have hcN : (Value.ref C :: .ref D :: bmE).contains (.type "NameError") = false := by rw [List.contains_cons, List.contains_cons, F.noName]; rfl
  refine codeAny_builtinAt F.entry ?_
  unfold Builtin.«BaseException.__new__»
  refine PySem.wpAt_bind ?_
  show PySem.wpAt _ _ _ (stack >>= _) _ _ _
  refine PySem.wpAt_bind (PySem.wpAt_stack fun p below => PySem.wpAt_of_wpAny ?_)
  wp_walk
  refine PySem.wpAt_of_wpAny ?_
  rw [F.owner]
  repeat (first | with_reducible refine wpAny_madeHere_exc F.canon hC ?_ | with_reducible refine wpAny_loadPart_at hC ?_ | (with_reducible refine wpAny_isSubtype_exc hC ?_; first | rw [hcB] | rw [hcA] | rw [hcN]) | wp_step)
  show R _ _
  rw [Heap.size_push]
  exact hq

theorem typeCallX {rest : List Value} {fI : Addr} {Q : Fin → Shared → Prop}
    (hC : h.get? C = some (excClassObj nm q C N bs (.ref D :: bmE) hdct sn sub ab col dd k0 k1 k2 k3 k5 "Exception.__new__"))
    (hi : Looks (model prog w) h (typeLookup (.ref C) "__init__") (some (.ref fI))) (hb : ∀ self, Looks (model prog w) h (bindSpecial (.ref fI) self) (.ref fI, [self]))
    (hq : wpAny (model prog w) A (call (.ref fI) (.ref (h.objs.size + 1) :: rest)) (fun r s' => r = .none ∧ Q (.done (.ret (.ref (h.objs.size + 1)))) s') E ⟨(h.push (tupO rest)).push (excO C h.objs.size none), g, d, t, os⟩) (hrest : rest.length ≤ sizeLine := by size_fits) :
    wpAny (model prog w) A (Builtin.«type.__call__» ⟨.ref C :: rest, []⟩) Q E ⟨h, g, d, t, os⟩ := by
  have F := PySem.F.excBase_Exception
  repeat (first | with_reducible refine wpAny_loadPart_at hC ?_ | with_reducible refine wpAny_madeBy_exc hC ?_ | wp_step)
  refine codeAny_call_builtin_code (Code.quiet_builtin _ F.quiet) (check_newX hC ?_)
  refine newX hC ?_ hrest
  show wpAny _ _ _ _ _ _
  have hC₁ := Heap.get?_push_of_some (excO C h.objs.size none) (Heap.get?_push_of_some (tupO rest) hC)
  have hget : ((h.push (tupO rest)).push (excO C h.objs.size none)).get? (h.objs.size + 1) = some (excO C h.objs.size none) := by heap_get
  have k : ∀ b o, h.get? b = some o → ((h.push (tupO rest)).push (excO C h.objs.size none)).get? b = some o := fun b o e => Heap.get?_push_of_some _ (Heap.get?_push_of_some _ e)
  have hcC : (Value.ref C :: .ref D :: bmE).contains (.ref C) = true := by simp
  unfold isInstance
  repeat (first | with_reducible refine wpAny_loadPart_at hget ?_ | (with_reducible refine wpAny_isSubtype_exc hC₁ ?_; rw [hcC]) | wp_step)
  show wpAny _ _ (typeLookup (.ref C) _) _ _ _
  refine (hi.keeps k).here ?_
  refine wpAny_holding (wpAny_bind ?_)
  refine ((hb _).keeps k).here ?_
  refine wpAny_bind (wpAny_mono hq (fun r s' hr => ?_) fun _ _ x => x)
  obtain ⟨rfl, hQ⟩ := hr
  wp_walk
  exact hQ

theorem callX {rest : List Value} {fI : Addr} {Q : Value → Shared → Prop}
    (hC : h.get? C = some (excClassObj nm q C N bs (.ref D :: bmE) hdct sn sub ab col dd k0 k1 k2 k3 k5 "Exception.__new__"))
    (hi : Looks (model prog w) h (typeLookup (.ref C) "__init__") (some (.ref fI))) (hb : ∀ self, Looks (model prog w) h (bindSpecial (.ref fI) self) (.ref fI, [self]))
    (hq : wpAny (model prog w) (A.under (.builtin "type.__call__" ⟨.ref C :: rest, []⟩)) (call (.ref fI) (.ref (h.objs.size + 1) :: rest)) (fun r s' => r = .none ∧ Q (.ref (h.objs.size + 1)) s') E ⟨(h.push (tupO rest)).push (excO C h.objs.size none), g, d, t, os⟩) (hrest : rest.length ≤ sizeLine := by size_fits) :
    wpAny (model prog w) A (call (.ref C) rest) Q E ⟨h, g, d, t, os⟩ := by
  have f1 := tc_lookup
  have f2 := tc_bind (.ref C)
  have hT : (⟨h, g, d, t, os⟩ : Shared).TypeIs (.ref C) "type" := ⟨_, hC, rfl⟩
  refine wpAny_call (codeAny_of_tree ?_)
  show wpAny _ _ (callAny (.ref C) _) _ _ _
  repeat (any_goals (first | assumption | with_reducible refine wpAny_loadPart_at hC ?_ | wp_step))
  refine ⟨rfl, ?_⟩
  exact codeAny_call_builtin_at (Code.quiet_builtin _ (by decide +kernel)) entry_typeCall (wpAny_check_type_call_sub hC (typeCallX (hrest := hrest) hC hi hb hq))
end
end
end
section
section
open PySem.Calls Builtin Builtin.ObjectAttr
def excMro : List Value → Bool
  | .ref _ :: r => excMro r
  | l => l == [.type "Exception", .type "BaseException", .type "object"]
theorem refuse_exc (self : Value) : ∀ {l : List Value}, excMro l = true → refuseLoop self "__setattr__" l = pure ()
  | .ref c :: r, e => by rw [refuseLoop_ref]; exact refuse_exc self (l := r) e
  | [], e => by cases e
  | .type a :: r, e => by rw [eq_of_beq (show (_ == _) = true from e)]; exact PySem.F.store_Exception.passes self
  | .none :: r, e => by have := eq_of_beq (show (_ == _) = true from e); cases this
  | .bool _ :: r, e => by have := eq_of_beq (show (_ == _) = true from e); cases this
  | .int _ _ :: r, e => by have := eq_of_beq (show (_ == _) = true from e); cases this
  | .float _ _ :: r, e => by have := eq_of_beq (show (_ == _) = true from e); cases this
  | .str _ _ :: r, e => by have := eq_of_beq (show (_ == _) = true from e); cases this
  | .bytes _ _ :: r, e => by have := eq_of_beq (show (_ == _) = true from e); cases this
  | .builtin _ :: r, e => by have := eq_of_beq (show (_ == _) = true from e); cases this
  | .ellipsis :: r, e => by have := eq_of_beq (show (_ == _) = true from e); cases this
  | .notImplemented :: r, e => by have := eq_of_beq (show (_ == _) = true from e); cases this
theorem exc_has : ∀ {l : List Value}, excMro l = true → l.contains (.type "object") = true
  | .ref c :: r, e => by rw [List.contains_cons, exc_has (l := r) e, Bool.or_true]
  | [], e => by cases e
  | .type a :: r, e => by rw [eq_of_beq (show (_ == _) = true from e)]; decide +kernel
  | .none :: r, e => by have := eq_of_beq (show (_ == _) = true from e); cases this
  | .bool _ :: r, e => by have := eq_of_beq (show (_ == _) = true from e); cases this
  | .int _ _ :: r, e => by have := eq_of_beq (show (_ == _) = true from e); cases this
  | .float _ _ :: r, e => by have := eq_of_beq (show (_ == _) = true from e); cases this
  | .str _ _ :: r, e => by have := eq_of_beq (show (_ == _) = true from e); cases this
  | .bytes _ _ :: r, e => by have := eq_of_beq (show (_ == _) = true from e); cases this
  | .builtin _ :: r, e => by have := eq_of_beq (show (_ == _) = true from e); cases this
  | .ellipsis :: r, e => by have := eq_of_beq (show (_ == _) = true from e); cases this
  | .notImplemented :: r, e => by have := eq_of_beq (show (_ == _) = true from e); cases this

section
variable {prog : Program} {w : World} {A : Around} {K : Frag} {C x : Addr} {s : Shared} {h₀ : Heap} {L : Addr} {m : Str → Option Value} {news : List (Addr × Obj)} {R : Result → Shared → Prop} {E : Value → Shared → Prop}
theorem osaE_open {ox : Obj} {od : Option Obj} {cd : ClassData} {name : Str} {tk : Tok} {v : Value} (X : K.In s.heap) (I : InstAt s.heap x ox C od) (hc : clsIn K C = some cd) (ho : excMro cd.mro = true) (ht : takerIn K C name = some none)
    (h : ∀ b, wpAny (model prog w) A.in1 (storeInOwnDict (.ref x) (.ref C) (.str name tk) name v b)
      (fun fin s' => match fin with | .done f => R (.ok f) s' | .again c' => c'.quiet = true ∧ codeAny (model prog w) A c' R s') (fun e s' => R (.error e) s') s) :
    codeAny (model prog w) A (.call (.builtin "object.__setattr__") ⟨[.ref x, .str name tk, v], []⟩) R s := by
  have SF := PySem.F.store_object
  have ne : cd.mro.isEmpty = false := by cases q : cd.mro with | nil => rw [q] at ho; cases ho | cons _ _ => rfl
  have sub : Looks (model prog w) s.heap (isInstance (.ref x) (.type "object")) true := I.type.andThen (looks_mroIn X (by unfold mroIn; rw [hc, Option.bind_some, if_neg (by rw [ne]; decide), exc_has ho]))
  refine codeAny_call_builtin SF.slot.plain SF.entry (@check_slot (model prog w) _ _ s "object.__setattr__" "object" "__setattr__" (.ref x) [.str name tk, v] [] _ SF.kind SF.split sub (SF.args (.ref x) (.str name tk) v) ?_)
  obtain ⟨attr, ha, hr⟩ := Option.bind_eq_some_iff.mp ht
  have hm : Looks (model prog w) s.heap (mroOf (.ref C)) cd.mro := (looks_clsIn X hc).andThen .now
  have L3 : Looks (model prog w) s.heap (storeTaker? attr) none := by
    cases attr with
    | none => cases hr; exact .now
    | some a =>
      obtain ⟨b, hb, e⟩ := Option.map_eq_some_iff.mp hr
      refine (looks_takesIn X hb).andThen ?_
      cases b with
      | true => cases e
      | false => exact .now
  rw [osa_eq, refuse_eq]
  refine wpAny_bind (wpAny_bind (I.type.here (wpAny_bind (hm.here ?_))))
  rw [refuse_exc _ ho]
  refine wpAny_pure (wpAny_bind (I.type.here (wpAny_bind ((looks_findIn X ha).here (wpAny_bind (L3.here ?_))))))
  exact h _

abbrev ent1 (w : World) (name : Str) (tk : Tok) (v : Value) : DictEntry := ⟨PyData.keyHash w.params name, .str name tk, v⟩

theorem setE0 {cd : ClassData} {name : Str} {v : Value} {pre post : List (Addr × Obj)} {fs : Array Value} {Q : Unit → Shared → Prop} (F : Fr h₀ L s.heap m) (X₀ : K.In h₀) (N : News h₀ L s.heap (pre ++ (x, ({ cls := .ref C, dict := none, data := .fields fs } : Obj)) :: post))
    (hs : findIn K (.ref C) "__setattr__" = some (some (.builtin "object.__setattr__"))) (hc : clsIn K C = some cd) (ho : excMro cd.mro = true) (hh : cd.hasDict = true) (ht : takerIn K C name = some none)
    (h1 : ∀ p ∈ pre, p.1 ≠ x) (h2 : ∀ p ∈ post, p.1 ≠ x)
    (h : ∀ dx h' tk tk', Fr h₀ L h' m → News h₀ L h' ((dx, dictOf [ent1 w name tk v] 1) :: (pre ++ (x, ({ cls := .ref C, dict := some dx, data := .fields fs } : Obj)) :: post)) → (∀ p ∈ pre ++ (x, ({ cls := .ref C, dict := none, data := .fields fs } : Obj)) :: post, p.1 < dx) → Q () { s with heap := h', toks := tk' }) :
    wpAny (model prog w) A (setAttr (.ref x) name v) Q E s := by
  have hx := N (x, { cls := .ref C, dict := none, data := .fields fs }) (by simp)
  have I : InstAt s.heap x { cls := .ref C, dict := none, data := .fields fs } C none := ⟨hx.1, rfl, rfl, trivial⟩
  have X := X₀.keeps F.keep
  refine set_plain X I hs (osaE_open (s := { s with toks := s.toks + 1 }) X I hc ho ht fun b => ?_)
  have N1 := N.push F emptyDict
  have F1 := F.push emptyDict
  have hlt : ∀ p ∈ pre ++ (x, ({ cls := .ref C, dict := none, data := .fields fs } : Obj)) :: post, p.1 < s.heap.objs.size := fun p hp => Heap.lt_size (N p hp).1
  obtain ⟨F2, N2⟩ := news_upd (pre := (s.heap.objs.size, emptyDict) :: pre) (post := post) (d := x) (o := { cls := .ref C, dict := none, data := .fields fs }) (o' := { cls := .ref C, dict := some s.heap.objs.size, data := .fields fs }) (f := fun o => { o with dict := some s.heap.objs.size }) F1 N1
    (fun p hp => by
      rcases List.mem_cons.mp hp with rfl | hp
      · exact fun q => absurd (Heap.lt_size hx.1) (by rw [← q]; exact Nat.lt_irrefl _)
      · exact h1 p hp) h2 rfl rfl
  obtain ⟨F3, N3⟩ := news_upd (pre := []) (post := pre ++ (x, ({ cls := .ref C, dict := some s.heap.objs.size, data := .fields fs } : Obj)) :: post) (d := s.heap.objs.size) (o := emptyDict) (o' := dictOf [ent1 w name (s.toks + 1) v] 1)
    (f := Obj.putName name (PyData.keyHash w.params name) (.str name (s.toks + 1)) v) F2 N2 (fun p hp => nomatch hp) (fun p hp => by
      have hp' : ∃ o, (p.1, o) ∈ pre ++ (x, ({ cls := .ref C, dict := none, data := .fields fs } : Obj)) :: post := by
        rcases List.mem_append.mp hp with q | q
        · exact ⟨p.2, List.mem_append_left _ q⟩
        · rcases List.mem_cons.mp q with rfl | q
          · exact ⟨_, List.mem_append_right _ (.head _)⟩
          · exact ⟨p.2, List.mem_append_right _ (.tail _ q)⟩
      obtain ⟨o, hp'⟩ := hp'
      exact Nat.ne_of_lt (hlt (p.1, o) hp')) (putName_dict name _ _ v [] 0) rfl
  have hx1 := (N1 (x, { cls := .ref C, dict := none, data := .fields fs }) (by simp)).1
  have D2 := (N2 (s.heap.objs.size, emptyDict) (by simp)).1
  have D3 := (N3 (s.heap.objs.size, _) (List.Mem.head _)).1
  obtain ⟨hp, g, dr, tk, os⟩ := s
  dsimp only at *
  have lc : Looks (model prog w) hp (classData C) cd := looks_clsIn X hc
  refine wpAny_bind (wpAny_pure (wpAny_bind (wpAny_bind (wpAny_loadPart hx.1 (wpAny_bind (lc.here ?_))))))
  rw [hh]
  refine wpAny_bind (wpAny_alloc (wpAny_bind (wpAny_update hx1 (wpAny_pure (a := some hp.objs.size) ?_))))
  refine wpAny_bind (wpAny_pure (wpAny_bind ?_))
  unfold nsSet
  refine wpAny_bind (wpAny_bind (wpAny_askSetting (wpAny_pure (wpAny_bind (wpAny_mkText (wpAny_bind (wpAny_loadPart D2 ?_)))))))
  refine wpAny_updatePart D2 ?_
  refine wpAny_bind (wpAny_lookBehind D3 (pastItsLine_dict (by rw [sizeLine_eq]; show 1 ≤ _; decide)) ?_)
  exact wpAny_pure (h hp.objs.size _ _ _ F3 N3 hlt)

theorem setE1 {ox : Obj} {cd : ClassData} {dx : Addr} {name : Str} {v : Value} {pre post : List (Addr × Obj)} {es es' : List DictEntry} {n n' : Nat} {Q : Unit → Shared → Prop} (F : Fr h₀ L s.heap m) (X₀ : K.In h₀) (N : News h₀ L s.heap (pre ++ (dx, dictOf es n) :: post))
    (I : InstAt s.heap x ox C (some (dictOf es n))) (hd : ox.dict = some dx)
    (hs : findIn K (.ref C) "__setattr__" = some (some (.builtin "object.__setattr__"))) (hc : clsIn K C = some cd) (ho : excMro cd.mro = true) (hh : cd.hasDict = true) (ht : takerIn K C name = some none)
    (hl : (getL name es).isSome = true) (h1 : ∀ p ∈ pre, p.1 ≠ dx) (h2 : ∀ p ∈ post, p.1 ≠ dx) (hz : es'.length ≤ 1000)
    (e : (putL name (PyData.keyHash w.params name) (.str name (s.toks + 1)) v es, putN name es n) = (es', n'))
    (h : ∀ h' tk', Fr h₀ L h' m → News h₀ L h' (pre ++ (dx, dictOf es' n') :: post) → Q () { s with heap := h', toks := tk' }) :
    wpAny (model prog w) A (setAttr (.ref x) name v) Q E s := by
  have X := X₀.keeps F.keep
  obtain ⟨e1, e2⟩ := Prod.mk.inj e
  refine set_plain X I hs (osaE_open (s := { s with toks := s.toks + 1 }) X I hc ho ht fun b => ?_)
  obtain ⟨U1, U2⟩ := news_upd (o' := dictOf es' n') (f := Obj.putName name (PyData.keyHash w.params name) (.str name (s.toks + 1)) v) F N h1 h2 (by rw [putName_dict, e1, e2]) rfl
  have D := (N (dx, dictOf es n) (by simp)).1
  have D' := (U2 (dx, dictOf es' n') (by simp)).1
  obtain ⟨hx, hcl, hn, -⟩ := I
  obtain ⟨oc, odi, oda, osl⟩ := ox
  dsimp only at hcl hd
  subst hcl hd
  obtain ⟨hp, g, dr, tk, os⟩ := s
  dsimp only at *
  have lc : Looks (model prog w) hp (classData C) cd := looks_clsIn X hc
  refine wpAny_bind (wpAny_pure (wpAny_bind (wpAny_bind (wpAny_loadPart hx (wpAny_bind (lc.here ?_))))))
  rw [hh]
  refine wpAny_pure (a := some dx) (wpAny_bind (wpAny_pure (wpAny_bind ?_)))
  unfold nsSet
  refine wpAny_bind (wpAny_bind (wpAny_askSetting (wpAny_pure (wpAny_bind (wpAny_mkText (wpAny_bind (wpAny_loadPart D ?_)))))))
  dsimp only
  have c : (!es.any (·.key.isStr name) && es.any (·.refKey)) = false := by
    unfold getL at hl
    split at hl
    · rename_i en he
      rw [List.any_eq_true.mpr ⟨en, List.mem_of_find?_eq_some he, List.find?_some he⟩]; rfl
    · split at hl
      · cases hl
      · rename_i z; rw [Bool.not_eq_true] at z; rw [z, Bool.and_false]
  have c' : (!es.toArray.any (·.key.isStr name) && es.toArray.any (·.refKey)) = false := by
    rw [← Array.any_toList, ← Array.any_toList]; exact c
  rw [aRefKeyMayBeTheName_at, c']
  refine wpAny_updatePart D ?_
  refine wpAny_bind (wpAny_lookBehind D' (pastItsLine_dict (by rw [List.size_toArray, sizeLine_eq]; omega)) ?_)
  exact wpAny_pure (h _ _ U1 U2)
end
section
variable {prog : Program} {w : World} {A : Around} {s : Shared} {h₀ : Heap} {L : Addr} {m : Str → Option Value} {E : Value → Shared → Prop}
variable {nm q : Str} {C D N : Addr} {bs : List Value} {hdct : Bool} {sn : List Str} {sub : List Value} {ab : Bool} {col : Option Bool} {dd : Option Addr} {k0 k1 k2 k3 k5 : Option Value} {nid : String}
theorem check_initX {M : Model} {h : Heap} {g : Array GenState} {d : Drawn} {t : Nat} {os : OsState} {e : Addr} {oe : Obj} {rest : List Value} {Q : Unit → Shared → Prop}
    (hC : h.get? C = some (excClassObj nm q C N bs (.ref D :: bmE) hdct sn sub ab col dd k0 k1 k2 k3 k5 nid)) (he : h.get? e = some oe) (hcls : oe.cls = .ref C) (hq : Q () ⟨h, g, d, t, os⟩) :
    wpAny M A (checkBuiltinCall "Exception.__init__" ⟨.ref e :: rest, []⟩) Q E ⟨h, g, d, t, os⟩ := by
  have F := PySem.F.excBase_Exception
  have hcB : (Value.ref C :: .ref D :: bmE).contains (.type "Exception") = true := by rw [List.contains_cons, List.contains_cons, F.hasB, Bool.or_true, Bool.or_true]
  have hshort := F.noStar
  simp only [checkBuiltinCall, F.initKind, F.initSplit, F.initRow]
  repeat (first | (with_reducible refine wpAny_loadPart_at he ?_; rw [hcls]) | with_reducible refine wpAny_loadPart_at hC ?_ | (with_reducible refine wpAny_isSubtype_exc hC ?_; rw [hcB]) | wp_step)
  refine wpAny_onRaise ?_
  rw [show ∀ (a b : String) (n : Nat), Bind.check ⟨.positional, "*", "Exception", .self, [⟨"args", .varPos, false⟩]⟩ a b n (List.map (fun x => x.fst) ({ pos := Value.ref e :: rest } : Args).kw) = pure () from
    fun a b n => check_star_args _ _ _ _ _ _]
  exact wpAny_pure hq

theorem initE {e t : Addr} {rest : List Value} {pre post : List (Addr × Obj)} {d : Option Addr} {Q : Value → Shared → Prop} (F : Fr h₀ L s.heap m) (N : News h₀ L s.heap (pre ++ (e, excO C t d) :: post))
    (hC : s.heap.get? C = some (excClassObj nm q C N' bs (.ref D :: bmE) hdct sn sub ab col dd k0 k1 k2 k3 k5 nid)) (h1 : ∀ p ∈ pre, p.1 ≠ e) (h2 : ∀ p ∈ post, p.1 ≠ e)
    (h : ∀ t' h', Fr h₀ L h' m → News h₀ L h' ((t', tupO rest) :: (pre ++ (e, excO C t' d) :: post)) → (∀ p ∈ pre ++ (e, excO C t d) :: post, p.1 < t') → Q .none { s with heap := h' }) (hrest : rest.length ≤ sizeLine := by size_fits) :
    wpAny (model prog w) A (call (.builtin "Exception.__init__") (.ref e :: rest)) Q E s := by
  have FF := PySem.F.excBase_Exception
  have N1 := N.push F (tupO rest)
  have F1 := F.push (tupO rest)
  have hlt : ∀ p ∈ pre ++ (e, excO C t d) :: post, p.1 < s.heap.objs.size := fun p hp => Heap.lt_size (N p hp).1
  have he := N (e, excO C t d) (by simp)
  have he1 := (N1 (e, excO C t d) (by simp)).1
  obtain ⟨F2, N2⟩ := news_upd (pre := (s.heap.objs.size, tupO rest) :: pre) (post := post) (d := e) (o := excO C t d) (o' := excO C s.heap.objs.size d) (f := Obj.mapFields (·.setIfInBounds 0 (.ref s.heap.objs.size))) F1 N1
    (fun p hp => by
      rcases List.mem_cons.mp hp with rfl | hp
      · exact fun q => absurd (Heap.lt_size he.1) (by rw [← q]; exact Nat.lt_irrefl _)
      · exact h1 p hp) h2 rfl rfl
  obtain ⟨hp, g, dr, tk, os⟩ := s
  dsimp only at *
  refine wpAny_call (codeAny_call_builtin FF.init.plain FF.initEntry (check_initX hC he.1 rfl ?_))
  wp_walk
  exact h hp.objs.size _ F2 N2 hlt
end
end
end
section
section
open PySem.Calls Builtin Builtin.ObjectAttr
theorem dict_mapFields (o : Obj) (f) : (o.mapFields f).dict = o.dict := by
  obtain ⟨c, d, dt, sl⟩ := o; cases dt <;> rfl
section
variable {prog : Program} {w : World} {A : Around} {E : Value → Shared → Prop} {s : Shared} {K : Frag} {x C : Addr} {ox : Obj} {od : Option Obj} {name : Str} {expr : Bool} {Q : Value → Shared → Prop}
theorem getE {v : Value} (X : K.In s.heap) (I : InstAt s.heap x ox C od) (hga : findIn K (.ref C) "__getattribute__" = some (some (.builtin "BaseException.__getattribute__")))
    (hgt : findIn K (.ref C) "__getattr__" = some none) (hm : mroIn K C (.type "BaseException") = some true)
    (hf : findObj K C od name = some (.value v)) (hh : handedIn v = true) (h : Q v { s with toks := s.toks + 1 }) : wpAny (model prog w) A (getAttr (.ref x) name expr) Q E s := by
  obtain ⟨hp, g, d, t, os⟩ := s
  have FX := PySem.F.attr_Exception
  have L0 := I.type (M := model prog w)
  have L1 := looks_findIn (M := model prog w) X hga
  have L2 := looks_findIn (M := model prog w) X hgt
  have L3 := looks_find (M := model prog w) X I hf
  have L4 := looks_mroIn (M := model prog w) X hm
  have L5 : Looks (model prog w) hp (isInstance (.ref x) (.type "BaseException")) true := L0.andThen L4
  have hx0 : (expr && onTheHeap (Value.builtin "BaseException.__getattribute__")) = false := by cases expr <;> rfl
  have hx1 : (onTheHeap (Value.ref C) && Value.builtin "BaseException.__getattribute__" == Value.builtin "object.__getattribute__") = false := by
    rw [show (Value.builtin "BaseException.__getattribute__" == Value.builtin "object.__getattribute__") = false from by decide +kernel]; rfl
  have hk : builtinKind "BaseException.__getattribute__" = some .slot := by decide +kernel
  have hsplit : splitId "BaseException.__getattribute__" = some ("BaseException", "__getattribute__") := by decide +kernel
  unfold getAttr getAttrBy
  refine wpAny_bind (wpAny_mkText (wpAny_holding (wpAny_bind (L0.at (wpAny_bind (L1.at ?_))))))
  dsimp only
  rw [if_neg (by rw [hx1]; decide)]
  unfold getAttrByItsOwn hookBefore callGetattribute
  refine wpAny_bind (L2.at ?_)
  refine wpAny_bind (wpAny_attempt (wpAny_holding ?_))
  rw [if_neg (by rw [hx0]; decide)]
  unfold boundAndCalled
  rw [FX.ga.bind (.ref x)]
  refine wpAny_bind (wpAny_pure (wpAny_call ?_))
  refine codeAny_call_builtin FX.ga.plain F.entry_bexc_ga (@check_slot (model prog w) _ _ _ "BaseException.__getattribute__" "BaseException" "__getattribute__" (.ref x) [.str name t] [] _ hk hsplit L5 (F.args_bexc_ga _ _) ?_)
  refine wpAny_bind (wpAny_pure (wpAny_bind (wpAny_pure (wpAny_bind (L0.at (wpAny_bind (L3.at ?_)))))))
  refine wpAny_pure ?_
  show wpAny _ _ (handedOut v) _ _ _
  rw [handedOut_of hh]; exact wpAny_pure h
end

section
variable {M : Model} {A : Around} {E : Value → Shared → Prop} {env : Env}
variable {nm q : Str} {C D N : Addr} {bs : List Value} {hdct : Bool} {sn : List Str} {sub : List Value} {ab : Bool} {col : Option Bool} {dd : Option Addr} {k0 k1 k2 k3 k5 : Option Value} {newId : String}
theorem raiseX {s : Shared} {x : Sem Value} {Q : Flow → Shared → Prop} (hh : A.handled = none)
    (h : wpAny M A x (fun v s₁ => ∃ e t dx, v = .ref e ∧ s₁.heap.get? C = some (excClassObj nm q C N bs (.ref D :: bmE) hdct sn sub ab col dd k0 k1 k2 k3 k5 newId) ∧
      s₁.heap.get? e = some (excO C t dx) ∧ E (.ref e) s₁) E s) :
    wpAny M A (raiseStmt env (some x) none) Q E s := by
  have hcB : (Value.ref C :: .ref D :: bmE).contains (.type "BaseException") = true := by rw [List.contains_cons, List.contains_cons, PySem.F.excBase_Exception.hasBase, Bool.or_true, Bool.or_true]
  unfold raiseStmt
  refine wpAny_bind (wpAny_mono h (fun v s₁ h₁ => ?_) fun _ _ x => x)
  obtain ⟨e, t, dx, rfl, hC, he, hE⟩ := h₁
  obtain ⟨hp, g, d, tk, os⟩ := s₁
  repeat (first | with_reducible refine wpAny_loadPart_at he ?_ | with_reducible refine wpAny_loadPart_at hC ?_ | (with_reducible refine wpAny_isSubtype_exc hC ?_; rw [hcB]) | wp_step)
  exact wpAny_raiseNew_none hh hE
theorem raiseS {s : Shared} {x : Expr} {pos : Pos} {Q : Flow → Shared → Prop} (hh : A.handled = none)
    (h : wpAny M A (eval x env) (fun v s₁ => ∃ e t dx, v = .ref e ∧ s₁.heap.get? C = some (excClassObj nm q C N bs (.ref D :: bmE) hdct sn sub ab col dd k0 k1 k2 k3 k5 newId) ∧
      s₁.heap.get? e = some (excO C t dx) ∧ E (.ref e) s₁) E s) :
    wpAny M A (exec (.Raise (some x) none pos) env) Q E s := by
  rw [arm_exec_Raise]
  refine wpAny_bind (wpAny_standAt ?_)
  simp only [evalOpt, Option.map]
  refine raiseX hh (wpAny_bind (wpAny_mono h (fun v s₁ h₁ => wpAny_bind (wpAny_standAt (wpAny_pure h₁))) fun _ _ x => x))
theorem raiseK {K : Frag} {h₀ : Heap} {s : Shared} {x : Expr} {pos : Pos} {Q : Flow → Shared → Prop} (X : K.In h₀) (hC : K.lookup C = some (excClassObj nm q C N bs (.ref D :: bmE) hdct sn sub ab col dd k0 k1 k2 k3 k5 newId)) (hh : A.handled = none)
    (h : wpAny M A (eval x env) (fun v s₁ => ∃ e t dx, v = .ref e ∧ (∀ b o, h₀.get? b = some o → s₁.heap.get? b = some o) ∧ s₁.heap.get? e = some (excO C t dx) ∧ E (.ref e) s₁) E s) :
    wpAny M A (exec (.Raise (some x) none pos) env) Q E s :=
  raiseS hh (wpAny_mono h (fun _ _ ⟨e, t, dx, a, b, c, d⟩ => ⟨e, t, dx, a, b _ _ (X _ _ hC), c, d⟩) fun _ _ z => z)
end
end
end
section
section
open PySem.Calls Builtin Builtin.ObjectAttr
def TracedD (h base : Heap) (e : Addr) (cls : Value) (dd : Addr) (fl : Value) : Prop :=
  ∃ oe vs T oT ts, h.get? e = some oe ∧ (oe.cls = cls ∧ oe.dict = some dd) ∧ oe.data = .fields vs ∧ vs[1]? = some (.ref T) ∧ base.get? T = none ∧ T ≠ e ∧ h.get? T = some oT ∧ oT.data = .fields ts ∧ ts[3]? = some fl
structure FlyD (B : Heap) (l : List Env) (e : Addr) (cls : Value) (dd : Addr) (fl : Value) (h : Heap) : Prop where
  stays : B.StaysIn h
  new : B.get? e = none
  frames : h.FunFrames B l
  tr : TracedD h B e cls dd fl

section
variable {M : Model} {A : Around} {E : Value → Shared → Prop} {s : Shared}
theorem entryD {base : Heap} {env : Env} {outer : List Env} {L e dd : Addr} {oe : Obj} {vs : Array Value} {head : Value} {hadNext : Bool} {Q : Unit → Shared → Prop}
    (hfr : A.frames = some (env :: outer)) (hl : s.heap.FunFrames base (env :: outer)) (hf : env.frame = some L)
    (he : s.heap.get? e = some oe) (hkb : base.StaysIn s.heap) (hen : base.get? e = none) (hd : oe.data = .fields vs) (hsz : 1 < vs.size) (h0 : oe.dict = some dd)
    (h : ∀ h', FlyD base (env :: outer) e oe.cls dd (rawInt L) h' → s.heap.UpToSlots h' → Q () { s with heap := h' }) :
    wpAny M A (do let a ← frameOf env; let pl ← entryPlaceOf L hadNext; let b ← EntryCells.newEntry head a .none (rawInt L) .none pl; setField (.ref e) 1 b) Q E s := by
  have hene : e ∉ (env :: outer).filterMap (·.frame) := fun hm => by
    obtain ⟨_, o, ho, hnf⟩ := hl.mem hm
    rw [he] at ho; injection ho with ho; subst ho; exact hnf vs hd
  refine wpAny_bind (wpAny_frameOf_fun hfr hl hf fun h₁ hs₁ => ?_)
  refine wpAny_bind (wpAny_entryPlaceOf fun pl hpl => ?_)
  unfold EntryCells.newEntry newFields
  refine wpAny_bind (wpAny_newObj_type ?_ (hpl.sizeOk5 _ _ _ _ _))
  have he₁ : h₁.get? e = some oe := (hs₁.2.1 e hene).trans he
  have kb₁ : base.StaysIn h₁ := fun b o hbo => (hs₁.2.1 b fun hm => by rw [(hl.mem hm).1] at hbo; cases hbo).trans (hkb b o hbo)
  generalize hTO : ({ cls := .type "traceback", dict := none, data := .fields ([head, .ref L, .none, rawInt L, .none] ++ (if pl.isEmpty then List.replicate 6 Value.none else pl)).toArray } : Obj) = TO
  have hTd : TO.data = .fields ([head, .ref L, .none, rawInt L, .none] ++ (if pl.isEmpty then List.replicate 6 Value.none else pl)).toArray := by rw [← hTO]
  have hTf : TO.isFreed = false := by rw [← hTO]; rfl
  have he₂ := Heap.get?_push_of_some TO he₁
  have hTe : h₁.objs.size ≠ e := Nat.ne_of_gt (Heap.lt_size he₁)
  have hd₃ := Obj.data_mapFields hd (·.setIfInBounds 1 (Value.ref h₁.objs.size))
  have he₃ := Heap.get?_update_self (Obj.mapFields (·.setIfInBounds 1 (Value.ref h₁.objs.size))) he₂ (Obj.isFreed_of_fields hd₃)
  have hT₃ := (Heap.get?_update_other (h₁.push TO) (Obj.mapFields (·.setIfInBounds 1 (Value.ref h₁.objs.size))) (Ne.symm hTe)).trans (Heap.get?_push_size h₁ hTf)
  have keep : ∀ b o, b ≠ e → h₁.get? b = some o → ((h₁.push TO).update e (Obj.mapFields (·.setIfInBounds 1 (Value.ref h₁.objs.size)))).get? b = some o := fun b o hbe hb => by
    rw [Heap.get?_update_other _ _ (Ne.symm hbe)]
    exact Heap.get?_push_of_some _ hb
  have noRecord : ∀ b o, s.heap.get? b = some o → (∀ vs, o.data ≠ .fields vs) → b ≠ e := fun b o hb hnf q => by
    rw [q, he] at hb; injection hb with hb; subst hb; exact hnf vs hd
  refine wpAny_setField he₂ hd hsz (h _ ⟨fun b o hbo => keep b o (fun q => by rw [q, hen] at hbo; cases hbo) (kb₁ b o hbo), hen, hl.of_keeps fun b o hb hnf => ?_, ?_⟩ fun b o hb hnf => ?_)
  · obtain ⟨sl, hs⟩ := hs₁.2.2 b o hb
    exact ⟨_, keep b _ (noRecord b o hb hnf) hs, rfl⟩
  · exact ⟨_, _, h₁.objs.size, _, _, he₃, ⟨Obj.cls_mapFields _ _, by rw [dict_mapFields]; exact h0⟩, hd₃, by simp [hsz], kb₁.fresh, hTe, hT₃, hTd, by first | (simp; done) | (rcases hpl with rfl | ⟨_, _, _, _, _, _, _, rfl⟩ <;> simp)⟩
  · obtain ⟨sl, hs⟩ := hs₁.2.2 b o hb
    exact ⟨sl, keep b _ (noRecord b o hb hnf) hs⟩

theorem landD {base : Heap} {l : List Env} {e dd : Addr} {cls fl : Value} {Q : Unit → Shared → Prop} (R : FlyD base l e cls dd fl s.heap)
    (h : ∀ h', FlyD base l e cls dd .none h' → s.heap.UpToSlots h' → Q () { s with heap := h' }) : wpAny M A (setFlight (.ref e) none) Q E s := by
  obtain ⟨hkb, hen, hl, oe, vs, T, oT, ts, he, hcls, hd, h1, hnT, hTe, hT, hdT, h3⟩ := R
  have hsz3 : 3 < ts.size := (Array.getElem?_eq_some_iff.mp h3).1
  have other : ∀ b, b ≠ T → (s.heap.update T (Obj.mapFields (·.setIfInBounds 3 ((none : Option Addr).elim Value.none fun f => rawInt f)))).get? b = s.heap.get? b :=
    fun b hb => Heap.get?_update_other _ _ (Ne.symm hb)
  have noRecord : ∀ b o, s.heap.get? b = some o → (∀ vs, o.data ≠ .fields vs) → b ≠ T := fun b o hb hnf q => by
    rw [q, hT] at hb; injection hb with hb; subst hb; exact hnf ts hdT
  unfold setFlight
  refine wpAny_bind (wpAny_field he hd h1 ?_)
  rw [if_pos (show (Value.ref T != Value.none) = true from by simp)]
  refine wpAny_setField hT hdT hsz3 (h _ ⟨fun b o hbo => (other b fun q => by rw [q, hnT] at hbo; cases hbo).trans (hkb b o hbo), hen,
    hl.of_keeps fun b o hb hnf => ⟨o, (other b (noRecord b o hb hnf)).trans hb, rfl⟩, ?_⟩ fun b o hb hnf => ⟨o.slots, (other b (noRecord b o hb hnf)).trans hb⟩)
  exact ⟨oe, vs, T, _, _, (other e (Ne.symm hTe)).trans he, hcls, hd, h1, hnT, hTe, Heap.get?_update_self _ hT (Obj.isFreed_of_fields (Obj.data_mapFields hdT _)), Obj.data_mapFields hdT _, by simp [hsz3]⟩

theorem noteD {base : Heap} {env : Env} {outer : List Env} {L e dd : Addr} {cls : Value} {Q : Unit → Shared → Prop} (hfr : A.frames = some (env :: outer)) (hf : env.frame = some L)
    (R : FlyD base (env :: outer) e cls dd .none s.heap)
    (h : ∀ h', FlyD base (env :: outer) e cls dd (rawInt L) h' → s.heap.UpToSlots h' → Q () { s with heap := h' }) : wpAny M A (noteFrame (.ref e) env) Q E s := by
  obtain ⟨hkb, hen, hl, oe, vs, T, oT, ts, he, ⟨hcls, hdd⟩, hd, h1, hnT, hTe, hT, hdT, h3⟩ := R
  subst hcls
  unfold noteFrame
  simp only [hf]
  refine wpAny_bind (wpAny_field he hd h1 ?_)
  rw [if_pos (show (Value.ref T != Value.none) = true from by simp)]
  refine wpAny_bind (wpAny_field hT hdT h3 ?_)
  rw [if_neg (show ¬ ((Value.none == rawInt L) = true) from by simp [rawInt])]
  refine wpAny_bind (wpAny_setField hT hdT (Array.getElem?_eq_some_iff.mp h3).1 ?_)
  have other : ∀ b, b ≠ T → (s.heap.update T (Obj.mapFields (·.setIfInBounds 3 Value.none))).get? b = s.heap.get? b := fun b hb => Heap.get?_update_other _ _ (Ne.symm hb)
  have noRecord : ∀ b o, s.heap.get? b = some o → (∀ vs, o.data ≠ .fields vs) → b ≠ T := fun b o hb hnf q => by
    rw [q, hT] at hb; injection hb with hb; subst hb; exact hnf ts hdT
  exact entryD hfr (hl.of_keeps fun b o hb hnf => ⟨o, (other b (noRecord b o hb hnf)).trans hb, rfl⟩) hf ((other e (Ne.symm hTe)).trans he)
    (fun b o hbo => (other b fun q => by rw [q, hnT] at hbo; cases hbo).trans (hkb b o hbo)) hen hd (Array.getElem?_eq_some_iff.mp h1).1 hdd
    fun h' x1 x2 => h h' x1 fun b o hb hnf => x2 b o ((other b (noRecord b o hb hnf)).trans hb) hnf

theorem leaveD0 {base : Heap} {env : Env} {outer : List Env} {L e t dd : Addr} {C : Addr} {Q : Unit → Shared → Prop} (hfr : A.frames = some (env :: outer)) (hl : s.heap.FunFrames base (env :: outer)) (hf : env.frame = some L)
    (he : s.heap.get? e = some (excO C t (some dd))) (hkb : base.StaysIn s.heap) (hen : base.get? e = none)
    (h : ∀ h', FlyD base outer e (.ref C) dd .none h' → s.heap.UpToSlots h' → Q () { s with heap := h' }) : wpAny M A (leaving env (.ref e)) Q E s := by
  unfold leaving noteFrame
  simp only [hf]
  refine wpAny_bind (wpAny_bind (wpAny_field he rfl (i := 1) (x := .none) rfl ?_))
  rw [if_neg (by decide)]
  refine entryD hfr hl hf he hkb hen rfl (show 1 < 6 by decide) rfl fun h₁ R₁ U₁ => ?_
  refine landD R₁ fun h₂ R₂ U₂ => ?_
  obtain ⟨k1, k2, ⟨_, _, k3⟩, k4⟩ := R₂
  exact h h₂ ⟨k1, k2, k3, k4⟩ (U₁.trans U₂)
end
end
end
section
section
open PySem.Calls Builtin Builtin.ObjectAttr
def RaisedD (base G : Heap) (l : List Env) (e : Addr) (cls : Value) (dd : Addr) (news : List (Addr × Obj)) (h : Heap) : Prop :=
  ∃ B, base.StaysIn B ∧ (∀ b o, G.get? b = some o → b ∉ l.filterMap (·.frame) → B.get? b = some o) ∧ (∀ q ∈ news, B.get? q.1 = some q.2 ∧ G.get? q.1 = none ∧ base.get? q.1 = none) ∧ FlyD B l e cls dd .none h

section
variable {M : Model} {A : Around} {E : Value → Shared → Prop} {s' : Shared} {base g h : Heap} {outer : List Env} {L a e t dd C : Addr} {m : Str → Option Value} {name : Str} {scope : Scope} {cd : Value} {Q : Unit → Shared → Prop} {news : List (Addr × Obj)}
theorem leaveD (K : Below A base outer g) (F : Fr g L s'.heap m) (N : News g L s'.heap ((e, excO C t (some dd)) :: news)) (hne : ∀ p ∈ news, p.1 ≠ e)
    (hQ : ∀ h', RaisedD base g outer e (.ref C) dd news h' → g.UpToSlots h' → Q () { s' with heap := h' }) (hk : scope.kind = .function := by rfl) :
    wpAny M (A.deeper (envOf name scope L a cd)) (leaving (envOf name scope L a cd) (.ref e)) Q E s' := by
  have K' := K.push (name := name) (a := a) (cd := cd) F hk
  have he := N (e, excO C t (some dd)) (List.Mem.head _)
  have hin : ∀ env ∈ (envOf name scope L a cd :: outer), ∀ b, env.frame = some b → b ∈ e :: (envOf name scope L a cd :: outer).filterMap (·.frame) := fun env he b hb => List.Mem.tail _ (List.mem_filterMap.mpr ⟨env, he, hb⟩)
  have ge : ∀ b o, g.get? b = some o → b ≠ e := fun b o q z => by rw [z, he.2.2] at q; cases q
  have st : base.StaysIn (hideAll s'.heap (e :: (envOf name scope L a cd :: outer).filterMap (·.frame))) := fun b o q => hideAll_get _ (K'.stays b o q) fun hm => by
    rcases List.mem_cons.mp hm with z | hm
    · exact ge b o (K.stays b o q) z
    · rw [(K'.frames.mem hm).1] at q; cases q
  have sg : ∀ b o, g.get? b = some o → b ∉ outer.filterMap (·.frame) → (hideAll s'.heap (e :: (envOf name scope L a cd :: outer).filterMap (·.frame))).get? b = some o := fun b o q nm => hideAll_get _ (F.keep b o q) fun hm => by
    rcases List.mem_cons.mp hm with z | hm
    · exact ge b o q z
    · rcases kts_mem hm with z | z
      · rw [z, kts_self F] at q
        cases q
      · exact nm z
  have hl : ∀ q ∈ news, (hideAll s'.heap (e :: (envOf name scope L a cd :: outer).filterMap (·.frame))).get? q.1 = some q.2 ∧ g.get? q.1 = none ∧ base.get? q.1 = none := fun q hq => by
    have hN := N q (List.Mem.tail _ hq)
    refine ⟨hideAll_get _ hN.1 fun hm => ?_, hN.2.2, fresh_of_stays K.stays hN.2.2⟩
    rcases List.mem_cons.mp hm with z | hm
    · exact hne q hq z
    obtain ⟨env, he, hf⟩ := List.mem_filterMap.mp hm
    rcases List.mem_cons.mp he with rfl | he
    · exact hN.2.1 (Option.some.inj hf).symm
    · obtain ⟨o, ho, _⟩ := (K.frames.mem (List.mem_filterMap.mpr ⟨env, he, hf⟩)).2
      rw [hN.2.2] at ho; cases ho
  exact leaveD0 K'.stack (funFrames_hide K'.frames hin) rfl he.1 (fun b o q => of_hideAll _ q) (hideAll_none _ (List.Mem.head _)) fun h' x1 x2 =>
    hQ h' ⟨_, st, sg, hl, x1⟩ ((Heap.UpToSlots.of_keeps F.keep).trans x2)
end

section
variable {prog : Program} {w : World} {A₀ : Around} {E : Value → Shared → Prop} {s' : Shared} {base g g₀ G : Heap} {outer : List Env} {L a e C dd : Addr} {m : Str → Option Value} {name : Str} {scope : Scope} {cd : Value}
  {n : Str} {b₀ : Stmt} {suite : List Stmt} {pos np : Pos} {rest : List ExceptHandler} {Q : Flow → Shared → Prop} {news : List (Addr × Obj)} {KF : Frag}
  {p : Program} {loose : List Str} {mean : ExcName → Option Value} {mg mb : Str → Option Value} {x : Str}
theorem caughtD (R : RaisedD base G (envOf name scope L a cd :: outer) e (.ref C) dd news s'.heap) (F : Fr g L G m) (K : Below A₀ base outer g) (hsm : G.UpToSlots s'.heap) (XB : KF.In base) (TB : Top p loose mean mg mb base)
    (D : KtsDicts (outer.filterMap (·.frame)) g) (T0 : KtsTurn (outer.filterMap (·.frame)) g₀ g)
    (ex : nsIn KF mainGlobals x = some (some (.ref C))) (q : ktsIn KF C "BaseException" = true)
    (k : ∀ h' g' oe vs tk, KtsTurn (outer.filterMap (·.frame)) g₀ g' → Fr g' L h' (fun y => if y = n then some (.ref e) else m y) → oe.cls = .ref C → oe.dict = some dd → oe.data = .fields vs → News g' L h' ((e, oe) :: news) → Below A₀ base outer g' → KF.In g' → Top p loose mean mg mb g' → KtsDicts (outer.filterMap (·.frame)) g' →
      wpAny (model prog w) ((A₀.deeper (envOf name scope L a cd)).mark (some (.ref e))) (execs (b₀ :: suite) (envOf name scope L a cd))
        (fun f s₄ => wpAny (model prog w) (A₀.deeper (envOf name scope L a cd)) (do bindName (envOf name scope L a cd) n .none; unbindBehindTheSuite (envOf name scope L a cd) n pos) (fun _ s₅ => Q f s₅) E s₄)
        (AsSuiteRaised (model prog w) ((A₀.deeper (envOf name scope L a cd)).mark (some (.ref e))) (envOf name scope L a cd) n pos (notedBy (model prog w) ((A₀.deeper (envOf name scope L a cd)).mark (some (.ref e))) (envOf name scope L a cd) (cameBackBy (model prog w) (A₀.deeper (envOf name scope L a cd)) (envOf name scope L a cd) E)))
        { s' with heap := h', toks := tk })
    (hk : scope.kind = .function := by rfl) (hlo : (envOf name scope L a cd).kindOf n = some .local := by rfl) (hx : (envOf name scope L a cd).kindOf x = some .globalImplicit := by rfl) (hd : (x == ("__debug__" : Str)) = false := by decide) :
    wpAny (model prog w) (A₀.deeper (envOf name scope L a cd)) (noteFrame (.ref e) (envOf name scope L a cd))
      (fun _ s₂ => wpAny (model prog w) (A₀.deeper (envOf name scope L a cd)) (setFlight (.ref e) none) (fun _ s₃ =>
        wpAny (model prog w) (A₀.deeper (envOf name scope L a cd)) (handleBy (.ref e) (envOf name scope L a cd) (.ExceptHandler (some (.Name x np)) (some n) (b₀ :: suite) pos :: rest)) Q E s₃) E s₂) E s' := by
  obtain ⟨B, hB, hBG, hl, hfl⟩ := R
  have hL : B.get? L = none := by
    obtain ⟨_, ⟨L', _, hf, hn', _⟩, _⟩ := hfl.frames
    obtain rfl : L = L' := Option.some.inj hf
    exact hn'
  refine noteD (Around.frames_deeper K.stack) rfl hfl fun h₄ hheld₄ hsm₄ => ?_
  refine landD hheld₄ fun h₅ hheld hsm₅' => ?_
  have hsm₅ := hsm₄.trans hsm₅'
  obtain ⟨g₅, T₅, F₅, K₅⟩ := kts_ground K F hBG hheld.stays (hsm.trans hsm₅)
  have X₅ : KF.In g₅ := XB.keeps K₅.stays
  have P₅ : TopRead p loose mg mb g₅ := topRead_of (TB.keeps K₅.stays)
  obtain ⟨ob, _, _, _, _, hob, ⟨hobc, _⟩, _⟩ := id hheld.tr
  obtain ⟨nm, q', N, bs, bm, hdct, sn, sub, ab, col, dd, k0, k1, k2, k3, k5, newId, hC, hbase, hbT⟩ := kts_cls X₅ q
  have hC₅ := F₅.keep _ _ hC
  refine wpAny_handleBy_cons (codeAny_handlers_test (name_K F₅ X₅ P₅ ex ?_ hk hx hd)) (by intro q; cases q)
  refine wpAny_excMatches_sub_self hC₅ hob hobc hbase (codeAny_handlers_suite_as ?_)
  refine landD hheld fun h₆ hfl₆ hsm₆ => ?_
  obtain ⟨g₆, T₆, F₆, K₆⟩ := kts_ground K F hBG hfl₆.stays ((hsm.trans hsm₅).trans hsm₆)
  obtain ⟨oe, ws, _, _, _, hoe, ⟨hoec, hoedd⟩, hoed, _⟩ := id hfl₆.tr
  have ne₆ : g₆.get? e = none := T₆.none_ _ (kts_fresh F hBG hfl₆.new fun o ho m => by
    obtain ⟨_, o', ho', hd⟩ := K.frames.mem m
    rw [ho] at ho'
    cases ho'
    obtain ⟨sl, hs⟩ := ((hsm.trans hsm₅).trans hsm₆) _ _ (F.keep _ _ ho) hd
    rw [hoe] at hs
    cases hs
    exact hd _ hoed)
  have Nl : News g₆ L h₆ news := fun q hq => ⟨hfl₆.stays _ _ (hl q hq).1, (fun z => by have := (hl q hq).1; rw [z, hL] at this; cases this), T₆.none_ _ (kts_none F.keep (hl q hq).2.1)⟩
  have N₆ := News.more F₆ Nl hoe (fun es n q => by rw [hoed] at q; cases q) ne₆
  have X₆ : KF.In g₆ := XB.keeps K₆.stays
  have P₆ : Top p loose mean mg mb g₆ := TB.keeps K₆.stays
  have D₆ : KtsDicts (outer.filterMap (·.frame)) g₆ := D.turn T₆
  refine stN F₆ (news := _) N₆ (fun h₇ F₇ N₇ => ?_) hk hlo
  exact k h₇ g₆ oe ws _ (T0.trans T₆) F₇ hoec hoedd hoed N₇ K₆ X₆ P₆ D₆
end
end
end
section
section
open PySem.Calls Builtin Builtin.ObjectAttr
theorem meta_Exception : typeOf (.type "Exception") = pure (.type "type") := by kernel_rfl
section
variable {prog : Program} {w : World} {A : Around} {K : Frag} {C x dx : Addr} {s : Shared} {h₀ : Heap} {L : Addr} {m : Str → Option Value} {news : List (Addr × Obj)} {E : Value → Shared → Prop} {g : Obj → List (Addr × Obj)}
theorem callXN {nm q : Str} {D N' : Addr} {bs : List Value} {hdct : Bool} {sn : List Str} {sub : List Value} {ab : Bool} {col : Option Bool} {dd : Option Addr} {k0 k1 k2 k3 k5 : Option Value} {rest : List Value} {fI : Addr} {Q : Value → Shared → Prop}
    (F : Fr h₀ L s.heap m) (X₀ : K.In h₀) (N : News h₀ L s.heap news)
    (hC : K.lookup C = some (excClassObj nm q C N' bs (.ref D :: bmE) hdct sn sub ab col dd k0 k1 k2 k3 k5 "Exception.__new__"))
    (hi : findIn K (.ref C) "__init__" = some (some (.ref fI))) (hf : isFn K (.ref fI) = true)
    (h : ∀ t e h', Fr h₀ L h' m → News h₀ L h' ((e, excO C t none) :: (t, tupO rest) :: news) → (∀ p ∈ news, p.1 < t) → t < e →
      codeAny (model prog w) (A.under (.builtin "type.__call__" ⟨.ref C :: rest, []⟩)) (.call (.ref fI) ⟨.ref e :: rest, []⟩) (InitBack e fun r s' => match r with | .ok (.ret v) => Q v s' | .ok _ => False | .error e => E e s') { s with heap := h' }) (hrest : rest.length ≤ sizeLine := by size_fits) :
    wpAny (model prog w) A (call (.ref C) rest) Q E s := by
  have X := X₀.keeps F.keep
  have N1 := (N.push F (tupO rest)).push (F.push _) (excO C s.heap.objs.size none)
  rw [Heap.size_push] at N1
  have z := h _ _ _ ((F.push _).push _) N1 (fun p hp => Heap.lt_size (N p hp).1) (Nat.lt_succ_self _)
  have li := looks_findIn (M := model prog w) X hi
  have lb : ∀ self, Looks (model prog w) s.heap (bindSpecial (.ref fI) self) (.ref fI, [self]) := fun self => bind_fn X self (beq_iff_eq.mp hf)
  have hC' := X _ _ hC
  obtain ⟨hp, gg, d, t, os⟩ := s
  refine callX (hrest := hrest) hC' li lb (wpAny_call (codeAny_mono z fun r s' y => ?_))
  rcases r with e | (v | _ | _ | _) <;> first | exact y | exact y.elim | skip

theorem setE0U {cd : ClassData} {name : Str} {v : Value} {fs : Array Value} {Q : Unit → Shared → Prop} (F : Fr h₀ L s.heap m) (X₀ : K.In h₀) (N : News h₀ L s.heap news) (U : UpdF x ({ cls := .ref C, dict := none, data := .fields fs } : Obj) news g)
    (hs : findIn K (.ref C) "__setattr__" = some (some (.builtin "object.__setattr__"))) (hc : clsIn K C = some cd) (ho : excMro cd.mro = true) (hh : cd.hasDict = true) (ht : takerIn K C name = some none)
    (h : ∀ dx h' tk tk', Fr h₀ L h' m → News h₀ L h' ((dx, dictOf [ent1 w name tk v] 1) :: g { cls := .ref C, dict := some dx, data := .fields fs }) → (∀ p ∈ news, p.1 < dx) → Q () { s with heap := h', toks := tk' }) :
    wpAny (model prog w) A (setAttr (.ref x) name v) Q E s := by
  obtain ⟨pre, post, rfl, hg, a, b⟩ := U.split
  exact setE0 F X₀ N hs hc ho hh ht a b fun dx h' tk tk' F' N' l => h dx h' tk tk' F' (by rw [hg]; exact N') l

theorem setE1U {cd : ClassData} {name : Str} {v : Value} {fs : Array Value} {es es' : List DictEntry} {n n' : Nat} {Q : Unit → Shared → Prop} (F : Fr h₀ L s.heap m) (X₀ : K.In h₀) (N : News h₀ L s.heap news)
    (hx : (x, ({ cls := .ref C, dict := some dx, data := .fields fs } : Obj)) ∈ news) (hd : (dx, dictOf es n) ∈ news) (U : UpdF dx (dictOf es n) news g)
    (hs : findIn K (.ref C) "__setattr__" = some (some (.builtin "object.__setattr__"))) (hc : clsIn K C = some cd) (ho : excMro cd.mro = true) (hh : cd.hasDict = true) (ht : takerIn K C name = some none)
    (hl : (getL name es).isSome = true) (e : (putL name (PyData.keyHash w.params name) (.str name (s.toks + 1)) v es, putN name es n) = (es', n')) (hz : es'.length ≤ 1000)
    (h : ∀ h' tk', Fr h₀ L h' m → News h₀ L h' (g (dictOf es' n')) → Q () { s with heap := h', toks := tk' }) :
    wpAny (model prog w) A (setAttr (.ref x) name v) Q E s := by
  have I : InstAt s.heap x { cls := .ref C, dict := some dx, data := .fields fs } C (some (dictOf es n)) := ⟨(N _ hx).1, rfl, rfl, (N _ hd).1⟩
  obtain ⟨pre, post, rfl, hg, a, b⟩ := U.split
  exact setE1 F X₀ N I rfl hs hc ho hh ht hl a b hz e fun h' tk' F' N' => h h' tk' F' (by rw [hg]; exact N')

theorem initEU {nm q : Str} {D N' e t : Addr} {bs : List Value} {hdct : Bool} {sn : List Str} {sub : List Value} {ab : Bool} {col : Option Bool} {dd d : Option Addr} {k0 k1 k2 k3 k5 : Option Value} {nid : String} {rest : List Value} {Q : Value → Shared → Prop}
    (F : Fr h₀ L s.heap m) (X₀ : K.In h₀) (N : News h₀ L s.heap news) (hC : K.lookup C = some (excClassObj nm q C N' bs (.ref D :: bmE) hdct sn sub ab col dd k0 k1 k2 k3 k5 nid))
    (U : UpdF e (excO C t d) news g)
    (h : ∀ t' h', Fr h₀ L h' m → News h₀ L h' ((t', tupO rest) :: g (excO C t' d)) → (∀ p ∈ news, p.1 < t') → Q .none { s with heap := h' }) (hrest : rest.length ≤ sizeLine := by size_fits) :
    wpAny (model prog w) A (call (.builtin "Exception.__init__") (.ref e :: rest)) Q E s := by
  obtain ⟨pre, post, rfl, hg, a, b⟩ := U.split
  exact initE (hrest := hrest) F N ((X₀.keeps F.keep) _ _ hC) a b fun t' h' F' N' l => h t' h' F' (by rw [hg]; exact N') l
end
end
end
section
local macro_rules | `(tactic| walk_at "no such key") => `(tactic| fail)
local macro_rules | `(tactic| walk_at "no such key") => `(tactic| fail)
local macro_rules | `(tactic| walk_at "no such key") => `(tactic| fail)
local macro_rules | `(tactic| walk_at "no such key") => `(tactic| fail)
local macro_rules | `(tactic| walk_at "no such key") => `(tactic| fail)
local macro_rules | `(tactic| walk_at "no such key") => `(tactic| fail)
local macro_rules | `(tactic| walk_at "no such key") => `(tactic| fail)
local macro_rules | `(tactic| walk_at "no such key") => `(tactic| fail)
local macro_rules | `(tactic| walk_at "no such key") => `(tactic| fail)
local macro_rules | `(tactic| walk_at "no such key") => `(tactic| fail)
local macro_rules | `(tactic| walk_at "no such key") => `(tactic| fail)
local macro_rules | `(tactic| walk_at "no such key") => `(tactic| fail)
local macro_rules | `(tactic| walk_at "no such key") => `(tactic| fail)
local macro_rules | `(tactic| walk_at "no such key") => `(tactic| fail)
local macro_rules | `(tactic| walk_at "no such key") => `(tactic| fail)
local macro_rules | `(tactic| walk_at "no such key") => `(tactic| fail)
local macro_rules | `(tactic| walk_at "no such key") => `(tactic| fail)
local macro_rules | `(tactic| walk_at "no such key") => `(tactic| fail)
local macro_rules | `(tactic| walk_at "no such key") => `(tactic| fail)
local macro_rules | `(tactic| walk_at "no such key") => `(tactic| fail)
local macro_rules | `(tactic| walk_at "no such key") => `(tactic| fail)
local macro_rules | `(tactic| walk_at "no such key") => `(tactic| fail)
local macro_rules | `(tactic| walk_at "no such key") => `(tactic| fail)
local macro_rules | `(tactic| walk_at "no such key") => `(tactic| fail)
theorem reset_ExcG : True := by
  w_top off
  trivial
theorem allLt_ne {d e : Nat} : ∀ {l : List (Addr × Obj)}, AllLt d l → d ≤ e → ∀ p ∈ l, p.1 ≠ e
  | [], _, _ => fun _ hp => nomatch hp
  | q :: r, h, hle => fun p hp => by
    rcases List.mem_cons.mp hp with rfl | hp
    · exact Nat.ne_of_lt (Nat.lt_of_lt_of_le h.1 hle)
    · exact allLt_ne h.2 hle p hp
local macro_rules | `(tactic| k_all) => `(tactic| (refine' allLt_ne ?a ?b; (case a => first | assumption | exact And.right (by assumption) | exact And.right (And.right (by assumption)) | exact And.right (And.right (And.right (by assumption))) | exact And.right (And.right (And.right (And.right (by assumption)))) | exact And.right (And.right (And.right (And.right (And.right (by assumption)))))); (case b => omega)))
local macro_rules | `(tactic| k_room) => `(tactic| ktr_room)
local macro_rules | `(tactic| walk_at "call ref") => `(tactic| k_dflt (refine' callXN ?k1 ?k2 ?k3 ?kC ?ki ?kf ?_; (case k1 => k_asm); (case k2 => k_asm); (case k3 => k_asm); (case kC => k_is); (case ki => k_is); (case kf => k_is); intro t' e' h' F' N' l1 l2; (try k_lt l1); (try k_lt2 l2); (try k_sweep); k_enter))
local macro_rules | `(tactic| walk_at "getMethod type:Exception") => `(tactic| (k_here; refine' method_type ?F ?X ?m (by decide +kernel) ?e ?h ?_; (case F => k_asm); (case X => k_asm); (case m => exact meta_Exception); (case e => k_dflt k_is); (case h => k_handed)))
local macro_rules | `(tactic| walk_at "call builtin:Exception.__init__") => `(tactic| k_dflt (refine' initEU ?k1 ?k2 ?k3 ?kC ?kU ?_; (case k1 => k_asm); (case k2 => k_asm); (case k3 => k_asm); (case kU => k_updF); (case kC => k_is); intro t' h' F' N' l1; (try dsimp only at N'); (try k_lt l1); (try k_sweep)))
local macro_rules | `(tactic| walk_at "setAttr ref") => `(tactic| k_dflt (refine' setE1U ?k1 ?k2 ?k3 ?kx ?kd ?kU ?ks ?kc ?ko ?kh ?kt ?kl ?ke ?kz ?_; (case k1 => k_asm); (case k2 => k_asm); (case k3 => k_asm); (case kx => k_mem); (case kd => k_mem); (case kU => k_updF); (case ks => k_is); (case kc => k_is); (case ko => rfl); (case kh => rfl); (case kt => k_is); (case kl => k_get); (case ke => k_put); (case kz => exact Nat.le_of_ble_eq_true rfl); intro h' tk' F' N'; (try dsimp only at N'); (try k_sweep)))
local macro_rules | `(tactic| walk_at "setAttr ref") => `(tactic| k_dflt (refine' setE0U ?k1 ?k2 ?k3 ?kU ?ks ?kc ?ko ?kh ?kt ?_; (case k1 => k_asm); (case k2 => k_asm); (case k3 => k_asm); (case kU => k_updF); (case ks => k_is); (case kc => k_is); (case ko => rfl); (case kh => rfl); (case kt => k_is); intro d' h' tk' tk'' F' N' l1; (try dsimp only at N'); (try k_lt l1); (try k_sweep)))

def ExcX (dd : Addr) (name : Str) (X : List (Addr × Obj)) : Prop :=
  ∃ es n st nm ps q t1 t2 t3, X = [(dd, dictOf es n), (st, tupO [.str (Str.ofString "struct") t1, .ref nm, .ref ps]), (nm, tupO [.str (Str.ofString "name") t2, .str name t3, .ref q])] ∧ getL (Str.ofString "value") es = some (some (.ref st))

def TRet (h₀ : Heap) (L : Addr) (m : Str → Option Value) (news : List (Addr × Obj)) (s : Shared) (Q : Value → Shared → Prop) (name : Str) : Prop :=
  ∀ e t dd X h' tk', Fr h₀ L h' m → News h₀ L h' ((e, excO 52 t (some dd)) :: (X ++ news)) → (∀ p ∈ X ++ news, p.1 ≠ e) → ExcX dd name X → Q (.ref e) { s with heap := h', toks := tk' }

theorem TRet.out {h₀ h' : Heap} {L e t dd st nmA ps q a1 a2 : Addr} {t1 t2 t3 : Tok} {es : List DictEntry} {n : Nat} {o1 o2 : Obj} {m : Str → Option Value} {news rest : List (Addr × Obj)} {s : Shared} {tk' : Nat} {Q : Value → Shared → Prop} {name : Str} (H : TRet h₀ L m news s Q name) (F : Fr h₀ L h' m)
    (N : News h₀ L h' ((dd, dictOf es n) :: (a1, o1) :: (e, excO 52 t (some dd)) :: (a2, o2) :: (st, tupO [.str (Str.ofString "struct") t1, .ref nmA, .ref ps]) :: (nmA, tupO [.str (Str.ofString "name") t2, .str name t3, .ref q]) :: rest))
    (hs : ∀ p ∈ news, p ∈ rest) (hg : getL (Str.ofString "value") es = some (some (.ref st))) (hne : ∀ p ∈ (dd, dictOf es n) :: (st, tupO [.str (Str.ofString "struct") t1, .ref nmA, .ref ps]) :: (nmA, tupO [.str (Str.ofString "name") t2, .str name t3, .ref q]) :: news, p.1 ≠ e) : Q (.ref e) { s with heap := h', toks := tk' } :=
  H e t dd [(dd, dictOf es n), (st, tupO [.str (Str.ofString "struct") t1, .ref nmA, .ref ps]), (nmA, tupO [.str (Str.ofString "name") t2, .str name t3, .ref q])] h' tk' F (fun p hp => by
    rcases List.mem_cons.mp hp with rfl | hp
    · exact N _ (.tail _ (.tail _ (.head _)))
    · rcases List.mem_cons.mp hp with rfl | hp
      · exact N _ (.head _)
      · rcases List.mem_cons.mp hp with rfl | hp
        · exact N _ (.tail _ (.tail _ (.tail _ (.tail _ (.head _)))))
        · rcases List.mem_cons.mp hp with rfl | hp
          · exact N _ (.tail _ (.tail _ (.tail _ (.tail _ (.tail _ (.head _))))))
          · exact N _ (.tail _ (.tail _ (.tail _ (.tail _ (.tail _ (.tail _ (hs p hp)))))))) hne ⟨_, _, _, _, _, _, _, _, _, rfl, hg⟩

theorem thrown_spec {w : World} {mean : ExcName → Option Value} {mg mb : Str → Option Value} {nm : Str} {t : Tok} {emp : Addr} {news : List (Addr × Obj)} {dp un : Nat} {gd : Option (List Code)} {cn : Str} {cs : Scope} {a : Addr} {ccd : Value} {cl : List (Str × Addr)} {outer : List Env} {A₀ : Around} {base h₀ : Heap} {L : Addr} {m : Str → Option Value} {s : Shared} {Q E : Value → Shared → Prop}
    (B : Below A₀ base outer h₀) (F : Fr h₀ L s.heap m) (X : (hd.heap_39 w.params).In h₀) (N : News h₀ L s.heap ((emp, tupO []) :: news))
    (T : Top hd.view_39 (looseW hd.view_39 [Str.ofString "RowsError", Str.ofString "WIDTHS"]) mean mg mb h₀) (hck : cs.kind = .function) (hroom : dp + 8 < recursionLimit) (hun : un + 64 < cLine)
    (H : TRet h₀ L m news s Q nm) :
    wpAny (model PySem.Challenge.rw_pc0190_01.row.prog w) (ktrTop dp un gd cn cs L a ccd cl outer) (call (.ref 82) [.str nm t, .ref emp]) Q E s := by
  revert X; k_fill; intro X
  refine wpAny_call ?_
  k_dflt cell_enter
  k_steps
  refine' H.out ?F ?N ?hs ?hg ?hne
  (case F => assumption)
  (case N => assumption)
  (case hs => kcj_all)
  (case hg => rfl)
  (case hne =>
    intro p hp
    rcases List.mem_cons.mp hp with rfl | hp
    · refine neN ?_; dsimp only; omega
    rcases List.mem_cons.mp hp with rfl | hp
    · refine neN ?_; dsimp only; omega
    rcases List.mem_cons.mp hp with rfl | hp
    · refine neN ?_; dsimp only; omega
    · refine' allLt_ne ?hA ?hB p hp
      case hA => exact And.right (by assumption)
      case hB => omega)
end
section
theorem reset_ExcH : True := by
  w_top off
  trivial
local macro_rules | `(tactic| k_all) => `(tactic| (refine' allLt_ne ?a ?b; (case a => first | assumption | exact And.right (by assumption) | exact And.right (And.right (by assumption)) | exact And.right (And.right (And.right (by assumption))) | exact And.right (And.right (And.right (And.right (by assumption)))) | exact And.right (And.right (And.right (And.right (And.right (by assumption)))))); (case b => omega)))
local macro_rules | `(tactic| k_room) => `(tactic| ktr_room)
local macro_rules | `(tactic| walk_at "call ref") => `(tactic| k_dflt (refine' callXN ?k1 ?k2 ?k3 ?kC ?ki ?kf ?_; (case k1 => k_asm); (case k2 => k_asm); (case k3 => k_asm); (case kC => k_is); (case ki => k_is); (case kf => k_is); intro t' e' h' F' N' l1 l2; (try k_lt l1); (try k_lt2 l2); (try k_sweep); k_enter))
local macro_rules | `(tactic| walk_at "getMethod type:Exception") => `(tactic| (k_here; refine' method_type ?F ?X ?m (by decide +kernel) ?e ?h ?_; (case F => k_asm); (case X => k_asm); (case m => exact meta_Exception); (case e => k_dflt k_is); (case h => k_handed)))
local macro_rules | `(tactic| walk_at "call builtin:Exception.__init__") => `(tactic| k_dflt (refine' initEU ?k1 ?k2 ?k3 ?kC ?kU ?_; (case k1 => k_asm); (case k2 => k_asm); (case k3 => k_asm); (case kU => k_updF); (case kC => k_is); intro t' h' F' N' l1; (try dsimp only at N'); (try k_lt l1); (try k_sweep)))
local macro_rules | `(tactic| walk_at "setAttr ref") => `(tactic| k_dflt (refine' setE1U ?k1 ?k2 ?k3 ?kx ?kd ?kU ?ks ?kc ?ko ?kh ?kt ?kl ?ke ?kz ?_; (case k1 => k_asm); (case k2 => k_asm); (case k3 => k_asm); (case kx => k_mem); (case kd => k_mem); (case kU => k_updF); (case ks => k_is); (case kc => k_is); (case ko => rfl); (case kh => rfl); (case kt => k_is); (case kl => k_get); (case ke => k_put); (case kz => exact Nat.le_of_ble_eq_true rfl); intro h' tk' F' N'; (try dsimp only at N'); (try k_sweep)))
local macro_rules | `(tactic| walk_at "setAttr ref") => `(tactic| k_dflt (refine' setE0U ?k1 ?k2 ?k3 ?kU ?ks ?kc ?ko ?kh ?kt ?_; (case k1 => k_asm); (case k2 => k_asm); (case k3 => k_asm); (case kU => k_updF); (case ks => k_is); (case kc => k_is); (case ko => rfl); (case kh => rfl); (case kt => k_is); intro d' h' tk' tk'' F' N' l1; (try dsimp only at N'); (try k_lt l1); (try k_sweep)))


open PySem.Builtin in
theorem enc_lit (t u : Tok) : Gives (PySem.Builtin.«str.encode» ⟨[.str (Str.ofString "a divisor without room") t, .str (Str.ofString "utf-8") u], []⟩) (.bytes #[97,32,100,105,118,105,115,111,114,32,119,105,116,104,111,117,116,32,114,111,111,109]) := by
  first | exact .of_eq (by kernel_rfl) | exact .rule (.of_eq (by kernel_rfl))
theorem getEncode {M : Model} {A : Around} {E : Value → Shared → Prop} {s : Shared} {t : Tok} {pl : Sem Bool} {x : PySem.Str} {Q : Value × List Value → Shared → Prop} (h : Q (.builtin "str.encode", [.str x t]) s) : wpAny M A (getMethod (.str x t) (Str.ofString "encode") pl) Q E s := by
  exact GM.of (.str x t) (typeIs_str _ _ _) F.slot_str_encode F.type_str_encode GM.noRef h
theorem callEncode {prog : Program} {w : World} {A : Around} {E : Value → Shared → Prop} {s : Shared} {t u : Tok} {Q : Value → Shared → Prop} (h : ∀ b tk tk', Q (.bytes b tk) { s with toks := tk' }) : wpAny (model prog w) A (call (.builtin "str.encode") [.str (Str.ofString "a divisor without room") t, .str (Str.ofString "utf-8") u]) Q E s :=
  call_meets F.slot_str_encode (typeIs_str s _ t) F.entry_str_encode (F.args_str_encode_2 _ _) (enc_lit t u).meets ⟨by decide, h _ _ _⟩
local macro_rules | `(tactic| walk_at "getMethod str") => `(tactic| with_reducible refine getEncode ?_)
local macro_rules | `(tactic| walk_at "call builtin:str.encode") => `(tactic| (refine callEncode ?_; intro b' tk' tk''))

theorem thrown_text_spec {w : World} {mean : ExcName → Option Value} {mg mb : Str → Option Value} {nm : Str} {t t' : Tok} {news : List (Addr × Obj)} {dp un : Nat} {gd : Option (List Code)} {cn : Str} {cs : Scope} {a : Addr} {ccd : Value} {cl : List (Str × Addr)} {outer : List Env} {A₀ : Around} {base h₀ : Heap} {L : Addr} {m : Str → Option Value} {s : Shared} {Q E : Value → Shared → Prop}
    (B : Below A₀ base outer h₀) (F : Fr h₀ L s.heap m) (X : (hd.heap_39 w.params).In h₀) (N : News h₀ L s.heap news)
    (T : Top hd.view_39 (looseW hd.view_39 [Str.ofString "RowsError", Str.ofString "WIDTHS"]) mean mg mb h₀) (hck : cs.kind = .function) (hroom : dp + 8 < recursionLimit) (hun : un + 64 < cLine)
    (H : TRet h₀ L m news s Q nm) :
    wpAny (model PySem.Challenge.rw_pc0190_01.row.prog w) (ktrTop dp un gd cn cs L a ccd cl outer) (call (.ref 89) [.str nm t, .str (Str.ofString "a divisor without room") t']) Q E s := by
  revert X; k_fill; intro X
  refine wpAny_call ?_
  k_dflt cell_enter
  k_steps
  refine' H.out ?F ?N ?hs ?hg ?hne
  (case F => assumption)
  (case N => assumption)
  (case hs => kcj_all)
  (case hg => rfl)
  (case hne =>
    intro p hp
    rcases List.mem_cons.mp hp with rfl | hp
    · refine neN ?_; dsimp only; omega
    rcases List.mem_cons.mp hp with rfl | hp
    · refine neN ?_; dsimp only; omega
    rcases List.mem_cons.mp hp with rfl | hp
    · refine neN ?_; dsimp only; omega
    · refine' allLt_ne ?hA ?hB p hp
      case hA => exact And.right (by assumption)
      case hB => omega)
end
section
local macro_rules | `(tactic| walk_at "no such key") => `(tactic| fail)
local macro_rules | `(tactic| walk_at "no such key") => `(tactic| fail)
local macro_rules | `(tactic| walk_at "no such key") => `(tactic| fail)
local macro_rules | `(tactic| walk_at "no such key") => `(tactic| fail)
local macro_rules | `(tactic| walk_at "no such key") => `(tactic| fail)
local macro_rules | `(tactic| walk_at "no such key") => `(tactic| fail)
local macro_rules | `(tactic| walk_at "no such key") => `(tactic| fail)
local macro_rules | `(tactic| walk_at "no such key") => `(tactic| fail)
local macro_rules | `(tactic| walk_at "no such key") => `(tactic| fail)
local macro_rules | `(tactic| walk_at "no such key") => `(tactic| fail)
local macro_rules | `(tactic| walk_at "no such key") => `(tactic| fail)
local macro_rules | `(tactic| walk_at "no such key") => `(tactic| fail)
local macro_rules | `(tactic| walk_at "no such key") => `(tactic| fail)
local macro_rules | `(tactic| walk_at "no such key") => `(tactic| fail)
local macro_rules | `(tactic| walk_at "no such key") => `(tactic| fail)
local macro_rules | `(tactic| walk_at "no such key") => `(tactic| fail)
local macro_rules | `(tactic| walk_at "no such key") => `(tactic| fail)
local macro_rules | `(tactic| walk_at "no such key") => `(tactic| fail)
local macro_rules | `(tactic| walk_at "no such key") => `(tactic| fail)
local macro_rules | `(tactic| walk_at "no such key") => `(tactic| fail)
local macro_rules | `(tactic| walk_at "no such key") => `(tactic| fail)
local macro_rules | `(tactic| walk_at "no such key") => `(tactic| fail)
local macro_rules | `(tactic| walk_at "no such key") => `(tactic| fail)
local macro_rules | `(tactic| walk_at "no such key") => `(tactic| fail)
theorem reset_Kinds : True := by
  w_top off
  trivial
theorem is_signed_spec {w : World} {mean : ExcName → Option Value} {mg mb : Str → Option Value} (κ : Kind) (t : Tok) : PCl w mean mg mb 97 2 [.str κ.name t] (fun v => v = .bool κ.sgn) := by
  walk_at "pcl"
  cases κ
  all_goals (
    dsimp only [Kind.name, Kind.sgn]
    walk_at "enter"
    k_steps
    all_goals walk_at "out")

local macro_rules | `(tactic| walk_at "spec") => `(tactic| (first | exact is_signed_spec .i8 _ | exact is_signed_spec .u8 _ | exact is_signed_spec .i16 _ | exact is_signed_spec .u16 _ | exact is_signed_spec .i32 _ | exact is_signed_spec .u32 _ | exact is_signed_spec .i64 _ | exact is_signed_spec .u64 _ | exact is_signed_spec _ _))
theorem least_spec {w : World} {mean : ExcName → Option Value} {mg mb : Str → Option Value} (κ : Kind) (t : Tok) : PCl w mean mg mb 104 4 [.str κ.name t] (fun v => ∃ t, v = .int κ.lo t) := by
  walk_at "pcl"
  cases κ
  all_goals (
    dsimp only [Kind.name]
    walk_at "enter"
    k_steps
    all_goals walk_at "out")

theorem greatest_spec {w : World} {mean : ExcName → Option Value} {mg mb : Str → Option Value} (κ : Kind) (t : Tok) : PCl w mean mg mb 111 4 [.str κ.name t] (fun v => ∃ t, v = .int κ.hi t) := by
  walk_at "pcl"
  cases κ
  all_goals (
    dsimp only [Kind.name]
    walk_at "enter"
    k_steps
    all_goals walk_at "out")
local macro_rules | `(tactic| walk_at "spec") => `(tactic| (first | exact least_spec _ _ | exact greatest_spec _ _ | exact is_signed_spec _ _))
theorem fits_spec {w : World} {mean : ExcName → Option Value} {mg mb : Str → Option Value} (κ : Kind) (t t' : Tok) (n : Int) : PCl w mean mg mb 118 6 [.str κ.name t, .int n t'] (fun v => v = .bool (decide (κ.lo ≤ n) && decide (n ≤ κ.hi))) := by
  walk_at "pcl"
  walk_at "enter"
  k_steps
  all_goals walk_at "out"
local macro_rules | `(tactic| walk_at "spec") => `(tactic| exact fits_spec _ _ _ _)
end
section
theorem reset_Cut : True := by
  w_top off
  trivial
local macro_rules | `(tactic| walk_at "spec") => `(tactic| (first | exact is_signed_spec .i8 _ | exact is_signed_spec .u8 _ | exact is_signed_spec .i16 _ | exact is_signed_spec .u16 _ | exact is_signed_spec .i32 _ | exact is_signed_spec .u32 _ | exact is_signed_spec .i64 _ | exact is_signed_spec .u64 _ | exact is_signed_spec _ _))
local macro_rules | `(tactic| walk_at "spec") => `(tactic| (first | exact least_spec _ _ | exact greatest_spec _ _ | exact is_signed_spec _ _))
local macro_rules | `(tactic| walk_at "spec") => `(tactic| exact fits_spec _ _ _ _)
theorem Kind.lo_ge (κ : Kind) : -9223372036854775808 ≤ κ.lo := by cases κ <;> decide
theorem Kind.lo_le (κ : Kind) : κ.lo ≤ 0 := by cases κ <;> decide
theorem Kind.hi_ge (κ : Kind) : 127 ≤ κ.hi := by cases κ <;> decide
theorem Kind.hi_le (κ : Kind) : κ.hi ≤ 18446744073709551615 := by cases κ <;> decide
local macro_rules | `(tactic| walk_at "fin") => `(tactic| first | exact ⟨_, by rw [cut_same (by assumption)]⟩ | exact ⟨_, by rw [cut_diff (by assumption)]⟩)
theorem cut_quotient_spec {w : World} {mean : ExcName → Option Value} {mg mb : Str → Option Value} (a b : Int) (t t' : Tok) (hb : b ≠ 0) (h1 : -18446744073709551616 ≤ b) (h2 : b ≤ 18446744073709551616) : PCl w mean mg mb 153 4 [.int a t, .int b t'] (fun v => ∃ t, v = .int (a.tdiv b) t) := by
  walk_at "pcl"
  walk_at "enter"
  k_steps
  all_goals walk_at "out"
local macro_rules | `(tactic| walk_at "spec") => `(tactic| exact cut_quotient_spec _ _ _ _ (by omega) (by omega) (by omega))
end
section
local macro_rules | `(tactic| walk_at "no such key") => `(tactic| fail)
local macro_rules | `(tactic| walk_at "no such key") => `(tactic| fail)
local macro_rules | `(tactic| walk_at "no such key") => `(tactic| fail)
local macro_rules | `(tactic| walk_at "no such key") => `(tactic| fail)
local macro_rules | `(tactic| walk_at "no such key") => `(tactic| fail)
local macro_rules | `(tactic| walk_at "no such key") => `(tactic| fail)
local macro_rules | `(tactic| walk_at "no such key") => `(tactic| fail)
local macro_rules | `(tactic| walk_at "no such key") => `(tactic| fail)
local macro_rules | `(tactic| walk_at "no such key") => `(tactic| fail)
local macro_rules | `(tactic| walk_at "no such key") => `(tactic| fail)
local macro_rules | `(tactic| walk_at "no such key") => `(tactic| fail)
local macro_rules | `(tactic| walk_at "no such key") => `(tactic| fail)
local macro_rules | `(tactic| walk_at "no such key") => `(tactic| fail)
local macro_rules | `(tactic| walk_at "no such key") => `(tactic| fail)
local macro_rules | `(tactic| walk_at "no such key") => `(tactic| fail)
local macro_rules | `(tactic| walk_at "no such key") => `(tactic| fail)
local macro_rules | `(tactic| walk_at "no such key") => `(tactic| fail)
local macro_rules | `(tactic| walk_at "no such key") => `(tactic| fail)
local macro_rules | `(tactic| walk_at "no such key") => `(tactic| fail)
local macro_rules | `(tactic| walk_at "no such key") => `(tactic| fail)
local macro_rules | `(tactic| walk_at "no such key") => `(tactic| fail)
local macro_rules | `(tactic| walk_at "no such key") => `(tactic| fail)
local macro_rules | `(tactic| walk_at "no such key") => `(tactic| fail)
local macro_rules | `(tactic| walk_at "no such key") => `(tactic| fail)
theorem reset_Div : True := by
  w_top off
  trivial
local macro_rules | `(tactic| walk_at "spec") => `(tactic| (first | exact is_signed_spec .i8 _ | exact is_signed_spec .u8 _ | exact is_signed_spec .i16 _ | exact is_signed_spec .u16 _ | exact is_signed_spec .i32 _ | exact is_signed_spec .u32 _ | exact is_signed_spec .i64 _ | exact is_signed_spec .u64 _ | exact is_signed_spec _ _))
local macro_rules | `(tactic| walk_at "spec") => `(tactic| (first | exact least_spec _ _ | exact greatest_spec _ _ | exact is_signed_spec _ _))
local macro_rules | `(tactic| walk_at "spec") => `(tactic| exact fits_spec _ _ _ _)
local macro_rules | `(tactic| walk_at "spec") => `(tactic| exact cut_quotient_spec _ _ _ _ (by omega) (by omega) (by omega))
inductive Op where
  | div | rem | fld | mod
def Op.name : Op → Str
  | .div => Str.ofString "div"
  | .rem => Str.ofString "rem"
  | .fld => Str.ofString "fld"
  | .mod => Str.ofString "mod"
def Op.val : Op → Int → Int → Int
  | .div, a, b => a.tdiv b
  | .rem, a, b => a - b * a.tdiv b
  | .fld, a, b => a.fdiv b
  | .mod, a, b => a - b * a.fdiv b
def Op.bad (κ : Kind) : Op → Int → Int → Prop
  | .div, a, b => b = 0 ∨ ¬ (κ.lo ≤ a.tdiv b ∧ a.tdiv b ≤ κ.hi)
  | .fld, a, b => b = 0 ∨ ¬ (κ.lo ≤ a.fdiv b ∧ a.fdiv b ≤ κ.hi)
  | _, _, b => b = 0

def DExc (base h₀ : Heap) (L : Addr) (m : Str → Option Value) (envs : List Env) (news : List (Addr × Obj)) (s : Shared) (E : Value → Shared → Prop) (name : Str) (bad : Prop) : Prop :=
  bad → ∀ g e dd X h' tk', Fr h₀ L g m → RaisedD base g envs e (.ref 52) dd (X ++ news) h' → g.UpToSlots h' → ExcX dd name X → E (.ref e) { s with heap := h', toks := tk' }

/-- a def that may raise Thrown -/
def DCl (w : World) (mean : ExcName → Option Value) (mg mb : Str → Option Value) (f : Addr) (d : Nat) (vs : List Value) (R : Value → Prop) (name : Str) (bad : Prop) : Prop :=
  ∀ (news : List (Addr × Obj)) (dp un : Nat) (gd : Option (List Code)) (cn : Str) (cs : Scope) (a : Addr) (ccd : Value) (cl : List (Str × Addr)) (outer : List Env) (A₀ : Around) (base h₀ : Heap) (L : Addr) (m : Str → Option Value) (s : Shared) (Q E : Value → Shared → Prop),
    Below A₀ base outer h₀ → Fr h₀ L s.heap m → (hd.heap_39 w.params).In h₀ → News h₀ L s.heap news →
    Top hd.view_39 (looseW hd.view_39 [Str.ofString "RowsError", Str.ofString "WIDTHS"]) mean mg mb h₀ → cs.kind = .function → dp + d < recursionLimit → un + 8 * d < cLine →
    PRet h₀ L m news s Q R → DExc base h₀ L m (envX cn cs L a ccd cl :: outer) news s E name bad →
    wpAny (model PySem.Challenge.rw_pc0190_01.row.prog w) (ktrTop dp un gd cn cs L a ccd cl outer) (call (.ref f) vs) Q E s
theorem in_get {K : Frag} {h₀ h : Heap} {L : Addr} {m : Str → Option Value} {a : Addr} {o : Obj} (X : K.In h₀) (F : Fr h₀ L h m) (e : K.lookup a = some o) : h.get? a = some o := F.keep _ _ (X _ _ e)

local macro_rules | `(tactic| walk_at "call ref") => `(tactic| k_dflt (refine' thrown_spec ?B ?F ?X ?N ?T ?ck ?hr ?hu ?_; (case B => k_asm); (case F => k_asm); (case X => k_asm); (case N => k_asm); (case T => k_asm); (case ck => first | exact rfl | assumption); (case hr => ktr_room); (case hu => ktr_units); intro e' t' d' X' h' tk' F' N' n' x'; (try dsimp only); (try k_fold)))
local macro_rules | `(tactic| walk_at "exec Raise some none") => `(tactic| k_dflt (refine' raiseK (C := 52) ?hX ?hC ?hh ?_; (case hX => k_asm); (case hC => k_is); (case hh => exact rfl)))
local macro_rules | `(tactic| walk_at "Exists") => `(tactic| k_dflt (refine' ⟨_, _, _, rfl, Fr.keep ?hF, News.get ?hN (List.Mem.head _), ?_⟩; (case hF => k_asm); (case hN => k_asm)))
local macro_rules | `(tactic| walk_at "leaving ref") => `(tactic| k_dflt (refine' leaveD ?K ?F ?N ?hn ?_ ?hk; (case F => k_asm); (case K => k_asm); (case N => k_asm); (case hn => assumption); (case hk => exact rfl); intro h' R' U'; (try dsimp only)))

local macro_rules | `(tactic| walk_at "bad goal") => `(tactic| ((try (rename ((decide _ && decide _) = _) => hc; simp only [Bool.and_eq_true, Bool.and_eq_false_iff, decide_eq_true_eq, decide_eq_false_iff_not] at hc)); (try dsimp only [Op.bad]); omega))
local macro_rules | `(tactic| walk_at "fin") => `(tactic| (refine' ⟨?hb, _, rfl⟩; (case hb => walk_at "bad goal")))
local macro_rules | `(tactic| walk_at "dend") => `(tactic| ((rename DExc _ _ _ _ _ _ _ _ _ _ => hD); refine' hD ?hb _ _ _ _ _ _ ?F ?R ?U ?X; (case R => assumption); (case F => assumption); (case U => assumption); (case X => assumption); (case hb => walk_at "bad goal")))
local macro_rules | `(tactic| walk_at "ends") => `(tactic| first | walk_at "out" | walk_at "dend")
theorem divided_div {w : World} {mean : ExcName → Option Value} {mg mb : Str → Option Value} (κ : Kind) (a b : Int) (t1 t2 t3 t4 : Tok) (hb : κ.lo ≤ b ∧ b ≤ κ.hi) :
    DCl w mean mg mb 160 16 [.str κ.name t1, .str Op.div.name t2, .int a t3, .int b t4] (fun v => ¬ Op.div.bad κ a b ∧ ∃ t, v = .int (Op.div.val a b) t) (Str.ofString "DivideError") (Op.div.bad κ a b) := by
  unfold DCl; k_fill; intros
  have k1 := κ.lo_ge
  have k2 := κ.hi_le
  have k3 := κ.lo_le
  have k4 := κ.hi_ge
  dsimp only [Op.name]
  walk_at "enter"
  k_steps
  all_goals walk_at "ends"

theorem divided_rem {w : World} {mean : ExcName → Option Value} {mg mb : Str → Option Value} (κ : Kind) (a b : Int) (t1 t2 t3 t4 : Tok) (hb : κ.lo ≤ b ∧ b ≤ κ.hi) :
    DCl w mean mg mb 160 16 [.str κ.name t1, .str Op.rem.name t2, .int a t3, .int b t4] (fun v => ¬ Op.rem.bad κ a b ∧ ∃ t, v = .int (Op.rem.val a b) t) (Str.ofString "DivideError") (Op.rem.bad κ a b) := by
  unfold DCl; k_fill; intros
  have k1 := κ.lo_ge
  have k2 := κ.hi_le
  have k3 := κ.lo_le
  have k4 := κ.hi_ge
  dsimp only [Op.name]
  walk_at "enter"
  k_steps
  all_goals walk_at "ends"

theorem divided_fld {w : World} {mean : ExcName → Option Value} {mg mb : Str → Option Value} (κ : Kind) (a b : Int) (t1 t2 t3 t4 : Tok) (hb : κ.lo ≤ b ∧ b ≤ κ.hi) :
    DCl w mean mg mb 160 16 [.str κ.name t1, .str Op.fld.name t2, .int a t3, .int b t4] (fun v => ¬ Op.fld.bad κ a b ∧ ∃ t, v = .int (Op.fld.val a b) t) (Str.ofString "DivideError") (Op.fld.bad κ a b) := by
  unfold DCl; k_fill; intros
  have k1 := κ.lo_ge
  have k2 := κ.hi_le
  have k3 := κ.lo_le
  have k4 := κ.hi_ge
  dsimp only [Op.name]
  walk_at "enter"
  k_steps
  all_goals walk_at "ends"

theorem divided_mod {w : World} {mean : ExcName → Option Value} {mg mb : Str → Option Value} (κ : Kind) (a b : Int) (t1 t2 t3 t4 : Tok) (hb : κ.lo ≤ b ∧ b ≤ κ.hi) :
    DCl w mean mg mb 160 16 [.str κ.name t1, .str Op.mod.name t2, .int a t3, .int b t4] (fun v => ¬ Op.mod.bad κ a b ∧ ∃ t, v = .int (Op.mod.val a b) t) (Str.ofString "DivideError") (Op.mod.bad κ a b) := by
  unfold DCl; k_fill; intros
  have k1 := κ.lo_ge
  have k2 := κ.hi_le
  have k3 := κ.lo_le
  have k4 := κ.hi_ge
  dsimp only [Op.name]
  walk_at "enter"
  k_steps
  all_goals walk_at "ends"


theorem divided_spec {w : World} {mean : ExcName → Option Value} {mg mb : Str → Option Value} (κ : Kind) (op : Op) (a b : Int) (t1 t2 t3 t4 : Tok) (hb : κ.lo ≤ b ∧ b ≤ κ.hi) :
    DCl w mean mg mb 160 16 [.str κ.name t1, .str op.name t2, .int a t3, .int b t4] (fun v => ¬ op.bad κ a b ∧ ∃ t, v = .int (op.val a b) t) (Str.ofString "DivideError") (op.bad κ a b) := by
  cases op
  · exact divided_div κ a b t1 t2 t3 t4 hb
  · exact divided_rem κ a b t1 t2 t3 t4 hb
  · exact divided_fld κ a b t1 t2 t3 t4 hb
  · exact divided_mod κ a b t1 t2 t3 t4 hb
section
variable {w : World} {mean : ExcName → Option Value} {mg mb : Str → Option Value} {f : Addr} {d : Nat} {vs : List Value} {R : Value → Prop} {nme : Str} {bad : Prop}
 {news : List (Addr × Obj)} {dp un : Nat} {gd : Option (List Code)} {cn : Str} {cs : Scope} {a : Addr} {ccd : Value} {cl : List (Str × Addr)} {outer : List Env} {A₀ : Around} {base h₀ : Heap} {L : Addr} {m : Str → Option Value} {s : Shared} {Q E : Value → Shared → Prop}
theorem DCl.use (C : DCl w mean mg mb f d vs R nme bad) (B : Below A₀ base outer h₀) (F : Fr h₀ L s.heap m) (X : (hd.heap_39 w.params).In h₀) (N : News h₀ L s.heap news)
    (T : Top hd.view_39 (looseW hd.view_39 [Str.ofString "RowsError", Str.ofString "WIDTHS"]) mean mg mb h₀) (hk : cs.kind = .function) (hd : dp + d < recursionLimit) (hu : un + 8 * d < cLine)
    (h : ∀ v h' tk', R v → Fr h₀ L h' m → News h₀ L h' news → Q v { s with heap := h', toks := tk' })
    (hE : bad → ∀ g e dd X h' tk', Fr h₀ L g m → RaisedD base g (envX cn cs L a ccd cl :: outer) e (.ref 52) dd (X ++ news) h' → g.UpToSlots h' → ExcX dd nme X → E (.ref e) { s with heap := h', toks := tk' }) :
    wpAny (model PySem.Challenge.rw_pc0190_01.row.prog w) (ktrTop dp un gd cn cs L a ccd cl outer) (call (.ref f) vs) Q E s := C _ _ _ _ _ _ _ _ _ _ _ _ _ _ _ _ _ _ B F X N T hk hd hu h hE
end
end
section
theorem reset_Told : True := by
  w_top off
  trivial
local macro_rules | `(tactic| walk_at "spec") => `(tactic| (first | exact is_signed_spec .i8 _ | exact is_signed_spec .u8 _ | exact is_signed_spec .i16 _ | exact is_signed_spec .u16 _ | exact is_signed_spec .i32 _ | exact is_signed_spec .u32 _ | exact is_signed_spec .i64 _ | exact is_signed_spec .u64 _ | exact is_signed_spec _ _))
local macro_rules | `(tactic| walk_at "spec") => `(tactic| (first | exact least_spec _ _ | exact greatest_spec _ _ | exact is_signed_spec _ _))
local macro_rules | `(tactic| walk_at "spec") => `(tactic| exact fits_spec _ _ _ _)
local macro_rules | `(tactic| walk_at "spec") => `(tactic| exact cut_quotient_spec _ _ _ _ (by omega) (by omega) (by omega))
theorem instE {h : Heap} {x C dd : Addr} {oe od : Obj} {vs : Array Value} (hx : h.get? x = some oe) (hc : oe.cls = .ref C) (hd : oe.dict = some dd) (hv : oe.data = .fields vs) (hdd : h.get? dd = some od) : W.InstAt h x oe C (some od) :=
  ⟨hx, hc, by unfold notCls; rw [hv], by rw [hd]; exact hdd⟩

def SRet (w : World) (mean : ExcName → Option Value) (mg mb : Str → Option Value) (A₀ : Around) (base : Heap) (outer : List Env) (h₀ : Heap) (L : Addr) (m : Str → Option Value) (news : List (Addr × Obj)) (s : Shared) (Q : Value → Shared → Prop) (R : Value → Prop) : Prop :=
  ∀ v h₀' h' tk', R v → KtsTurn (outer.filterMap (·.frame)) h₀ h₀' → Fr h₀' L h' m → News h₀' L h' news → Below A₀ base outer h₀' → (hd.heap_39 w.params).In h₀' →
    Top hd.view_39 (looseW hd.view_39 [Str.ofString "RowsError", Str.ofString "WIDTHS"]) mean mg mb h₀' → KtsDicts (outer.filterMap (·.frame)) h₀' → Q v { s with heap := h', toks := tk' }
/-- a def that catches within -/
def SCl (w : World) (mean : ExcName → Option Value) (mg mb : Str → Option Value) (f : Addr) (d : Nat) (vs : List Value) (R : Value → Prop) : Prop :=
  ∀ (news : List (Addr × Obj)) (dp un : Nat) (gd : Option (List Code)) (cn : Str) (cs : Scope) (a : Addr) (ccd : Value) (outer : List Env) (A₀ : Around) (base h₀ : Heap) (L : Addr) (m : Str → Option Value) (s : Shared) (Q E : Value → Shared → Prop),
    Below A₀ base outer h₀ → Fr h₀ L s.heap m → (hd.heap_39 w.params).In h₀ → News h₀ L s.heap news →
    Top hd.view_39 (looseW hd.view_39 [Str.ofString "RowsError", Str.ofString "WIDTHS"]) mean mg mb h₀ → (hd.heap_39 w.params).In base →
    Top hd.view_39 (looseW hd.view_39 [Str.ofString "RowsError", Str.ofString "WIDTHS"]) mean mg mb base → KtsDicts (outer.filterMap (·.frame)) h₀ → cs.kind = .function → dp + d < recursionLimit → un + 8 * d < cLine →
    SRet w mean mg mb A₀ base outer h₀ L m news s Q R →
    wpAny (model PySem.Challenge.rw_pc0190_01.row.prog w) { handled := none, depth := dp, frames := some (envOf cn cs L a ccd :: outer), guards := gd, units := un } (call (.ref f) vs) Q E s

local macro_rules | `(tactic| walk_at "enterS") => `(tactic| (refine wpAny_call ?_; k_dflt (refine' code_defS ?k1 ?k2 ?k3 ?k4 ?k5 ?XB ?TB ?D ?T0 ?kA ?k6 ?k7 ?k8 ?k9 ?kB ?_ ?cK ?c2 ?c3 ?c4 ?c5; (case kA => exact rfl); (case k2 => k_asm); (case k1 => k_asm); (case XB => assumption); (case TB => assumption); (case D => assumption); (case T0 => exact KtsTurn.refl); (case k3 => k_asm); (case k4 => k_asm); (case k5 => k_asm); (case k6 => k_is); (case k7 => k_is); (case k8 => ktr_room); (case k9 => exact BindsTo.of_eq rfl); (case kB => exact locs rfl); (case cK => assumption); (case c2 => exact rfl); (case c3 => exact rfl); (case c4 => exact rfl); (case c5 => decide); k_whole; intro g' L' h' FG' F' N' B' X' T' D'; (try dsimp only); (try k_fold))))
local macro_rules | `(tactic| walk_at "call ref") => `(tactic| k_dflt (refine' DCl.use ?C ?B ?F ?X ?N ?T ?ck ?hr ?hu ?hQ ?hE; (case B => k_asm); (case F => k_asm); (case X => k_asm); (case N => k_asm); (case T => k_asm); (case C => walk_at "dspec"); (case ck => first | exact rfl | assumption); (case hr => ktr_room); (case hu => ktr_units); (case' hQ => (intro v9 h9 tk9 hR9 F9 N9; obtain ⟨hn9, t9, e9⟩ := hR9; subst e9; (try dsimp only); (try k_fold))); (case' hE => (intro hb9 g9 e9 d9 X9 h9 tk9 FG9 R9 U9 hX9; obtain ⟨es9, n9, st9, nm9, ps9, q9, ta9, tb9, tc9, eX9, hg9⟩ := hX9; subst eX9; (try dsimp only); (try k_fold)))))
local macro_rules | `(tactic| walk_at "dspec") => `(tactic| exact divided_spec _ _ _ _ _ _ _ _ (by assumption))
local macro_rules | `(tactic| walk_at "noteFrame ref") => `(tactic| (k_here; (rename RaisedD _ _ _ _ _ _ _ _ => rsX); k_dflt (refine' caughtD ?R ?F ?K ?U ?XB ?TB ?D ?T0 ?ex ?q ?_; (case R => assumption); (case F => assumption); (case K => assumption); (case U => assumption); (case XB => assumption); (case TB => assumption); (case D => assumption); (case T0 => first | assumption | exact KtsTurn.refl); (case ex => k_is); (case q => kts_isx); k_whole); intro h' g' oe' vs' tk' T' F' hc' hd' hv' N' K' X' P' D'; (try simp only [List.cons_append, List.nil_append] at N'); (try k_lift K'); (try k_sweep)))
local macro_rules | `(tactic| walk_at "getAttr ref") => `(tactic| k_dflt (refine' getE ?X ?I ?ga ?gt ?gm ?gf ?gh ?_; (case I => exact instE (News.get (by k_asm) (List.Mem.head _)) (by assumption) (by assumption) (by assumption) (News.get (by k_asm) (List.Mem.tail _ (List.Mem.head _)))); (case X => k_in); (case ga => k_is); (case gt => k_is); (case gm => k_is); (case gf => exact findObj_own (by k_is) (by k_is) (by k_is) (by assumption)); (case gh => exact rfl)))

local macro_rules | `(tactic| walk_at "sout") => `(tactic| ((rename SRet _ _ _ _ _ _ _ _ _ _ _ _ _ _ => hS); refine' hS _ _ _ _ ?hR ?hF0 ?F ?N ?B ?X ?P ?D; (case F => k_asm); (case N => refine' cb_drop ?N1 ?N2; (case N1 => k_asm); (case N2 => walk_at "sub")); (case hF0 => first | assumption | exact KtsTurn.refl); (case B => assumption); (case X => assumption); (case P => assumption); (case D => assumption); (case hR => walk_at "fin")))
local macro_rules | `(tactic| walk_at "fin") => `(tactic| first | exact Or.inl ⟨by assumption, _, rfl⟩ | exact Or.inr ⟨by assumption, _, rfl⟩)
theorem told_spec {w : World} {mean : ExcName → Option Value} {mg mb : Str → Option Value} (κ : Kind) (op : Op) (a b : Int) (t1 t2 t3 t4 : Tok) (hb : κ.lo ≤ b ∧ b ≤ κ.hi) :
    SCl w mean mg mb 209 20 [.str κ.name t1, .str op.name t2, .int a t3, .int b t4] (fun v => (¬ op.bad κ a b ∧ ∃ t, v = .int (op.val a b) t) ∨ (op.bad κ a b ∧ ∃ t, v = .str (Str.ofString "DivideError") t)) := by
  unfold SCl; k_fill; intros
  walk_at "enterS"
  k_steps
  all_goals walk_at "sout"
end
section
local macro_rules | `(tactic| walk_at "no such key") => `(tactic| fail)
local macro_rules | `(tactic| walk_at "no such key") => `(tactic| fail)
local macro_rules | `(tactic| walk_at "no such key") => `(tactic| fail)
local macro_rules | `(tactic| walk_at "no such key") => `(tactic| fail)
local macro_rules | `(tactic| walk_at "no such key") => `(tactic| fail)
local macro_rules | `(tactic| walk_at "no such key") => `(tactic| fail)
local macro_rules | `(tactic| walk_at "no such key") => `(tactic| fail)
local macro_rules | `(tactic| walk_at "no such key") => `(tactic| fail)
local macro_rules | `(tactic| walk_at "no such key") => `(tactic| fail)
local macro_rules | `(tactic| walk_at "no such key") => `(tactic| fail)
local macro_rules | `(tactic| walk_at "no such key") => `(tactic| fail)
local macro_rules | `(tactic| walk_at "no such key") => `(tactic| fail)
local macro_rules | `(tactic| walk_at "no such key") => `(tactic| fail)
local macro_rules | `(tactic| walk_at "no such key") => `(tactic| fail)
local macro_rules | `(tactic| walk_at "no such key") => `(tactic| fail)
local macro_rules | `(tactic| walk_at "no such key") => `(tactic| fail)
local macro_rules | `(tactic| walk_at "no such key") => `(tactic| fail)
local macro_rules | `(tactic| walk_at "no such key") => `(tactic| fail)
local macro_rules | `(tactic| walk_at "no such key") => `(tactic| fail)
local macro_rules | `(tactic| walk_at "no such key") => `(tactic| fail)
local macro_rules | `(tactic| walk_at "no such key") => `(tactic| fail)
local macro_rules | `(tactic| walk_at "no such key") => `(tactic| fail)
local macro_rules | `(tactic| walk_at "no such key") => `(tactic| fail)
local macro_rules | `(tactic| walk_at "no such key") => `(tactic| fail)
theorem reset_Span : True := by
  w_top off
  trivial
local macro_rules | `(tactic| walk_at "spec") => `(tactic| (first | exact is_signed_spec .i8 _ | exact is_signed_spec .u8 _ | exact is_signed_spec .i16 _ | exact is_signed_spec .u16 _ | exact is_signed_spec .i32 _ | exact is_signed_spec .u32 _ | exact is_signed_spec .i64 _ | exact is_signed_spec .u64 _ | exact is_signed_spec _ _))
local macro_rules | `(tactic| walk_at "spec") => `(tactic| (first | exact least_spec _ _ | exact greatest_spec _ _ | exact is_signed_spec _ _))
local macro_rules | `(tactic| walk_at "spec") => `(tactic| exact fits_spec _ _ _ _)
/-- a def that returns a fresh tuple -/
def NRet (h₀ : Heap) (L : Addr) (m : Str → Option Value) (news : List (Addr × Obj)) (s : Shared) (Q : Value → Shared → Prop) (R : List Value → Prop) : Prop :=
  ∀ x vs h' tk', R vs → Fr h₀ L h' m → News h₀ L h' ((x, ({ cls := .type "tuple", data := .seq vs.toArray } : Obj)) :: news) → AllLt x news → Q (.ref x) { s with heap := h', toks := tk' }
def NCl (w : World) (mean : ExcName → Option Value) (mg mb : Str → Option Value) (f : Addr) (d : Nat) (vs : List Value) (R : List Value → Prop) : Prop :=
  ∀ (news : List (Addr × Obj)) (dp un : Nat) (gd : Option (List Code)) (cn : Str) (cs : Scope) (a : Addr) (ccd : Value) (cl : List (Str × Addr)) (outer : List Env) (A₀ : Around) (base h₀ : Heap) (L : Addr) (m : Str → Option Value) (s : Shared) (Q E : Value → Shared → Prop),
    Below A₀ base outer h₀ → Fr h₀ L s.heap m → (hd.heap_39 w.params).In h₀ → News h₀ L s.heap news →
    Top hd.view_39 (looseW hd.view_39 [Str.ofString "RowsError", Str.ofString "WIDTHS"]) mean mg mb h₀ → cs.kind = .function → dp + d < recursionLimit → un + 8 * d < cLine →
    NRet h₀ L m news s Q R →
    wpAny (model PySem.Challenge.rw_pc0190_01.row.prog w) (ktrTop dp un gd cn cs L a ccd cl outer) (call (.ref f) vs) Q E s
section
variable {w : World} {mean : ExcName → Option Value} {mg mb : Str → Option Value} {f : Addr} {d : Nat} {vs : List Value} {R : List Value → Prop}
 {news : List (Addr × Obj)} {dp un : Nat} {gd : Option (List Code)} {cn : Str} {cs : Scope} {a : Addr} {ccd : Value} {cl : List (Str × Addr)} {outer : List Env} {A₀ : Around} {base h₀ : Heap} {L : Addr} {m : Str → Option Value} {s : Shared} {Q E : Value → Shared → Prop}
theorem NCl.use (C : NCl w mean mg mb f d vs R) (B : Below A₀ base outer h₀) (F : Fr h₀ L s.heap m) (X : (hd.heap_39 w.params).In h₀) (N : News h₀ L s.heap news)
    (T : Top hd.view_39 (looseW hd.view_39 [Str.ofString "RowsError", Str.ofString "WIDTHS"]) mean mg mb h₀) (hk : cs.kind = .function) (hd : dp + d < recursionLimit) (hu : un + 8 * d < cLine)
    (h : ∀ x vs h' tk', R vs → Fr h₀ L h' m → News h₀ L h' ((x, ({ cls := .type "tuple", data := .seq vs.toArray } : Obj)) :: news) → AllLt x news → Q (.ref x) { s with heap := h', toks := tk' }) :
    wpAny (model PySem.Challenge.rw_pc0190_01.row.prog w) (ktrTop dp un gd cn cs L a ccd cl outer) (call (.ref f) vs) Q E s := C _ _ _ _ _ _ _ _ _ _ _ _ _ _ _ _ _ _ B F X N T hk hd hu h
end
local macro_rules | `(tactic| walk_at "nout") => `(tactic| ((rename NRet _ _ _ _ _ _ _ => hN); refine' hN _ _ _ _ ?R ?F ?N ?l; (case F => k_asm); (case N => k_asm); (case l => first | assumption | exact allLt_of (by assumption)); (case R => exact ⟨_, _, by with_unfolding_all rfl⟩)))
theorem span_spec {w : World} {mean : ExcName → Option Value} {mg mb : Str → Option Value} (κ : Kind) (t : Tok) : NCl w mean mg mb 195 4 [.str κ.name t] (fun vs => ∃ t t', vs = [.int κ.lo t, .int κ.hi t']) := by
  unfold NCl; k_fill; intros
  cases κ
  all_goals (
    dsimp only [Kind.name]
    walk_at "enter"
    repeat' (first | (k_unfold; (try dsimp only)) | ((try dsimp only); walk1))
    walk_at "nout")
end
section
local macro_rules | `(tactic| walk_at "spec") => `(tactic| (first | exact is_signed_spec .i8 _ | exact is_signed_spec .u8 _ | exact is_signed_spec .i16 _ | exact is_signed_spec .u16 _ | exact is_signed_spec .i32 _ | exact is_signed_spec .u32 _ | exact is_signed_spec .i64 _ | exact is_signed_spec .u64 _ | exact is_signed_spec _ _))
local macro_rules | `(tactic| walk_at "spec") => `(tactic| (first | exact least_spec _ _ | exact greatest_spec _ _ | exact is_signed_spec _ _))
local macro_rules | `(tactic| walk_at "spec") => `(tactic| exact fits_spec _ _ _ _)
local macro_rules | `(tactic| walk_at "spec") => `(tactic| exact cut_quotient_spec _ _ _ _ (by omega) (by omega) (by omega))
/-- what is known of a rest r of a by b, with the quotient q and the number fo whose sign it follows -/
structure RemF (a b q r fo : Int) : Prop where
  lo1 : 0 < b → -b < r ∧ r < b
  lo2 : b < 0 → b < r ∧ r < -b
  sg : r ≠ 0 → (0 < r ↔ 0 < fo)
  eq : a - r = q * b
  md : (a - r).fmod b = 0
theorem remF_rem {a b : Int} (hb : b ≠ 0) : RemF a b (a.tdiv b) (a - b * a.tdiv b) a := by
  have e : a - b * a.tdiv b = a.tmod b := by have := Int.mul_tdiv_add_tmod a b; omega
  have h1 := Int.tmod_lt_of_pos a (b := b)
  have h2 := Int.natAbs_tmod a b
  have hlt : (a.tmod b).natAbs < b.natAbs := by
    rw [h2]; exact Nat.mod_lt _ (by omega)
  refine ⟨fun h => ?_, fun h => ?_, fun h => ?_, ?_, ?_⟩
  · rw [e]; omega
  · rw [e]; omega
  · rw [e] at h ⊢
    by_cases ha : 0 ≤ a
    · have := Int.tmod_nonneg b ha
      constructor
      · intro _
        by_cases h0 : a = 0
        · subst h0; simp at h
        · omega
      · intro _; omega
    · have h3 : 0 ≤ (-a).tmod b := Int.tmod_nonneg b (by omega)
      rw [Int.neg_tmod] at h3
      omega
  · have : b * a.tdiv b = a.tdiv b * b := Int.mul_comm _ _
    omega
  · have : a - (a - b * a.tdiv b) = b * a.tdiv b := by omega
    rw [this]; exact Int.mul_fmod_right _ _
theorem remF_mod {a b : Int} (hb : b ≠ 0) : RemF a b (a.fdiv b) (a - b * a.fdiv b) b := by
  have e : a - b * a.fdiv b = a.fmod b := by have := Int.mul_fdiv_add_fmod a b; omega
  refine ⟨fun h => ?_, fun h => ?_, fun h => ?_, ?_, ?_⟩
  · rw [e]
    have := Int.fmod_nonneg_of_pos a h
    have := Int.fmod_lt_of_pos a h
    omega
  · rw [e]
    have h1 := Int.fmod_nonneg_of_pos (-a) (b := -b) (by omega)
    have h2 := Int.fmod_lt_of_pos (-a) (b := -b) (by omega)
    rw [Int.neg_fmod_neg] at h1 h2
    omega
  · rw [e] at h ⊢
    by_cases hp : 0 < b
    · have := Int.fmod_nonneg_of_pos a hp
      omega
    · have h1 := Int.fmod_nonneg_of_pos (-a) (b := -b) (by omega)
      rw [Int.neg_fmod_neg] at h1
      omega
  · have : b * a.fdiv b = a.fdiv b * b := Int.mul_comm _ _
    omega
  · have : a - (a - b * a.fdiv b) = b * a.fdiv b := by omega
    rw [this]; exact Int.mul_fmod_right _ _

theorem Kind.shape (κ : Kind) : κ.lo = 0 ∨ κ.hi = -κ.lo - 1 := by cases κ <;> decide
theorem Kind.lo_cases (κ : Kind) : κ.lo = 0 ∨ κ.lo ≤ -128 := by cases κ <;> decide
theorem fit_q (κ : Kind) {a b q r fo : Int} (H : RemF a b q r fo) (hb : b ≠ 0) (ha1 : κ.lo ≤ a) (ha2 : a ≤ κ.hi) (hb1 : κ.lo ≤ b) : (κ.lo ≤ q ∧ q ≤ κ.hi) ↔ ¬ (a = κ.lo ∧ b = -1) := by
  obtain ⟨l1, l2, _, eq, _⟩ := H
  have k1 : 127 ≤ κ.hi := by cases κ <;> decide
  have k2 := κ.shape
  have k3 := κ.lo_cases
  by_cases c1 : b = 1
  · subst c1; omega
  by_cases c2 : b = -1
  · subst c2; omega
  have c : ¬ (a = κ.lo ∧ b = -1) := fun h => c2 h.2
  refine ⟨fun _ => c, fun _ => ?_⟩
  by_cases hp : 0 < b
  · have hb2 : 2 ≤ b := by omega
    have h := l1 hp
    constructor
    · refine Int.not_lt.mp fun hq => ?_
      have h1 : (q + 1) * b ≤ (q + 1) * 2 := Int.mul_le_mul_of_nonpos_left (by omega) hb2
      have h2 : (q + 1) * b = q * b + b := by rw [Int.add_mul, Int.one_mul]
      omega
    · refine Int.not_lt.mp fun hq => ?_
      have h1 : (q - 1) * 2 ≤ (q - 1) * b := Int.mul_le_mul_of_nonneg_left hb2 (by omega)
      have h2 : (q - 1) * b = q * b - b := by rw [Int.sub_mul, Int.one_mul]
      omega
  · have hb2 : b ≤ -2 := by omega
    have h := l2 (by omega)
    constructor
    · refine Int.not_lt.mp fun hq => ?_
      have h1 : (q + 1) * (-2) ≤ (q + 1) * b := Int.mul_le_mul_of_nonpos_left (by omega) hb2
      have h2 : (q + 1) * b = q * b + b := by rw [Int.add_mul, Int.one_mul]
      omega
    · refine Int.not_lt.mp fun hq => ?_
      have h1 : (q - 1) * b ≤ (q - 1) * (-2) := Int.mul_le_mul_of_nonneg_left hb2 (by omega)
      have h2 : (q - 1) * b = q * b - b := by rw [Int.sub_mul, Int.one_mul]
      omega
/-- the two pairs of words, their quotient, what the rest's sign follows -/
inductive Pr where
  | t | f
def Pr.q : Pr → Op
  | .t => .div
  | .f => .fld
def Pr.r : Pr → Op
  | .t => .rem
  | .f => .mod
def Pr.fo : Pr → Int → Int → Int
  | .t, a, _ => a
  | .f, _, b => b
theorem Pr.remF (p : Pr) {a b : Int} (hb : b ≠ 0) : RemF a b (p.q.val a b) (p.r.val a b) (p.fo a b) := by
  cases p
  · exact remF_rem hb
  · exact remF_mod hb
theorem Pr.bad_r (p : Pr) (κ : Kind) (a b : Int) : p.r.bad κ a b ↔ b = 0 := by cases p <;> rfl
theorem Pr.bad_q (p : Pr) (κ : Kind) {a b : Int} (ha1 : κ.lo ≤ a) (ha2 : a ≤ κ.hi) (hb1 : κ.lo ≤ b) : p.q.bad κ a b ↔ (b = 0 ∨ (a = κ.lo ∧ b = -1)) := by
  have e : p.q.bad κ a b ↔ (b = 0 ∨ ¬ (κ.lo ≤ p.q.val a b ∧ p.q.val a b ≤ κ.hi)) := by cases p <;> rfl
  rw [e]
  by_cases hb : b = 0
  · simp [hb]
  · have h := fit_q κ (p.remF (a := a) hb) hb ha1 ha2 hb1
    rw [h]
    simp
end
section
theorem reset_Pair : True := by
  w_top off
  trivial
local macro_rules | `(tactic| walk_at "spec") => `(tactic| (first | exact is_signed_spec .i8 _ | exact is_signed_spec .u8 _ | exact is_signed_spec .i16 _ | exact is_signed_spec .u16 _ | exact is_signed_spec .i32 _ | exact is_signed_spec .u32 _ | exact is_signed_spec .i64 _ | exact is_signed_spec .u64 _ | exact is_signed_spec _ _))
local macro_rules | `(tactic| walk_at "spec") => `(tactic| (first | exact least_spec _ _ | exact greatest_spec _ _ | exact is_signed_spec _ _))
local macro_rules | `(tactic| walk_at "spec") => `(tactic| exact fits_spec _ _ _ _)
local macro_rules | `(tactic| walk_at "spec") => `(tactic| exact cut_quotient_spec _ _ _ _ (by omega) (by omega) (by omega))
section
variable {w : World} {mean : ExcName → Option Value} {mg mb : Str → Option Value} {f : Addr} {d : Nat} {vs : List Value} {R : Value → Prop}
 {news : List (Addr × Obj)} {dp un : Nat} {gd : Option (List Code)} {cn : Str} {cs : Scope} {a : Addr} {ccd : Value} {outer : List Env} {A₀ : Around} {base g₀ h₀ : Heap} {L : Addr} {m : Str → Option Value} {s : Shared} {Q E : Value → Shared → Prop}
theorem SCl.use (C : SCl w mean mg mb f d vs R) (B : Below A₀ base outer h₀) (F : Fr h₀ L s.heap m) (X : (hd.heap_39 w.params).In h₀) (N : News h₀ L s.heap news)
    (T : Top hd.view_39 (looseW hd.view_39 [Str.ofString "RowsError", Str.ofString "WIDTHS"]) mean mg mb h₀) (XB : (hd.heap_39 w.params).In base)
    (TB : Top hd.view_39 (looseW hd.view_39 [Str.ofString "RowsError", Str.ofString "WIDTHS"]) mean mg mb base) (D : KtsDicts (outer.filterMap (·.frame)) h₀) (T0 : KtsTurn (outer.filterMap (·.frame)) g₀ h₀) (hk : cs.kind = .function) (hdp : dp + d < recursionLimit) (hu : un + 8 * d < cLine)
    (h : ∀ v h₀' h' tk', R v → KtsTurn (outer.filterMap (·.frame)) g₀ h₀' → Fr h₀' L h' m → News h₀' L h' news → Below A₀ base outer h₀' → (hd.heap_39 w.params).In h₀' →
      Top hd.view_39 (looseW hd.view_39 [Str.ofString "RowsError", Str.ofString "WIDTHS"]) mean mg mb h₀' → KtsDicts (outer.filterMap (·.frame)) h₀' → Q v { s with heap := h', toks := tk' }) :
    wpAny (model PySem.Challenge.rw_pc0190_01.row.prog w) { handled := none, depth := dp, frames := some (envOf cn cs L a ccd :: outer), guards := gd, units := un } (call (.ref f) vs) Q E s :=
  C _ _ _ _ _ _ _ _ _ _ _ _ _ _ _ _ _ B F X N T XB TB D hk hdp hu fun v h₀' h' tk' hR T1 => h v h₀' h' tk' hR (T0.trans T1)
end
theorem told_q {w : World} {mean : ExcName → Option Value} {mg mb : Str → Option Value} (p : Pr) (κ : Kind) (a b : Int) (t1 t2 t3 t4 : Tok) (ha1 : κ.lo ≤ a) (ha2 : a ≤ κ.hi) (hb1 : κ.lo ≤ b) (hb2 : b ≤ κ.hi) :
    SCl w mean mg mb 209 20 [.str κ.name t1, .str p.q.name t2, .int a t3, .int b t4] (fun v => (∃ q t, v = .int q t ∧ b ≠ 0 ∧ ¬ (a = κ.lo ∧ b = -1) ∧ q = p.q.val a b) ∨ (∃ t, v = .str (Str.ofString "DivideError") t ∧ (b = 0 ∨ (a = κ.lo ∧ b = -1)))) := by
  intro news dp un gd cn cs fa ccd outer A₀ base h₀ L m s Q E B F X N T XB TB D hk hd hu hS
  refine told_spec κ p.q a b t1 t2 t3 t4 ⟨hb1, hb2⟩ news dp un gd cn cs fa ccd outer A₀ base h₀ L m s Q E B F X N T XB TB D hk hd hu fun v h₀' h' tk' hR => hS v h₀' h' tk' ?_
  rw [p.bad_q κ ha1 ha2 hb1] at hR
  rcases hR with ⟨hn, t, rfl⟩ | ⟨hn, t, rfl⟩
  · exact .inl ⟨_, t, rfl, fun h => hn (.inl h), fun h => hn (.inr h), rfl⟩
  · exact .inr ⟨t, rfl, hn⟩
theorem told_r {w : World} {mean : ExcName → Option Value} {mg mb : Str → Option Value} (p : Pr) (κ : Kind) (a b : Int) (t1 t2 t3 t4 : Tok) (hb1 : κ.lo ≤ b) (hb2 : b ≤ κ.hi) :
    SCl w mean mg mb 209 20 [.str κ.name t1, .str p.r.name t2, .int a t3, .int b t4] (fun v => (∃ r t, v = .int r t ∧ b ≠ 0 ∧ ¬ ((if b < 0 then -b else b) ≤ if r < 0 then -r else r) ∧ (a - r).fmod b = 0 ∧ (r ≠ 0 → (decide (0 < r) != decide (0 < p.fo a b)) = false) ∧ ∀ q, q = p.q.val a b → q * b = a - r) ∨ (∃ t, v = .str (Str.ofString "DivideError") t ∧ b = 0)) := by
  intro news dp un gd cn cs fa ccd outer A₀ base h₀ L m s Q E B F X N T XB TB D hk hd hu hS
  refine told_spec κ p.r a b t1 t2 t3 t4 ⟨hb1, hb2⟩ news dp un gd cn cs fa ccd outer A₀ base h₀ L m s Q E B F X N T XB TB D hk hd hu fun v h₀' h' tk' hR => hS v h₀' h' tk' ?_
  rw [p.bad_r κ] at hR
  rcases hR with ⟨hn, t, rfl⟩ | ⟨hn, t, rfl⟩
  · obtain ⟨l1, l2, l3, l4, l5⟩ := p.remF (a := a) hn
    refine .inl ⟨_, t, rfl, hn, ?_, l5, fun h => ?_, fun q hq => by rw [hq]; exact l4.symm⟩
    · split <;> split <;> omega
    · have := l3 h
      by_cases c : 0 < p.r.val a b
      · simp [c, this.mp c]
      · have c' : ¬ 0 < p.fo a b := fun z => c (this.mpr z)
        simp [c, c']
  · exact .inr ⟨t, rfl, hn⟩

def PairCl (w : World) (mean : ExcName → Option Value) (mg mb : Str → Option Value) (p : Pr) (κ : Kind) (x y : Int) : Prop :=
  ∀ (t1 t2 t3 t4 t5 t6 : Tok) (wd : Addr) (news : List (Addr × Obj)) (dp un : Nat) (gd : Option (List Code)) (cn : Str) (cs : Scope) (a : Addr) (ccd : Value) (A₀ : Around) (base h₀ : Heap) (L : Addr) (m : Str → Option Value) (s : Shared) (Q E : Value → Shared → Prop),
    Below A₀ base [] h₀ → Fr h₀ L s.heap m → (hd.heap_39 w.params).In h₀ → News h₀ L s.heap ((wd, ({ cls := .type "tuple", data := .seq #[.str p.q.name t5, .str p.r.name t6] } : Obj)) :: news) →
    Top hd.view_39 (looseW hd.view_39 [Str.ofString "RowsError", Str.ofString "WIDTHS"]) mean mg mb h₀ → (hd.heap_39 w.params).In base →
    Top hd.view_39 (looseW hd.view_39 [Str.ofString "RowsError", Str.ofString "WIDTHS"]) mean mg mb base → cs.kind = .function → dp + 30 < recursionLimit → un + 8 * 30 < cLine →
    PRet h₀ L m ((wd, ({ cls := .type "tuple", data := .seq #[.str p.q.name t5, .str p.r.name t6] } : Obj)) :: news) s Q (fun v => v = .bool true) →
    wpAny (model PySem.Challenge.rw_pc0190_01.row.prog w) { handled := none, depth := dp, frames := some [envOf cn cs L a ccd], guards := gd, units := un } (call (.ref 216) [.str κ.name t1, .int x t2, .int y t3, .ref wd, .int (p.fo x y) t4]) Q E s

local macro_rules | `(tactic| walk_at "enterS0") => `(tactic| (refine wpAny_call ?_; k_dflt (refine' code_defS0 ?k1 ?k2 ?k3 ?k4 ?k5 ?kA ?k6 ?k7 ?k8 ?k9 ?kB ?_ ?cK ?c2 ?c3 ?c4 ?c5; (case kA => exact rfl); (case k2 => k_asm); (case k1 => k_asm); (case k3 => k_asm); (case k4 => k_asm); (case k5 => k_asm); (case k6 => k_is); (case k7 => k_is); (case k8 => ktr_room); (case k9 => exact BindsTo.of_eq rfl); (case kB => exact locs rfl); (case cK => assumption); (case c2 => exact rfl); (case c3 => exact rfl); (case c4 => exact rfl); (case c5 => decide); k_whole; intro g' L' h' FG' F' N' B' X' T' D'; (try dsimp only); (try k_fold))))
local macro_rules | `(tactic| walk_at "call ref") => `(tactic| k_dflt (refine' SCl.use ?C ?B ?F ?X ?N ?T ?XB ?TB ?D ?T0 ?ck ?hr ?hu ?_; (case F => k_asm); (case B => assumption); (case X => k_asm); (case N => k_asm); (case T => k_asm); (case XB => assumption); (case TB => assumption); (case C => exact told_q _ _ _ _ _ _ _ _ (by assumption) (by assumption) (by assumption) (by assumption)); (case D => assumption); (case T0 => first | assumption | exact KtsTurn.refl); (case ck => first | exact rfl | assumption); (case hr => ktr_room); (case hu => ktr_units); intro v9 g9 h9 tk9 hR9 T9 F9 N9 B9 X9 P9 D9; (try dsimp only at hR9); rcases hR9 with ⟨x9, t9, e9, p91, p92, p93⟩ | ⟨t9, e9, p9⟩ <;> (subst e9; (try dsimp only); (try k_sweep); (try k_fold))))
local macro_rules | `(tactic| walk_at "call ref") => `(tactic| k_dflt (refine' SCl.use ?C ?B ?F ?X ?N ?T ?XB ?TB ?D ?T0 ?ck ?hr ?hu ?_; (case F => k_asm); (case B => assumption); (case X => k_asm); (case N => k_asm); (case T => k_asm); (case XB => assumption); (case TB => assumption); (case C => exact told_r _ _ _ _ _ _ _ _ (by assumption) (by assumption)); (case D => assumption); (case T0 => first | assumption | exact KtsTurn.refl); (case ck => first | exact rfl | assumption); (case hr => ktr_room); (case hu => ktr_units); intro v9 g9 h9 tk9 hR9 T9 F9 N9 B9 X9 P9 D9; (try dsimp only at hR9); rcases hR9 with ⟨x9, t9, e9, p91, p92, p93, p94, p95⟩ | ⟨t9, e9, p9⟩ <;> (subst e9; (try dsimp only); (try k_sweep); (try k_fold))))
local macro_rules | `(tactic| walk_at "call ref") => `(tactic| k_dflt (refine' NCl.use ?kC ?k1 ?k2 ?k3 ?k4 ?k5 ?kK ?kd ?ku ?_; (case k2 => k_asm); (case k1 => k_asm); (case k3 => k_asm); (case k4 => k_asm); (case k5 => k_asm); (case kC => exact span_spec _ _); (case kK => first | exact rfl | assumption); (case kd => ktr_room); (case ku => ktr_units); intro x9 v9 h9 tk9 hR9 F9 N9 l9; obtain ⟨t9, u9, e9⟩ := hR9; subst e9; (try dsimp only); (try k_sweep); (try k_fold)))

theorem end_sgn {r : Int} {b : Bool} {v w : Value} (h : r ≠ 0 → b = false) (hr : r ≠ 0) (hb : b = true) : v = w := by rw [h hr] at hb; cases hb
theorem end_mul {a c q' y : Int} (h : ∀ q, q = q' → q * y = c) (hq : a = q') : Value.bool (a * y == c) = Value.bool true := by rw [h a hq]; simp
theorem end_str {x : Str} : Value.bool (x == x) = Value.bool true := by simp
theorem end_and {A B : Prop} {v w : Value} (h : ¬ (A ∧ B)) (ha : A) (hb : B) : v = w := absurd ⟨ha, hb⟩ h
theorem end_or1 {A B C : Prop} {v w : Value} (h : A ∨ (B ∧ C)) (ha : ¬ A) (hb : ¬ B) : v = w := absurd h fun z => z.elim ha fun y => hb y.1
theorem end_or2 {A B C : Prop} {v w : Value} (h : A ∨ (B ∧ C)) (ha : ¬ A) (hb : ¬ C) : v = w := absurd h fun z => z.elim ha fun y => hb y.2
theorem end_one {A B : Prop} {y r : Int} {v w : Value} (h : A ∨ (B ∧ y = -1)) (ha : ¬ A) (h2 : ¬ ((if y < 0 then -y else y) ≤ if r < 0 then -r else r)) (hr : r ≠ 0) : v = w := by
  rcases h with h | ⟨_, h⟩
  · exact absurd h ha
  · subst h
    exfalso; apply h2; split <;> split <;> omega
theorem end_abs {a : Int} {v w : Value} (h : a ≠ 0) (e : a = 0) : v = w := absurd e h
theorem end_eq0 {r : Int} (h : r = 0) : Value.bool (r == 0) = Value.bool true := by rw [h]; rfl
local macro_rules | `(tactic| walk_at "fin") => `(tactic| first
  | with_reducible exact end_mul (by assumption) (by assumption) | with_reducible exact end_str | with_reducible exact end_abs (by assumption) (by assumption)
  | with_reducible exact end_sgn (by assumption) (by assumption) (by assumption)
  | with_reducible exact end_and (by assumption) (by assumption) (by assumption)
  | with_reducible exact end_or1 (by assumption) (by assumption) (by assumption)
  | with_reducible exact end_or2 (by assumption) (by assumption) (by assumption)
  | with_reducible exact end_one (by assumption) (by assumption) (by assumption) (by assumption)
  | with_reducible exact end_eq0 (by assumption))
theorem pair_spec {w : World} {mean : ExcName → Option Value} {mg mb : Str → Option Value} (p : Pr) (κ : Kind) (x y : Int) (hx1 : κ.lo ≤ x) (hx2 : x ≤ κ.hi) (hy1 : κ.lo ≤ y) (hy2 : y ≤ κ.hi) : PairCl w mean mg mb p κ x y := by
  unfold PairCl; k_fill; intros
  have k1 := κ.lo_ge
  have k2 := κ.hi_le
  walk_at "enterS0"
  k_steps
  all_goals walk_at "out"
end
section
local macro_rules | `(tactic| walk_at "no such key") => `(tactic| fail)
local macro_rules | `(tactic| walk_at "no such key") => `(tactic| fail)
local macro_rules | `(tactic| walk_at "no such key") => `(tactic| fail)
local macro_rules | `(tactic| walk_at "no such key") => `(tactic| fail)
local macro_rules | `(tactic| walk_at "no such key") => `(tactic| fail)
local macro_rules | `(tactic| walk_at "no such key") => `(tactic| fail)
local macro_rules | `(tactic| walk_at "no such key") => `(tactic| fail)
local macro_rules | `(tactic| walk_at "no such key") => `(tactic| fail)
local macro_rules | `(tactic| walk_at "no such key") => `(tactic| fail)
local macro_rules | `(tactic| walk_at "no such key") => `(tactic| fail)
local macro_rules | `(tactic| walk_at "no such key") => `(tactic| fail)
local macro_rules | `(tactic| walk_at "no such key") => `(tactic| fail)
local macro_rules | `(tactic| walk_at "no such key") => `(tactic| fail)
local macro_rules | `(tactic| walk_at "no such key") => `(tactic| fail)
local macro_rules | `(tactic| walk_at "no such key") => `(tactic| fail)
local macro_rules | `(tactic| walk_at "no such key") => `(tactic| fail)
local macro_rules | `(tactic| walk_at "no such key") => `(tactic| fail)
local macro_rules | `(tactic| walk_at "no such key") => `(tactic| fail)
local macro_rules | `(tactic| walk_at "no such key") => `(tactic| fail)
local macro_rules | `(tactic| walk_at "no such key") => `(tactic| fail)
local macro_rules | `(tactic| walk_at "no such key") => `(tactic| fail)
local macro_rules | `(tactic| walk_at "no such key") => `(tactic| fail)
local macro_rules | `(tactic| walk_at "no such key") => `(tactic| fail)
local macro_rules | `(tactic| walk_at "no such key") => `(tactic| fail)
theorem reset_Wrap : True := by
  w_top off
  trivial
local macro_rules | `(tactic| walk_at "spec") => `(tactic| (first | exact is_signed_spec .i8 _ | exact is_signed_spec .u8 _ | exact is_signed_spec .i16 _ | exact is_signed_spec .u16 _ | exact is_signed_spec .i32 _ | exact is_signed_spec .u32 _ | exact is_signed_spec .i64 _ | exact is_signed_spec .u64 _ | exact is_signed_spec _ _))
local macro_rules | `(tactic| walk_at "spec") => `(tactic| (first | exact least_spec _ _ | exact greatest_spec _ _ | exact is_signed_spec _ _))
local macro_rules | `(tactic| walk_at "spec") => `(tactic| exact fits_spec _ _ _ _)
def Kind.wrap (κ : Kind) (n : Int) : Int := (n - κ.lo) % (κ.hi - κ.lo + 1) + κ.lo
theorem wrap_hi {n W H lo hi : Int} {t : Tok} (h : H ≤ n.fmod W) (hW : W = 2 * H) (hH : 0 < H) (hl : lo = -H) (hh : hi = H - 1) : ∃ u, Value.int (n.fmod W - W) t = Value.int ((n - lo) % (hi - lo + 1) + lo) u := by
  refine ⟨t, ?_⟩
  have hW0 : 0 < W := by omega
  rw [Int.fmod_eq_emod_of_nonneg _ (Int.le_of_lt hW0)] at h ⊢
  have e1 : hi - lo + 1 = W := by omega
  have h0 := Int.emod_nonneg n (Int.ne_of_gt hW0)
  have h1 := Int.emod_lt_of_pos n hW0
  have e2 : (n - lo) % W = n % W + H - W := by
    have a : (n - lo) % W = (n % W + H) % W := by rw [hl, Int.sub_neg, Int.emod_add_emod]
    have b : (n % W + H) % W = (n % W + H - W) % W := by rw [Int.sub_emod_right]
    rw [a, b, Int.emod_eq_of_lt (by omega) (by omega)]
  rw [e1, e2, hl]
  congr 1; omega
theorem wrap_lo {n W H lo hi : Int} {t : Tok} (h : ¬ H ≤ n.fmod W) (hW : W = 2 * H) (hH : 0 < H) (hl : lo = -H) (hh : hi = H - 1) : ∃ u, Value.int (n.fmod W) t = Value.int ((n - lo) % (hi - lo + 1) + lo) u := by
  refine ⟨t, ?_⟩
  have hW0 : 0 < W := by omega
  rw [Int.fmod_eq_emod_of_nonneg _ (Int.le_of_lt hW0)] at h ⊢
  have e1 : hi - lo + 1 = W := by omega
  have h0 := Int.emod_nonneg n (Int.ne_of_gt hW0)
  have e2 : (n - lo) % W = n % W + H := by
    have a : (n - lo) % W = (n % W + H) % W := by rw [hl, Int.sub_neg, Int.emod_add_emod]
    rw [a, Int.emod_eq_of_lt (by omega) (by omega)]
  rw [e1, e2, hl]
  congr 1; omega
theorem wrap_un {n W lo hi : Int} {t : Tok} (hW : 0 < W) (hl : lo = 0) (hh : hi = W - 1) : ∃ u, Value.int (n.fmod W) t = Value.int ((n - lo) % (hi - lo + 1) + lo) u := by
  refine ⟨t, ?_⟩
  rw [Int.fmod_eq_emod_of_nonneg _ (Int.le_of_lt hW)]
  have e1 : hi - lo + 1 = W := by omega
  rw [e1, hl, Int.sub_zero, Int.add_zero]
theorem Kind.wrap_in (κ : Kind) (n : Int) : κ.lo ≤ κ.wrap n ∧ κ.wrap n ≤ κ.hi := by
  have h : 0 < κ.hi - κ.lo + 1 := by cases κ <;> decide
  unfold Kind.wrap
  have h0 := Int.emod_nonneg (n - κ.lo) (Int.ne_of_gt h)
  have h1 := Int.emod_lt_of_pos (n - κ.lo) h
  omega
local macro_rules | `(tactic| walk_at "spec") => `(tactic| (first | exact is_signed_spec .i8 _ | exact is_signed_spec .u8 _ | exact is_signed_spec .i16 _ | exact is_signed_spec .u16 _ | exact is_signed_spec .i32 _ | exact is_signed_spec .u32 _ | exact is_signed_spec .i64 _ | exact is_signed_spec .u64 _))
local macro_rules | `(tactic| walk_at "fin") => `(tactic| (dsimp only [Kind.wrap]; first | exact wrap_hi (by assumption) (by decide) (by decide) (by decide) (by decide) | exact wrap_lo (by assumption) (by decide) (by decide) (by decide) (by decide) | exact wrap_un (by decide) (by decide) (by decide)))
theorem wrapped_spec {w : World} {mean : ExcName → Option Value} {mg mb : Str → Option Value} (κ : Kind) (n : Int) (t t' : Tok) : PCl w mean mg mb 132 5 [.str κ.name t, .int n t'] (fun v => ∃ t, v = .int (κ.wrap n) t) := by
  walk_at "pcl"
  cases κ
  all_goals (
    dsimp only [Kind.name]
    walk_at "enter"
    k_steps
    all_goals walk_at "out")
end
section
theorem reset_Chk : True := by
  w_top off
  trivial
local macro_rules | `(tactic| walk_at "spec") => `(tactic| (first | exact is_signed_spec .i8 _ | exact is_signed_spec .u8 _ | exact is_signed_spec .i16 _ | exact is_signed_spec .u16 _ | exact is_signed_spec .i32 _ | exact is_signed_spec .u32 _ | exact is_signed_spec .i64 _ | exact is_signed_spec .u64 _ | exact is_signed_spec _ _))
local macro_rules | `(tactic| walk_at "spec") => `(tactic| (first | exact least_spec _ _ | exact greatest_spec _ _ | exact is_signed_spec _ _))
local macro_rules | `(tactic| walk_at "spec") => `(tactic| exact fits_spec _ _ _ _)
local macro_rules | `(tactic| walk_at "spec") => `(tactic| (first | exact is_signed_spec .i8 _ | exact is_signed_spec .u8 _ | exact is_signed_spec .i16 _ | exact is_signed_spec .u16 _ | exact is_signed_spec .i32 _ | exact is_signed_spec .u32 _ | exact is_signed_spec .i64 _ | exact is_signed_spec .u64 _))
local macro_rules | `(tactic| walk_at "spec") => `(tactic| (first | exact wrapped_spec _ _ _ _ | exact fits_spec _ _ _ _))
theorem Kind.ne_big (κ : Kind) : κ.name ≠ Str.ofString "BigInt" := by cases κ <;> decide
theorem Kind.eq_big (κ : Kind) : (κ.name == Str.ofString "BigInt") = false := by cases κ <;> decide
theorem eq_big {prog : Program} {w : World} {A : Around} {E : Value → Shared → Prop} {s : Shared} {Q : Value → Shared → Prop} {κ : Kind} {t u : Tok} (h : Q (.bool false) s) : wpAny (model prog w) A (compareOp .Eq (.str κ.name t) (.str (Str.ofString "BigInt") u)) Q E s :=
  PyProof.Rows.eq_str (by rw [κ.eq_big]; exact h)
local macro_rules | `(tactic| walk_at "compareOp Eq str str") => `(tactic| with_reducible refine eq_big ?_)
theorem exact_spec {w : World} {mean : ExcName → Option Value} {mg mb : Str → Option Value} (a b : Int) (t t' t2 : Tok) (hb1 : -18446744073709551616 < b) (hb2 : b < 18446744073709551616) : PCl w mean mg mb 139 3 [.str (Str.ofString "*") t, .int a t', .int b t2] (fun v => ∃ t, v = .int (a * b) t) := by
  walk_at "pcl"
  walk_at "enter"
  k_steps
  all_goals walk_at "out"
local macro_rules | `(tactic| walk_at "spec") => `(tactic| exact exact_spec _ _ _ _ _ (by omega) (by omega))
local macro_rules | `(tactic| walk_at "nout") => `(tactic| ((rename NRet _ _ _ _ _ _ _ => hN); refine' hN _ _ _ _ ?R ?F ?N ?l; (case F => k_asm); (case N => k_asm); (case l => first | assumption | exact allLt_of (by assumption)); (case R => exact ⟨_, _, by with_unfolding_all rfl⟩)))
theorem checked_spec {w : World} {mean : ExcName → Option Value} {mg mb : Str → Option Value} (κ : Kind) (a b : Int) (t t' t2 t3 : Tok) (hb1 : -18446744073709551616 < b) (hb2 : b < 18446744073709551616) :
    NCl w mean mg mb 146 12 [.str κ.name t, .str (Str.ofString "*") t', .int a t2, .int b t3] (fun vs => ∃ t y, vs = [.int (κ.wrap (a * b)) t, y]) := by
  unfold NCl; k_fill; intros
  walk_at "enter"
  k_steps
  walk_at "nout"
end
section
local macro_rules | `(tactic| walk_at "spec") => `(tactic| (first | exact is_signed_spec .i8 _ | exact is_signed_spec .u8 _ | exact is_signed_spec .i16 _ | exact is_signed_spec .u16 _ | exact is_signed_spec .i32 _ | exact is_signed_spec .u32 _ | exact is_signed_spec .i64 _ | exact is_signed_spec .u64 _ | exact is_signed_spec _ _))
local macro_rules | `(tactic| walk_at "spec") => `(tactic| (first | exact least_spec _ _ | exact greatest_spec _ _ | exact is_signed_spec _ _))
local macro_rules | `(tactic| walk_at "spec") => `(tactic| exact fits_spec _ _ _ _)
local macro_rules | `(tactic| walk_at "spec") => `(tactic| exact cut_quotient_spec _ _ _ _ (by omega) (by omega) (by omega))
local macro_rules | `(tactic| walk_at "spec") => `(tactic| (first | exact is_signed_spec .i8 _ | exact is_signed_spec .u8 _ | exact is_signed_spec .i16 _ | exact is_signed_spec .u16 _ | exact is_signed_spec .i32 _ | exact is_signed_spec .u32 _ | exact is_signed_spec .i64 _ | exact is_signed_spec .u64 _))
local macro_rules | `(tactic| walk_at "spec") => `(tactic| (first | exact wrapped_spec _ _ _ _ | exact fits_spec _ _ _ _))
local macro_rules | `(tactic| walk_at "spec") => `(tactic| exact exact_spec _ _ _ _ _ (by omega) (by omega))
theorem Kind.W_pos (κ : Kind) : 0 < κ.hi - κ.lo + 1 := by cases κ <;> decide
theorem Kind.wrap_eq (κ : Kind) {x y : Int} : κ.wrap x = κ.wrap y ↔ x % (κ.hi - κ.lo + 1) = y % (κ.hi - κ.lo + 1) := by
  unfold Kind.wrap
  constructor
  · intro h
    have h1 : (x - κ.lo) % (κ.hi - κ.lo + 1) = (y - κ.lo) % (κ.hi - κ.lo + 1) := by omega
    have h2 : (x - κ.lo + κ.lo) % (κ.hi - κ.lo + 1) = (y - κ.lo + κ.lo) % (κ.hi - κ.lo + 1) := by rw [Int.add_emod, h1, ← Int.add_emod]
    rwa [Int.sub_add_cancel, Int.sub_add_cancel] at h2
  · intro h
    rw [Int.sub_emod, h, ← Int.sub_emod]
theorem Kind.wrap_mod (κ : Kind) (x : Int) : κ.wrap x % (κ.hi - κ.lo + 1) = x % (κ.hi - κ.lo + 1) := by
  unfold Kind.wrap
  rw [Int.emod_add_emod, Int.sub_add_cancel]
theorem Kind.wrap_self (κ : Kind) {x : Int} (h1 : κ.lo ≤ x) (h2 : x ≤ κ.hi) : κ.wrap x = x := by
  unfold Kind.wrap
  rw [Int.emod_eq_of_lt (by omega) (by omega), Int.sub_add_cancel]
theorem Kind.wrap_mul (κ : Kind) (x y : Int) : κ.wrap (κ.wrap x * y) = κ.wrap (x * y) := by
  rw [κ.wrap_eq, Int.mul_emod, κ.wrap_mod, ← Int.mul_emod]
theorem Kind.wrap_mul' (κ : Kind) (x y : Int) : κ.wrap (x * κ.wrap y) = κ.wrap (x * y) := by
  rw [Int.mul_comm, κ.wrap_mul, Int.mul_comm]
theorem Kind.wrap_pow (κ : Kind) (x : Int) : ∀ n : Nat, κ.wrap (κ.wrap x ^ n) = κ.wrap (x ^ n)
  | 0 => by rw [Int.pow_zero, Int.pow_zero]
  | n + 1 => by
    rw [Int.pow_succ, Int.pow_succ, κ.wrap_mul', ← κ.wrap_mul, κ.wrap_pow x n, κ.wrap_mul]
/-- what holds between the turns -/
structure PowInv (κ : Kind) (a b f s e : Int) : Prop where
  f1 : κ.lo ≤ f
  f2 : f ≤ κ.hi
  s1 : κ.lo ≤ s
  s2 : s ≤ κ.hi
  e1 : 0 ≤ e
  e2 : e ≤ 63
  eq : κ.wrap (f * s ^ e.toNat) = κ.wrap (a ^ b.toNat)
theorem pow_half {s : Int} {e : Nat} (h : e % 2 = 0) : s ^ e = (s * s) ^ (e / 2) := by
  rw [Int.mul_pow, ← Int.pow_add]; congr 1; omega
theorem pow_half1 {s : Int} {e : Nat} (h : e % 2 = 1) : s ^ e = s * (s * s) ^ (e / 2) := by
  have : e = (2 * (e / 2)) + 1 := by omega
  rw [Int.mul_pow, ← Int.pow_add]
  conv => lhs; rw [this]
  rw [Int.pow_succ, Int.mul_comm]; congr 2; omega
theorem toNat_half {e : Int} (h : 0 ≤ e) : (e.fdiv 2).toNat = e.toNat / 2 := by
  rw [Int.fdiv_eq_ediv_of_nonneg _ (by decide)]; omega
theorem fmod2 {e : Int} : e.fmod 2 = e % 2 := Int.fmod_eq_emod_of_nonneg _ (by decide)
theorem fdiv2 {e : Int} : e.fdiv 2 = e / 2 := Int.fdiv_eq_ediv_of_nonneg _ (by decide)
/-- odd, and more to come -/
theorem PowInv.odd {κ : Kind} {a b f s e : Int} (H : PowInv κ a b f s e) (h : e.fmod 2 = 1) : PowInv κ a b (κ.wrap (f * s)) (κ.wrap (s * s)) (e.fdiv 2) := by
  obtain ⟨f1, f2, s1, s2, e1, e2, eq⟩ := H
  rw [fmod2] at h
  refine ⟨(κ.wrap_in _).1, (κ.wrap_in _).2, (κ.wrap_in _).1, (κ.wrap_in _).2, by rw [fdiv2]; omega, by rw [fdiv2]; omega, ?_⟩
  rw [toNat_half e1, κ.wrap_mul, ← κ.wrap_mul', κ.wrap_pow, κ.wrap_mul', ← eq, pow_half1 (s := s) (e := e.toNat) (by omega), Int.mul_assoc]
theorem PowInv.even {κ : Kind} {a b f s e : Int} (H : PowInv κ a b f s e) (h : ¬ e.fmod 2 = 1) : PowInv κ a b f (κ.wrap (s * s)) (e.fdiv 2) := by
  obtain ⟨f1, f2, s1, s2, e1, e2, eq⟩ := H
  rw [fmod2] at h
  refine ⟨f1, f2, (κ.wrap_in _).1, (κ.wrap_in _).2, by rw [fdiv2]; omega, by rw [fdiv2]; omega, ?_⟩
  rw [toNat_half e1, ← κ.wrap_mul', κ.wrap_pow, κ.wrap_mul', ← eq, pow_half (s := s) (e := e.toNat) (by omega)]
theorem PowInv.odd0 {κ : Kind} {a b f s e : Int} (H : PowInv κ a b f s e) (h : e.fmod 2 = 1) (h0 : ¬ 0 < e.fdiv 2) : PowInv κ a b (κ.wrap (f * s)) s (e.fdiv 2) := by
  obtain ⟨f1, f2, s1, s2, e1, e2, eq⟩ := H
  rw [fmod2] at h
  rw [fdiv2] at h0
  have he : e = 1 := by omega
  subst he
  refine ⟨(κ.wrap_in _).1, (κ.wrap_in _).2, s1, s2, by decide, by decide, ?_⟩
  rw [← eq, show ((1 : Int).fdiv 2).toNat = 0 from by decide, Int.pow_zero, Int.mul_one, κ.wrap_eq, κ.wrap_mod]
  show _ = (f * s ^ 1) % _
  rw [Int.pow_succ, Int.pow_zero, Int.one_mul]
theorem PowInv.even0 {κ : Kind} {a b f s e : Int} (H : PowInv κ a b f s e) (hp : 0 < e) (h : ¬ e.fmod 2 = 1) (h0 : ¬ 0 < e.fdiv 2) : PowInv κ a b f s (e.fdiv 2) := by
  have := H.e1
  rw [fmod2] at h
  rw [fdiv2] at h0
  omega
theorem PowInv.less {e : Int} (h : 0 < e) : (e.fdiv 2).toNat < e.toNat := by rw [fdiv2]; omega
theorem PowInv.last {κ : Kind} {a b f s e : Int} (H : PowInv κ a b f s e) (h : ¬ 0 < e) : f = κ.wrap (a ^ b.toNat) := by
  obtain ⟨f1, f2, s1, s2, e1, e2, eq⟩ := H
  have he : e = 0 := by omega
  subst he
  rw [← eq]
  show f = κ.wrap (f * s ^ 0)
  rw [Int.pow_zero, Int.mul_one, κ.wrap_self f1 f2]
theorem PowInv.first {κ : Kind} {a b : Int} (ha1 : κ.lo ≤ a) (ha2 : a ≤ κ.hi) (hb1 : 0 ≤ b) (hb2 : b ≤ 63) : PowInv κ a b 1 a b := by
  have := κ.lo_le
  have := κ.hi_ge
  exact ⟨by omega, by omega, ha1, ha2, hb1, hb2, by rw [Int.one_mul]⟩
end
section
local macro_rules | `(tactic| walk_at "no such key") => `(tactic| fail)
local macro_rules | `(tactic| walk_at "no such key") => `(tactic| fail)
local macro_rules | `(tactic| walk_at "no such key") => `(tactic| fail)
local macro_rules | `(tactic| walk_at "no such key") => `(tactic| fail)
local macro_rules | `(tactic| walk_at "no such key") => `(tactic| fail)
local macro_rules | `(tactic| walk_at "no such key") => `(tactic| fail)
local macro_rules | `(tactic| walk_at "no such key") => `(tactic| fail)
local macro_rules | `(tactic| walk_at "no such key") => `(tactic| fail)
local macro_rules | `(tactic| walk_at "no such key") => `(tactic| fail)
local macro_rules | `(tactic| walk_at "no such key") => `(tactic| fail)
local macro_rules | `(tactic| walk_at "no such key") => `(tactic| fail)
local macro_rules | `(tactic| walk_at "no such key") => `(tactic| fail)
local macro_rules | `(tactic| walk_at "no such key") => `(tactic| fail)
local macro_rules | `(tactic| walk_at "no such key") => `(tactic| fail)
local macro_rules | `(tactic| walk_at "no such key") => `(tactic| fail)
local macro_rules | `(tactic| walk_at "no such key") => `(tactic| fail)
local macro_rules | `(tactic| walk_at "no such key") => `(tactic| fail)
local macro_rules | `(tactic| walk_at "no such key") => `(tactic| fail)
local macro_rules | `(tactic| walk_at "no such key") => `(tactic| fail)
local macro_rules | `(tactic| walk_at "no such key") => `(tactic| fail)
local macro_rules | `(tactic| walk_at "no such key") => `(tactic| fail)
local macro_rules | `(tactic| walk_at "no such key") => `(tactic| fail)
local macro_rules | `(tactic| walk_at "no such key") => `(tactic| fail)
local macro_rules | `(tactic| walk_at "no such key") => `(tactic| fail)
theorem reset_PowW : True := by
  w_top off
  trivial
local macro_rules | `(tactic| walk_at "spec") => `(tactic| (first | exact is_signed_spec .i8 _ | exact is_signed_spec .u8 _ | exact is_signed_spec .i16 _ | exact is_signed_spec .u16 _ | exact is_signed_spec .i32 _ | exact is_signed_spec .u32 _ | exact is_signed_spec .i64 _ | exact is_signed_spec .u64 _ | exact is_signed_spec _ _))
local macro_rules | `(tactic| walk_at "spec") => `(tactic| (first | exact least_spec _ _ | exact greatest_spec _ _ | exact is_signed_spec _ _))
local macro_rules | `(tactic| walk_at "spec") => `(tactic| exact fits_spec _ _ _ _)
local macro_rules | `(tactic| walk_at "spec") => `(tactic| exact cut_quotient_spec _ _ _ _ (by omega) (by omega) (by omega))
local macro_rules | `(tactic| walk_at "spec") => `(tactic| (first | exact is_signed_spec .i8 _ | exact is_signed_spec .u8 _ | exact is_signed_spec .i16 _ | exact is_signed_spec .u16 _ | exact is_signed_spec .i32 _ | exact is_signed_spec .u32 _ | exact is_signed_spec .i64 _ | exact is_signed_spec .u64 _))
local macro_rules | `(tactic| walk_at "spec") => `(tactic| (first | exact wrapped_spec _ _ _ _ | exact fits_spec _ _ _ _))
local macro_rules | `(tactic| walk_at "spec") => `(tactic| exact exact_spec _ _ _ _ _ (by omega) (by omega))
local macro_rules | `(tactic| walk_at "exec While Compare cons nil") => `(tactic| k_extra "powered's while")
local macro_rules | `(tactic| walk_at "call ref") => `(tactic| k_dflt (refine' NCl.use ?kC ?k1 ?k2 ?k3 ?k4 ?k5 ?kK ?kd ?ku ?_; (case k2 => k_asm); (case k1 => k_asm); (case k3 => k_asm); (case k4 => k_asm); (case k5 => k_asm); (case kC => exact checked_spec _ _ _ _ _ _ _ (by omega) (by omega)); (case kK => first | exact rfl | assumption); (case kd => ktr_room); (case ku => ktr_units); intro x9 v9 h9 tk9 hR9 F9 N9 l9; obtain ⟨t9, u9, e9⟩ := hR9; subst e9; (try dsimp only); (try k_sweep); (try k_fold)))
section
variable {prog : Program} {w : World} {A : Around} {E : Value → Shared → Prop} {Q : Flow → Shared → Prop} {s : Shared} {env : Env} {h₀ : Heap} {L : Addr}
theorem whileN {σ : Type} {test : Expr} {body : List Stmt} {pos : Pos} {m₀ : Str → Option Value} {news : List (Addr × Obj)} (ps : σ → List (Str × Value)) (stored : List Str) (P : σ → Prop) (μ : σ → Nat) (c₀ : σ)
    (F : Fr h₀ L s.heap m₀) (N : News h₀ L s.heap news) (hk : ∀ p ∈ ps c₀, m₀ p.1 = some p.2) (hp : P c₀)
    (turn : ∀ (c : σ) (u : Str → Option Value) h tk, P c → Fr h₀ L h (kstB (fun z => if stored.contains z then u z else m₀ z) (ps c)) → News h₀ L h news →
      wpAny (model prog w) A (isTrue test env (eval test env)) (fun b s₂ =>
        if b = true then wpAny (model prog w) A (execs body env) (KswPost h₀ L s (fun _ => news) ps (fun _ => True) stored m₀ P μ Q c) E s₂ else Q .next s₂) E { s with heap := h, toks := tk })
    (hE : PassesOwn (model prog w) A env E) :
    wpAny (model prog w) A (exec (.While test body [] pos) env) Q E s :=
  ksw_while (fun _ => news) ps (fun _ => True) stored P μ c₀ F N trivial hk hp (fun c u h tk _ hP F N => turn c u h tk hP F N) hE
end
set_option maxHeartbeats 2000000 in
theorem powered_spec {w : World} {mean : ExcName → Option Value} {mg mb : Str → Option Value} (κ : Kind) (a b : Int) (t t' t2 : Tok) (ha1 : κ.lo ≤ a) (ha2 : a ≤ κ.hi) (hb1 : 0 ≤ b) (hb2 : b ≤ 63) :
    PCl w mean mg mb 174 20 [.str κ.name t, .int a t', .int b t2] (fun v => ∃ t, v = .int (κ.wrap (a ^ b.toNat)) t) := by
  walk_at "pcl"
  have k1 := κ.lo_ge
  have k2 := κ.hi_le
  walk_at "enter"
  repeat' (first | (k_unfold; (try dsimp only)) | ((fail_if_success (with_reducible show wpAny _ _ (exec (Stmt.While _ _ _ _) _) _ _ _)); walk1))
  (with_reducible rename Fr _ _ _ _ => lF); (with_reducible rename News _ _ _ _ => lN)
  k_dflt (refine' whileN (σ := Int × Tok × Int × Tok × Int × Tok) (fun c => [(Str.ofString "found", .int c.1 c.2.1), (Str.ofString "square", .int c.2.2.1 c.2.2.2.1), (Str.ofString "exponent", .int c.2.2.2.2.1 c.2.2.2.2.2)]) [] (fun c => PowInv κ a b c.1 c.2.2.1 c.2.2.2.2.1) (fun c => c.2.2.2.2.1.toNat) (1, _, a, _, b, _) ?kF ?kN ?hk (PowInv.first ha1 ha2 hb1 hb2) ?_ ?hE; (case kF => exact lF); (case kN => exact lN))
  (case hk => simp only [List.forall_mem_cons, List.not_mem_nil, false_implies, implies_true, and_true]; exact ⟨by with_unfolding_all rfl, by with_unfolding_all rfl, by with_unfolding_all rfl⟩)
  (case hE => passes_own)
  intro c u h tk hI F' N'
  clear lF lN
  obtain ⟨f, tf, s, ts, e, te⟩ := c
  dsimp only at hI F' N'
  have hb := And.intro hI.f1 (And.intro hI.f2 (And.intro hI.s1 (And.intro hI.s2 (And.intro hI.e1 hI.e2))))
  k_steps
  all_goals first
    | (refine' PCl.out ?e0 ?e1 ?e2 ?e3 ?e4; (case e0 => assumption); (case e2 => k_asm); (case e3 => k_asm); (case e4 => walk_at "sub"); (case e1 => exact ⟨_, congrArg (fun i => Value.int i _) (hI.last (by assumption))⟩))
    | (refine' ksw_end (_, _, _, _, _, _) ?kF ?kN ?hn trivial ?hk ?hr ?hp ?hm
       (case kF => k_asm)
       (case kN => k_asm)
       (case hn => walk_at "sub")
       (case hk => simp only [List.forall_mem_cons, List.not_mem_nil, false_implies, implies_true, and_true]; exact ⟨by with_unfolding_all rfl, by with_unfolding_all rfl, by with_unfolding_all rfl⟩)
       (case hr => (intro z h2 h3; simp only [List.forall_mem_cons, List.not_mem_nil, false_implies, implies_true, and_true, ne_eq] at h2; obtain ⟨q1, q2, q3⟩ := h2; simp [kstB, q1, q2, q3]))
       (case hp => first | exact hI.odd (by assumption) | exact hI.even (by assumption) | exact hI.odd0 (by assumption) (by assumption) | exact hI.even0 (by assumption) (by assumption) (by assumption))
       (case hm => exact PowInv.less (by assumption)))
end
section
theorem reset_Prod : True := by
  w_top off
  trivial
local macro_rules | `(tactic| walk_at "spec") => `(tactic| (first | exact is_signed_spec .i8 _ | exact is_signed_spec .u8 _ | exact is_signed_spec .i16 _ | exact is_signed_spec .u16 _ | exact is_signed_spec .i32 _ | exact is_signed_spec .u32 _ | exact is_signed_spec .i64 _ | exact is_signed_spec .u64 _ | exact is_signed_spec _ _))
local macro_rules | `(tactic| walk_at "spec") => `(tactic| (first | exact least_spec _ _ | exact greatest_spec _ _ | exact is_signed_spec _ _))
local macro_rules | `(tactic| walk_at "spec") => `(tactic| exact fits_spec _ _ _ _)
local macro_rules | `(tactic| walk_at "spec") => `(tactic| exact cut_quotient_spec _ _ _ _ (by omega) (by omega) (by omega))
local macro_rules | `(tactic| walk_at "spec") => `(tactic| (first | exact is_signed_spec .i8 _ | exact is_signed_spec .u8 _ | exact is_signed_spec .i16 _ | exact is_signed_spec .u16 _ | exact is_signed_spec .i32 _ | exact is_signed_spec .u32 _ | exact is_signed_spec .i64 _ | exact is_signed_spec .u64 _))
theorem prod_step (κ : Kind) {a f : Int} {n : Nat} (h : f = κ.wrap (a ^ n)) : (f * a - κ.lo).fmod (κ.hi - κ.lo + 1) + κ.lo = κ.wrap (a ^ (n + 1)) := by
  rw [Int.fmod_eq_emod_of_nonneg _ (Int.le_of_lt κ.W_pos), Int.pow_succ, ← κ.wrap_mul, ← h]
  rfl
theorem Kind.wrap_one (κ : Kind) : 1 = κ.wrap (1 : Int) := by
  have := κ.lo_le
  have := κ.hi_ge
  exact (κ.wrap_self (by omega) (by omega)).symm
section
variable {prog : Program} {w : World} {A : Around} {E : Value → Shared → Prop} {Q : Flow → Shared → Prop} {s : Shared} {env : Env} {h₀ : Heap} {x : Str} {body : List Stmt}
theorem rangeN {σ : Type} {r : Addr} {a₀ b₀ : Int} {t₀ u₀ v₀ : Tok} {m₀ : Str → Option Value} {news : List (Addr × Obj)} (ps : σ → List (Str × Value)) (stored : List Str) (P : List Int → σ → Prop) (c₀ : σ)
    (hh : A.handled = none) (hr : IsRange s.heap r a₀ b₀ 1 t₀ u₀ v₀) (hsmall : Builtin.Range.small a₀ b₀ 1 = true) (F : Fr h₀ env.locals s.heap m₀) (N : News h₀ env.locals s.heap news) (hk : ∀ p ∈ ps c₀, m₀ p.1 = some p.2) (hp : P [] c₀)
    (turn : ∀ (c : σ) (pre : List Int) (k : Int) t (u : Str → Option Value) h tk own, pre.length < (b₀ - a₀).toNat → OwnOff own (news.map (·.1)) → P pre c →
      Fr h₀ env.locals h (fun y => if y = x then some (.int k t) else kstB (fun z => if stored.contains z then u z else m₀ z) (ps c) y) → News h₀ env.locals h (news ++ own) →
      wpAny (model prog w) A (execs body env) (InvPostN h₀ env.locals (KstS (fun _ => news) ps (fun _ => True) x stored m₀ P (pre ++ [k])) own (news.map (·.1)) { s with heap := h, toks := tk } Q) E { s with heap := h, toks := tk })
    (done : ∀ (c : σ) (u : Str → Option Value) h tk, P (rangeKs a₀ (b₀ - a₀).toNat) c → Fr h₀ env.locals h (fun y => if y = x then u y else kstB (fun z => if stored.contains z then u z else m₀ z) (ps c) y) → News h₀ env.locals h news → Q .next { s with heap := h, toks := tk }) :
    wpAny (model prog w) A (pyIter (.ref r)) (fun it s₂ => LoopAtV prog w A h₀ env x body Q E it s₂) E s :=
  kst_range (fun _ => news) ps (fun _ => True) stored P c₀ hh hr hsmall (rangeSize_nat _ _) F N trivial hk hp (fun c pre k t u h tk own _ hl ho _ hP F N => turn c pre k t u h tk own hl ho hP F N) (fun c u h tk _ hP F N => done c u h tk hP F N)
end
local macro_rules | `(tactic| walk_at "call ref") => `(tactic| k_dflt (refine' NCl.use ?kC ?k1 ?k2 ?k3 ?k4 ?k5 ?kK ?kd ?ku ?_; (case k2 => k_asm); (case k1 => k_asm); (case k3 => k_asm); (case k4 => k_asm); (case k5 => k_asm); (case kC => exact span_spec _ _); (case kK => first | exact rfl | assumption); (case kd => ktr_room); (case ku => ktr_units); intro x9 v9 h9 tk9 hR9 F9 N9 l9; obtain ⟨t9, u9, e9⟩ := hR9; subst e9; (try dsimp only); (try k_sweep); (try k_fold)))
theorem product_spec {w : World} {mean : ExcName → Option Value} {mg mb : Str → Option Value} (κ : Kind) (a b : Int) (t t' t2 : Tok) (ha1 : κ.lo ≤ a) (ha2 : a ≤ κ.hi) (hb1 : 0 ≤ b) (hb2 : b ≤ 63) :
    PCl w mean mg mb 228 20 [.str κ.name t, .int a t', .int b t2] (fun v => ∃ t, v = .int (κ.wrap (a ^ b.toNat)) t) := by
  walk_at "pcl"
  have k1 := κ.lo_ge
  have k2 := κ.hi_le
  have k3 := κ.lo_le
  have k4 := κ.hi_ge
  walk_at "enter"
  repeat' (first | (k_unfold; (try dsimp only)) | ((fail_if_success (with_reducible show wpAny _ _ (pyIter _) _ _ _)); walk1))
  (with_reducible rename Fr _ _ _ _ => lF); (with_reducible rename News _ _ _ _ => lN); (with_reducible rename IsRange _ _ _ _ _ _ _ _ => rg)
  k_dflt (refine' rangeN (σ := Int × Tok) (fun c => [(Str.ofString "found", .int c.1 c.2)]) [] (fun pre c => c.1 = κ.wrap (a ^ pre.length)) (1, _) ?hh ?rg ?sm ?kF ?kN ?hk ?hp ?_ ?_; (case hh => rfl); (case rg => exact rg); (case kF => exact lF); (case kN => exact lN))
  (case sm => apply small_one <;> omega)
  (case hk => simp only [List.forall_mem_cons, List.not_mem_nil, false_implies, implies_true, and_true]; with_unfolding_all rfl)
  (case hp => show (1 : Int) = κ.wrap (a ^ 0); rw [Int.pow_zero]; exact κ.wrap_one)
  · intro c pre k tk u h tks own hl ho hP F' N'
    clear lF lN
    obtain ⟨f, tf⟩ := c
    dsimp only at hP F' N'
    have hb : κ.lo ≤ f ∧ f ≤ κ.hi := hP ▸ κ.wrap_in _
    k_steps
    all_goals (
      refine' kst_end (_, _) ?kF ?kN ?hn ?ho rfl trivial ?hk ?hr ?hp
      (case kF => k_asm)
      (case kN => k_asm)
      (case hn => exact fun p hp => List.mem_append_left _ hp)
      (case ho => exact fun p hp => List.mem_append_right _ hp)
      (case hk => simp only [List.forall_mem_cons, List.not_mem_nil, false_implies, implies_true, and_true]; with_unfolding_all rfl)
      (case hr => (intro z h1 h2 h3; simp only [List.forall_mem_cons, List.not_mem_nil, false_implies, implies_true, and_true, ne_eq] at h2; simp [kstB, h1, h2]))
      (case hp => rw [List.length_append]; exact prod_step κ (by assumption)))
  · intro c u h tks hP F' N'
    clear lF lN
    obtain ⟨f, tf⟩ := c
    dsimp only at hP F' N'
    rw [rangeKs_length] at hP
    subst hP
    k_steps
    all_goals walk_at "out"
end
section
local macro_rules | `(tactic| walk_at "no such key") => `(tactic| fail)
local macro_rules | `(tactic| walk_at "no such key") => `(tactic| fail)
local macro_rules | `(tactic| walk_at "no such key") => `(tactic| fail)
local macro_rules | `(tactic| walk_at "no such key") => `(tactic| fail)
local macro_rules | `(tactic| walk_at "no such key") => `(tactic| fail)
local macro_rules | `(tactic| walk_at "no such key") => `(tactic| fail)
local macro_rules | `(tactic| walk_at "no such key") => `(tactic| fail)
local macro_rules | `(tactic| walk_at "no such key") => `(tactic| fail)
local macro_rules | `(tactic| walk_at "no such key") => `(tactic| fail)
local macro_rules | `(tactic| walk_at "no such key") => `(tactic| fail)
local macro_rules | `(tactic| walk_at "no such key") => `(tactic| fail)
local macro_rules | `(tactic| walk_at "no such key") => `(tactic| fail)
local macro_rules | `(tactic| walk_at "no such key") => `(tactic| fail)
local macro_rules | `(tactic| walk_at "no such key") => `(tactic| fail)
local macro_rules | `(tactic| walk_at "no such key") => `(tactic| fail)
local macro_rules | `(tactic| walk_at "no such key") => `(tactic| fail)
local macro_rules | `(tactic| walk_at "no such key") => `(tactic| fail)
local macro_rules | `(tactic| walk_at "no such key") => `(tactic| fail)
local macro_rules | `(tactic| walk_at "no such key") => `(tactic| fail)
local macro_rules | `(tactic| walk_at "no such key") => `(tactic| fail)
local macro_rules | `(tactic| walk_at "no such key") => `(tactic| fail)
local macro_rules | `(tactic| walk_at "no such key") => `(tactic| fail)
local macro_rules | `(tactic| walk_at "no such key") => `(tactic| fail)
local macro_rules | `(tactic| walk_at "no such key") => `(tactic| fail)
theorem reset_Gcd : True := by
  w_top off
  trivial
local macro_rules | `(tactic| walk_at "spec") => `(tactic| (first | exact is_signed_spec .i8 _ | exact is_signed_spec .u8 _ | exact is_signed_spec .i16 _ | exact is_signed_spec .u16 _ | exact is_signed_spec .i32 _ | exact is_signed_spec .u32 _ | exact is_signed_spec .i64 _ | exact is_signed_spec .u64 _ | exact is_signed_spec _ _))
local macro_rules | `(tactic| walk_at "spec") => `(tactic| (first | exact least_spec _ _ | exact greatest_spec _ _ | exact is_signed_spec _ _))
local macro_rules | `(tactic| walk_at "spec") => `(tactic| exact fits_spec _ _ _ _)
local macro_rules | `(tactic| walk_at "spec") => `(tactic| exact cut_quotient_spec _ _ _ _ (by omega) (by omega) (by omega))
theorem RaisedD.sub {base G : Heap} {l : List Env} {e : Addr} {cls : Value} {dd : Addr} {news n' : List (Addr × Obj)} {h : Heap} (R : RaisedD base G l e cls dd news h) (hs : ∀ p ∈ n', p ∈ news) : RaisedD base G l e cls dd n' h := by
  obtain ⟨B, r1, r2, r3, r4⟩ := R
  exact ⟨B, r1, r2, fun q hq => r3 q (hs q hq), r4⟩
structure GcdInv (a b l r : Int) : Prop where
  l1 : 0 ≤ l
  l2 : l ≤ 128
  r1 : 0 ≤ r
  r2 : r ≤ 128
  eq : l.gcd r = a.gcd b
theorem abs_gcd (a b : Int) : Int.gcd (if a < 0 then -a else a) (if b < 0 then -b else b) = a.gcd b := by
  split <;> split <;> simp [Int.gcd_neg, Int.neg_gcd]
theorem GcdInv.first {a b : Int} (ha1 : -128 ≤ a) (ha2 : a ≤ 127) (hb1 : -128 ≤ b) (hb2 : b ≤ 127) : GcdInv a b (if a < 0 then -a else a) (if b < 0 then -b else b) :=
  ⟨by split <;> omega, by split <;> omega, by split <;> omega, by split <;> omega, abs_gcd a b⟩
theorem GcdInv.next {a b l r : Int} (H : GcdInv a b l r) (h : 0 < r) : GcdInv a b r (l.fmod r) := by
  obtain ⟨l1, l2, r1, r2, eq⟩ := H
  rw [Int.fmod_eq_emod_of_nonneg _ r1]
  have h0 := Int.emod_nonneg l (Int.ne_of_gt h)
  have h1 := Int.emod_lt_of_pos l h
  refine ⟨r1, r2, h0, by omega, ?_⟩
  rw [← eq]
  obtain ⟨n, rfl⟩ := Int.eq_ofNat_of_zero_le l1
  obtain ⟨m, rfl⟩ := Int.eq_ofNat_of_zero_le r1
  show Nat.gcd m (n % m) = Nat.gcd n m
  rw [Nat.gcd_comm m, ← Nat.gcd_rec, Nat.gcd_comm]
theorem GcdInv.less {l r : Int} (h : 0 < r) : (l.fmod r).toNat < r.toNat := by
  rw [Int.fmod_eq_emod_of_nonneg _ (Int.le_of_lt h)]
  have h0 := Int.emod_nonneg l (Int.ne_of_gt h)
  have h1 := Int.emod_lt_of_pos l h
  omega
theorem GcdInv.last {a b l r : Int} (H : GcdInv a b l r) (h : ¬ 0 < r) : l = (a.gcd b : Int) := by
  obtain ⟨l1, l2, r1, r2, eq⟩ := H
  have : r = 0 := by omega
  subst this
  rw [← eq, Int.gcd_zero_right]
  omega
local macro_rules | `(tactic| walk_at "exec While Compare cons nil") => `(tactic| k_extra "gcd's while")
local macro_rules | `(tactic| walk_at "call ref") => `(tactic| k_dflt (refine' thrown_text_spec ?B ?F ?X ?N ?T ?ck ?hr ?hu ?_; (case B => k_asm); (case F => k_asm); (case X => k_asm); (case N => k_asm); (case T => k_asm); (case ck => first | exact rfl | assumption); (case hr => ktr_room); (case hu => ktr_units); intro e' t' d' X' h' tk' F' N' n' x'; (try dsimp only); (try k_fold)))
local macro_rules | `(tactic| walk_at "exec Raise some none") => `(tactic| k_dflt (refine' raiseK (C := 52) ?hX ?hC ?hh ?_; (case hX => k_asm); (case hC => k_is); (case hh => exact rfl)))
local macro_rules | `(tactic| walk_at "Exists") => `(tactic| k_dflt (refine' ⟨_, _, _, rfl, Fr.keep ?hF, News.get ?hN (List.Mem.head _), ?_⟩; (case hF => k_asm); (case hN => k_asm)))
local macro_rules | `(tactic| walk_at "leaving ref") => `(tactic| k_dflt (refine' leaveD ?K ?F ?N ?hn ?_ ?hk; (case F => k_asm); (case K => k_asm); (case N => k_asm); (case hn => assumption); (case hk => exact rfl); intro h' R' U'; (try dsimp only)))
local macro_rules | `(tactic| walk_at "spec") => `(tactic| exact fits_spec .i8 _ _ _)
set_option maxHeartbeats 2000000 in
theorem gcd_spec {w : World} {mean : ExcName → Option Value} {mg mb : Str → Option Value} (a b : Int) (t1 t2 t3 : Tok) (ha1 : -128 ≤ a) (ha2 : a ≤ 127) (hb1 : -128 ≤ b) (hb2 : b ≤ 127) :
    DCl w mean mg mb 167 16 [.str (Str.ofString "Int8") t1, .int a t2, .int b t3] (fun v => ((a.gcd b : Nat) : Int) ≤ 127 ∧ ∃ t, v = .int (a.gcd b : Nat) t) (Str.ofString "OverflowError") (¬ ((a.gcd b : Nat) : Int) ≤ 127) := by
  unfold DCl; k_fill; intros
  walk_at "enter"
  repeat' (first | (k_unfold; (try dsimp only)) | ((fail_if_success (with_reducible show wpAny _ _ (exec (Stmt.While _ _ _ _) _) _ _ _)); walk1))
  (with_reducible rename Fr _ _ _ _ => lF); (with_reducible rename News _ _ _ _ => lN)
  k_dflt (refine' whileN (σ := Int × Tok × Int × Tok) (fun c => [(Str.ofString "left", .int c.1 c.2.1), (Str.ofString "right", .int c.2.2.1 c.2.2.2)]) [] (fun c => GcdInv a b c.1 c.2.2.1) (fun c => c.2.2.1.toNat) (_, _, _, _) ?kF ?kN ?hk ?hp ?_ ?hE; (case kF => exact lF); (case kN => exact lN))
  (case hk => simp only [List.forall_mem_cons, List.not_mem_nil, false_implies, implies_true, and_true]; exact ⟨by with_unfolding_all rfl, by with_unfolding_all rfl⟩)
  (case hp => exact GcdInv.first ha1 ha2 hb1 hb2)
  (case hE => passes_own)
  intro c u h tk hI F' N'
  clear lF lN
  obtain ⟨l, tl, r, tr⟩ := c
  dsimp only at hI F' N'
  have hb := And.intro hI.l1 (And.intro hI.l2 (And.intro hI.r1 hI.r2))
  k_steps
  all_goals first
    | (refine' ksw_end (_, _, _, _) ?kF ?kN ?hn trivial ?hk ?hr ?hp ?hm
       (case kF => k_asm)
       (case kN => k_asm)
       (case hn => walk_at "sub")
       (case hk => simp only [List.forall_mem_cons, List.not_mem_nil, false_implies, implies_true, and_true]; exact ⟨by with_unfolding_all rfl, by with_unfolding_all rfl⟩)
       (case hr => (intro z h2 h3; simp only [List.forall_mem_cons, List.not_mem_nil, false_implies, implies_true, and_true, ne_eq] at h2; obtain ⟨q1, q2⟩ := h2; simp [kstB, q1, q2]))
       (case hp => exact hI.next (by assumption))
       (case hm => exact GcdInv.less (by assumption)))
    | (have e := hI.last (by assumption)
       (rename ((decide _ && decide _) = _) => hc; simp only [Bool.and_eq_true, Bool.and_eq_false_iff, decide_eq_true_eq, decide_eq_false_iff_not] at hc); dsimp only [Kind.lo, Kind.hi] at hc
       first
       | (refine' PCl.out ?e0 ?e1 ?e2 ?e3 ?e4; (case e0 => assumption); (case e2 => k_asm); (case e3 => k_asm); (case e4 => walk_at "sub"); (case e1 => exact ⟨by omega, _, congrArg (fun i => Value.int i _) e⟩))
       | ((rename DExc _ _ _ _ _ _ _ _ _ _ => hD); refine' hD ?hb _ _ _ _ _ _ ?F ?R ?U ?X; (case X => assumption); (case R => refine' RaisedD.sub ?R1 ?R2; (case R1 => assumption); (case R2 => kcj_all)); (case F => assumption); (case U => assumption); (case hb => omega)))
end
section
theorem reset_GcdT : True := by
  w_top off
  trivial
local macro_rules | `(tactic| walk_at "spec") => `(tactic| (first | exact is_signed_spec .i8 _ | exact is_signed_spec .u8 _ | exact is_signed_spec .i16 _ | exact is_signed_spec .u16 _ | exact is_signed_spec .i32 _ | exact is_signed_spec .u32 _ | exact is_signed_spec .i64 _ | exact is_signed_spec .u64 _ | exact is_signed_spec _ _))
local macro_rules | `(tactic| walk_at "spec") => `(tactic| (first | exact least_spec _ _ | exact greatest_spec _ _ | exact is_signed_spec _ _))
local macro_rules | `(tactic| walk_at "spec") => `(tactic| exact fits_spec _ _ _ _)
local macro_rules | `(tactic| walk_at "spec") => `(tactic| exact cut_quotient_spec _ _ _ _ (by omega) (by omega) (by omega))
local macro_rules | `(tactic| walk_at "spec") => `(tactic| exact fits_spec .i8 _ _ _)
local macro_rules | `(tactic| walk_at "call ref") => `(tactic| k_dflt (refine' DCl.use ?C ?B ?F ?X ?N ?T ?ck ?hr ?hu ?hQ ?hE; (case B => k_asm); (case F => k_asm); (case X => k_asm); (case N => k_asm); (case T => k_asm); (case C => exact gcd_spec _ _ _ _ _ (by assumption) (by assumption) (by assumption) (by assumption)); (case ck => first | exact rfl | assumption); (case hr => ktr_room); (case hu => ktr_units); (case' hQ => (intro v9 h9 tk9 hR9 F9 N9; obtain ⟨hn9, t9, e9⟩ := hR9; subst e9; (try dsimp only); (try k_fold))); (case' hE => (intro hb9 g9 e9 d9 X9 h9 tk9 FG9 R9 U9 hX9; obtain ⟨es9, n9, st9, nm9, ps9, q9, ta9, tb9, tc9, eX9, hg9⟩ := hX9; subst eX9; (try dsimp only); (try k_fold)))))
local macro_rules | `(tactic| walk_at "noteFrame ref") => `(tactic| (k_here; (rename RaisedD _ _ _ _ _ _ _ _ => rsX); k_dflt (refine' caughtD ?R ?F ?K ?U ?XB ?TB ?D ?T0 ?ex ?q ?_; (case R => assumption); (case F => assumption); (case K => assumption); (case U => assumption); (case XB => assumption); (case TB => assumption); (case D => assumption); (case T0 => first | assumption | exact KtsTurn.refl); (case ex => k_is); (case q => kts_isx); k_whole); intro h' g' oe' vs' tk' T' F' hc' hd' hv' N' K' X' P' D'; (try simp only [List.cons_append, List.nil_append] at N'); (try k_lift K'); (try k_sweep)))
local macro_rules | `(tactic| walk_at "getAttr ref") => `(tactic| k_dflt (refine' getE ?X ?I ?ga ?gt ?gm ?gf ?gh ?_; (case I => exact instE (News.get (by k_asm) (List.Mem.head _)) (by assumption) (by assumption) (by assumption) (News.get (by k_asm) (List.Mem.tail _ (List.Mem.head _)))); (case X => k_in); (case ga => k_is); (case gt => k_is); (case gm => k_is); (case gf => exact findObj_own (by k_is) (by k_is) (by k_is) (by assumption)); (case gh => exact rfl)))
local macro_rules | `(tactic| walk_at "sout") => `(tactic| ((rename SRet _ _ _ _ _ _ _ _ _ _ _ _ _ _ => hS); refine' hS _ _ _ _ ?hR ?hF0 ?F ?N ?B ?X ?P ?D; (case F => k_asm); (case N => refine' cb_drop ?N1 ?N2; (case N1 => k_asm); (case N2 => walk_at "sub")); (case hF0 => first | assumption | exact KtsTurn.refl); (case B => assumption); (case X => assumption); (case P => assumption); (case D => assumption); (case hR => walk_at "fin")))
local macro_rules | `(tactic| walk_at "fin") => `(tactic| first | exact Or.inl ⟨by assumption, _, rfl⟩ | exact Or.inr ⟨by assumption, _, rfl⟩)
def LCl (w : World) (mean : ExcName → Option Value) (mg mb : Str → Option Value) (f : Addr) (d : Nat) (vs : List Value) (R : Value → Prop) : Prop :=
  ∀ (news : List (Addr × Obj)) (dp un : Nat) (gd : Option (List Code)) (cn : Str) (cs : Scope) (a : Addr) (ccd : Value) (A₀ : Around) (base h₀ : Heap) (L : Addr) (m : Str → Option Value) (s : Shared) (Q E : Value → Shared → Prop),
    Below A₀ base [] h₀ → Fr h₀ L s.heap m → (hd.heap_39 w.params).In h₀ → News h₀ L s.heap news →
    Top hd.view_39 (looseW hd.view_39 [Str.ofString "RowsError", Str.ofString "WIDTHS"]) mean mg mb h₀ → (hd.heap_39 w.params).In base →
    Top hd.view_39 (looseW hd.view_39 [Str.ofString "RowsError", Str.ofString "WIDTHS"]) mean mg mb base → cs.kind = .function → dp + d < recursionLimit → un + 8 * d < cLine →
    PRet h₀ L m news s Q R →
    wpAny (model PySem.Challenge.rw_pc0190_01.row.prog w) { handled := none, depth := dp, frames := some [envOf cn cs L a ccd], guards := gd, units := un } (call (.ref f) vs) Q E s
local macro_rules | `(tactic| walk_at "enterS0") => `(tactic| (refine wpAny_call ?_; k_dflt (refine' code_defS0 ?k1 ?k2 ?k3 ?k4 ?k5 ?kA ?k6 ?k7 ?k8 ?k9 ?kB ?_ ?cK ?c2 ?c3 ?c4 ?c5; (case kA => exact rfl); (case k2 => k_asm); (case k1 => k_asm); (case k3 => k_asm); (case k4 => k_asm); (case k5 => k_asm); (case k6 => k_is); (case k7 => k_is); (case k8 => ktr_room); (case k9 => exact BindsTo.of_eq rfl); (case kB => exact locs rfl); (case cK => assumption); (case c2 => exact rfl); (case c3 => exact rfl); (case c4 => exact rfl); (case c5 => decide); k_whole; intro g' L' h' FG' F' N' B' X' T' D'; (try dsimp only); (try k_fold))))
theorem gcd_told_spec {w : World} {mean : ExcName → Option Value} {mg mb : Str → Option Value} (a b : Int) (t3 t4 : Tok) (ha1 : -128 ≤ a) (ha2 : a ≤ 127) (hb1 : -128 ≤ b) (hb2 : b ≤ 127) :
    LCl w mean mg mb 235 24 [.int a t3, .int b t4] (fun v => (((a.gcd b : Nat) : Int) ≤ 127 ∧ ∃ t, v = .int (a.gcd b : Nat) t) ∨ (¬ ((a.gcd b : Nat) : Int) ≤ 127 ∧ ∃ t, v = .str (Str.ofString "OverflowError") t)) := by
  unfold LCl; k_fill; intros
  walk_at "enterS0"
  k_steps
  all_goals walk_at "out"
end
section
local macro_rules | `(tactic| walk_at "no such key") => `(tactic| fail)
local macro_rules | `(tactic| walk_at "no such key") => `(tactic| fail)
local macro_rules | `(tactic| walk_at "no such key") => `(tactic| fail)
local macro_rules | `(tactic| walk_at "no such key") => `(tactic| fail)
local macro_rules | `(tactic| walk_at "no such key") => `(tactic| fail)
local macro_rules | `(tactic| walk_at "no such key") => `(tactic| fail)
local macro_rules | `(tactic| walk_at "no such key") => `(tactic| fail)
local macro_rules | `(tactic| walk_at "no such key") => `(tactic| fail)
local macro_rules | `(tactic| walk_at "no such key") => `(tactic| fail)
local macro_rules | `(tactic| walk_at "no such key") => `(tactic| fail)
local macro_rules | `(tactic| walk_at "no such key") => `(tactic| fail)
local macro_rules | `(tactic| walk_at "no such key") => `(tactic| fail)
local macro_rules | `(tactic| walk_at "no such key") => `(tactic| fail)
local macro_rules | `(tactic| walk_at "no such key") => `(tactic| fail)
local macro_rules | `(tactic| walk_at "no such key") => `(tactic| fail)
local macro_rules | `(tactic| walk_at "no such key") => `(tactic| fail)
local macro_rules | `(tactic| walk_at "no such key") => `(tactic| fail)
local macro_rules | `(tactic| walk_at "no such key") => `(tactic| fail)
local macro_rules | `(tactic| walk_at "no such key") => `(tactic| fail)
local macro_rules | `(tactic| walk_at "no such key") => `(tactic| fail)
local macro_rules | `(tactic| walk_at "no such key") => `(tactic| fail)
local macro_rules | `(tactic| walk_at "no such key") => `(tactic| fail)
local macro_rules | `(tactic| walk_at "no such key") => `(tactic| fail)
local macro_rules | `(tactic| walk_at "no such key") => `(tactic| fail)
theorem reset_Dvsr : True := by
  w_top off
  trivial
local macro_rules | `(tactic| walk_at "spec") => `(tactic| (first | exact is_signed_spec .i8 _ | exact is_signed_spec .u8 _ | exact is_signed_spec .i16 _ | exact is_signed_spec .u16 _ | exact is_signed_spec .i32 _ | exact is_signed_spec .u32 _ | exact is_signed_spec .i64 _ | exact is_signed_spec .u64 _ | exact is_signed_spec _ _))
local macro_rules | `(tactic| walk_at "spec") => `(tactic| (first | exact least_spec _ _ | exact greatest_spec _ _ | exact is_signed_spec _ _))
local macro_rules | `(tactic| walk_at "spec") => `(tactic| exact fits_spec _ _ _ _)
local macro_rules | `(tactic| walk_at "spec") => `(tactic| exact cut_quotient_spec _ _ _ _ (by omega) (by omega) (by omega))
local macro_rules | `(tactic| walk_at "enterC") => `(tactic| (refine wpAny_call ?_; k_dflt (refine' code_defC ?k1 ?k2 ?k3 ?k4 ?k5 ?kA ?kF ?kK ?k6 ?k7 ?k8 ?k9 ?kB ?kD ?_ ?c2 ?c3 ?c4; (case kA => exact rfl); (case kF => exact rfl); (case kK => assumption); (case k1 => k_asm); (case k2 => k_asm); (case k3 => k_asm); (case k4 => k_asm); (case k5 => k_asm); (case k6 => k_is); (case k7 => k_is); (case k8 => ktr_room); (case k9 => exact BindsTo.of_eq rfl); (case kB => exact rfl); (case kD => decide +kernel); (case c2 => exact rfl); (case c3 => exact rfl); (case c4 => exact rfl); k_whole; intro g' L' h' tk' cells' FG' F' N' Y' B' X' T' l1; k_cells Y'; (try simp only [List.cons_append, List.nil_append] at N'); (try dsimp only); (try k_lift B'); (try k_fold))))
theorem abs_left {a b : Int} {u : Tok} (h : a = 0) : ∃ t, Value.int (if a + b < 0 then -(a + b) else a + b) u = Value.int ((a.gcd b : Nat) : Int) t := by
  subst h
  refine ⟨u, congrArg (fun i => Value.int i u) ?_⟩
  rw [Int.gcd_zero_left]
  split <;> omega
theorem abs_right {a b : Int} {u : Tok} (h : b = 0) : ∃ t, Value.int (if a + b < 0 then -(a + b) else a + b) u = Value.int ((a.gcd b : Nat) : Int) t := by
  subst h
  refine ⟨u, congrArg (fun i => Value.int i u) ?_⟩
  rw [Int.gcd_zero_right]
  split <;> omega
def G (a b : Int) (l : List Int) (k : Int) : List Int := if a.fmod k = 0 ∧ b.fmod k = 0 then l ++ [k] else l
theorem G_yes {a b k : Int} {l : List Int} (h1 : a.fmod k = 0) (h2 : b.fmod k = 0) : G a b l k = l ++ [k] := if_pos ⟨h1, h2⟩
theorem G_no1 {a b k : Int} {l : List Int} (h1 : ¬ a.fmod k = 0) : G a b l k = l := if_neg fun h => h1 h.1
theorem G_no2 {a b k : Int} {l : List Int} (h2 : ¬ b.fmod k = 0) : G a b l k = l := if_neg fun h => h2 h.2
theorem G_mem {a b : Int} : ∀ (ks l : List Int) (x : Int), x ∈ ks.foldl (G a b) l ↔ x ∈ l ∨ (x ∈ ks ∧ a.fmod x = 0 ∧ b.fmod x = 0)
  | [], l, x => by simp
  | k :: ks, l, x => by
    rw [List.foldl_cons, G_mem ks, List.mem_cons]
    unfold G
    by_cases c : a.fmod k = 0 ∧ b.fmod k = 0
    · rw [if_pos c, List.mem_append, List.mem_singleton]
      constructor
      · rintro ((h | h) | h)
        · exact .inl h
        · exact .inr ⟨.inl h, h ▸ c⟩
        · exact .inr ⟨.inr h.1, h.2⟩
      · rintro (h | ⟨h | h, hc⟩)
        · exact .inl (.inl h)
        · exact .inl (.inr h)
        · exact .inr ⟨h, hc⟩
    · rw [if_neg c]
      constructor
      · rintro (h | h)
        · exact .inl h
        · exact .inr ⟨.inr h.1, h.2⟩
      · rintro (h | ⟨h | h, hc⟩)
        · exact .inl h
        · exact absurd (h ▸ hc) c
        · exact .inr ⟨h, hc⟩
theorem G_gcd {a b : Int} {n : Nat} (h0 : 0 < n) (h2 : (n : Int) = b.natAbs ∨ (n : Int) = a.natAbs) (h3 : n ≤ a.natAbs) (h4 : n ≤ b.natAbs) : ((a.gcd b : Nat) : Int) ∈ (rangeKs 1 n).foldl (G a b) [] := by
  rw [G_mem]
  have g0 : 0 < a.gcd b := Int.gcd_pos_of_ne_zero_left _ (by omega)
  have ga : a.gcd b ≤ a.natAbs := Nat.le_of_dvd (by omega) (Nat.gcd_dvd_left _ _)
  have gb : a.gcd b ≤ b.natAbs := Nat.le_of_dvd (by omega) (Nat.gcd_dvd_right _ _)
  refine .inr ⟨?_, ?_, ?_⟩
  · unfold rangeKs
    simp only [List.mem_map, List.mem_range]
    exact ⟨a.gcd b - 1, by omega, by omega⟩
  · exact Int.fmod_eq_zero_of_dvd (Int.gcd_dvd_left _ _)
  · exact Int.fmod_eq_zero_of_dvd (Int.gcd_dvd_right _ _)
theorem G_pos {a b : Int} {n : Nat} (h0 : 0 < n) (h2 : (n : Int) = b.natAbs ∨ (n : Int) = a.natAbs) (h3 : n ≤ a.natAbs) (h4 : n ≤ b.natAbs) : 0 < ((rangeKs 1 n).foldl (G a b) []).length := List.length_pos_of_mem (G_gcd h0 h2 h3 h4)
theorem G_max {a b M : Int} {n : Nat} (h0 : 0 < n) (h2 : (n : Int) = b.natAbs ∨ (n : Int) = a.natAbs) (h3 : n ≤ a.natAbs) (h4 : n ≤ b.natAbs) (hM : M ∈ (rangeKs 1 n).foldl (G a b) []) (hx : ∀ x, x ∈ (rangeKs 1 n).foldl (G a b) [] → x ≤ M) : M = (a.gcd b : Nat) := by
  have h5 := hx _ (G_gcd h0 h2 h3 h4)
  rw [G_mem] at hM
  obtain h | ⟨_, ha, hb⟩ := hM
  · cases h
  have g0 : 0 < a.gcd b := Int.gcd_pos_of_ne_zero_left _ (by omega)
  have d1 := Int.dvd_of_fmod_eq_zero ha
  have d2 := Int.dvd_of_fmod_eq_zero hb
  have := Int.le_of_dvd (by omega) (Int.dvd_coe_gcd d1 d2)
  omega
theorem divisor_spec {w : World} {mean : ExcName → Option Value} {mg mb : Str → Option Value} (a b : Int) (t t' : Tok) (ha1 : -128 ≤ a) (ha2 : a ≤ 128) (hb1 : -128 ≤ b) (hb2 : b ≤ 128) :
    PCl w mean mg mb 221 12 [.int a t, .int b t'] (fun v => ∃ t, v = .int (a.gcd b : Nat) t) := by
  walk_at "pcl"
  walk_at "enterC"
  repeat' (first | (k_unfold; (try dsimp only)) | ((fail_if_success (with_reducible show wpAny _ _ (eval (Expr.ListComp _ _ _ _) _) _ _ _)); walk1))
  all_goals try (refine' PCl.out ?e0 ?e1 ?e2 ?e3 ?e4; (case e0 => assumption); (case e2 => k_asm); (case e3 => k_asm); (case e4 => walk_at "sub"); (case e1 => first | exact abs_left (by assumption) | exact abs_right (by assumption)))
  k_dflt (refine LCt.ListComp_T (F₀ := by k_asm) (by with_unfolding_all rfl) (by decide) (by rfl) (by decide) (by rfl) ?_)
  k_dflt (repeat' (((fail_if_success (with_reducible show @LCt.CompSrcT _ _ _ _ _ _ _ _ _ _ _ _ _ _ _)); first | walk1 | (dsimp only; walk1))))
  (with_reducible rename IsRange _ _ _ _ _ _ _ _ => rg)
  have hm : ∃ n : Nat, (if (if b < 0 then -b else b) < if a < 0 then -a else a then if b < 0 then -b else b else if a < 0 then -a else a) + 1 = 1 + (n : Int) ∧ 0 < n ∧ n ≤ 128 ∧ ((n : Int) = b.natAbs ∨ (n : Int) = a.natAbs) ∧ n ≤ a.natAbs ∧ n ≤ b.natAbs := by
    refine ⟨min a.natAbs b.natAbs, ?_⟩
    refine ⟨?_, by omega, by omega, by omega, by omega, by omega⟩
    split <;> split <;> (try split) <;> omega
  obtain ⟨n, hn, hn0, hn1, hn2, hn3, hn4⟩ := hm
  rw [hn] at rg
  refine LCt.CompSrcT.range (n := n) (by rfl) (by k_asm) (by k_asm) (by assumption) (by apply small_one <;> omega) ?hrs (by rw [PySem.sizeLine_eq]; omega) ?_
  (case hrs => rw [rangeSize_nat]; omega)
  intro g'
  refine' kci_range (G a b) (fun k' t' I' oI' C' oC' D' m' ys' l' h' tk' E' hlo' hhi' hI' hC' hx' F' N' off' ne' => ?_) ?_ ?_
  · intro hMark
    simp only [LCg.Off3] at off'
    k_steps
    all_goals first
      | exact LCg.CompEnd.intro (by assumption) (by assumption) _ (by kcf_all) (by first | assumption | (simp only [LCg.Off3, and_true]; assumption)) trivial (kci_el (G_yes (by assumption) (by assumption)) rfl rfl)
      | exact LCg.CompEnd.intro (by assumption) (by assumption) _ (by kcf_all) (by first | assumption | (simp only [LCg.Off3, and_true]; assumption)) trivial (kci_no (G_no1 (by assumption)) rfl)
      | exact LCg.CompEnd.intro (by assumption) (by assumption) _ (by kcf_all) (by first | assumption | (simp only [LCg.Off3, and_true]; assumption)) trivial (kci_no (G_no2 (by assumption)) rfl)
  · unfold KPfDone
    intro ys hy hl
    k_steps
    k_dflt (refine' kso_max ?k1 ?k2 ?k3 ?k4 ?k5 ?k6 ?_; (case k4 => exact hy); (case k1 => k_asm); (case k2 => k_asm); (case k3 => kso_list); (case k5 => exact G_pos hn0 hn2 hn3 hn4); (case k6 => with_unfolding_all rfl))
    intro h' M' t' k' F' N' a' b'
    have e := G_max hn0 hn2 hn3 hn4 a' b'
    subst e
    k_steps
    all_goals (refine' PCl.out ?e0 ?e1 ?e2 ?e3 ?e4; (case e0 => assumption); (case e2 => k_asm); (case e3 => k_asm); (case e4 => walk_at "sub"); (case e1 => exact ⟨_, rfl⟩))
  · intro l k
    unfold G
    split <;> simp
end
section
theorem reset_Spring : True := by
  w_top off
  trivial
def SpObj (w : World) (o : Obj) (a b : Int) : Prop := ∃ t u, Obj.IsDictOf (PySem.strKind PySem.Challenge.rw_pc0190_01.row.prog w) o [(Str.ofString "left", .int a t), (Str.ofString "turn", .int b u)]
theorem sp_turn {x : Int} {c : Prop} [Decidable c] : 0 ≤ (x.fmod 2147483587 + if c then 1 else 0) + 41 := by
  have := Int.fmod_nonneg_of_pos x (show (0 : Int) < 2147483587 by decide)
  split <;> omega
theorem sp_left {y x : Int} {c : Prop} [Decidable c] (h : y ≤ x) (hy : 0 ≤ y) : 0 ≤ 2 * x + if c then 1 else 0 := by
  split <;> omega
theorem spring_spec {w : World} {mean : ExcName → Option Value} {mg mb : Str → Option Value} (sa : Addr) (vs : List Value) (ns : List Int) (hi : IntsAre vs ns)
  {news : List (Addr × Obj)} {dp un : Nat} {gd : Option (List Code)} {cn : Str} {cs : Scope} {a : Addr} {ccd : Value} {cl : List (Str × Addr)} {outer : List Env} {A₀ : Around} {base h₀ : Heap} {L : Addr} {m : Str → Option Value} {s : Shared} {Q E : Value → Shared → Prop}
  (hl : base.IsList sa vs.toArray) (hlen : ¬ 63 < ns.length)
   (B : Below A₀ base outer h₀) (F : Fr h₀ L s.heap m) (X : (hd.heap_39 w.params).In h₀) (N : News h₀ L s.heap news)
    (T : Top hd.view_39 (looseW hd.view_39 [Str.ofString "RowsError", Str.ofString "WIDTHS"]) mean mg mb h₀) (hk : cs.kind = .function) (hdp : dp + 12 < recursionLimit) (_hun : un + 8 * 12 < cLine)
    (hQ : ∀ d o i j h' tk', 0 ≤ i → 0 ≤ j → SpObj w o i j → (d == sysModules) = false → (∀ p ∈ news, p.1 ≠ d) → Fr h₀ L h' m → News h₀ L h' ((d, o) :: news) → Q (.ref d) { s with heap := h', toks := tk' }) :
    wpAny (model PySem.Challenge.rw_pc0190_01.row.prog w) (ktrTop dp un gd cn cs L a ccd cl outer) (call (.ref 181) [.ref sa]) Q E s := by
  revert X; k_fill; intro X
  walk_at "enter"
  k_steps
  all_goals (
    refine' hQ _ _ _ _ _ _ ?h1 ?h2 ?h3 ?h4 ?h5 ?h6 ?h7
    (case h7 => k_asm)
    (case h6 => k_asm)
    (case h3 => exact ⟨_, _, by assumption⟩)
    (case h4 => assumption)
    (case h5 => exact fun p hp => Nat.ne_of_lt ((by assumption : ∀ (p : Addr × Obj), p ∈ news → p.fst < _) p hp))
    (case h1 => first | exact Int.le_refl 0 | exact sp_left (by assumption) (by decide))
    (case h2 => exact sp_turn))
local macro_rules | `(tactic| k_all) => `(tactic| assumption)
theorem drop_spec {w : World} {mean : ExcName → Option Value} {mg mb : Str → Option Value} {d : Addr} {o : Obj} {i j many : Int} {t : Tok}
  {news : List (Addr × Obj)} {dp un : Nat} {gd : Option (List Code)} {cn : Str} {cs : Scope} {a : Addr} {ccd : Value} {cl : List (Str × Addr)} {outer : List Env} {A₀ : Around} {base h₀ : Heap} {L : Addr} {m : Str → Option Value} {s : Shared} {Q E : Value → Shared → Prop}
   (hi : 0 ≤ i) (hj : 0 ≤ j) (hm : 0 < many) (hm2 : many ≤ 18446744073709551616) (ho : SpObj w o i j) (hne : ∀ p ∈ news, p.1 ≠ d)
   (B : Below A₀ base outer h₀) (F : Fr h₀ L s.heap m) (X : (hd.heap_39 w.params).In h₀) (N : News h₀ L s.heap ((d, o) :: news))
    (T : Top hd.view_39 (looseW hd.view_39 [Str.ofString "RowsError", Str.ofString "WIDTHS"]) mean mg mb h₀) (hk : cs.kind = .function) (hdp : dp + 12 < recursionLimit) (hun : un + 8 * 12 < cLine)
    (hQ : ∀ o r t i j h' tk', 0 ≤ r → r < many → 0 ≤ i → 0 ≤ j → SpObj w o i j → Fr h₀ L h' m → News h₀ L h' ((d, o) :: news) → Q (.int r t) { s with heap := h', toks := tk' }) :
    wpAny (model PySem.Challenge.rw_pc0190_01.row.prog w) (ktrTop dp un gd cn cs L a ccd cl outer) (call (.ref 188) [.ref d, .int many t]) Q E s := by
  revert X; k_fill; intro X
  obtain ⟨t2, t4, ho⟩ := ho
  walk_at "enter"
  k_steps
  all_goals (
    have hr := Int.fmod_nonneg_of_pos i hm
    refine' hQ _ _ _ _ _ _ _ ?h1 ?h2 ?h3 ?h4 ?h5 ?h6 ?h7
    (case h7 => k_asm)
    (case h6 => k_asm)
    (case h5 => exact ⟨_, _, by assumption⟩)
    (case h4 => first | assumption | exact Int.fmod_nonneg_of_pos _ (by decide))
    (case h3 => first | assumption | exact Int.fdiv_nonneg hi (Int.le_of_lt hm))
    (case h1 => exact Int.fmod_nonneg_of_pos _ hm)
    (case h2 => exact Int.fmod_lt_of_pos _ hm))
end
section
local macro_rules | `(tactic| walk_at "no such key") => `(tactic| fail)
local macro_rules | `(tactic| walk_at "no such key") => `(tactic| fail)
local macro_rules | `(tactic| walk_at "no such key") => `(tactic| fail)
local macro_rules | `(tactic| walk_at "no such key") => `(tactic| fail)
local macro_rules | `(tactic| walk_at "no such key") => `(tactic| fail)
local macro_rules | `(tactic| walk_at "no such key") => `(tactic| fail)
local macro_rules | `(tactic| walk_at "no such key") => `(tactic| fail)
local macro_rules | `(tactic| walk_at "no such key") => `(tactic| fail)
local macro_rules | `(tactic| walk_at "no such key") => `(tactic| fail)
local macro_rules | `(tactic| walk_at "no such key") => `(tactic| fail)
local macro_rules | `(tactic| walk_at "no such key") => `(tactic| fail)
local macro_rules | `(tactic| walk_at "no such key") => `(tactic| fail)
local macro_rules | `(tactic| walk_at "no such key") => `(tactic| fail)
local macro_rules | `(tactic| walk_at "no such key") => `(tactic| fail)
local macro_rules | `(tactic| walk_at "no such key") => `(tactic| fail)
local macro_rules | `(tactic| walk_at "no such key") => `(tactic| fail)
local macro_rules | `(tactic| walk_at "no such key") => `(tactic| fail)
local macro_rules | `(tactic| walk_at "no such key") => `(tactic| fail)
local macro_rules | `(tactic| walk_at "no such key") => `(tactic| fail)
local macro_rules | `(tactic| walk_at "no such key") => `(tactic| fail)
local macro_rules | `(tactic| walk_at "no such key") => `(tactic| fail)
local macro_rules | `(tactic| walk_at "no such key") => `(tactic| fail)
local macro_rules | `(tactic| walk_at "no such key") => `(tactic| fail)
local macro_rules | `(tactic| walk_at "no such key") => `(tactic| fail)
theorem reset_Numb : True := by
  w_top off
  trivial
local macro_rules | `(tactic| walk_at "spec") => `(tactic| (first | exact is_signed_spec .i8 _ | exact is_signed_spec .u8 _ | exact is_signed_spec .i16 _ | exact is_signed_spec .u16 _ | exact is_signed_spec .i32 _ | exact is_signed_spec .u32 _ | exact is_signed_spec .i64 _ | exact is_signed_spec .u64 _ | exact is_signed_spec _ _))
local macro_rules | `(tactic| walk_at "spec") => `(tactic| (first | exact least_spec _ _ | exact greatest_spec _ _ | exact is_signed_spec _ _))
local macro_rules | `(tactic| walk_at "spec") => `(tactic| exact fits_spec _ _ _ _)
local macro_rules | `(tactic| walk_at "spec") => `(tactic| exact cut_quotient_spec _ _ _ _ (by omega) (by omega) (by omega))
theorem allLt_hd {x d : Nat} {o : Obj} {l : List (Addr × Obj)} (h : AllLt x ((d, o) :: l)) : x ≠ d := Nat.ne_of_gt h.1
section
variable {h₀ h : Heap} {L : Addr} {p q x : Addr × Obj} {l : List (Addr × Obj)}
theorem rot1 (N : News h₀ L h (p :: x :: l)) : News h₀ L h (x :: p :: l) := cb_drop N fun y hy => by
  rcases List.mem_cons.mp hy with rfl | hy
  · exact .tail _ (.head _)
  rcases List.mem_cons.mp hy with rfl | hy
  · exact .head _
  · exact .tail _ (.tail _ hy)
theorem rot2 (N : News h₀ L h (p :: q :: x :: l)) : News h₀ L h (x :: p :: q :: l) := cb_drop N fun y hy => by
  rcases List.mem_cons.mp hy with rfl | hy
  · exact .tail _ (.tail _ (.head _))
  rcases List.mem_cons.mp hy with rfl | hy
  · exact .head _
  rcases List.mem_cons.mp hy with rfl | hy
  · exact .tail _ (.head _)
  · exact .tail _ (.tail _ (.tail _ hy))
end
local macro_rules | `(tactic| walk_at "call ref") => `(tactic| k_dflt (refine' NCl.use ?kC ?k1 ?k2 ?k3 ?k4 ?k5 ?kK ?kd ?ku ?_; (case k2 => k_asm); (case k1 => k_asm); (case k3 => k_asm); (case k4 => k_asm); (case k5 => k_asm); (case kC => exact span_spec _ _); (case kK => first | exact rfl | assumption); (case kd => ktr_room); (case ku => ktr_units); intro x9 v9 h9 tk9 hR9 F9 N9 l9; obtain ⟨t9, u9, e9⟩ := hR9; subst e9; (try dsimp only); (try k_sweep); (try k_fold)))
local macro_rules | `(tactic| walk_at "drop ne") => `(tactic| first | assumption | (refine List.forall_mem_cons.mpr ⟨?_, ?_⟩; (focus (first | exact allLt_hd (by assumption) | (refine neN ?_; (try dsimp only); omega))); walk_at "drop ne"))
local macro_rules | `(tactic| walk_at "call ref") => `(tactic| k_dflt (refine' drop_spec ?hi ?hj ?hm ?hm2 ?ho ?hne ?B ?F ?X ?N ?T ?ck ?hr ?hu ?_; (case ho => assumption); (case hi => assumption); (case hj => assumption); (case B => k_asm); (case F => k_asm); (case X => k_asm); (case T => k_asm); (case N => first | assumption | exact rot1 (by assumption) | exact rot2 (by assumption)); (case hne => walk_at "drop ne"); (case hm => omega); (case hm2 => omega); (case ck => first | exact rfl | assumption); (case hr => ktr_room); (case hu => ktr_units); intro o9 r9 t9 i9 j9 h9 tk9 hr9 hs9 hi9 hj9 ho9 F9 N9; (try dsimp only); (try k_fold)))
theorem number_in {lo hi r z : Int} (h1 : 0 ≤ z) (h2 : z < 8) (h3 : lo ≤ 0) (h4 : 127 ≤ hi) (h5 : 0 ≤ r) (h6 : r < hi - lo + 1) : lo ≤ [lo, hi, 0, 1, if -1 > lo then -1 else lo, if -7 > lo then -7 else lo, 2, lo + r].getD z.toNat 0 ∧ [lo, hi, 0, 1, if -1 > lo then -1 else lo, if -7 > lo then -7 else lo, 2, lo + r].getD z.toNat 0 ≤ hi := by
  have hn : z.toNat < 8 := by omega
  generalize z.toNat = n at hn ⊢
  have h : ∀ x ∈ [lo, hi, 0, 1, if -1 > lo then -1 else lo, if -7 > lo then -7 else lo, 2, lo + r], lo ≤ x ∧ x ≤ hi := by
    simp only [List.forall_mem_cons, List.not_mem_nil, false_implies, implies_true, and_true]
    refine ⟨by omega, by omega, by omega, by omega, ?_, ?_, by omega, by omega⟩ <;> split <;> omega
  apply h
  generalize hl : [lo, hi, 0, 1, if -1 > lo then -1 else lo, if -7 > lo then -7 else lo, 2, lo + r] = l
  have hn' : n < l.length := by rw [← hl]; exact hn
  rw [List.getD, List.getElem?_eq_getElem hn']
  exact List.getElem_mem _
theorem number_spec {w : World} {mean : ExcName → Option Value} {mg mb : Str → Option Value} (κ : Kind) {d : Addr} {o : Obj} {i j : Int} {t : Tok}
  {news : List (Addr × Obj)} {dp un : Nat} {gd : Option (List Code)} {cn : Str} {cs : Scope} {a : Addr} {ccd : Value} {cl : List (Str × Addr)} {outer : List Env} {A₀ : Around} {base h₀ : Heap} {L : Addr} {m : Str → Option Value} {s : Shared} {Q E : Value → Shared → Prop}
   (hi : 0 ≤ i) (hj : 0 ≤ j) (ho : SpObj w o i j) (hne : ∀ p ∈ news, p.1 ≠ d)
   (B : Below A₀ base outer h₀) (F : Fr h₀ L s.heap m) (X : (hd.heap_39 w.params).In h₀) (N : News h₀ L s.heap ((d, o) :: news))
    (T : Top hd.view_39 (looseW hd.view_39 [Str.ofString "RowsError", Str.ofString "WIDTHS"]) mean mg mb h₀) (hk : cs.kind = .function) (hdp : dp + 16 < recursionLimit) (hun : un + 8 * 16 < cLine)
    (hQ : ∀ o x t i j h' tk', κ.lo ≤ x → x ≤ κ.hi → 0 ≤ i → 0 ≤ j → SpObj w o i j → Fr h₀ L h' m → News h₀ L h' ((d, o) :: news) → Q (.int x t) { s with heap := h', toks := tk' }) :
    wpAny (model PySem.Challenge.rw_pc0190_01.row.prog w) (ktrTop dp un gd cn cs L a ccd cl outer) (call (.ref 202) [.ref d, .str κ.name t]) Q E s := by
  revert X; k_fill; intro X
  have k1 := κ.lo_ge
  have k2 := κ.hi_le
  have k3 := κ.lo_le
  have k4 := κ.hi_ge
  have k5 : κ.hi - κ.lo + 1 ≤ 18446744073709551616 := by cases κ <;> decide
  walk_at "enter"
  k_steps
  refine' hQ _ _ _ _ _ _ _ ?h1 ?h2 ?h3 ?h4 ?h5 ?h6 ?h7
  (case h7 => refine' cb_drop ?N1 ?N2; (case N1 => assumption); (case N2 => walk_at "sub"))
  (case h6 => k_asm)
  (case h5 => assumption)
  (case h4 => assumption)
  (case h3 => assumption)
  (case h1 => refine (number_in ?_ ?_ k3 k4 ?_ ?_).1 <;> assumption)
  (case h2 => refine (number_in ?_ ?_ k3 k4 ?_ ?_).2 <;> assumption)
end
section
section
variable {prog : Program} {w : World} {A : Around} {E : Value → Shared → Prop} {s : Shared} {h₀ : Heap} {L : Addr} {m : Str → Option Value} {env : Env}
def TupAt (ax : Addr) (its : Array Value) (news : List (Addr × Obj)) : Prop := (ax, ({ cls := .type "tuple", data := .seq its } : Obj)) ∈ news
theorem TupAt.tuple {h : Heap} {ax : Addr} {its : Array Value} {news : List (Addr × Obj)} (x : TupAt ax its news) (N : News h₀ L h news) : h.IsTuple ax its := ⟨_, (N _ x).1, rfl, _, rfl⟩
theorem tup_st {ax I : Addr} {its : Array Value} : ∀ i (h h' : Heap) (o : Obj) (nw : List (Addr × Obj)), (h.IsTupleIter I ax i ∧ h.IsTuple ax its) → h.get? I = some o → h'.get? I = some o → (∀ b o, h₀.get? b = some o → h'.get? b = some o) → News h₀ L h' nw → TupAt ax its nw → (h'.IsTupleIter I ax i ∧ h'.IsTuple ax its) :=
  fun i h h' o nw st e e' _ N S => ⟨by obtain ⟨o', q, r⟩ := st.1; rw [e] at q; cases q; exact ⟨o, e', r⟩, S.tuple N⟩
def TSrc (prog : Program) (w : World) (A : Around) (h₀ : Heap) (L : Addr) (m : Str → Option Value) (env : Env) (elt : Expr) (x : Str) (scope : Scope) (cl : List (Str × Addr)) (Fin : Shared → List Value → List (Addr × Obj) → Prop) (xv : Value) (s₁ : Shared) : Prop :=
  ∃ ax its news, xv = .ref ax ∧ A.handled = none ∧ Fr h₀ L s₁.heap m ∧ News h₀ L s₁.heap news ∧ TupAt ax its news ∧ its.size ≤ sizeLine ∧
    ∀ s₂ : Shared, (∃ h, s₂ = { s₁ with heap := h }) → LCg.CompRest prog w A h₀ L m env elt x scope cl s₂ (TupAt ax its) (fun i v => its[i]? = some v) (Fin s₂) its.size 0 [] news
theorem TSrc.ledger {elt : Expr} {x : Str} {scope : Scope} {cl : List (Str × Addr)} {Fin : Shared → List Value → List (Addr × Obj) → Prop} {ax : Addr} {its : Array Value} {news : List (Addr × Obj)} {s₁ : Shared}
    (hh : A.handled = none) (F : Fr h₀ L s₁.heap m) (N : News h₀ L s₁.heap news) (hm : TupAt ax its news) (hsz : its.size ≤ sizeLine)
    (h : ∀ g, LCg.CompRest prog w A h₀ L m env elt x scope cl { s₁ with heap := g } (TupAt ax its) (fun i v => its[i]? = some v) (Fin { s₁ with heap := g }) its.size 0 [] news) :
    TSrc prog w A h₀ L m env elt x scope cl Fin (.ref ax) s₁ := ⟨ax, its, news, rfl, hh, F, N, hm, hsz, fun _ ⟨g, e⟩ => e ▸ h g⟩
theorem ListComp_Tup {elt iter : Expr} {x : Str} {px : Pos} {scope : Scope} {cl : List (Str × Addr)} {pos : Pos} {Q : Value → Shared → Prop} (_F₀ : Fr h₀ L s.heap m)
    (hclos : closureFor scope env = pure cl) (hcell : ∀ y ∈ scope.names, y.2 ≠ .cell) (hkind : scope.kind = .function)
    (hnames : ∀ y ∈ scope.names, y.2 = .local → scope.names.lookup y.1 = some .local) (hx : scope.names.lookup x = some .local)
    (h : wpAny (model prog w) A (eval iter env) (TSrc prog w A h₀ L m env elt x scope cl (fun s₂ => LCg.FinE h₀ L m s₂ Q)) E s)
    (hs : ∀ x, foldedSetIterable iter env x = pure x := by intro _; rfl) :
    wpAny (model prog w) A (eval (.ListComp elt [⟨.Name x px, iter, [], 0⟩] scope pos) env) Q E s := by
  rw [eval_ListComp]
  refine wpAny_comprehension_free (use := none) rfl hs hclos hkind hnames (wpAny_mono h (fun xv s₁ h₁ => ?_) fun _ _ e => e)
  obtain ⟨ax, its, news, rfl, hh, F, N, S, hsz, R⟩ := h₁
  have hl := S.tuple N
  have hlt : ax < s₁.heap.objs.size := by obtain ⟨_, e, _⟩ := hl; exact Heap.lt_size e
  refine wpAny_pyIter_tuple hl ?_
  have up : ∀ b o, s₁.heap.get? b = some o → (s₁.heap.push { cls := .type "tuple_iterator", data := .fields #[.ref ax, .int 0 0] }).get? b = some o := fun b o e => Heap.get?_push_of_some _ e
  refine LCg.block_U (Walks.tuple hh s₁.heap.objs.size ax (Nat.ne_of_lt hlt) its) hsz (fun i h st => by obtain ⟨o, e, _⟩ := st.1; exact ⟨o, e⟩) tup_st hcell hkind hx ⟨⟨_, Heap.get?_push_size _ rfl, rfl, rfl⟩, hl.push _⟩ (fun b hb => ?_)
    (F.keeps up) (N.grown up) (Nat.ne_of_lt F.ns.lt) (next_is_new F) (fun p hp => Nat.ne_of_lt (Heap.lt_size (N p hp).1)) S (R _ ⟨_, rfl⟩) ?_
  · show b < (s₁.heap.push _).objs.size
    rw [Heap.size_push]
    rcases List.mem_cons.mp hb with rfl | hb
    · exact Nat.lt_succ_self _
    · rw [List.mem_singleton.mp hb]; exact Nat.lt_succ_of_lt hlt
  · intro D C h tk m' ys news' F' N' o1 hn hC₀ hD₀ hCL hDL hCD offC fin
    refine ⟨m', hn, fun h'' hs'' => fin D h'' tk (F'.change hs'' hCL hC₀) (fun p hp => ?_) o1⟩
    refine ⟨hs''.extBut _ _ ?_ (N' p hp).1, (N' p hp).2⟩
    rcases List.mem_cons.mp hp with rfl | hp
    · exact Ne.symm hCD
    · exact offC p hp
end
end
section
section
variable {prog : Program} {w : World} {A : Around} {E : Value → Shared → Prop} {Q : Flow → Shared → Prop} {s : Shared} {env : Env} {h₀ : Heap} {x : Str} {body : List Stmt}
abbrev SpLed (d : Addr) (c : Obj × Int × Int) : List (Addr × Obj) := [(d, c.1)]
abbrev SpFacts (w : World) (c : Obj × Int × Int) : Prop := 0 ≤ c.2.1 ∧ 0 ≤ c.2.2 ∧ SpObj w c.1 c.2.1 c.2.2
theorem spRange {r d : Addr} {o₀ : Obj} {i₀ j₀ a₀ b₀ : Int} {n : Nat} {t₀ u₀ v₀ : Tok} {m₀ : Str → Option Value} (stored : List Str) (hS : SpObj w o₀ i₀ j₀) (hi : 0 ≤ i₀) (hj : 0 ≤ j₀)
    (hh : A.handled = none) (hr : IsRange s.heap r a₀ b₀ 1 t₀ u₀ v₀) (hsmall : Builtin.Range.small a₀ b₀ 1 = true) (hn : Builtin.Range.rangeSize a₀ b₀ 1 = (n : Int)) (F : Fr h₀ env.locals s.heap m₀) (N : News h₀ env.locals s.heap [(d, o₀)])
    (turn : ∀ (o : Obj) (i j : Int) (pre : List Int) (k : Int) t (u : Str → Option Value) h tk own, 0 ≤ i → 0 ≤ j → SpObj w o i j → (∀ p ∈ own, p.1 ≠ d) →
      Fr h₀ env.locals h (fun y => if y = x then some (.int k t) else if stored.contains y then u y else m₀ y) → News h₀ env.locals h ((d, o) :: own) →
      wpAny (model prog w) A (execs body env) (InvPostN h₀ env.locals (KstS (SpLed d) (fun _ => []) (SpFacts w) x stored m₀ (fun _ _ => True) (pre ++ [k])) own [d] { s with heap := h, toks := tk } Q) E { s with heap := h, toks := tk })
    (done : ∀ (o : Obj) (i j : Int) (u : Str → Option Value) h tk, SpObj w o i j → Fr h₀ env.locals h (fun y => if y = x then u y else if stored.contains y then u y else m₀ y) → News h₀ env.locals h [(d, o)] → Q .next { s with heap := h, toks := tk }) :
    wpAny (model prog w) A (pyIter (.ref r)) (fun it s₂ => LoopAtV prog w A h₀ env x body Q E it s₂) E s :=
  kst_range (SpLed d) (fun _ => []) (SpFacts w) stored (fun _ _ => True) (o₀, i₀, j₀) hh hr hsmall hn F N ⟨hi, hj, hS⟩ (fun _ hp => nomatch hp) trivial
    (fun c pre k t u h tk own _ _ ho hf _ F N => turn c.1 c.2.1 c.2.2 pre k t u h tk own hf.1 hf.2.1 hf.2.2 (fun p hp => ho p hp d (.head _)) F N)
    (fun c u h tk hf _ F N => done c.1 c.2.1 c.2.2 u h tk hf.2.2 F N)
theorem spEnd {d : Addr} {o : Obj} {i j : Int} {stored : List Str} {m₀ : Str → Option Value} {pre : List Int} {L : Addr} {m' : Str → Option Value} {own news' : List (Addr × Obj)} {s₁ : Shared} {h' : Heap} {tk : Nat}
    (hS : SpObj w o i j) (hi : 0 ≤ i) (hj : 0 ≤ j) (F : Fr h₀ L h' m') (N : News h₀ L h' ((d, o) :: news')) (ho : ∀ p ∈ own, p ∈ news') (hr : ∀ z, z ≠ x → stored.contains z = false → m' z = m₀ z) :
    InvEndN h₀ L (KstS (SpLed d) (fun _ => []) (SpFacts w) x stored m₀ (fun _ _ => True) pre) own [d] s₁ { s₁ with heap := h', toks := tk } :=
  kst_end (o, i, j) F N (fun p hp => by rcases List.mem_cons.mp hp with rfl | hp; exact .head _; cases hp) (fun p hp => .tail _ (ho p hp)) rfl ⟨hi, hj, hS⟩ (fun _ hp => nomatch hp) (fun z h1 _ h3 => hr z h1 h3) trivial
end
end
section
local macro_rules | `(tactic| walk_at "spec") => `(tactic| (first | exact is_signed_spec .i8 _ | exact is_signed_spec .u8 _ | exact is_signed_spec .i16 _ | exact is_signed_spec .u16 _ | exact is_signed_spec .i32 _ | exact is_signed_spec .u32 _ | exact is_signed_spec .i64 _ | exact is_signed_spec .u64 _ | exact is_signed_spec _ _))
local macro_rules | `(tactic| walk_at "spec") => `(tactic| (first | exact least_spec _ _ | exact greatest_spec _ _ | exact is_signed_spec _ _))
local macro_rules | `(tactic| walk_at "spec") => `(tactic| exact fits_spec _ _ _ _)
section
variable {prog : Program} {w : World} {A : Around} {E : Value → Shared → Prop} {s : Shared}
theorem kind_at {n : Nat} (h : n < 8) (t0 t1 t2 t3 t4 t5 t6 t7 : Tok) : ∃ (κ : Kind) (t : Tok), ([.str Kind.i8.name t0, .str Kind.u8.name t1, .str Kind.i16.name t2, .str Kind.u16.name t3, .str Kind.i32.name t4, .str Kind.u32.name t5, .str Kind.i64.name t6, .str Kind.u64.name t7] : List Value)[n]? = some (.str κ.name t) := by
  match n, h with
  | 0, _ => exact ⟨.i8, _, rfl⟩
  | 1, _ => exact ⟨.u8, _, rfl⟩
  | 2, _ => exact ⟨.i16, _, rfl⟩
  | 3, _ => exact ⟨.u16, _, rfl⟩
  | 4, _ => exact ⟨.i32, _, rfl⟩
  | 5, _ => exact ⟨.u32, _, rfl⟩
  | 6, _ => exact ⟨.i64, _, rfl⟩
  | 7, _ => exact ⟨.u64, _, rfl⟩
theorem kind_item {h₀ : Heap} {L : Addr} {value slice : Expr} {a : Addr} {news : List (Addr × Obj)} {k : Int} {u : Tok} {Q : Value → Shared → Prop} {t0 t1 t2 t3 t4 t5 t6 t7 : Tok}
    (N : News h₀ L s.heap news) (hm : (a, ({ cls := .type "list", data := .seq #[.str (Str.ofString "Int8") t0, .str (Str.ofString "UInt8") t1, .str (Str.ofString "Int16") t2, .str (Str.ofString "UInt16") t3, .str (Str.ofString "Int32") t4, .str (Str.ofString "UInt32") t5, .str (Str.ofString "Int64") t6, .str (Str.ofString "UInt64") t7] } : Obj)) ∈ news)
    (h0 : 0 ≤ k) (h1 : k < 8) (h : ∀ (κ : Kind) (t : Tok), Q (.str κ.name t) s)
    (hs : subscripted slice false (.ref a) (.int k u) = operate [.ref a, .int k u] (getItem (.ref a) (.int k u)) := by with_unfolding_all rfl) (hg : ∀ r, letTemporaryGo value (.ref a) r = pure () := by intro _; with_unfolding_all rfl) :
    wpAny (model prog w) A (subscriptTail value slice (.ref a) (.int k u)) Q E s := by
  have hn : k.toNat < 8 := by omega
  obtain ⟨κ, t, e⟩ := kind_at hn t0 t1 t2 t3 t4 t5 t6 t7
  exact item_listL (l := [.str Kind.i8.name t0, .str Kind.u8.name t1, .str Kind.i16.name t2, .str Kind.u16.name t3, .str Kind.i32.name t4, .str Kind.u32.name t5, .str Kind.i64.name t6, .str Kind.u64.name t7]) ⟨_, (N _ hm).1, rfl, _, rfl⟩ h0 (by omega) e (h κ t) hs hg
end
end
section
local macro_rules | `(tactic| walk_at "spec") => `(tactic| (first | exact is_signed_spec .i8 _ | exact is_signed_spec .u8 _ | exact is_signed_spec .i16 _ | exact is_signed_spec .u16 _ | exact is_signed_spec .i32 _ | exact is_signed_spec .u32 _ | exact is_signed_spec .i64 _ | exact is_signed_spec .u64 _ | exact is_signed_spec _ _))
local macro_rules | `(tactic| walk_at "spec") => `(tactic| (first | exact least_spec _ _ | exact greatest_spec _ _ | exact is_signed_spec _ _))
local macro_rules | `(tactic| walk_at "spec") => `(tactic| exact fits_spec _ _ _ _)
local macro_rules | `(tactic| walk_at "spec") => `(tactic| exact cut_quotient_spec _ _ _ _ (by omega) (by omega) (by omega))
local macro_rules | `(tactic| walk_at "spec") => `(tactic| (first | exact is_signed_spec .i8 _ | exact is_signed_spec .u8 _ | exact is_signed_spec .i16 _ | exact is_signed_spec .u16 _ | exact is_signed_spec .i32 _ | exact is_signed_spec .u32 _ | exact is_signed_spec .i64 _ | exact is_signed_spec .u64 _))
local macro_rules | `(tactic| walk_at "spec") => `(tactic| (first | exact wrapped_spec _ _ _ _ | exact fits_spec _ _ _ _))
local macro_rules | `(tactic| walk_at "spec") => `(tactic| exact exact_spec _ _ _ _ _ (by omega) (by omega))
local macro_rules | `(tactic| walk_at "spec") => `(tactic| exact fits_spec .i8 _ _ _)
theorem DCl.mono {w : World} {mean : ExcName → Option Value} {mg mb : Str → Option Value} {f : Addr} {d : Nat} {vs : List Value} {R R' : Value → Prop} {name : Str} {bad bad' : Prop} (C : DCl w mean mg mb f d vs R name bad) (hR : ∀ v, R v → R' v) (hb : bad → bad') : DCl w mean mg mb f d vs R' name bad' :=
  fun news dp un gd cn cs a ccd cl outer A₀ base h₀ L m s Q E B F X N T hk hd hu hr he => C news dp un gd cn cs a ccd cl outer A₀ base h₀ L m s Q E B F X N T hk hd hu (fun v h' tk' r => hr v h' tk' (hR v r)) (fun b => he (hb b))
theorem div4 {w : World} {mean : ExcName → Option Value} {mg mb : Str → Option Value} (t1 t2 t3 t4 : Tok) (op : Op) (n : Int) (hn : op.val (-7) 2 = n) (hb : ¬ op.bad .i8 (-7) 2) :
    DCl w mean mg mb 160 16 [.str (Str.ofString "Int8") t1, .str op.name t2, .int (-7) t3, .int 2 t4] (fun v => ∃ t, v = .int n t) (Str.ofString "DivideError") False :=
  DCl.mono (divided_spec .i8 op (-7) 2 t1 t2 t3 t4 (by decide)) (fun v h => by rw [← hn]; exact h.2) hb
theorem no_div : ¬ Op.div.bad .i8 (-7) 2 := by dsimp only [Op.bad, Kind.lo, Kind.hi]; decide
theorem no_rem : ¬ Op.rem.bad .i8 (-7) 2 := by dsimp only [Op.bad, Kind.lo, Kind.hi]; decide
theorem no_fld : ¬ Op.fld.bad .i8 (-7) 2 := by dsimp only [Op.bad, Kind.lo, Kind.hi]; decide
theorem no_mod : ¬ Op.mod.bad .i8 (-7) 2 := by dsimp only [Op.bad, Kind.lo, Kind.hi]; decide
theorem compEnd_self {h₀ : Heap} {L I C D : Addr} {m : Str → Option Value} {s₁ : Shared} {oI oC oD : Obj} {S : List (Addr × Obj) → Prop} {rest : Value → List (Addr × Obj) → Prop} {y : Value} {h' : Heap} {tk : Nat} {news : List (Addr × Obj)}
    (F : Fr h₀ L h' m) (N : News h₀ L h' ((I, oI) :: (C, oC) :: (D, oD) :: news)) (off : LCg.Off3 I C D news) (hS : S news) (r : rest y news) :
    LCg.CompEnd h₀ L m s₁ I oI C oC D oD S rest y { s₁ with heap := h', toks := tk } := LCg.CompEnd.intro F N news (fun _ hp => hp) off hS r
section
variable {w : World} {mean : ExcName → Option Value} {mg mb : Str → Option Value} {f : Addr} {d : Nat} {vs : List Value} {R : Value → Prop}
 {news : List (Addr × Obj)} {dp un : Nat} {gd : Option (List Code)} {cn : Str} {cs : Scope} {a : Addr} {ccd : Value} {A₀ : Around} {base h₀ : Heap} {L : Addr} {m : Str → Option Value} {s : Shared} {Q E : Value → Shared → Prop}
theorem LCl.use (C : LCl w mean mg mb f d vs R) (B : Below A₀ base [] h₀) (F : Fr h₀ L s.heap m) (X : (hd.heap_39 w.params).In h₀) (N : News h₀ L s.heap news)
    (T : Top hd.view_39 (looseW hd.view_39 [Str.ofString "RowsError", Str.ofString "WIDTHS"]) mean mg mb h₀) (XB : (hd.heap_39 w.params).In base)
    (TB : Top hd.view_39 (looseW hd.view_39 [Str.ofString "RowsError", Str.ofString "WIDTHS"]) mean mg mb base) (hk : cs.kind = .function) (hdp : dp + d < recursionLimit) (hu : un + 8 * d < cLine)
    (h : ∀ v h' tk', R v → Fr h₀ L h' m → News h₀ L h' news → Q v { s with heap := h', toks := tk' }) :
    wpAny (model PySem.Challenge.rw_pc0190_01.row.prog w) { handled := none, depth := dp, frames := some [envOf cn cs L a ccd], guards := gd, units := un } (call (.ref f) vs) Q E s :=
  C _ _ _ _ _ _ _ _ _ _ _ _ _ _ _ _ B F X N T XB TB hk hdp hu h
theorem pair_use_t {κ : Kind} {x y : Int} {t1 t2 t3 t4 t5 t6 : Tok} {wd : Addr} (hx1 : κ.lo ≤ x) (hx2 : x ≤ κ.hi) (hy1 : κ.lo ≤ y) (hy2 : y ≤ κ.hi)
    (B : Below A₀ base [] h₀) (F : Fr h₀ L s.heap m) (X : (hd.heap_39 w.params).In h₀) (N : News h₀ L s.heap ((wd, ({ cls := .type "tuple", data := .seq #[.str (Str.ofString "div") t5, .str (Str.ofString "rem") t6] } : Obj)) :: news))
    (T : Top hd.view_39 (looseW hd.view_39 [Str.ofString "RowsError", Str.ofString "WIDTHS"]) mean mg mb h₀) (XB : (hd.heap_39 w.params).In base)
    (TB : Top hd.view_39 (looseW hd.view_39 [Str.ofString "RowsError", Str.ofString "WIDTHS"]) mean mg mb base) (hk : cs.kind = .function) (hdp : dp + 30 < recursionLimit) (hu : un + 8 * 30 < cLine)
    (h : ∀ h' tk', Fr h₀ L h' m → News h₀ L h' ((wd, ({ cls := .type "tuple", data := .seq #[.str (Str.ofString "div") t5, .str (Str.ofString "rem") t6] } : Obj)) :: news) → Q (.bool true) { s with heap := h', toks := tk' }) :
    wpAny (model PySem.Challenge.rw_pc0190_01.row.prog w) { handled := none, depth := dp, frames := some [envOf cn cs L a ccd], guards := gd, units := un } (call (.ref 216) [.str κ.name t1, .int x t2, .int y t3, .ref wd, .int x t4]) Q E s :=
  pair_spec (p := .t) κ x y hx1 hx2 hy1 hy2 t1 t2 t3 t4 t5 t6 wd _ _ _ _ _ _ _ _ _ _ _ _ _ _ _ _ B F X N T XB TB hk hdp hu (fun _ h' tk' e F N => e ▸ h h' tk' F N)
theorem pair_use_f {κ : Kind} {x y : Int} {t1 t2 t3 t4 t5 t6 : Tok} {wd : Addr} (hx1 : κ.lo ≤ x) (hx2 : x ≤ κ.hi) (hy1 : κ.lo ≤ y) (hy2 : y ≤ κ.hi)
    (B : Below A₀ base [] h₀) (F : Fr h₀ L s.heap m) (X : (hd.heap_39 w.params).In h₀) (N : News h₀ L s.heap ((wd, ({ cls := .type "tuple", data := .seq #[.str (Str.ofString "fld") t5, .str (Str.ofString "mod") t6] } : Obj)) :: news))
    (T : Top hd.view_39 (looseW hd.view_39 [Str.ofString "RowsError", Str.ofString "WIDTHS"]) mean mg mb h₀) (XB : (hd.heap_39 w.params).In base)
    (TB : Top hd.view_39 (looseW hd.view_39 [Str.ofString "RowsError", Str.ofString "WIDTHS"]) mean mg mb base) (hk : cs.kind = .function) (hdp : dp + 30 < recursionLimit) (hu : un + 8 * 30 < cLine)
    (h : ∀ h' tk', Fr h₀ L h' m → News h₀ L h' ((wd, ({ cls := .type "tuple", data := .seq #[.str (Str.ofString "fld") t5, .str (Str.ofString "mod") t6] } : Obj)) :: news) → Q (.bool true) { s with heap := h', toks := tk' }) :
    wpAny (model PySem.Challenge.rw_pc0190_01.row.prog w) { handled := none, depth := dp, frames := some [envOf cn cs L a ccd], guards := gd, units := un } (call (.ref 216) [.str κ.name t1, .int x t2, .int y t3, .ref wd, .int y t4]) Q E s :=
  pair_spec (p := .f) κ x y hx1 hx2 hy1 hy2 t1 t2 t3 t4 t5 t6 wd _ _ _ _ _ _ _ _ _ _ _ _ _ _ _ _ B F X N T XB TB hk hdp hu (fun _ h' tk' e F N => e ▸ h h' tk' F N)
end
theorem three_in {x z : Int} (h1 : 0 ≤ x) (h2 : x < 256) (h3 : 0 ≤ z) (h4 : z < 3) : -128 ≤ [0, -128, x - 128].getD z.toNat 0 ∧ [0, -128, x - 128].getD z.toNat 0 ≤ 127 := by
  have hn : z.toNat < 3 := by omega
  generalize z.toNat = n at hn ⊢
  match n, hn with
  | 0, _ => exact ⟨by show (-128 : Int) ≤ 0; decide, by show (0 : Int) ≤ 127; decide⟩
  | 1, _ => exact ⟨by show (-128 : Int) ≤ -128; decide, by show (-128 : Int) ≤ 127; decide⟩
  | 2, _ => exact ⟨by show -128 ≤ x - 128; omega, by show x - 128 ≤ 127; omega⟩
section
variable {h₀ h : Heap} {L : Addr} {p q r u x : Addr × Obj} {l : List (Addr × Obj)}
theorem rot3 (N : News h₀ L h (p :: q :: r :: x :: l)) : News h₀ L h (x :: p :: q :: r :: l) := cb_drop N fun y hy => by
  simp only [List.mem_cons] at hy ⊢
  rcases hy with h | h | h | h | h <;> simp [h]
theorem rot4 (N : News h₀ L h (p :: q :: r :: u :: x :: l)) : News h₀ L h (x :: p :: q :: r :: u :: l) := cb_drop N fun y hy => by
  simp only [List.mem_cons] at hy ⊢
  rcases hy with h | h | h | h | h | h <;> simp [h]
end
theorem ne_same {prog : Program} {w : World} {A : Around} {Q E : Value → Shared → Prop} {s : Shared} {a : Int} {t u : Tok} (h : Q (.bool false) s) : wpAny (model prog w) A (compareOp .NotEq (.int a t) (.int a u)) Q E s :=
  ne_int (by simpa using h)
end
section
theorem reset_Main : True := by
  w_top off
  trivial
local macro_rules | `(tactic| walk_at "spec") => `(tactic| (first | exact is_signed_spec .i8 _ | exact is_signed_spec .u8 _ | exact is_signed_spec .i16 _ | exact is_signed_spec .u16 _ | exact is_signed_spec .i32 _ | exact is_signed_spec .u32 _ | exact is_signed_spec .i64 _ | exact is_signed_spec .u64 _ | exact is_signed_spec _ _))
local macro_rules | `(tactic| walk_at "spec") => `(tactic| (first | exact least_spec _ _ | exact greatest_spec _ _ | exact is_signed_spec _ _))
local macro_rules | `(tactic| walk_at "spec") => `(tactic| exact fits_spec _ _ _ _)
local macro_rules | `(tactic| walk_at "spec") => `(tactic| exact cut_quotient_spec _ _ _ _ (by omega) (by omega) (by omega))
local macro_rules | `(tactic| walk_at "spec") => `(tactic| (first | exact is_signed_spec .i8 _ | exact is_signed_spec .u8 _ | exact is_signed_spec .i16 _ | exact is_signed_spec .u16 _ | exact is_signed_spec .i32 _ | exact is_signed_spec .u32 _ | exact is_signed_spec .i64 _ | exact is_signed_spec .u64 _))
local macro_rules | `(tactic| walk_at "spec") => `(tactic| (first | exact wrapped_spec _ _ _ _ | exact fits_spec _ _ _ _))
local macro_rules | `(tactic| walk_at "spec") => `(tactic| exact exact_spec _ _ _ _ _ (by omega) (by omega))
local macro_rules | `(tactic| walk_at "spec") => `(tactic| exact fits_spec .i8 _ _ _)
local macro_rules | `(tactic| walk_at "law room") => `(tactic| first | decide | ktr_room | ktr_units)
local macro_rules | `(tactic| walk_at "call ref") => `(tactic| ((with_reducible show wpAny _ _ (call (.ref 181) _) _ _ _); k_dflt (refine' spring_spec (cl := []) (outer := []) _ _ _ ?hi ?hl ?hlen ?B ?F ?X ?N ?T ?ck ?hr ?hu ?_; (case hi => assumption); (case hl => assumption); (case hlen => omega); (case B => k_asm); (case F => k_asm); (case X => k_asm); (case T => k_asm); (case N => k_asm); (case ck => first | exact rfl | assumption); (case hr => walk_at "law room"); (case hu => walk_at "law room"); intro d9 o9 i9 j9 h9 tk9 hi9 hj9 ho9 hs9 hne9 F9 N9; (try dsimp only); (try k_fold))))
local macro_rules | `(tactic| walk_at "dspec") => `(tactic| first | exact div4 _ _ _ _ .div (-3) (by decide) no_div | exact div4 _ _ _ _ .rem (-1) (by decide) no_rem | exact div4 _ _ _ _ .fld (-4) (by decide) no_fld | exact div4 _ _ _ _ .mod 1 (by decide) no_mod)
local macro_rules | `(tactic| walk_at "call ref") => `(tactic| ((with_reducible show wpAny _ _ (call (.ref 160) _) _ _ _); k_dflt (refine' DCl.use (cl := []) (outer := []) ?C ?B ?F ?X ?N ?T ?ck ?hr ?hu ?hQ ?hE; (case B => k_asm); (case F => k_asm); (case X => k_asm); (case N => k_asm); (case T => k_asm); (case C => walk_at "dspec"); (case hE => exact fun h => h.elim); (case ck => first | exact rfl | assumption); (case hr => walk_at "law room"); (case hu => walk_at "law room"); (case' hQ => (intro v9 h9 tk9 hR9 F9 N9; obtain ⟨t9, e9⟩ := hR9; subst e9; (try dsimp only); (try k_fold))))))
local macro_rules | `(tactic| walk_at "drop ne") => `(tactic| first | (with_reducible assumption) | (refine List.forall_mem_cons.mpr ⟨?_, ?_⟩; (focus (first | (refine neN ?_; (try dsimp only); omega) | exact allLt_hd (by with_reducible assumption))); walk_at "drop ne"))
local macro_rules | `(tactic| walk_at "call ref") => `(tactic| ((with_reducible show wpAny _ _ (call (.ref 188) _) _ _ _); k_dflt (refine' drop_spec (cl := []) (outer := []) ?hi ?hj ?hm ?hm2 ?ho ?hne ?B ?F ?X ?N ?T ?ck ?hr ?hu ?_; (case ho => assumption); (case hi => assumption); (case hj => assumption); (case B => k_asm); (case F => k_asm); (case X => k_asm); (case T => k_asm); (case N => first | assumption | exact rot1 (by assumption) | exact rot2 (by assumption) | exact rot3 (by assumption) | exact rot4 (by assumption)); (case hne => walk_at "drop ne"); (case hm => omega); (case hm2 => omega); (case ck => first | exact rfl | assumption); (case hr => walk_at "law room"); (case hu => walk_at "law room"); intro o9 r9 t9 i9 j9 h9 tk9 hr9 hs9 hi9 hj9 ho9 F9 N9; (try dsimp only); (try k_fold))))
local macro_rules | `(tactic| walk_at "subscriptTail List cons Call ref int") => `(tactic| k_dflt (refine kba_turn (value' := PySem.Expr.Name (PySem.Str.ofString "_") ⟨0, 0, 0, 0⟩) (fun _ => rfl) ?_; refine' kind_item ?N ?hm ?h0 ?h1 ?_; (case N => k_asm); (case hm => k_mem); (case h0 => assumption); (case h1 => assumption); intro κ t; (try dsimp only); (try k_fold)))
local macro_rules | `(tactic| walk_at "call ref") => `(tactic| ((with_reducible show wpAny _ _ (call (.ref 202) _) _ _ _); k_dflt (refine' number_spec _ (cl := []) (outer := []) ?hi ?hj ?ho ?hne ?B ?F ?X ?N ?T ?ck ?hr ?hu ?_; (case ho => assumption); (case hi => assumption); (case hj => assumption); (case B => k_asm); (case F => k_asm); (case X => k_asm); (case T => k_asm); (case N => first | assumption | exact rot1 (by assumption) | exact rot2 (by assumption) | exact rot3 (by assumption) | exact rot4 (by assumption)); (case hne => walk_at "drop ne"); (case ck => first | exact rfl | assumption); (case hr => walk_at "law room"); (case hu => walk_at "law room"); intro o9 r9 t9 i9 j9 h9 tk9 hr9 hs9 hi9 hj9 ho9 F9 N9; (try dsimp only); (try k_fold))))
local macro_rules | `(tactic| walk_at "call ref") => `(tactic| ((with_reducible show wpAny _ _ (call (.ref 216) _) _ _ _); k_dflt (refine' pair_use_t ?h1 ?h2 ?h3 ?h4 ?B ?F ?X ?N ?T ?XB ?TB ?ck ?hr ?hu ?_; (case h1 => assumption); (case h2 => assumption); (case h3 => assumption); (case h4 => assumption); (case B => k_asm); (case F => k_asm); (case X => k_asm); (case T => k_asm); (case N => k_asm); (case XB => k_asm); (case TB => k_asm); (case ck => first | exact rfl | assumption); (case hr => walk_at "law room"); (case hu => walk_at "law room"); intro h9 tk9 F9 N9; (try dsimp only); (try k_fold))))
local macro_rules | `(tactic| walk_at "call ref") => `(tactic| ((with_reducible show wpAny _ _ (call (.ref 216) _) _ _ _); k_dflt (refine' pair_use_f ?h1 ?h2 ?h3 ?h4 ?B ?F ?X ?N ?T ?XB ?TB ?ck ?hr ?hu ?_; (case h1 => assumption); (case h2 => assumption); (case h3 => assumption); (case h4 => assumption); (case B => k_asm); (case F => k_asm); (case X => k_asm); (case T => k_asm); (case N => k_asm); (case XB => k_asm); (case TB => k_asm); (case ck => first | exact rfl | assumption); (case hr => walk_at "law room"); (case hu => walk_at "law room"); intro h9 tk9 F9 N9; (try dsimp only); (try k_fold))))
local macro_rules | `(tactic| walk_at "call ref") => `(tactic| ((with_reducible show wpAny _ _ (call (.ref 174) _) _ _ _); k_dflt (refine' PCl.use (cl := []) (outer := []) (powered_spec _ _ _ _ _ _ ?a1 ?a2 ?a3 ?a4) ?k1 ?k2 ?k3 ?k4 ?k5 ?kK ?kd ?ku ?_; (case k1 => k_asm); (case k2 => k_asm); (case k3 => k_asm); (case k4 => k_asm); (case k5 => k_asm); (case a1 => with_reducible assumption); (case a2 => with_reducible assumption); (case a3 => with_reducible assumption); (case a4 => omega); (case kK => first | exact rfl | assumption); (case kd => walk_at "law room"); (case ku => walk_at "law room"); intro v9 h9 tk9 hR9 F9 N9; (try dsimp only at hR9); obtain ⟨t9, e9⟩ := hR9; subst e9; (try dsimp only); (try k_fold))))
local macro_rules | `(tactic| walk_at "call ref") => `(tactic| ((with_reducible show wpAny _ _ (call (.ref 228) _) _ _ _); k_dflt (refine' PCl.use (cl := []) (outer := []) (product_spec _ _ _ _ _ _ ?a1 ?a2 ?a3 ?a4) ?k1 ?k2 ?k3 ?k4 ?k5 ?kK ?kd ?ku ?_; (case k1 => k_asm); (case k2 => k_asm); (case k3 => k_asm); (case k4 => k_asm); (case k5 => k_asm); (case a1 => with_reducible assumption); (case a2 => with_reducible assumption); (case a3 => with_reducible assumption); (case a4 => omega); (case kK => first | exact rfl | assumption); (case kd => walk_at "law room"); (case ku => walk_at "law room"); intro v9 h9 tk9 hR9 F9 N9; (try dsimp only at hR9); obtain ⟨t9, e9⟩ := hR9; subst e9; (try dsimp only); (try k_fold))))
local macro_rules | `(tactic| walk_at "call ref") => `(tactic| ((with_reducible show wpAny _ _ (call (.ref 221) _) _ _ _); k_dflt (refine' PCl.use (cl := []) (outer := []) (divisor_spec _ _ _ _ ?a1 ?a2 ?a3 ?a4) ?k1 ?k2 ?k3 ?k4 ?k5 ?kK ?kd ?ku ?_; (case k1 => k_asm); (case k2 => k_asm); (case k3 => k_asm); (case k4 => k_asm); (case k5 => k_asm); (case a1 => first | omega | exact (three_in (by with_reducible assumption) (by with_reducible assumption) (by with_reducible assumption) (by with_reducible assumption)).1); (case a2 => first | omega | exact Int.le_trans (three_in (by with_reducible assumption) (by with_reducible assumption) (by with_reducible assumption) (by with_reducible assumption)).2 (by decide)); (case a3 => first | exact (three_in (by with_reducible assumption) (by with_reducible assumption) (by with_reducible assumption) (by with_reducible assumption)).1 | omega); (case a4 => first | exact Int.le_trans (three_in (by with_reducible assumption) (by with_reducible assumption) (by with_reducible assumption) (by with_reducible assumption)).2 (by decide) | omega); (case kK => first | exact rfl | assumption); (case kd => walk_at "law room"); (case ku => walk_at "law room"); intro v9 h9 tk9 hR9 F9 N9; (try dsimp only at hR9); obtain ⟨t9, e9⟩ := hR9; subst e9; (try dsimp only); (try k_fold))))
local macro_rules | `(tactic| walk_at "call ref") => `(tactic| ((with_reducible show wpAny _ _ (call (.ref 235) _) _ _ _); k_dflt (refine' LCl.use (gcd_told_spec _ _ _ _ ?a1 ?a2 ?a3 ?a4) ?B ?F ?X ?N ?T ?XB ?TB ?ck ?hr ?hu ?_; (case B => k_asm); (case F => k_asm); (case X => k_asm); (case T => k_asm); (case N => k_asm); (case XB => k_asm); (case TB => k_asm); (case a1 => omega); (case a2 => omega); (case a3 => exact (three_in (by with_reducible assumption) (by with_reducible assumption) (by with_reducible assumption) (by with_reducible assumption)).1); (case a4 => exact (three_in (by with_reducible assumption) (by with_reducible assumption) (by with_reducible assumption) (by with_reducible assumption)).2); (case ck => first | exact rfl | assumption); (case hr => walk_at "law room"); (case hu => walk_at "law room"); intro v9 h9 tk9 hR9 F9 N9; rcases hR9 with ⟨p9, t9, e9⟩ | ⟨p9, t9, e9⟩ <;> (subst e9; (try dsimp only); (try k_fold)))))
local macro_rules | `(tactic| walk_at "compareOp NotEq int int") => `(tactic| with_reducible refine ne_same ?_)
theorem law_holds : PySem.Challenge.rw_pc0190_01.Holds := by
  refine hd ⟨left, ?_⟩
  k_go0
  repeat' (first | (k_unfold; (try dsimp only)) | ((fail_if_success (with_reducible show wpAny _ _ (eval (Expr.ListComp _ _ _ _) _) _ _ _)); walk1))
  k_dflt (refine ListComp_Tup (by k_asm) (by with_unfolding_all rfl) (by decide) (by rfl) (by decide) (by rfl) ?_)
  k_dflt (repeat' (((fail_if_success (with_reducible show TSrc _ _ _ _ _ _ _ _ _ _ _ _ _ _)); first | walk1 | (dsimp only; walk1))))
  refine TSrc.ledger (by rfl) (by k_asm) (by k_asm) (List.Mem.head _) (by exact Nat.le_of_ble_eq_true rfl) ?_
  intro g'
  (with_unfolding_all refine LCg.CompRest.succ ?_)
  intro v' I' oI' C' oC' D' m' h' tk' E' hv' hC' hx' F' N' off' ne'
  obtain rfl := Option.some.inj hv'
  repeat' (first | (k_unfold; (try dsimp only)) | ((fail_if_success (with_reducible show wpAny _ _ (call (.ref _) _) _ _ _)); walk1))
  walk_at "call ref"
  k_steps
  refine' compEnd_self ?F ?N ?O ?S ?_
  (case F => assumption)
  (case N => assumption)
  (case O => assumption)
  (case S => exact List.Mem.head _)
  (with_unfolding_all refine LCg.CompRest.succ ?_)
  intro v' I' oI' C' oC' D' m' h' tk' E' hv' hC' hx' F' N' off' ne'
  obtain rfl := Option.some.inj hv'
  repeat' (first | (k_unfold; (try dsimp only)) | ((fail_if_success (with_reducible show wpAny _ _ (call (.ref _) _) _ _ _)); walk1))
  walk_at "call ref"
  k_steps
  refine' compEnd_self ?F ?N ?O ?S ?_
  (case F => assumption)
  (case N => assumption)
  (case O => assumption)
  (case S => exact List.Mem.head _)
  (with_unfolding_all refine LCg.CompRest.succ ?_)
  intro v' I' oI' C' oC' D' m' h' tk' E' hv' hC' hx' F' N' off' ne'
  obtain rfl := Option.some.inj hv'
  repeat' (first | (k_unfold; (try dsimp only)) | ((fail_if_success (with_reducible show wpAny _ _ (call (.ref _) _) _ _ _)); walk1))
  walk_at "call ref"
  k_steps
  refine' compEnd_self ?F ?N ?O ?S ?_
  (case F => assumption)
  (case N => assumption)
  (case O => assumption)
  (case S => exact List.Mem.head _)
  (with_unfolding_all refine LCg.CompRest.succ ?_)
  intro v' I' oI' C' oC' D' m' h' tk' E' hv' hC' hx' F' N' off' ne'
  obtain rfl := Option.some.inj hv'
  repeat' (first | (k_unfold; (try dsimp only)) | ((fail_if_success (with_reducible show wpAny _ _ (call (.ref _) _) _ _ _)); walk1))
  walk_at "call ref"
  k_steps
  refine' compEnd_self ?F ?N ?O ?S ?_
  (case F => assumption)
  (case N => assumption)
  (case O => assumption)
  (case S => exact List.Mem.head _)
  with_unfolding_all refine LCg.CompRest.zero ?_
  repeat' (first | (k_unfold; (try dsimp only)) | ((fail_if_success (with_reducible show wpAny _ _ (pyIter _) _ _ _)); walk1))
  (with_reducible rename Fr _ _ _ _ => lF); (with_reducible rename News _ _ _ _ => lN); (with_reducible rename IsRange _ _ _ _ _ _ _ _ => rg)
  (with_reducible rename SpObj _ _ _ _ => lS)
  k_dflt (refine' spRange [Str.ofString "kind", Str.ofString "one", Str.ofString "other", Str.ofString "many", Str.ofString "left", Str.ofString "right", Str.ofString "due"] lS ?hi ?hj ?hh ?rg ?sm ?hn ?kF ?kN ?_ ?_; (case hh => rfl); (case rg => exact rg); (case hi => assumption); (case hj => assumption); (case kF => exact lF); (case kN => refine' cb_drop lN ?_; exact List.forall_mem_cons.mpr ⟨by k_mem, List.forall_mem_nil _⟩))
  (case sm => decide)
  (case hn => rfl)
  · intro o i j pre k tk u h tks own hi hj hS hne F' N'
    clear lF lN lS rg
    clear_value *
    repeat' (first | (k_unfold; (try dsimp only)) | ((fail_if_success (with_reducible show InvEndN _ _ _ _ _ _ _)); walk1))
    all_goals (
      refine' spEnd ?hS ?hi ?hj ?F ?N ?ho ?hr
      (case N => exact rot1 (by k_asm))
      (case hS => k_asm)
      (case hi => with_reducible assumption)
      (case hj => with_reducible assumption)
      (case F => k_asm)
      (case ho =>
        intro p hp
        repeat (first | exact hp | refine List.Mem.tail _ ?_))
      (case hr =>
        intro z h1 h3
        have h4 := h3
        simp only [List.contains_cons, List.contains_nil, Bool.or_false, Bool.or_eq_false_iff, beq_eq_false_iff_ne, ne_eq] at h4
        simp only [h1, h3, h4, if_false, Bool.false_eq_true]))
  · intro o i j u h tks hS F' N'
    clear lF lN lS rg
    k_steps
    done
end
end Mine
theorem PySem.Challenge.cw_pc0190_01_holds : PySem.Challenge.rw_pc0190_01.Holds := by
  exact Mine.law_holds
