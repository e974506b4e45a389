import PyProof.Rows.All
import Wide.All
import OpenK.AllK
import Wide.FinOn
import KE.KStateDown
import HandS.ForMost
import HandS.ForExc
import HandS.Defaults
import HandS.ExcInit
import HandS.Head0
import HandS.Head1
import HandS.Head2
import HandS.HeadEnd
import HandS.HeadHook1
import HandS.HeadHook2
import KE.KExcIs
import HandS.HotCalls
import HandS.ExcField
import PySem.Challenge.RW_nearerhop_k84_companies
import HandS.Wide
import HandS.IsInst
import HandS.Zip
import HandS.TupLe
import HandS.SortInts
import HandS.RaiseMore
import HandS.Conv
import HandS.ExcCtx
import HandS.TupAny
import HandS.Style
import KE.GoesZip
import KE.GoesMore
import HandS.Iter
import HandS.Small
import HandS.Text
import PyProof.FitsBits
import PyProof.NoPylong
import HandS.TupSets
import HandS.SetBool
section
set_option Elab.async false
set_option linter.all false
set_option maxRecDepth 100000
set_option maxHeartbeats 4000000
/-! ## the head by facts over written addresses -/
namespace Pd
open PySem PySem.Spec PyProof.Rows L2
abbrev AlA : Type := He.AlD × Bool
def obsA (as : List Addr) (fa : List He.Fa) (fn : List He.DefD) (ex : PySem.W.Frag → Bool) (g : Addr → Option Obj) : AlA := (He.obsD fa fn (He.frG g as), ex (He.frG g as))
def hookA (as : List Addr) (fa : List He.Fa) (fn : List He.DefD) (ex : PySem.W.Frag → Bool) : PySem.W.Hook where
  α := AlA
  obs := fun s => obsA as fa fn ex s.heap.get?
  val := fun _ => (He.valD fn, true)
  says := fun _ h => ∃ K : PySem.W.Frag, K.In h ∧ He.SaysD fa fn K ∧ ex K = true
  of := fun _ _ e => ⟨_, He.frG_in, congrArg (fun z : AlA => z.1) e, congrArg (fun z : AlA => z.2) e⟩
  keeps := fun _ _ _ ⟨K, hK, c⟩ k => ⟨K, PySem.W.Frag.In.keeps hK k, c⟩
theorem obsA_eq {as : List Addr} {fa : List He.Fa} {fn : List He.DefD} {ex : PySem.W.Frag → Bool} {g : Addr → Option Obj} {s : Shared} (h : ∀ a, g a = s.heap.get? a) : obsA as fa fn ex g = (hookA as fa fn ex).obs s := by
  have e : g = s.heap.get? := funext h
  rw [e] <;> rfl
/-! ### exception classes with an own __init__ -/
def oexB (K : PySem.W.Frag) (C : Addr) : Bool := (match K.lookup C with
  | some ⟨.type "type", _, .cls cd, sl⟩ => (match cd.mro, sl.toList with
    | .ref C' :: bm, [_, _, _, _, some (.builtin n), _] => C' == C && (n == "ValueError.__new__" && (!cd.hasDel && (cd.hasDict && PySem.HandSPX.refsVE bm)))
    | _, _ => false)
  | _ => false) &&
  (He.eqO (PySem.W.findIn K (.ref C) "__setattr__") (some (some (.builtin "object.__setattr__"))) && (decide (PySem.W.subIn K (.ref C) (.type "BaseException") = some true) &&
    (decide (PySem.W.typeIn K (.ref C) = some (.type "type")) && PySem.W.keepIn K (.ref C))))
theorem oexB_ok {K : PySem.W.Frag} {C : Addr} (h : oexB K C = true) : OexC K C := by
  obtain ⟨h1, h⟩ := He.ba h
  obtain ⟨h2, h⟩ := He.ba h
  obtain ⟨h3, h⟩ := He.ba h
  obtain ⟨h4, h5⟩ := He.ba h
  refine ⟨?_, He.eqO_ok h2, of_decide_eq_true h3, of_decide_eq_true h4, h5⟩
  split at h1
  · rename_i dd cd sl ho
    split at h1
    · rename_i C' bm k0 k1 k2 k3 n k5 hm hs
      simp only [Bool.and_eq_true, beq_iff_eq, Bool.not_eq_true'] at h1
      obtain ⟨rfl, rfl, hdel, hdict, hr⟩ := h1
      obtain ⟨nm, bs, mro, ns, qn, hd, sn, sub, ab, col, del⟩ := cd
      dsimp only at hm hdel hdict
      subst hm hdel hdict
      have hsl : sl = #[k0, k1, k2, k3, some (.builtin "ValueError.__new__"), k5] := by
        obtain ⟨l⟩ := sl
        simp only at hs
        rw [hs]
      subst hsl
      exact ⟨nm, qn, ns, bs, bm, sn, sub, ab, col, dd, k0, k1, k2, k3, k5, ho, hr⟩
    · cases h1
  · cases h1
/-- its __init__, its fields -/
def oexF (K : PySem.W.Frag) (C : Addr) (fs : List Str) : Bool :=
  He.eqO (PySem.W.findIn K (.ref C) "__init__") (some (some (.ref (He.ma K C "__init__")))) && (decide (PySem.W.typeIn K (.ref (He.ma K C "__init__")) = some (.type "function")) && (PySem.W.hasDictIn K C &&
    (He.eqO (PySem.W.findIn K (.ref C) "__getattribute__") (some (some (.builtin "BaseException.__getattribute__"))) && (He.eqO (PySem.W.findIn K (.ref C) "__getattr__") (some none) && fs.all fun f => He.eqO (PySem.W.findIn K (.ref C) f) (some none)))))
structure OexF (K : PySem.W.Frag) (C : Addr) (fs : List Str) : Prop where
  init : PySem.W.findIn K (.ref C) "__init__" = some (some (.ref (He.ma K C "__init__")))
  fn : PySem.W.typeIn K (.ref (He.ma K C "__init__")) = some (.type "function")
  dict : PySem.W.hasDictIn K C = true
  ga : PySem.W.findIn K (.ref C) "__getattribute__" = some (some (.builtin "BaseException.__getattribute__"))
  gg : PySem.W.findIn K (.ref C) "__getattr__" = some none
  no : ∀ f ∈ fs, PySem.W.findIn K (.ref C) f = some none
theorem oexF_ok {K : PySem.W.Frag} {C : Addr} {fs : List Str} (h : oexF K C fs = true) : OexF K C fs := by
  obtain ⟨h1, h⟩ := He.ba h
  obtain ⟨h2, h⟩ := He.ba h
  obtain ⟨h3, h⟩ := He.ba h
  obtain ⟨h4, h⟩ := He.ba h
  obtain ⟨h5, h6⟩ := He.ba h
  exact ⟨He.eqO_ok h1, of_decide_eq_true h2, h3, He.eqO_ok h4, He.eqO_ok h5, fun f hf => He.eqO_ok (List.all_eq_true.mp h6 f hf)⟩
end Pd
end
section
set_option Elab.async false
set_option linter.all false
set_option maxRecDepth 100000
/-! ## the head's facts on exceptions -/
namespace Pd
open PySem PySem.Spec PyProof.Rows L2
def xcB (K : PySem.W.Frag) (D : Addr) : Bool :=
  (PySem.W.clsIn K D).isSome && (He.eqO (PySem.W.findIn K (.ref D) "__getattribute__") (some (some (.builtin "BaseException.__getattribute__"))) && (He.eqO (PySem.W.findIn K (.ref D) "__getattr__") (some none) && (decide (PySem.W.subIn K (.ref D) (.type "BaseException") = some true) &&
    (He.eqO (PySem.W.findIn K (.ref D) "__class__") (some (some (.builtin "object.__class__"))) && (He.eqO (PySem.W.specialIn K (.builtin "object.__class__") "__get__") (some (some (.builtin "getset_descriptor.__get__"))) &&
      (decide (PySem.W.takesIn K (.builtin "object.__class__") = some true) && decide (PySem.W.mroIn K D (.type "object") = some true)))))))
def KS1 : Str := "BadNumber BadForm BadSystem BadBook BadRoom BadWeb BadSpot BadLot BadRule FlatRoom NoUndo NotReady"
def KS2 : Str := " BadText TooLarge NoInside OnRim NotGood NotAlike"
def KN1 : List Str := ["BadNumber", "BadForm", "BadSystem", "BadBook"]
def KN2 : List Str := ["BadRoom", "BadWeb", "BadSpot", "BadLot"]
def KN3 : List Str := ["BadRule", "FlatRoom", "NoUndo", "NotReady"]
def KN4 : List Str := ["BadText", "TooLarge", "NoInside", "OnRim"]
def KN5 : List Str := ["NotGood", "NotAlike"]
def KN : List Str := KN1 ++ KN2 ++ KN3 ++ KN4 ++ KN5
abbrev Hd := Str × Option Str
def kdB (K : PySem.W.Frag) (ms : List Str) : Bool := ms.all fun me => xcB K (He.ga K me) && KN.all fun c => decide (PySem.W.kitOne K (.ref (He.ga K me)) (.ref (He.ga K c)) = some (c == me))
def hdB (K : PySem.W.Frag) (ms : List Str) (hs : List Hd) : Bool := hs.all fun h => (ms.all fun me => decide (PySem.W.exmOne K (.ref (He.ga K me)) (.ref (He.ga K h.1)) = some (h.1 == ("NearError" : Str) || h.1 == me))) &&
  (match h.2 with
  | none => true
  | some f => !(h.1 == ("NearError" : Str)) && (xfB K (He.ga K h.1) && He.eqO (PySem.W.findIn K (.ref (He.ga K h.1)) f) (some none)))
end Pd
end
section
set_option Elab.async false
set_option linter.all false
set_option maxRecDepth 100000
set_option maxHeartbeats 0
namespace K84
open PySem PySem.Spec PyProof.Rows L2 Pd
/-! ### the text: the row's top by places -/
def top (i : Nat) : Stmt := PySem.Challenge.pw_nearerhop_k84_companies.main.body.getD i (.Pass ⟨0, 0, 0, 0⟩)
abbrev s15_0 : Stmt := inClass (top 15) 0
abbrev s16_0 : Stmt := inClass (top 16) 0
abbrev s17_0 : Stmt := inClass (top 17) 0
abbrev s18_0 : Stmt := inClass (top 18) 0
abbrev s19_0 : Stmt := inClass (top 19) 0
abbrev s20_0 : Stmt := inClass (top 20) 0
abbrev s22 : Stmt := top 22
abbrev s24 : Stmt := top 24
abbrev s25 : Stmt := top 25
abbrev s26 : Stmt := top 26
abbrev s27 : Stmt := top 27
abbrev s28 : Stmt := top 28
abbrev s29 : Stmt := top 29
abbrev s30 : Stmt := top 30
abbrev s31 : Stmt := top 31
abbrev s32 : Stmt := top 32
abbrev s33 : Stmt := top 33
abbrev s34 : Stmt := top 34
abbrev s35 : Stmt := top 35
abbrev s36 : Stmt := top 36
abbrev s37 : Stmt := top 37
abbrev s40 : Stmt := top 40
abbrev s41 : Stmt := top 41
abbrev s42 : Stmt := top 42
abbrev s43 : Stmt := top 43
abbrev s44 : Stmt := top 44
abbrev s45 : Stmt := top 45
abbrev s47 : Stmt := top 47
abbrev s48 : Stmt := top 48
abbrev s49 : Stmt := top 49
abbrev s54 : Stmt := top 54
abbrev s56 : Stmt := top 56
abbrev s57 : Stmt := top 57
abbrev s58 : Stmt := top 58
abbrev s59 : Stmt := top 59
abbrev s60 : Stmt := top 60
abbrev s61 : Stmt := top 61
abbrev s62 : Stmt := top 62
abbrev s64 : Stmt := top 64
abbrev s66_0 : Stmt := inClass (top 66) 0
abbrev s66_1 : Stmt := inClass (top 66) 1
abbrev s66_2 : Stmt := inClass (top 66) 2
abbrev s66_3 : Stmt := inClass (top 66) 3
abbrev s66_4 : Stmt := inClass (top 66) 4
abbrev s66_5 : Stmt := inClass (top 66) 5
abbrev s66_6 : Stmt := inClass (top 66) 6
abbrev s66_10 : Stmt := inClass (top 66) 10
abbrev s68 : Stmt := top 68
abbrev s69 : Stmt := top 69
abbrev s70 : Stmt := top 70
abbrev s71 : Stmt := top 71
abbrev s72 : Stmt := top 72
abbrev s73 : Stmt := top 73
abbrev s76 : Stmt := top 76
abbrev s78 : Stmt := top 78
abbrev s79 : Stmt := top 79
abbrev s80 : Stmt := top 80
abbrev s81 : Stmt := top 81
abbrev s82 : Stmt := top 82
abbrev s83 : Stmt := top 83
abbrev s84 : Stmt := top 84
abbrev s85 : Stmt := top 85
abbrev s86 : Stmt := top 86
abbrev s88 : Stmt := top 88
abbrev s89 : Stmt := top 89
abbrev s90 : Stmt := top 90
abbrev s91 : Stmt := top 91
abbrev s92 : Stmt := top 92
abbrev s93 : Stmt := top 93
abbrev s94 : Stmt := top 94
abbrev s95 : Stmt := top 95
abbrev s96 : Stmt := top 96
abbrev s97 : Stmt := top 97
abbrev s98 : Stmt := top 98
abbrev s99 : Stmt := top 99
abbrev s100 : Stmt := top 100
abbrev s101 : Stmt := top 101
abbrev s102 : Stmt := top 102
abbrev s103 : Stmt := top 103
abbrev s104 : Stmt := top 104
abbrev s105 : Stmt := top 105
abbrev s106 : Stmt := top 106
abbrev s107 : Stmt := top 107
abbrev s108 : Stmt := top 108
abbrev s109 : Stmt := top 109
abbrev s110 : Stmt := top 110
abbrev s111 : Stmt := top 111
def d16_0 : He.DefD := ⟨("TooLarge", some "__init__"), "__init__", "TooLarge.__init__", defArgs s16_0, defBody s16_0, defScope s16_0, [], []⟩
def d22 : He.DefD := ⟨("is_whole_ratio", none), "is_whole", "is_whole", defArgs s22, defBody s22, defScope s22, [], []⟩
def d24 : He.DefD := ⟨("is_sequence", none), "is_sequence", "is_sequence", defArgs s24, defBody s24, defScope s24, [], []⟩
def d25 : He.DefD := ⟨("common_divisor", none), "common_divisor", "common_divisor", defArgs s25, defBody s25, defScope s25, [], []⟩
def d26 : He.DefD := ⟨("is_ratio", none), "is_ratio", "is_ratio", defArgs s26, defBody s26, defScope s26, [], []⟩
def d27 : He.DefD := ⟨("check_ratio", none), "check_ratio", "check_ratio", defArgs s27, defBody s27, defScope s27, [], []⟩
def d28 : He.DefD := ⟨("check_ratios", none), "check_ratios", "check_ratios", defArgs s28, defBody s28, defScope s28, [], []⟩
def d29 : He.DefD := ⟨("opposite", none), "opposite", "opposite", defArgs s29, defBody s29, defScope s29, [], []⟩
def d30 : He.DefD := ⟨("sum_of", none), "sum_of", "sum_of", defArgs s30, defBody s30, defScope s30, [], []⟩
def d31 : He.DefD := ⟨("product_of", none), "product_of", "product_of", defArgs s31, defBody s31, defScope s31, [], []⟩
def d32 : He.DefD := ⟨("make", none), "make", "make", defArgs s32, defBody s32, defScope s32, [.int 1], []⟩
def d33 : He.DefD := ⟨("plus", none), "plus", "plus", defArgs s33, defBody s33, defScope s33, [], []⟩
def d34 : He.DefD := ⟨("minus", none), "minus", "minus", defArgs s34, defBody s34, defScope s34, [], []⟩
def d35 : He.DefD := ⟨("times", none), "times", "times", defArgs s35, defBody s35, defScope s35, [], []⟩
def d36 : He.DefD := ⟨("over", none), "over", "over", defArgs s36, defBody s36, defScope s36, [], []⟩
def d37 : He.DefD := ⟨("total", none), "total", "total", defArgs s37, defBody s37, defScope s37, [], []⟩
def d40 : He.DefD := ⟨("check_dim", none), "check_dim", "check_dim", defArgs s40, defBody s40, defScope s40, [], []⟩
def d41 : He.DefD := ⟨("are_integers", none), "are_integers", "are_integers", defArgs s41, defBody s41, defScope s41, [], []⟩
def d42 : He.DefD := ⟨("are_ratios", none), "are_ratios", "are_ratios", defArgs s42, defBody s42, defScope s42, [], []⟩
def d43 : He.DefD := ⟨("is_row", none), "is_row", "is_row", defArgs s43, defBody s43, defScope s43, [], []⟩
def d44 : He.DefD := ⟨("is_spot", none), "is_spot", "is_spot", defArgs s44, defBody s44, defScope s44, [], []⟩
def d45 : He.DefD := ⟨("check_spot_forms", none), "check_spot", "check_spot", defArgs s45, defBody s45, defScope s45, [], []⟩
def d47 : He.DefD := ⟨("check_two_spots", none), "check_two_spots", "check_two_spots", defArgs s47, defBody s47, defScope s47, [], []⟩
def d48 : He.DefD := ⟨("check_counts", none), "check_counts", "check_counts", defArgs s48, defBody s48, defScope s48, [], []⟩
def d49 : He.DefD := ⟨("mean_spot", none), "mean_spot", "mean_spot", defArgs s49, defBody s49, defScope s49, [], []⟩
def d54 : He.DefD := ⟨("is_whole_book", none), "is_whole", "is_whole", defArgs s54, defBody s54, defScope s54, [], []⟩
def d56 : He.DefD := ⟨("is_dim", none), "is_dim", "is_dim", defArgs s56, defBody s56, defScope s56, [], []⟩
def d57 : He.DefD := ⟨("is_letter", none), "is_letter", "is_letter", defArgs s57, defBody s57, defScope s57, [], []⟩
def d58 : He.DefD := ⟨("is_bounded_row", none), "is_bounded_row", "is_bounded_row", defArgs s58, defBody s58, defScope s58, [], []⟩
def d59 : He.DefD := ⟨("is_point", none), "is_point", "is_point", defArgs s59, defBody s59, defScope s59, [], []⟩
def d60 : He.DefD := ⟨("has_twins", none), "has_twins", "has_twins", defArgs s60, defBody s60, defScope s60, [], []⟩
def d61 : He.DefD := ⟨("is_point_number", none), "is_point_number", "is_point_number", defArgs s61, defBody s61, defScope s61, [], []⟩
def d62 : He.DefD := ⟨("check_number_book", none), "check_number", "check_number", defArgs s62, defBody s62, defScope s62, [], []⟩
def d64 : He.DefD := ⟨("check_spot_book", none), "check_spot", "check_spot", defArgs s64, defBody s64, defScope s64, [], []⟩
def d66_0 : He.DefD := ⟨("Book", some "__init__"), "__init__", "Book.__init__", defArgs s66_0, defBody s66_0, defScope s66_0, [], []⟩
def d66_4 : He.DefD := ⟨("Book", some "row"), "row", "Book.row", defArgs s66_4, defBody s66_4, defScope s66_4, [], []⟩
def d68 : He.DefD := ⟨("level_of", none), "level_of", "level_of", defArgs s68, defBody s68, defScope s68, [], []⟩
def d69 : He.DefD := ⟨("price_of", none), "price_of", "price_of", defArgs s69, defBody s69, defScope s69, [], []⟩
def d70 : He.DefD := ⟨("scaled_prices", none), "scaled_prices", "scaled_prices", defArgs s70, defBody s70, defScope s70, [], []⟩
def d71 : He.DefD := ⟨("level", none), "level", "level", defArgs s71, defBody s71, defScope s71, [], []⟩
def d72 : He.DefD := ⟨("price", none), "price", "price", defArgs s72, defBody s72, defScope s72, [], []⟩
def d73 : He.DefD := ⟨("cheapest", none), "cheapest", "cheapest", defArgs s73, defBody s73, defScope s73, [], []⟩
def d76 : He.DefD := ⟨("check_number_company", none), "check_number", "check_number", defArgs s76, defBody s76, defScope s76, [], []⟩
def d78 : He.DefD := ⟨("check_company", none), "check_company", "check_company", defArgs s78, defBody s78, defScope s78, [], []⟩
def d79 : He.DefD := ⟨("spots_dim", none), "spots_dim", "spots_dim", defArgs s79, defBody s79, defScope s79, [], []⟩
def d80 : He.DefD := ⟨("count_sums", none), "count_sums", "count_sums", defArgs s80, defBody s80, defScope s80, [], []⟩
def d81 : He.DefD := ⟨("total_from", none), "total_from", "total_from", defArgs s81, defBody s81, defScope s81, [], []⟩
def d82 : He.DefD := ⟨("total_price", none), "total_price", "total_price", defArgs s82, defBody s82, defScope s82, [], []⟩
def d83 : He.DefD := ⟨("totals", none), "totals", "totals", defArgs s83, defBody s83, defScope s83, [], []⟩
def d84 : He.DefD := ⟨("spread", none), "spread", "spread", defArgs s84, defBody s84, defScope s84, [], []⟩
def d85 : He.DefD := ⟨("least_total", none), "least_total", "least_total", defArgs s85, defBody s85, defScope s85, [], []⟩
def d86 : He.DefD := ⟨("demand", none), "demand", "demand", defArgs s86, defBody s86, defScope s86, [], []⟩
def d88 : He.DefD := ⟨("_law_kinds", none), "_law_kinds", "_law_kinds", defArgs s88, defBody s88, defScope s88, [], []⟩
def d89 : He.DefD := ⟨("_law_costs", none), "_law_costs", "_law_costs", defArgs s89, defBody s89, defScope s89, [], []⟩
def d90 : He.DefD := ⟨("_law_lowest", none), "_law_lowest", "_law_lowest", defArgs s90, defBody s90, defScope s90, [], []⟩
def d91 : He.DefD := ⟨("_law_plus", none), "_law_plus", "_law_plus", defArgs s91, defBody s91, defScope s91, [], []⟩
def d92 : He.DefD := ⟨("_law_least", none), "_law_least", "_law_least", defArgs s92, defBody s92, defScope s92, [], []⟩
def d93 : He.DefD := ⟨("_law_compare", none), "_law_compare", "_law_compare", defArgs s93, defBody s93, defScope s93, [], []⟩
def d94 : He.DefD := ⟨("_law_equal", none), "_law_equal", "_law_equal", defArgs s94, defBody s94, defScope s94, [], []⟩
def d95 : He.DefD := ⟨("_law_mix", none), "_law_mix", "_law_mix", defArgs s95, defBody s95, defScope s95, [], []⟩
def d96 : He.DefD := ⟨("_law_take", none), "_law_take", "_law_take", defArgs s96, defBody s96, defScope s96, [], []⟩
def d97 : He.DefD := ⟨("_law_pick", none), "_law_pick", "_law_pick", defArgs s97, defBody s97, defScope s97, [], []⟩
def d98 : He.DefD := ⟨("_law_store", none), "_law_store", "_law_store", defArgs s98, defBody s98, defScope s98, [], []⟩
def d99 : He.DefD := ⟨("_law_dim", none), "_law_dim", "_law_dim", defArgs s99, defBody s99, defScope s99, [], []⟩
def d100 : He.DefD := ⟨("_law_span", none), "_law_span", "_law_span", defArgs s100, defBody s100, defScope s100, [], []⟩
def d101 : He.DefD := ⟨("_law_some", none), "_law_some", "_law_some", defArgs s101, defBody s101, defScope s101, [], []⟩
def d102 : He.DefD := ⟨("_law_dots", none), "_law_dots", "_law_dots", defArgs s102, defBody s102, defScope s102, [], []⟩
def d103 : He.DefD := ⟨("_law_near_spot", none), "_law_near_spot", "_law_near_spot", defArgs s103, defBody s103, defScope s103, [], []⟩
def d104 : He.DefD := ⟨("_law_some_spot", none), "_law_some_spot", "_law_some_spot", defArgs s104, defBody s104, defScope s104, [], []⟩
def d105 : He.DefD := ⟨("_law_call", none), "_law_call", "_law_call", defArgs s105, defBody s105, defScope s105, [], []⟩
def d106 : He.DefD := ⟨("_law_sums", none), "_law_sums", "_law_sums", defArgs s106, defBody s106, defScope s106, [], []⟩
def d107 : He.DefD := ⟨("_law_middle_of", none), "_law_middle_of", "_law_middle_of", defArgs s107, defBody s107, defScope s107, [], []⟩
def d108 : He.DefD := ⟨("_law_demand", none), "_law_demand", "_law_demand", defArgs s108, defBody s108, defScope s108, [], []⟩
def d109 : He.DefD := ⟨("_law_served", none), "_law_served", "_law_served", defArgs s109, defBody s109, defScope s109, [], []⟩
def d110 : He.DefD := ⟨("_law_refuses", none), "_law_refuses", "_law_refuses", defArgs s110, defBody s110, defScope s110, [], []⟩
def d111 : He.DefD := ⟨("law", none), "law", "law", defArgs s111, defBody s111, defScope s111, [], []⟩
def fn : List He.DefD := [d16_0, d22, d24, d25, d26, d27, d28, d29, d30, d31, d32, d33, d34, d35, d36, d37, d40, d41, d42, d43, d44, d45, d47, d48, d49, d54, d56, d57, d58, d59, d60, d61, d62, d64, d66_0, d66_4, d68, d69, d70, d71, d72, d73, d76, d78, d79, d80, d81, d82, d83, d84, d85, d86, d88, d89, d90, d91, d92, d93, d94, d95, d96, d97, d98, d99, d100, d101, d102, d103, d104, d105, d106, d107, d108, d109, d110, d111]
def fa0 : List He.Fa := [.exc "NearError", .glo "NearError", .exc "BadNumber", .glo "BadNumber", .exc "BadForm", .glo "BadForm", .exc "BadSystem", .glo "BadSystem", .exc "BadBook", .glo "BadBook", .exc "BadRoom", .glo "BadRoom", .exc "BadWeb", .glo "BadWeb", .exc "BadSpot", .glo "BadSpot", .exc "BadLot", .glo "BadLot", .exc "BadRule", .glo "BadRule"]
def fa1 : List He.Fa := [.exc "FlatRoom", .glo "FlatRoom", .exc "NoUndo", .glo "NoUndo", .exc "NotReady", .glo "NotReady", .glo "BadText", .glo "TooLarge", .glo "NoInside", .glo "OnRim", .glo "NotGood", .glo "NotAlike", .glo "is_whole", .glo "is_whole_ratio", .glo "is_sequence", .glo "common_divisor", .glo "is_ratio", .glo "check_ratio", .glo "check_ratios", .glo "opposite"]
def fa2 : List He.Fa := [.glo "sum_of", .glo "product_of", .glo "make", .glo "plus", .glo "minus", .glo "times", .glo "over", .glo "total", .int "MOST_DIM" 3, .glo "check_dim", .glo "are_integers", .glo "are_ratios", .glo "is_row", .glo "is_spot", .glo "check_spot", .glo "check_spot_forms", .glo "check_two_spots", .glo "check_counts", .glo "mean_spot", .glo "POINT_LIMITS"]
def fa3 : List He.Fa := [.int "ENTRY_BOUND" 1000000, .int "WEIGHT_BOUND" 1000000000000, .glo "is_whole_book", .glo "is_dim", .glo "is_letter", .glo "is_bounded_row", .glo "is_point", .glo "has_twins", .glo "is_point_number", .glo "check_number", .glo "check_number_book", .glo "check_spot_book", .cls "Book", .mkr "Book", .glo "Book", .glo "level_of", .glo "price_of", .glo "scaled_prices", .glo "level", .glo "price"]
def fa4 : List He.Fa := [.glo "cheapest", .int "SPOT_LIMIT" 20, .glo "check_number_company", .glo "check_company", .glo "spots_dim", .glo "count_sums", .glo "total_from", .glo "total_price", .glo "totals", .glo "spread", .glo "least_total", .glo "demand", .glo "_law_kinds", .glo "_law_costs", .glo "_law_lowest", .glo "_law_plus", .glo "_law_least", .glo "_law_compare", .glo "_law_equal", .glo "_law_mix"]
def fa5 : List He.Fa := [.glo "_law_take", .glo "_law_pick", .glo "_law_store", .glo "_law_dim", .glo "_law_span", .glo "_law_some", .glo "_law_dots", .glo "_law_near_spot", .glo "_law_some_spot", .glo "_law_call", .glo "_law_sums", .glo "_law_middle_of", .glo "_law_demand", .glo "_law_served", .glo "_law_refuses", .glo "law", .free "ValueError", .free "abs", .free "all", .free "bool"]
def fa6 : List He.Fa := [.free "int", .free "isinstance", .free "iter", .free "len", .free "list", .free "max", .free "min", .free "range", .free "str", .free "sum", .free "tuple", .free "zip"]
def fa7 : List He.Fa := [.free "any", .free "enumerate", .free "sorted", .noat "Book" "dim", .noat "Book" "points", .noat "Book" "many", .noat "Book" "equal_weights", .meth "Book" "row"]
def fa : List He.Fa := fa0 ++ fa1 ++ fa2 ++ fa3 ++ fa4 ++ fa5 ++ fa6 ++ fa7
def loose0 : List Str := ["_wall", "NearError", "BadNumber", "BadForm", "BadSystem", "BadBook", "BadRoom", "BadWeb", "BadSpot", "BadLot", "BadRule", "FlatRoom", "NoUndo", "NotReady", "BadText", "TooLarge", "NoInside", "OnRim", "NotGood", "NotAlike", "is_whole", "is_whole_ratio", "is_sequence", "common_divisor", "is_ratio", "check_ratio", "check_ratios", "opposite", "sum_of", "product_of"]
def loose1 : List Str := ["make", "plus", "minus", "times", "over", "total", "MOST_DIM", "check_dim", "are_integers", "are_ratios", "is_row", "is_spot", "check_spot", "check_spot_forms", "check_two_spots", "check_counts", "mean_spot", "POINT_LIMITS", "ENTRY_BOUND", "WEIGHT_BOUND", "is_whole_book", "is_dim", "is_letter", "is_bounded_row", "is_point", "has_twins", "is_point_number", "check_number", "check_number_book", "check_spot_book"]
def loose2 : List Str := ["Book", "level_of", "price_of", "scaled_prices", "level", "price", "cheapest", "SPOT_LIMIT", "check_number_company", "check_company", "spots_dim", "count_sums", "total_from", "total_price", "totals", "spread", "least_total", "demand", "_law_kinds", "_law_costs", "_law_lowest", "_law_plus", "_law_least", "_law_compare", "_law_equal", "_law_mix", "_law_take", "_law_pick", "_law_store", "_law_dim"]
def loose3 : List Str := ["_law_span", "_law_some", "_law_dots", "_law_near_spot", "_law_some_spot", "_law_call", "_law_sums", "_law_middle_of", "_law_demand", "_law_served", "_law_refuses"]
def loose : List Str := loose0 ++ loose1 ++ loose2 ++ loose3
def ex1 (K : PySem.W.Frag) : Bool := oexB K (He.ga K "BadText") && oexF K (He.ga K "BadText") ["line", "column"] && (oexB K (He.ga K "TooLarge") && oexF K (He.ga K "TooLarge") ["limit"] && (oexB K (He.ga K "NoInside") && oexF K (He.ga K "NoInside") ["number"] && (oexB K (He.ga K "OnRim") && oexF K (He.ga K "OnRim") ["number"] && (oexB K (He.ga K "NotGood") && oexF K (He.ga K "NotGood") ["number", "other"] && (oexB K (He.ga K "NotAlike") && oexF K (He.ga K "NotAlike") ["number", "other"] && (He.tupB K "POINT_LIMITS" [.int 0, .int 12, .int 7, .int 5]))))))
def ex (K : PySem.W.Frag) : Bool := ex1 K && (Pd.kdB K ["BadNumber", "BadSpot", "TooLarge"] && Pd.hdB K ["BadNumber", "BadSpot", "TooLarge"] [("TooLarge", some "limit"), ("NearError", none)])
def lawAt : Nat := 111
def as0 : List Addr := [3, 0, 1, 2, 6, 9, 13, 17, 20, 21, 22, 24, 27, 30, 31, 35, 37, 40, 43, 44, 47, 49, 52, 55, 56, 59, 61, 64, 67, 68, 71, 73, 76, 79, 80, 83, 85, 88, 91, 92]
def as1 : List Addr := [95, 97, 100, 103, 104, 107, 109, 112, 115, 116, 119, 121, 124, 127, 128, 131, 133, 136, 139, 140, 143, 145, 148, 151, 152, 155, 157, 160, 163, 164, 167, 169, 172, 175, 176, 179, 181, 184, 188, 191]
def as2 : List Addr := [192, 193, 194, 195, 198, 200, 203, 207, 210, 211, 212, 213, 214, 217, 219, 222, 226, 229, 230, 231, 232, 233, 236, 238, 241, 245, 248, 249, 250, 251, 252, 255, 257, 260, 264, 267, 268, 269, 270, 271]
def as3 : List Addr := [274, 276, 279, 283, 286, 287, 288, 289, 290, 295, 298, 299, 302, 305, 306, 309, 312, 313, 316, 319, 320, 323, 326, 327, 330, 333, 334, 337, 340, 341, 344, 347, 348, 351, 354, 355, 356, 359, 362, 363]
def as4 : List Addr := [366, 369, 370, 373, 376, 377, 380, 383, 384, 387, 390, 391, 394, 397, 398, 401, 404, 405, 409, 410, 414, 415, 418, 421, 422, 425, 428, 429, 432, 435, 436, 439, 442, 443, 447, 448, 451, 454, 455, 456]
def as5 : List Addr := [459, 462, 463, 466, 469, 470, 473, 476, 477, 481, 482, 485, 488, 489, 493, 494, 497, 500, 501, 504, 507, 508, 511, 514, 515, 518, 521, 526, 527, 530, 533, 534, 537, 540, 541, 544, 547, 548, 551, 554]
def as6 : List Addr := [555, 558, 561, 562, 565, 568, 569, 572, 575, 576, 579, 582, 583, 584, 587, 590, 591, 594, 597, 598, 599, 602, 605, 606, 609, 612, 613, 616, 619, 620, 623, 626, 627, 628, 629, 630, 638, 639, 643, 644]
def as7 : List Addr := [648, 649, 652, 655, 656, 659, 662, 663, 667, 668, 671, 674, 675, 678, 681, 682, 685, 688, 689, 693, 694, 698, 699, 702, 705, 706, 710, 711, 715, 716, 719, 722, 723, 726, 729, 730, 734, 735, 738, 741]
def as8 : List Addr := [742, 745, 748, 749, 752, 755, 756, 760, 761, 764, 767, 768, 772, 773, 776, 779, 780, 783, 786, 787, 790, 793, 794, 797, 800, 801, 804, 807, 808, 811, 814, 815, 818, 821, 822, 826, 827, 831, 832, 836]
def as9 : List Addr := [837, 840, 843, 844, 848, 849, 852, 855, 856, 860, 861, 865, 866, 869, 872, 873, 876, 879, 880]
def as : List Addr := as0 ++ as1 ++ as2 ++ as3 ++ as4 ++ as5 ++ as6 ++ as7 ++ as8 ++ as9

end K84
end
section
set_option Elab.async false
set_option linter.all false
set_option maxRecDepth 100000
set_option maxHeartbeats 0
namespace K84
open PySem PySem.Spec PyProof.Rows L2 Pd
abbrev R : PySem.W.OpenRow := PySem.W.OpenLaw.row PySem.Challenge.rw_nearerhop_k84_companies
abbrev hk : PySem.W.Hook := hookA as fa fn ex
def ob (s : PySem.W.SharedT) : AlA := obsA as fa fn ex (HandSHeadRun.getT s)
theorem ob_eq (s : PySem.W.SharedT) : ob s = hk.obs s.abs := obsA_eq (HandSHeadRun.getT_eq s)
theorem run (w : World) : HandSHeadRun.RunEq R (PySem.W.view R.prog [lawAt]) hk ob 8000 loose w := by
  intro os
  kernel_rfl
end K84
open PySem PySem.W PySem.Calls PyProof.Rows in
theorem K84.close (call : WalkO (view (OpenLaw.row PySem.Challenge.rw_nearerhop_k84_companies).prog [K84.lawAt]) K84.loose (XL (view (OpenLaw.row PySem.Challenge.rw_nearerhop_k84_companies).prog [K84.lawAt]) []) K84.hk.says (OpenLaw.row PySem.Challenge.rw_nearerhop_k84_companies).toRowW (HandSHeadRun.topDef (OpenLaw.row PySem.Challenge.rw_nearerhop_k84_companies).prog K84.lawAt) [] fun f vs => PySem.call f vs) : PySem.Challenge.rw_nearerhop_k84_companies.Holds := by
  w_on; o_law
  refine HandSHeadRun.head_any (r := OpenLaw.row PySem.Challenge.rw_nearerhop_k84_companies) (q := view (OpenLaw.row PySem.Challenge.rw_nearerhop_k84_companies).prog [K84.lawAt]) (H := K84.hk) (ob := K84.ob) (M := 8000) (loose := K84.loose) (d := HandSHeadRun.topDef (OpenLaw.row PySem.Challenge.rw_nearerhop_k84_companies).prog K84.lawAt) (kwd := []) K84.ob_eq
    (by kernel_rfl) (fun s => by kernel_rfl) K84.run (by kernel_rfl) (by kernel_rfl) (by kernel_rfl) (by rfl) (by first | assumption | decide +kernel) (by decide +kernel) ⟨rfl, rfl, rfl, rfl, rfl, by decide +kernel⟩ ?hw call
  case hw => w_witness2
theorem K84.law_name : (HandSHeadRun.topDef (PySem.W.OpenLaw.row PySem.Challenge.rw_nearerhop_k84_companies).prog K84.lawAt).name = ("law" : PySem.Str) := by kernel_rfl
theorem K84.law_plain : (HandSHeadRun.topDef (PySem.W.OpenLaw.row PySem.Challenge.rw_nearerhop_k84_companies).prog K84.lawAt).params.defaults = [] := by kernel_rfl
end
section
set_option Elab.async false
set_option linter.all false
set_option maxRecDepth 100000
set_option maxHeartbeats 4000000
/-! ## plain data, and how a value stands for it -/
namespace Pd
open PySem PySem.Spec PyProof.Rows L2
/-- plain data: what the values stand for. obj: an instance that no longer changes; sto: the store of the draws -/
inductive D where
  | non | bl (b : Bool) | int (i : Int) | str (x : Str)
  | tup (l : List D) | lst (l : List D)
  | obj (C : Str) (ks : List Str) (vs : List D)
  | sto
/-- the store's own objects -/
structure Rg where
  root : Addr
  cells : Addr
  pairs : List Addr
def adr : Option Rg → Addr → Prop
  | none, _ => False
  | some r, a => a = r.root ∨ a = r.cells ∨ a ∈ r.pairs
structure RgOk (r : Rg) (H : Hp) : Prop where
  ne : r.root ≠ r.cells
  nr : r.root ∉ r.pairs
  nc : r.cells ∉ r.pairs
  nd : r.pairs.Nodup
  at_ : ∃ pl dr tn sd : Int, 0 ≤ pl ∧ H r.root = some (.lst [.ref r.cells, .int pl, .int dr, .int tn, .int sd])
  cl : H r.cells = some (.lst (r.pairs.map V.ref))
  pr : ∀ a ∈ r.pairs, ∃ (n : Int) (b : Bool), H a = some (.lst [.int n, .bl b])
def rok : Option Rg → Hp → Prop
  | none, _ => True
  | some r, H => RgOk r H
/-- what stands outside of the store stays -/
structure Ext (g : Option Rg) (H H' : Hp) : Prop where
  keep : ∀ a o, ¬ adr g a → H a = some o → H' a = some o
  ok : rok g H → rok g H'
theorem Ext.refl {g : Option Rg} (H : Hp) : Ext g H H := ⟨fun _ _ _ h => h, fun h => h⟩
theorem Ext.trans {g : Option Rg} {H H1 H2 : Hp} (a : Ext g H H1) (b : Ext g H1 H2) : Ext g H H2 := ⟨fun x o n h => b.keep x o n (a.keep x o n h), fun h => b.ok (a.ok h)⟩
theorem rok_mono {g : Option Rg} {H H' : Hp} (k : ∀ a o, adr g a → H a = some o → H' a = some o) (h : rok g H) : rok g H' := by
  cases g with
  | none => trivial
  | some r =>
    obtain ⟨h1, h2, h3, h4, ⟨pl, dr, tn, sd, h0, h5⟩, h6, h7⟩ := h
    refine ⟨h1, h2, h3, h4, ⟨pl, dr, tn, sd, h0, k _ _ (.inl rfl) h5⟩, k _ _ (.inr (.inl rfl)) h6, fun a ha => ?_⟩
    obtain ⟨n, b, e⟩ := h7 a ha
    exact ⟨n, b, k _ _ (.inr (.inr ha)) e⟩
theorem rok_trk {g : Option Rg} {H : Hp} (h : rok g H) {a : Addr} (ha : adr g a) : ∃ o, H a = some o := by
  cases g with
  | none => exact ha.elim
  | some r =>
    obtain ⟨h1, h2, h3, h4, ⟨pl, dr, tn, sd, h0, h5⟩, h6, h7⟩ := h
    rcases ha with e | e | e
    · rw [e]; exact ⟨_, h5⟩
    · rw [e]; exact ⟨_, h6⟩
    · obtain ⟨n, b, q⟩ := h7 a e
      exact ⟨_, q⟩
/-- all stays -/
theorem Ext.same {g : Option Rg} {H H' : Hp} (k : ∀ a o, H a = some o → H' a = some o) : Ext g H H' := ⟨fun a o _ h => k a o h, rok_mono fun a o _ h => k a o h⟩
theorem Ext.new {g : Option Rg} {H : Hp} {p : Addr} {o : HO} (h : H p = none) : Ext g H (upd H p o) := .same fun a u e => by
  rw [upd_ne (ne_of_none e h)]
  exact e
/-- what is hidden is not seen -/
noncomputable def hid (h : Addr → Prop) (H : Hp) : Hp := fun a => open Classical in if h a then none else H a
theorem hid_no {h : Addr → Prop} {H : Hp} {a : Addr} (n : ¬ h a) : hid h H a = H a := by unfold hid; rw [if_neg n]
theorem hid_yes {h : Addr → Prop} {H : Hp} {a : Addr} (n : h a) : hid h H a = none := by unfold hid; rw [if_pos n]
theorem hid_some {h : Addr → Prop} {H : Hp} {a : Addr} {o : HO} (e : hid h H a = some o) : ¬ h a ∧ H a = some o := by
  by_cases q : h a
  · rw [hid_yes q] at e; cases e
  · rw [hid_no q] at e; exact ⟨q, e⟩
theorem hid_of {h : Addr → Prop} {H : Hp} {a : Addr} {o : HO} (n : ¬ h a) (e : H a = some o) : hid h H a = some o := by rw [hid_no n]; exact e
theorem hid_sub {h h' : Addr → Prop} {H H' : Hp} (s : ∀ a, h' a → h a) (k : ∀ a o, ¬ h a → H a = some o → H' a = some o) : ∀ a o, hid h H a = some o → hid h' H' a = some o := fun a o e => by
  obtain ⟨n, q⟩ := hid_some e
  exact hid_of (fun z => n (s a z)) (k a o n q)

mutual
/-- v stands for d -/
inductive Dr (K : PySem.W.Frag) (g : Option Rg) (H : Hp) : V → D → Prop
  | non : Dr K g H .non .non
  | bl (b : Bool) : Dr K g H (.bl b) (.bl b)
  | int (i : Int) : Dr K g H (.int i) (.int i)
  | str (x : Str) : Dr K g H (.str x) (.str x)
  | tup {a : Addr} {xs : List V} {ds : List D} : SqT K H a xs → DrL K g H xs ds → Dr K g H (.ref a) (.tup ds)
  | lst {a : Addr} {xs : List V} {ds : List D} : H a = some (.lst xs) → DrL K g H xs ds → Dr K g H (.ref a) (.lst ds)
  | obj {a dx : Addr} {C : Str} {fs : List (Str × V)} {vs : List D} : H a = some (.ins (He.ga K C) dx fs) → DrL K g H (fs.map (·.2)) vs → Dr K g H (.ref a) (.obj C (fs.map (·.1)) vs)
  | sto {r : Rg} : g = some r → Dr K g H (.ref r.root) .sto
inductive DrL (K : PySem.W.Frag) (g : Option Rg) (H : Hp) : List V → List D → Prop
  | nil : DrL K g H [] []
  | cons {v : V} {vs : List V} {d : D} {ds : List D} : Dr K g H v d → DrL K g H vs ds → DrL K g H (v :: vs) (d :: ds)
end
theorem sqT_mono {K : PySem.W.Frag} {H H' : Hp} {a : Addr} {xs : List V} (e : ∀ a o, H a = some o → H' a = some o) (h : SqT K H a xs) : SqT K H' a xs := by
  rcases h with (h | ⟨o, h⟩) | h
  · exact .inl (.inl (e _ _ h))
  · exact .inl (.inr ⟨o, e _ _ h⟩)
  · exact .inr h
theorem sqL_mono {K : PySem.W.Frag} {H H' : Hp} {a : Addr} {xs : List V} (e : ∀ a o, H a = some o → H' a = some o) (h : SqL K H a xs) : SqL K H' a xs := by
  rcases h with (h | ⟨o, h⟩) | h
  · exact .inl (.inl (e _ _ h))
  · exact .inl (.inr ⟨o, e _ _ h⟩)
  · exact .inr h
mutual
theorem Dr.mono {K : PySem.W.Frag} {g : Option Rg} {H H' : Hp} (e : ∀ a o, H a = some o → H' a = some o) : ∀ {v : V} {d : D}, Dr K g H v d → Dr K g H' v d
  | _, _, .non => .non
  | _, _, .bl b => .bl b
  | _, _, .int i => .int i
  | _, _, .str x => .str x
  | _, _, .tup s l => .tup (sqT_mono e s) (DrL.mono e l)
  | _, _, .lst s l => .lst (e _ _ s) (DrL.mono e l)
  | _, _, .obj s l => .obj (e _ _ s) (DrL.mono e l)
  | _, _, .sto s => .sto s
theorem DrL.mono {K : PySem.W.Frag} {g : Option Rg} {H H' : Hp} (e : ∀ a o, H a = some o → H' a = some o) : ∀ {v : List V} {d : List D}, DrL K g H v d → DrL K g H' v d
  | _, _, .nil => .nil
  | _, _, .cons h t => .cons (Dr.mono e h) (DrL.mono e t)
end
theorem DrL.length {K : PySem.W.Frag} {g : Option Rg} {H : Hp} : ∀ {v : List V} {d : List D}, DrL K g H v d → v.length = d.length
  | _, _, .nil => rfl
  | _, _, .cons _ t => congrArg Nat.succ (DrL.length t)
theorem DrL.get {K : PySem.W.Frag} {g : Option Rg} {H : Hp} : ∀ {v : List V} {d : List D} {i : Nat} {x : D}, DrL K g H v d → d[i]? = some x → ∃ y, v[i]? = some y ∧ Dr K g H y x
  | _, _, 0, _, .cons h _, e => ⟨_, rfl, by cases e; exact h⟩
  | _, _, i + 1, _, .cons _ t, e => DrL.get (i := i) t e
theorem DrL.getV {K : PySem.W.Frag} {g : Option Rg} {H : Hp} : ∀ {v : List V} {d : List D} {i : Nat} {y : V}, DrL K g H v d → v[i]? = some y → ∃ x, d[i]? = some x ∧ Dr K g H y x
  | _, _, 0, _, .cons h _, e => ⟨_, rfl, by cases e; exact h⟩
  | _, _, i + 1, _, .cons _ t, e => DrL.getV (i := i) t e
theorem DrL.append {K : PySem.W.Frag} {g : Option Rg} {H : Hp} : ∀ {v v' : List V} {d d' : List D}, DrL K g H v d → DrL K g H v' d' → DrL K g H (v ++ v') (d ++ d')
  | _, _, _, _, .nil, h => h
  | _, _, _, _, .cons h t, h' => .cons h (DrL.append t h')
theorem DrL.take {K : PySem.W.Frag} {g : Option Rg} {H : Hp} : ∀ {v : List V} {d : List D} (n : Nat), DrL K g H v d → DrL K g H (v.take n) (d.take n)
  | _, _, 0, _ => .nil
  | _, _, _ + 1, .nil => .nil
  | _, _, n + 1, .cons h t => .cons h (DrL.take n t)
theorem DrL.drop {K : PySem.W.Frag} {g : Option Rg} {H : Hp} : ∀ {v : List V} {d : List D} (n : Nat), DrL K g H v d → DrL K g H (v.drop n) (d.drop n)
  | _, _, 0, h => h
  | _, _, _ + 1, .nil => .nil
  | _, _, n + 1, .cons _ t => DrL.drop n t
theorem DrL.set {K : PySem.W.Frag} {g : Option Rg} {H : Hp} {y : V} {x : D} (r : Dr K g H y x) : ∀ {v : List V} {d : List D} (i : Nat), DrL K g H v d → DrL K g H (v.set i y) (d.set i x)
  | _, _, _, .nil => .nil
  | _, _, 0, .cons _ t => .cons r t
  | _, _, i + 1, .cons h t => .cons h (DrL.set r i t)
theorem DrL.one {K : PySem.W.Frag} {g : Option Rg} {H : Hp} {v : V} {d : D} (h : Dr K g H v d) : DrL K g H [v] [d] := .cons h .nil

/-! ### a def's slots -/
/-- what a name holds: nothing that is known; data; a list of the def's own (to be changed); the instance that __init__ fills -/
inductive Sl where
  | un | val (d : D) | ml (ds : List D) | ins (a : Addr) (C : Str) (ks : List Str) (vs : List D)
def Sl.own : Sl → Prop
  | .ml _ => True
  | .ins _ _ _ _ => True
  | _ => False
abbrev Rho := List Sl
def SlOk (K : PySem.W.Frag) (g : Option Rg) (h : Addr → Prop) (H : Hp) (o : Option V) (p : Addr) : Sl → Prop
  | .un => True
  | .val d => ∃ v, o = some v ∧ Dr K g (hid h H) v d
  | .ml ds => o = some (.ref p) ∧ h p ∧ ∃ vs, H p = some (.lst vs) ∧ DrL K g (hid h H) vs ds
  | .ins a C ks ws => (a = p ∧ o = some (.ref p)) ∧ h p ∧ ∃ dx fs, H p = some (.ins (He.ga K C) dx fs) ∧ fs.map (·.1) = ks ∧ DrL K g (hid h H) (fs.map (·.2)) ws
/-- a def's run: the entry's hidden objects and heap -/
structure Gm where
  X : Cx
  g : Option Rg
  h0 : Addr → Prop
  H0 : Hp
  k : Nat
structure Ent (G : Gm) (h : Addr → Prop) (H : Hp) : Prop where
  keep : ∀ a o, G.H0 a = some o → ¬ adr G.g a → H a = some o ∧ (h a → G.h0 a)
  sub : ∀ a, G.h0 a → h a
  reg : ∀ a, adr G.g a → G.h0 a
  trk0 : ∀ a, G.h0 a → ∃ o, G.H0 a = some o
  trk : ∀ a, h a → ∃ o, H a = some o
  ok : rok G.g H
structure StOk (G : Gm) (h : Addr → Prop) (σ : L2.St) (ρ : Rho) (H : Hp) : Prop where
  ent : Ent G h H
  len : σ.length = ρ.length
  sl : ∃ own : Nat → Addr, (∀ i j s t, ρ[i]? = some s → ρ[j]? = some t → s.own → t.own → own i = own j → i = j) ∧ (∀ i s, ρ[i]? = some s → s.own → ¬ G.h0 (own i)) ∧
    ∀ i s o, ρ[i]? = some s → σ[i]? = some o → SlOk G.X.K G.g h H o (own i) s
section
variable {G : Gm} {h h' : Addr → Prop} {σ : L2.St} {ρ : Rho} {H H' : Hp}
theorem Ent.ext (e : Ent G h H) (x : Ext G.g H H') : Ent G h H' where
  keep := fun a o q n => ⟨x.keep a o n (e.keep a o q n).1, (e.keep a o q n).2⟩
  sub := e.sub
  reg := e.reg
  trk0 := e.trk0
  trk := fun a q => by
    by_cases n : adr G.g a
    · exact rok_trk (x.ok e.ok) n
    · obtain ⟨o, z⟩ := e.trk a q
      exact ⟨o, x.keep a o n z⟩
  ok := x.ok e.ok
/-- an own hidden object is not of the store -/
theorem Ent.nreg (e : Ent G h H) {a : Addr} (n : ¬ G.h0 a) : ¬ adr G.g a := fun z => n (e.reg a z)
theorem Ent.vis (e : Ent G h H) {a : Addr} (n : ¬ h a) : ¬ adr G.g a := fun z => n (e.sub a (e.reg a z))
theorem Ent.mono (e : Ent G h H) (x : Ext G.g H H') : ∀ a o, hid h H a = some o → hid h H' a = some o := hid_sub (fun _ z => z) fun a o n q => x.keep a o (e.vis n) q
theorem SlOk.mono {K : PySem.W.Frag} {g : Option Rg} {o : Option V} {p : Addr} {s : Sl} (m : ∀ a o, hid h H a = some o → hid h' H' a = some o) (hp : s.own → h p → h' p ∧ ∀ o, H p = some o → H' p = some o) (x : SlOk K g h H o p s) : SlOk K g h' H' o p s := by
  cases s with
  | un => trivial
  | val d =>
    obtain ⟨v, e, q⟩ := x
    exact ⟨v, e, q.mono m⟩
  | ml ds =>
    obtain ⟨e, n, vs, q, r⟩ := x
    obtain ⟨n', k⟩ := hp trivial n
    exact ⟨e, n', vs, k _ q, r.mono m⟩
  | ins a C ks ws =>
    obtain ⟨e, n, dx, fs, q, z, r⟩ := x
    obtain ⟨n', k⟩ := hp trivial n
    exact ⟨e, n', dx, fs, k _ q, z, r.mono m⟩
theorem StOk.ext (s : StOk G h σ ρ H) (x : Ext G.g H H') : StOk G h σ ρ H' := by
  refine ⟨s.ent.ext x, s.len, ?_⟩
  obtain ⟨own, h1, h2, h3⟩ := s.sl
  exact ⟨own, h1, h2, fun i t o e1 e2 => (h3 i t o e1 e2).mono (s.ent.mono x) fun q n => ⟨n, fun u z => x.keep _ u (s.ent.nreg (h2 i t e1 q)) z⟩⟩
/-- a new object is seen -/
theorem Ent.fresh (e : Ent G h H) {p : Addr} (n : H p = none) : ¬ h p := fun z => by
  obtain ⟨o, q⟩ := e.trk p z
  rw [n] at q; cases q
end
end Pd
end
section
set_option Elab.async false
set_option linter.all false
set_option maxRecDepth 100000
set_option maxHeartbeats 4000000
/-! ## expressions over data -/
namespace Pd
open PySem PySem.Spec PyProof.Rows L2
/-! ### the readings that say just what they are to say -/
def Ev (X : Cx) (e : Expr) : TE := fun σ H Q => ∀ (pins : List (Addr × Obj)) (s : Shared), Inv X pins σ H s → wpAny (model X.prog X.w) X.A (eval e X.env) (EP X pins σ Q) X.xe s
def Tv (X : Cx) (e : Expr) : TT := fun σ H Q => ∀ (pins : List (Addr × Obj)) (s : Shared), Inv X pins σ H s → wpAny (model X.prog X.w) X.A (isTrue e X.env (eval e X.env)) (TP X pins σ Q) X.xe s
def Wv (X : Cx) (e : Expr) : TT := fun σ H Q => ∀ (whole : Sem Value) (pins : List (Addr × Obj)) (s : Shared), Inv X pins σ H s → wpAny (model X.prog X.w) X.A (isTrue e X.env whole) (TP X pins σ Q) X.xe s
def Av (X : Cx) (es : List Expr) : TA := fun σ H Q => ∀ (pos : Pos) (pins : List (Addr × Obj)) (s : Shared), Inv X pins σ H s → wpAny (model X.prog X.w) X.A (spliced (backTo pos (starEach es X.env))) (AP X pins σ Q) X.xe s
section
variable {X : Cx} {e : Expr} {es : List Expr} {σ : L2.St} {H : Hp}
theorem pe_self : PE X e (Ev X e) := ⟨fun pins s _ _ _ I h => h pins s I⟩
theorem pt_self : PT X e (Tv X e) := ⟨fun pins s _ _ _ I h => h pins s I⟩
theorem pw_self : PW X e (Wv X e) := ⟨fun wh pins s _ _ _ I h => h wh pins s I⟩
theorem pa_self : PA X es (Av X es) := ⟨fun p pins s _ _ _ I h => h p pins s I⟩
theorem Ev.of {t : TE} {Q : VK} (h : PE X e t) (q : t σ H Q) : Ev X e σ H Q := fun pins s I => h.run pins s σ H Q I q
theorem Tv.of {t : TT} {Q : Bool → Hp → Prop} (h : PT X e t) (q : t σ H Q) : Tv X e σ H Q := fun pins s I => h.run pins s σ H Q I q
theorem Wv.of {t : TT} {Q : Bool → Hp → Prop} (h : PW X e t) (q : t σ H Q) : Wv X e σ H Q := fun wh pins s I => h.run wh pins s σ H Q I q
theorem Av.of {t : TA} {Q : List V → Hp → Prop} (h : PA X es t) (q : t σ H Q) : Av X es σ H Q := fun p pins s I => h.run p pins s σ H Q I q
theorem Ev.mono {Q Q' : VK} (h : Ev X e σ H Q) (f : ∀ v H', Q v H' → Q' v H') : Ev X e σ H Q' := fun pins s I => thn (h pins s I) fun _ _ ⟨v, H', I', r, q⟩ => ⟨v, H', I', r, f v H' q⟩
theorem Tv.mono {Q Q' : Bool → Hp → Prop} (h : Tv X e σ H Q) (f : ∀ v H', Q v H' → Q' v H') : Tv X e σ H Q' := fun pins s I => thn (h pins s I) fun _ _ ⟨H', I', q⟩ => ⟨H', I', f _ H' q⟩
theorem Wv.mono {Q Q' : Bool → Hp → Prop} (h : Wv X e σ H Q) (f : ∀ v H', Q v H' → Q' v H') : Wv X e σ H Q' := fun wh pins s I => thn (h wh pins s I) fun _ _ ⟨H', I', q⟩ => ⟨H', I', f _ H' q⟩
theorem Av.mono {Q Q' : List V → Hp → Prop} (h : Av X es σ H Q) (f : ∀ v H', Q v H' → Q' v H') : Av X es σ H Q' := fun p pins s I => thn (h p pins s I) fun _ _ ⟨v, H', I', r, q⟩ => ⟨v, H', I', r, f v H' q⟩
end
/-! ### exceptions as data -/
structure Exn where
  cls : Str
  fs : List (Str × Int)
def ExnR (K : PySem.W.Frag) (H : Hp) (cls : Value) (dx : Option Addr) (e : Exn) : Prop :=
  cls = .ref (He.ga K e.cls) ∧ ((e.fs = [] ∧ dx = none) ∨ ∃ d fv, dx = some d ∧ H d = some (.xd fv) ∧ ∀ p ∈ e.fs, fv.lookup p.1 = some (.int p.2))
/-- what a def may let out: the wish at its slots -/
def Wish (G : Gm) (R : Exn → Prop) : WX := fun cls dx σ H => ∃ h ρ e, StOk G h σ ρ H ∧ ExnR G.X.K H cls dx e ∧ R e
/-- the written scope, as it runs -/
structure SV (X : Cx) (sc : Scope) : Prop where
  kind : X.env.scope.kind = .function
  loc : ∀ x, sc.names.lookup x = some .local → X.env.scope.names.lookup x = some .local
  glb : ∀ x, sc.names.lookup x = some .globalImplicit → X.env.scope.names.lookup x = some .globalImplicit
  cap : ∀ x, (sc.names.lookup x = some .cell ∨ sc.names.lookup x = some .free) → X.env.scope.names.lookup x = some .cell ∨ X.env.scope.names.lookup x = some .free
  cel : ∀ x, sc.names.lookup x = some .cell → X.env.scope.names.lookup x = some .cell
/-- the built-ins' names that the module leaves free -/
def BI : List Str := ["len", "isinstance", "abs", "min", "max", "sum", "all", "any", "int", "tuple", "list", "range", "zip", "enumerate", "sorted", "str", "bool"]
structure GOk (G : Gm) (sc : Scope) (R : Exn → Prop) : Prop where
  calm : G.X.calm = true
  nd : G.X.N.Nodup
  room : Room G.k G.X.A
  sv : SV G.X sc
  tk : L2N.Takes G.X (Wish G R)
  bi : ∀ x ∈ BI, G.X.mg x = none
/-- a list that nobody else holds -/
def Fr (K : PySem.W.Frag) (g : Option Rg) (h : Addr → Prop) (H H' : Hp) (v : V) (d : D) : Prop :=
  ∃ p vs ds, v = .ref p ∧ d = .lst ds ∧ H p = none ∧ H' p = some (.lst vs) ∧ DrL K g (hid (fun a => h a ∨ a = p) H') vs ds
/-- behind an expression -/
def EQ (G : Gm) (h : Addr → Prop) (H : Hp) (P : D → Bool → Prop) : VK := fun v H' =>
  Ext G.g H H' ∧ ∃ d fr, Dr G.X.K G.g (hid h H') v d ∧ (fr = true → Fr G.X.K G.g h H H' v d) ∧ P d fr
def WE (G : Gm) (e : Expr) (ρ : Rho) (P : D → Bool → Prop) : Prop := ∀ h σ H, StOk G h σ ρ H → Ev G.X e σ H (EQ G h H P)
def WA (G : Gm) (es : List Expr) (ρ : Rho) (P : List D → Prop) : Prop := ∀ h σ H, StOk G h σ ρ H → Av G.X es σ H fun vs H' => Ext G.g H H' ∧ ∃ ds, DrL G.X.K G.g (hid h H') vs ds ∧ P ds
def WT (G : Gm) (e : Expr) (ρ : Rho) (P : Bool → Prop) : Prop := ∀ h σ H, StOk G h σ ρ H → Tv G.X e σ H fun b H' => Ext G.g H H' ∧ P b
def WW (G : Gm) (e : Expr) (ρ : Rho) (P : Bool → Prop) : Prop := ∀ h σ H, StOk G h σ ρ H → Wv G.X e σ H fun b H' => Ext G.g H H' ∧ P b
section
variable {G : Gm} {sc : Scope} {R : Exn → Prop} {ρ : Rho} {h : Addr → Prop} {σ : L2.St} {H H1 H2 : Hp} {P P' : D → Bool → Prop} {e a b c : Expr} {es : List Expr} {pos : Pos}
theorem EQ.flat {v : V} {d : D} (r : Dr G.X.K G.g (hid h H) v d) (p : P d false) : EQ G h H P v H := ⟨.refl H, d, false, r, (fun z => nomatch z), p⟩
theorem Ext.none_of (en : Ent G h H) (x : Ext G.g H H1) {p : Addr} (e : H1 p = none) : H p = none := by
  cases q : H p with
  | none => rfl
  | some o =>
    exfalso
    by_cases n : adr G.g p
    · obtain ⟨u, z⟩ := rok_trk (x.ok en.ok) n
      rw [z] at e; cases e
    · rw [x.keep p o n q] at e; cases e
theorem EQ.after {v : V} (en : Ent G h H) (x : Ext G.g H H1) (q : EQ G h H1 P v H2) : EQ G h H P v H2 := by
  obtain ⟨x2, d, fr, r, f, p⟩ := q
  refine ⟨x.trans x2, d, fr, r, fun z => ?_, p⟩
  obtain ⟨pp, vs, ds, e1, e2, e3, e4⟩ := f z
  exact ⟨pp, vs, ds, e1, e2, Ext.none_of en x e3, e4⟩
/-- a new list -/
theorem EQ.newL {vs : List V} {ds : List D} {p : Addr} (en : Ent G h H) (n : H p = none) (r : DrL G.X.K G.g (hid h H) vs ds) (q : P (.lst ds) true) : EQ G h H P (.ref p) (upd H p (.lst vs)) := by
  have m : ∀ a o, hid h H a = some o → hid h (upd H p (.lst vs)) a = some o := en.mono (Ext.new n)
  have m2 : ∀ a o, hid h H a = some o → hid (fun a => h a ∨ a = p) (upd H p (.lst vs)) a = some o := fun a o e => by
    obtain ⟨n1, e1⟩ := hid_some e
    refine hid_of (fun z => ?_) (by rw [upd_ne (ne_of_none e1 n)]; exact e1)
    rcases z with z | z
    · exact n1 z
    · rw [z, n] at e1; cases e1
  exact ⟨.new n, _, true, .lst (hid_of (en.fresh n) upd_same) (r.mono m), fun _ => ⟨p, vs, ds, rfl, rfl, n, upd_same, r.mono m2⟩, q⟩
theorem EQ.newT {vs : List V} {ds : List D} {p : Addr} (en : Ent G h H) (n : H p = none) (r : DrL G.X.K G.g (hid h H) vs ds) (q : P (.tup ds) false) : EQ G h H P (.ref p) (upd H p (.tup vs)) :=
  ⟨.new n, _, false, .tup (.inl (.inl (hid_of (en.fresh n) upd_same))) (r.mono (en.mono (Ext.new n))), (fun z => nomatch z), q⟩
theorem WE.mono (w : WE G e ρ P) (f : ∀ d fr, P d fr → P' d fr) : WE G e ρ P' := fun h σ H S => (w h σ H S).mono fun v H' ⟨x, d, fr, r, g, p⟩ => ⟨x, d, fr, r, g, f d fr p⟩
/-! names, constants -/
theorem we_var {i : Nat} {x : Str} {d : D} (sv : SV G.X sc) (hN : G.X.N[i]? = some x) (hx : sc.names.lookup x = some .local ∨ sc.names.lookup x = some .cell ∨ sc.names.lookup x = some .free) (hd : (x == ("__debug__" : Str)) = false) (hc : (x == ("__classdict__" : Str)) = false)
    (hv : ρ[i]? = some (.val d)) (p : P d false) : WE G (.Name x pos) ρ P := fun h σ H S => by
  have vis : Vis G.X.env.scope x := by
    rcases hx with z | z | z
    · exact .inl (sv.loc x z)
    · exact .inr (sv.cap x (.inl z))
    · exact .inr (sv.cap x (.inr z))
  obtain ⟨own, _, _, h3⟩ := S.sl
  have hi : i < σ.length := by
    rw [S.len]
    exact (List.getElem?_eq_some_iff.mp hv).1
  obtain ⟨v, ev, r⟩ := h3 i _ _ hv (List.getElem?_eq_getElem hi)
  exact Ev.of (pe_var hN vis hd hc) ⟨v, by rw [List.getElem?_eq_getElem hi, ev], EQ.flat r p⟩
theorem we_const {k : Const} {j : Nat} {v : V} {d : D} (hp : ∀ X : Cx, PE X (.Constant k j pos) (tC v)) (r : ∀ (K : PySem.W.Frag) (g : Option Rg) (H : Hp), Dr K g H v d) (p : P d false) : WE G (.Constant k j pos) ρ P := fun h σ H S =>
  Ev.of (hp G.X) (EQ.flat (r _ _ _) p)
/-- a module's constant -/
structure Glob (X : Cx) (x : Str) (d : D) : Prop where
  to : ∃ (v : V) (u : Value), X.mg x = some u ∧ RelV v u ∧ ∀ (g : Option Rg) (H : Hp), Dr X.K g H v d
theorem we_glob {x : Str} {d : D} (sv : SV G.X sc) (hx : sc.names.lookup x = some .globalImplicit) (hd : (x == ("__debug__" : Str)) = false) (gl : Glob G.X x d) (p : P d false) : WE G (.Name x pos) ρ P := fun h σ H S => by
  obtain ⟨v, u, hm, r, dr⟩ := gl.to
  exact Ev.of (pe_glob (sv.glb x hx) hm r hd) (EQ.flat (dr _ _) p)
end
end Pd
end
section
set_option Elab.async false
set_option linter.all false
set_option maxRecDepth 100000
set_option maxHeartbeats 4000000
/-! ## operators over data -/
namespace Pd
open PySem PySem.Spec PyProof.Rows L2
/-! ### data for == -/
mutual
/-- == as Python has it; no objects -/
def deq : D → D → Bool
  | .non, .non => true
  | .bl a, .bl b => a == b
  | .bl a, .int j => (if a then 1 else 0) == j
  | .int i, .bl b => i == (if b then 1 else 0)
  | .int i, .int j => i == j
  | .str x, .str y => x == y
  | .lst xs, .lst ys => deqL xs ys
  | .tup xs, .tup ys => deqL xs ys
  | _, _ => false
def deqL : List D → List D → Bool
  | [], [] => true
  | x :: xs, y :: ys => deq x y && deqL xs ys
  | _, _ => false
end
mutual
def toPy : D → PyData
  | .non => .none
  | .bl b => .bool b
  | .int i => .int i
  | .str x => .str x
  | .lst l => .list (toPyL l)
  | .tup l => .tuple (toPyL l)
  | .obj _ _ _ => .none
  | .sto => .none
def toPyL : List D → List PyData
  | [] => []
  | x :: xs => toPy x :: toPyL xs
end
mutual
/-- plain data, nested at most n deep -/
def shp : Nat → D → Bool
  | _, .non => true
  | _, .bl _ => true
  | _, .int _ => true
  | _, .str x => PyData.strOk x
  | n + 1, .lst l => shpL n l
  | n + 1, .tup l => shpL n l
  | _, _ => false
def shpL : Nat → List D → Bool
  | _, [] => true
  | n, x :: xs => shp n x && shpL n xs
end

mutual
theorem deq_py : ∀ (a b : D) (n m : Nat), shp n a = true → shp m b = true → PyData.eqv (toPy a) (toPy b) = deq a b
  | .non, b, n, m, ha, hb => by cases b <;> first | rfl | (cases m <;> cases hb; done) | (simp [toPy, PyData.eqv, deq]; done)
  | .bl x, b, n, m, ha, hb => by cases b <;> first | rfl | (cases m <;> cases hb; done) | (simp [toPy, PyData.eqv, deq]; done)
  | .int x, b, n, m, ha, hb => by cases b <;> first | rfl | (cases m <;> cases hb; done) | (simp [toPy, PyData.eqv, deq]; done)
  | .str x, b, n, m, ha, hb => by cases b <;> first | rfl | (cases m <;> cases hb; done) | (simp [toPy, PyData.eqv, deq]; done)
  | .lst l, b, 0, m, ha, hb => by cases ha
  | .lst l, b, n + 1, m, ha, hb => by
    cases b with
    | lst l' =>
      cases m with
      | zero => cases hb
      | succ m =>
        show PyData.eqv (.list (toPyL l)) (.list (toPyL l')) = deqL l l'
        rw [PyData.eqv]
        exact deq_pyL l l' n m ha hb
    | obj _ _ _ => cases m <;> cases hb
    | sto => cases m <;> cases hb
    | _ => simp [toPy, PyData.eqv, deq]
  | .tup l, b, 0, m, ha, hb => by cases ha
  | .tup l, b, n + 1, m, ha, hb => by
    cases b with
    | tup l' =>
      cases m with
      | zero => cases hb
      | succ m =>
        show PyData.eqv (.tuple (toPyL l)) (.tuple (toPyL l')) = deqL l l'
        rw [PyData.eqv]
        exact deq_pyL l l' n m ha hb
    | obj _ _ _ => cases m <;> cases hb
    | sto => cases m <;> cases hb
    | _ => simp [toPy, PyData.eqv, deq]
  | .obj _ _ _, b, n, m, ha, hb => by cases n <;> cases ha
  | .sto, b, n, m, ha, hb => by cases n <;> cases ha
theorem deq_pyL : ∀ (a b : List D) (n m : Nat), shpL n a = true → shpL m b = true → PyData.eqvAll (toPyL a) (toPyL b) = deqL a b
  | [], [], _, _, _, _ => by simp [toPyL, PyData.eqvAll, deqL]
  | [], _ :: _, _, _, _, _ => by simp [toPyL, PyData.eqvAll, deqL]
  | _ :: _, [], _, _, _, _ => by simp [toPyL, PyData.eqvAll, deqL]
  | x :: xs, y :: ys, n, m, ha, hb => by
    rw [shpL, Bool.and_eq_true] at ha hb
    rw [toPyL, toPyL, PyData.eqvAll, deqL, deq_py x y n m ha.1 hb.1, deq_pyL xs ys n m ha.2 hb.2]
end
mutual
theorem shp_lay : ∀ (d : D) (n : Nat), shp n d = true → (toPy d).canLay0 = true ∧ (toPy d).depth ≤ n
  | .non, n, _ => ⟨by simp [toPy, PyData.canLay0], by simp [toPy, PyData.depth]⟩
  | .bl _, n, _ => ⟨by simp [toPy, PyData.canLay0], by simp [toPy, PyData.depth]⟩
  | .int _, n, _ => ⟨by simp [toPy, PyData.canLay0], by simp [toPy, PyData.depth]⟩
  | .str x, n, h => ⟨by
      have h' : PyData.strOk x = true := by cases n <;> exact h
      simp [toPy, PyData.canLay0, h'], by simp [toPy, PyData.depth]⟩
  | .lst l, 0, h => by cases h
  | .lst l, n + 1, h => by
    obtain ⟨h1, h2⟩ := shp_layL l n h
    exact ⟨by simp only [toPy, PyData.canLay0]; exact h1, by simp only [toPy, PyData.depth]; omega⟩
  | .tup l, 0, h => by cases h
  | .tup l, n + 1, h => by
    obtain ⟨h1, h2⟩ := shp_layL l n h
    exact ⟨by simp only [toPy, PyData.canLay0]; exact h1, by simp only [toPy, PyData.depth]; omega⟩
  | .obj _ _ _, n, h => by cases n <;> cases h
  | .sto, n, h => by cases n <;> cases h
theorem shp_layL : ∀ (l : List D) (n : Nat), shpL n l = true → PyData.canLayAll0 (toPyL l) = true ∧ PyData.depthAll (toPyL l) ≤ n
  | [], n, _ => ⟨by simp [toPyL, PyData.canLayAll0], by simp [toPyL, PyData.depthAll]⟩
  | x :: xs, n, h => by
    rw [shpL, Bool.and_eq_true] at h
    obtain ⟨h1, h2⟩ := shp_lay x n h.1
    obtain ⟨h3, h4⟩ := shp_layL xs n h.2
    refine ⟨?_, ?_⟩
    · simp only [toPyL, PyData.canLayAll0, h1, h3]; rfl
    · simp only [toPyL, PyData.depthAll]; omega
end
theorem shp_shaped {d : D} {n : Nat} (hn : n ≤ 64) (h : shp n d = true) : SeqAt.shaped (toPy d) = true := by
  obtain ⟨h1, h2⟩ := shp_lay d n h
  unfold SeqAt.shaped
  rw [h1, Bool.true_and]
  exact decide_eq_true (Nat.le_trans h2 hn)
mutual
theorem Dr.dp {K : PySem.W.Frag} {g : Option Rg} {H : Hp} : ∀ {n : Nat} {v : V} {d : D}, Dr K g H v d → shp n d = true → Dp K H v (toPy d)
  | _, _, _, .non, _ => .non
  | _, _, _, .bl b, _ => .bl b
  | _, _, _, .int i, _ => .int i
  | _, _, _, .str x, _ => .str x
  | 0, _, _, .tup s l, h => by cases h
  | n + 1, _, _, .tup s l, h => .tup s (DrL.dp (n := n) l h)
  | 0, _, _, .lst s l, h => by cases h
  | n + 1, _, _, .lst s l, h => .lst (.of s) (DrL.dp (n := n) l h)
  | n, _, _, .obj s l, h => by cases n <;> cases h
  | n, _, _, .sto s, h => by cases n <;> cases h
theorem DrL.dp {K : PySem.W.Frag} {g : Option Rg} {H : Hp} : ∀ {n : Nat} {v : List V} {d : List D}, DrL K g H v d → shpL n d = true → DpAll K H v (toPyL d)
  | _, _, _, .nil, _ => .nil
  | n, _, _, .cons a b, h => by
    rw [shpL, Bool.and_eq_true] at h
    exact .cons (Dr.dp (n := n) a h.1) (DrL.dp (n := n) b h.2)
end
theorem Dp.monoP {K : PySem.W.Frag} {H H' : Hp} (e : ∀ a o, H a = some o → H' a = some o) {g : Option Rg} {n : Nat} {v : V} {d : D} (h : Dr K g H v d) (s : shp n d = true) : Dp K H' v (toPy d) := (h.mono e).dp s
theorem hid_le {h : Addr → Prop} {H : Hp} : ∀ a o, hid h H a = some o → H a = some o := fun _ _ e => (hid_some e).2
/-! ### integers -/
/-- // by any divisor that the model's long way does not ask for -/
def CDivR (i j : Int) : Prop := j ≠ 0 ∧ Builtin.divisionGoesByPylong i j = false
theorem op_fdivR {X : Cx} : OpR X (binaryOp .FloorDiv) (rI CDivR fun i j => .int (i.fdiv j)) := opI fun _ _ _ _ _ _ _ hc q => floordiv_int hc.1 q (.inl hc.2)
theorem op_mulR {X : Cx} : OpR X (binaryOp .Mult) (rI IntMulOk fun i j => .int (i * j)) := opI fun _ _ _ _ _ _ _ hc q => mul_int q hc
def CPowR (i j : Int) : Prop := 0 ≤ j ∧ (Builtin.Int.intBits i : Int) * j ≤ 2 ^ 27
theorem op_powR {X : Cx} : OpR X (binaryOp .Pow) (rI CPowR fun i j => .int (i ^ j.toNat)) := opI fun _ _ _ _ _ _ _ hc q => pow_int hc.1 hc.2 q
/-! ### two operands -/
inductive Bop where
  | add | sub | mul | fdiv | mod | pow
def Bop.op : Bop → Operator
  | .add => .Add | .sub => .Sub | .mul => .Mult | .fdiv => .FloorDiv | .mod => .Mod | .pow => .Pow
def Bop.r (K : PySem.W.Frag) : Bop → R2
  | .add => fun x y H Q => rI0 (fun i j => .int (i + j)) x y H Q ∨ (∃ i j, x = .str i ∧ y = .str j ∧ i.length + j.length ≤ sizeLine ∧ Q (.str (i ++ j)) H) ∨ rCat x y H Q ∨ rCatA K x y H Q
  | .sub => rI0 fun i j => .int (i - j)
  | .mul => fun x y H Q => rI IntMulOk (fun i j => .int (i * j)) x y H Q ∨ rRep x y H Q
  | .fdiv => rI CDivR fun i j => .int (i.fdiv j)
  | .mod => rI (fun _ j => j ≠ 0) fun i j => .int (i.fmod j)
  | .pow => rI CPowR fun i j => .int (i ^ j.toNat)
theorem Bop.ok {X : Cx} : ∀ o : Bop, OpR X (binaryOp o.op) (o.r X.K)
  | .add => OpR.or op_add (OpR.or op_add_str (OpR.or op_cat op_catA))
  | .sub => op_sub
  | .mul => OpR.or op_mulR op_rep
  | .fdiv => op_fdivR
  | .mod => op_modN
  | .pow => op_powR
/-- what two operands give -/
def wBin : Bop → D → D → (D → Bool → Prop) → Prop
  | .add, .int i, .int j, P => P (.int (i + j)) false
  | .add, .str x, .str y, P => x.length + y.length ≤ sizeLine ∧ P (.str (x ++ y)) false
  | .add, .lst x, .lst y, P => x.length + y.length ≤ sizeLine ∧ P (.lst (x ++ y)) true
  | .add, .tup x, .tup y, P => x.length + y.length ≤ sizeLine ∧ P (.tup (x ++ y)) false
  | .sub, .int i, .int j, P => P (.int (i - j)) false
  | .mul, .int i, .int j, P => IntMulOk i j ∧ P (.int (i * j)) false
  | .mul, .lst x, .int k, P => -(2 ^ 63) ≤ k ∧ k < 2 ^ 63 ∧ x.length * k.toNat ≤ sizeLine ∧ P (.lst (List.replicate k.toNat x).flatten) true
  | .fdiv, .int i, .int j, P => CDivR i j ∧ P (.int (i.fdiv j)) false
  | .mod, .int i, .int j, P => j ≠ 0 ∧ P (.int (i.fmod j)) false
  | .pow, .int i, .int j, P => CPowR i j ∧ P (.int (i ^ j.toNat)) false
  | _, _, _, _ => False
theorem DrL.rep {K : PySem.W.Frag} {g : Option Rg} {H : Hp} {xs : List V} {ds : List D} (r : DrL K g H xs ds) : ∀ n : Nat, DrL K g H (List.replicate n xs).flatten (List.replicate n ds).flatten
  | 0 => .nil
  | n + 1 => by
    rw [List.replicate_succ, List.replicate_succ, List.flatten_cons, List.flatten_cons]
    exact r.append (DrL.rep r n)
theorem DrL.nil_iff {K : PySem.W.Frag} {g : Option Rg} {H : Hp} {xs : List V} {ds : List D} (r : DrL K g H xs ds) : xs = [] ↔ ds = [] := by cases r <;> simp
section
variable {G : Gm} {sc : Scope} {R : Exn → Prop} {ρ : Rho} {h : Addr → Prop} {σ : L2.St} {H H1 H2 : Hp} {P P' : D → Bool → Prop} {e a b c : Expr} {es : List Expr} {pos : Pos}
theorem wBin_ok {o : Bop} {x y : V} {d1 d2 : D} {Q : VK} (en : Ent G h H) (r1 : Dr G.X.K G.g (hid h H) x d1) (r2 : Dr G.X.K G.g (hid h H) y d2) (w : wBin o d1 d2 P) (f : ∀ v H', EQ G h H P v H' → Q v H') : o.r G.X.K x y H Q := by
  cases r1 with
  | int i =>
    cases r2 with
    | int j =>
      cases o with
      | add => exact .inl ⟨i, j, rfl, rfl, f _ _ (EQ.flat (.int _) w)⟩
      | sub => exact ⟨i, j, rfl, rfl, f _ _ (EQ.flat (.int _) w)⟩
      | mul => exact .inl ⟨i, j, rfl, rfl, w.1, f _ _ (EQ.flat (.int _) w.2)⟩
      | fdiv => exact ⟨i, j, rfl, rfl, w.1, f _ _ (EQ.flat (.int _) w.2)⟩
      | mod => exact ⟨i, j, rfl, rfl, w.1, f _ _ (EQ.flat (.int _) w.2)⟩
      | pow => exact ⟨i, j, rfl, rfl, w.1, f _ _ (EQ.flat (.int _) w.2)⟩
    | _ => cases o <;> exact w.elim
  | str i =>
    cases r2 with
    | str j =>
      cases o with
      | add => exact .inr (.inl ⟨i, j, rfl, rfl, w.1, f _ _ (EQ.flat (.str _) w.2)⟩)
      | _ => exact w.elim
    | _ => cases o <;> exact w.elim
  | lst s1 l1 =>
    rename_i a xs ds
    cases r2 with
    | lst s2 l2 =>
      rename_i b ys es
      cases o with
      | add =>
        refine .inr (.inr (.inl ⟨a, b, xs, ys, rfl, rfl, hid_le _ _ s1, hid_le _ _ s2, ?_, fun p n => f _ _ (EQ.newL en n (l1.append l2) w.2)⟩))
        rw [l1.length, l2.length]; exact w.1
      | _ => exact w.elim
    | int k =>
      cases o with
      | mul =>
        obtain ⟨w1, w2, w3, w4⟩ := w
        refine .inr ⟨a, k, xs, rfl, rfl, hid_le _ _ s1, w1, w2, ?_, fun p n => f _ _ (EQ.newL en n (l1.rep _) w4)⟩
        rw [l1.length]; exact w3
      | _ => exact w.elim
    | _ => cases o <;> exact w.elim
  | tup s1 l1 =>
    rename_i a xs ds
    cases r2 with
    | tup s2 l2 =>
      rename_i b ys es
      cases o with
      | add =>
        obtain ⟨w1, w2⟩ := w
        refine .inr (.inr (.inr ⟨a, b, xs, ys, rfl, rfl, sqT_mono hid_le s1, sqT_mono hid_le s2, ?_, fun q => ?_, fun q1 q2 => ?_, fun q1 q2 p n => f _ _ (EQ.newT en n (l1.append l2) w2)⟩))
        · rw [l1.length, l2.length]; exact w1
        · have q' := l1.nil_iff.mp q
          subst q'
          exact f _ _ (EQ.flat (.tup s2 l2) w2)
        · have q' := l2.nil_iff.mp q2
          subst q'
          rw [List.append_nil] at w2
          exact f _ _ (EQ.flat (.tup s1 l1) w2)
      | _ => exact w.elim
    | _ => cases o <;> exact w.elim
  | _ => cases o <;> exact w.elim
theorem we_bin {o : Bop} (ha : WE G a ρ fun d1 _ => WE G b ρ fun d2 _ => wBin o d1 d2 P) : WE G (.BinOp a o.op b pos) ρ P := fun h σ H S =>
  Ev.of (pe_op o.ok pe_self pe_self) ((ha h σ H S).mono fun x H1 ⟨x1, d1, _, r1, _, p1⟩ => (p1 h σ H1 (S.ext x1)).mono fun y H2 ⟨x2, d2, _, r2, _, p2⟩ =>
    wBin_ok ((S.ext x1).ext x2).ent (r1.mono ((S.ext x1).ent.mono x2)) r2 p2 fun v H' q => EQ.after S.ent (x1.trans x2) q)
end
end Pd
end
section
set_option Elab.async false
set_option linter.all false
set_option maxRecDepth 100000
set_option maxHeartbeats 4000000
/-! ## comparisons, tests, displays, subscripts -/
namespace Pd
open PySem PySem.Spec PyProof.Rows L2
inductive Cop where
  | lt | le | gt | ge | eq | ne | isn | isnn | inn | nin
def Cop.op : Cop → CmpOp
  | .lt => .Lt | .le => .LtE | .gt => .Gt | .ge => .GtE | .eq => .Eq | .ne => .NotEq | .isn => .Is | .isnn => .IsNot | .inn => .In | .nin => .NotIn
def strLt (x y : Str) : Bool := decide (x.cps.toList < y.cps.toList)
def Cop.r (K : PySem.W.Frag) : Cop → R2
  | .lt => fun x y H Q => rI0 (fun i j => .bl (decide (i < j))) x y H Q ∨ ∃ i j, x = .str i ∧ y = .str j ∧ Q (.bl (decide (i.cps.toList < j.cps.toList))) H
  | .le => fun x y H Q => rI0 (fun i j => .bl (decide (i ≤ j))) x y H Q ∨ ∃ i j, x = .str i ∧ y = .str j ∧ Q (.bl (!decide (j.cps.toList < i.cps.toList))) H
  | .gt => rI0 fun i j => .bl (decide (j < i))
  | .ge => rI0 fun i j => .bl (decide (j ≤ i))
  | .eq => rEqD K
  | .ne => rNeD K
  | .isn => fun x y H Q => y = .non ∧ Q (.bl (decide (x = .non))) H
  | .isnn => fun x y H Q => y = .non ∧ Q (.bl (!decide (x = .non))) H
  | .inn => rIn K false
  | .nin => rIn K true
theorem Cop.ok {X : Cx} (hu : X.A.units + 64 < cLine) : ∀ o : Cop, OpR X (compareOp o.op) (o.r X.K)
  | .lt => OpR.or op_lt op_lt_str
  | .le => OpR.or op_le op_le_str
  | .gt => op_gt
  | .ge => op_ge
  | .eq => op_eqD hu
  | .ne => op_neD hu
  | .isn => op_isN
  | .isnn => op_notN
  | .inn => op_in_seq
  | .nin => op_notIn_seq
def isNon : D → Bool
  | .non => true | _ => false
/-- flat data, and x among them -/
def flatD : D → Bool
  | .non => true | .bl _ => true | .int _ => true | .str _ => true | _ => false
def inD (x : D) (l : List D) : Bool := l.any fun y => deq y x
/-- two data compared -/
def wCmp : Cop → D → D → (Bool → Prop) → Prop
  | .lt, .int i, .int j, P => P (decide (i < j))
  | .lt, .str i, .str j, P => P (strLt i j)
  | .le, .int i, .int j, P => P (decide (i ≤ j))
  | .le, .str i, .str j, P => P (!strLt j i)
  | .gt, .int i, .int j, P => P (decide (j < i))
  | .ge, .int i, .int j, P => P (decide (j ≤ i))
  | .eq, a, b, P => shp 12 a = true ∧ shp 12 b = true ∧ P (deq a b)
  | .ne, a, b, P => shp 12 a = true ∧ shp 12 b = true ∧ P (!deq a b)
  | .isn, a, .non, P => P (isNon a)
  | .isnn, a, .non, P => P (!isNon a)
  | .inn, x, .lst l, P => flatD x = true ∧ l.all flatD = true ∧ P (inD x l)
  | .inn, x, .tup l, P => flatD x = true ∧ l.all flatD = true ∧ P (inD x l)
  | .nin, x, .lst l, P => flatD x = true ∧ l.all flatD = true ∧ P (!inD x l)
  | .nin, x, .tup l, P => flatD x = true ∧ l.all flatD = true ∧ P (!inD x l)
  | _, _, _, _ => False
theorem Dr.non_iff {K : PySem.W.Frag} {g : Option Rg} {H : Hp} {v : V} {d : D} (r : Dr K g H v d) : decide (v = .non) = isNon d := by cases r <;> rfl
theorem Dr.flat {K : PySem.W.Frag} {g : Option Rg} {H : Hp} {v : V} {d : D} (r : Dr K g H v d) (f : flatD d = true) : flatV v = true := by cases r <;> first | rfl | (cases f; done)
theorem Dr.eqv {K : PySem.W.Frag} {g : Option Rg} {H H' : Hp} {v u : V} {d e : D} (r : Dr K g H v d) (q : Dr K g H' u e) (f : flatD d = true) (f' : flatD e = true) : eqV v u = deq d e := by
  cases r <;> (first | (cases f; done) | skip) <;> cases q <;> first | (cases f'; done) | rfl | (simp [eqV, deq]; done)
theorem DrL.flat {K : PySem.W.Frag} {g : Option Rg} {H : Hp} : ∀ {v : List V} {d : List D}, DrL K g H v d → d.all flatD = true → v.all flatV = true
  | _, _, .nil, _ => rfl
  | _, _, .cons r t, f => by
    rw [List.all_cons, Bool.and_eq_true] at f
    rw [List.all_cons, Dr.flat r f.1, DrL.flat t f.2]; rfl
theorem DrL.inv {K : PySem.W.Frag} {g : Option Rg} {H H' : Hp} {u : V} {e : D} (q : Dr K g H' u e) (fe : flatD e = true) : ∀ {v : List V} {d : List D}, DrL K g H v d → d.all flatD = true → inV u v = inD e d
  | _, _, .nil, _ => rfl
  | _, _, .cons r t, f => by
    rw [List.all_cons, Bool.and_eq_true] at f
    have ih := DrL.inv q fe t f.2
    unfold inV at ih ⊢
    unfold inD at ih ⊢
    rw [List.any_cons, List.any_cons, Dr.eqv r q f.1 fe, ih]
section
variable {G : Gm} {sc : Scope} {R : Exn → Prop} {ρ : Rho} {h : Addr → Prop} {σ : L2.St} {H H1 H2 : Hp} {P P' : D → Bool → Prop} {B : Bool → Prop} {e a b c : Expr} {es : List Expr} {pos : Pos}
theorem wCmp_ok {o : Cop} {x y : V} {d1 d2 : D} {Q : VK} (en : Ent G h H) (r1 : Dr G.X.K G.g (hid h H) x d1) (r2 : Dr G.X.K G.g (hid h H) y d2) (w : wCmp o d1 d2 B) (f : ∀ k, B k → Q (.bl k) H) : o.r G.X.K x y H Q := by
  cases o with
  | eq => exact ⟨_, _, Dp.monoP hid_le r1 w.1, Dp.monoP hid_le r2 w.2.1, shp_shaped (by decide) w.1, shp_shaped (by decide) w.2.1, f _ (by rw [deq_py _ _ _ _ w.1 w.2.1]; exact w.2.2)⟩
  | ne => exact ⟨_, _, Dp.monoP hid_le r1 w.1, Dp.monoP hid_le r2 w.2.1, shp_shaped (by decide) w.1, shp_shaped (by decide) w.2.1, f _ (by rw [deq_py _ _ _ _ w.1 w.2.1]; exact w.2.2)⟩
  | isn =>
    cases r2 with
    | non => exact ⟨rfl, f _ (by rw [r1.non_iff]; exact w)⟩
    | _ => exact w.elim
  | isnn =>
    cases r2 with
    | non => exact ⟨rfl, f _ (by rw [r1.non_iff]; exact w)⟩
    | _ => exact w.elim
  | lt =>
    cases r1 with
    | int i =>
      cases r2 with
      | int j => exact .inl ⟨i, j, rfl, rfl, f _ w⟩
      | _ => exact w.elim
    | str i =>
      cases r2 with
      | str j => exact .inr ⟨i, j, rfl, rfl, f _ w⟩
      | _ => exact w.elim
    | _ => exact w.elim
  | le =>
    cases r1 with
    | int i =>
      cases r2 with
      | int j => exact .inl ⟨i, j, rfl, rfl, f _ w⟩
      | _ => exact w.elim
    | str i =>
      cases r2 with
      | str j => exact .inr ⟨i, j, rfl, rfl, f _ w⟩
      | _ => exact w.elim
    | _ => exact w.elim
  | gt =>
    cases r1 with
    | int i =>
      cases r2 with
      | int j => exact ⟨i, j, rfl, rfl, f _ w⟩
      | _ => exact w.elim
    | _ => exact w.elim
  | ge =>
    cases r1 with
    | int i =>
      cases r2 with
      | int j => exact ⟨i, j, rfl, rfl, f _ w⟩
      | _ => exact w.elim
    | _ => exact w.elim
  | inn =>
    cases r2 with
    | lst s l => exact ⟨_, _, rfl, .inl (.of (hid_le _ _ s)), r1.flat w.1, l.flat w.2.1, f _ (by rw [DrL.inv r1 w.1 l w.2.1]; exact w.2.2)⟩
    | tup s l => exact ⟨_, _, rfl, .inr (sqT_mono hid_le s), r1.flat w.1, l.flat w.2.1, f _ (by rw [DrL.inv r1 w.1 l w.2.1]; exact w.2.2)⟩
    | _ => exact w.elim
  | nin =>
    cases r2 with
    | lst s l => exact ⟨_, _, rfl, .inl (.of (hid_le _ _ s)), r1.flat w.1, l.flat w.2.1, f _ (by rw [if_pos rfl, DrL.inv r1 w.1 l w.2.1]; exact w.2.2)⟩
    | tup s l => exact ⟨_, _, rfl, .inr (sqT_mono hid_le s), r1.flat w.1, l.flat w.2.1, f _ (by rw [if_pos rfl, DrL.inv r1 w.1 l w.2.1]; exact w.2.2)⟩
    | _ => exact w.elim
/-- a display that a comparison by in would fold is none -/
theorem we_cmp {o : Cop} (ok : GOk G sc R) (hm : behindInMarks o.op b = false) (ha : WE G a ρ fun d1 _ => WE G b ρ fun d2 _ => wCmp o d1 d2 fun k => P (.bl k) false) : WE G (.Compare a [o.op] [b] pos) ρ P := fun h σ H S =>
  Ev.of (pe_cmpR (o.ok ok.room.units) pe_self pe_self hm) ((ha h σ H S).mono fun x H1 ⟨x1, d1, _, r1, _, p1⟩ => (p1 h σ H1 (S.ext x1)).mono fun y H2 ⟨x2, d2, _, r2, _, p2⟩ =>
    wCmp_ok ((S.ext x1).ext x2).ent (r1.mono ((S.ext x1).ent.mono x2)) r2 p2 fun k q => EQ.after S.ent (x1.trans x2) (EQ.flat (.bl k) q))
theorem wt_cmp {o : Cop} (ok : GOk G sc R) (hm : behindInMarks o.op b = false) (ha : WE G a ρ fun d1 _ => WE G b ρ fun d2 _ => wCmp o d1 d2 B) : WT G (.Compare a [o.op] [b] pos) ρ B := fun h σ H S =>
  Tv.of (pt_cmpR (o.ok ok.room.units) pe_self pe_self hm) ((ha h σ H S).mono fun x H1 ⟨x1, d1, _, r1, _, p1⟩ => (p1 h σ H1 (S.ext x1)).mono fun y H2 ⟨x2, d2, _, r2, _, p2⟩ =>
    wCmp_ok ((S.ext x1).ext x2).ent (r1.mono ((S.ext x1).ent.mono x2)) r2 p2 fun k q => ⟨k, rfl, x1.trans x2, q⟩)
/-- a < b < c -/
theorem we_chain {o o' : Cop} (ok : GOk G sc R) (hm : behindInMarks o.op b = false) (hm' : behindInMarks o'.op c = false)
    (hp : ∀ {X : Cx} {r r' : R2} {ta tb tc : TE}, OpR X (compareOp o.op) r → OpR X (compareOp o'.op) r' → PE X a ta → PE X b tb → PE X c tc → PE X (.Compare a [o.op, o'.op] [b, c] pos) (tChain r r' ta tb tc))
    (ha : WE G a ρ fun d1 _ => WE G b ρ fun d2 _ => wCmp o d1 d2 fun k => if k = true then WE G c ρ fun d3 _ => wCmp o' d2 d3 fun k' => P (.bl k') false else P (.bl false) false) : WE G (.Compare a [o.op, o'.op] [b, c] pos) ρ P := fun h σ H S =>
  Ev.of (hp (o.ok ok.room.units) (o'.ok ok.room.units) pe_self pe_self pe_self) ((ha h σ H S).mono fun x H1 ⟨x1, d1, _, r1, _, p1⟩ => (p1 h σ H1 (S.ext x1)).mono fun y H2 ⟨x2, d2, _, r2, _, p2⟩ =>
    wCmp_ok ((S.ext x1).ext x2).ent (r1.mono ((S.ext x1).ent.mono x2)) r2 p2 fun k q => ⟨k, rfl, by
      cases k with
      | false =>
        rw [if_neg Bool.false_ne_true] at q ⊢
        exact EQ.after S.ent (x1.trans x2) (EQ.flat (.bl _) q)
      | true =>
        rw [if_pos rfl] at q ⊢
        exact (q h σ H2 ((S.ext x1).ext x2)).mono fun z H3 ⟨x3, d3, _, r3, _, p3⟩ => wCmp_ok (((S.ext x1).ext x2).ext x3).ent (r2.mono (((S.ext x1).ext x2).ent.mono x3)) r3 p3 fun k' q' =>
          EQ.after S.ent ((x1.trans x2).trans x3) (EQ.flat (.bl k') q')⟩)
/-! and, or, not -/
theorem ww_and1 (ha : WT G a ρ B) : WW G (.BoolOp .And [a] pos) ρ B := fun h σ H S => Wv.of (pw_and1 pt_self) (ha h σ H S)
theorem ww_or1 (ha : WT G a ρ B) : WW G (.BoolOp .Or [a] pos) ρ B := fun h σ H S => Wv.of (pw_or1 pt_self) (ha h σ H S)
theorem ww_and {rest : List Expr} (ha : WT G a ρ fun k => if k = true then WW G (.BoolOp .And (b :: rest) pos) ρ B else B false) : WW G (.BoolOp .And (a :: b :: rest) pos) ρ B := fun h σ H S =>
  Wv.of (pw_and pt_self pw_self) ((ha h σ H S).mono fun k H1 ⟨x1, q⟩ => by
    cases k with
    | false =>
      rw [if_neg Bool.false_ne_true] at q ⊢
      exact ⟨x1, q⟩
    | true =>
      rw [if_pos rfl] at q ⊢
      exact (q h σ H1 (S.ext x1)).mono fun k' H2 ⟨x2, p⟩ => ⟨x1.trans x2, p⟩)
theorem ww_or {rest : List Expr} (ha : WT G a ρ fun k => if k = true then B true else WW G (.BoolOp .Or (b :: rest) pos) ρ B) : WW G (.BoolOp .Or (a :: b :: rest) pos) ρ B := fun h σ H S =>
  Wv.of (pw_or pt_self pw_self) ((ha h σ H S).mono fun k H1 ⟨x1, q⟩ => by
    cases k with
    | true =>
      rw [if_pos rfl] at q ⊢
      exact ⟨x1, q⟩
    | false =>
      rw [if_neg Bool.false_ne_true] at q ⊢
      exact (q h σ H1 (S.ext x1)).mono fun k' H2 ⟨x2, p⟩ => ⟨x1.trans x2, p⟩)
theorem WW.wt (hw : WW G e ρ B) : WT G e ρ B := fun h σ H S => hw h σ H S _
theorem wt_not (ha : WT G a ρ fun k => B (!k)) : WT G (.UnaryOp .Not a pos) ρ B := fun h σ H S => Tv.of (pt_not pt_self) (ha h σ H S)
/-- truth of data -/
def truth : D → (Bool → Prop) → Prop
  | .bl b, P => P b
  | .non, P => P false
  | .int i, P => P (i != 0)
  | .lst l, P => P (!l.isEmpty)
  | .tup l, P => P (!l.isEmpty)
  | _, _ => False
theorem DrL.emp {K : PySem.W.Frag} {g : Option Rg} {H : Hp} {v : List V} {d : List D} (r : DrL K g H v d) : v.isEmpty = d.isEmpty := by cases r <;> rfl
theorem wt_truth (he : ∀ whole, isTrue e G.X.env whole = (do let v ← whole; standAt e.pos; holding [v] (truthy v))) (ha : WE G e ρ fun d _ => truth d B) : WT G e ρ B := fun h σ H S =>
  Tv.of (pt_truth pe_self he) ((ha h σ H S).mono fun x H1 ⟨x1, d, _, r, _, p⟩ => by
    cases r with
    | non => exact ⟨false, rfl, x1, p⟩
    | bl b => exact ⟨b, rfl, x1, p⟩
    | int i => exact ⟨_, rfl, x1, p⟩
    | lst s l => exact ⟨_, .inl ⟨_, .of (hid_le _ _ s), rfl⟩, x1, by rw [DrL.emp l]; exact p⟩
    | tup s l => exact ⟨_, .inr (.inl ⟨_, sqT_mono hid_le s, rfl⟩), x1, by rw [DrL.emp l]; exact p⟩
    | _ => exact p.elim)
theorem we_not (ha : WE G a ρ fun d _ => ∃ k, d = .bl k ∧ P (.bl (!k)) false) : WE G (.UnaryOp .Not a pos) ρ P := fun h σ H S =>
  Ev.of (pe_not pe_self) ((ha h σ H S).mono fun x H1 ⟨x1, d, _, r, _, k, e, p⟩ => by
    subst e
    cases r
    exact ⟨k, rfl, EQ.after S.ent x1 (EQ.flat (.bl _) p)⟩)
theorem we_and1 (ha : WE G a ρ P) : WE G (.BoolOp .And [a] pos) ρ P := fun h σ H S => Ev.of (pe_one pe_self) (ha h σ H S)
theorem we_or1 (ha : WE G a ρ P) : WE G (.BoolOp .Or [a] pos) ρ P := fun h σ H S => Ev.of (pe_one pe_self) (ha h σ H S)
theorem we_and {rest : List Expr} (ha : WE G a ρ fun d _ => ∃ k, d = .bl k ∧ if k = true then WE G (.BoolOp .And (b :: rest) pos) ρ P else P (.bl false) false) : WE G (.BoolOp .And (a :: b :: rest) pos) ρ P := fun h σ H S =>
  Ev.of (pe_and pe_self pe_self) ((ha h σ H S).mono fun x H1 ⟨x1, d, _, r, _, k, e, p⟩ => by
    subst e
    cases r
    refine ⟨k, rfl, ?_⟩
    cases k with
    | false =>
      rw [if_neg Bool.false_ne_true] at p ⊢
      exact EQ.after S.ent x1 (EQ.flat (.bl _) p)
    | true =>
      rw [if_pos rfl] at p ⊢
      exact (p h σ H1 (S.ext x1)).mono fun y H2 q => EQ.after S.ent x1 q)
theorem we_or {rest : List Expr} (ha : WE G a ρ fun d _ => ∃ k, d = .bl k ∧ if k = true then P (.bl true) false else WE G (.BoolOp .Or (b :: rest) pos) ρ P) : WE G (.BoolOp .Or (a :: b :: rest) pos) ρ P := fun h σ H S =>
  Ev.of (pe_or pe_self pe_self) ((ha h σ H S).mono fun x H1 ⟨x1, d, _, r, _, k, e, p⟩ => by
    subst e
    cases r
    refine ⟨k, rfl, ?_⟩
    cases k with
    | true =>
      rw [if_pos rfl] at p ⊢
      exact EQ.after S.ent x1 (EQ.flat (.bl _) p)
    | false =>
      rw [if_neg Bool.false_ne_true] at p ⊢
      exact (p h σ H1 (S.ext x1)).mono fun y H2 q => EQ.after S.ent x1 q)
theorem we_ife (hc : WT G c ρ fun k => if k = true then WE G a ρ P else WE G b ρ P) : WE G (.IfExp c a b pos) ρ P := fun h σ H S =>
  Ev.of (pe_ifExp pt_self pe_self pe_self) ((hc h σ H S).mono fun k H1 ⟨x1, q⟩ => by
    cases k with
    | true =>
      rw [if_pos rfl] at q ⊢
      exact (q h σ H1 (S.ext x1)).mono fun y H2 q => EQ.after S.ent x1 q
    | false =>
      rw [if_neg Bool.false_ne_true] at q ⊢
      exact (q h σ H1 (S.ext x1)).mono fun y H2 q => EQ.after S.ent x1 q)
theorem we_neg (ha : WE G a ρ fun d _ => ∃ i, d = .int i ∧ P (.int (-i)) false) : WE G (.UnaryOp .USub a pos) ρ P := fun h σ H S =>
  Ev.of (pe_un un_neg pe_self) ((ha h σ H S).mono fun x H1 ⟨x1, d, _, r, _, k, e, p⟩ => by
    subst e
    cases r
    exact ⟨k, rfl, EQ.after S.ent x1 (EQ.flat (.int _) p)⟩)
/-! argument lists, displays -/
theorem wa_nil {B : List D → Prop} (p : B []) : WA G [] ρ B := fun h σ H S => Av.of pa_nil ⟨.refl H, [], .nil, p⟩
theorem wa_cons {B : List D → Prop} (hs : starEach (e :: es) G.X.env = (false, eval e G.X.env) :: starEach es G.X.env) (ha : WE G e ρ fun d _ => WA G es ρ fun ds => B (d :: ds)) : WA G (e :: es) ρ B := fun h σ H S =>
  Av.of (pa_cons pe_self pa_self hs) ((ha h σ H S).mono fun x H1 ⟨x1, d, _, r, _, p⟩ => (p h σ H1 (S.ext x1)).mono fun xs H2 ⟨x2, ds, rs, q⟩ => ⟨x1.trans x2, d :: ds, .cons (r.mono ((S.ext x1).ent.mono x2)) rs, q⟩)
theorem we_tup {k : Nat} (ha : WA G es ρ fun ds => ds.length ≤ sizeLine ∧ P (.tup ds) false) : WE G (.Tuple es k pos) ρ P := fun h σ H S =>
  Ev.of (pe_tup pa_self) ((ha h σ H S).mono fun xs H1 ⟨x1, ds, r, p⟩ => ⟨by rw [r.length]; exact p.1, fun q n => EQ.after S.ent x1 (EQ.newT (S.ext x1).ent n r p.2)⟩)
theorem we_lst (ha : WA G es ρ fun ds => ds.length ≤ sizeLine ∧ P (.lst ds) true) : WE G (.List es pos) ρ P := fun h σ H S =>
  Ev.of (pe_lst pa_self) ((ha h σ H S).mono fun xs H1 ⟨x1, ds, r, p⟩ => ⟨by rw [r.length]; exact p.1, fun q n => EQ.after S.ent x1 (EQ.newL (S.ext x1).ent n r p.2)⟩)
/-! items, slices -/
/-- a[i] -/
def wIx : D → D → (D → Bool → Prop) → Prop
  | .lst l, .int i, P => ∃ d, atI l i = some d ∧ P d false
  | .tup l, .int i, P => ∃ d, atI l i = some d ∧ P d false
  | .str z, .int i, P => z.length ≤ sizeLine ∧ ∃ c, atI z.cps.toList i = some c ∧ P (.str ⟨#[c]⟩) false
  | _, _, _ => False
theorem DrL.atI {K : PySem.W.Frag} {g : Option Rg} {H : Hp} {v : List V} {d : List D} {i : Int} {x : D} (r : DrL K g H v d) (e : atI d i = some x) : ∃ y, L2.atI v i = some y ∧ Dr K g H y x := by
  unfold L2.atI at e ⊢
  rw [r.length]
  cases q : ixN d.length i with
  | none => rw [q] at e; cases e
  | some j =>
    rw [q] at e
    exact DrL.get (i := j) r e
theorem we_ix (hs : PlainIx b) (ha : WE G a ρ fun d1 _ => WE G b ρ fun d2 _ => wIx d1 d2 P) : WE G (.Subscript a b pos) ρ P := fun h σ H S =>
  Ev.of (pe_ix ix_seq pe_self pe_self hs) ((ha h σ H S).mono fun x H1 ⟨x1, d1, _, r1, _, p1⟩ => (p1 h σ H1 (S.ext x1)).mono fun y H2 ⟨x2, d2, _, r2, _, p2⟩ => by
    have q1 := r1.mono ((S.ext x1).ent.mono x2)
    cases q1 with
    | lst s l =>
      cases r2 with
      | int i =>
        obtain ⟨d, e, p⟩ := p2
        obtain ⟨y, ey, ry⟩ := l.atI e
        exact .inl ⟨_, _, i, y, rfl, rfl, .of (hid_le _ _ s), ey, EQ.after S.ent (x1.trans x2) (EQ.flat ry p)⟩
      | _ => exact p2.elim
    | tup s l =>
      cases r2 with
      | int i =>
        obtain ⟨d, e, p⟩ := p2
        obtain ⟨y, ey, ry⟩ := l.atI e
        exact .inr (.inl ⟨_, _, i, y, rfl, rfl, sqT_mono hid_le s, ey, EQ.after S.ent (x1.trans x2) (EQ.flat ry p)⟩)
      | _ => exact p2.elim
    | str z =>
      cases r2 with
      | int i =>
        obtain ⟨z1, c, e, p⟩ := p2
        exact .inr (.inr ⟨z, i, c, rfl, rfl, z1, e, EQ.after S.ent (x1.trans x2) (EQ.flat (.str _) p)⟩)
      | _ => exact p2.elim
    | _ => exact p2.elim)
end
end Pd
end
section
set_option Elab.async false
set_option linter.all false
set_option maxRecDepth 100000
set_option maxHeartbeats 4000000
/-! ## slices, calls, built-ins -/
namespace Pd
open PySem PySem.Spec PyProof.Rows L2
/-! slices -/
def cutD {α : Type} (xs : List α) (lo hi : Option Int) : List α := (xs.drop (HT.sIx xs.length 0 lo)).take (HT.sIx xs.length xs.length hi - HT.sIx xs.length 0 lo)
theorem DrL.cut {K : PySem.W.Frag} {g : Option Rg} {H : Hp} {v : List V} {d : List D} (r : DrL K g H v d) (lo hi : Option Int) : DrL K g H (cutV v lo hi) (cutD d lo hi) := by
  unfold cutV cutD
  rw [r.length]
  exact (r.drop _).take _
/-- a[lo:hi] -/
def wSl : D → Option Int → Option Int → (D → Bool → Prop) → Prop
  | .lst l, lo, hi, P => P (.lst (cutD l lo hi)) true
  | .tup l, lo, hi, P => P (.tup (cutD l lo hi)) false
  | .str z, lo, hi, P => z.length ≤ sizeLine ∧ P (.str (cutS z lo hi)) false
  | _, _, _, _ => False
def Ov (X : Cx) (o : Option Expr) : TO := fun σ H Q => match o with
  | none => Q none H
  | some e => Ev X e σ H fun x H1 => ∃ i, x = .int i ∧ Q (some i) H1
theorem po_self {X : Cx} {o : Option Expr} : PO X o (Ov X o) := by
  cases o with
  | none => exact po_none
  | some e => exact po_some pe_self
def WO (G : Gm) (o : Option Expr) (ρ : Rho) (P : Option Int → Prop) : Prop := match o with
  | none => P none
  | some e => WE G e ρ fun d _ => ∃ i, d = .int i ∧ P (some i)
section
variable {G : Gm} {sc : Scope} {R : Exn → Prop} {ρ : Rho} {h : Addr → Prop} {σ : L2.St} {H H1 H2 : Hp} {P P' : D → Bool → Prop} {B : Bool → Prop} {e a b c : Expr} {es : List Expr} {pos : Pos}
theorem WO.at_ {o : Option Expr} {Q : Option Int → Prop} (w : WO G o ρ Q) (S : StOk G h σ ρ H) {Q' : Option Int → Hp → Prop} (f : ∀ i H', Ext G.g H H' → Q i → Q' i H') : Ov G.X o σ H Q' := by
  cases o with
  | none => exact f none H (.refl H) w
  | some e =>
    refine (w h σ H S).mono fun x H1 ⟨x1, d, _, r, _, i, ed, p⟩ => ?_
    subst ed
    cases r
    exact ⟨i, rfl, f _ _ x1 p⟩
theorem cutD_all {α : Type} {xs : List α} {lo hi : Option Int} (e1 : HT.sIx xs.length 0 lo = 0) (e2 : HT.sIx xs.length xs.length hi = xs.length) : cutD xs lo hi = xs := by
  unfold cutD
  rw [e1, e2, List.drop_zero, Nat.sub_zero, List.take_length]
theorem we_sl {lo hi : Option Expr} {p2 : Pos} (ha : WE G a ρ fun d _ => WO G lo ρ fun l => WO G hi ρ fun u => wSl d l u P) : WE G (.Subscript a (.Slice lo hi none p2) pos) ρ P := fun h σ H S =>
  Ev.of (pe_slice (SlR.or sl_list (SlR.or sl_tupA sl_str)) pe_self po_self po_self) ((ha h σ H S).mono fun x H1 ⟨x1, d, _, r, _, p⟩ => WO.at_ p (S.ext x1) fun l H2 x2 p => WO.at_ p ((S.ext x1).ext x2) fun u H3 x3 p => by
    have S3 := ((S.ext x1).ext x2).ext x3
    have r3 := (r.mono ((S.ext x1).ent.mono x2)).mono (((S.ext x1).ext x2).ent.mono x3)
    have fin : ∀ v H', EQ G h H3 P v H' → EQ G h H P v H' := fun v H' q => EQ.after S.ent ((x1.trans x2).trans x3) q
    cases r3 with
    | lst s q => exact .inl ⟨_, _, rfl, .of (hid_le _ _ s), fun p' n => fin _ _ (EQ.newL S3.ent n (q.cut l u) p)⟩
    | tup s q =>
      refine .inr (.inl ⟨_, _, rfl, sqT_mono hid_le s, fun ⟨e1, e2⟩ => ?_, fun _ p' n => fin _ _ (EQ.newT S3.ent n (q.cut l u) p)⟩)
      rw [q.length] at e1 e2
      have p : P (.tup (cutD _ l u)) false := p
      rw [cutD_all e1 e2] at p
      exact fin _ _ (EQ.flat (.tup s q) p)
    | str z => exact .inr (.inr ⟨z, rfl, p.1, fin _ _ (EQ.flat (.str _) p.2)⟩)
    | _ => exact p.elim)
/-! ### own defs -/
end
abbrev Spec := List D → (D → Bool → Prop) → (Exn → Prop) → Prop
/-- a def's promise over data -/
def spOf (K : PySem.W.Frag) (n : Nat) (s : Spec) : Sp := fun vs H Q E => ∃ (g : Option Rg) (h : Addr → Prop) (ds : List D) (P : D → Bool → Prop) (R : Exn → Prop), ds.length = n ∧ (∀ a, adr g a → h a) ∧ (∀ a, h a → ∃ o, H a = some o) ∧ rok g H ∧
  DrL K g (hid h H) vs ds ∧ s ds P R ∧ (∀ v H', (Ext g H H' ∧ ∃ d fr, Dr K g (hid h H') v d ∧ (fr = true → Fr K g h H H' v d) ∧ P d fr) → Q v H') ∧ (∀ cls dx H' e, Ext g H H' → ExnR K H' cls dx e → R e → E cls dx H')
/-- a callee: its name, its promise, its level, how many parameters, the defaults that the call leaves -/
structure Fn where
  x : Str
  sp : Spec
  lev : Nat
  ar : Nat
  dfl : List D := []
structure CalleeAt (X : Cx) (c : Fn) (f : Addr) (fd : FuncData) (ps : List Str) : Prop where
  ok : FnOk X.prog X.w X.K X.mg X.base (L2N.CX X.prog X.w) c.lev f fd ps (spOf X.K c.ar c.sp)
  bd : ∃ (ds : List Value) (dvs : List V), Binds X.K fd ps ds ∧ Vals dvs ds ∧ ∀ (g : Option Rg) (H : Hp), DrL X.K g H dvs c.dfl
def CalleeOk (X : Cx) (c : Fn) : Prop := ∃ (f : Addr) (fd : FuncData) (ps : List Str), X.mg c.x = some (.ref f) ∧ PySem.W.keepIn X.K (.ref f) = true ∧ CalleeAt X c f fd ps
section
variable {X : Cx} {CX : CXT} {k : Nat} {f : Addr} {fd : FuncData} {ps : List Str} {sp : Sp} {dvs : List V} {ds : List Value} {E : L2.St → XK} {x m : Str} {p pos apos : Pos} {e o : Expr} {es : List Expr} {ta : TE} {t : TA}
theorem run_fnD {pins : List (Addr × Obj)} {σ : L2.St} {H : Hp} {s : Shared} {Q : VK} {us : List Value} {vs : List V} (F : FnOk X.prog X.w X.K X.mg X.base CX k f fd ps sp) (hr : Room k X.A) (hb : Binds X.K fd ps ds) (hd : Vals dvs ds) (hx : PassesAt CX X σ (E σ))
    (I : Inv X pins σ H s) (r : Vals vs us) (h : sp (vs ++ dvs) H Q (E σ)) : wpAny (model X.prog X.w) X.A (call (.ref f) us) (EP X pins σ Q) X.xe s := by
  have r2 : Vals (vs ++ dvs) (us ++ ds) := r.append hd
  have hl : (us ++ ds).length = ps.length := by rw [← r2.length]; exact F.len _ _ _ _ h
  refine wpAny_call (codeAny_mono (F.run X.A X.stack s H ⟨us, []⟩ (us ++ ds) (vs ++ dvs) Q (E σ) hr I.env0 (hb s us I.kIn hl) r2 h) fun r s' hq => ?_)
  cases r with
  | error e => exact hx pins H s e s' I hq
  | ok fl =>
    cases fl with
    | ret u => exact I.after hq
    | next => exact False.elim hq
    | brk => exact False.elim hq
    | cont => exact False.elim hq
def tCallD (sp : Sp) (dvs : List V) (E : L2.St → XK) (t : TA) : TE := fun σ H Q => t σ H fun vs H1 => sp (vs ++ dvs) H1 Q (E σ)
theorem pe_callD (F : FnOk X.prog X.w X.K X.mg X.base CX k f fd ps sp) (hr : Room k X.A) (hg : Gl X x) (hm : X.mg x = some (.ref f)) (hk : PySem.W.keepIn X.K (.ref f) = true) (hb : Binds X.K fd ps ds) (hd : Vals dvs ds) (hx : ∀ σ, PassesAt CX X σ (E σ))
    (ha : PA X (e :: es) t) (hdb : (x == ("__debug__" : Str)) = false) (he : starEach (e :: es) X.env = (false, eval e X.env) :: starEach es X.env) (hpl : (backTo pos (starEach es X.env)).any (·.1) = false) :
    PE X (.Call (.Name x p) (e :: es) [] pos) (tCallD sp dvs E t) := by
  refine ⟨fun pins s σ H Q I h => ?_⟩
  refine wpAny_Call_Name_kw (ld_glob I hg hm ?_ hdb)
  refine PySem.W.callWith_K (h₀ := X.base) I.ok.mod.kin hk (thn (ha.run pos pins s σ H _ I h) fun us s1 ⟨vs, H1, I1, r, q⟩ => ⟨I1.kIn, ?_⟩) he hpl
  exact run_fnD F hr hb hd (hx σ) I1 r q
theorem pe_callD0 (F : FnOk X.prog X.w X.K X.mg X.base CX k f fd ps sp) (hr : Room k X.A) (hg : Gl X x) (hm : X.mg x = some (.ref f)) (hk : PySem.W.keepIn X.K (.ref f) = true) (hb : Binds X.K fd ps ds) (hd : Vals dvs ds) (hx : ∀ σ, PassesAt CX X σ (E σ))
    (hdb : (x == ("__debug__" : Str)) = false) : PE X (.Call (.Name x p) [] [] pos) (tCallD sp dvs E tNil) := by
  refine ⟨fun pins s σ H Q I h => ?_⟩
  refine wpAny_Call_Name_kw (ld_glob I hg hm ?_ hdb)
  exact PySem.W.callWith_K0 I.kIn hk (run_fnD (us := []) F hr hb hd (hx σ) I .nil h)
end
section
variable {G : Gm} {sc : Scope} {R : Exn → Prop} {ρ : Rho} {h : Addr → Prop} {σ : L2.St} {H H1 H2 : Hp} {P P' : D → Bool → Prop} {B : Bool → Prop} {e a b c : Expr} {es : List Expr} {pos : Pos}
theorem sp_at {cl : Fn} {K : PySem.W.Frag} {vs dvs : List V} {ds : List D} {Q : VK} {E : XK} (S : StOk G h σ ρ H) (hK : K = G.X.K) (r : DrL G.X.K G.g (hid h H) vs ds) (rd : ∀ (g : Option Rg) (H : Hp), DrL G.X.K g H dvs cl.dfl) (hl : (ds ++ cl.dfl).length = cl.ar)
    (w : cl.sp (ds ++ cl.dfl) P R) (f : ∀ v H', EQ G h H P v H' → Q v H') (fx : ∀ cls dx H' e, StOk G h σ ρ H' → ExnR G.X.K H' cls dx e → R e → E cls dx H') : spOf K cl.ar cl.sp (vs ++ dvs) H Q E := by
  subst hK
  exact ⟨G.g, h, _, P, R, hl, fun a z => S.ent.sub a (S.ent.reg a z), S.ent.trk, S.ent.ok, r.append (rd _ _), w, fun v H' q => f v H' q, fun cls dx H' e x q z => fx cls dx H' e (S.ext x) q z⟩
theorem we_call {cl : Fn} {p : Pos} (ok : GOk G sc R) (hx : sc.names.lookup cl.x = some .globalImplicit) (hc : CalleeOk G.X cl) (hl : cl.lev ≤ G.k) (hdb : (cl.x == ("__debug__" : Str)) = false)
    (he : starEach (e :: es) G.X.env = (false, eval e G.X.env) :: starEach es G.X.env) (hpl : (backTo pos (starEach es G.X.env)).any (·.1) = false)
    (ha : WA G (e :: es) ρ fun ds => (ds ++ cl.dfl).length = cl.ar ∧ cl.sp (ds ++ cl.dfl) P R) : WE G (.Call (.Name cl.x p) (e :: es) [] pos) ρ P := fun h σ H S => by
  obtain ⟨f, fd, ps, hm, hk, F, dvv, dvs, hb, hd, rd⟩ := hc
  refine Ev.of (pe_callD (E := fun σ cls dx H' => Wish G R cls dx σ H') F (ok.room.mono hl) (ok.sv.glb _ hx) hm hk hb hd (fun σ => L2N.passAt ok.tk σ) pa_self hdb he hpl) ((ha h σ H S).mono fun vs H1 ⟨x1, ds, r, hln, w⟩ => ?_)
  exact sp_at (S.ext x1) rfl r rd hln w (fun v H' q => EQ.after S.ent x1 q) fun cls dx H' e S' q z => ⟨h, ρ, e, S', q, z⟩
theorem we_call0 {cl : Fn} {p : Pos} (ok : GOk G sc R) (hx : sc.names.lookup cl.x = some .globalImplicit) (hc : CalleeOk G.X cl) (hl : cl.lev ≤ G.k) (hdb : (cl.x == ("__debug__" : Str)) = false)
    (ha : cl.dfl.length = cl.ar ∧ cl.sp cl.dfl P R) : WE G (.Call (.Name cl.x p) [] [] pos) ρ P := fun h σ H S => by
  obtain ⟨f, fd, ps, hm, hk, F, dvv, dvs, hb, hd, rd⟩ := hc
  exact Ev.of (pe_callD0 (E := fun σ cls dx H' => Wish G R cls dx σ H') F (ok.room.mono hl) (ok.sv.glb _ hx) hm hk hb hd (fun σ => L2N.passAt ok.tk σ) hdb)
    (sp_at (ds := []) (vs := []) S rfl .nil rd ha.1 ha.2 (fun v H' q => q) fun cls dx H' e S' q z => ⟨h, ρ, e, S', q, z⟩)
/-! ### built-ins -/
/-- what a built-in's rule gives over data -/
def BR (G : Gm) (r : List V → Hp → VK → Prop) (ds : List D) (P : D → Bool → Prop) : Prop := ∀ (h : Addr → Prop) (H : Hp) (vs : List V) (Q : VK), Ent G h H → DrL G.X.K G.g (hid h H) vs ds → (∀ v H', EQ G h H P v H' → Q v H') → r vs H Q
theorem we_callB {id : String} {x : Str} {r : List V → Hp → VK → Prop} {p : Pos} (ok : GOk G sc R) (hc : CallR G.X (.builtin id) r) (hx : sc.names.lookup x = some .globalImplicit) (hb : x ∈ BI) (hv : bootBuiltins x = some (.builtin id)) (hn : x ≠ "__name__") (hdb : (x == ("__debug__" : Str)) = false)
    (he : starEach (e :: es) G.X.env = (false, eval e G.X.env) :: starEach es G.X.env) (hpl : (backTo pos (starEach es G.X.env)).any (·.1) = false) (ha : WA G (e :: es) ρ fun ds => BR G r ds P) : WE G (.Call (.Name x p) (e :: es) [] pos) ρ P := fun h σ H S =>
  Ev.of (pe_callB hc (ok.sv.glb _ hx) (ok.bi _ hb) hv pa_self hn hdb he hpl) ((ha h σ H S).mono fun vs H1 ⟨x1, ds, q, w⟩ => w h H1 vs _ (S.ext x1).ent q fun v H' z => EQ.after S.ent x1 z)
theorem we_callTy {T : String} {x : Str} {r : List V → Hp → VK → Prop} {p : Pos} (ok : GOk G sc R) (hc : CallR G.X (.type T) r) (hx : sc.names.lookup x = some .globalImplicit) (hb : x ∈ BI) (hv : bootBuiltins x = some (.type T)) (hn : x ≠ "__name__") (hdb : (x == ("__debug__" : Str)) = false)
    (he : starEach (e :: es) G.X.env = (false, eval e G.X.env) :: starEach es G.X.env) (hpl : (backTo pos (starEach es G.X.env)).any (·.1) = false) (ha : WA G (e :: es) ρ fun ds => BR G r ds P) : WE G (.Call (.Name x p) (e :: es) [] pos) ρ P := fun h σ H S =>
  Ev.of (pe_callTy hc (ok.sv.glb _ hx) (ok.bi _ hb) hv pa_self hn hdb he hpl) ((ha h σ H S).mono fun vs H1 ⟨x1, ds, q, w⟩ => w h H1 vs _ (S.ext x1).ent q fun v H' z => EQ.after S.ent x1 z)
end
/-- the built-ins that are called by their names -/
inductive Bi where
  | len | abs | min2 | max2 | min1 | max1 | sum | all | any | int | tuple | list
def Bi.name : Bi → Str
  | .len => "len" | .abs => "abs" | .min2 => "min" | .max2 => "max" | .min1 => "min" | .max1 => "max" | .sum => "sum" | .all => "all" | .any => "any" | .int => "int" | .tuple => "tuple" | .list => "list"
def intsD : List D → Option (List Int)
  | [] => some []
  | .int i :: r => (intsD r).map (i :: ·)
  | _ => none
def bolsD : List D → Option (List Bool)
  | [] => some []
  | .bl i :: r => (bolsD r).map (i :: ·)
  | _ => none
theorem intsD_eq : ∀ {l : List D} {ns : List Int}, intsD l = some ns → l = ns.map D.int
  | [], ns, e => by
    have z : ([] : List Int) = ns := Option.some.inj e
    rw [← z]; rfl
  | .int i :: r, ns, e => by
    have e' : (intsD r).map (i :: ·) = some ns := e
    cases q : intsD r with
    | none => rw [q] at e'; cases e'
    | some ms =>
      rw [q] at e'
      have z : i :: ms = ns := Option.some.inj e'
      rw [← z, intsD_eq q]; rfl
  | .non :: _, _, e => by cases e
  | .bl _ :: _, _, e => by cases e
  | .str _ :: _, _, e => by cases e
  | .tup _ :: _, _, e => by cases e
  | .lst _ :: _, _, e => by cases e
  | .obj _ _ _ :: _, _, e => by cases e
  | .sto :: _, _, e => by cases e
theorem bolsD_eq : ∀ {l : List D} {ns : List Bool}, bolsD l = some ns → l = ns.map D.bl
  | [], ns, e => by
    have z : ([] : List Bool) = ns := Option.some.inj e
    rw [← z]; rfl
  | .bl i :: r, ns, e => by
    have e' : (bolsD r).map (i :: ·) = some ns := e
    cases q : bolsD r with
    | none => rw [q] at e'; cases e'
    | some ms =>
      rw [q] at e'
      have z : i :: ms = ns := Option.some.inj e'
      rw [← z, bolsD_eq q]; rfl
  | .non :: _, _, e => by cases e
  | .int _ :: _, _, e => by cases e
  | .str _ :: _, _, e => by cases e
  | .tup _ :: _, _, e => by cases e
  | .lst _ :: _, _, e => by cases e
  | .obj _ _ _ :: _, _, e => by cases e
  | .sto :: _, _, e => by cases e
theorem intsD_map (ns : List Int) : intsD (ns.map D.int) = some ns := by
  induction ns with
  | nil => rfl
  | cons n r ih =>
    show (intsD (r.map D.int)).map (n :: ·) = _
    rw [ih]; rfl
theorem bolsD_map (ns : List Bool) : bolsD (ns.map D.bl) = some ns := by
  induction ns with
  | nil => rfl
  | cons n r ih =>
    show (bolsD (r.map D.bl)).map (n :: ·) = _
    rw [ih]; rfl
theorem DrL.ints {K : PySem.W.Frag} {g : Option Rg} {H : Hp} : ∀ {ns : List Int} {v : List V}, DrL K g H v (ns.map D.int) → v = ns.map V.int
  | [], _, .nil => rfl
  | n :: r, _, .cons (.int _) t => by rw [DrL.ints (ns := r) t]; rfl
theorem DrL.bols {K : PySem.W.Frag} {g : Option Rg} {H : Hp} : ∀ {ns : List Bool} {v : List V}, DrL K g H v (ns.map D.bl) → v = ns.map V.bl
  | [], _, .nil => rfl
  | n :: r, _, .cons (.bl _) t => by rw [DrL.bols (ns := r) t]; rfl
/-- what a built-in gives over data -/
def wBi : Bi → List D → (D → Bool → Prop) → Prop
  | .len, [.lst l], P => P (.int l.length) false
  | .len, [.tup l], P => P (.int l.length) false
  | .len, [.str x], P => x.length ≤ sizeLine ∧ P (.int x.length) false
  | .abs, [.int i], P => P (.int (if i < 0 then -i else i)) false
  | .min2, [.int i, .int j], P => P (.int (if j < i then j else i)) false
  | .max2, [.int i, .int j], P => P (.int (if j > i then j else i)) false
  | .min1, [.lst l], P => ∃ ns, intsD l = some ns ∧ 0 < ns.length ∧ ∀ m, m ∈ ns → (∀ y, y ∈ ns → m ≤ y) → P (.int m) false
  | .max1, [.lst l], P => ∃ ns, intsD l = some ns ∧ 0 < ns.length ∧ ∀ m, m ∈ ns → (∀ y, y ∈ ns → y ≤ m) → P (.int m) false
  | .sum, [.lst l], P => ∃ ns, intsD l = some ns ∧ P (.int ns.sum) false
  | .sum, [.tup l], P => ∃ ns, intsD l = some ns ∧ P (.int ns.sum) false
  | .all, [.lst l], P => ∃ bs, bolsD l = some bs ∧ P (.bl (bs.all id)) false
  | .any, [.lst l], P => ∃ bs, bolsD l = some bs ∧ P (.bl (bs.any id)) false
  | .int, [.int i], P => P (.int i) false
  | .int, [.bl k], P => P (.int (if k then 1 else 0)) false
  | .tuple, [.lst l], P => P (.tup l) false
  | .tuple, [.tup l], P => P (.tup l) false
  | .list, [.lst l], P => P (.lst l) true
  | .list, [.tup l], P => P (.lst l) true
  | _, _, _ => False
/-- sum of a tuple of ints -/
theorem cr_sumT {X : Cx} (hc : X.calm = true) : CallR X (.builtin "sum") (fun vs H Q => ∃ (a : Addr) (ns : List Int), vs = [V.ref a] ∧ SqT X.K H a (ns.map V.int) ∧ Q (.int ns.sum) H) := by
  intro pins s σ H vs us Q I r h
  obtain ⟨a, ns, rfl, hs, q⟩ := h
  obtain ⟨its, rv, hl, _⟩ := I.tuple hs
  rw [Vals.ref1 r]
  have hi : IntsAre its ns := rv.ints
  obtain ⟨xs, e⟩ := hi.allInts.items
  have hn : numsOf (intItems xs).toList = ns := by rw [← e]; exact hi.numsOf
  rw [nums_intItems] at hn
  rw [e] at hl
  refine PySem.W.ktm_sumG (I.ok.hd hc) (show s.heap.IsTuple a (intItems xs) from hl) fun h' tk t' hk => ?_
  rw [preSum_eq, List.take_of_length_le (by simp), hn]
  exact ⟨.int _, H, I.kept hk, ⟨_, rfl⟩, q⟩
theorem CallR.or {X : Cx} {f : Value} {r r' : List V → Hp → VK → Prop} (h : CallR X f r) (h' : CallR X f r') : CallR X f (fun vs H Q => r vs H Q ∨ r' vs H Q) := by
  intro pins s σ H vs us Q I rv q
  rcases q with q | q
  · exact h pins s σ H vs us Q I rv q
  · exact h' pins s σ H vs us Q I rv q
section
variable {G : Gm} {sc : Scope} {R : Exn → Prop} {ρ : Rho} {h : Addr → Prop} {σ : L2.St} {H H1 H2 : Hp} {P P' : D → Bool → Prop} {B : Bool → Prop} {e a b c : Expr} {es : List Expr} {pos : Pos}
theorem we_bi {b : Bi} {p : Pos} (ok : GOk G sc R) (hx : sc.names.lookup b.name = some .globalImplicit) (he : starEach (e :: es) G.X.env = (false, eval e G.X.env) :: starEach es G.X.env) (hpl : (backTo pos (starEach es G.X.env)).any (·.1) = false)
    (ha : WA G (e :: es) ρ fun ds => wBi b ds P) : WE G (.Call (.Name b.name p) (e :: es) [] pos) ρ P := by
  have mono : ∀ {B B' : List D → Prop}, WA G (e :: es) ρ B → (∀ ds, B ds → B' ds) → WA G (e :: es) ρ B' := fun w f h σ H S => (w h σ H S).mono fun vs H' ⟨x, ds, r, q⟩ => ⟨x, ds, r, f ds q⟩
  have fl : ∀ {h : Addr → Prop} {H : Hp} {v : V} {d : D}, Dr G.X.K G.g (hid h H) v d → P d false → EQ G h H P v H := fun r p => EQ.flat r p
  cases b with
  | len =>
    refine we_callB ok call_len hx (by decide) PySem.boot_len (by decide) (by decide) he hpl (mono ha fun ds w h H vs Q en r f => ?_)
    match ds, r, w with
    | [.lst l], .cons (.lst s q) .nil, w => exact ⟨_, _, rfl, .inl ⟨_, .of (hid_le _ _ s), rfl⟩, f _ _ (fl (.int _) (by rw [q.length]; exact w))⟩
    | [.tup l], .cons (.tup s q) .nil, w => exact ⟨_, _, rfl, .inr ⟨_, sqT_mono hid_le s, rfl⟩, f _ _ (fl (.int _) (by rw [q.length]; exact w))⟩
    | [.str x], .cons (.str _) .nil, w => exact ⟨_, _, rfl, ⟨w.1, rfl⟩, f _ _ (fl (.int _) w.2)⟩
  | abs =>
    refine we_callB ok call_abs hx (by decide) boot_abs (by decide) (by decide) he hpl (mono ha fun ds w h H vs Q en r f => ?_)
    match ds, r, w with
    | [.int i], .cons (.int _) .nil, w => exact ⟨i, rfl, f _ _ (fl (.int _) w)⟩
  | min2 =>
    refine we_callB ok (call_min2 ok.calm) hx (by decide) boot_min (by decide) (by decide) he hpl (mono ha fun ds w h H vs Q en r f => ?_)
    match ds, r, w with
    | [.int i, .int j], .cons (.int _) (.cons (.int _) .nil), w => exact ⟨i, j, rfl, f _ _ (fl (.int _) w)⟩
  | max2 =>
    refine we_callB ok (call_max2 ok.calm) hx (by decide) boot_max (by decide) (by decide) he hpl (mono ha fun ds w h H vs Q en r f => ?_)
    match ds, r, w with
    | [.int i, .int j], .cons (.int _) (.cons (.int _) .nil), w => exact ⟨i, j, rfl, f _ _ (fl (.int _) w)⟩
  | min1 =>
    refine we_callB ok (cr_min ok.calm) hx (by decide) boot_min (by decide) (by decide) he hpl (mono ha fun ds w h H vs Q en r f => ?_)
    match ds, r, w with
    | [.lst l], .cons (.lst s q) .nil, ⟨ns, e, hz, w⟩ =>
      have e' := intsD_eq e
      subst e'
      have e2 := DrL.ints q
      subst e2
      exact ⟨_, ns, rfl, .of (hid_le _ _ s), hz, fun m h1 h2 => f _ _ (fl (.int _) (w m h1 h2))⟩
  | max1 =>
    refine we_callB ok (cr_max ok.calm) hx (by decide) boot_max (by decide) (by decide) he hpl (mono ha fun ds w h H vs Q en r f => ?_)
    match ds, r, w with
    | [.lst l], .cons (.lst s q) .nil, ⟨ns, e, hz, w⟩ =>
      have e' := intsD_eq e
      subst e'
      have e2 := DrL.ints q
      subst e2
      exact ⟨_, ns, rfl, .of (hid_le _ _ s), hz, fun m h1 h2 => f _ _ (fl (.int _) (w m h1 h2))⟩
  | sum =>
    refine we_callB ok (CallR.or (cr_sum ok.calm) (cr_sumT ok.calm)) hx (by decide) (by decide +kernel) (by decide) (by decide) he hpl (mono ha fun ds w h H vs Q en r f => ?_)
    match ds, r, w with
    | [.lst l], .cons (.lst s q) .nil, ⟨ns, e, w⟩ =>
      have e' := intsD_eq e
      subst e'
      have e2 := DrL.ints q
      subst e2
      exact .inl ⟨_, ns, rfl, .of (hid_le _ _ s), f _ _ (fl (.int _) w)⟩
    | [.tup l], .cons (.tup s q) .nil, ⟨ns, e, w⟩ =>
      have e' := intsD_eq e
      subst e'
      have e2 := DrL.ints q
      subst e2
      exact .inr ⟨_, ns, rfl, sqT_mono hid_le s, f _ _ (fl (.int _) w)⟩
  | all =>
    refine we_callB ok (cr_all ok.calm) hx (by decide) (by decide +kernel) (by decide) (by decide) he hpl (mono ha fun ds w h H vs Q en r f => ?_)
    match ds, r, w with
    | [.lst l], .cons (.lst s q) .nil, ⟨ns, e, w⟩ =>
      have e' := bolsD_eq e
      subst e'
      have e2 := DrL.bols q
      subst e2
      exact ⟨_, ns, rfl, .of (hid_le _ _ s), f _ _ (fl (.bl _) w)⟩
  | any =>
    refine we_callB ok (cr_any ok.calm) hx (by decide) (by decide +kernel) (by decide) (by decide) he hpl (mono ha fun ds w h H vs Q en r f => ?_)
    match ds, r, w with
    | [.lst l], .cons (.lst s q) .nil, ⟨ns, e, w⟩ =>
      have e' := bolsD_eq e
      subst e'
      have e2 := DrL.bols q
      subst e2
      exact ⟨_, ns, rfl, .of (hid_le _ _ s), f _ _ (fl (.bl _) w)⟩
  | int =>
    refine we_callTy ok call_int1 hx (by decide) boot_int (by decide) (by decide) he hpl (mono ha fun ds w h H vs Q en r f => ?_)
    match ds, r, w with
    | [.int i], .cons (.int _) .nil, w => exact .inl ⟨i, rfl, f _ _ (fl (.int _) w)⟩
    | [.bl k], .cons (.bl _) .nil, w => exact .inr ⟨k, rfl, f _ _ (fl (.int _) w)⟩
  | tuple =>
    refine we_callTy ok call_tuple_of hx (by decide) boot_tuple (by decide) (by decide) he hpl (mono ha fun ds w h H vs Q en r f => ?_)
    match ds, r, w with
    | [.lst l], .cons (.lst s q) .nil, w => exact ⟨_, _, rfl, .inl ⟨.of (hid_le _ _ s), fun p n => f _ _ (EQ.newT en n q w)⟩⟩
    | [.tup l], .cons (.tup s q) .nil, w => exact ⟨_, _, rfl, .inr ⟨sqT_mono hid_le s, f _ _ (fl (.tup s q) w)⟩⟩
  | list =>
    refine we_callTy ok call_list_of hx (by decide) boot_list (by decide) (by decide) he hpl (mono ha fun ds w h H vs Q en r f => ?_)
    match ds, r, w with
    | [.lst l], .cons (.lst s q) .nil, w => exact ⟨_, _, rfl, .inl (.of (hid_le _ _ s)), fun p n => f _ _ (EQ.newL en n q w)⟩
    | [.tup l], .cons (.tup s q) .nil, w => exact ⟨_, _, rfl, .inr (sqT_mono hid_le s), fun p n => f _ _ (EQ.newL en n q w)⟩
end
end Pd
end
section
set_option Elab.async false
set_option linter.all false
set_option maxRecDepth 100000
set_option maxHeartbeats 4000000
/-! ## isinstance, fields, methods, list(range(..)), xs[::-1], split -/
namespace Pd
open PySem PySem.Spec PyProof.Rows L2
/-! isinstance -/
inductive Ty where
  | int | bool | str | tuple | list
def Ty.py : Ty → String
  | .int => "int" | .bool => "bool" | .str => "str" | .tuple => "tuple" | .list => "list"
def Ty.name : Ty → Str
  | .int => "int" | .bool => "bool" | .str => "str" | .tuple => "tuple" | .list => "list"
def tyD : D → Option String
  | .non => some "NoneType" | .bl _ => some "bool" | .int _ => some "int" | .str _ => some "str" | .tup _ => some "tuple" | .lst _ => some "list" | .obj _ _ _ => none | .sto => none
def isTy : Ty → D → Bool
  | .int, .int _ => true | .int, .bl _ => true | .bool, .bl _ => true | .str, .str _ => true | .tuple, .tup _ => true | .list, .lst _ => true | _, _ => false
theorem Ty.boot : ∀ t : Ty, bootBuiltins t.name = some (.type t.py)
  | .int => boot_int | .bool => boot_bool | .str => boot_str | .tuple => boot_tuple | .list => boot_list
theorem Ty.bi : ∀ t : Ty, t.name ∈ BI := by intro t; cases t <;> decide
theorem Ty.ne : ∀ t : Ty, t.name ≠ "__name__" := by intro t; cases t <;> decide
theorem Ty.nd : ∀ t : Ty, (t.name == ("__debug__" : Str)) = false := by intro t; cases t <;> decide
theorem kit_D {K : PySem.W.Frag} {t : Ty} {d : D} {s : String} (h : tyD d = some s) : PySem.W.kitOne K (.type s) (.type t.py) = some (isTy t d) := by
  refine kit_ty ?_
  cases d <;> (first | (cases h; done) | skip) <;> cases h <;> cases t <;> first | exact (show _ = some true by decide +kernel) | exact (show _ = some false by decide +kernel)
theorem Dr.ty {K : PySem.W.Frag} {g : Option Rg} {h : Addr → Prop} {H : Hp} {v : V} {d : D} {s : String} (r : Dr K g (hid h H) v d) (e : tyD d = some s) : TyX K H v (.type s) := by
  cases r with
  | non => cases e; exact .base .non
  | bl b => cases e; exact .base (.bl b)
  | int i => cases e; exact .base (.int i)
  | str x => cases e; exact .base (.str x)
  | lst q l => cases e; exact .base (.lst (hid_le _ _ q))
  | tup q l =>
    cases e
    rcases sqT_mono hid_le q with (q | ⟨o, q⟩) | ⟨o, its, n, q, c, _⟩
    · exact .base (.tup q)
    · exact .fTuple q
    · exact .kTuple q c
  | _ => cases e
section
variable {G : Gm} {sc : Scope} {R : Exn → Prop} {ρ : Rho} {h : Addr → Prop} {σ : L2.St} {H H1 H2 : Hp} {P P' : D → Bool → Prop} {B : Bool → Prop} {e a b c : Expr} {es : List Expr} {pos : Pos}
theorem pe_ty {t : Ty} {p : Pos} (ok : GOk G sc R) (hx : sc.names.lookup t.name = some .globalImplicit) : PE G.X (.Name t.name p) (tC (.ty t.py)) := pe_bltn (ok.sv.glb _ hx) (ok.bi _ t.bi) t.boot rfl t.ne t.nd
theorem we_isi {t : Ty} {p p2 : Pos} (ok : GOk G sc R) (hi : sc.names.lookup ("isinstance" : Str) = some .globalImplicit) (hx : sc.names.lookup t.name = some .globalImplicit)
    (he : starEach [a, .Name t.name p2] G.X.env = (false, eval a G.X.env) :: starEach [.Name t.name p2] G.X.env) (hpl : (backTo pos (starEach [.Name t.name p2] G.X.env)).any (·.1) = false)
    (ha : WE G a ρ fun d _ => (∃ s, tyD d = some s) ∧ P (.bl (isTy t d)) false) : WE G (.Call (.Name "isinstance" p) [a, .Name t.name p2] [] pos) ρ P := fun h σ H S =>
  Ev.of (pe_callB call_isi (ok.sv.glb _ hi) (ok.bi _ (by decide)) boot_isinstance (pa_cons pe_self (pa_cons (pe_ty ok hx) pa_nil rfl) he) (by decide) (by decide) he hpl) ((ha h σ H S).mono fun v H1 ⟨x1, d, _, r, _, ⟨s, hs⟩, p⟩ =>
    ⟨v, .ty t.py, _, _, _, rfl, .ty _, r.ty hs, kit_D hs, EQ.after S.ent x1 (EQ.flat (.bl _) p)⟩)
/-- isinstance(x, (T, U)) -/
theorem we_isi2 {t u : Ty} {p p2 p3 p4 : Pos} {k : Nat} (ok : GOk G sc R) (hi : sc.names.lookup ("isinstance" : Str) = some .globalImplicit) (hx : sc.names.lookup t.name = some .globalImplicit) (hy : sc.names.lookup u.name = some .globalImplicit)
    (he : starEach [a, .Tuple [.Name t.name p2, .Name u.name p3] k p4] G.X.env = (false, eval a G.X.env) :: starEach [.Tuple [.Name t.name p2, .Name u.name p3] k p4] G.X.env)
    (hpl : (backTo pos (starEach [.Tuple [.Name t.name p2, .Name u.name p3] k p4] G.X.env)).any (·.1) = false)
    (ha : WE G a ρ fun d _ => (∃ s, tyD d = some s) ∧ P (.bl (isTy t d || isTy u d)) false) : WE G (.Call (.Name "isinstance" p) [a, .Tuple [.Name t.name p2, .Name u.name p3] k p4] [] pos) ρ P := fun h σ H S =>
  Ev.of (pe_callB call_isiT (ok.sv.glb _ hi) (ok.bi _ (by decide)) boot_isinstance (pa_cons pe_self (pa_cons (pe_tup (pa_cons (pe_ty ok hx) (pa_cons (pe_ty ok hy) pa_nil rfl) rfl)) pa_nil rfl) he) (by decide) (by decide) he hpl) ((ha h σ H S).mono fun v H1 ⟨x1, d, _, r, _, ⟨s, hs⟩, p⟩ => by
    refine ⟨by show 2 ≤ sizeLine; decide, fun q n => ?_⟩
    have x2 : Ext G.g H1 (upd H1 q (.tup [.ty t.py, .ty u.py])) := Ext.new n
    refine ⟨v, q, [.ty t.py, .ty u.py], _, _, _, rfl, upd_same, .cons (.ty _) (.cons (.ty _) .nil), (r.mono ((S.ext x1).ent.mono x2)).ty hs, ?_, EQ.after S.ent (x1.trans x2) (EQ.flat (.bl (isTy t d || isTy u d)) p)⟩
    refine kitAny_cons (kit_D hs) (fun z => kitAny_cons (kit_D hs) (fun z2 => ?_) fun z2 => ?_) fun z => ?_
    · rw [z, z2]; exact kitAny_nil
    · rw [z2, Bool.or_true]
    · rw [z, Bool.true_or])
/-! fields and methods -/
structure FldOk (K : PySem.W.Frag) (c f : Str) : Prop where
  cls : Cls K (He.ga K c)
  no : NoAttr K (He.ga K c) f
def oget (f : Str) : List Str → List D → Option D
  | k :: ks, v :: vs => if f = k then some v else oget f ks vs
  | _, _ => none
theorem oget_at {K : PySem.W.Frag} {g : Option Rg} {H : Hp} {f : Str} {d : D} : ∀ {fs : List (Str × V)} {vs : List D}, DrL K g H (fs.map (·.2)) vs → oget f (fs.map (·.1)) vs = some d → ∃ v, fs.lookup f = some v ∧ Dr K g H v d
  | [], _, _, e => by cases e
  | (k, v) :: r, _, .cons h t, e => by
    have e' : (if f = k then some _ else oget f (r.map (·.1)) _) = some d := e
    by_cases q : f = k
    · rw [if_pos q] at e'
      cases e'
      refine ⟨v, ?_, h⟩
      rw [q, List.lookup_cons_self]
    · rw [if_neg q] at e'
      obtain ⟨y, e1, e2⟩ := oget_at t e'
      refine ⟨y, ?_, e2⟩
      rw [List.lookup_cons, show (f == k) = false from beq_eq_false_iff_ne.mpr q]
      exact e1
theorem we_fld {f : Str} (hb : attributeBase a f G.X.env (eval a G.X.env) = eval a G.X.env) (ha : WE G a ρ fun d _ => ∃ c ks vs x, d = .obj c ks vs ∧ FldOk G.X.K c f ∧ oget f ks vs = some x ∧ P x false) : WE G (.Attribute a f pos) ρ P := fun h σ H S =>
  Ev.of (pe_fld pe_self hb) ((ha h σ H S).mono fun v H1 ⟨x1, d, _, r, _, c, ks, vs, x, e, fo, eo, p⟩ => by
    subst e
    cases r with
    | obj q l =>
      obtain ⟨y, ey, ry⟩ := oget_at l eo
      exact ⟨_, _, _, _, y, rfl, hid_le _ _ q, fo.cls, fo.no, ey, EQ.after S.ent x1 (EQ.flat ry p)⟩)
end
/-- a method's callee: its class, its name in the class -/
structure MethOk (X : Cx) (c : Str) (cl : Fn) : Prop where
  cls : Cls X.K (He.ga X.K c)
  at_ : ∃ (f : Addr) (fd : FuncData) (ps : List Str), Meth X.K (He.ga X.K c) cl.x f ∧ CalleeAt X cl f fd ps
theorem oget_none {f : Str} : ∀ {fs : List (Str × V)}, f ∉ fs.map (·.1) → fs.lookup f = none
  | [], _ => rfl
  | (k, v) :: r, n => by
    rw [List.map_cons, List.mem_cons, not_or] at n
    rw [List.lookup_cons, show (f == k) = false from beq_eq_false_iff_ne.mpr n.1]
    exact oget_none n.2
section
variable {X : Cx} {CX : CXT} {k : Nat} {f C : Addr} {fd : FuncData} {ps : List Str} {sp : Sp} {dvs : List V} {ds : List Value} {E : L2.St → XK} {x m : Str} {p pos apos : Pos} {e o : Expr} {es : List Expr} {ta : TE} {t : TA}
def tMethD (C : Addr) (m : Str) (sp : Sp) (dvs : List V) (E : L2.St → XK) (ta : TE) (t : TA) : TE := fun σ H Q => ta σ H fun x H1 => ∃ a dx fs, x = .ref a ∧ H1 a = some (.ins C dx fs) ∧ fs.lookup m = none ∧ t σ H1 fun vs H2 => sp (x :: (vs ++ dvs)) H2 Q (E σ)
theorem pe_methD {pl : Sem Bool} (he : PE X o ta) (c : Cls X.K C) (hm : Meth X.K C m f) (F : FnOk X.prog X.w X.K X.mg X.base CX k f fd ps sp) (hr : Room k X.A) (hb : Binds X.K fd ps ds) (hd : Vals dvs ds) (hx : ∀ σ, PassesAt CX X σ (E σ)) (ha : PA X (e :: es) t)
    (hst : starEach (e :: es) X.env = (false, eval e X.env) :: starEach es X.env) (hpl : (backTo pos (starEach es X.env)).any (·.1) = false)
    (ht : eval (.Call (.Attribute o m apos) (e :: es) [] pos) X.env = (do
      let ov ← eval o X.env
      standAt apos.atName
      let (f, first) ← holding [ov] (getMethod ov m pl)
      callWith pos f first (backTo pos (starEach (e :: es) X.env)) (backToKw pos (keywordEach [] X.env)))) :
    PE X (.Call (.Attribute o m apos) (e :: es) [] pos) (tMethD C m sp dvs E ta t) := by
  refine ⟨fun pins s σ H Q I h => ?_⟩
  refine PySem.W.methodCall_KW (pl := pl) (thn (he.run pins s σ H _ I h) fun u s1 ⟨x, H1, I1, rx, a, dx, fs, ex, ea, l, q⟩ => ?_) ht
  subst ex
  obtain rfl : u = Value.ref a := rx
  refine getmeth_ok I1 ea c hm l ?_
  refine PySem.W.callWith_K (first := [.ref a]) (h₀ := X.base) I.ok.mod.kin hm.kp (thn (ha.run pos pins s1 σ H1 _ I1 q) fun us s2 ⟨vs, H2, I2, r, q2⟩ => ⟨I2.kIn, ?_⟩) hst hpl
  exact run_fnD (us := .ref a :: us) (vs := .ref a :: vs) F hr hb hd (hx σ) I2 (.cons rfl r) q2
end
section
variable {G : Gm} {sc : Scope} {R : Exn → Prop} {ρ : Rho} {h : Addr → Prop} {σ : L2.St} {H H1 H2 : Hp} {P P' : D → Bool → Prop} {B : Bool → Prop} {e a b c : Expr} {es : List Expr} {pos : Pos}
theorem we_meth {cn : Str} {cl : Fn} {apos : Pos} {pl : Sem Bool} (ok : GOk G sc R) (mo : MethOk G.X cn cl) (hl : cl.lev ≤ G.k) (he : starEach (e :: es) G.X.env = (false, eval e G.X.env) :: starEach es G.X.env) (hpl : (backTo pos (starEach es G.X.env)).any (·.1) = false)
    (ht : eval (.Call (.Attribute a cl.x apos) (e :: es) [] pos) G.X.env = (do
      let ov ← eval a G.X.env
      standAt apos.atName
      let (f, first) ← holding [ov] (getMethod ov cl.x pl)
      callWith pos f first (backTo pos (starEach (e :: es) G.X.env)) (backToKw pos (keywordEach [] G.X.env))))
    (ha : WE G a ρ fun d _ => ∃ ks vs, d = .obj cn ks vs ∧ cl.x ∉ ks ∧ WA G (e :: es) ρ fun ds => (d :: (ds ++ cl.dfl)).length = cl.ar ∧ cl.sp (d :: (ds ++ cl.dfl)) P R) : WE G (.Call (.Attribute a cl.x apos) (e :: es) [] pos) ρ P := fun h σ H S => by
  obtain ⟨f, fd, ps, hm, F, dvv, dvs, hb, hd, rd⟩ := mo.at_
  refine Ev.of (pe_methD (E := fun σ cls dx H' => Wish G R cls dx σ H') pe_self mo.cls hm F (ok.room.mono hl) hb hd (fun σ => L2N.passAt ok.tk σ) pa_self he hpl ht) ((ha h σ H S).mono fun v H1 ⟨x1, d, _, r, _, ks, vs, ed, nk, w⟩ => ?_)
  subst ed
  cases r with
  | obj q l =>
    rename_i fs
    refine ⟨_, _, _, rfl, hid_le _ _ q, oget_none nk, (w h σ H1 (S.ext x1)).mono fun us H2 ⟨x2, ds, r2, hln, w2⟩ => ?_⟩
    have S2 := (S.ext x1).ext x2
    exact sp_at (vs := _ :: us) (ds := D.obj cn _ vs :: ds) S2 rfl (.cons (Dr.mono ((S.ext x1).ent.mono x2) (.obj q l)) r2) rd hln w2 (fun v H' q => EQ.after S.ent (x1.trans x2) q) fun cls dx H' e S' q z => ⟨h, ρ, e, S', q, z⟩
/-! list(range(n)), xs[::-1], s.split(sep) -/
def rgD (a b : Int) : List D := (List.range (b - a).toNat).map fun i => D.int (a + (i : Nat))
theorem rg_dr {K : PySem.W.Frag} {g : Option Rg} {H : Hp} (a b : Int) : DrL K g H (rgV a b) (rgD a b) := by
  have m : ∀ l : List Nat, DrL K g H (l.map fun i => V.int (a + (i : Nat))) (l.map fun i => D.int (a + (i : Nat))) := fun l => by
    induction l with
    | nil => exact .nil
    | cons x r ih => exact .cons (.int _) ih
  exact m _
theorem we_lrg {p p2 pos2 : Pos} (ok : GOk G sc R) (hl : sc.names.lookup ("list" : Str) = some .globalImplicit) (hr : sc.names.lookup ("range" : Str) = some .globalImplicit) (he : starEach [a] G.X.env = (false, eval a G.X.env) :: starEach [] G.X.env)
    (ha : WE G a ρ fun d _ => ∃ n, d = .int n ∧ L2.RgOk 0 n ∧ P (.lst (rgD 0 n)) true) : WE G (.Call (.Name "list" p) [.Call (.Name "range" p2) [a] [] pos2] [] pos) ρ P := fun h σ H S =>
  Ev.of (pe_listRg ok.calm (ok.sv.glb _ hl) (ok.bi _ (by decide)) (prg_1 (ok.sv.glb _ hr) (ok.bi _ (by decide)) pe_self he)) ((ha h σ H S).mono fun v H1 ⟨x1, d, _, r, _, n, ed, ro, p⟩ => by
    subst ed
    cases r
    exact ⟨n, rfl, ro, fun q nn => EQ.after S.ent x1 (EQ.newL (S.ext x1).ent nn (rg_dr 0 n) p)⟩)
theorem DrL.rev {K : PySem.W.Frag} {g : Option Rg} {H : Hp} : ∀ {v : List V} {d : List D}, DrL K g H v d → DrL K g H v.reverse d.reverse
  | _, _, .nil => .nil
  | _, _, .cons h t => by
    rw [List.reverse_cons, List.reverse_cons]
    exact (DrL.rev t).append (.one h)
theorem we_rev {k : Nat} {p1 p2 p3 : Pos} (ha : WE G a ρ fun d _ => ∃ l, d = .lst l ∧ P (.lst l.reverse) true) : WE G (.Subscript a (.Slice none none (some (.UnaryOp .USub (.Constant (.int 1) k p1) p2)) p3) pos) ρ P := fun h σ H S =>
  Ev.of (pe_revL pe_self) ((ha h σ H S).mono fun v H1 ⟨x1, d, _, r, _, l, ed, p⟩ => by
    subst ed
    cases r with
    | lst s q => exact ⟨_, _, rfl, .of (hid_le _ _ s), fun q' n => EQ.after S.ent x1 (EQ.newL (S.ext x1).ent n q.rev p)⟩)
end
end Pd
end
section
set_option Elab.async false
set_option linter.all false
set_option maxRecDepth 100000
set_option maxHeartbeats 4000000
/-! ## zip of two sequences, each a list or a tuple -/
namespace Pd
open PySem PySem.Spec PyProof.Rows L2
/-- a list (true) or a tuple (false) -/
def SqX (k : Bool) (K : PySem.W.Frag) (H : Hp) (a : Addr) (xs : List V) : Prop := if k then SqL K H a xs else SqT K H a xs
def ItX (k : Bool) (h : Heap) (it a : Addr) (i : Nat) : Prop := if k then h.IsListIter it a i else h.IsTupleIter it a i
def ObX (k : Bool) (h : Heap) (a : Addr) (items : Array Value) : Prop := if k then h.IsList a items else h.IsTuple a items
def itO (k : Bool) (a : Addr) : Obj := if k then { cls := .type "list_iterator", data := .fields #[.ref a, .int 0 0] } else { cls := .type "tuple_iterator", data := .fields #[.ref a, .int 0 0] }
theorem ItX.rec_ {k : Bool} {h : Heap} {it a : Addr} {i : Nat} (x : ItX k h it a i) : ∃ o vs, h.get? it = some o ∧ o.data = .fields vs := by
  cases k with
  | true => obtain ⟨o, e, _, d⟩ := (show h.IsListIter it a i from x); exact ⟨o, _, e, d⟩
  | false => obtain ⟨o, e, _, d⟩ := (show h.IsTupleIter it a i from x); exact ⟨o, _, e, d⟩
theorem ItX.at {k : Bool} {h h' : Heap} {it a : Addr} {i : Nat} (x : ItX k h it a i) (f : ∀ o, h.get? it = some o → h'.get? it = some o) : ItX k h' it a i := by
  cases k with
  | true => exact (show h.IsListIter it a i from x).at f
  | false => exact (show h.IsTupleIter it a i from x).at f
theorem ObX.at {k : Bool} {h h' : Heap} {a : Addr} {items : Array Value} (x : ObX k h a items) (f : ∀ o, h.get? a = some o → h'.get? a = some o) : ObX k h' a items := by
  cases k with
  | true => exact (show h.IsList a items from x).at f
  | false => exact (show h.IsTuple a items from x).at f
theorem drawsX {prog : Program} {w : World} {A : Around} (k : Bool) (hh : A.handled = none) (it l : Addr) (hne : l ≠ it) (items : Array Value) : Draws prog w A it [it, l] items.size (fun i v => items[i]? = some v) (fun i h => ItX k h it l i ∧ ObX k h l items) := by
  cases k with
  | true => exact Draws.list hh it l hne items
  | false => exact Draws.tuple hh it l hne items
theorem beginsX (k : Bool) (l : Addr) (items : Array Value) : Begins (.ref l) (itO k l) fun h => ObX k h l items := by
  cases k with
  | true => exact begins_list l items
  | false => exact begins_tuple l items
section
variable {X : Cx} {pins : List (Addr × Obj)} {σ : L2.St} {H : Hp} {s : Shared} {a : Addr} {xs ys : List V} {k : Bool}
theorem invX (I : Inv X pins σ H s) (h : SqX k X.K H a xs) : ∃ its : List Value, Vals xs its ∧ ObX k s.heap a its.toArray ∧ a < s.heap.objs.size := by
  cases k with
  | true =>
    obtain ⟨its, rv, p, _⟩ := I.list (show SqL X.K H a xs from h)
    exact ⟨its, rv, p.isList, p.lt⟩
  | false =>
    obtain ⟨its, rv, p, _⟩ := I.tuple (show SqT X.K H a xs from h)
    exact ⟨its, rv, p, p.lt⟩
theorem injX (I : Inv X pins σ H s) (h : SqX k X.K H a xs) (h' : SqX k X.K H a ys) : xs = ys := by
  cases k with
  | true => exact I.list_inj (show SqL X.K H a xs from h) h'
  | false => exact I.tuple_inj (show SqT X.K H a xs from h) h'
end
def ItzX (k1 k2 : Bool) (K : PySem.W.Frag) (a b : Addr) : It :=
  ⟨fun i H => ∃ (xs ys : List V) (x y : V), SqX k1 K H a xs ∧ SqX k2 K H b ys ∧ xs[i]? = some x ∧ ys[i]? = some y,
    fun i H v H' => ∃ T x y, v = .ref T ∧ H T = none ∧ H' = upd H T (.tup [x, y]) ∧ (∀ xs, SqX k1 K H a xs → xs[i]? = some x) ∧ ∀ ys, SqX k2 K H b ys → ys[i]? = some y,
    fun i H => ∃ xs ys : List V, SqX k1 K H a xs ∧ SqX k2 K H b ys ∧ i ≤ xs.length ∧ i ≤ ys.length ∧ (xs.length = i ∨ ys.length = i)⟩
/-- the addresses lie apart -/
structure Apart5 (z TI TO i1 i2 a b : Addr) : Prop where
  nd : [z, TI, TO, i1, i2].Nodup
  za : z ≠ a
  zb : z ≠ b
  Ta : TO ≠ a
  Tb : TO ≠ b
  i1a : i1 ≠ a
  i1b : i1 ≠ b
  i2a : i2 ≠ a
  i2b : i2 ≠ b
theorem Apart5.sep {z TI TO i1 i2 a b : Addr} (D : Apart5 z TI TO i1 i2 a b) : ZipSep2 z TI TO i1 i2 [i1, a] [i2, b] := by
  have nd := D.nd
  simp only [List.nodup_cons, List.mem_cons, List.not_mem_nil, or_false, not_or] at nd
  obtain ⟨⟨h1, h2, h3, h4⟩, ⟨h5, h6, h7⟩, ⟨h8, h9⟩, h10, _⟩ := nd
  exact ⟨Ne.symm h1, Ne.symm h2, h5, h6, by simp, by simp [h3, D.za], by simp [h8, D.Ta], h7, by simp, by simp [h4, D.zb], by simp [h9, D.Tb], by simp [h10, D.i1b], by simp [Ne.symm h10, D.i2a]⟩
theorem turn_zipX {P : Program} {w : World} {K : PySem.W.Frag} {elts : List Expr} {kk : Nat} {tpos : Pos} {k1 k2 : Bool} {a b z TI TO i1 i2 : Addr} (D : Apart5 z TI TO i1 i2 a b) :
    Turn P w K (.Tuple elts kk tpos) (ItzX k1 k2 K a b) [z, TI, TO, i1, i2] z (fun i h => IsZip h z TI TO .none ∧ IsTupOf2 h TI (.ref i1) (.ref i2) ∧ (∃ x y, IsTupOf2 h TO x y) ∧ ItX k1 h i1 a i ∧ ItX k2 h i2 b i) where
  mem := by simp
  obj := fun i h st c hc => by
    obtain ⟨hz, hTI, ⟨x, y, hTO⟩, h1, h2⟩ := st
    obtain ⟨o1, v1, e1, d1⟩ := h1.rec_
    obtain ⟨o2, v2, e2, d2⟩ := h2.rec_
    have e' : c = z ∨ c = TI ∨ c = TO ∨ c = i1 ∨ c = i2 := by simpa using hc
    rcases e' with q | q | q | q | q
    · rw [q]; exact ⟨_, hz, fun v q => nomatch q⟩
    · rw [q]; exact ⟨_, hTI, fun v q => nomatch q⟩
    · rw [q]; exact ⟨_, hTO, fun v q => nomatch q⟩
    · rw [q]; exact ⟨o1, e1, fun v q => by rw [d1] at q; cases q⟩
    · rw [q]; exact ⟨o2, e2, fun v q => by rw [d2] at q; cases q⟩
  keep := fun i h h' st k => by
    obtain ⟨hz, hTI, ⟨x, y, hTO⟩, h1, h2⟩ := st
    exact ⟨k z (by simp) _ hz, k TI (by simp) _ hTI, ⟨x, y, k TO (by simp) _ hTO⟩, h1.at fun o q => k i1 (by simp) o q, h2.at fun o q => k i2 (by simp) o q⟩
  item := by
    intro X hP hw hK hc i pins s σ H E I hf st hg
    subst hP hw hK
    obtain ⟨hz, hTI, ⟨x0, y0, hTO⟩, h1, h2⟩ := st
    obtain ⟨xs, ys, x, y, hqx, hqy, hx, hy⟩ := hg
    obtain ⟨its, rv, p, _⟩ := invX I hqx
    obtain ⟨its2, rv2, p2, _⟩ := invX I hqy
    obtain ⟨u, hu, ru⟩ := rv.get hx
    obtain ⟨u2, hu2, ru2⟩ := rv2.get hy
    have hzl : z < s.heap.objs.size := Heap.lt_size hz
    have hh : X.A.in1.handled = none := I.ok.hd hc
    have l1 : i < its.toArray.size := by
      have := (List.getElem?_eq_some_iff.mp hu).1
      simpa using this
    have l2 : i < its2.toArray.size := by
      have := (List.getElem?_eq_some_iff.mp hu2).1
      simpa using this
    refine wpAny_pyNext_zipD2_item D.sep (drawsX k1 hh i1 a D.i1a.symm its.toArray) (drawsX k2 hh i2 b D.i2b.symm its2.toArray) hz hTI hTO ⟨h1, p⟩ ⟨h2, p2⟩ l1 l2 fun x1 x2 h' tk ex1 ex2 z' TO' s1 s2 hT hsz hk => ?_
    have eu : x1 = u := by
      have q : its[i]? = some x1 := by simpa using ex1
      rw [hu] at q
      exact (Option.some.inj q).symm
    have eu2 : x2 = u2 := by
      have q : its2[i]? = some x2 := by simpa using ex2
      rw [hu2] at q
      exact (Option.some.inj q).symm
    subst eu eu2
    refine ⟨_, rfl, wpAny_letOwnedTupleGo_zip (s := { s with heap := h', toks := tk }) z' fun h'' z'' sb => ?_⟩
    have hT2 : h''.get? s.heap.objs.size = some { cls := .type "tuple", data := .seq #[x1, x2] } := (sb.2 _ (Nat.ne_of_gt hzl)).trans hT
    have new : ObjOk X.prog X.w (upd H s.heap.objs.size (.tup [x, y])) h'' s.heap.objs.size (.tup [x, y]) :=
      ⟨by show 2 ≤ sizeLine; decide, [x1, x2], .cons ru (.cons ru2 .nil), ⟨_, hT2, rfl, _, rfl⟩⟩
    have I1 : Inv X pins σ (upd H s.heap.objs.size (.tup [x, y])) { s with heap := h'', toks := tk } :=
      I.turnedNew (t' := tk) (ch := [z, TI, TO, i1, i2]) (fun c o hb q => (sb.2 c (fun q' => hb (by simp [q']))).trans (hk c o (fun q' => hb (by simp [q'])) (fun q' => hb (by simp [q'])) (fun q' => hb (by simp [q'])) (fun q' => hb (by simp [q'])) q)) hf (Nat.le_refl _) new
    have sp := D.sep
    have nd := D.nd
    simp only [List.nodup_cons, List.mem_cons, List.not_mem_nil, or_false, not_or] at nd
    obtain ⟨⟨n1, n2, n3, n4⟩, ⟨n5, n6, n7⟩, ⟨n8, n9⟩, n10, _⟩ := nd
    refine ⟨.ref s.heap.objs.size, _, I1, rfl, ⟨_, x, y, rfl, I.hok.fresh (Nat.le_refl _), rfl, fun l hl => by rw [injX I hl hqx]; exact hx, fun l hl => by rw [injX I hl hqy]; exact hy⟩, ⟨z'', ?_, ⟨x1, x2, ?_⟩, ?_, ?_⟩, fun c hcm => ?_⟩
    · exact (sb.2 _ (Ne.symm n1)).trans (hk _ _ (Ne.symm n1) n5 n6 n7 hTI)
    · exact (sb.2 _ (Ne.symm n2)).trans TO'
    · exact s1.1.at fun o q => (sb.2 _ (Ne.symm n3)).trans q
    · exact s2.1.at fun o q => (sb.2 _ (Ne.symm n4)).trans q
    · have hlt : c < s.heap.objs.size := by
        have e' : c = z ∨ c = TI ∨ c = TO ∨ c = i1 ∨ c = i2 := by simpa using hcm
        rcases e' with q | q | q | q | q
        · rw [q]; exact hzl
        · rw [q]; exact Heap.lt_size hTI
        · rw [q]; exact Heap.lt_size hTO
        · rw [q]; obtain ⟨_, _, e1, _⟩ := h1.rec_; exact Heap.lt_size e1
        · rw [q]; obtain ⟨_, _, e2, _⟩ := h2.rec_; exact Heap.lt_size e2
      rw [upd_ne (Nat.ne_of_lt hlt)]
      exact (hf c hcm).1
  done := by
    intro X hP hw hK hc i pins s σ H E I hf st hg
    subst hP hw hK
    obtain ⟨hz, hTI, ⟨x0, y0, hTO⟩, h1, h2⟩ := st
    obtain ⟨xs, ys, hqx, hqy, hle1, hle2, hend⟩ := hg
    obtain ⟨its, rv, p, _⟩ := invX I hqx
    obtain ⟨its2, rv2, p2, _⟩ := invX I hqy
    have l1 := rv.length
    have l2 := rv2.length
    have hh : X.A.in1.handled = none := I.ok.hd hc
    refine wpAny_pyNext_zipD2_end D.sep (drawsX k1 hh i1 a D.i1a.symm its.toArray) (drawsX k2 hh i2 b D.i2b.symm its2.toArray) hz hTI hTO ⟨h1, p⟩ ⟨h2, p2⟩ (by simp; omega) (by simp; omega) (by simp; omega) fun h' tk hk => ⟨rfl, I.turnedL (t' := tk) (ch := [z, TI, TO, i1, i2]) (fun c o hb q =>
      hk c o (fun q' => hb (by simp [q'])) (fun q' => hb (by simp [q'])) (fun q' => hb (by simp [q'])) (fun q' => hb (by simp [q'])) q) hf⟩
  self := fun A i s Q E st h => wpAny_pyIter_zip st.1 h
def iZipX (K : PySem.W.Frag) (ta : TA) : TI := fun σ H R => ta σ H fun vs H1 => ∃ k1 k2 a b xs ys, vs = [.ref a, .ref b] ∧ SqX k1 K H1 a xs ∧ SqX k2 K H1 b ys ∧ R (ItzX k1 k2 K a b) H1
theorem pi_zipX {X : Cx} {e e2 : Expr} {ta : TA} {p pos tpos : Pos} {elts : List Expr} {kk : Nat} (hg : Gl X "zip") (hm : X.mg "zip" = none) (ha : PA X [e, e2] ta)
    (hs : starEach [e, e2] X.env = (false, eval e X.env) :: starEach [e2] X.env) (hpl : (backTo pos (starEach [e2] X.env)).any (·.1) = false) :
    PI X (.Tuple elts kk tpos) (.Call (.Name "zip" p) [e, e2] [] pos) (iZipX X.K ta) := by
  refine ⟨fun pins s σ H R I h => ?_⟩
  refine Call_ (ld_blt I hg hm PyProof.Rows.boot_zip (PyProof.Rows.callWith_type1 (thn (ha.run pos pins s σ H _ I h) fun us s1 ⟨vs, H1, I1, r1, q1⟩ => ?_) hs hpl))
  obtain ⟨k1, k2, a, b, xs, ys, ex, hqx, hqy, q⟩ := q1
  subst ex
  cases r1 with
  | cons r rr =>
    cases rr with
    | cons r' rr =>
      cases rr
      cases r
      cases r'
      have fresh5 : ∀ c, c ∈ [s1.heap.objs.size + 4, s1.heap.objs.size + 2, s1.heap.objs.size + 3, s1.heap.objs.size, s1.heap.objs.size + 1] → FpOk X pins H1 c := fun c hcm => by
        have e' : c = s1.heap.objs.size + 4 ∨ c = s1.heap.objs.size + 2 ∨ c = s1.heap.objs.size + 3 ∨ c = s1.heap.objs.size ∨ c = s1.heap.objs.size + 1 := by simpa using hcm
        have hle : s1.heap.objs.size ≤ c := by
          rcases e' with z | z | z | z | z
          · rw [z]; exact Nat.le_add_right _ _
          · rw [z]; exact Nat.le_add_right _ _
          · rw [z]; exact Nat.le_add_right _ _
          · rw [z]; exact Nat.le_refl _
          · rw [z]; exact Nat.le_add_right _ _
        exact I1.fpOk hle (I1.hok.fresh hle)
      obtain ⟨its, rv, p1, la⟩ := invX I1 hqx
      obtain ⟨its2, rv2, p2, lb⟩ := invX I1 hqy
      refine zip_begins2 (beginsX k1 a its.toArray) (beginsX k2 b its2.toArray) p1 p2 fun h' hz hTI hTO h1 h2 hsz hk => wpAny_pyIter_zip hz ?_
      have I2 : Inv X pins σ H1 { s1 with heap := h' } := I1.kept (t' := s1.toks) hk
      have mk : ∀ (k : Bool) (it l : Addr), h'.get? it = some (itO k l) → ItX k h' it l 0 := fun k it l e => by
        cases k with
        | true => exact ⟨_, e, rfl, rfl⟩
        | false => exact ⟨_, e, rfl, rfl⟩
      have ap : ∀ n : Nat, ∀ {a b : Nat}, a < n → b < n → Apart5 (n + 4) (n + 2) (n + 3) n (n + 1) a b := fun n {a b} la lb =>
        ⟨by simp, (Nat.ne_of_gt (by omega) : n + 4 ≠ a), (Nat.ne_of_gt (by omega) : n + 4 ≠ b), (Nat.ne_of_gt (by omega) : n + 3 ≠ a), (Nat.ne_of_gt (by omega) : n + 3 ≠ b), (Nat.ne_of_gt (by omega) : n ≠ a), (Nat.ne_of_gt (by omega) : n ≠ b), (Nat.ne_of_gt (by omega) : n + 1 ≠ a), (Nat.ne_of_gt (by omega) : n + 1 ≠ b)⟩
      exact ⟨s1.heap.objs.size + 4, [s1.heap.objs.size + 4, s1.heap.objs.size + 2, s1.heap.objs.size + 3, s1.heap.objs.size, s1.heap.objs.size + 1], _, _, H1, rfl, I2, turn_zipX (ap s1.heap.objs.size la lb), ⟨hz, hTI, ⟨_, _, hTO⟩, mk _ _ _ h1, mk _ _ _ h2⟩, fresh5, q⟩
/-! ### a list or a tuple walked -/
def iSeq (K : PySem.W.Frag) (tl : TE) : TI := fun σ H R => tl σ H fun x H1 => ∃ a, x = .ref a ∧ (((∃ xs, SqL K H1 a xs) ∧ R (Itl K a) H1) ∨ ((∃ xs, SqT K H1 a xs) ∧ R (Itt K a) H1))
theorem pi_seq {X : Cx} {tg l : Expr} {tl : TE} (hl : PE X l tl) : PI X tg l (iSeq X.K tl) := by
  refine ⟨fun pins s σ H R I h => ?_⟩
  refine thn (hl.run pins s σ H _ I h) fun v s1 ⟨x, H1, I1, r1, q1⟩ => ?_
  obtain ⟨a, e, q1⟩ := q1
  subst e
  cases r1
  rcases q1 with ⟨⟨xs, hq⟩, q⟩ | ⟨⟨xs, hq⟩, q⟩
  · obtain ⟨its, rv, p, hz⟩ := I1.list hq
    refine wpAny_pyIter_list p.isList ?_
    refine ⟨s1.heap.objs.size, [s1.heap.objs.size], _, _, H1, rfl, I1.kept (t' := s1.toks) fun b o e => Heap.get?_push_of_some _ e, turn_list a _, ⟨_, Heap.get?_push_size _ rfl, rfl, rfl⟩, fun b hb => ?_, q⟩
    have e : b = s1.heap.objs.size := by simpa using hb
    subst e
    exact I1.fpOk (Nat.le_refl _) (I1.hok.fresh (Nat.le_refl _))
  · obtain ⟨its, rv, p, hz⟩ := I1.tuple hq
    refine wpAny_pyIter_tuple (show s1.heap.IsTuple a its.toArray from p) ?_
    refine ⟨s1.heap.objs.size, [s1.heap.objs.size], _, _, H1, rfl, I1.kept (t' := s1.toks) fun b o e => Heap.get?_push_of_some _ e, turn_tuple a _, ⟨_, Heap.get?_push_size _ rfl, rfl, rfl⟩, fun b hb => ?_, q⟩
    have e : b = s1.heap.objs.size := by simpa using hb
    subst e
    exact I1.fpOk (Nat.le_refl _) (I1.hok.fresh (Nat.le_refl _))
end Pd
end
section
set_option Elab.async false
set_option linter.all false
set_option maxRecDepth 100000
set_option maxHeartbeats 4000000
/-! ## what is walked, targets, comprehensions -/
namespace Pd
open PySem PySem.Spec PyProof.Rows L2
/-! ### what is walked -/
/-- what was seen stays seen -/
def Pers (h : Addr → Prop) (H : Hp) (h' : Addr → Prop) (H' : Hp) : Prop := ∀ a o, H a = some o → ¬ h a → H' a = some o ∧ ¬ h' a
theorem Pers.refl (h : Addr → Prop) (H : Hp) : Pers h H h H := fun _ _ e n => ⟨e, n⟩
theorem Pers.trans {h h1 h2 : Addr → Prop} {H H1 H2 : Hp} (a : Pers h H h1 H1) (b : Pers h1 H1 h2 H2) : Pers h H h2 H2 := fun x o e n => b x o (a x o e n).1 (a x o e n).2
theorem Pers.hid {h h' : Addr → Prop} {H H' : Hp} (p : Pers h H h' H') : ∀ a o, hid h H a = some o → hid h' H' a = some o := fun a o e => by
  obtain ⟨n, q⟩ := hid_some e
  obtain ⟨q', n'⟩ := p a o q n
  exact hid_of n' q'
/-- J walks the items, as long as what was seen at Hs stays seen -/
def ItS (K : PySem.W.Frag) (g : Option Rg) (h : Addr → Prop) (Hs : Hp) (J : It) (items : List D) : Prop := ∀ h' H', Pers h Hs h' H' → (∀ a, h' a → ∃ o, H' a = some o) → ∀ i, (∀ d, items[i]? = some d → J.go i H' ∧ ∀ x H'', J.yld i H' x H'' →
    (∀ a o, H' a = some o → H'' a = some o) ∧ Dr K g (hid h' H'') x d) ∧ (i = items.length → J.stop i H')
def Iv (X : Cx) (tg e : Expr) : TI := fun σ H R => ∀ (pins : List (Addr × Obj)) (s : Shared), Inv X pins σ H s → wpAny (model X.prog X.w) X.A (eval e X.env) (fun v s1 => wpAny (model X.prog X.w) X.A (pyIter v) (PIE X pins σ tg R) X.xe s1) X.xe s
section
variable {X : Cx} {tg e : Expr} {σ : L2.St} {H : Hp}
theorem pi_self : PI X tg e (Iv X tg e) := ⟨fun pins s _ _ _ I h => h pins s I⟩
/-- the heap is a heap's -/
def Held (X : Cx) (H : Hp) : Prop := ∃ hp : Heap, HOk X.prog X.w H hp
theorem Iv.of {t : TI} {R : It → Hp → Prop} (h : PI X tg e t) (q : t σ H fun J H1 => Held X H1 → R J H1) : Iv X tg e σ H R := fun pins s I =>
  thn (h.run pins s σ H _ I q) fun v s1 q1 => thn q1 fun itv s2 ⟨it, fp, tn, J, H', e1, I', T, st, f, r⟩ => ⟨it, fp, tn, J, H', e1, I', T, st, f, r ⟨_, I'.hok⟩⟩
theorem Held.lst {a : Addr} {xs : List V} (x : Held X H) (e : H a = some (.lst xs)) : xs.length ≤ sizeLine := by
  obtain ⟨hp, ok⟩ := x
  exact (show ObjOk X.prog X.w H hp a (.lst xs) from ok a _ e).1
theorem Held.tup {K : PySem.W.Frag} {a : Addr} {xs : List V} (x : Held X H) (e : SqT K H a xs) : xs.length ≤ sizeLine := by
  obtain ⟨hp, ok⟩ := x
  rcases e with (e | ⟨o, e⟩) | ⟨o, its, n, _, _, _, hz, r⟩
  · exact (show ObjOk X.prog X.w H hp a (.tup xs) from ok a _ e).1
  · exact (show ObjOk X.prog X.w H hp a (.frz o (.tup xs)) from ok a _ e).2.1
  · rw [r.length]; simpa using hz
end
/-- what a source gives -/
def WI (G : Gm) (tg e : Expr) (ρ : Rho) (P : List D → Prop) : Prop := ∀ h σ H, StOk G h σ ρ H → Iv G.X tg e σ H fun J H1 => Ext G.g H H1 ∧ ∃ items, ItS G.X.K G.g h H1 J items ∧ items.length ≤ sizeLine ∧ P items
section
variable {G : Gm} {sc : Scope} {R : Exn → Prop} {ρ : Rho} {h : Addr → Prop} {σ : L2.St} {H H1 H2 : Hp} {P P' : D → Bool → Prop} {B : List D → Prop} {e a b c tg : Expr} {es : List Expr} {pos : Pos}
/-- a list or a tuple as a source -/
def seqD : D → Option (List D)
  | .lst l => some l
  | .tup l => some l
  | _ => none
theorem its_list {K : PySem.W.Frag} {g : Option Rg} {a : Addr} {xs : List V} {ds : List D} (e : hid h H a = some (.lst xs)) (r : DrL K g (hid h H) xs ds) : ItS K g h H (Itl K a) ds := fun h' H' p t i => by
  obtain ⟨n, e1⟩ := hid_some e
  obtain ⟨e2, n2⟩ := p a _ e1 n
  refine ⟨fun d ed => ?_, fun ei => ⟨xs, .of e2, by rw [r.length, ei]; exact Nat.le_refl _⟩⟩
  obtain ⟨y, ey, ry⟩ := r.get ed
  refine ⟨⟨xs, y, .of e2, ey⟩, fun x H'' ⟨eh, hx⟩ => ?_⟩
  subst eh
  have := hx xs (.of e2)
  rw [ey] at this
  cases this
  exact ⟨fun _ _ z => z, ry.mono p.hid⟩
theorem its_tup {K : PySem.W.Frag} {g : Option Rg} {a : Addr} {xs : List V} {ds : List D} (e : SqT K (hid h H) a xs) (r : DrL K g (hid h H) xs ds) : ItS K g h H (Itt K a) ds := fun h' H' p t i => by
  have e2 : SqT K H' a xs := sqT_mono hid_le (sqT_mono p.hid e)
  refine ⟨fun d ed => ?_, fun ei => ⟨xs, e2, by rw [r.length, ei]; exact Nat.le_refl _⟩⟩
  obtain ⟨y, ey, ry⟩ := r.get ed
  refine ⟨⟨xs, y, e2, ey⟩, fun x H'' ⟨eh, hx⟩ => ?_⟩
  subst eh
  have := hx xs e2
  rw [ey] at this
  cases this
  exact ⟨fun _ _ z => z, ry.mono p.hid⟩
theorem wi_seq (ha : WE G a ρ fun d _ => ∃ l, seqD d = some l ∧ B l) : WI G tg a ρ B := fun h σ H S =>
  Iv.of (pi_seq pe_self) ((ha h σ H S).mono fun x H1 ⟨x1, d, _, r, _, l, ed, p⟩ => by
    cases r with
    | lst s q =>
      cases ed
      exact ⟨_, rfl, .inl ⟨⟨_, .of (hid_le _ _ s)⟩, fun hd => ⟨x1, _, its_list s q, by rw [← q.length]; exact hd.lst (hid_le _ _ s), p⟩⟩⟩
    | tup s q =>
      cases ed
      exact ⟨_, rfl, .inr ⟨⟨_, sqT_mono hid_le s⟩, fun hd => ⟨x1, _, its_tup s q, by rw [← q.length]; exact hd.tup (sqT_mono hid_le s), p⟩⟩⟩
    | _ => cases ed)
theorem its_rng {K : PySem.W.Frag} {g : Option Rg} (lo : Int) (n : Nat) : ItS K g h H (Itr lo n) ((List.range n).map fun i => D.int (lo + (i : Nat))) := fun h' H' p t i => by
  refine ⟨fun d ed => ?_, fun ei => ?_⟩
  · rw [List.getElem?_map] at ed
    cases q : (List.range n)[i]? with
    | none => rw [q] at ed; cases ed
    | some j =>
      rw [q] at ed
      obtain ⟨hi, ej⟩ := List.getElem?_eq_some_iff.mp q
      rw [List.length_range] at hi
      rw [List.getElem_range] at ej
      subst ej
      have ed' : D.int (lo + ((i : Nat) : Int)) = d := Option.some.inj ed
      refine ⟨hi, fun x H'' ⟨eh, ex⟩ => ?_⟩
      subst eh ex
      rw [← ed']
      exact ⟨fun _ _ z => z, .int _⟩
  · have : n ≤ i := by rw [ei]; simp
    exact this
theorem wi_rng1 {p : Pos} (ok : GOk G sc R) (hx : sc.names.lookup ("range" : Str) = some .globalImplicit) (he : starEach [a] G.X.env = [(false, eval a G.X.env)])
    (ha : WE G a ρ fun d _ => ∃ n, d = .int n ∧ -(2 ^ 62) ≤ n ∧ n ≤ sizeLine ∧ B (rgD 0 n)) : WI G tg (.Call (.Name "range" p) [a] [] pos) ρ B := fun h σ H S =>
  Iv.of (pi_range1 (ok.sv.glb _ hx) (ok.bi _ (by decide)) (pa_cons pe_self pa_nil he) he) ((ha h σ H S).mono fun x H1 ⟨x1, d, _, r, _, n, ed, h1, h2, p⟩ => by
    subst ed
    cases r
    have hz : (sizeLine : Int) < 2 ^ 62 := by decide
    refine ⟨n, rfl, h1, by omega, fun _ => ⟨x1, rgD 0 n, ?_, ?_, p⟩⟩
    · have := its_rng (K := G.X.K) (g := G.g) (h := h) (H := H1) 0 n.toNat
      unfold rgD
      rw [show n - 0 = n by omega]
      exact this
    · unfold rgD
      rw [List.length_map, List.length_range]
      omega)
theorem wi_rng2 {p : Pos} (ok : GOk G sc R) (hx : sc.names.lookup ("range" : Str) = some .globalImplicit) (he : starEach [a, b] G.X.env = [(false, eval a G.X.env), (false, eval b G.X.env)]) (he2 : starEach [b] G.X.env = [(false, eval b G.X.env)])
    (ha : WE G a ρ fun d _ => WE G b ρ fun d2 _ => ∃ m n, d = .int m ∧ d2 = .int n ∧ -(2 ^ 62) ≤ m ∧ m < 2 ^ 62 ∧ -(2 ^ 62) ≤ n ∧ n < 2 ^ 62 ∧ (n - m).toNat ≤ sizeLine ∧ B (rgD m n)) : WI G tg (.Call (.Name "range" p) [a, b] [] pos) ρ B := fun h σ H S =>
  Iv.of (pi_range2 (ok.sv.glb _ hx) (ok.bi _ (by decide)) (pa_cons pe_self (pa_cons pe_self pa_nil he2) (by rw [he, he2])) he he2) ((ha h σ H S).mono fun x H1 ⟨x1, d, _, r, _, p1⟩ => (p1 h σ H1 (S.ext x1)).mono fun y H2 ⟨x2, d2, _, r2, _, m, n, ed, ed2, h1, h2, h3, h4, h5, p⟩ => by
    subst ed ed2
    cases r
    cases r2
    refine ⟨m, n, rfl, ⟨h1, h2, h3, h4⟩, fun _ => ⟨x1.trans x2, rgD m n, its_rng m _, ?_, p⟩⟩
    unfold rgD
    rw [List.length_map, List.length_range]
    exact h5)
def zipDD (l m : List D) : List D := List.zipWith (fun a b => .tup [a, b]) l m
theorem its_zip {K : PySem.W.Frag} {g : Option Rg} {k1 k2 : Bool} {a b : Addr} {xs ys : List V} {ds es : List D} (q1 : ∀ h' H', Pers h H h' H' → SqX k1 K H' a xs) (q2 : ∀ h' H', Pers h H h' H' → SqX k2 K H' b ys)
    (r : DrL K g (hid h H) xs ds) (r2 : DrL K g (hid h H) ys es) : ItS K g h H (ItzX k1 k2 K a b) (zipDD ds es) := fun h' H' p t i => by
  refine ⟨fun d ed => ?_, fun ei => ?_⟩
  · unfold zipDD at ed
    rw [List.getElem?_zipWith] at ed
    cases e1 : ds[i]? with
    | none => rw [e1] at ed; cases ed
    | some d1 =>
      cases e2 : es[i]? with
      | none => rw [e1, e2] at ed; cases ed
      | some d2 =>
        rw [e1, e2] at ed
        have ed' : D.tup [d1, d2] = d := Option.some.inj ed
        subst ed'
        obtain ⟨x1, ex1, rx1⟩ := r.get e1
        obtain ⟨x2, ex2, rx2⟩ := r2.get e2
        refine ⟨⟨xs, ys, x1, x2, q1 _ _ p, q2 _ _ p, ex1, ex2⟩, fun v H'' ⟨T, y1, y2, ev, nT, eh, f1, f2⟩ => ?_⟩
        subst ev eh
        have g1 := f1 xs (q1 _ _ p)
        rw [ex1] at g1
        cases g1
        have g2 := f2 ys (q2 _ _ p)
        rw [ex2] at g2
        cases g2
        have k : ∀ a o, H' a = some o → upd H' T (.tup [x1, x2]) a = some o := fun a o e => by rw [upd_ne (ne_of_none e nT)]; exact e
        refine ⟨k, ?_⟩
        have nh : ¬ h' T := fun z => by
          obtain ⟨o, q⟩ := t T z
          rw [nT] at q; cases q
        have m : ∀ a o, hid h H a = some o → hid h' (upd H' T (.tup [x1, x2])) a = some o := fun a o e => by
          obtain ⟨n1, e1⟩ := hid_some (p.hid a o e)
          exact hid_of n1 (k a o e1)
        exact .tup (.inl (.inl (hid_of nh upd_same))) (.cons (rx1.mono m) (.cons (rx2.mono m) .nil))
  · refine ⟨xs, ys, q1 _ _ p, q2 _ _ p, ?_⟩
    unfold zipDD at ei
    rw [List.length_zipWith] at ei
    rw [r.length, r2.length]
    omega
theorem sqX_of {K : PySem.W.Frag} {g : Option Rg} {v : V} {d : D} {l : List D} (r : Dr K g (hid h H) v d) (e : seqD d = some l) : ∃ k a xs, v = .ref a ∧ SqX k K (hid h H) a xs ∧ DrL K g (hid h H) xs l ∧ (∀ h' H', Pers h H h' H' → SqX k K H' a xs) ∧ ∀ X : Cx, Held X H → xs.length ≤ sizeLine := by
  cases r with
  | lst s q =>
    cases e
    refine ⟨true, _, _, rfl, .of s, q, fun h' H' p => ?_, fun X hd => hd.lst (hid_le _ _ s)⟩
    obtain ⟨n, z⟩ := hid_some s
    exact .of (p _ _ z n).1
  | tup s q =>
    cases e
    exact ⟨false, _, _, rfl, s, q, fun h' H' p => sqT_mono hid_le (sqT_mono p.hid s), fun X hd => hd.tup (sqT_mono hid_le s)⟩
  | _ => cases e
theorem wi_zip {p tpos : Pos} {elts : List Expr} {kk : Nat} (ok : GOk G sc R) (hx : sc.names.lookup ("zip" : Str) = some .globalImplicit) (he : starEach [a, b] G.X.env = (false, eval a G.X.env) :: starEach [b] G.X.env) (hpl : (backTo pos (starEach [b] G.X.env)).any (·.1) = false)
    (he2 : starEach [b] G.X.env = (false, eval b G.X.env) :: starEach [] G.X.env)
    (ha : WE G a ρ fun d1 _ => WE G b ρ fun d2 _ => ∃ l m, seqD d1 = some l ∧ seqD d2 = some m ∧ B (zipDD l m)) : WI G (.Tuple elts kk tpos) (.Call (.Name "zip" p) [a, b] [] pos) ρ B := fun h σ H S =>
  Iv.of (pi_zipX (ok.sv.glb _ hx) (ok.bi _ (by decide)) (pa_cons pe_self (pa_cons pe_self pa_nil he2) he) he hpl) ((ha h σ H S).mono fun x H1 ⟨x1, d1, _, r1, _, p1⟩ => (p1 h σ H1 (S.ext x1)).mono fun y H2 ⟨x2, d2, _, r2, _, l, m, e1, e2, p⟩ => by
    have S2 := (S.ext x1).ext x2
    obtain ⟨k1, a1, xs, ex, s1, q1, g1, z1⟩ := sqX_of (r1.mono ((S.ext x1).ent.mono x2)) e1
    obtain ⟨k2, a2, ys, ey, s2, q2, g2, z2⟩ := sqX_of r2 e2
    subst ex ey
    refine ⟨k1, k2, a1, a2, xs, ys, rfl, g1 _ _ (Pers.refl _ _), g2 _ _ (Pers.refl _ _), fun hd => ⟨x1.trans x2, _, its_zip g1 g2 q1 q2, ?_, p⟩⟩
    unfold zipDD
    rw [List.length_zipWith, ← q1.length]
    have := z1 _ hd
    omega)
end
/-! ### targets -/
mutual
inductive Tg where
  | nm (i : Nat)
  | tp (ts : Tgs)
inductive Tgs where
  | nil
  | cons (t : Tg) (ts : Tgs)
end
mutual
def Tg.slots : Tg → List Nat
  | .nm i => [i]
  | .tp ts => ts.slots
def Tgs.slots : Tgs → List Nat
  | .nil => []
  | .cons t ts => t.slots ++ ts.slots
end
mutual
/-- what a target's names hold then -/
def wTg : Tg → D → Rho → (Rho → Prop) → Prop
  | .nm i, d, ρ, P => P (ρ.set i (.val d))
  | .tp ts, .tup ds, ρ, P => wTgs ts ds ρ P
  | .tp _, _, _, _ => False
def wTgs : Tgs → List D → Rho → (Rho → Prop) → Prop
  | .nil, [], ρ, P => P ρ
  | .cons t ts, d :: ds, ρ, P => wTg t d ρ fun ρ' => wTgs ts ds ρ' P
  | _, _, _, _ => False
end
def Gv (X : Cx) (tg : Expr) : TG := fun v σ H Q => ∀ (pins : List (Addr × Obj)) (s : Shared) (u : Value), Inv X pins σ H s → RelV v u → wpAny (model X.prog X.w) X.A (assign tg X.env u) (fun _ s' => ∃ σ' H', Inv X pins σ' H' s' ∧ Q σ' H') X.xe s
def Gvs (X : Cx) (ts : List Expr) : TGs := fun vs σ H Q => ∀ (pins : List (Addr × Obj)) (s : Shared) (us : List Value), Inv X pins σ H s → Vals vs us → wpAny (model X.prog X.w) X.A (assignInOrder ((assignEach ts X.env).map (·.2)) us) (fun _ s' => ∃ σ' H', Inv X pins σ' H' s' ∧ Q σ' H') X.xe s
section
variable {X : Cx} {tg : Expr} {ts : List Expr} {v : V} {vs : List V} {σ : L2.St} {H : Hp}
theorem pg_self : PG X tg (Gv X tg) := ⟨fun pins s _ _ _ u _ I r h => h pins s u I r⟩
theorem pgs_self : PGs X ts (Gvs X ts) := ⟨fun pins s _ _ _ u _ I r h => h pins s u I r⟩
theorem Gv.of {t : TG} {Q : L2.St → Hp → Prop} (h : PG X tg t) (q : t v σ H Q) : Gv X tg v σ H Q := fun pins s u I r => h.run pins s σ H v u Q I r q
theorem Gvs.of {t : TGs} {Q : L2.St → Hp → Prop} (h : PGs X ts t) (q : t vs σ H Q) : Gvs X ts vs σ H Q := fun pins s u I r => h.run pins s σ H vs u Q I r q
theorem Gv.mono {Q Q' : L2.St → Hp → Prop} (h : Gv X tg v σ H Q) (f : ∀ σ' H', Q σ' H' → Q' σ' H') : Gv X tg v σ H Q' := fun pins s u I r => thn (h pins s u I r) fun _ _ ⟨σ', H', I', q⟩ => ⟨σ', H', I', f _ _ q⟩
theorem Gvs.mono {Q Q' : L2.St → Hp → Prop} (h : Gvs X ts vs σ H Q) (f : ∀ σ' H', Q σ' H' → Q' σ' H') : Gvs X ts vs σ H Q' := fun pins s u I r => thn (h pins s u I r) fun _ _ ⟨σ', H', I', q⟩ => ⟨σ', H', I', f _ _ q⟩
end
/-- only these slots differ -/
def OffSl (l : List Nat) (σ σ' : L2.St) : Prop := σ'.length = σ.length ∧ ∀ j, j ∉ l → σ'[j]? = σ[j]?
theorem OffSl.trans {l m : List Nat} {σ σ1 σ2 : L2.St} (a : OffSl l σ σ1) (b : OffSl m σ1 σ2) : OffSl (l ++ m) σ σ2 := ⟨b.1.trans a.1, fun j n => by
  rw [List.mem_append, not_or] at n
  exact (b.2 j n.2).trans (a.2 j n.1)⟩
/-- a target takes d -/
def WG (G : Gm) (tg : Expr) (l : List Nat) (d : D) (ρ : Rho) (P : Rho → Prop) : Prop := ∀ h σ H v, StOk G h σ ρ H → Dr G.X.K G.g (hid h H) v d → Gv G.X tg v σ H fun σ' H' => H' = H ∧ OffSl l σ σ' ∧ ∃ ρ', StOk G h σ' ρ' H ∧ P ρ'
def WGs (G : Gm) (ts : List Expr) (l : List Nat) (ds : List D) (ρ : Rho) (P : Rho → Prop) : Prop := ∀ h σ H vs, StOk G h σ ρ H → DrL G.X.K G.g (hid h H) vs ds → Gvs G.X ts vs σ H fun σ' H' => H' = H ∧ OffSl l σ σ' ∧ ∃ ρ', StOk G h σ' ρ' H ∧ P ρ'
section
variable {G : Gm} {sc : Scope} {R : Exn → Prop} {ρ : Rho} {h : Addr → Prop} {σ : L2.St} {H H1 H2 : Hp} {P : Rho → Prop} {e a b c tg : Expr} {es : List Expr} {pos : Pos}
/-- a slot is stored -/
theorem StOk.set {i : Nat} {v : V} {d : D} (S : StOk G h σ ρ H) (r : Dr G.X.K G.g (hid h H) v d) : StOk G h (σ.set i (some v)) (ρ.set i (.val d)) H := by
  refine ⟨S.ent, by rw [List.length_set, List.length_set, S.len], ?_⟩
  obtain ⟨own, h1, h2, h3⟩ := S.sl
  have back : ∀ (j : Nat) (s : Sl), (ρ.set i (.val d))[j]? = some s → s.own → ρ[j]? = some s := fun j s e o => by
    by_cases q : i = j
    · subst q
      by_cases z : i < ρ.length
      · rw [List.getElem?_set_self z] at e
        cases e
        exact o.elim
      · rw [List.getElem?_eq_none (by simpa using z)] at e; cases e
    · rw [List.getElem?_set_ne q] at e
      exact e
  refine ⟨own, fun j k s t e1 e2 o1 o2 q => h1 j k s t (back j s e1 o1) (back k t e2 o2) o1 o2 q, fun j s e o => h2 j s (back j s e o) o, fun j s o e1 e2 => ?_⟩
  by_cases q : i = j
  · subst q
    by_cases z : i < ρ.length
    · rw [List.getElem?_set_self z] at e1
      rw [List.getElem?_set_self (by rw [S.len]; exact z)] at e2
      cases e1
      cases e2
      exact ⟨v, rfl, r⟩
    · rw [List.getElem?_eq_none (by simpa using z)] at e1; cases e1
  · rw [List.getElem?_set_ne q] at e1 e2
    exact h3 j s o e1 e2
theorem OffSl.set {i : Nat} {v : Option V} : OffSl [i] σ (σ.set i v) := ⟨List.length_set, fun j n => by
  rw [List.mem_singleton] at n
  exact List.getElem?_set_ne (Ne.symm n)⟩
theorem wg_name {i : Nat} {x : Str} {d : D} (nd : G.X.N.Nodup) (hi : G.X.N[i]? = some x) (hx : Loc G.X.env.scope x) (hf : G.X.fn x = true ∨ G.X.env.scope.names.lookup x = some .local) (p : P (ρ.set i (.val d))) : WG G (.Name x pos) [i] d ρ P := fun h σ H v S r =>
  Gv.of (pg_name nd hi hx hf) ⟨rfl, OffSl.set, _, S.set r, p⟩
theorem wgs_nil (p : P ρ) : WGs G [] [] [] ρ P := fun h σ H vs S r => by
  cases r
  exact Gvs.of pgs_nil ⟨rfl, rfl, ⟨rfl, fun _ _ => rfl⟩, ρ, S, p⟩
theorem wgs_cons {l m : List Nat} {d : D} {ds : List D} (hs : (assignEach (e :: es) G.X.env).map (·.2) = assign e G.X.env :: (assignEach es G.X.env).map (·.2)) (w : WG G e l d ρ fun ρ' => WGs G es m ds ρ' P) : WGs G (e :: es) (l ++ m) (d :: ds) ρ P := fun h σ H vs S r => by
  cases r with
  | cons r t =>
    refine Gvs.of (pgs_cons pg_self pgs_self hs) ⟨_, _, rfl, (w h σ H _ S r).mono fun σ' H' ⟨eh, off, ρ', S', q⟩ => ?_⟩
    subst eh
    exact (q h σ' H' _ S' t).mono fun σ2 H2 ⟨eh2, off2, ρ2, S2, q2⟩ => ⟨eh2, off.trans off2, ρ2, S2, q2⟩
theorem wg_tup {l : List Nat} {k : Nat} {ds : List D} (calm : G.X.calm = true) (hn : (assignEach es G.X.env).length = ds.length) (hst : (assignEach es G.X.env).findIdx? (·.1) = none) (w : WGs G es l ds ρ P) : WG G (.Tuple es k pos) l (.tup ds) ρ P := fun h σ H v S r => by
  cases r with
  | tup s q => exact Gv.of (pg_tup calm pgs_self hn hst) ⟨_, _, rfl, sqT_mono hid_le s, q.length, w h σ H _ S q⟩
end
/-! ### comprehensions -/
/-- the slots of the block's own names forgotten -/
def wipeR (ρ : Rho) : List Nat → Rho
  | [] => ρ
  | v :: vs => (wipeR ρ vs).set v .un
theorem wipeR_len (ρ : Rho) : ∀ vs : List Nat, (wipeR ρ vs).length = ρ.length
  | [] => rfl
  | v :: vs => by unfold wipeR; rw [List.length_set, wipeR_len ρ vs]
theorem wipe_idem (σ : L2.St) (vs : List Nat) {σ' : L2.St} (o : OffSl vs (wipe σ vs) σ') : wipe σ' vs = wipe σ vs := by
  have at_ : ∀ (τ : L2.St) (us : List Nat) (j : Nat), j ∈ us → j < τ.length → (wipe τ us)[j]? = some none := by
    intro τ us
    induction us with
    | nil => intro j h; cases h
    | cons u us ih =>
      intro j h hl
      unfold wipe
      by_cases e : u = j
      · subst e
        rw [List.getElem?_set_self (by rw [wipe_length]; exact hl)]
      · rw [List.getElem?_set_ne e]
        rcases List.mem_cons.mp h with z | z
        · exact absurd z.symm e
        · exact ih j z hl
  have off : ∀ (τ : L2.St) (us : List Nat) (j : Nat), j ∉ us → (wipe τ us)[j]? = τ[j]? := by
    intro τ us
    induction us with
    | nil => intro j _; rfl
    | cons u us ih =>
      intro j h
      rw [List.mem_cons, not_or] at h
      unfold wipe
      rw [List.getElem?_set_ne (Ne.symm h.1)]
      exact ih j h.2
  have hl : σ'.length = σ.length := by rw [o.1, wipe_length]
  apply List.ext_getElem?
  intro j
  by_cases m : j ∈ vs
  · by_cases z : j < σ.length
    · rw [at_ σ' vs j m (by rw [hl]; exact z), at_ σ vs j m z]
    · rw [List.getElem?_eq_none (by rw [wipe_length]; omega), List.getElem?_eq_none (by rw [wipe_length]; omega)]
  · rw [off σ' vs j m, o.2 j m]
/-- the turns of a comprehension over data -/
def wLoop (turn : D → (Option D → Prop) → Prop) : List D → List D → (List D → Prop) → Prop
  | [], acc, P => P acc
  | d :: r, acc, P => turn d fun o => match o with
    | some x => wLoop turn r (acc ++ [x]) P
    | none => wLoop turn r acc P
/-- the block's run -/
abbrev Gm.blk (G : Gm) (s : Shared) (Hb : Hp) (scope : Scope) (C : Addr) (cl : List (Str × Addr)) (fp : List Addr) : Gm := { G with X := G.X.blk s Hb scope (compEnvC scope cl C G.X.env) fp }
def WTs (G : Gm) (ifs : List Expr) (ρ : Rho) (P : Bool → Prop) : Prop := match ifs with
  | [] => P true
  | [c] => WT G c ρ P
  | _ => False
section
variable {G : Gm} {sc : Scope} {R : Exn → Prop} {ρ : Rho} {h : Addr → Prop} {σ : L2.St} {H H1 H2 : Hp} {P : D → Bool → Prop} {e a b c tg elt iter : Expr} {es ifs : List Expr} {pos : Pos}
theorem StOk.wipe (S : StOk G h σ ρ H) (vs : List Nat) : StOk G h (L2.wipe σ vs) (wipeR ρ vs) H := by
  refine ⟨S.ent, by rw [wipe_length, wipeR_len, S.len], ?_⟩
  obtain ⟨own, h1, h2, h3⟩ := S.sl
  have back : ∀ (us : List Nat) (j : Nat) (s : Sl), (wipeR ρ us)[j]? = some s → s = .un ∨ ρ[j]? = some s := by
    intro us
    induction us with
    | nil => intro j s e; exact .inr e
    | cons u us ih =>
      intro j s e
      unfold wipeR at e
      by_cases q : u = j
      · subst q
        by_cases z : u < (wipeR ρ us).length
        · rw [List.getElem?_set_self z] at e; cases e; exact .inl rfl
        · rw [List.getElem?_eq_none (by simpa using z)] at e; cases e
      · rw [List.getElem?_set_ne q] at e
        exact ih j s e
  have both : ∀ (us : List Nat) (j : Nat) (s : Sl) (o : Option V), (wipeR ρ us)[j]? = some s → (L2.wipe σ us)[j]? = some o → s = .un ∨ (ρ[j]? = some s ∧ σ[j]? = some o) := by
    intro us
    induction us with
    | nil => intro j s o e1 e2; exact .inr ⟨e1, e2⟩
    | cons u us ih =>
      intro j s o e1 e2
      unfold wipeR at e1
      unfold L2.wipe at e2
      by_cases q : u = j
      · subst q
        by_cases z : u < (wipeR ρ us).length
        · rw [List.getElem?_set_self z] at e1; cases e1; exact .inl rfl
        · rw [List.getElem?_eq_none (by simpa using z)] at e1; cases e1
      · rw [List.getElem?_set_ne q] at e1 e2
        exact ih j s o e1 e2
  refine ⟨own, fun i j s t e1 e2 o1 o2 q => ?_, fun i s e o => ?_, fun i s o e1 e2 => ?_⟩
  · rcases back vs i s e1 with z | z
    · subst z; exact o1.elim
    · rcases back vs j t e2 with z' | z'
      · subst z'; exact o2.elim
      · exact h1 i j s t z z' o1 o2 q
  · rcases back vs i s e with z | z
    · subst z; exact o.elim
    · exact h2 i s z o
  · rcases both vs i s o e1 e2 with z | ⟨z1, z2⟩
    · subst z; trivial
    · exact h3 i s o z1 z2
/-- one more hidden address, new -/
theorem StOk.hide {p : Addr} {o : HO} (S : StOk G h σ ρ H) (n : H p = none) : StOk G (fun a => h a ∨ a = p) σ ρ (upd H p o) := by
  have k : ∀ a u, H a = some u → upd H p o a = some u := fun a u e => by rw [upd_ne (ne_of_none e n)]; exact e
  have m : ∀ a u, hid h H a = some u → hid (fun a => h a ∨ a = p) (upd H p o) a = some u := fun a u e => by
    obtain ⟨n1, e1⟩ := hid_some e
    refine hid_of (fun z => ?_) (k a u e1)
    rcases z with z | z
    · exact n1 z
    · rw [z, n] at e1; cases e1
  refine ⟨⟨fun a u e na => ?_, fun a z => .inl (S.ent.sub a z), S.ent.reg, S.ent.trk0, fun a z => ?_, (Ext.new (g := G.g) n).ok S.ent.ok⟩, S.len, ?_⟩
  · obtain ⟨q1, q2⟩ := S.ent.keep a u e na
    refine ⟨k a u q1, fun z => ?_⟩
    rcases z with z | z
    · exact q2 z
    · rw [z, n] at q1; cases q1
  · rcases z with z | z
    · obtain ⟨u, q⟩ := S.ent.trk a z
      exact ⟨u, k a u q⟩
    · rw [z]; exact ⟨o, upd_same⟩
  · obtain ⟨own, h1, h2, h3⟩ := S.sl
    exact ⟨own, h1, h2, fun i s v e1 e2 => (h3 i s v e1 e2).mono m fun q z => ⟨.inl z, fun u e => k _ u e⟩⟩
/-- .. the new one stands already -/
theorem StOk.hideX {p : Addr} {o : HO} (S : StOk G h σ ρ H) (n : H p = none) (x : Ext G.g H H1) (e : H1 p = some o) : StOk G (fun a => h a ∨ a = p) σ ρ H1 := by
  have m : ∀ a u, hid h H a = some u → hid (fun a => h a ∨ a = p) H1 a = some u := fun a u e => by
    obtain ⟨n1, e1⟩ := hid_some e
    refine hid_of (fun z => ?_) (x.keep a u (S.ent.vis n1) e1)
    rcases z with z | z
    · exact n1 z
    · rw [z, n] at e1; cases e1
  have en := S.ent.ext x
  refine ⟨⟨fun a u e na => ?_, fun a z => .inl (S.ent.sub a z), S.ent.reg, S.ent.trk0, fun a z => ?_, en.ok⟩, S.len, ?_⟩
  · obtain ⟨q1, q2⟩ := S.ent.keep a u e na
    refine ⟨x.keep a u na q1, fun z => ?_⟩
    rcases z with z | z
    · exact q2 z
    · rw [z, n] at q1; cases q1
  · rcases z with z | z
    · exact en.trk a z
    · rw [z]; exact ⟨o, e⟩
  · obtain ⟨own, h1, h2, h3⟩ := S.sl
    exact ⟨own, h1, h2, fun i s v e1 e2 => (h3 i s v e1 e2).mono m fun q z => ⟨.inl z, fun u e => x.keep _ u (S.ent.nreg (h2 i s e1 q)) e⟩⟩
theorem StOk.blk (S : StOk G h σ ρ H) (s : Shared) (Hb : Hp) (scope : Scope) (C : Addr) (cl : List (Str × Addr)) (fp : List Addr) : StOk (G.blk s Hb scope C cl fp) h σ ρ H :=
  ⟨⟨S.ent.keep, S.ent.sub, S.ent.reg, S.ent.trk0, S.ent.trk, S.ent.ok⟩, S.len, S.sl⟩
theorem StOk.unblk {s : Shared} {Hb : Hp} {scope : Scope} {C : Addr} {cl : List (Str × Addr)} {fp : List Addr} (S : StOk (G.blk s Hb scope C cl fp) h σ ρ H) : StOk G h σ ρ H :=
  ⟨⟨S.ent.keep, S.ent.sub, S.ent.reg, S.ent.trk0, S.ent.trk, S.ent.ok⟩, S.len, S.sl⟩
def GB (X : Cx) (scope : Scope) (tg : Expr) : TG := fun v σ H Q => ∀ (s : Shared) (Hb : Hp) (C : Addr) (cl : List (Str × Addr)) (fp : List Addr), Gv (X.blk s Hb scope (compEnvC scope cl C X.env) fp) tg v σ H Q
def EB (X : Cx) (scope : Scope) (e : Expr) : TE := fun σ H Q => ∀ (s : Shared) (Hb : Hp) (C : Addr) (cl : List (Str × Addr)) (fp : List Addr), Ev (X.blk s Hb scope (compEnvC scope cl C X.env) fp) e σ H Q
def TB (X : Cx) (scope : Scope) (ifs : List Expr) : TT := match ifs with
  | [] => tYes
  | [c] => fun σ H Q => ∀ (s : Shared) (Hb : Hp) (C : Addr) (cl : List (Str × Addr)) (fp : List Addr), Tv (X.blk s Hb scope (compEnvC scope cl C X.env) fp) c σ H Q
  | _ => fun _ _ _ => False
theorem pts_B {X : Cx} {scope : Scope} (s : Shared) (Hb : Hp) (C : Addr) (cl : List (Str × Addr)) (fp : List Addr) : PTs (X.blk s Hb scope (compEnvC scope cl C X.env) fp) ifs (TB X scope ifs) := by
  match ifs with
  | [] => exact pts_nil
  | [c] => exact pts_one ⟨fun pins s' _ _ _ I h => h s Hb C cl fp pins s' I⟩
  | _ :: _ :: _ => exact ⟨fun _ _ _ _ _ _ h => h.elim⟩
/-- a comprehension over data: A the target, Bt the test, Ce the element -/
theorem comp_rd {scope : Scope} {vs : List Nat} {l : List Nat} {A : D → Rho → (Rho → Prop) → Prop} {Bt : Rho → (Bool → Prop) → Prop} {Ce : Rho → (D → Prop) → Prop} (hl : ∀ j ∈ l, j ∈ vs)
    (hA : ∀ s Hb C cl fp d ρ P, A d ρ P → WG (G.blk s Hb scope C cl fp) tg l d ρ P) (hB : ∀ s Hb C cl fp ρ P, Bt ρ P → WTs (G.blk s Hb scope C cl fp) ifs ρ P) (hC : ∀ s Hb C cl fp ρ P, Ce ρ P → WE (G.blk s Hb scope C cl fp) elt ρ fun d _ => P d)
    (w : WI G tg iter ρ fun items => wLoop (fun d k => A d (wipeR ρ vs) fun ρ' => Bt ρ' fun b => if b = true then Ce ρ' fun x => k (some x) else k none) items [] fun acc => P (.lst acc) true)
    (S : StOk G h σ ρ H) {Q : VK} (fin : ∀ v H', EQ G h H P v H' → Q v H') : tLc (Iv G.X tg iter) (GB G.X scope tg) (TB G.X scope ifs) (EB G.X scope elt) vs σ H Q := by
  intro pins s I
  refine thn (w h σ H S pins s I) fun v s1 q1 => thn q1 fun itv s2 ⟨it, fp0, tn, J, H1, e1, I', T, st, f, x1, items, its, hz, wl⟩ => ⟨it, fp0, tn, J, H1, e1, I', T, st, f, fun L nL => ?_⟩
  have S1 := S.ext x1
  generalize hturn : (fun (d : D) (k : Option D → Prop) => A d (wipeR ρ vs) fun ρ' => Bt ρ' fun b => if b = true then Ce ρ' fun x => k (some x) else k none) = turn at wl
  refine ⟨fun i m H' => m = items.length - i ∧ i ≤ items.length ∧ Ext G.g H1 H' ∧ ∃ accV acc, H' L = some (.lst accV) ∧ DrL G.X.K G.g (hid (fun a => h a ∨ a = L) H') accV acc ∧ acc.length ≤ i ∧ wLoop turn (items.drop i) acc fun acc => P (.lst acc) true,
    ⟨items.length, rfl, Nat.zero_le _, Ext.new nL, [], [], upd_same, .nil, Nat.le_refl _, wl⟩, ?_⟩
  rintro i m H' ⟨rfl, hi, xi, accV, acc, eL, rL, hac, wi⟩
  have nadr : ¬ adr G.g L := fun z => by
    obtain ⟨o, q⟩ := rok_trk S1.ent.ok z
    rw [nL] at q; cases q
  have pers : Pers h H1 (fun a => h a ∨ a = L) H' := fun a o e n => ⟨xi.keep a o (S1.ent.vis n) e, fun z => by
    rcases z with z | z
    · exact n z
    · rw [z, nL] at e; cases e⟩
  have Si := S1.hideX nL xi eL
  by_cases hlt : i < items.length
  · have ed : items[i]? = some items[i] := List.getElem?_eq_getElem hlt
    obtain ⟨go, yl⟩ := (its _ H' pers Si.ent.trk i).1 _ ed
    refine .inr ⟨go, fun H5 => Ext G.g H1 H5 ∧ ∃ accV acc, H5 L = some (.lst accV) ∧ DrL G.X.K G.g (hid (fun a => h a ∨ a = L) H5) accV acc ∧ acc.length ≤ i + 1 ∧ wLoop turn (items.drop (i + 1)) acc fun acc => P (.lst acc) true, fun H5 q => ⟨_, by omega, rfl, hlt, q⟩, fun x H2 y => ?_⟩
    obtain ⟨k2, r2⟩ := yl x H2 y
    have x2 : Ext G.g H' H2 := .same k2
    have S2 := (S1.hideX nL (xi.trans x2) (k2 _ _ eL)).wipe vs
    rw [List.drop_eq_getElem_cons hlt] at wi
    have wi' : turn items[i] fun o => match o with
        | some x => wLoop turn (items.drop (i + 1)) (acc ++ [x]) fun acc => P (.lst acc) true
        | none => wLoop turn (items.drop (i + 1)) acc fun acc => P (.lst acc) true := wi
    have wi2 := Eq.mpr (congrFun (congrFun hturn items[i]) _) wi'
    intro bs bH bC bcl bfp
    refine (hA bs bH bC bcl bfp _ _ _ wi2 _ _ _ _ (S2.blk bs bH scope bC bcl bfp) r2).mono fun σ3 H3 ⟨eh, off, ρ3, S3, w3⟩ => ?_
    subst eh
    have S3' : StOk G _ σ3 ρ3 H3 := S3.unblk
    have wp : wipe σ3 vs = wipe σ vs := wipe_idem σ vs ⟨off.1, fun j n => off.2 j fun z => n (hl j z)⟩
    refine ⟨wp, ?_⟩
    have elk : ∀ (H3' : Hp), Ext G.g H3 H3' → ∀ ρ4, True → ∀ σ4, StOk G (fun a => h a ∨ a = L) σ4 ρ4 H3' → ∀ b : Bool, (if b = true then Ce ρ4 fun x => wLoop turn (items.drop (i + 1)) (acc ++ [x]) fun acc => P (.lst acc) true else wLoop turn (items.drop (i + 1)) acc fun acc => P (.lst acc) true) →
        (if b = true then EB G.X scope elt σ4 H3' fun y H4 => ∃ acc, H4 L = some (.lst acc) ∧ acc.length < sizeLine ∧ (fun H5 => Ext G.g H1 H5 ∧ ∃ accV acc, H5 L = some (.lst accV) ∧ DrL G.X.K G.g (hid (fun a => h a ∨ a = L) H5) accV acc ∧ acc.length ≤ i + 1 ∧ wLoop turn (items.drop (i + 1)) acc fun acc => P (.lst acc) true) (upd H4 L (.lst (acc ++ [y])))
        else (fun H5 => Ext G.g H1 H5 ∧ ∃ accV acc, H5 L = some (.lst accV) ∧ DrL G.X.K G.g (hid (fun a => h a ∨ a = L) H5) accV acc ∧ acc.length ≤ i + 1 ∧ wLoop turn (items.drop (i + 1)) acc fun acc => P (.lst acc) true) H3') := fun H3' x3 ρ4 _ σ4 S4 b wb => by
      have xx := (xi.trans x2).trans x3
      have eL3 : H3' L = some (.lst accV) := x3.keep _ _ nadr (k2 _ _ eL)
      have rL3 : DrL G.X.K G.g (hid (fun a => h a ∨ a = L) H3') accV acc := rL.mono (Si.ent.mono (x2.trans x3))
      cases b with
      | false =>
        rw [if_neg Bool.false_ne_true] at wb ⊢
        exact ⟨xx, accV, acc, eL3, rL3, Nat.le_succ_of_le hac, wb⟩
      | true =>
        rw [if_pos rfl] at wb ⊢
        intro bs bH bC bcl bfp
        refine (hC bs bH bC bcl bfp _ _ wb _ _ _ (S4.blk bs bH scope bC bcl bfp)).mono fun y H4 ⟨x4, d4, fr, r4, _, w4⟩ => ?_
        have x4 : Ext G.g H3' H4 := x4
        have eL4 : H4 L = some (.lst accV) := x4.keep _ _ nadr eL3
        have hv : ∀ a u, hid (fun a => h a ∨ a = L) H4 a = some u → hid (fun a => h a ∨ a = L) (upd H4 L (.lst (accV ++ [y]))) a = some u := fun a u e => by
          obtain ⟨n1, e1⟩ := hid_some e
          exact hid_of n1 (by rw [upd_ne fun z => n1 (.inr z)]; exact e1)
        refine ⟨accV, eL4, by rw [rL.length]; omega, ⟨fun a o na e => ?_, fun z => ?_⟩, accV ++ [y], acc ++ [d4], upd_same, ((rL3.mono (S4.ent.mono x4)).append (.one r4)).mono hv, ?_, w4⟩
        · rw [upd_ne (fun z => by rw [z, nL] at e; cases e)]
          exact (xx.trans x4).keep a o na e
        · exact rok_mono (fun a o na e => by rw [upd_ne (fun z => nadr (by rw [← z]; exact na))]; exact e) ((xx.trans x4).ok z)
        · rw [List.length_append]
          exact Nat.succ_le_succ hac
    match hif : ifs with
    | [] =>
      exact elk H3 (.refl _) ρ3 trivial σ3 S3' true (hB bs bH bC bcl bfp _ _ w3)
    | [c] =>
      intro bs bH bC bcl bfp
      refine ((hB bs bH bC bcl bfp _ _ w3) _ _ _ (S3'.blk bs bH scope bC bcl bfp)).mono fun b H4 ⟨x4, w4⟩ => ?_
      have x4 : Ext G.g H3 H4 := x4
      exact elk H4 x4 ρ3 trivial σ3 (S3'.ext x4) b w4
    | _ :: _ :: _ => exact (hB bs bH bC bcl bfp _ _ w3).elim
  · have ei : i = items.length := by omega
    refine .inl ⟨(its _ H' pers Si.ent.trk i).2 ei, ?_⟩
    rw [ei, List.drop_length] at wi
    have nh : ¬ h L := S1.ent.fresh nL
    have m : ∀ a u, hid (fun a => h a ∨ a = L) H' a = some u → hid h H' a = some u := fun a u e => by
      obtain ⟨n1, e1⟩ := hid_some e
      exact hid_of (fun z => n1 (.inl z)) e1
    exact fin _ _ ⟨x1.trans xi, _, true, .lst (hid_of nh eL) (rL.mono m), fun _ => ⟨L, accV, acc, rfl, rfl, Ext.none_of S.ent x1 nL, eL, rL⟩, wi⟩
theorem lc_pg {X : Cx} {scope : Scope} (s : Shared) (Hb : Hp) (C : Addr) (cl : List (Str × Addr)) (fp : List Addr) : PG (X.blk s Hb scope (compEnvC scope cl C X.env) fp) tg (GB X scope tg) := ⟨fun pins s' _ _ _ u _ I r h => h s Hb C cl fp pins s' u I r⟩
theorem lc_pe {X : Cx} {scope : Scope} (s : Shared) (Hb : Hp) (C : Addr) (cl : List (Str × Addr)) (fp : List Addr) : PE (X.blk s Hb scope (compEnvC scope cl C X.env) fp) elt (EB X scope elt) := ⟨fun pins s' _ _ _ I h => h s Hb C cl fp pins s' I⟩
theorem we_comp {scope : Scope} {own : List (Str × Nat)} {l : List Nat} {A : D → Rho → (Rho → Prop) → Prop} {Bt : Rho → (Bool → Prop) → Prop} {Ce : Rho → (D → Prop) → Prop} (ok : GOk G sc R) (bo : BlkOk G.X.N G.X.env.scope scope own) (hl : ∀ j ∈ l, j ∈ own.map (·.2))
    (hA : ∀ s Hb C cl fp d ρ P, A d ρ P → WG (G.blk s Hb scope C cl fp) tg l d ρ P) (hB : ∀ s Hb C cl fp ρ P, Bt ρ P → WTs (G.blk s Hb scope C cl fp) ifs ρ P) (hC : ∀ s Hb C cl fp ρ P, Ce ρ P → WE (G.blk s Hb scope C cl fp) elt ρ fun d _ => P d)
    (hs : ∀ x, foldedSetIterable iter G.X.env x = pure x)
    (w : WI G tg iter ρ fun items => wLoop (fun d k => A d (wipeR ρ (own.map (·.2))) fun ρ' => Bt ρ' fun b => if b = true then Ce ρ' fun x => k (some x) else k none) items [] fun acc => P (.lst acc) true) : WE G (.ListComp elt [⟨tg, iter, ifs, 0⟩] scope pos) ρ P := fun h σ H S =>
  Ev.of (pe_lc (own := own) ok.calm ok.nd pi_self bo lc_pg (fun s Hb C cl fp => pts_B s Hb C cl fp) lc_pe hs) (comp_rd hl hA hB hC w S fun _ _ q => q)
end
end Pd
end
section
set_option Elab.async false
set_option linter.all false
set_option maxRecDepth 100000
set_option maxHeartbeats 4000000
/-! ## statements over data -/
namespace Pd
open PySem PySem.Spec PyProof.Rows L2
/-- what is wanted behind a statement -/
structure DE where
  nx : Rho → Prop
  rt : D → Bool → Prop
  bk : Rho → Prop := fun _ => False
  ct : Rho → Prop := fun _ => False
def Sv (X : Cx) (st : Stmt) : TS := fun D σ H => ∀ (pins : List (Addr × Obj)) (s : Shared), Inv X pins σ H s → wpAny (model X.prog X.w) X.A (exec st X.env) (SP X pins D) X.xe s
def Svs (X : Cx) (st : List Stmt) : TS := fun D σ H => ∀ (pins : List (Addr × Obj)) (s : Shared), Inv X pins σ H s → wpAny (model X.prog X.w) X.A (execs st X.env) (SP X pins D) X.xe s
section
variable {X : Cx} {st : Stmt} {sts : List Stmt} {σ : L2.St} {H : Hp} {D D' : Ends}
theorem ps_self : PS X st (Sv X st) := ⟨fun pins s _ _ _ I h => h pins s I⟩
theorem pss_self : PSs X sts (Svs X sts) := ⟨fun pins s _ _ _ I h => h pins s I⟩
theorem Sv.of {t : TS} (h : PS X st t) (q : t D σ H) : Sv X st D σ H := fun pins s I => h.run pins s σ H D I q
theorem Svs.of {t : TS} (h : PSs X sts t) (q : t D σ H) : Svs X sts D σ H := fun pins s I => h.run pins s σ H D I q
theorem SP.mono {pins : List (Addr × Obj)} {f : Flow} {s : Shared} (q : SP X pins D f s) (h1 : ∀ σ' H', D.nx σ' H' → D'.nx σ' H') (h2 : ∀ v H', D.rt v H' → D'.rt v H') (h3 : ∀ σ' H', D.bk σ' H' → D'.bk σ' H') (h4 : ∀ σ' H', D.ct σ' H' → D'.ct σ' H') : SP X pins D' f s := by
  cases f with
  | next => obtain ⟨σ', H', I, q⟩ := q; exact ⟨σ', H', I, h1 _ _ q⟩
  | brk => obtain ⟨σ', H', I, q⟩ := q; exact ⟨σ', H', I, h3 _ _ q⟩
  | cont => obtain ⟨σ', H', I, q⟩ := q; exact ⟨σ', H', I, h4 _ _ q⟩
  | ret u => obtain ⟨v, σ', H', I, r, q⟩ := q; exact ⟨v, σ', H', I, r, h2 _ _ q⟩
theorem Sv.mono (q : Sv X st D σ H) (h1 : ∀ σ' H', D.nx σ' H' → D'.nx σ' H') (h2 : ∀ v H', D.rt v H' → D'.rt v H') (h3 : ∀ σ' H', D.bk σ' H' → D'.bk σ' H') (h4 : ∀ σ' H', D.ct σ' H' → D'.ct σ' H') : Sv X st D' σ H := fun pins s I => thn (q pins s I) fun _ _ z => SP.mono z h1 h2 h3 h4
theorem Svs.mono (q : Svs X sts D σ H) (h1 : ∀ σ' H', D.nx σ' H' → D'.nx σ' H') (h2 : ∀ v H', D.rt v H' → D'.rt v H') (h3 : ∀ σ' H', D.bk σ' H' → D'.bk σ' H') (h4 : ∀ σ' H', D.ct σ' H' → D'.ct σ' H') : Svs X sts D' σ H := fun pins s I => thn (q pins s I) fun _ _ z => SP.mono z h1 h2 h3 h4
end
/-- behind a def -/
def RT (G : Gm) (P : D → Bool → Prop) : VK := fun v H' => (∀ a o, G.H0 a = some o → ¬ adr G.g a → H' a = some o) ∧ rok G.g H' ∧ ∃ d fr, Dr G.X.K G.g (hid G.h0 H') v d ∧ (fr = true → Fr G.X.K G.g G.h0 G.H0 H' v d) ∧ P d fr
def NX (G : Gm) (h : Addr → Prop) (H : Hp) (P : Rho → Prop) : L2.St → Hp → Prop := fun σ' H' => ∃ h' ρ', Pers h H h' H' ∧ StOk G h' σ' ρ' H' ∧ P ρ'
def En (G : Gm) (h : Addr → Prop) (H : Hp) (E : DE) : Ends where
  nx := NX G h H E.nx
  rt := RT G E.rt
  bk := NX G h H E.bk
  ct := NX G h H E.ct
def WS (G : Gm) (st : Stmt) (ρ : Rho) (E : DE) : Prop := ∀ h σ H, StOk G h σ ρ H → Sv G.X st (En G h H E) σ H
def WSs (G : Gm) (sts : List Stmt) (ρ : Rho) (E : DE) : Prop := ∀ h σ H, StOk G h σ ρ H → Svs G.X sts (En G h H E) σ H
section
variable {G : Gm} {sc : Scope} {R : Exn → Prop} {ρ : Rho} {h h' : Addr → Prop} {σ : L2.St} {H H1 H2 : Hp} {P : Rho → Prop} {E : DE} {e a b c tg elt iter : Expr} {es ifs : List Expr} {pos : Pos} {st : Stmt} {sts : List Stmt}
theorem NX.after {σ' : L2.St} {H' : Hp} (p : Pers h H h' H1) (n : NX G h' H1 P σ' H') : NX G h H P σ' H' := by
  obtain ⟨h2, ρ2, p2, S, q⟩ := n
  exact ⟨h2, ρ2, p.trans p2, S, q⟩
theorem pers_ext (en : Ent G h H) (x : Ext G.g H H1) : Pers h H h H1 := fun a o e n => ⟨x.keep a o (en.vis n) e, n⟩
theorem RT.of (en : Ent G h H) {Q : D → Bool → Prop} {v : V} {H' : Hp} (q : EQ G h H Q v H') : RT G Q v H' := by
  obtain ⟨x, d, fr, r, f, p⟩ := q
  have en' := en.ext x
  have m : ∀ a o, hid h H' a = some o → hid G.h0 H' a = some o := hid_sub en.sub fun _ _ _ e => e
  refine ⟨fun a o e n => (en'.keep a o e n).1, en'.ok, d, fr, r.mono m, fun z => ?_, p⟩
  obtain ⟨q, vs, ds, e1, e2, e3, e4, e5⟩ := f z
  refine ⟨q, vs, ds, e1, e2, ?_, e4, e5.mono (hid_sub (fun a z => z.imp (en.sub a) fun z => z) fun _ _ _ e => e)⟩
  cases hq : G.H0 q with
  | none => rfl
  | some o =>
    exfalso
    by_cases n : adr G.g q
    · obtain ⟨u, z⟩ := rok_trk en.ok n
      rw [z] at e3; cases e3
    · rw [(en.keep q o hq n).1] at e3; cases e3
theorem ws_nil (p : E.nx ρ) : WSs G [] ρ E := fun h σ H S => Svs.of pss_nil ⟨h, ρ, Pers.refl h H, S, p⟩
theorem ws_cons (w : WS G st ρ { E with nx := fun ρ' => WSs G sts ρ' E }) : WSs G (st :: sts) ρ E := fun h σ H S =>
  Svs.of (pss_cons ps_self pss_self) ((w h σ H S).mono (fun σ' H' ⟨h', ρ', p, S', q⟩ => (q h' σ' H' S').mono (fun _ _ n => NX.after p n) (fun _ _ n => n) (fun _ _ n => NX.after p n) fun _ _ n => NX.after p n) (fun _ _ z => z) (fun _ _ z => z) fun _ _ z => z)
theorem ws_expr (hs : swapsWith e none pos.line G.X.env = pure false) (w : WE G e ρ fun _ _ => E.nx ρ) : WS G (.Expr e pos) ρ E := fun h σ H S =>
  Sv.of (ps_expr pe_self hs) ((w h σ H S).mono fun v H' ⟨x, d, fr, r, f, p⟩ => ⟨h, ρ, pers_ext S.ent x, S.ext x, p⟩)
theorem ws_ret (w : WE G e ρ E.rt) : WS G (.Return (some e) pos) ρ E := fun h σ H S => Sv.of (ps_ret pe_self) ((w h σ H S).mono fun v H' q => RT.of S.ent q)
theorem ws_retN (p : E.rt .non false) : WS G (.Return none pos) ρ E := fun h σ H S => Sv.of ps_retN (RT.of S.ent (EQ.flat .non p))
theorem ws_if {as bs : List Stmt} (w : WT G c ρ fun k => if k = true then WSs G as ρ E else WSs G bs ρ E) : WS G (.If c as bs pos) ρ E := fun h σ H S =>
  Sv.of (ps_if pt_self pss_self pss_self) ((w h σ H S).mono fun k H' ⟨x, q⟩ => by
    have p := pers_ext S.ent x
    cases k with
    | true =>
      rw [if_pos rfl] at q ⊢
      exact (q h σ H' (S.ext x)).mono (fun _ _ n => NX.after p n) (fun _ _ n => n) (fun _ _ n => NX.after p n) fun _ _ n => NX.after p n
    | false =>
      rw [if_neg Bool.false_ne_true] at q ⊢
      exact (q h σ H' (S.ext x)).mono (fun _ _ n => NX.after p n) (fun _ _ n => n) (fun _ _ n => NX.after p n) fun _ _ n => NX.after p n)
theorem ws_pass (p : E.nx ρ) : WS G (.Pass pos) ρ E := fun h σ H S => Sv.of ps_pass ⟨h, ρ, Pers.refl h H, S, p⟩
theorem ws_brk (p : E.bk ρ) : WS G (.Break pos) ρ E := fun h σ H S => Sv.of ps_break ⟨h, ρ, Pers.refl h H, S, p⟩
theorem ws_cont (p : E.ct ρ) : WS G (.Continue pos) ρ E := fun h σ H S => Sv.of ps_continue ⟨h, ρ, Pers.refl h H, S, p⟩
/-! a name is stored -/
theorem pers_hide {p : Addr} (n : H p = none) (x : Pers h H h H1) : Pers h H (fun a => h a ∨ a = p) H1 := fun a o e na => ⟨(x a o e na).1, fun z => by
  rcases z with z | z
  · exact na z
  · rw [z, n] at e; cases e⟩
/-- a name takes a list that nobody else holds -/
theorem StOk.setL {i : Nat} {p : Addr} {vs : List V} {ds : List D} (S : StOk G h σ ρ H) (x : Ext G.g H H1) (n : H p = none) (e : H1 p = some (.lst vs)) (r : DrL G.X.K G.g (hid (fun a => h a ∨ a = p) H1) vs ds) :
    StOk G (fun a => h a ∨ a = p) (σ.set i (some (.ref p))) (ρ.set i (.ml ds)) H1 := by
  have S1 := S.hideX n x e
  refine ⟨S1.ent, by rw [List.length_set, List.length_set, S.len], ?_⟩
  obtain ⟨own, h1, h2, h3⟩ := S.sl
  obtain ⟨own', h1', h2', h3'⟩ := S1.sl
  have m : ∀ a u, hid h H a = some u → hid (fun a => h a ∨ a = p) H1 a = some u := fun a u q => by
    obtain ⟨n1, e1⟩ := hid_some q
    refine hid_of (fun z => ?_) (x.keep a u (S.ent.vis n1) e1)
    rcases z with z | z
    · exact n1 z
    · rw [z, n] at e1; cases e1
  have ne : ∀ (j : Nat) (s : Sl) (o : Option V), ρ[j]? = some s → s.own → σ[j]? = some o → own j ≠ p := fun j s o e1 os e2 z => by
    have q := h3 j s o e1 e2
    cases s with
    | ml ds => obtain ⟨_, _, vs, q, _⟩ := q; rw [z, n] at q; cases q
    | ins a C ks ws => obtain ⟨_, _, dx, fs, q, _⟩ := q; rw [z, n] at q; cases q
    | _ => exact os
  have back : ∀ (j : Nat) (s : Sl), j ≠ i → (ρ.set i (.ml ds))[j]? = some s → ρ[j]? = some s := fun j s q e => by rw [List.getElem?_set_ne (Ne.symm q)] at e; exact e
  have hlt : ∀ (j : Nat) (s : Sl), ρ[j]? = some s → ∃ o, σ[j]? = some o := fun j s e => by
    have q := (List.getElem?_eq_some_iff.mp e).1
    exact ⟨σ[j]'(by rw [S.len]; exact q), List.getElem?_eq_getElem _⟩
  have np : ¬ G.h0 p := fun z => by
    obtain ⟨o, q⟩ := S.ent.trk p (S.ent.sub p z)
    rw [n] at q; cases q
  refine ⟨fun j => if j = i then p else own j, fun j k s t e1 e2 o1 o2 q => ?_, fun j s e1 o1 => ?_, fun j s o e1 e2 => ?_⟩ <;> dsimp only at *
  · by_cases qj : j = i
    · by_cases qk : k = i
      · rw [qj, qk]
      · rw [if_pos qj, if_neg qk] at q
        obtain ⟨o, eo⟩ := hlt k t (back k t qk e2)
        exact absurd q.symm (ne k t o (back k t qk e2) o2 eo)
    · by_cases qk : k = i
      · rw [if_neg qj, if_pos qk] at q
        obtain ⟨o, eo⟩ := hlt j s (back j s qj e1)
        exact absurd q (ne j s o (back j s qj e1) o1 eo)
      · rw [if_neg qj, if_neg qk] at q
        exact h1 j k s t (back j s qj e1) (back k t qk e2) o1 o2 q
  · by_cases qj : j = i
    · rw [if_pos qj]; exact np
    · rw [if_neg qj]; exact h2 j s (back j s qj e1) o1
  · by_cases qj : j = i
    · subst qj
      have hz : j < ρ.length := by
        have := (List.getElem?_eq_some_iff.mp e1).1
        rw [List.length_set] at this
        exact this
      rw [List.getElem?_set_self hz] at e1
      rw [List.getElem?_set_self (by rw [S.len]; exact hz)] at e2
      cases e1
      cases e2
      rw [if_pos rfl]
      exact ⟨rfl, .inr rfl, vs, e, r⟩
    · rw [List.getElem?_set_ne (Ne.symm qj)] at e2
      rw [if_neg qj]
      have e1' := back j s qj e1
      exact (h3 j s o e1' e2).mono m fun q z => ⟨.inl z, fun u q' => x.keep _ u (S.ent.nreg (h2 j s e1' q)) q'⟩
/-- what a name's store gives: data, or (own) a list of the def's own -/
def setQ (own : Bool) (i : Nat) (ρ : Rho) (P : Rho → Prop) : D → Bool → Prop := fun d fr => match own with
  | false => P (ρ.set i (.val d))
  | true => fr = true ∧ ∃ ds, d = .lst ds ∧ P (ρ.set i (.ml ds))
theorem setQ_ok {own : Bool} {i : Nat} {v : V} {H' : Hp} (S : StOk G h σ ρ H) (q : EQ G h H (setQ own i ρ P) v H') : NX G h H P (σ.set i (some v)) H' := by
  obtain ⟨x, d, fr, r, f, p⟩ := q
  cases own with
  | false => exact ⟨h, _, pers_ext S.ent x, (S.ext x).set r, p⟩
  | true =>
    obtain ⟨efr, ds, ed, p⟩ := p
    obtain ⟨pp, vs, ds', e1, e2, e3, e4, e5⟩ := f efr
    subst e1
    rw [ed] at e2
    cases e2
    exact ⟨_, _, pers_hide e3 (pers_ext S.ent x), S.setL x e3 e4 e5, p⟩
theorem ws_set {own : Bool} {i : Nat} {x : Str} {pos' : Pos} (nd : G.X.N.Nodup) (hi : G.X.N[i]? = some x) (hx : Loc G.X.env.scope x) (hf : G.X.fn x = true ∨ G.X.env.scope.names.lookup x = some .local) (hs : swapsWith e (some (.Name x pos')) pos.line G.X.env = pure false)
    (w : WE G e ρ (setQ own i ρ E.nx)) : WS G (.Assign [.Name x pos'] e pos) ρ E := fun h σ H S =>
  Sv.of (ps_set (i := i) nd hi hx pe_self hs hf) ((w h σ H S).mono fun v H' q => setQ_ok S q)
/-- name = [.. for ..] -/
theorem ws_setLc {own : Bool} {i : Nat} {y : Str} {py spos : Pos} {scope : Scope} {owns : List (Str × Nat)} {l : List Nat} {A : D → Rho → (Rho → Prop) → Prop} {Bt : Rho → (Bool → Prop) → Prop} {Ce : Rho → (D → Prop) → Prop} (ok : GOk G sc R) (hi : G.X.N[i]? = some y) (hyl : G.X.env.scope.names.lookup y = some .local)
    (hsw : swapsWith (.ListComp elt [⟨tg, iter, ifs, 0⟩] scope pos) (some (.Name y py)) spos.line G.X.env = pure true) (bo : BlkOk G.X.N G.X.env.scope scope owns) (hl : ∀ j ∈ l, j ∈ owns.map (·.2))
    (hA : ∀ s Hb C cl fp d ρ P, A d ρ P → WG (G.blk s Hb scope C cl fp) tg l d ρ P) (hB : ∀ s Hb C cl fp ρ P, Bt ρ P → WTs (G.blk s Hb scope C cl fp) ifs ρ P) (hC : ∀ s Hb C cl fp ρ P, Ce ρ P → WE (G.blk s Hb scope C cl fp) elt ρ fun d _ => P d)
    (hs : ∀ x, foldedSetIterable iter G.X.env x = pure x)
    (w : WI G tg iter ρ fun items => wLoop (fun d k => A d (wipeR ρ (owns.map (·.2))) fun ρ' => Bt ρ' fun b => if b = true then Ce ρ' fun x => k (some x) else k none) items [] fun acc => setQ own i ρ E.nx (.lst acc) true) :
    WS G (.Assign [.Name y py] (.ListComp elt [⟨tg, iter, ifs, 0⟩] scope pos) spos) ρ E := fun h σ H S =>
  Sv.of (ps_setLc (own := owns) ok.calm ok.nd hi hyl hsw pi_self bo lc_pg (fun s Hb C cl fp => pts_B s Hb C cl fp) lc_pe hs) (comp_rd hl hA hB hC w S fun v H' q => setQ_ok S q)
/-- a, b = e and the like -/
theorem ws_tgt {l : List Nat} (hs : swapsWithSole [tg] e pos.line G.X.env = pure false) (hw : swappedStores [tg] e G.X.env = pure none) (h1 : (assignEach [tg] G.X.env).map (·.2) = [assign tg G.X.env])
    (w : WE G e ρ fun d _ => WG G tg l d ρ E.nx) : WS G (.Assign [tg] e pos) ρ E := fun h σ H S =>
  Sv.of (ps_asg pe_self pg_self hs hw h1) ((w h σ H S).mono fun v H' ⟨x, d, fr, r, f, p⟩ => (p h σ H' v (S.ext x) r).mono fun σ2 H2 ⟨eh, off, ρ2, S2, q⟩ => by
    subst eh
    exact ⟨h, ρ2, pers_ext S.ent x, S2, q⟩)
/-- a, b = x, y -/
theorem ws_par {i j : Nat} {x y : Str} {px py pt : Pos} {kt k2 : Nat} {pt2 : Pos} (ok : GOk G sc R) (hi : G.X.N[i]? = some x) (hj : G.X.N[j]? = some y) (hij : i ≠ j) (hx : G.X.env.scope.names.lookup x = some .local) (hy : G.X.env.scope.names.lookup y = some .local)
    (hw : swappedStores [.Tuple [.Name x px, .Name y py] kt pt] (.Tuple [a, b] k2 pt2) G.X.env = pure (some [x, y])) (hs : swapsWithSole [.Tuple [.Name x px, .Name y py] kt pt] (.Tuple [a, b] k2 pt2) pos.line G.X.env = pure false)
    (he1 : starEach [a, b] G.X.env = (false, eval a G.X.env) :: starEach [b] G.X.env) (he2 : starEach [b] G.X.env = (false, eval b G.X.env) :: starEach [] G.X.env)
    (w : WE G a ρ fun d1 _ => WE G b ρ fun d2 _ => E.nx ((ρ.set i (.val d1)).set j (.val d2))) : WS G (.Assign [.Tuple [.Name x px, .Name y py] kt pt] (.Tuple [a, b] k2 pt2) pos) ρ E := fun h σ H S =>
  Sv.of (ps_par ok.calm ok.nd hi hj hij hx hy (pa_cons pe_self (pa_cons pe_self pa_nil he2) he1) hw hs) ((w h σ H S).mono fun v H' ⟨x1, d1, _, r1, _, p1⟩ => (p1 h σ H' (S.ext x1)).mono fun u H2 ⟨x2, d2, _, r2, _, p2⟩ => by
    have S2 := (S.ext x1).ext x2
    exact ⟨v, u, rfl, h, _, pers_ext S.ent (x1.trans x2), (S2.set (r1.mono ((S.ext x1).ent.mono x2))).set r2, p2⟩)
end
/-! ### own lists changed -/
section
variable {G : Gm} {sc : Scope} {R : Exn → Prop} {ρ : Rho} {h h' : Addr → Prop} {σ : L2.St} {H H1 H2 : Hp} {P : Rho → Prop} {E : DE} {e a b c tg elt iter : Expr} {es ifs : List Expr} {pos : Pos} {st : Stmt} {sts : List Stmt}
/-- an own list of slot i -/
structure OwnL (G : Gm) (h : Addr → Prop) (σ : L2.St) (ρ : Rho) (H : Hp) (i : Nat) (p : Addr) (vs : List V) (ds : List D) : Prop where
  sl : σ[i]? = some (some (.ref p))
  hd_ : h p
  no : ¬ G.h0 p
  at_ : H p = some (.lst vs)
  rel : DrL G.X.K G.g (hid h H) vs ds
theorem StOk.own (S : StOk G h σ ρ H) {i : Nat} {ds : List D} (e : ρ[i]? = some (.ml ds)) : ∃ p vs, OwnL G h σ ρ H i p vs ds ∧ ∀ (vs' : List V) (ds' : List D) (H' : Hp), Ext G.g H H' → DrL G.X.K G.g (Pd.hid h H') vs' ds' → StOk G h σ (ρ.set i (.ml ds')) (upd H' p (.lst vs')) := by
  obtain ⟨own, h1, h2, h3⟩ := S.sl
  have hi := (List.getElem?_eq_some_iff.mp e).1
  have es : σ[i]? = some (σ[i]'(by rw [S.len]; exact hi)) := List.getElem?_eq_getElem _
  obtain ⟨q1, q2, vs, q3, q4⟩ := h3 i _ _ e es
  have np := h2 i _ e trivial
  refine ⟨own i, vs, ⟨by rw [es, q1], q2, np, q3, q4⟩, fun vs' ds' H' x r => ?_⟩
  have S' := S.ext x
  have en := S'.ent
  have k : ∀ a u, a ≠ own i → H' a = some u → upd H' (own i) (.lst vs') a = some u := fun a u n e => by rw [upd_ne n]; exact e
  have m : ∀ a u, Pd.hid h H' a = some u → Pd.hid h (upd H' (own i) (.lst vs')) a = some u := fun a u e => by
    obtain ⟨n1, e1⟩ := hid_some e
    exact hid_of n1 (k a u (fun z => n1 (by rw [z]; exact q2)) e1)
  refine ⟨⟨fun a u e na => ?_, en.sub, en.reg, en.trk0, fun a z => ?_, ?_⟩, by rw [List.length_set, S.len], own, fun j l s t e1 e2 o1 o2 q => ?_, fun j s e1 o1 => ?_, fun j s o e1 e2 => ?_⟩
  · obtain ⟨z1, z2⟩ := en.keep a u e na
    exact ⟨k a u (fun z => np (by rw [← z]; exact z2 (by rw [z]; exact q2))) z1, z2⟩
  · by_cases z2 : a = own i
    · rw [z2]; exact ⟨_, upd_same⟩
    · obtain ⟨u, q⟩ := en.trk a z
      exact ⟨u, k a u z2 q⟩
  · exact rok_mono (fun a o na e => k a o (fun z => np (by rw [← z]; exact en.reg a na)) e) en.ok
  · have bk : ∀ (j : Nat) (s : Sl), (ρ.set i (.ml ds'))[j]? = some s → s.own → ∃ s', ρ[j]? = some s' ∧ s'.own := fun j s e o => by
      by_cases q : i = j
      · subst q; exact ⟨.ml ds, by assumption, trivial⟩
      · rw [List.getElem?_set_ne q] at e; exact ⟨s, e, o⟩
    obtain ⟨s', e1', o1'⟩ := bk j s e1 o1
    obtain ⟨t', e2', o2'⟩ := bk l t e2 o2
    exact h1 j l s' t' e1' e2' o1' o2' q
  · by_cases q : i = j
    · subst q; exact np
    · rw [List.getElem?_set_ne q] at e1; exact h2 j s e1 o1
  · by_cases q : i = j
    · subst q
      rw [List.getElem?_set_self hi] at e1
      cases e1
      rw [es] at e2
      cases e2
      exact ⟨q1, q2, vs', upd_same, r.mono m⟩
    · rw [List.getElem?_set_ne q] at e1
      refine ((h3 j s o e1 e2).mono (S.ent.mono x) fun o z => ⟨z, fun u q' => x.keep _ u (S.ent.nreg (h2 j s e1 o)) q'⟩).mono m fun o z => ⟨z, fun u q' => k _ u (fun z2 => q (h1 i j _ _ e e1 trivial o z2.symm)) q'⟩
end
end Pd
end
section
set_option Elab.async false
set_option linter.all false
set_option maxRecDepth 100000
set_option maxHeartbeats 4000000
/-! ## own lists, loops, raise -/
namespace Pd
open PySem PySem.Spec PyProof.Rows L2
section
variable {G : Gm} {sc : Scope} {R : Exn → Prop} {ρ : Rho} {h h' : Addr → Prop} {σ : L2.St} {H H1 H2 : Hp} {P : Rho → Prop} {Q : D → Bool → Prop} {E : DE} {e a b c tg elt iter : Expr} {es ifs : List Expr} {pos : Pos} {st : Stmt} {sts : List Stmt}
/-- the name in slot i as it is written -/
structure Nm (G : Gm) (i : Nat) (x : Str) : Prop where
  at_ : G.X.N[i]? = some x
  vis : Vis G.X.env.scope x
  nd : (x == ("__debug__" : Str)) = false
  nc : (x == ("__classdict__" : Str)) = false
theorem Nm.pe {i : Nat} {x : Str} {p : Pos} (n : Nm G i x) : PE G.X (.Name x p) (tVar i) := pe_var n.at_ n.vis n.nd n.nc
theorem OwnL.later {i : Nat} {p : Addr} {vs : List V} {ds : List D} (en : Ent G h H) (o : OwnL G h σ ρ H i p vs ds) (x : Ext G.g H H1) : OwnL G h σ ρ H1 i p vs ds :=
  ⟨o.sl, o.hd_, o.no, x.keep _ _ (en.nreg o.no) o.at_, o.rel.mono (en.mono x)⟩
theorem pers_own {p : Addr} {o : HO} (hp : h p) (x : Pers h H h H1) : Pers h H h (upd H1 p o) := fun a u e n => ⟨by rw [upd_ne (fun z => n (by rw [z]; exact hp))]; exact (x a u e n).1, n⟩
/-- len(x), x[b] of an own list -/
theorem we_lenO {i : Nat} {x : Str} {p p2 : Pos} {ds : List D} (ok : GOk G sc R) (nm : Nm G i x) (hx : sc.names.lookup ("len" : Str) = some .globalImplicit) (he : starEach [.Name x p2] G.X.env = (false, eval (.Name x p2) G.X.env) :: starEach [] G.X.env)
    (hi : ρ[i]? = some (.ml ds)) (q : Q (.int ds.length) false) : WE G (.Call (.Name "len" p) [.Name x p2] [] pos) ρ Q := fun h σ H S => by
  obtain ⟨pp, vs, o, _⟩ := S.own hi
  refine Ev.of (pe_callB call_len (ok.sv.glb _ hx) (ok.bi _ (by decide)) PySem.boot_len (pa_cons nm.pe pa_nil he) (by decide) (by decide) he rfl) ⟨_, o.sl, _, _, rfl, .inl ⟨vs, .of o.at_, rfl⟩, ?_⟩
  exact EQ.flat (.int _) (by rw [o.rel.length]; exact q)
theorem we_ixO {i : Nat} {x : Str} {p : Pos} {ds : List D} (nm : Nm G i x) (hs : PlainIx b) (hi : ρ[i]? = some (.ml ds)) (w : WE G b ρ fun d _ => ∃ k y, d = .int k ∧ atI ds k = some y ∧ Q y false) : WE G (.Subscript (.Name x p) b pos) ρ Q := fun h σ H S => by
  obtain ⟨pp, vs, o, _⟩ := S.own hi
  refine Ev.of (pe_ix ix_list nm.pe pe_self hs) ⟨_, o.sl, (w h σ H S).mono fun y H1 ⟨x1, d, _, r, _, k, z, ed, ez, p⟩ => ?_⟩
  subst ed
  cases r
  have o1 := o.later S.ent x1
  obtain ⟨y, ey, ry⟩ := o1.rel.atI ez
  exact ⟨_, vs, k, y, rfl, rfl, .of o1.at_, ey, EQ.after S.ent x1 (EQ.flat ry p)⟩
/-- an own list is given out of hand: it no longer changes -/
theorem StOk.frz {i : Nat} {ds : List D} (S : StOk G h σ ρ H) (e : ρ[i]? = some (.ml ds)) : ∃ h', (∀ a, h' a → h a) ∧ StOk G h' σ (ρ.set i (.val (.lst ds))) H := by
  obtain ⟨own, h1, h2, h3⟩ := S.sl
  have hi := (List.getElem?_eq_some_iff.mp e).1
  have es : σ[i]? = some (σ[i]'(by rw [S.len]; exact hi)) := List.getElem?_eq_getElem _
  obtain ⟨q1, q2, vs, q3, q4⟩ := h3 i _ _ e es
  have np := h2 i _ e trivial
  have m : ∀ a u, hid h H a = some u → hid (fun a => h a ∧ a ≠ own i) H a = some u := hid_sub (fun _ z => z.1) fun _ _ _ e => e
  have bk : ∀ (j : Nat) (s : Sl), (ρ.set i (.val (.lst ds)))[j]? = some s → s.own → i ≠ j ∧ ρ[j]? = some s := fun j s e o => by
    by_cases q : i = j
    · subst q
      rw [List.getElem?_set_self hi] at e
      cases e
      exact o.elim
    · rw [List.getElem?_set_ne q] at e; exact ⟨q, e⟩
  refine ⟨fun a => h a ∧ a ≠ own i, fun _ z => z.1, ⟨fun a u e na => ⟨(S.ent.keep a u e na).1, fun z => (S.ent.keep a u e na).2 z.1⟩, fun a z => ⟨S.ent.sub a z, fun q => np (by rw [← q]; exact z)⟩, S.ent.reg, S.ent.trk0, fun a z => S.ent.trk a z.1, S.ent.ok⟩, by rw [List.length_set, S.len],
    own, fun j l s t e1 e2 o1 o2 q => h1 j l s t (bk j s e1 o1).2 (bk l t e2 o2).2 o1 o2 q, fun j s e1 o1 => h2 j s (bk j s e1 o1).2 o1, fun j s o e1 e2 => ?_⟩
  by_cases q : i = j
  · subst q
    rw [List.getElem?_set_self hi] at e1
    cases e1
    rw [es] at e2
    cases e2
    exact ⟨_, q1, .lst (hid_of (fun z => z.2 rfl) q3) (q4.mono m)⟩
  · rw [List.getElem?_set_ne q] at e1
    exact (h3 j s o e1 e2).mono m fun o z => ⟨⟨z, fun z2 => q (h1 i j _ _ e e1 trivial o z2.symm)⟩, fun _ z => z⟩
theorem ws_frz {i : Nat} {ds : List D} (e : ρ[i]? = some (.ml ds)) (w : WS G st (ρ.set i (.val (.lst ds))) E) : WS G st ρ E := fun h σ H S => by
  obtain ⟨h', s, S'⟩ := S.frz e
  have p : Pers h H h' H := fun a o e n => ⟨e, fun z => n (s a z)⟩
  exact (w h' σ H S').mono (fun _ _ n => NX.after p n) (fun _ _ n => n) (fun _ _ n => NX.after p n) fun _ _ n => NX.after p n
/-- return x, x an own list -/
theorem ws_retL {i : Nat} {x : Str} {p : Pos} {ds : List D} (nm : Nm G i x) (hi : ρ[i]? = some (.ml ds)) (q : E.rt (.lst ds) true) : WS G (.Return (some (.Name x p)) pos) ρ E := fun h σ H S => by
  obtain ⟨pp, vs, o, _⟩ := S.own hi
  have m0 : ∀ a u, hid h H a = some u → hid G.h0 H a = some u := hid_sub S.ent.sub fun _ _ _ e => e
  have m1 : ∀ a u, hid h H a = some u → hid (fun a => G.h0 a ∨ a = pp) H a = some u := hid_sub (fun a z => z.elim (S.ent.sub a) fun z => by rw [z]; exact o.hd_) fun _ _ _ e => e
  have n0 : G.H0 pp = none := by
    cases hq : G.H0 pp with
    | none => rfl
    | some u =>
      exfalso
      by_cases n : adr G.g pp
      · exact o.no (S.ent.reg _ n)
      · exact o.no ((S.ent.keep pp u hq n).2 o.hd_)
  exact Sv.of (ps_ret nm.pe) ⟨_, o.sl, fun a u e n => (S.ent.keep a u e n).1, S.ent.ok, _, true, .lst (hid_of o.no o.at_) (o.rel.mono m0), fun _ => ⟨pp, vs, ds, rfl, rfl, n0, o.at_, o.rel.mono m1⟩, q⟩
/-- x.append(e) -/
theorem ws_app {i : Nat} {x : Str} {ap p p2 : Pos} {ds : List D} (nm : Nm G i x) (hi : ρ[i]? = some (.ml ds)) (hz : ds.length < sizeLine)
    (hbase : attributeBase (.Name x p) "append" G.X.env (eval (.Name x p) G.X.env) = eval (.Name x p) G.X.env) (hfew : ((backTo pos (starEach [e] G.X.env)).all (fun x => !x.1) && (backToKw pos (keywordEach [] G.X.env)).all (fun x => x.1.isSome)
      && decide ([e].length + ([] : List Keyword).length + (if ([] : List Keyword).isEmpty then 0 else 1) < 30)) = true) (hline : (ap.endLine == pos.line) = true) (he : starEach [e] G.X.env = (false, eval e G.X.env) :: starEach [] G.X.env) (hpl : (backTo pos (starEach [] G.X.env)).any (·.1) = false)
    (hs : swapsWith (.Call (.Attribute (.Name x p) "append" ap) [e] [] pos) none p2.line G.X.env = pure false)
    (w : WE G e ρ fun d _ => E.nx (ρ.set i (.ml (ds ++ [d])))) : WS G (.Expr (.Call (.Attribute (.Name x p) "append" ap) [e] [] pos) p2) ρ E := fun h σ H S => by
  obtain ⟨pp, vs, o, go⟩ := S.own hi
  refine Sv.of (ps_expr (pe_bm PySem.F.plainAttrs_list PySem.F.slot_list_append PySem.F.type_list_append mt_append nm.pe (pa_cons pe_self pa_nil he) hbase hfew hline he hpl) hs) ⟨_, o.sl, .inl ⟨rfl, _, .of o.at_⟩, (w h σ H S).mono fun v H1 ⟨x1, d, _, r, _, q⟩ => ?_⟩
  have o1 := o.later S.ent x1
  refine ⟨pp, vs, v, rfl, rfl, o1.at_, by rw [o.rel.length]; exact hz, h, _, pers_own o.hd_ (pers_ext S.ent x1), go _ _ H1 x1 (o1.rel.append (.one r)), q⟩
/-- x.append(y.pop(e)) -/
theorem ws_appPop {i j : Nat} {x y : Str} {ap p p2 ap2 p3 pos2 : Pos} {ds ms : List D} (nm : Nm G i x) (nm2 : Nm G j y) (hi : ρ[i]? = some (.ml ds)) (hj : ρ[j]? = some (.ml ms)) (hij : i ≠ j) (hz : ds.length < sizeLine)
    (hp : PE G.X (.Call (.Attribute (.Name y p3) "pop" ap2) [e] [] pos2) (tBM G.X.K "list" rPopAt (tVar j) (tCons (Ev G.X e) tNil)))
    (ha : ∀ {t : TE}, PE G.X (.Call (.Attribute (.Name y p3) "pop" ap2) [e] [] pos2) t → PS G.X (.Expr (.Call (.Attribute (.Name x p) "append" ap) [.Call (.Attribute (.Name y p3) "pop" ap2) [e] [] pos2] [] pos) p2) (tDrop (tBM G.X.K "list" rAppend (tVar i) (tCons t tNil))))
    (w : WE G e ρ fun d _ => ∃ k n z, d = .int k ∧ -(2 ^ 63) ≤ k ∧ k < 2 ^ 63 ∧ seqIndex? k ms.length = some n ∧ ms[n]? = some z ∧ E.nx ((ρ.set j (.ml (ms.eraseIdx n))).set i (.ml (ds ++ [z])))) :
    WS G (.Expr (.Call (.Attribute (.Name x p) "append" ap) [.Call (.Attribute (.Name y p3) "pop" ap2) [e] [] pos2] [] pos) p2) ρ E := fun h σ H S => by
  obtain ⟨pp, vs, o, _⟩ := S.own hi
  refine Sv.of (ha hp) ⟨_, o.sl, .inl ⟨rfl, _, .of o.at_⟩, ?_⟩
  obtain ⟨qq, us, o2, go2⟩ := S.own hj
  refine ⟨_, o2.sl, .inl ⟨rfl, _, .of o2.at_⟩, (w h σ H S).mono fun v H1 ⟨x1, d, _, r, _, k, n, z, ed, h1, h2, h3, h4, q⟩ => ?_⟩
  subst ed
  cases r
  have o21 := o2.later S.ent x1
  obtain ⟨y1, ey, ry⟩ := o21.rel.get h4
  have er : ∀ (us : List V) (ms : List D) (n : Nat), DrL G.X.K G.g (hid h H1) us ms → DrL G.X.K G.g (hid h H1) (us.eraseIdx n) (ms.eraseIdx n) := fun us ms n r => by
    rw [List.eraseIdx_eq_take_drop_succ, List.eraseIdx_eq_take_drop_succ]
    exact (r.take n).append (r.drop (n + 1))
  refine ⟨qq, us, k, n, y1, rfl, rfl, o21.at_, h1, h2, by rw [o2.rel.length]; exact h3, ey, ?_⟩
  have S2 := go2 _ _ H1 x1 (er us ms n o21.rel)
  have hi2 : (ρ.set j (.ml (ms.eraseIdx n)))[i]? = some (.ml ds) := by rw [List.getElem?_set_ne (Ne.symm hij)]; exact hi
  obtain ⟨pp2, vs2, o3, go3⟩ := S2.own hi2
  have e1 : V.ref pp = V.ref pp2 := by
    have z := o3.sl
    rw [o.sl] at z
    exact Option.some.inj (Option.some.inj z)
  cases e1
  have m : ∀ a u, hid h H1 a = some u → hid h (upd H1 qq (.lst (us.eraseIdx n))) a = some u := fun a u e => by
    obtain ⟨n1, e1⟩ := hid_some e
    exact hid_of n1 (by rw [upd_ne (fun z => n1 (by rw [z]; exact o2.hd_))]; exact e1)
  have hl : vs2.length < sizeLine := by rw [o3.rel.length]; exact hz
  exact ⟨pp, vs2, y1, rfl, rfl, o3.at_, hl, h, _, pers_own o.hd_ (pers_own o2.hd_ (pers_ext S.ent x1)), go3 _ _ _ (.refl _) (o3.rel.append (.one (ry.mono m))), q⟩
/-- x[b] = e -/
theorem ws_setix {i : Nat} {x : Str} {p p2 : Pos} {ds : List D} (nm : Nm G i x) (hi : ρ[i]? = some (.ml ds)) (hs : swapsWithSole [.Subscript (.Name x p) b p2] e pos.line G.X.env = pure false) (hw : swappedStores [.Subscript (.Name x p) b p2] e G.X.env = pure none)
    (h1 : (assignEach [.Subscript (.Name x p) b p2] G.X.env).map (·.2) = [assign (.Subscript (.Name x p) b p2) G.X.env])
    (ha : ∀ v, assign (.Subscript (.Name x p) b p2) G.X.env v = (do
      let ov ← holding [v] (eval (.Name x p) G.X.env)
      let iv ← holding [v, ov] (eval b G.X.env)
      standAt p2
      holding [v, ov, iv] (setItem ov iv v)
      release [v, ov, iv] []))
    (w : WE G e ρ fun d _ => WE G b ρ fun d2 _ => ∃ k n, d2 = .int k ∧ ixN ds.length k = some n ∧ E.nx (ρ.set i (.ml (ds.set n d)))) : WS G (.Assign [.Subscript (.Name x p) b p2] e pos) ρ E := fun h σ H S =>
  Sv.of (ps_asg pe_self (pg_sub nm.pe pe_self set_list ha) hs hw h1) ((w h σ H S).mono fun v H1 ⟨x1, d, _, r, _, w1⟩ => by
    obtain ⟨pp, vs, o, go⟩ := S.own hi
    refine ⟨_, o.sl, (w1 h σ H1 (S.ext x1)).mono fun u H2 ⟨x2, d2, _, r2, _, k, n, ed, en, q⟩ => ?_⟩
    subst ed
    cases r2
    have o2 := o.later S.ent (x1.trans x2)
    have S2 := (S.ext x1).ext x2
    exact ⟨pp, vs, k, n, rfl, rfl, o2.at_, by rw [o2.rel.length]; exact en, h, _, pers_own o.hd_ (pers_ext S.ent (x1.trans x2)), go _ _ H2 (x1.trans x2) (o2.rel.set (r.mono ((S.ext x1).ent.mono x2)) n), q⟩)
end
/-! ### x op= e -/
theorem get_list {X : Cx} : PGet X (rIxL X.K) := by
  intro pins s σ H x y v u Q I rx ry h
  obtain ⟨p, xs, i, z, rfl, rfl, hq, he, q⟩ := h
  cases rx
  obtain ⟨t, rfl⟩ := ry
  obtain ⟨its, r, pl, hz⟩ := I.list hq
  obtain ⟨j, h1, h2, h3, h4, h5⟩ := atI_get he
  obtain ⟨w, ew, rw'⟩ := r.get h2
  have hl := r.length
  have hn := line63
  have fin : EP X pins σ Q w s := ⟨z, H, I, rw', q⟩
  by_cases h0 : 0 ≤ i
  · have hj : i.toNat = j := by
      rw [seqIndex_of h0 h5] at h1
      exact Option.some.inj h1
    exact wpAny_getItem_list pl.isList h0 (by omega) (by rw [hj]; simpa using ew) fin
  · have hj : (i + (its.toArray.size : Int)).toNat = j := by
      rw [seqIndex_neg (by omega) h4] at h1
      rw [List.size_toArray, ← hl]
      exact Option.some.inj h1
    exact wpAny_getItem_list_neg pl.isList (by omega) (by rw [List.size_toArray] <;> omega) (by omega) (by rw [hj]; simpa using ew) fin
section
variable {G : Gm} {sc : Scope} {R : Exn → Prop} {ρ : Rho} {h h' : Addr → Prop} {σ : L2.St} {H H1 H2 : Hp} {P : Rho → Prop} {Q : D → Bool → Prop} {E : DE} {e a b c tg elt iter : Expr} {es ifs : List Expr} {pos : Pos} {st : Stmt} {sts : List Stmt}
/-- x[b] += e, ints -/
theorem ws_augix {i : Nat} {x : Str} {p p2 : Pos} {ds : List D} (nm : Nm G i x) (hi : ρ[i]? = some (.ml ds)) (ha : ∀ ov iv new, augStore b ov iv new = (do holding [new, ov, iv] (setItem ov iv new); release [new, ov, iv] []; pure .next))
    (w : WE G b ρ fun d2 _ => ∃ k n m, d2 = .int k ∧ atI ds k = some (.int m) ∧ ixN ds.length k = some n ∧ WE G e ρ fun d _ => ∃ z, d = .int z ∧ E.nx (ρ.set i (.ml (ds.set n (.int (m + z)))))) : WS G (.AugAssign (.Subscript (.Name x p) b p2) .Add e pos) ρ E := fun h σ H S => by
  obtain ⟨pp, vs, o, go⟩ := S.own hi
  refine Sv.of (ps_augS nm.pe pe_self get_list pe_self ip_add set_list ha) ⟨_, o.sl, (w h σ H S).mono fun v H1 ⟨x1, d, _, r, _, k, n, m, ed, e1, e2, w1⟩ => ?_⟩
  subst ed
  cases r
  have o1 := o.later S.ent x1
  obtain ⟨y, ey, ry⟩ := o1.rel.atI e1
  cases ry
  refine ⟨pp, vs, k, _, rfl, rfl, .of o1.at_, ey, (w1 h σ H1 (S.ext x1)).mono fun u H2 ⟨x2, d2, _, r2, _, z, ed, q⟩ => ?_⟩
  subst ed
  cases r2
  have o2 := o.later S.ent (x1.trans x2)
  exact ⟨m, z, rfl, rfl, pp, vs, k, n, rfl, rfl, o2.at_, by rw [o2.rel.length]; exact e2, h, _, pers_own o.hd_ (pers_ext S.ent (x1.trans x2)), go _ _ H2 (x1.trans x2) (o2.rel.set (.int _) n), q⟩
/-! ### loops -/
/-- the turns of a for over data -/
def wFor (turn : D → Rho → (Rho → Prop) → Prop) : List D → Rho → (Rho → Prop) → Prop
  | [], ρ, F => F ρ
  | d :: r, ρ, F => turn d ρ fun ρ' => wFor turn r ρ' F
theorem ws_for {body : List Stmt} {l : List Nat} {A : D → Rho → (Rho → Prop) → Prop} {Bd : Rho → DE → Prop} (ok : GOk G sc R) (po : PassesOwn (model G.X.prog G.X.w) G.X.A G.X.env G.X.xe) (hA : ∀ d ρ P, A d ρ P → WG G tg l d ρ P) (hB : ∀ ρ E, Bd ρ E → WSs G body ρ E)
    (hs : ∀ x, foldedSetIterable iter G.X.env x = pure x) (w : WI G tg iter ρ fun items => wFor (fun d ρ k => A d ρ fun ρ' => Bd ρ' { E with nx := k, ct := k, bk := E.nx }) items ρ E.nx) : WS G (.For tg iter body [] pos) ρ E := fun h σ H S =>
  Sv.of (ps_for po ok.calm pi_self pg_self pss_self hs) (by
    intro pins s I
    refine thn (w h σ H S pins s I) fun v s1 q1 => thn q1 fun itv s2 ⟨it, fp0, tn, J, H1, e1, I', T, st, f, x1, items, its, hz, wl⟩ => ⟨it, fp0, tn, J, H1, e1, I', T, st, f, ?_⟩
    have p1 := pers_ext S.ent x1
    generalize hturn : (fun (d : D) (ρ : Rho) (k : Rho → Prop) => A d ρ fun ρ' => Bd ρ' { E with nx := k, ct := k, bk := E.nx }) = turn at wl
    refine ⟨fun i m σ' H' => m = items.length - i ∧ i ≤ items.length ∧ ∃ h' ρ', Pers h H1 h' H' ∧ StOk G h' σ' ρ' H' ∧ wFor turn (items.drop i) ρ' E.nx, ⟨items.length, rfl, Nat.zero_le _, h, ρ, Pers.refl _ _, S.ext x1, wl⟩, ?_⟩
    rintro i m σ' H' ⟨rfl, hi, h', ρ', p, S', wi⟩
    by_cases hlt : i < items.length
    · have ed : items[i]? = some items[i] := List.getElem?_eq_getElem hlt
      obtain ⟨go, yl⟩ := (its h' H' p S'.ent.trk i).1 _ ed
      refine .inr ⟨go, fun σ5 H5 => ∃ h5 ρ5, Pers h H1 h5 H5 ∧ StOk G h5 σ5 ρ5 H5 ∧ wFor turn (items.drop (i + 1)) ρ5 E.nx, fun σ5 H5 q => ⟨_, by omega, rfl, hlt, q⟩, fun x H2 y => ?_⟩
      obtain ⟨k2, r2⟩ := yl x H2 y
      have x2 : Ext G.g H' H2 := .same k2
      rw [List.drop_eq_getElem_cons hlt] at wi
      have wi2 := Eq.mpr (congrFun (congrFun (congrFun hturn items[i]) ρ') _) (show turn items[i] ρ' _ from wi)
      refine (hA _ _ _ wi2 h' σ' H2 x (S'.ext x2) r2).mono fun σ3 H3 ⟨eh, off, ρ3, S3, w3⟩ => ?_
      subst eh
      have p3 : Pers h H1 h' H3 := p.trans (pers_ext S'.ent x2)
      refine (hB _ _ w3 h' σ3 H3 S3).mono (fun σ4 H4 ⟨h4, ρ4, q4, S4, w4⟩ => ⟨h4, ρ4, p3.trans q4, S4, w4⟩) (fun _ _ z => z) (fun σ4 H4 n => NX.after (p1.trans p3) n) fun σ4 H4 ⟨h4, ρ4, q4, S4, w4⟩ => ⟨h4, ρ4, p3.trans q4, S4, w4⟩
    · have ei : i = items.length := by omega
      rw [ei, List.drop_length] at wi
      exact .inl ⟨(its h' H' p S'.ent.trk i).2 ei, h', ρ', p1.trans p, S', wi⟩)
/-- while by an invariant with its measure -/
theorem ws_while {body : List Stmt} {Cd : Rho → (Bool → Prop) → Prop} {Bd : Rho → DE → Prop} (po : PassesOwn (model G.X.prog G.X.w) G.X.A G.X.env G.X.xe) (hC : ∀ ρ P, Cd ρ P → WT G c ρ P) (hB : ∀ ρ E, Bd ρ E → WSs G body ρ E)
    (w : ∃ W : Nat → Rho → Prop, (∃ m, W m ρ) ∧ ∀ m ρ, W m ρ → Cd ρ fun k => if k = true then Bd ρ { E with nx := fun ρ' => ∃ m', m' < m ∧ W m' ρ', ct := fun ρ' => ∃ m', m' < m ∧ W m' ρ', bk := E.nx } else E.nx ρ) : WS G (.While c body [] pos) ρ E := fun h σ H S =>
  Sv.of (ps_while po pt_self pss_self) (by
    obtain ⟨W, ⟨m0, w0⟩, turn⟩ := w
    refine ⟨fun m σ' H' => ∃ h' ρ', Pers h H h' H' ∧ StOk G h' σ' ρ' H' ∧ W m ρ', ⟨m0, h, ρ, Pers.refl _ _, S, w0⟩, ?_⟩
    rintro m σ' H' ⟨h', ρ', p, S', wm⟩
    refine (hC _ _ (turn m ρ' wm) h' σ' H' S').mono fun k H1 ⟨x1, q⟩ => ?_
    have p1 := p.trans (pers_ext S'.ent x1)
    cases k with
    | false =>
      rw [if_neg Bool.false_ne_true] at q ⊢
      exact ⟨h', ρ', p1, S'.ext x1, q⟩
    | true =>
      rw [if_pos rfl] at q ⊢
      refine ⟨fun σ5 H5 => ∃ m', m' < m ∧ ∃ h5 ρ5, Pers h H h5 H5 ∧ StOk G h5 σ5 ρ5 H5 ∧ W m' ρ5, fun σ5 H5 ⟨m', hm, q⟩ => ⟨m', hm, q⟩, ?_⟩
      exact (hB _ _ q h' σ' H1 (S'.ext x1)).mono (fun σ4 H4 ⟨h4, ρ4, q4, S4, m', hm, w4⟩ => ⟨m', hm, h4, ρ4, p1.trans q4, S4, w4⟩) (fun _ _ z => z) (fun _ _ n => NX.after p1 n) fun σ4 H4 ⟨h4, ρ4, q4, S4, m', hm, w4⟩ => ⟨m', hm, h4, ρ4, p1.trans q4, S4, w4⟩)
/-! ### raise -/
/-- an own exception class without own __init__ -/
structure ExcOk (X : Cx) (c : Str) : Prop where
  glo : X.mg c = some (.ref (He.ga X.K c))
  inn : PySem.W.excIn X.K (He.ga X.K c) He.veBase "ValueError.__new__" = true
  kp : PySem.W.keepIn X.K (.ref (He.ga X.K c)) = true
  sub : PySem.W.subIn X.K (.ref (He.ga X.K c)) (.type "BaseException") = some true
  ty : PySem.W.typeIn X.K (.ref (He.ga X.K c)) = some (.type "type")
theorem pmk_own0 {X : Cx} {C : Addr} {bmB : List Value} {B newId initId : String} {x : Str} {p : Pos} (F : ExcBaseFacts B newId initId bmB) (q : PySem.W.excIn X.K C bmB newId = true) (gC : X.mg x = some (.ref C))
    (kC : PySem.W.keepIn X.K (.ref C) = true) (r : Raises X (.ref C)) (hg : Gl X x) (hdb : (x == ("__debug__" : Str)) = false) : L2N.PMk X (.Call (.Name x p) [] [] pos) (fun σ H Q => Q (.ref C) none H) := by
  intro pins s σ H Q I h
  refine wpAny_Call_Name_kw (ld_glob I hg gC ?_ hdb)
  refine PySem.W.callWith_K0 I.kIn kC ?_
  obtain ⟨bm, N, nm, qn, bs, hdct, sn, sub, ab, col, dd, k0, k1, k2, k3, k5, mN, hC, hN, hni, T⟩ := exc_obj I.kIn q
  refine wpAny_call_exc_subT F T hC hN hni (fun h' e hm => ?_) (Nat.zero_le _)
  exact L2N.mk_of I hm r h (I.hok.gone hm.new)
theorem raise_rd {cn : Str} (S : StOk G h σ ρ H) (r : R ⟨cn, []⟩) : Wish G R (.ref (He.ga G.X.K cn)) none σ H := ⟨h, ρ, ⟨cn, []⟩, S, ⟨rfl, .inl ⟨rfl, rfl⟩⟩, r⟩
theorem ws_raise0 {cn : Str} {p : Pos} (ok : GOk G sc R) (ex : ExcOk G.X cn) (hx : sc.names.lookup cn = some .globalImplicit) (hdb : (cn == ("__debug__" : Str)) = false) {pos2 : Pos} (r : R ⟨cn, []⟩) : WS G (.Raise (some (.Call (.Name cn p) [] [] pos)) none pos2) ρ E := fun h σ H S =>
  Sv.of (L2N.ps_raise ok.calm ok.tk (pmk_own0 PySem.F.excBase_ValueError ex.inn ex.glo ex.kp (raises_own ex.sub ex.ty) (ok.sv.glb _ hx) hdb)) (raise_rd S r)
theorem ws_raiseT {cn m : Str} {p p2 pos2 : Pos} {j : Nat} (ok : GOk G sc R) (ex : ExcOk G.X cn) (hx : sc.names.lookup cn = some .globalImplicit) (hdb : (cn == ("__debug__" : Str)) = false) (r : R ⟨cn, []⟩) : WS G (.Raise (some (.Call (.Name cn p) [.Constant (.str m) j p2] [] pos)) none pos2) ρ E := fun h σ H S =>
  Sv.of (L2N.ps_raise ok.calm ok.tk (L2N.pmk_own PySem.F.excBase_ValueError ex.inn ex.glo ex.kp (raises_own ex.sub ex.ty) (ok.sv.glb _ hx) hdb)) (raise_rd S r)
end
end Pd
end
section
set_option Elab.async false
set_option linter.all false
set_option maxRecDepth 100000
set_option maxHeartbeats 1000000
/-! ## instances that are made, exceptions with their own __init__ -/
namespace Pd
open PySem PySem.Spec PyProof.Rows L2
/-! ### exceptions -/
structure Exi where
  cn : Str
  fs : List Str
  lev : Nat
/-- __init__'s promise: C the class, the fields take the arguments -/
def spExi (C : Addr) (fs : List Str) : Sp := fun vs H Q _ => ∃ (a : Addr) (ns : List Int), vs = .ref a :: ns.map V.int ∧ ns.length = fs.length ∧ H a = some (exo a C none) ∧
  ∀ dx fv H', H dx = none → dx ≠ a → (∀ p ∈ fs.zip ns, fv.lookup p.1 = some (.int p.2)) → H' a = some (exo a C (some dx)) → H' dx = some (exd dx fv) → (∀ b, b ≠ a → b ≠ dx → H' b = H b) → Q .non H'
structure ExiOk (X : Cx) (c : Exi) : Prop where
  glo : X.mg c.cn = some (.ref (He.ga X.K c.cn))
  cls : OexC X.K (He.ga X.K c.cn)
  ini : ∃ (fI : Addr) (fd : FuncData) (ps : List Str), PySem.W.findIn X.K (.ref (He.ga X.K c.cn)) "__init__" = some (some (.ref fI)) ∧ PySem.W.typeIn X.K (.ref fI) = some (.type "function") ∧
    FnOk X.prog X.w X.K X.mg X.base (L2N.CX X.prog X.w) c.lev fI fd ps (spExi (He.ga X.K c.cn) c.fs) ∧ Binds X.K fd ps []
section
variable {X : Cx} {e : Expr} {es : List Expr} {ta : TA} {p pos : Pos}
/-- C(e, ..) of a class with its own __init__: what is made bears no context -/
theorem pmk_oexN {CX : CXT} {x : Str} {C fI : Addr} {k : Nat} {fd : FuncData} {ps : List Str} {sp : Sp} {bs : List Value} {dvs : List V} (oc : OexC X.K C) (hin : PySem.W.findIn X.K (.ref C) "__init__" = some (some (.ref fI)))
    (hfn : PySem.W.typeIn X.K (.ref fI) = some (.type "function")) (fo : FnOk X.prog X.w X.K X.mg X.base CX k fI fd ps sp) (room : Room (k + 1) X.A) (bi : Binds X.K fd ps bs) (vb : Vals dvs bs) (ps0 : Passes CX X (fun _ _ _ => False))
    (gl : Gl X x) (mg : X.mg x = some (.ref C)) (args : PA X (e :: es) ta) (nd : (x == ("__debug__" : Str)) = false) (st : starEach (e :: es) X.env = (false, eval e X.env) :: starEach es X.env)
    (pn : (backTo pos (starEach es X.env)).any (·.1) = false) : L2N.PMk X (.Call (.Name x p) (e :: es) [] pos) (tMkO C sp dvs ta) := fun pins s σ H Q I h => by
  obtain ⟨_, _, _, _, mro, _, _, _, _, _, _, _, _, _, _, cls, tail⟩ := oc.cls
  refine wpAny_Call_Name_kw (ld_glob I gl mg ?_ nd)
  refine PySem.W.callWith_K (h₀ := X.base) I.ok.mod.kin oc.kC (thn (args.run pos pins s σ H _ I h) fun us s1 hh => ?_) st pn
  obtain ⟨vs, H1, J1, rv, small, ask⟩ := hh
  refine ⟨J1.kIn, ?_⟩
  obtain ⟨hp, g, dr, tk, os⟩ := s1
  show wpAny _ _ (call (.ref C) us) _ _ _
  have free : H1 (hp.objs.size + 1) = none := J1.hok.fresh (Nat.le_succ _)
  have want := ask _ free
  have older : ∀ b o, hp.get? b = some o → ((hp.push (PySem.W.kdv_tup us)).push (PySem.HandSPX.excO C hp.objs.size)).get? b = some o := fun b o z => Heap.get?_push_of_some _ (Heap.get?_push_of_some _ z)
  have it : ((hp.push (PySem.W.kdv_tup us)).push (PySem.HandSPX.excO C hp.objs.size)).get? (hp.objs.size + 1) = some (PySem.HandSPX.excO C hp.objs.size) := by heap_get
  have J2 := J1.laid (t' := tk) (a := hp.objs.size + 1) (o := exo (hp.objs.size + 1) C none) older (Nat.le_succ _) (exo_ok it)
  have rv2 : Vals (V.ref (hp.objs.size + 1) :: (vs ++ dvs)) (Value.ref (hp.objs.size + 1) :: (us ++ bs)) := .cons rfl (rv.append vb)
  have cnt : (Value.ref (hp.objs.size + 1) :: us ++ bs).length = ps.length := by
    have z := rv2.length
    rw [fo.len _ _ _ _ want] at z
    exact z.symm
  have few : us.length ≤ sizeLine := by
    rw [← Paired.length rv, sizeLine_eq]
    omega
  refine wpAny_call (PySem.HandSPX.call_own F.excBase_ValueError (fun Y => PySem.HandSPX.refsVE_contains Y mro tail) (J1.kIn _ _ cls) (PySem.W.looks_findIn J1.kIn hin) (fun self => PySem.W.bind_fn J1.kIn self hfn) few
    (codeAny_mono (fo.run _ X.stack _ _ ⟨Value.ref (hp.objs.size + 1) :: us, []⟩ (Value.ref (hp.objs.size + 1) :: (us ++ bs)) _ _ (fun _ _ _ => False) (room.make C us []) (J2.env0.make C us []) (bi _ (Value.ref (hp.objs.size + 1) :: us) J2.kIn cnt) rv2 want) fun r s' got => ?_))
  match r, got with
  | .error er, got => exact ps0 pins σ _ _ er s' J2 got
  | .ok (.ret u), got =>
    obtain ⟨v, H2, o2, b2, u2, k2, rr, ev, d, fs, ea, ed, hd1, q2⟩ := got
    subst ev
    obtain ⟨h2, g2, d2, t2, os'⟩ := s'
    obtain ⟨t0, hG, J, kG, ge, hoe, na⟩ := mk_end0 (d2 := d2) (t2 := t2) J1 (Nat.le_succ _) older u2 k2 o2 b2 ea ed hd1
    exact ⟨rr, hp.objs.size + 1, _, _, ⟨hG, g2, d2, t2, os'⟩, _, .ref C, some d, rfl, J, kG, ge, hoe, ⟨rfl, rfl, fun vs z => by cases z; rfl⟩, rfl, rfl, na, rfl, b2, raises_own oc.exC oc.tyC, q2⟩
  | .ok .next, got => exact False.elim got
  | .ok .brk, got => exact False.elim got
  | .ok .cont, got => exact False.elim got
end
section
variable {G : Gm} {sc : Scope} {R : Exn → Prop} {ρ : Rho} {E : DE} {e : Expr} {es : List Expr} {pos : Pos}
theorem ws_raiseI {c : Exi} {p pos2 : Pos} (ok : GOk G sc R) (ex : ExiOk G.X c) (hl : c.lev + 1 ≤ G.k) (hx : sc.names.lookup c.cn = some .globalImplicit) (hdb : (c.cn == ("__debug__" : Str)) = false)
    (he : starEach (e :: es) G.X.env = (false, eval e G.X.env) :: starEach es G.X.env) (hpl : (backTo pos (starEach es G.X.env)).any (·.1) = false)
    (w : WA G (e :: es) ρ fun ds => ∃ ns, intsD ds = some ns ∧ ns.length = c.fs.length ∧ ns.length ≤ 1000 ∧ R ⟨c.cn, c.fs.zip ns⟩) : WS G (.Raise (some (.Call (.Name c.cn p) (e :: es) [] pos)) none pos2) ρ E := fun h σ H S => by
  obtain ⟨fI, fd, ps, iC, tI, F, hb⟩ := ex.ini
  refine Sv.of (L2N.ps_raise ok.calm ok.tk (pmk_oexN (dvs := []) ex.cls iC tI F (ok.room.mono hl) hb .nil (fun pins σ H s e s' I c => L2N.passes_call (E := fun _ _ _ => False) ok.tk (fun _ _ _ _ z => z.elim) pins σ H s e s' I c) (ok.sv.glb _ hx) ex.glo pa_self hdb he hpl)) ?_
  refine (w h σ H S).mono fun vs H1 ⟨x1, ds, r, ns, en, hln, hz, q⟩ => ?_
  obtain rfl := intsD_eq en
  obtain rfl := DrL.ints r
  refine ⟨by rw [List.length_map]; exact hz, fun a na => ⟨a, ns, by rw [List.append_nil], hln, upd_same, fun dx fv H' ndx hda fz e1 e2 k => ⟨rfl, dx, fv, e1, e2, ?_, ?_⟩⟩⟩
  · rw [upd_ne hda] at ndx; exact ndx
  · have nd : H1 dx = none := by rw [upd_ne hda] at ndx; exact ndx
    have en := S.ent.ext x1
    have x2 : Ext G.g H1 (upd (del H' a) dx (.xd fv)) := .same fun b o eb => by
      have hb : b ≠ a := fun z => by rw [z, na] at eb; cases eb
      have hd : b ≠ dx := fun z => by rw [z, nd] at eb; cases eb
      rw [upd_ne hd, del_ne hb, k b hb hd, upd_ne hb]
      exact eb
    exact ⟨h, ρ, ⟨c.cn, c.fs.zip ns⟩, (S.ext x1).ext x2, ⟨rfl, .inr ⟨dx, fv, rfl, upd_same, fz⟩⟩, q⟩
end
/-! ### instances -/
/-- a class that is made: what __init__ makes of the arguments -/
structure Mkr where
  cn : Str
  sp : List D → (List Str → List D → Prop) → (Exn → Prop) → Prop
  lev : Nat
  ar : Nat
def spMk (K : PySem.W.Frag) (c : Mkr) : Sp := fun vs H Q E => ∃ (g : Option Rg) (h : Addr → Prop) (ds : List D) (P : List Str → List D → Prop) (R : Exn → Prop) (x dx : Addr) (vs' : List V), vs = .ref x :: vs' ∧ ds.length = c.ar ∧ (∀ a, adr g a → h a) ∧ (∀ a, h a → ∃ o, H a = some o) ∧ ¬ h x ∧ rok g H ∧
  H x = some (.ins (He.ga K c.cn) dx []) ∧ DrL K g (hid (fun a => h a ∨ a = x) H) vs' ds ∧ c.sp ds P R ∧
  (∀ H' dx' fs ws, Ext g (del H x) H' → H' x = some (.ins (He.ga K c.cn) dx' fs) → DrL K g (hid (fun a => h a ∨ a = x) H') (fs.map (·.2)) ws → P (fs.map (·.1)) ws → Q .non H') ∧ (∀ cls d H' e, Ext g (del H x) H' → ExnR K H' cls d e → R e → E cls d H')
structure MkrOk (X : Cx) (c : Mkr) : Prop where
  glo : X.mg c.cn = some (.ref (He.ga X.K c.cn))
  mak : Mk X.K (He.ga X.K c.cn) (He.ma X.K (He.ga X.K c.cn) "__init__")
  ini : ∃ (fd : FuncData) (ps : List Str), FnOk X.prog X.w X.K X.mg X.base (L2N.CX X.prog X.w) c.lev (He.ma X.K (He.ga X.K c.cn) "__init__") fd ps (spMk X.K c) ∧ Binds X.K fd ps []
section
variable {X : Cx} {CX : CXT} {k : Nat} {C f : Addr} {fd : FuncData} {ps : List Str} {sp : Sp} {E : L2.St → XK} {x : Str} {p pos : Pos} {e : Expr} {es : List Expr} {t : TA}
theorem run_makeD {pins : List (Addr × Obj)} {σ : L2.St} {H : Hp} {s : Shared} {Q : VK} {us : List Value} {vs : List V} (M : Mk X.K C f) (F : FnOk X.prog X.w X.K X.mg X.base CX k f fd ps sp) (hr : Room (k + 1) X.A) (hb : Binds X.K fd ps [])
    (hx : PassesAt CX X σ (E σ)) (I : Inv X pins σ H s) (r : Vals vs us) (h : ∀ x dx, H x = none → H dx = none → dx ≠ x → sp (.ref x :: vs) (upd (upd H dx (.own x)) x (.ins C dx [])) (fun v H2 => v = .non ∧ Q (.ref x) H2) (E σ)) :
    wpAny (model X.prog X.w) X.A (call (.ref C) us) (EP X pins σ Q) X.xe s := by
  have hq := h (s.heap.objs.size + 1) s.heap.objs.size (I.hok.fresh (Nat.le_succ _)) (I.hok.fresh (Nat.le_refl _)) (Nat.ne_of_lt (Nat.lt_succ_self _))
  have I2 := Inv.made (C := C) I
  have r2 : Vals (V.ref (s.heap.objs.size + 1) :: vs) (Value.ref (s.heap.objs.size + 1) :: us ++ []) := by rw [List.append_nil]; exact .cons rfl r
  have hl : (Value.ref (s.heap.objs.size + 1) :: us ++ []).length = ps.length := by
    have e := r2.length
    rw [F.len _ _ _ _ hq] at e
    exact e.symm
  refine wpAny_call (make_map (f := f) I.kIn M.makes M.init (beq_iff_eq.mp M.fn) (codeAny_mono (F.run _ X.stack _ _ ⟨Value.ref (s.heap.objs.size + 1) :: us, []⟩ (Value.ref (s.heap.objs.size + 1) :: us ++ []) _ _ (E σ) (hr.make C us [])
    (I2.env0.make C us []) (hb _ (Value.ref (s.heap.objs.size + 1) :: us) I2.kIn hl) r2 hq) fun r s' hq' => ?_))
  cases r with
  | error e => exact hx pins _ _ e s' I2 hq'
  | ok fl =>
    cases fl with
    | ret u =>
      obtain ⟨v, H', I3, rv, ev, q3⟩ := I2.after hq'
      subst ev
      exact ⟨rv, ⟨V.ref (s.heap.objs.size + 1), H', I3, rfl, q3⟩⟩
    | next => exact False.elim hq'
    | brk => exact False.elim hq'
    | cont => exact False.elim hq'
def tMakeD (C : Addr) (sp : Sp) (E : L2.St → XK) (t : TA) : TE := fun σ H Q => t σ H fun vs H1 => ∀ x dx, H1 x = none → H1 dx = none → dx ≠ x → sp (.ref x :: vs) (upd (upd H1 dx (.own x)) x (.ins C dx [])) (fun v H2 => v = .non ∧ Q (.ref x) H2) (E σ)
theorem pe_makeD (M : Mk X.K C f) (F : FnOk X.prog X.w X.K X.mg X.base CX k f fd ps sp) (hr : Room (k + 1) X.A) (hg : Gl X x) (hm : X.mg x = some (.ref C)) (hb : Binds X.K fd ps []) (hx : ∀ σ, PassesAt CX X σ (E σ))
    (ha : PA X (e :: es) t) (hdb : (x == ("__debug__" : Str)) = false) (he : starEach (e :: es) X.env = (false, eval e X.env) :: starEach es X.env) (hpl : (backTo pos (starEach es X.env)).any (·.1) = false) :
    PE X (.Call (.Name x p) (e :: es) [] pos) (tMakeD C sp E t) := by
  refine ⟨fun pins s σ H Q I h => ?_⟩
  refine wpAny_Call_Name_kw (ld_glob I hg hm ?_ hdb)
  refine PySem.W.callWith_K (h₀ := X.base) I.ok.mod.kin M.kp (thn (ha.run pos pins s σ H _ I h) fun us s1 ⟨vs, H1, I1, r, q⟩ => ⟨I1.kIn, ?_⟩) he hpl
  exact run_makeD M F hr hb (hx σ) I1 r q
end
section
variable {G : Gm} {sc : Scope} {R : Exn → Prop} {ρ : Rho} {P : D → Bool → Prop} {E : DE} {e : Expr} {es : List Expr} {pos : Pos}
theorem we_mk {c : Mkr} {p : Pos} (ok : GOk G sc R) (mk : MkrOk G.X c) (hl : c.lev + 1 ≤ G.k) (hx : sc.names.lookup c.cn = some .globalImplicit) (hdb : (c.cn == ("__debug__" : Str)) = false)
    (he : starEach (e :: es) G.X.env = (false, eval e G.X.env) :: starEach es G.X.env) (hpl : (backTo pos (starEach es G.X.env)).any (·.1) = false)
    (w : WA G (e :: es) ρ fun ds => ds.length = c.ar ∧ c.sp ds (fun ks ws => P (.obj c.cn ks ws) false) R) : WE G (.Call (.Name c.cn p) (e :: es) [] pos) ρ P := fun h σ H S => by
  obtain ⟨fd, ps, F, hb⟩ := mk.ini
  refine Ev.of (pe_makeD (E := fun σ cls dx H' => Wish G R cls dx σ H') mk.mak F (ok.room.mono hl) (ok.sv.glb _ hx) mk.glo hb (fun σ => L2N.passAt ok.tk σ) pa_self hdb he hpl) ((w h σ H S).mono fun vs H1 ⟨x1, ds, r, hln, q⟩ x dx nx ndx hne => ?_)
  have S1 := S.ext x1
  have hx' : ¬ h x := S1.ent.fresh nx
  have hdx : ¬ h dx := S1.ent.fresh ndx
  have up : ∀ b o, H1 b = some o → upd (upd H1 dx (.own x)) x (.ins (He.ga G.X.K c.cn) dx []) b = some o := fun b o eb => by
    rw [upd_ne (ne_of_none eb nx), upd_ne (ne_of_none eb ndx)]
    exact eb
  have nax : ¬ adr G.g x := fun z => hx' (S1.ent.sub x (S1.ent.reg x z))
  have x2 : Ext G.g H1 (del (upd (upd H1 dx (.own x)) x (.ins (He.ga G.X.K c.cn) dx [])) x) := .same fun b o eb => by
    rw [del_ne (ne_of_none eb nx)]
    exact up b o eb
  refine ⟨G.g, h, ds, _, R, x, dx, vs, rfl, hln, fun a z => S1.ent.sub a (S1.ent.reg a z), fun a z => ?_, hx', rok_mono (fun a o _ eo => up a o eo) S1.ent.ok, upd_same, r.mono fun a o eo => ?_, q, fun H' dx' fs ws x3 ex rws pq => ⟨rfl, ?_⟩, fun cls d H' e' x3 ex re => ?_⟩
  · obtain ⟨o, eo⟩ := S1.ent.trk a z
    exact ⟨o, up a o eo⟩
  · obtain ⟨n1, e1⟩ := hid_some eo
    exact hid_of (fun z => z.elim n1 fun z => by rw [z, nx] at e1; cases e1) (up a o e1)
  · refine ⟨x1.trans (x2.trans x3), .obj c.cn (fs.map (·.1)) ws, false, .obj (hid_of hx' ex) (rws.mono fun a o eo => ?_), (fun z => nomatch z), pq⟩
    obtain ⟨n1, e1⟩ := hid_some eo
    exact hid_of (fun z => n1 (.inl z)) e1
  · exact ⟨h, ρ, e', S1.ext (x2.trans x3), ex, re⟩
/-! self.f = e -/
def putD (f : Str) (d : D) : List Str → List D → List Str × List D
  | k :: ks, v :: vs => if k = f then (k :: ks, d :: vs) else (k :: (putD f d ks vs).1, v :: (putD f d ks vs).2)
  | _, _ => ([f], [d])
theorem putD_ok {K : PySem.W.Frag} {g : Option Rg} {H : Hp} {f : Str} {v : V} {d : D} (r : Dr K g H v d) : ∀ {fs : List (Str × V)} {vs : List D}, DrL K g H (fs.map (·.2)) vs → DrL K g H ((putF f v fs).map (·.2)) (putD f d (fs.map (·.1)) vs).2 ∧ (putF f v fs).map (·.1) = (putD f d (fs.map (·.1)) vs).1
  | [], [], .nil => ⟨.one r, rfl⟩
  | (k, x) :: fs, y :: vs, .cons h t => by
    obtain ⟨a, b⟩ := putD_ok r t
    show DrL K g H ((if k = f then (k, v) :: fs else (k, x) :: putF f v fs).map (·.2)) (if k = f then (k :: fs.map (·.1), d :: vs) else (k :: (putD f d (fs.map (·.1)) vs).1, y :: (putD f d (fs.map (·.1)) vs).2)).2 ∧
      (if k = f then (k, v) :: fs else (k, x) :: putF f v fs).map (·.1) = (if k = f then (k :: fs.map (·.1), d :: vs) else (k :: (putD f d (fs.map (·.1)) vs).1, y :: (putD f d (fs.map (·.1)) vs).2)).1
    by_cases q : k = f
    · rw [if_pos q, if_pos q]
      exact ⟨.cons r t, rfl⟩
    · rw [if_neg q, if_neg q]
      exact ⟨.cons h a, congrArg (k :: ·) b⟩
theorem StOk.ownI {h : Addr → Prop} {σ : L2.St} {H : Hp} (S : StOk G h σ ρ H) {i : Nat} {p : Addr} {C : Str} {ks : List Str} {ws : List D} (e : ρ[i]? = some (.ins p C ks ws)) : ∃ (dx : Addr) (fs : List (Str × V)), σ[i]? = some (some (.ref p)) ∧ h p ∧ ¬ G.h0 p ∧ H p = some (.ins (He.ga G.X.K C) dx fs) ∧ fs.map (·.1) = ks ∧ DrL G.X.K G.g (hid h H) (fs.map (·.2)) ws ∧
    ∀ (fs' : List (Str × V)) (ws' : List D) (H' : Hp), Ext G.g H H' → DrL G.X.K G.g (hid h H') (fs'.map (·.2)) ws' → StOk G h σ (ρ.set i (.ins p C (fs'.map (·.1)) ws')) (upd H' p (.ins (He.ga G.X.K C) dx fs')) := by
  obtain ⟨own, h1, h2, h3⟩ := S.sl
  have hi := (List.getElem?_eq_some_iff.mp e).1
  have es : σ[i]? = some (σ[i]'(by rw [S.len]; exact hi)) := List.getElem?_eq_getElem _
  obtain ⟨⟨ep, q1⟩, q2, dx, fs, q3, q4, q5⟩ := h3 i _ _ e es
  have np := h2 i _ e trivial
  subst ep
  refine ⟨dx, fs, by rw [es, q1], q2, np, q3, q4, q5, fun fs' ws' H' x r => ?_⟩
  have S' := S.ext x
  have nr : ¬ adr G.g (own i) := fun z => np (S.ent.reg _ z)
  have m : ∀ a u, hid h H' a = some u → hid h (upd H' (own i) (.ins (He.ga G.X.K C) dx fs')) a = some u := fun a u z => by
    obtain ⟨n1, e1⟩ := hid_some z
    exact hid_of n1 (by rw [upd_ne (fun y => n1 (by rw [y]; exact q2))]; exact e1)
  have m0 := S.ent.mono x
  have bk : ∀ (j : Nat) (s : Sl), (ρ.set i (.ins (own i) C (fs'.map (·.1)) ws'))[j]? = some s → j ≠ i → ρ[j]? = some s := fun j s e q => by rw [List.getElem?_set_ne (Ne.symm q)] at e; exact e
  refine ⟨⟨fun a u e0 na => ?_, S'.ent.sub, S'.ent.reg, S'.ent.trk0, fun a z => ?_, rok_mono (fun a o na eo => by rw [upd_ne (fun y => nr (by rw [← y]; exact na))]; exact eo) S'.ent.ok⟩, by rw [List.length_set]; exact S.len, own, fun j k s t e1 e2 o1 o2 q => ?_, fun j s e1 o1 => ?_, fun j s o e1 e2 => ?_⟩
  · obtain ⟨k1, k2⟩ := S'.ent.keep a u e0 na
    exact ⟨by rw [upd_ne (fun y => np (k2 (by rw [y]; exact q2) |> fun z => by rw [← y]; exact z))]; exact k1, k2⟩
  · by_cases q : a = own i
    · rw [q]; exact ⟨_, upd_same⟩
    · rw [upd_ne q]; exact S'.ent.trk a z
  · have b1 : ∃ s', ρ[j]? = some s' ∧ s'.own := by
      by_cases q : j = i
      · subst q; exact ⟨_, e, trivial⟩
      · exact ⟨s, bk j s e1 q, o1⟩
    have b2 : ∃ s', ρ[k]? = some s' ∧ s'.own := by
      by_cases q : k = i
      · subst q; exact ⟨_, e, trivial⟩
      · exact ⟨t, bk k t e2 q, o2⟩
    obtain ⟨s', e1', o1'⟩ := b1
    obtain ⟨t', e2', o2'⟩ := b2
    exact h1 j k s' t' e1' e2' o1' o2' q
  · by_cases q : j = i
    · subst q; exact np
    · exact h2 j s (bk j s e1 q) o1
  · by_cases q : j = i
    · subst q
      rw [List.getElem?_set_self hi] at e1
      cases e1
      rw [es] at e2
      cases e2
      exact ⟨⟨rfl, q1⟩, q2, dx, fs', upd_same, rfl, r.mono m⟩
    · have e1' := bk j s e1 q
      refine ((h3 j s o e1' e2).mono m0 fun os z => ⟨z, fun u y => x.keep _ u (S.ent.nreg (h2 j s e1' os)) y⟩).mono m fun os z => ⟨z, fun u y => ?_⟩
      rw [upd_ne (fun y => q (h1 j i s _ e1' e os trivial y))]
      exact y
theorem ws_stf {i : Nat} {x f C : Str} {a : Addr} {p p2 : Pos} {ks : List Str} {ws : List D} (nm : Nm G i x) (hi : ρ[i]? = some (.ins a C ks ws)) (hz : ks.length < 1000) (fo : FldOk G.X.K C f) (hs : swapsWith e (some (.Attribute (.Name x p) f p2)) pos.line G.X.env = pure false)
    (w : WE G e ρ fun d _ => E.nx (ρ.set i (.ins a C (putD f d ks ws).1 (putD f d ks ws).2))) : WS G (.Assign [.Attribute (.Name x p) f p2] e pos) ρ E := fun h σ H S => by
  obtain ⟨dx, fs, q1, q2, q3, q4, q5, q6, go⟩ := S.ownI hi
  refine Sv.of (ps_fld nm.pe pe_self hs) ((w h σ H S).mono fun v H1 ⟨x1, d, _, r, _, q⟩ => ?_)
  have e1 : H1 a = some (.ins (He.ga G.X.K C) dx fs) := x1.keep _ _ (S.ent.nreg q3) q4
  have r6 := q6.mono (S.ent.mono x1)
  obtain ⟨r7, e7⟩ := putD_ok (f := f) r r6
  have S2 := go (putF f v fs) _ H1 x1 r7
  rw [e7, q5] at S2
  refine ⟨.ref a, q1, a, _, dx, fs, rfl, e1, fo.cls, fo.no, by rw [← List.length_map (f := (·.1)), q5]; exact hz, h, _, pers_own q2 (pers_ext S.ent x1), S2, ?_⟩
  exact q
end
end Pd
end
section
set_option Elab.async false
set_option linter.all false
set_option maxRecDepth 100000
set_option maxHeartbeats 4000000
/-! ## side conditions by Bool -/
namespace Pd
open PySem PySem.Spec PyProof.Rows L2
/-! ### shapes of the written tree -/
def star (e : Expr) : Bool := match e with | .Starred _ _ => true | _ => false
def compE (e : Expr) : Bool := match e with | .ListComp .. => true | .SetComp .. => true | .DictComp .. => true | _ => false
def setE (e : Expr) : Bool := match e with | .Set .. => true | _ => false
def sliE (e : Expr) : Bool := match e with | .Slice .. => true | _ => false
/-- its truth is asked of its value -/
def truE (e : Expr) : Bool := match e with | .UnaryOp .Not _ _ => false | .BoolOp .. => false | .IfExp .. => false | .Compare .. => false | _ => true
/-- no call of super() -/
def supE (e : Expr) : Bool := match e with | .Call .. => false | _ => true
def tupE (e : Expr) : Bool := match e with | .Tuple .. => true | .List .. => true | _ => false
section
variable {e : Expr} {es : List Expr} {env : Env}
theorem star_cons (h : star e = false) : starEach (e :: es) env = (false, eval e env) :: starEach es env := by cases e <;> first | rfl | cases h
theorem star_len : ∀ (es : List Expr), (starEach es env).length = es.length
  | [] => rfl
  | e :: es => by
    have := star_len es
    cases e <;> exact congrArg Nat.succ this
theorem star_any {pos : Pos} : ∀ {es : List Expr}, es.all (fun e => !star e) = true → (backTo pos (starEach es env)).any (·.1) = false
  | [], _ => rfl
  | e :: es, h => by
    rw [List.all_cons, Bool.and_eq_true] at h
    have h1 : star e = false := by
      have := h.1
      simpa using this
    rw [star_cons h1]
    exact star_any (es := es) h.2
theorem star_all {pos : Pos} : ∀ {es : List Expr}, es.all (fun e => !star e) = true → (backTo pos (starEach es env)).all (fun x => !x.1) = true
  | [], _ => rfl
  | e :: es, h => by
    rw [List.all_cons, Bool.and_eq_true] at h
    have h1 : star e = false := by
      have := h.1
      simpa using this
    rw [star_cons h1]
    exact star_all (es := es) h.2
theorem asg_cons (h : star e = false) : assignEach (e :: es) env = (false, assign e env) :: assignEach es env := by cases e <;> first | rfl | cases h
theorem asg_len : ∀ (es : List Expr), (assignEach es env).length = es.length
  | [] => rfl
  | e :: es => by
    have := asg_len es
    cases e <;> exact congrArg Nat.succ this
theorem asg_star : ∀ {es : List Expr}, es.all (fun e => !star e) = true → (assignEach es env).findIdx? (·.1) = none
  | [], _ => rfl
  | e :: es, h => by
    rw [List.all_cons, Bool.and_eq_true] at h
    have h1 : star e = false := by
      have := h.1
      simpa using this
    rw [asg_cons h1, List.findIdx?_cons, asg_star (es := es) h.2]
    rfl
theorem swaps_no {t : Option Expr} {l : Nat} (h : compE e = false) : swapsWith e t l env = pure false := by cases e <;> first | rfl | cases h
theorem swaps1_no {t : Expr} {l : Nat} (h : compE e = false) : swapsWithSole [t] e l env = pure false := swaps_no (t := some t) h
theorem truth_at (h : truE e = true) : ∀ whole, isTrue e env whole = (do let v ← whole; standAt e.pos; holding [v] (truthy v)) := fun whole => by
  cases e with
  | UnaryOp o _ _ => cases o <;> first | rfl | cases h
  | BoolOp _ _ _ => cases h
  | IfExp _ _ _ _ => cases h
  | Compare _ _ _ _ => cases h
  | _ => rfl
theorem marks_no {o : CmpOp} (h : setE e = false) : behindInMarks o e = false := by cases e <;> first | rfl | cases h
theorem fold_no (h : setE e = false) : ∀ x, foldedSetIterable e env x = pure x := fun x => by cases e <;> first | rfl | cases h
theorem plain_ix (h : sliE e = false) : PlainIx e := fun o i => by cases e <;> first | rfl | cases h
theorem attr_base {f : Str} {w : Sem Value} (h : supE e = true) : attributeBase e f env w = w := by cases e <;> first | rfl | cases h
theorem stores_no {t : Expr} (h : tupE e = false) : swappedStores [t] e env = pure none := by
  cases t <;> cases e <;> first | rfl | cases h
theorem stores_no2 {t : Expr} (h : tupE t = false) : swappedStores [t] e env = pure none := by
  cases t <;> first | rfl | cases h
end
/-! ### what is written, by its parts -/
def asName : Expr → Option Str | .Name x _ => some x | _ => none
theorem asName_ok {e : Expr} {x : Str} (h : asName e = some x) : ∃ p, e = .Name x p := by cases e <;> first | (cases h; exact ⟨_, rfl⟩) | cases h
def asCon : Expr → Option Const | .Constant c _ _ => some c | _ => none
theorem asCon_ok {e : Expr} {x : Const} (h : asCon e = some x) : ∃ j p, e = .Constant x j p := by cases e <;> first | (cases h; exact ⟨_, _, rfl⟩) | cases h
def asBin : Expr → Option (Expr × Operator × Expr) | .BinOp a o b _ => some (a, o, b) | _ => none
theorem asBin_ok {e a b : Expr} {o : Operator} (h : asBin e = some (a, o, b)) : ∃ p, e = .BinOp a o b p := by cases e <;> first | (cases h; exact ⟨_, rfl⟩) | cases h
def asCmp : Expr → Option (Expr × CmpOp × Expr) | .Compare a [o] [b] _ => some (a, o, b) | _ => none
theorem asCmp_ok {e a b : Expr} {o : CmpOp} (h : asCmp e = some (a, o, b)) : ∃ p, e = .Compare a [o] [b] p := by
  unfold asCmp at h
  split at h <;> cases h
  exact ⟨_, rfl⟩
def asChn : Expr → Option (Expr × CmpOp × CmpOp × Expr × Expr) | .Compare a [o, o'] [b, c] _ => some (a, o, o', b, c) | _ => none
theorem asChn_ok {e a b c : Expr} {o o' : CmpOp} (h : asChn e = some (a, o, o', b, c)) : ∃ p, e = .Compare a [o, o'] [b, c] p := by
  unfold asChn at h
  split at h <;> cases h
  exact ⟨_, rfl⟩
def asBop : Expr → Option (BoolOp × List Expr) | .BoolOp o es _ => some (o, es) | _ => none
theorem asBop_ok {e : Expr} {o : BoolOp} {es : List Expr} (h : asBop e = some (o, es)) : ∃ p, e = .BoolOp o es p := by cases e <;> first | (cases h; exact ⟨_, rfl⟩) | cases h
def asUn : Expr → Option (UnaryOp × Expr) | .UnaryOp o a _ => some (o, a) | _ => none
theorem asUn_ok {e a : Expr} {o : UnaryOp} (h : asUn e = some (o, a)) : ∃ p, e = .UnaryOp o a p := by cases e <;> first | (cases h; exact ⟨_, rfl⟩) | cases h
def asIfe : Expr → Option (Expr × Expr × Expr) | .IfExp c a b _ => some (c, a, b) | _ => none
theorem asIfe_ok {e c a b : Expr} (h : asIfe e = some (c, a, b)) : ∃ p, e = .IfExp c a b p := by cases e <;> first | (cases h; exact ⟨_, rfl⟩) | cases h
def asTup : Expr → Option (List Expr) | .Tuple es _ _ => some es | _ => none
theorem asTup_ok {e : Expr} {es : List Expr} (h : asTup e = some es) : ∃ k p, e = .Tuple es k p := by cases e <;> first | (cases h; exact ⟨_, _, rfl⟩) | cases h
def asLst : Expr → Option (List Expr) | .List es _ => some es | _ => none
theorem asLst_ok {e : Expr} {es : List Expr} (h : asLst e = some es) : ∃ p, e = .List es p := by cases e <;> first | (cases h; exact ⟨_, rfl⟩) | cases h
def asSub : Expr → Option (Expr × Expr) | .Subscript a b _ => some (a, b) | _ => none
theorem asSub_ok {e a b : Expr} (h : asSub e = some (a, b)) : ∃ p, e = .Subscript a b p := by cases e <;> first | (cases h; exact ⟨_, rfl⟩) | cases h
def asSli : Expr → Option (Option Expr × Option Expr) | .Slice a b none _ => some (a, b) | _ => none
theorem asSli_ok {e : Expr} {a b : Option Expr} (h : asSli e = some (a, b)) : ∃ p, e = .Slice a b none p := by
  unfold asSli at h
  split at h <;> cases h
  exact ⟨_, rfl⟩
def asRev : Expr → Bool | .Slice none none (some (.UnaryOp .USub (.Constant (.int 1) _ _) _)) _ => true | _ => false
theorem asRev_ok {e : Expr} (h : asRev e = true) : ∃ k p1 p2 p3, e = .Slice none none (some (.UnaryOp .USub (.Constant (.int 1) k p1) p2)) p3 := by
  unfold asRev at h
  split at h
  · exact ⟨_, _, _, _, rfl⟩
  · cases h
def asCall : Expr → Option (Str × List Expr) | .Call (.Name x _) es [] _ => some (x, es) | _ => none
theorem asCall_ok {e : Expr} {x : Str} {es : List Expr} (h : asCall e = some (x, es)) : ∃ p p2, e = .Call (.Name x p) es [] p2 := by
  unfold asCall at h
  split at h <;> cases h
  exact ⟨_, _, rfl⟩
def asLrg : Expr → Option Expr | .Call (.Name l _) [.Call (.Name r _) [y] [] _] [] _ => if l == ("list" : Str) && r == ("range" : Str) then some y else none | _ => none
theorem asLrg_ok {e y : Expr} (h : asLrg e = some y) : ∃ p p2 p3 p4, e = .Call (.Name "list" p) [.Call (.Name "range" p2) [y] [] p3] [] p4 := by
  unfold asLrg at h
  split at h
  · split at h
    · rename_i c
      cases h
      rw [Bool.and_eq_true] at c
      have e1 := eq_of_beq c.1
      have e2 := eq_of_beq c.2
      rw [e1, e2]
      exact ⟨_, _, _, _, rfl⟩
    · cases h
  · cases h
def asMeth : Expr → Option (Expr × Str × List Expr) | .Call (.Attribute a m ap) es [] p => if ap.endLine == p.line then some (a, m, es) else none | _ => none
theorem asMeth_ok {e a : Expr} {m : Str} {es : List Expr} (h : asMeth e = some (a, m, es)) : ∃ ap p, e = .Call (.Attribute a m ap) es [] p ∧ (ap.endLine == p.line) = true := by
  unfold asMeth at h
  split at h
  · split at h <;> cases h
    exact ⟨_, _, rfl, by assumption⟩
  · cases h
def asAttr : Expr → Option (Expr × Str) | .Attribute a f _ => some (a, f) | _ => none
theorem asAttr_ok {e a : Expr} {f : Str} (h : asAttr e = some (a, f)) : ∃ p, e = .Attribute a f p := by cases e <;> first | (cases h; exact ⟨_, rfl⟩) | cases h
structure CompP where
  elt : Expr
  tg : Expr
  iter : Expr
  ifs : List Expr
  sc : Scope
  pos : Pos
def asComp : Expr → Option CompP | .ListComp elt [⟨tg, iter, ifs, 0⟩] s p => some ⟨elt, tg, iter, ifs, s, p⟩ | _ => none
theorem asComp_ok {e : Expr} {c : CompP} (h : asComp e = some c) : e = .ListComp c.elt [⟨c.tg, c.iter, c.ifs, 0⟩] c.sc c.pos := by
  unfold asComp at h
  split at h <;> cases h
  rfl
/-! ### the scope -/
def isG (sc : Scope) (x : Str) : Bool := sc.names.lookup x == some .globalImplicit
theorem isG_ok {sc : Scope} {x : Str} (h : isG sc x = true) : sc.names.lookup x = some .globalImplicit := by unfold isG at h; simpa using h
def isV (sc : Scope) (x : Str) : Bool := match sc.names.lookup x with | some .local => true | some .cell => true | some .free => true | _ => false
theorem isV_ok {sc : Scope} {x : Str} (h : isV sc x = true) : sc.names.lookup x = some .local ∨ sc.names.lookup x = some .cell ∨ sc.names.lookup x = some .free := by
  unfold isV at h
  split at h
  · exact .inl (by assumption)
  · exact .inr (.inl (by assumption))
  · exact .inr (.inr (by assumption))
  · cases h
def isS (sc : Scope) (x : Str) : Bool := match sc.names.lookup x with | some .local => true | some .cell => true | _ => false
theorem isS_ok {sc : Scope} {x : Str} (h : isS sc x = true) : sc.names.lookup x = some .local ∨ sc.names.lookup x = some .cell := by
  unfold isS at h
  split at h
  · exact .inl (by assumption)
  · exact .inr (by assumption)
  · cases h
def okN (x : Str) : Bool := !(x == ("__debug__" : Str)) && !(x == ("__classdict__" : Str))
theorem okN_ok {x : Str} (h : okN x = true) : (x == ("__debug__" : Str)) = false ∧ (x == ("__classdict__" : Str)) = false := by
  unfold okN at h
  rw [Bool.and_eq_true] at h
  exact ⟨by simpa using h.1, by simpa using h.2⟩
def atN (N : List Str) (i : Nat) (x : Str) : Bool := match N[i]? with | some y => y == x | none => false
theorem atN_ok {N : List Str} {i : Nat} {x : Str} (h : atN N i x = true) : N[i]? = some x := by
  unfold atN at h
  split at h
  · rename_i y e
    have : y = x := by simpa using h
    rw [e, this]
  · cases h
/-- all that a def's code may lean on -/
structure GK (G : Gm) (sc : Scope) (R : Exn → Prop) : Prop extends GOk G sc R where
  fn : ∀ x, sc.names.lookup x = some .cell → G.X.fn x = true
theorem relS_free {sc : Scope} : ∀ {names : List (Str × NameKind)} {x : Str}, names.lookup x = some .free →
    (names.map fun (n, k) => if (k == NameKind.free && sc.kind == .function && sc.names.lookup n == some .cell) then (n, NameKind.cell) else (n, k)).lookup x = some .cell ∨
    (names.map fun (n, k) => if (k == NameKind.free && sc.kind == .function && sc.names.lookup n == some .cell) then (n, NameKind.cell) else (n, k)).lookup x = some .free
  | [], _, h => by simp at h
  | (n, k) :: r, x, h => by
    have ih := @relS_free sc r x
    show List.lookup x ((if (k == NameKind.free && sc.kind == .function && sc.names.lookup n == some .cell) = true then (n, NameKind.cell) else (n, k)) :: (r.map _)) = _ ∨ List.lookup x ((if (k == NameKind.free && sc.kind == .function && sc.names.lookup n == some .cell) = true then (n, NameKind.cell) else (n, k)) :: (r.map _)) = _
    cases hx : x == n with
    | true =>
      simp only [List.lookup_cons, hx] at h
      cases h
      by_cases hc : (NameKind.free == NameKind.free && sc.kind == .function && sc.names.lookup n == some .cell) = true
      · rw [if_pos hc]; left; simp only [List.lookup_cons, hx]
      · rw [if_neg hc]; right; simp only [List.lookup_cons, hx]
    | false =>
      simp only [List.lookup_cons, hx] at h
      by_cases hc : (k == NameKind.free && sc.kind == .function && sc.names.lookup n == some .cell) = true
      · rw [if_pos hc]; simp only [List.lookup_cons, hx]; exact ih h
      · rw [if_neg hc]; simp only [List.lookup_cons, hx]; exact ih h
/-- a comprehension's block, by its written scope -/
def blkB (N : List Str) (sc s : Scope) (own : List (Str × Nat)) : Bool :=
  s.kind == .function && s.names.all (fun y => s.names.lookup y.1 == some y.2) && own.all (fun p => atN N p.2 p.1) &&
    s.names.all (fun y => match y.2 with
      | .free => (match sc.names.lookup y.1 with | some .cell => true | some .free => true | _ => false)
      | .local => (own.map (·.1)).contains y.1 || !N.contains y.1
      | .cell => (own.map (·.1)).contains y.1 || !N.contains y.1
      | _ => true)
section
variable {G : Gm} {sc s : Scope} {R : Exn → Prop} {own : List (Str × Nat)}
theorem blkB_ok (sv : SV G.X sc) (h : blkB G.X.N sc s own = true) : BlkOk G.X.N G.X.env.scope s own := by
  unfold blkB at h
  simp only [Bool.and_eq_true, List.all_eq_true] at h
  obtain ⟨⟨⟨h1, h2⟩, h3⟩, h4⟩ := h
  refine ⟨by simpa using h1, fun y hy => by simpa using h2 y hy, fun p hp => atN_ok (h3 p hp), fun y hy e => ?_, fun y hy e => ?_⟩
  · have q := h4 y hy
    rw [e] at q
    dsimp only at q
    split at q
    · exact sv.cap _ (.inl (by assumption))
    · exact sv.cap _ (.inr (by assumption))
    · cases q
  · have q := h4 y hy
    have q' : ((own.map (·.1)).contains y.1 || !G.X.N.contains y.1) = true := by
      rcases e with e | e <;> rw [e] at q <;> exact q
    rw [Bool.or_eq_true] at q'
    rcases q' with q' | q'
    · exact .inl (by simpa using q')
    · exact .inr (by simpa using q')
theorem GK.blk (ok : GK G sc R) (h : blkB G.X.N sc s own = true) (sh : Shared) (Hb : Hp) (C : Addr) (cl : List (Str × Addr)) (fp : List Addr) : GK (G.blk sh Hb s C cl fp) s (fun _ => False) := by
  have hk : s.kind = .function := (blkB_ok ok.sv h).kind
  refine ⟨⟨ok.calm, ok.nd, ok.room, ⟨hk, fun x e => lookup_relS_keep (by decide) e, fun x e => lookup_relS_keep (by decide) e, fun x e => ?_, fun x e => lookup_relS_keep (by decide) e⟩, ?_, ok.bi⟩, fun x e => ?_⟩
  · rcases e with e | e
    · exact .inl (lookup_relS_keep (by decide) e)
    · exact relS_free e
  · rintro u s' ⟨a, B, sI, pins, σ, H, cls, d, _, _, _, _, _, _, _, _, h, ρ, e, _, _, f⟩
    exact f
  · show (s.names.lookup x == some .cell) = true
    rw [e]; rfl
end
end Pd
end
section
set_option Elab.async false
set_option linter.all false
set_option maxRecDepth 100000
set_option maxHeartbeats 4000000
/-! ## expressions as terms, what they give over data, and the check against the written tree -/
namespace Pd
open PySem PySem.Spec PyProof.Rows L2
inductive Co where
  | non | bl (b : Bool) | int (i : Int) | str (x : Str)
def Co.d : Co → D
  | .non => .non | .bl b => .bl b | .int i => .int i | .str x => .str x
def Co.c : Co → Const
  | .non => .none | .bl b => .bool b | .int i => .int i | .str x => .str x
def Co.v : Co → V
  | .non => .non | .bl b => .bl b | .int i => .int i | .str x => .str x
theorem Co.pe {X : Cx} {j : Nat} {p : Pos} : ∀ c : Co, PE X (.Constant c.c j p) (tC c.v)
  | .non => pe_non | .bl _ => pe_bl | .int _ => pe_int | .str _ => pe_str
theorem Co.dr {K : PySem.W.Frag} {g : Option Rg} {H : Hp} : ∀ c : Co, Dr K g H c.v c.d
  | .non => .non | .bl _ => .bl _ | .int _ => .int _ | .str _ => .str _
mutual
inductive Tm where
  | var (i : Nat)
  | con (c : Co)
  | glo (x : Str) (d : D)
  | bin (o : Bop) (a b : Tm)
  | cmp (o : Cop) (a b : Tm)
  | chn (o o' : Cop) (a b c : Tm)
  | bop (k : Bool) (ts : Tms)
  | not (a : Tm)
  | tru (a : Tm)
  | ife (c a b : Tm)
  | neg (a : Tm)
  | tup (ts : Tms)
  | lst (ts : Tms)
  | ix (a b : Tm)
  | ixO (i : Nat) (b : Tm)
  | lenO (i : Nat)
  | sl (a : Tm) (lo hi : Ot)
  | rev (a : Tm)
  | call (c : Fn) (ts : Tms)
  | bi (b : Bi) (ts : Tms)
  | isi (t : Ty) (a : Tm)
  | isi2 (t u : Ty) (a : Tm)
  | fld (c f : Str) (a : Tm)
  | meth (cn : Str) (c : Fn) (a : Tm) (ts : Tms)
  | lrg (a : Tm)
  | comp (g : Tg) (own : List (Str × Nat)) (s : Src) (q : Tms) (e : Tm)
  | mk (c : Mkr) (ts : Tms)
inductive Tms where
  | nil | cons (t : Tm) (ts : Tms)
inductive Ot where
  | no | yes (t : Tm)
inductive Src where
  | seq (a : Tm) | r1 (a : Tm) | r2 (a b : Tm) | zip (a b : Tm)
end
/-! ### over data -/
def getV (ρ : Rho) (i : Nat) (P : D → Prop) : Prop := match ρ[i]? with | some (.val d) => P d | _ => False
def getL (ρ : Rho) (i : Nat) (P : List D → Prop) : Prop := match ρ[i]? with | some (.ml d) => P d | _ => False
def asB (d : D) (P : Bool → Prop) : Prop := match d with | .bl k => P k | _ => False
def asI (d : D) (P : Int → Prop) : Prop := match d with | .int k => P k | _ => False
def asQ (d : D) (P : List D → Prop) : Prop := match d with | .lst l => P l | .tup l => P l | _ => False
def asLs (d : D) (P : List D → Prop) : Prop := match d with | .lst l => P l | _ => False
def asO (c : Str) (d : D) (P : List Str → List D → Prop) : Prop := match d with | .obj c' ks vs => c' = c ∧ P ks vs | _ => False
theorem getV_ok {ρ : Rho} {i : Nat} {P : D → Prop} (h : getV ρ i P) : ∃ d, ρ[i]? = some (.val d) ∧ P d := by
  unfold getV at h
  split at h
  · exact ⟨_, by assumption, h⟩
  · exact h.elim
theorem getL_ok {ρ : Rho} {i : Nat} {P : List D → Prop} (h : getL ρ i P) : ∃ d, ρ[i]? = some (.ml d) ∧ P d := by
  unfold getL at h
  split at h
  · exact ⟨_, by assumption, h⟩
  · exact h.elim
theorem asB_ok {d : D} {P : Bool → Prop} (h : asB d P) : ∃ k, d = .bl k ∧ P k := by
  cases d <;> first | exact ⟨_, rfl, h⟩ | exact h.elim
theorem asI_ok {d : D} {P : Int → Prop} (h : asI d P) : ∃ k, d = .int k ∧ P k := by
  cases d <;> first | exact ⟨_, rfl, h⟩ | exact h.elim
theorem asQ_ok {d : D} {P : List D → Prop} (h : asQ d P) : ∃ k, seqD d = some k ∧ P k := by
  cases d <;> first | exact ⟨_, rfl, h⟩ | exact h.elim
theorem asLs_ok {d : D} {P : List D → Prop} (h : asLs d P) : ∃ k, d = .lst k ∧ P k := by
  cases d <;> first | exact ⟨_, rfl, h⟩ | exact h.elim
theorem asO_ok {c : Str} {d : D} {P : List Str → List D → Prop} (h : asO c d P) : ∃ ks vs, d = .obj c ks vs ∧ P ks vs := by
  cases d <;> first | exact h.elim | skip
  obtain ⟨e, h⟩ := h
  subst e
  exact ⟨_, _, rfl, h⟩
/-- a range's bounds -/
def Rg1 (n : Int) : Prop := -(2 ^ 62) ≤ n ∧ n ≤ sizeLine
def Rg2 (m n : Int) : Prop := -(2 ^ 62) ≤ m ∧ m < 2 ^ 62 ∧ -(2 ^ 62) ≤ n ∧ n < 2 ^ 62 ∧ (n - m).toNat ≤ sizeLine
abbrev Nox : Exn → Prop := fun _ => False
mutual
def wE : Tm → (Exn → Prop) → Rho → (D → Bool → Prop) → Prop
  | .var i, _, ρ, P => getV ρ i fun d => P d false
  | .con c, _, _, P => P c.d false
  | .glo _ d, _, _, P => P d false
  | .bin o a b, R, ρ, P => wE a R ρ fun d1 _ => wE b R ρ fun d2 _ => wBin o d1 d2 P
  | .cmp o a b, R, ρ, P => wE a R ρ fun d1 _ => wE b R ρ fun d2 _ => wCmp o d1 d2 fun k => P (.bl k) false
  | .chn o o' a b c, R, ρ, P => wE a R ρ fun d1 _ => wE b R ρ fun d2 _ => wCmp o d1 d2 fun k => if k = true then wE c R ρ fun d3 _ => wCmp o' d2 d3 fun k' => P (.bl k') false else P (.bl false) false
  | .bop k ts, R, ρ, P => wBp k ts R ρ P
  | .not a, R, ρ, P => wE a R ρ fun d _ => asB d fun k => P (.bl (!k)) false
  | .tru _, _, _, _ => False
  | .ife c a b, R, ρ, P => wT c R ρ fun k => if k = true then wE a R ρ P else wE b R ρ P
  | .neg a, R, ρ, P => wE a R ρ fun d _ => asI d fun i => P (.int (-i)) false
  | .tup ts, R, ρ, P => wEs ts R ρ fun ds => ds.length ≤ sizeLine ∧ P (.tup ds) false
  | .lst ts, R, ρ, P => wEs ts R ρ fun ds => ds.length ≤ sizeLine ∧ P (.lst ds) true
  | .ix a b, R, ρ, P => wE a R ρ fun d1 _ => wE b R ρ fun d2 _ => wIx d1 d2 P
  | .ixO i b, R, ρ, P => getL ρ i fun l => wE b R ρ fun d _ => asI d fun k => ∃ y, atI l k = some y ∧ P y false
  | .lenO i, _, ρ, P => getL ρ i fun l => P (.int l.length) false
  | .sl a lo hi, R, ρ, P => wE a R ρ fun d _ => wO lo R ρ fun l => wO hi R ρ fun u => wSl d l u P
  | .rev a, R, ρ, P => wE a R ρ fun d _ => asLs d fun l => P (.lst l.reverse) true
  | .call c ts, R, ρ, P => wEs ts R ρ fun ds => (ds ++ c.dfl).length = c.ar ∧ c.sp (ds ++ c.dfl) P R
  | .bi b ts, R, ρ, P => wEs ts R ρ fun ds => wBi b ds P
  | .isi t a, R, ρ, P => wE a R ρ fun d _ => (∃ s, tyD d = some s) ∧ P (.bl (isTy t d)) false
  | .isi2 t u a, R, ρ, P => wE a R ρ fun d _ => (∃ s, tyD d = some s) ∧ P (.bl (isTy t d || isTy u d)) false
  | .fld c f a, R, ρ, P => wE a R ρ fun d _ => asO c d fun ks vs => ∃ x, oget f ks vs = some x ∧ P x false
  | .meth cn c a ts, R, ρ, P => wE a R ρ fun d _ => asO cn d fun ks vs => c.x ∉ ks ∧ wEs ts R ρ fun ds => (d :: (ds ++ c.dfl)).length = c.ar ∧ c.sp (d :: (ds ++ c.dfl)) P R
  | .lrg a, R, ρ, P => wE a R ρ fun d _ => asI d fun n => L2.RgOk 0 n ∧ P (.lst (rgD 0 n)) true
  | .comp g own s q e, R, ρ, P => wI s R ρ fun items => wLoop (fun d k => wTg g d (wipeR ρ (own.map (·.2))) fun ρ' => wQ q Nox ρ' fun b => if b = true then wE e Nox ρ' fun x _ => k (some x) else k none) items [] fun acc => P (.lst acc) true
  | .mk c ts, R, ρ, P => wEs ts R ρ fun ds => ds.length = c.ar ∧ c.sp ds (fun ks vs => P (.obj c.cn ks vs) false) R
def wT : Tm → (Exn → Prop) → Rho → (Bool → Prop) → Prop
  | .cmp o a b, R, ρ, P => wE a R ρ fun d1 _ => wE b R ρ fun d2 _ => wCmp o d1 d2 P
  | .bop k ts, R, ρ, P => wTb k ts R ρ P
  | .not a, R, ρ, P => wT a R ρ fun k => P (!k)
  | .tru a, R, ρ, P => wE a R ρ fun d _ => truth d P
  | _, _, _, _ => False
def wEs : Tms → (Exn → Prop) → Rho → (List D → Prop) → Prop
  | .nil, _, _, P => P []
  | .cons t ts, R, ρ, P => wE t R ρ fun d _ => wEs ts R ρ fun ds => P (d :: ds)
def wBp (k : Bool) : Tms → (Exn → Prop) → Rho → (D → Bool → Prop) → Prop
  | .nil, _, _, _ => False
  | .cons t .nil, R, ρ, P => wE t R ρ P
  | .cons t (.cons u us), R, ρ, P => wE t R ρ fun d _ => asB d fun b => if b = k then wBp k (.cons u us) R ρ P else P (.bl (!k)) false
def wTb (k : Bool) : Tms → (Exn → Prop) → Rho → (Bool → Prop) → Prop
  | .nil, _, _, _ => False
  | .cons t .nil, R, ρ, P => wT t R ρ P
  | .cons t (.cons u us), R, ρ, P => wT t R ρ fun b => if b = k then wTb k (.cons u us) R ρ P else P (!k)
def wQ : Tms → (Exn → Prop) → Rho → (Bool → Prop) → Prop
  | .nil, _, _, P => P true
  | .cons t .nil, R, ρ, P => wT t R ρ P
  | .cons _ (.cons _ _), _, _, _ => False
def wO : Ot → (Exn → Prop) → Rho → (Option Int → Prop) → Prop
  | .no, _, _, P => P none
  | .yes t, R, ρ, P => wE t R ρ fun d _ => asI d fun i => P (some i)
def wI : Src → (Exn → Prop) → Rho → (List D → Prop) → Prop
  | .seq a, R, ρ, P => wE a R ρ fun d _ => asQ d P
  | .r1 a, R, ρ, P => wE a R ρ fun d _ => asI d fun n => Rg1 n ∧ P (rgD 0 n)
  | .r2 a b, R, ρ, P => wE a R ρ fun d _ => wE b R ρ fun d2 _ => asI d fun m => asI d2 fun n => Rg2 m n ∧ P (rgD m n)
  | .zip a b, R, ρ, P => wE a R ρ fun d1 _ => wE b R ρ fun d2 _ => asQ d1 fun l => asQ d2 fun m => P (zipDD l m)
end
/-! ### what stands behind the names -/
/-- the module -/
structure Mo where
  prog : Program
  w : World
  K : PySem.W.Frag
  mg : Str → Option Value
  base : Heap
abbrev moOf (X : Cx) : Mo := ⟨X.prog, X.w, X.K, X.mg, X.base⟩
def Mo.callee (m : Mo) (c : Fn) : Prop := ∀ X : Cx, moOf X = m → CalleeOk X c
def Mo.glob (m : Mo) (x : Str) (d : D) : Prop := ∀ X : Cx, moOf X = m → Glob X x d
def Mo.meth (m : Mo) (cn : Str) (c : Fn) : Prop := ∀ X : Cx, moOf X = m → MethOk X cn c
def Mo.exi (m : Mo) (c : Exi) : Prop := ∀ X : Cx, moOf X = m → ExiOk X c
def Mo.mkr (m : Mo) (c : Mkr) : Prop := ∀ X : Cx, moOf X = m → MkrOk X c
def Mo.exc (m : Mo) (cn : Str) : Prop := ∀ X : Cx, moOf X = m → ExcOk X cn
mutual
def okE (m : Mo) : Tm → Prop
  | .glo x d => m.glob x d
  | .bin _ a b => okE m a ∧ okE m b
  | .cmp _ a b => okE m a ∧ okE m b
  | .chn _ _ a b c => okE m a ∧ okE m b ∧ okE m c
  | .bop _ ts => okEs m ts
  | .not a => okE m a
  | .tru a => okE m a
  | .ife c a b => okE m c ∧ okE m a ∧ okE m b
  | .neg a => okE m a
  | .tup ts => okEs m ts
  | .lst ts => okEs m ts
  | .ix a b => okE m a ∧ okE m b
  | .ixO _ b => okE m b
  | .sl a lo hi => okE m a ∧ okO m lo ∧ okO m hi
  | .rev a => okE m a
  | .call c ts => m.callee c ∧ okEs m ts
  | .bi _ ts => okEs m ts
  | .isi _ a => okE m a
  | .isi2 _ _ a => okE m a
  | .fld c f a => FldOk m.K c f ∧ okE m a
  | .meth cn c a ts => m.meth cn c ∧ okE m a ∧ okEs m ts
  | .lrg a => okE m a
  | .comp _ _ s q e => okI m s ∧ okEs m q ∧ okE m e
  | .mk c ts => m.mkr c ∧ okEs m ts
  | _ => True
def okEs (m : Mo) : Tms → Prop
  | .nil => True
  | .cons t ts => okE m t ∧ okEs m ts
def okO (m : Mo) : Ot → Prop
  | .no => True
  | .yes t => okE m t
def okI (m : Mo) : Src → Prop
  | .seq a => okE m a
  | .r1 a => okE m a
  | .r2 a b => okE m a ∧ okE m b
  | .zip a b => okE m a ∧ okE m b
end
/-! ### the check -/
mutual
def cG (N : List Str) : Tg → Scope → Expr → Bool
  | .nm i, sc, e => match asName e with | some x => atN N i x && isS sc x | none => false
  | .tp ts, sc, e => match asTup e with | some es => cGs N ts sc es | none => false
def cGs (N : List Str) : Tgs → Scope → List Expr → Bool
  | .nil, _, [] => true
  | .cons t ts, sc, e :: es => !star e && (cG N t sc e && cGs N ts sc es)
  | _, _, _ => false
end
mutual
def cE (N : List Str) (lv : Nat) : Tm → Scope → Expr → Bool
  | .var i, sc, e => match asName e with | some x => atN N i x && (isV sc x && okN x) | none => false
  | .con c, _, e => match asCon e with | some k => decide (k = c.c) | none => false
  | .glo x _, sc, e => match asName e with | some y => y == x && (isG sc x && okN x) | none => false
  | .bin o a b, sc, e => match asBin e with | some (x, p, y) => decide (p = o.op) && (cE N lv a sc x && cE N lv b sc y) | none => false
  | .cmp o a b, sc, e => match asCmp e with | some (x, p, y) => decide (p = o.op) && (!setE y && (cE N lv a sc x && cE N lv b sc y)) | none => false
  | .chn o o' a b c, sc, e => match asChn e with | some (x, p, p', y, z) => decide (p = o.op) && (decide (p' = o'.op) && (!setE y && (!setE z && (cE N lv a sc x && (cE N lv b sc y && cE N lv c sc z))))) | none => false
  | .bop k ts, sc, e => match asBop e with | some (p, es) => decide (p = if k = true then BoolOp.And else BoolOp.Or) && cEs N lv ts sc es | none => false
  | .not a, sc, e => match asUn e with | some (p, x) => decide (p = UnaryOp.Not) && cE N lv a sc x | none => false
  | .tru a, sc, e => truE e && cE N lv a sc e
  | .ife c a b, sc, e => match asIfe e with | some (x, y, z) => cE N lv c sc x && (cE N lv a sc y && cE N lv b sc z) | none => false
  | .neg a, sc, e => match asUn e with | some (p, x) => decide (p = UnaryOp.USub) && cE N lv a sc x | none => false
  | .tup ts, sc, e => match asTup e with | some es => cEs N lv ts sc es | none => false
  | .lst ts, sc, e => match asLst e with | some es => cEs N lv ts sc es | none => false
  | .ix a b, sc, e => match asSub e with | some (x, y) => !sliE y && (cE N lv a sc x && cE N lv b sc y) | none => false
  | .ixO i b, sc, e => match asSub e with | some (x, y) => !sliE y && ((match asName x with | some n => atN N i n && (isV sc n && okN n) | none => false) && cE N lv b sc y) | none => false
  | .lenO i, sc, e => match asCall e with | some (f, [x]) => f == ("len" : Str) && (isG sc f && (match asName x with | some n => atN N i n && (isV sc n && okN n) | none => false)) | _ => false
  | .sl a lo hi, sc, e => match asSub e with
    | some (x, y) => (match asSli y with | some (l, u) => cE N lv a sc x && (cO N lv lo sc l && cO N lv hi sc u) | none => false)
    | none => false
  | .rev a, sc, e => match asSub e with | some (x, y) => asRev y && cE N lv a sc x | none => false
  | .call c ts, sc, e => match asCall e with | some (f, es) => f == c.x && (isG sc c.x && (okN c.x && (decide (c.lev ≤ lv) && cEs N lv ts sc es))) | none => false
  | .bi b ts, sc, e => match asCall e with | some (f, es) => f == b.name && (isG sc b.name && (!es.isEmpty && cEs N lv ts sc es)) | none => false
  | .isi t a, sc, e => match asCall e with
    | some (f, [x, y]) => f == ("isinstance" : Str) && (isG sc f && (isG sc t.name && (!star x && ((match asName y with | some n => n == t.name | none => false) && cE N lv a sc x))))
    | _ => false
  | .isi2 t u a, sc, e => match asCall e with
    | some (f, [x, y]) => f == ("isinstance" : Str) && (isG sc f && (isG sc t.name && (isG sc u.name && (!star x && ((match asTup y with | some [y1, y2] => (match asName y1 with | some n => n == t.name | none => false) && (match asName y2 with | some n => n == u.name | none => false) | _ => false) && cE N lv a sc x)))))
    | _ => false
  | .fld _ f a, sc, e => match asAttr e with | some (x, n) => n == f && (supE x && cE N lv a sc x) | none => false
  | .meth _ c a ts, sc, e => match asMeth e with | some (x, n, es) => n == c.x && (supE x && (decide (c.lev ≤ lv) && (!es.isEmpty && (decide (es.length < 30) && (cE N lv a sc x && cEs N lv ts sc es))))) | none => false
  | .lrg a, sc, e => match asLrg e with | some y => isG sc "list" && (isG sc "range" && (!star y && cE N lv a sc y)) | none => false
  | .comp g own s q el, sc, e => match asComp e with
    | some c => blkB N sc c.sc own && (g.slots.all (fun j => (own.map (·.2)).contains j) && (!setE c.iter && (cI N lv s sc c.tg c.iter && (cG N g c.sc c.tg && (cEs N lv q c.sc c.ifs && cE N lv el c.sc c.elt)))))
    | none => false
  | .mk c ts, sc, e => match asCall e with | some (f, es) => f == c.cn && (isG sc c.cn && (okN c.cn && (decide (c.lev + 1 ≤ lv) && (!es.isEmpty && cEs N lv ts sc es)))) | none => false
def cEs (N : List Str) (lv : Nat) : Tms → Scope → List Expr → Bool
  | .nil, _, [] => true
  | .cons t ts, sc, e :: es => !star e && (cE N lv t sc e && cEs N lv ts sc es)
  | _, _, _ => false
def cO (N : List Str) (lv : Nat) : Ot → Scope → Option Expr → Bool
  | .no, _, none => true
  | .yes t, sc, some e => cE N lv t sc e
  | _, _, _ => false
def cI (N : List Str) (lv : Nat) : Src → Scope → Expr → Expr → Bool
  | .seq a, sc, _, e => cE N lv a sc e
  | .r1 a, sc, _, e => match asCall e with | some (f, [x]) => f == ("range" : Str) && (isG sc f && (!star x && cE N lv a sc x)) | _ => false
  | .r2 a b, sc, _, e => match asCall e with | some (f, [x, y]) => f == ("range" : Str) && (isG sc f && (!star x && (!star y && (cE N lv a sc x && cE N lv b sc y)))) | _ => false
  | .zip a b, sc, tg, e => match asTup tg with
    | some _ => (match asCall e with | some (f, [x, y]) => f == ("zip" : Str) && (isG sc f && (!star x && (!star y && (cE N lv a sc x && cE N lv b sc y)))) | _ => false)
    | none => false
end
end Pd
end
section
set_option Elab.async false
set_option linter.all false
set_option maxRecDepth 100000
set_option maxHeartbeats 4000000
/-! ## the check is sound: expressions -/
namespace Pd
open PySem PySem.Spec PyProof.Rows L2
theorem Bool.a2 {a b : Bool} (h : (a && b) = true) : a = true ∧ b = true := by cases a <;> cases b <;> first | exact ⟨rfl, rfl⟩ | cases h
theorem Bool.nt {a : Bool} (h : (!a) = true) : a = false := by cases a <;> first | rfl | cases h
theorem beq_str {x y : Str} (h : (x == y) = true) : x = y := by simpa using h
section
variable {G : Gm} {sc : Scope} {R : Exn → Prop} {ρ : Rho} {P P' : D → Bool → Prop} {B B' : Bool → Prop} {L L' : List D → Prop} {e : Expr} {es : List Expr}
theorem WT.mono (w : WT G e ρ B) (f : ∀ k, B k → B' k) : WT G e ρ B' := fun h σ H S => (w h σ H S).mono fun v H' ⟨x, p⟩ => ⟨x, f _ p⟩
theorem WA.mono (w : WA G es ρ L) (f : ∀ k, L k → L' k) : WA G es ρ L' := fun h σ H S => (w h σ H S).mono fun v H' ⟨x, ds, r, p⟩ => ⟨x, ds, r, f _ p⟩
theorem WI.mono {tg : Expr} (w : WI G tg e ρ L) (f : ∀ k, L k → L' k) : WI G tg e ρ L' := fun h σ H S pins s I => thn (w h σ H S pins s I) fun v s1 q1 => thn q1 fun itv s2 ⟨it, fp, tn, J, H', e1, I', T, st, fp', x, items, its, hz, p⟩ => ⟨it, fp, tn, J, H', e1, I', T, st, fp', x, items, its, hz, f _ p⟩
theorem WW.mono (w : WW G e ρ B) (f : ∀ k, B k → B' k) : WW G e ρ B' := fun h σ H S => (w h σ H S).mono fun v H' ⟨x, p⟩ => ⟨x, f _ p⟩
end
theorem wCmp_mono {o : Cop} {d1 d2 : D} {B B' : Bool → Prop} (w : wCmp o d1 d2 B) (f : ∀ k, B k → B' k) : wCmp o d1 d2 B' := by
  revert w
  unfold wCmp
  split <;> intro w <;> first | exact f _ w | exact ⟨w.1, w.2.1, f _ w.2.2⟩ | exact w
/-! targets -/
theorem cGs_star {N : List Str} : ∀ {ts : Tgs} {sc : Scope} {es : List Expr}, cGs N ts sc es = true → es.all (fun e => !star e) = true
  | .nil, _, [], _ => rfl
  | .cons t ts, sc, e :: es, h => by
    rw [cGs] at h
    obtain ⟨h1, h2⟩ := Bool.a2 h
    obtain ⟨h3, h4⟩ := Bool.a2 h2
    rw [List.all_cons, h1, cGs_star h4]; rfl
  | .nil, _, _ :: _, h => by cases h
  | .cons _ _, _, [], h => by cases h
theorem wTgs_len {P : Rho → Prop} : ∀ {ts : Tgs} {ds : List D} {ρ : Rho} {P : Rho → Prop} {N : List Str} {sc : Scope} {es : List Expr}, cGs N ts sc es = true → wTgs ts ds ρ P → es.length = ds.length
  | .nil, [], _, _, _, _, [], _, _ => rfl
  | .cons t ts, d :: ds, ρ, P, N, sc, e :: es, h, w => by
    rw [cGs] at h
    obtain ⟨h1, h2⟩ := Bool.a2 h
    obtain ⟨h3, h4⟩ := Bool.a2 h2
    have key : ∀ (t : Tg) (d : D) (ρ : Rho) (K : Rho → Prop), wTg t d ρ K → ∃ ρ', K ρ' := by
      intro t
      refine Tg.rec (motive_1 := fun t => ∀ (d : D) (ρ : Rho) (K : Rho → Prop), wTg t d ρ K → ∃ ρ', K ρ') (motive_2 := fun ts => ∀ (ds : List D) (ρ : Rho) (K : Rho → Prop), wTgs ts ds ρ K → ∃ ρ', K ρ') ?_ ?_ ?_ ?_ t
      · intro i d ρ K w; exact ⟨_, w⟩
      · intro ts ih d ρ K w
        cases d <;> first | exact ih _ _ _ w | exact w.elim
      · intro ds ρ K w
        cases ds <;> first | exact ⟨_, w⟩ | exact w.elim
      · intro t ts iht ihs ds ρ K w
        cases ds with
        | nil => exact w.elim
        | cons d ds =>
          obtain ⟨ρ', w'⟩ := iht _ _ _ w
          exact ihs _ _ _ w'
    obtain ⟨ρ', w'⟩ := key t d ρ _ w
    exact congrArg Nat.succ (wTgs_len (P := P) h4 w')
  | .nil, _ :: _, _, _, _, _, _, _, w => w.elim
  | .cons _ _, [], _, _, _, _, _, _, w => w.elim
  | .nil, [], _, _, _, _, _ :: _, h, _ => by cases h
  | .cons _ _, _ :: _, _, _, _, _, [], h, _ => by cases h
mutual
theorem sG : ∀ (t : Tg) {G : Gm} {sc : Scope} {R : Exn → Prop} {ρ : Rho} {P : Rho → Prop} {e : Expr} {d : D}, GK G sc R → cG G.X.N t sc e = true → wTg t d ρ P → WG G e t.slots d ρ P
  | .nm i, G, sc, R, ρ, P, e, d, ok, h, w => by
    rw [cG] at h
    split at h
    · rename_i x ex
      obtain ⟨p, rfl⟩ := asName_ok ex
      obtain ⟨h1, h2⟩ := Bool.a2 h
      have hs := isS_ok h2
      refine wg_name ok.nd (atN_ok h1) ?_ ?_ w
      · rcases hs with z | z
        · exact .inl (ok.sv.loc _ z)
        · exact .inr (ok.sv.cel _ z)
      · rcases hs with z | z
        · exact .inr (ok.sv.loc _ z)
        · exact .inl (ok.fn _ z)
    · cases h
  | .tp ts, G, sc, R, ρ, P, e, d, ok, h, w => by
    rw [cG] at h
    split at h
    · rename_i es ex
      obtain ⟨k, p, rfl⟩ := asTup_ok ex
      cases d with
      | tup ds => exact wg_tup ok.calm (by rw [asg_len]; exact wTgs_len (P := P) h w) (asg_star (cGs_star h)) (sGs ts ok h w)
      | _ => exact w.elim
    · cases h
theorem sGs : ∀ (ts : Tgs) {G : Gm} {sc : Scope} {R : Exn → Prop} {ρ : Rho} {P : Rho → Prop} {es : List Expr} {ds : List D}, GK G sc R → cGs G.X.N ts sc es = true → wTgs ts ds ρ P → WGs G es ts.slots ds ρ P
  | .nil, G, sc, R, ρ, P, [], [], ok, h, w => wgs_nil w
  | .cons t ts, G, sc, R, ρ, P, e :: es, d :: ds, ok, h, w => by
    rw [cGs] at h
    obtain ⟨h1, h2⟩ := Bool.a2 h
    obtain ⟨h3, h4⟩ := Bool.a2 h2
    refine wgs_cons (by rw [asg_cons (Bool.nt h1)] <;> rfl) ?_
    have q := sG t (P := fun ρ' => wTgs ts ds ρ' P) ok h3 w
    intro h0 σ H v S r
    exact (q h0 σ H v S r).mono fun σ' H' ⟨a, b, ρ', S', w'⟩ => ⟨a, b, ρ', S', sGs ts ok h4 w'⟩
  | .nil, _, _, _, _, _, _ :: _, _, _, h, _ => by cases h
  | .nil, _, _, _, _, _, [], _ :: _, _, _, w => w.elim
  | .cons _ _, _, _, _, _, _, [], _, _, h, _ => by cases h
  | .cons _ _, _, _, _, _, _, _ :: _, [], _, _, w => w.elim
end
theorem cEs_star {N : List Str} {lv : Nat} : ∀ {ts : Tms} {sc : Scope} {es : List Expr}, cEs N lv ts sc es = true → es.all (fun e => !star e) = true
  | .nil, _, [], _ => rfl
  | .cons t ts, sc, e :: es, h => by
    rw [cEs] at h
    obtain ⟨h1, h2⟩ := Bool.a2 h
    obtain ⟨h3, h4⟩ := Bool.a2 h2
    rw [List.all_cons, h1, cEs_star h4]; rfl
  | .nil, _, _ :: _, h => by cases h
  | .cons _ _, _, [], h => by cases h
theorem asNm {G : Gm} {sc : Scope} {R : Exn → Prop} {i : Nat} {x : Expr} (ok : GK G sc R) (h : (match asName x with | some n => atN G.X.N i n && (isV sc n && okN n) | none => false) = true) : ∃ n p, x = .Name n p ∧ Nm G i n := by
  split at h
  · rename_i n e
    obtain ⟨p, rfl⟩ := asName_ok e
    obtain ⟨h1, h2⟩ := Bool.a2 h
    obtain ⟨h3, h4⟩ := Bool.a2 h2
    obtain ⟨h5, h6⟩ := okN_ok h4
    refine ⟨n, p, rfl, atN_ok h1, ?_, h5, h6⟩
    rcases isV_ok h3 with z | z | z
    · exact .inl (ok.sv.loc _ z)
    · exact .inr (ok.sv.cap _ (.inl z))
    · exact .inr (ok.sv.cap _ (.inr z))
  · cases h
theorem asNm2 {x : Expr} {y : Str} (h : (match asName x with | some n => n == y | none => false) = true) : ∃ p, x = .Name y p := by
  split at h
  · rename_i n e
    obtain ⟨p, rfl⟩ := asName_ok e
    rw [beq_str h]
    exact ⟨p, rfl⟩
  · cases h
end Pd
end
section
set_option Elab.async false
set_option linter.all false
set_option maxRecDepth 100000
set_option maxHeartbeats 4000000
namespace Pd
open PySem PySem.Spec PyProof.Rows L2
theorem meth_eval {a e : Expr} {es : List Expr} {m : Str} {ap pos : Pos} {env : Env} (h1 : supE a = true) (h2 : (e :: es).all (fun e => !star e) = true) (h3 : (e :: es).length < 30) (h4 : (ap.endLine == pos.line) = true) :
    eval (.Call (.Attribute a m ap) (e :: es) [] pos) env = (do
      let ov ← eval a env
      standAt ap.atName
      let (f, first) ← holding [ov] (getMethod ov m (do return (← importBound a env).getD true))
      callWith pos f first (backTo pos (starEach (e :: es) env)) (backToKw pos (keywordEach [] env))) := by
  have e1 : eval (.Call (.Attribute a m ap) (e :: es) [] pos) env = (do
    let ov ← attributeBase a m env (eval a env)
    standAt ap.atName
    methodCall a m ap pos env ov ((e :: es).length + ([] : List Keyword).length) (backTo pos (starEach (e :: es) env)) (backToKw pos (keywordEach [] env))) := by rfl
  rw [e1, attr_base h1]
  have e2 : methodCallForm ((e :: es).length + ([] : List Keyword).length) (backTo pos (starEach (e :: es) env)) (backToKw pos (keywordEach [] env)) = true := by
    unfold methodCallForm
    rw [star_all h2]
    simp only [Bool.true_and, Bool.and_eq_true]
    refine ⟨rfl, ?_⟩
    have : (backToKw pos (keywordEach [] env)).isEmpty = true := rfl
    rw [if_pos this]
    simpa using h3
  unfold methodCall
  rw [e2]
  unfold calleeOf methodCallPos
  rw [h4]
  rfl
mutual
theorem sE : ∀ (t : Tm) {G : Gm} {sc : Scope} {R : Exn → Prop} {ρ : Rho} {P : D → Bool → Prop} {e : Expr}, GK G sc R → okE (moOf G.X) t → cE G.X.N G.k t sc e = true → wE t R ρ P → WE G e ρ P
  | .var i, G, sc, R, ρ, P, e, ok, ob, h, w => by
    rw [cE] at h
    rw [wE] at w
    split at h
    · rename_i x ex
      obtain ⟨p, rfl⟩ := asName_ok ex
      obtain ⟨h1, h2⟩ := Bool.a2 h
      obtain ⟨h3, h4⟩ := Bool.a2 h2
      obtain ⟨h5, h6⟩ := okN_ok h4
      obtain ⟨d, ed, w⟩ := getV_ok w
      exact we_var ok.sv (atN_ok h1) (isV_ok h3) h5 h6 ed w
    · cases h
  | .con c, G, sc, R, ρ, P, e, ok, ob, h, w => by
    rw [cE] at h
    rw [wE] at w
    split at h
    · rename_i x ex
      obtain ⟨j, p, rfl⟩ := asCon_ok ex
      obtain rfl := of_decide_eq_true h
      exact we_const (fun _ => Co.pe c) (fun _ _ _ => Co.dr c) w
    · cases h
  | .glo x d, G, sc, R, ρ, P, e, ok, ob, h, w => by
    rw [cE] at h
    rw [wE] at w
    rw [okE] at ob
    split at h
    · rename_i y ex
      obtain ⟨p, rfl⟩ := asName_ok ex
      obtain ⟨h1, h2⟩ := Bool.a2 h
      obtain ⟨h3, h4⟩ := Bool.a2 h2
      obtain ⟨h5, h6⟩ := okN_ok h4
      obtain rfl := beq_str h1
      exact we_glob ok.sv (isG_ok h3) h5 (ob G.X rfl) w
    · cases h
  | .bin o a b, G, sc, R, ρ, P, e, ok, ob, h, w => by
    rw [cE] at h
    rw [wE] at w
    rw [okE] at ob
    split at h
    · rename_i x p y ex
      obtain ⟨ps, rfl⟩ := asBin_ok ex
      obtain ⟨h1, h2⟩ := Bool.a2 h
      obtain ⟨h3, h4⟩ := Bool.a2 h2
      obtain rfl := of_decide_eq_true h1
      exact we_bin ((sE a ok ob.1 h3 w).mono fun d1 _ w => sE b ok ob.2 h4 w)
    · cases h
  | .cmp o a b, G, sc, R, ρ, P, e, ok, ob, h, w => by
    rw [cE] at h
    rw [wE] at w
    rw [okE] at ob
    split at h
    · rename_i x p y ex
      obtain ⟨ps, rfl⟩ := asCmp_ok ex
      obtain ⟨h1, h2⟩ := Bool.a2 h
      obtain ⟨h3, h4⟩ := Bool.a2 h2
      obtain ⟨h5, h6⟩ := Bool.a2 h4
      obtain rfl := of_decide_eq_true h1
      exact we_cmp ok.toGOk (marks_no (Bool.nt h3)) ((sE a ok ob.1 h5 w).mono fun d1 _ w => sE b ok ob.2 h6 w)
    · cases h
  | .chn o o' a b c, G, sc, R, ρ, P, e, ok, ob, h, w => by
    rw [cE] at h
    rw [wE] at w
    rw [okE] at ob
    split at h
    · rename_i x p p' y z ex
      obtain ⟨ps, rfl⟩ := asChn_ok ex
      obtain ⟨h1, h⟩ := Bool.a2 h
      obtain ⟨h2, h⟩ := Bool.a2 h
      obtain ⟨h3, h⟩ := Bool.a2 h
      obtain ⟨h4, h⟩ := Bool.a2 h
      obtain ⟨h5, h⟩ := Bool.a2 h
      obtain ⟨h6, h7⟩ := Bool.a2 h
      obtain rfl := of_decide_eq_true h1
      obtain rfl := of_decide_eq_true h2
      have m2 := marks_no (o := o'.op) (Bool.nt h4)
      refine we_chain ok.toGOk (marks_no (Bool.nt h3)) m2 (fun ho ho' ha hb hc => pe_chain ho ho' ha hb hc m2) ((sE a ok ob.1 h5 w).mono fun d1 _ w => (sE b ok ob.2.1 h6 w).mono fun d2 _ w => ?_)
      refine wCmp_mono w fun k w => ?_
      cases k with
      | false => rw [if_neg Bool.false_ne_true] at w ⊢; exact w
      | true => rw [if_pos rfl] at w ⊢; exact sE c ok ob.2.2 h7 w
    · cases h
  | .bop k ts, G, sc, R, ρ, P, e, ok, ob, h, w => by
    rw [cE] at h
    rw [wE] at w
    rw [okE] at ob
    split at h
    · rename_i p es ex
      obtain ⟨ps, rfl⟩ := asBop_ok ex
      obtain ⟨h1, h2⟩ := Bool.a2 h
      obtain rfl := of_decide_eq_true h1
      exact sBp k ts ok ob h2 w
    · cases h
  | .not a, G, sc, R, ρ, P, e, ok, ob, h, w => by
    rw [cE] at h
    rw [wE] at w
    rw [okE] at ob
    split at h
    · rename_i p x ex
      obtain ⟨ps, rfl⟩ := asUn_ok ex
      obtain ⟨h1, h2⟩ := Bool.a2 h
      obtain rfl := of_decide_eq_true h1
      exact we_not ((sE a ok ob h2 w).mono fun d _ w => asB_ok w)
    · cases h
  | .tru a, G, sc, R, ρ, P, e, ok, ob, h, w => by
    rw [wE] at w
    exact w.elim
  | .ife c a b, G, sc, R, ρ, P, e, ok, ob, h, w => by
    rw [cE] at h
    rw [wE] at w
    rw [okE] at ob
    split at h
    · rename_i x y z ex
      obtain ⟨ps, rfl⟩ := asIfe_ok ex
      obtain ⟨h1, h2⟩ := Bool.a2 h
      obtain ⟨h3, h4⟩ := Bool.a2 h2
      refine we_ife ((sT c ok ob.1 h1 w).mono fun k w => ?_)
      cases k with
      | false => rw [if_neg Bool.false_ne_true] at w ⊢; exact sE b ok ob.2.2 h4 w
      | true => rw [if_pos rfl] at w ⊢; exact sE a ok ob.2.1 h3 w
    · cases h
  | .neg a, G, sc, R, ρ, P, e, ok, ob, h, w => by
    rw [cE] at h
    rw [wE] at w
    rw [okE] at ob
    split at h
    · rename_i p x ex
      obtain ⟨ps, rfl⟩ := asUn_ok ex
      obtain ⟨h1, h2⟩ := Bool.a2 h
      obtain rfl := of_decide_eq_true h1
      exact we_neg ((sE a ok ob h2 w).mono fun d _ w => asI_ok w)
    · cases h
  | .tup ts, G, sc, R, ρ, P, e, ok, ob, h, w => by
    rw [cE] at h
    rw [wE] at w
    rw [okE] at ob
    split at h
    · rename_i es ex
      obtain ⟨k, ps, rfl⟩ := asTup_ok ex
      exact we_tup (sEs ts ok ob h w)
    · cases h
  | .lst ts, G, sc, R, ρ, P, e, ok, ob, h, w => by
    rw [cE] at h
    rw [wE] at w
    rw [okE] at ob
    split at h
    · rename_i es ex
      obtain ⟨ps, rfl⟩ := asLst_ok ex
      exact we_lst (sEs ts ok ob h w)
    · cases h
  | .ix a b, G, sc, R, ρ, P, e, ok, ob, h, w => by
    rw [cE] at h
    rw [wE] at w
    rw [okE] at ob
    split at h
    · rename_i x y ex
      obtain ⟨ps, rfl⟩ := asSub_ok ex
      obtain ⟨h1, h2⟩ := Bool.a2 h
      obtain ⟨h3, h4⟩ := Bool.a2 h2
      exact we_ix (plain_ix (Bool.nt h1)) ((sE a ok ob.1 h3 w).mono fun d1 _ w => sE b ok ob.2 h4 w)
    · cases h
  | .ixO i b, G, sc, R, ρ, P, e, ok, ob, h, w => by
    rw [cE] at h
    rw [wE] at w
    rw [okE] at ob
    split at h
    · rename_i x y ex
      obtain ⟨ps, rfl⟩ := asSub_ok ex
      obtain ⟨h1, h2⟩ := Bool.a2 h
      obtain ⟨h3, h4⟩ := Bool.a2 h2
      obtain ⟨n, p, rfl, nm⟩ := asNm ok h3
      obtain ⟨l, el, w⟩ := getL_ok w
      refine we_ixO nm (plain_ix (Bool.nt h1)) el ((sE b ok ob h4 w).mono fun d _ w => ?_)
      obtain ⟨k, ed, y, ey, w⟩ := asI_ok w
      exact ⟨k, y, ed, ey, w⟩
    · cases h
  | .lenO i, G, sc, R, ρ, P, e, ok, ob, h, w => by
    rw [cE] at h
    rw [wE] at w
    split at h
    · rename_i f x ex
      obtain ⟨p, p2, rfl⟩ := asCall_ok ex
      obtain ⟨h1, h2⟩ := Bool.a2 h
      obtain ⟨h3, h4⟩ := Bool.a2 h2
      obtain rfl := beq_str h1
      obtain ⟨n, p, rfl, nm⟩ := asNm ok h4
      obtain ⟨l, el, w⟩ := getL_ok w
      exact we_lenO ok.toGOk nm (isG_ok h3) rfl el w
    · cases h
  | .sl a lo hi, G, sc, R, ρ, P, e, ok, ob, h, w => by
    rw [cE] at h
    rw [wE] at w
    rw [okE] at ob
    split at h
    · rename_i x y ex
      obtain ⟨ps, rfl⟩ := asSub_ok ex
      split at h
      · rename_i l u ey
        obtain ⟨p2, rfl⟩ := asSli_ok ey
        obtain ⟨h1, h2⟩ := Bool.a2 h
        obtain ⟨h3, h4⟩ := Bool.a2 h2
        refine we_sl ((sE a ok ob.1 h1 w).mono fun d _ w => ?_)
        have q := sO lo ok ob.2.1 h3 w
        revert q
        cases l with
        | none => exact fun q => (show WO G u ρ _ from sO hi ok ob.2.2 h4 q)
        | some l => exact fun q => WE.mono q fun d _ ⟨i, ed, w⟩ => ⟨i, ed, sO hi ok ob.2.2 h4 w⟩
      · cases h
    · cases h
  | .rev a, G, sc, R, ρ, P, e, ok, ob, h, w => by
    rw [cE] at h
    rw [wE] at w
    rw [okE] at ob
    split at h
    · rename_i x y ex
      obtain ⟨ps, rfl⟩ := asSub_ok ex
      obtain ⟨h1, h2⟩ := Bool.a2 h
      obtain ⟨k, p1, p2, p3, rfl⟩ := asRev_ok h1
      exact we_rev ((sE a ok ob h2 w).mono fun d _ w => asLs_ok w)
    · cases h
  | .call c ts, G, sc, R, ρ, P, e, ok, ob, h, w => by
    rw [cE] at h
    rw [wE] at w
    rw [okE] at ob
    split at h
    · rename_i f es ex
      obtain ⟨p, p2, rfl⟩ := asCall_ok ex
      obtain ⟨h1, h⟩ := Bool.a2 h
      obtain ⟨h2, h⟩ := Bool.a2 h
      obtain ⟨h3, h⟩ := Bool.a2 h
      obtain ⟨h4, h5⟩ := Bool.a2 h
      obtain rfl := beq_str h1
      have st := cEs_star h5
      have wa := sEs ts ok ob.2 h5 w
      cases es with
      | nil =>
        cases ts with
        | nil =>
          rw [wEs] at w
          exact we_call0 ok.toGOk (isG_ok h2) (ob.1 G.X rfl) (of_decide_eq_true h4) (okN_ok h3).1 w
        | cons _ _ => cases h5
      | cons e es =>
        rw [List.all_cons] at st
        obtain ⟨s1, s2⟩ := Bool.a2 st
        exact we_call ok.toGOk (isG_ok h2) (ob.1 G.X rfl) (of_decide_eq_true h4) (okN_ok h3).1 (star_cons (Bool.nt s1)) (star_any s2) wa
    · cases h
  | .bi b ts, G, sc, R, ρ, P, e, ok, ob, h, w => by
    rw [cE] at h
    rw [wE] at w
    rw [okE] at ob
    split at h
    · rename_i f es ex
      obtain ⟨p, p2, rfl⟩ := asCall_ok ex
      obtain ⟨h1, h⟩ := Bool.a2 h
      obtain ⟨h2, h⟩ := Bool.a2 h
      obtain ⟨h3, h5⟩ := Bool.a2 h
      obtain rfl := beq_str h1
      have st := cEs_star h5
      have wa := sEs ts ok ob h5 w
      cases es with
      | nil => cases h3
      | cons e es =>
        rw [List.all_cons] at st
        obtain ⟨s1, s2⟩ := Bool.a2 st
        exact we_bi ok.toGOk (isG_ok h2) (star_cons (Bool.nt s1)) (star_any s2) wa
    · cases h
  | .isi t a, G, sc, R, ρ, P, e, ok, ob, h, w => by
    rw [cE] at h
    rw [wE] at w
    rw [okE] at ob
    split at h
    · rename_i f x y ex
      obtain ⟨p, p2, rfl⟩ := asCall_ok ex
      obtain ⟨h1, h⟩ := Bool.a2 h
      obtain ⟨h2, h⟩ := Bool.a2 h
      obtain ⟨h3, h⟩ := Bool.a2 h
      obtain ⟨h4, h⟩ := Bool.a2 h
      obtain ⟨h5, h6⟩ := Bool.a2 h
      obtain rfl := beq_str h1
      obtain ⟨p3, rfl⟩ := asNm2 h5
      exact we_isi ok.toGOk (isG_ok h2) (isG_ok h3) (star_cons (Bool.nt h4)) rfl (sE a ok ob h6 w)
    · cases h
  | .isi2 t u a, G, sc, R, ρ, P, e, ok, ob, h, w => by
    rw [cE] at h
    rw [wE] at w
    rw [okE] at ob
    split at h
    · rename_i f x y ex
      obtain ⟨p, p2, rfl⟩ := asCall_ok ex
      obtain ⟨h1, h⟩ := Bool.a2 h
      obtain ⟨h2, h⟩ := Bool.a2 h
      obtain ⟨h3, h⟩ := Bool.a2 h
      obtain ⟨h3', h⟩ := Bool.a2 h
      obtain ⟨h4, h⟩ := Bool.a2 h
      obtain ⟨h5, h6⟩ := Bool.a2 h
      obtain rfl := beq_str h1
      split at h5
      · rename_i y1 y2 ey
        obtain ⟨k, p4, rfl⟩ := asTup_ok ey
        obtain ⟨h7, h8⟩ := Bool.a2 h5
        obtain ⟨p5, rfl⟩ := asNm2 h7
        obtain ⟨p6, rfl⟩ := asNm2 h8
        exact we_isi2 ok.toGOk (isG_ok h2) (isG_ok h3) (isG_ok h3') (star_cons (Bool.nt h4)) rfl (sE a ok ob h6 w)
      · cases h5
    · cases h
  | .fld c f a, G, sc, R, ρ, P, e, ok, ob, h, w => by
    rw [cE] at h
    rw [wE] at w
    rw [okE] at ob
    split at h
    · rename_i x n ex
      obtain ⟨p, rfl⟩ := asAttr_ok ex
      obtain ⟨h1, h⟩ := Bool.a2 h
      obtain ⟨h2, h3⟩ := Bool.a2 h
      obtain rfl := beq_str h1
      refine we_fld (attr_base h2) ((sE a ok ob.2 h3 w).mono fun d _ w => ?_)
      obtain ⟨ks, vs, ed, x, ex, w⟩ := asO_ok w
      exact ⟨c, ks, vs, x, ed, ob.1, ex, w⟩
    · cases h
  | .meth cn c a ts, G, sc, R, ρ, P, e, ok, ob, h, w => by
    rw [cE] at h
    rw [wE] at w
    rw [okE] at ob
    split at h
    · rename_i x n es ex
      obtain ⟨ap, p, rfl, hl⟩ := asMeth_ok ex
      obtain ⟨h1, h⟩ := Bool.a2 h
      obtain ⟨h2, h⟩ := Bool.a2 h
      obtain ⟨h3, h⟩ := Bool.a2 h
      obtain ⟨h4, h⟩ := Bool.a2 h
      obtain ⟨h5, h⟩ := Bool.a2 h
      obtain ⟨h6, h7⟩ := Bool.a2 h
      obtain rfl := beq_str h1
      have st := cEs_star h7
      cases es with
      | nil => cases h4
      | cons e es =>
        have st' := st
        rw [List.all_cons] at st
        obtain ⟨s1, s2⟩ := Bool.a2 st
        refine we_meth ok.toGOk (ob.1 G.X rfl) (of_decide_eq_true h3) (star_cons (Bool.nt s1)) (star_any s2) (meth_eval h2 st' (of_decide_eq_true h5) hl) ((sE a ok ob.2.1 h6 w).mono fun d _ w => ?_)
        obtain ⟨ks, vs, ed, nk, w⟩ := asO_ok w
        exact ⟨ks, vs, ed, nk, sEs ts ok ob.2.2 h7 w⟩
    · cases h
  | .lrg a, G, sc, R, ρ, P, e, ok, ob, h, w => by
    rw [cE] at h
    rw [wE] at w
    rw [okE] at ob
    split at h
    · rename_i y ex
      obtain ⟨p, p2, p3, p4, rfl⟩ := asLrg_ok ex
      obtain ⟨h1, h⟩ := Bool.a2 h
      obtain ⟨h2, h⟩ := Bool.a2 h
      obtain ⟨h3, h4⟩ := Bool.a2 h
      exact we_lrg ok.toGOk (isG_ok h1) (isG_ok h2) (star_cons (Bool.nt h3)) ((sE a ok ob h4 w).mono fun d _ w => asI_ok w)
    · cases h
  | .comp g own s q el, G, sc, R, ρ, P, e, ok, ob, h, w => by
    rw [cE] at h
    rw [wE] at w
    rw [okE] at ob
    split at h
    · rename_i c ex
      rw [asComp_ok ex]
      obtain ⟨h1, h⟩ := Bool.a2 h
      obtain ⟨h2, h⟩ := Bool.a2 h
      obtain ⟨h3, h⟩ := Bool.a2 h
      obtain ⟨h4, h⟩ := Bool.a2 h
      obtain ⟨h5, h⟩ := Bool.a2 h
      obtain ⟨h6, h7⟩ := Bool.a2 h
      exact we_comp (own := own) (l := g.slots) (A := wTg g) (Bt := fun ρ' B => wQ q Nox ρ' B) (Ce := fun ρ' K => wE el Nox ρ' fun x _ => K x) ok.toGOk (blkB_ok ok.sv h1) (fun j hj => by simpa using (List.all_eq_true.mp h2 j hj))
        (fun sh Hb C cl fp d ρ P w => sG g (ok.blk h1 sh Hb C cl fp) h5 w) (fun sh Hb C cl fp ρ P w => sQ q (ok.blk h1 sh Hb C cl fp) ob.2.1 h6 w) (fun sh Hb C cl fp ρ P w => sE el (ok.blk h1 sh Hb C cl fp) ob.2.2 h7 w)
        (fold_no (Bool.nt h3)) (sI s ok ob.1 h4 w)
    · cases h
  | .mk c ts, G, sc, R, ρ, P, e, ok, ob, h, w => by
    rw [cE] at h
    rw [wE] at w
    rw [okE] at ob
    split at h
    · rename_i f es ex
      obtain ⟨p, p2, rfl⟩ := asCall_ok ex
      obtain ⟨h1, h⟩ := Bool.a2 h
      obtain ⟨h2, h⟩ := Bool.a2 h
      obtain ⟨h3, h⟩ := Bool.a2 h
      obtain ⟨h4, h⟩ := Bool.a2 h
      obtain ⟨h5, h6⟩ := Bool.a2 h
      obtain rfl := beq_str h1
      have st := cEs_star h6
      have wa := sEs ts ok ob.2 h6 w
      cases es with
      | nil => cases h5
      | cons e es =>
        rw [List.all_cons] at st
        obtain ⟨s1, s2⟩ := Bool.a2 st
        exact we_mk ok.toGOk (ob.1 G.X rfl) (of_decide_eq_true h4) (isG_ok h2) (okN_ok h3).1 (star_cons (Bool.nt s1)) (star_any s2) wa
    · cases h
theorem sT : ∀ (t : Tm) {G : Gm} {sc : Scope} {R : Exn → Prop} {ρ : Rho} {P : Bool → Prop} {e : Expr}, GK G sc R → okE (moOf G.X) t → cE G.X.N G.k t sc e = true → wT t R ρ P → WT G e ρ P
  | .cmp o a b, G, sc, R, ρ, P, e, ok, ob, h, w => by
    rw [cE] at h
    rw [wT] at w
    rw [okE] at ob
    split at h
    · rename_i x p y ex
      obtain ⟨ps, rfl⟩ := asCmp_ok ex
      obtain ⟨h1, h2⟩ := Bool.a2 h
      obtain ⟨h3, h4⟩ := Bool.a2 h2
      obtain ⟨h5, h6⟩ := Bool.a2 h4
      obtain rfl := of_decide_eq_true h1
      exact wt_cmp ok.toGOk (marks_no (Bool.nt h3)) ((sE a ok ob.1 h5 w).mono fun d1 _ w => sE b ok ob.2 h6 w)
    · cases h
  | .bop k ts, G, sc, R, ρ, P, e, ok, ob, h, w => by
    rw [cE] at h
    rw [wT] at w
    rw [okE] at ob
    split at h
    · rename_i p es ex
      obtain ⟨ps, rfl⟩ := asBop_ok ex
      obtain ⟨h1, h2⟩ := Bool.a2 h
      obtain rfl := of_decide_eq_true h1
      exact (sTb k ts ok ob h2 w).wt
    · cases h
  | .not a, G, sc, R, ρ, P, e, ok, ob, h, w => by
    rw [cE] at h
    rw [wT] at w
    rw [okE] at ob
    split at h
    · rename_i p x ex
      obtain ⟨ps, rfl⟩ := asUn_ok ex
      obtain ⟨h1, h2⟩ := Bool.a2 h
      obtain rfl := of_decide_eq_true h1
      exact wt_not (sT a ok ob h2 w)
    · cases h
  | .tru a, G, sc, R, ρ, P, e, ok, ob, h, w => by
    rw [cE] at h
    rw [wT] at w
    rw [okE] at ob
    obtain ⟨h1, h2⟩ := Bool.a2 h
    exact wt_truth (truth_at h1) (sE a ok ob h2 w)
  | .var _, _, _, _, _, _, _, _, _, _, w => by rw [wT] at w <;> first | exact w.elim | (intros; intro z; cases z)
  | .con _, _, _, _, _, _, _, _, _, _, w => by rw [wT] at w <;> first | exact w.elim | (intros; intro z; cases z)
  | .glo _ _, _, _, _, _, _, _, _, _, _, w => by rw [wT] at w <;> first | exact w.elim | (intros; intro z; cases z)
  | .bin _ _ _, _, _, _, _, _, _, _, _, _, w => by rw [wT] at w <;> first | exact w.elim | (intros; intro z; cases z)
  | .chn _ _ _ _ _, _, _, _, _, _, _, _, _, _, w => by rw [wT] at w <;> first | exact w.elim | (intros; intro z; cases z)
  | .ife _ _ _, _, _, _, _, _, _, _, _, _, w => by rw [wT] at w <;> first | exact w.elim | (intros; intro z; cases z)
  | .neg _, _, _, _, _, _, _, _, _, _, w => by rw [wT] at w <;> first | exact w.elim | (intros; intro z; cases z)
  | .tup _, _, _, _, _, _, _, _, _, _, w => by rw [wT] at w <;> first | exact w.elim | (intros; intro z; cases z)
  | .lst _, _, _, _, _, _, _, _, _, _, w => by rw [wT] at w <;> first | exact w.elim | (intros; intro z; cases z)
  | .ix _ _, _, _, _, _, _, _, _, _, _, w => by rw [wT] at w <;> first | exact w.elim | (intros; intro z; cases z)
  | .ixO _ _, _, _, _, _, _, _, _, _, _, w => by rw [wT] at w <;> first | exact w.elim | (intros; intro z; cases z)
  | .lenO _, _, _, _, _, _, _, _, _, _, w => by rw [wT] at w <;> first | exact w.elim | (intros; intro z; cases z)
  | .sl _ _ _, _, _, _, _, _, _, _, _, _, w => by rw [wT] at w <;> first | exact w.elim | (intros; intro z; cases z)
  | .rev _, _, _, _, _, _, _, _, _, _, w => by rw [wT] at w <;> first | exact w.elim | (intros; intro z; cases z)
  | .call _ _, _, _, _, _, _, _, _, _, _, w => by rw [wT] at w <;> first | exact w.elim | (intros; intro z; cases z)
  | .bi _ _, _, _, _, _, _, _, _, _, _, w => by rw [wT] at w <;> first | exact w.elim | (intros; intro z; cases z)
  | .isi _ _, _, _, _, _, _, _, _, _, _, w => by rw [wT] at w <;> first | exact w.elim | (intros; intro z; cases z)
  | .isi2 _ _ _, _, _, _, _, _, _, _, _, _, w => by rw [wT] at w <;> first | exact w.elim | (intros; intro z; cases z)
  | .fld _ _ _, _, _, _, _, _, _, _, _, _, w => by rw [wT] at w <;> first | exact w.elim | (intros; intro z; cases z)
  | .meth _ _ _ _, _, _, _, _, _, _, _, _, _, w => by rw [wT] at w <;> first | exact w.elim | (intros; intro z; cases z)
  | .lrg _, _, _, _, _, _, _, _, _, _, w => by rw [wT] at w <;> first | exact w.elim | (intros; intro z; cases z)
  | .comp _ _ _ _ _, _, _, _, _, _, _, _, _, _, w => by rw [wT] at w <;> first | exact w.elim | (intros; intro z; cases z)
  | .mk _ _, _, _, _, _, _, _, _, _, _, w => by rw [wT] at w <;> first | exact w.elim | (intros; intro z; cases z)
theorem sEs : ∀ (ts : Tms) {G : Gm} {sc : Scope} {R : Exn → Prop} {ρ : Rho} {P : List D → Prop} {es : List Expr}, GK G sc R → okEs (moOf G.X) ts → cEs G.X.N G.k ts sc es = true → wEs ts R ρ P → WA G es ρ P
  | .nil, G, sc, R, ρ, P, [], ok, ob, h, w => by
    rw [wEs] at w
    exact wa_nil w
  | .cons t ts, G, sc, R, ρ, P, e :: es, ok, ob, h, w => by
    rw [wEs] at w
    rw [cEs] at h
    rw [okEs] at ob
    obtain ⟨h1, h2⟩ := Bool.a2 h
    obtain ⟨h3, h4⟩ := Bool.a2 h2
    exact wa_cons (star_cons (Bool.nt h1)) ((sE t ok ob.1 h3 w).mono fun d _ w => sEs ts ok ob.2 h4 w)
  | .nil, _, _, _, _, _, _ :: _, _, _, h, _ => by cases h
  | .cons _ _, _, _, _, _, _, [], _, _, h, _ => by cases h
theorem sBp : ∀ (k : Bool) (ts : Tms) {G : Gm} {sc : Scope} {R : Exn → Prop} {ρ : Rho} {P : D → Bool → Prop} {es : List Expr} {pos : Pos}, GK G sc R → okEs (moOf G.X) ts → cEs G.X.N G.k ts sc es = true → wBp k ts R ρ P → WE G (.BoolOp (if k = true then BoolOp.And else BoolOp.Or) es pos) ρ P
  | k, .nil, _, _, _, _, _, _, _, _, _, _, w => by
    rw [wBp] at w
    exact w.elim
  | k, .cons t .nil, G, sc, R, ρ, P, e :: [], pos, ok, ob, h, w => by
    rw [wBp] at w
    rw [cEs] at h
    rw [okEs] at ob
    obtain ⟨h1, h2⟩ := Bool.a2 h
    obtain ⟨h3, h4⟩ := Bool.a2 h2
    cases k with
    | true => exact we_and1 (sE t ok ob.1 h3 w)
    | false => exact we_or1 (sE t ok ob.1 h3 w)
  | k, .cons t (.cons u us), G, sc, R, ρ, P, e :: f :: fs, pos, ok, ob, h, w => by
    rw [wBp] at w
    rw [cEs] at h
    rw [okEs] at ob
    obtain ⟨h1, h2⟩ := Bool.a2 h
    obtain ⟨h3, h4⟩ := Bool.a2 h2
    cases k with
    | true =>
      refine we_and ((sE t ok ob.1 h3 w).mono fun d _ w => ?_)
      obtain ⟨b, ed, w⟩ := asB_ok w
      refine ⟨b, ed, ?_⟩
      cases b with
      | true => rw [if_pos rfl] at w ⊢; exact sBp true (.cons u us) ok ob.2 h4 w
      | false => rw [if_neg Bool.false_ne_true] at w ⊢; exact w
    | false =>
      refine we_or ((sE t ok ob.1 h3 w).mono fun d _ w => ?_)
      obtain ⟨b, ed, w⟩ := asB_ok w
      refine ⟨b, ed, ?_⟩
      cases b with
      | true => rw [if_neg (by decide)] at w; rw [if_pos rfl]; exact w
      | false => rw [if_pos rfl] at w; rw [if_neg Bool.false_ne_true]; exact sBp false (.cons u us) ok ob.2 h4 w
  | _, .cons _ .nil, _, _, _, _, _, [], _, _, _, h, _ => by cases h
  | _, .cons _ (.cons _ _), _, _, _, _, _, [], _, _, _, h, _ => by cases h
  | _, .cons t .nil, G, sc, R, ρ, P, e :: f :: fs, pos, ok, ob, h, w => by
    rw [cEs] at h
    obtain ⟨h1, h2⟩ := Bool.a2 h
    obtain ⟨h3, h4⟩ := Bool.a2 h2
    cases h4
  | _, .cons t (.cons u us), G, sc, R, ρ, P, e :: [], pos, ok, ob, h, w => by
    rw [cEs] at h
    obtain ⟨h1, h2⟩ := Bool.a2 h
    obtain ⟨h3, h4⟩ := Bool.a2 h2
    cases h4
theorem sTb : ∀ (k : Bool) (ts : Tms) {G : Gm} {sc : Scope} {R : Exn → Prop} {ρ : Rho} {P : Bool → Prop} {es : List Expr} {pos : Pos}, GK G sc R → okEs (moOf G.X) ts → cEs G.X.N G.k ts sc es = true → wTb k ts R ρ P → WW G (.BoolOp (if k = true then BoolOp.And else BoolOp.Or) es pos) ρ P
  | k, .nil, _, _, _, _, _, _, _, _, _, _, w => by
    rw [wTb] at w
    exact w.elim
  | k, .cons t .nil, G, sc, R, ρ, P, e :: [], pos, ok, ob, h, w => by
    rw [wTb] at w
    rw [cEs] at h
    rw [okEs] at ob
    obtain ⟨h1, h2⟩ := Bool.a2 h
    obtain ⟨h3, h4⟩ := Bool.a2 h2
    cases k with
    | true => exact ww_and1 (sT t ok ob.1 h3 w)
    | false => exact ww_or1 (sT t ok ob.1 h3 w)
  | k, .cons t (.cons u us), G, sc, R, ρ, P, e :: f :: fs, pos, ok, ob, h, w => by
    rw [wTb] at w
    rw [cEs] at h
    rw [okEs] at ob
    obtain ⟨h1, h2⟩ := Bool.a2 h
    obtain ⟨h3, h4⟩ := Bool.a2 h2
    cases k with
    | true =>
      refine ww_and ((sT t ok ob.1 h3 w).mono fun b w => ?_)
      cases b with
      | true => rw [if_pos rfl] at w ⊢; exact sTb true (.cons u us) ok ob.2 h4 w
      | false => rw [if_neg Bool.false_ne_true] at w ⊢; exact w
    | false =>
      refine ww_or ((sT t ok ob.1 h3 w).mono fun b w => ?_)
      cases b with
      | true => rw [if_neg (by decide)] at w; rw [if_pos rfl]; exact w
      | false => rw [if_pos rfl] at w; rw [if_neg Bool.false_ne_true]; exact sTb false (.cons u us) ok ob.2 h4 w
  | _, .cons _ .nil, _, _, _, _, _, [], _, _, _, h, _ => by cases h
  | _, .cons _ (.cons _ _), _, _, _, _, _, [], _, _, _, h, _ => by cases h
  | _, .cons t .nil, G, sc, R, ρ, P, e :: f :: fs, pos, ok, ob, h, w => by
    rw [cEs] at h
    obtain ⟨h1, h2⟩ := Bool.a2 h
    obtain ⟨h3, h4⟩ := Bool.a2 h2
    cases h4
  | _, .cons t (.cons u us), G, sc, R, ρ, P, e :: [], pos, ok, ob, h, w => by
    rw [cEs] at h
    obtain ⟨h1, h2⟩ := Bool.a2 h
    obtain ⟨h3, h4⟩ := Bool.a2 h2
    cases h4
theorem sQ : ∀ (ts : Tms) {G : Gm} {sc : Scope} {R : Exn → Prop} {ρ : Rho} {P : Bool → Prop} {es : List Expr}, GK G sc R → okEs (moOf G.X) ts → cEs G.X.N G.k ts sc es = true → wQ ts R ρ P → WTs G es ρ P
  | .nil, G, sc, R, ρ, P, [], ok, ob, h, w => by
    rw [wQ] at w
    exact w
  | .cons t .nil, G, sc, R, ρ, P, e :: [], ok, ob, h, w => by
    rw [wQ] at w
    rw [cEs] at h
    rw [okEs] at ob
    obtain ⟨h1, h2⟩ := Bool.a2 h
    obtain ⟨h3, h4⟩ := Bool.a2 h2
    exact sT t ok ob.1 h3 w
  | .cons _ (.cons _ _), _, _, _, _, _, _, _, _, _, w => by
    rw [wQ] at w
    exact w.elim
  | .nil, _, _, _, _, _, _ :: _, _, _, h, _ => by cases h
  | .cons _ .nil, _, _, _, _, _, [], _, _, h, _ => by cases h
  | .cons t .nil, G, sc, R, ρ, P, e :: f :: fs, ok, ob, h, w => by
    rw [cEs] at h
    obtain ⟨h1, h2⟩ := Bool.a2 h
    obtain ⟨h3, h4⟩ := Bool.a2 h2
    cases h4
theorem sO : ∀ (o : Ot) {G : Gm} {sc : Scope} {R : Exn → Prop} {ρ : Rho} {P : Option Int → Prop} {e : Option Expr}, GK G sc R → okO (moOf G.X) o → cO G.X.N G.k o sc e = true → wO o R ρ P → WO G e ρ P
  | .no, G, sc, R, ρ, P, none, ok, ob, h, w => by
    rw [wO] at w
    exact w
  | .yes t, G, sc, R, ρ, P, some e, ok, ob, h, w => by
    rw [wO] at w
    rw [cO] at h
    rw [okO] at ob
    exact (sE t ok ob h w).mono fun d _ w => asI_ok w
  | .no, _, _, _, _, _, some _, _, _, h, _ => by cases h
  | .yes _, _, _, _, _, _, none, _, _, h, _ => by cases h
theorem sI : ∀ (s : Src) {G : Gm} {sc : Scope} {R : Exn → Prop} {ρ : Rho} {P : List D → Prop} {tg e : Expr}, GK G sc R → okI (moOf G.X) s → cI G.X.N G.k s sc tg e = true → wI s R ρ P → WI G tg e ρ P
  | .seq a, G, sc, R, ρ, P, tg, e, ok, ob, h, w => by
    rw [cI] at h
    rw [wI] at w
    rw [okI] at ob
    exact wi_seq ((sE a ok ob h w).mono fun d _ w => asQ_ok w)
  | .r1 a, G, sc, R, ρ, P, tg, e, ok, ob, h, w => by
    rw [cI] at h
    rw [wI] at w
    rw [okI] at ob
    split at h
    · rename_i f x ex
      obtain ⟨p, p2, rfl⟩ := asCall_ok ex
      obtain ⟨h1, h⟩ := Bool.a2 h
      obtain ⟨h2, h⟩ := Bool.a2 h
      obtain ⟨h3, h4⟩ := Bool.a2 h
      obtain rfl := beq_str h1
      refine wi_rng1 ok.toGOk (isG_ok h2) (star_cons (Bool.nt h3)) ((sE a ok ob h4 w).mono fun d _ w => ?_)
      obtain ⟨n, ed, ⟨z1, z2⟩, w⟩ := asI_ok w
      exact ⟨n, ed, z1, z2, w⟩
    · cases h
  | .r2 a b, G, sc, R, ρ, P, tg, e, ok, ob, h, w => by
    rw [cI] at h
    rw [wI] at w
    rw [okI] at ob
    split at h
    · rename_i f x y ex
      obtain ⟨p, p2, rfl⟩ := asCall_ok ex
      obtain ⟨h1, h⟩ := Bool.a2 h
      obtain ⟨h2, h⟩ := Bool.a2 h
      obtain ⟨h3, h⟩ := Bool.a2 h
      obtain ⟨h4, h⟩ := Bool.a2 h
      obtain ⟨h5, h6⟩ := Bool.a2 h
      obtain rfl := beq_str h1
      refine wi_rng2 ok.toGOk (isG_ok h2) (by rw [star_cons (Bool.nt h3), star_cons (Bool.nt h4)] <;> rfl) (star_cons (Bool.nt h4)) ((sE a ok ob.1 h5 w).mono fun d _ w => (sE b ok ob.2 h6 w).mono fun d2 _ w => ?_)
      obtain ⟨m, ed, w⟩ := asI_ok w
      obtain ⟨n, ed2, ⟨z1, z2, z3, z4, z5⟩, w⟩ := asI_ok w
      exact ⟨m, n, ed, ed2, z1, z2, z3, z4, z5, w⟩
    · cases h
  | .zip a b, G, sc, R, ρ, P, tg, e, ok, ob, h, w => by
    rw [cI] at h
    rw [wI] at w
    rw [okI] at ob
    split at h
    · rename_i es et
      obtain ⟨kk, pt, rfl⟩ := asTup_ok et
      split at h
      · rename_i f x y ex
        obtain ⟨p, p2, rfl⟩ := asCall_ok ex
        obtain ⟨h1, h⟩ := Bool.a2 h
        obtain ⟨h2, h⟩ := Bool.a2 h
        obtain ⟨h3, h⟩ := Bool.a2 h
        obtain ⟨h4, h⟩ := Bool.a2 h
        obtain ⟨h5, h6⟩ := Bool.a2 h
        obtain rfl := beq_str h1
        have s2 : [y].all (fun e => !star e) = true := by rw [List.all_cons, h4]; rfl
        refine wi_zip ok.toGOk (isG_ok h2) (star_cons (Bool.nt h3)) (star_any s2) (star_cons (Bool.nt h4)) ((sE a ok ob.1 h5 w).mono fun d _ w => (sE b ok ob.2 h6 w).mono fun d2 _ w => ?_)
        obtain ⟨l, ed, w⟩ := asQ_ok w
        obtain ⟨m, ed2, w⟩ := asQ_ok w
        exact ⟨l, m, ed, ed2, w⟩
      · cases h
    · cases h
end
end Pd
end
section
set_option Elab.async false
set_option linter.all false
set_option maxRecDepth 100000
set_option maxHeartbeats 4000000
/-! ## statements as terms -/
namespace Pd
open PySem PySem.Spec PyProof.Rows L2
mutual
inductive Sm where
  | exp (t : Tm)
  | ret (t : Tm)
  | retN
  | retL (i : Nat)
  | iff (c : Tm) (a b : Sms)
  | pass
  | brk
  | cont
  | set (own : Bool) (i : Nat) (t : Tm)
  | setC (own : Bool) (i : Nat) (g : Tg) (ow : List (Str × Nat)) (s : Src) (q : Tms) (e : Tm)
  | tgt (g : Tg) (t : Tm)
  | par (i j : Nat) (a b : Tm)
  | app (i : Nat) (t : Tm)
  | appPop (i j : Nat) (t : Tm)
  | setix (i : Nat) (b t : Tm)
  | augix (i : Nat) (b t : Tm)
  | loop (g : Tg) (s : Src) (b : Sms)
  | whl (c : Tm) (b : Sms)
  | raise0 (cn : Str)
  | raiseT (cn : Str)
  | raiseI (c : Exi) (ts : Tms)
  | stf (i : Nat) (C f : Str) (t : Tm)
inductive Sms where
  | nil
  | cons (s : Sm) (ss : Sms)
  | frz (i : Nat) (ss : Sms)
end
def getIns (ρ : Rho) (i : Nat) (C : Str) (P : Addr → List Str → List D → Prop) : Prop := match ρ[i]? with | some (.ins a C' ks ws) => C' = C ∧ P a ks ws | _ => False
theorem getIns_ok {ρ : Rho} {i : Nat} {C : Str} {P : Addr → List Str → List D → Prop} (h : getIns ρ i C P) : ∃ a ks ws, ρ[i]? = some (.ins a C ks ws) ∧ P a ks ws := by
  unfold getIns at h
  split at h
  · obtain ⟨e, h⟩ := h
    subst e
    exact ⟨_, _, _, by assumption, h⟩
  · exact h.elim
mutual
def wS : Sm → (Exn → Prop) → Rho → DE → Prop
  | .exp t, R, ρ, E => wE t R ρ fun _ _ => E.nx ρ
  | .ret t, R, ρ, E => wE t R ρ E.rt
  | .retN, _, _, E => E.rt .non false
  | .retL i, _, ρ, E => getL ρ i fun ds => E.rt (.lst ds) true
  | .iff c a b, R, ρ, E => wT c R ρ fun k => if k = true then wSs a R ρ E else wSs b R ρ E
  | .pass, _, ρ, E => E.nx ρ
  | .brk, _, ρ, E => E.bk ρ
  | .cont, _, ρ, E => E.ct ρ
  | .set own i t, R, ρ, E => wE t R ρ (setQ own i ρ E.nx)
  | .setC own i g ow s q e, R, ρ, E => wI s R ρ fun items => wLoop (fun d k => wTg g d (wipeR ρ (ow.map (·.2))) fun ρ' => wQ q Nox ρ' fun b => if b = true then wE e Nox ρ' fun x _ => k (some x) else k none) items [] fun acc => setQ own i ρ E.nx (.lst acc) true
  | .tgt g t, R, ρ, E => wE t R ρ fun d _ => wTg g d ρ E.nx
  | .par i j a b, R, ρ, E => wE a R ρ fun d1 _ => wE b R ρ fun d2 _ => E.nx ((ρ.set i (.val d1)).set j (.val d2))
  | .app i t, R, ρ, E => getL ρ i fun ds => ds.length < sizeLine ∧ wE t R ρ fun d _ => E.nx (ρ.set i (.ml (ds ++ [d])))
  | .appPop i j t, R, ρ, E => getL ρ i fun ds => getL ρ j fun ms => ds.length < sizeLine ∧ wE t R ρ fun d _ => asI d fun k => ∃ n z, (-(2 ^ 63) ≤ k ∧ k < 2 ^ 63 ∧ seqIndex? k ms.length = some n ∧ ms[n]? = some z) ∧ E.nx ((ρ.set j (.ml (ms.eraseIdx n))).set i (.ml (ds ++ [z])))
  | .setix i b t, R, ρ, E => getL ρ i fun ds => wE t R ρ fun d _ => wE b R ρ fun d2 _ => asI d2 fun k => ∃ n, ixN ds.length k = some n ∧ E.nx (ρ.set i (.ml (ds.set n d)))
  | .augix i b t, R, ρ, E => getL ρ i fun ds => wE b R ρ fun d2 _ => asI d2 fun k => ∃ n m, (atI ds k = some (.int m) ∧ ixN ds.length k = some n) ∧ wE t R ρ fun d _ => asI d fun z => E.nx (ρ.set i (.ml (ds.set n (.int (m + z)))))
  | .loop g s b, R, ρ, E => wI s R ρ fun items => wFor (fun d ρ k => wTg g d ρ fun ρ' => wSs b R ρ' { E with nx := k, ct := k, bk := E.nx }) items ρ E.nx
  | .whl c b, R, ρ, E => ∃ W : Nat → Rho → Prop, (∃ m, W m ρ) ∧ ∀ m ρ, W m ρ → wT c R ρ fun k => if k = true then wSs b R ρ { E with nx := fun ρ' => ∃ m', m' < m ∧ W m' ρ', ct := fun ρ' => ∃ m', m' < m ∧ W m' ρ', bk := E.nx } else E.nx ρ
  | .raise0 cn, R, _, _ => R ⟨cn, []⟩
  | .raiseT cn, R, _, _ => R ⟨cn, []⟩
  | .raiseI c ts, R, ρ, _ => wEs ts R ρ fun ds => ∃ ns, intsD ds = some ns ∧ ns.length = c.fs.length ∧ ns.length ≤ 1000 ∧ R ⟨c.cn, c.fs.zip ns⟩
  | .stf i C f t, R, ρ, E => getIns ρ i C fun a ks ws => ks.length < 1000 ∧ wE t R ρ fun d _ => E.nx (ρ.set i (.ins a C (putD f d ks ws).1 (putD f d ks ws).2))
def wSs : Sms → (Exn → Prop) → Rho → DE → Prop
  | .nil, _, ρ, E => E.nx ρ
  | .cons s ss, R, ρ, E => wS s R ρ { E with nx := fun ρ' => wSs ss R ρ' E }
  | .frz i ss, R, ρ, E => getL ρ i fun ds => wSs ss R (ρ.set i (.val (.lst ds))) E
end
mutual
def okS (m : Mo) : Sm → Prop
  | .exp t => okE m t
  | .ret t => okE m t
  | .iff c a b => okE m c ∧ okSs m a ∧ okSs m b
  | .set _ _ t => okE m t
  | .setC _ _ _ _ s q e => okI m s ∧ okEs m q ∧ okE m e
  | .tgt _ t => okE m t
  | .par _ _ a b => okE m a ∧ okE m b
  | .app _ t => okE m t
  | .appPop _ _ t => okE m t
  | .setix _ b t => okE m b ∧ okE m t
  | .augix _ b t => okE m b ∧ okE m t
  | .loop _ s b => okI m s ∧ okSs m b
  | .whl c b => okE m c ∧ okSs m b
  | .raise0 cn => m.exc cn
  | .raiseT cn => m.exc cn
  | .raiseI c ts => m.exi c ∧ okEs m ts
  | .stf _ C f t => FldOk m.K C f ∧ okE m t
  | _ => True
def okSs (m : Mo) : Sms → Prop
  | .nil => True
  | .cons s ss => okS m s ∧ okSs m ss
  | .frz _ ss => okSs m ss
end
/-! what is written -/
def asExp : Stmt → Option Expr | .Expr e _ => some e | _ => none
theorem asExp_ok {s : Stmt} {e : Expr} (h : asExp s = some e) : ∃ p, s = .Expr e p := by cases s <;> first | (cases h; exact ⟨_, rfl⟩) | cases h
def asRet : Stmt → Option (Option Expr) | .Return e _ => some e | _ => none
theorem asRet_ok {s : Stmt} {e : Option Expr} (h : asRet s = some e) : ∃ p, s = .Return e p := by cases s <;> first | (cases h; exact ⟨_, rfl⟩) | cases h
def asIff : Stmt → Option (Expr × List Stmt × List Stmt) | .If c a b _ => some (c, a, b) | _ => none
theorem asIff_ok {s : Stmt} {c : Expr} {a b : List Stmt} (h : asIff s = some (c, a, b)) : ∃ p, s = .If c a b p := by cases s <;> first | (cases h; exact ⟨_, rfl⟩) | cases h
def isPass : Stmt → Bool | .Pass _ => true | _ => false
theorem isPass_ok {s : Stmt} (h : isPass s = true) : ∃ p, s = .Pass p := by cases s <;> first | exact ⟨_, rfl⟩ | cases h
def isBrk : Stmt → Bool | .Break _ => true | _ => false
theorem isBrk_ok {s : Stmt} (h : isBrk s = true) : ∃ p, s = .Break p := by cases s <;> first | exact ⟨_, rfl⟩ | cases h
def isCont : Stmt → Bool | .Continue _ => true | _ => false
theorem isCont_ok {s : Stmt} (h : isCont s = true) : ∃ p, s = .Continue p := by cases s <;> first | exact ⟨_, rfl⟩ | cases h
def asSet : Stmt → Option (Str × Pos × Expr × Pos) | .Assign [.Name x p] e ps => some (x, p, e, ps) | _ => none
theorem asSet_ok {s : Stmt} {x : Str} {p ps : Pos} {e : Expr} (h : asSet s = some (x, p, e, ps)) : s = .Assign [.Name x p] e ps := by
  unfold asSet at h
  split at h <;> cases h
  rfl
def asAsg : Stmt → Option (Expr × Expr) | .Assign [t] e _ => some (t, e) | _ => none
theorem asAsg_ok {s : Stmt} {t e : Expr} (h : asAsg s = some (t, e)) : ∃ p, s = .Assign [t] e p := by
  unfold asAsg at h
  split at h <;> cases h
  exact ⟨_, rfl⟩
structure ParP where
  x : Str
  px : Pos
  y : Str
  py : Pos
  kt : Nat
  pt : Pos
  a : Expr
  b : Expr
  k2 : Nat
  pt2 : Pos
  pos : Pos
def asPar : Stmt → Option ParP | .Assign [.Tuple [.Name x px, .Name y py] kt pt] (.Tuple [a, b] k2 pt2) pos => some ⟨x, px, y, py, kt, pt, a, b, k2, pt2, pos⟩ | _ => none
theorem asPar_ok {s : Stmt} {c : ParP} (h : asPar s = some c) : s = .Assign [.Tuple [.Name c.x c.px, .Name c.y c.py] c.kt c.pt] (.Tuple [c.a, c.b] c.k2 c.pt2) c.pos := by
  unfold asPar at h
  split at h <;> cases h
  rfl
def asApp : Stmt → Option (Str × Expr) | .Expr (.Call (.Attribute (.Name x _) m ap) [e] [] pos) _ => if m == ("append" : Str) && (ap.endLine == pos.line) then some (x, e) else none | _ => none
theorem asApp_ok {s : Stmt} {x : Str} {e : Expr} (h : asApp s = some (x, e)) : ∃ p ap pos p2, s = .Expr (.Call (.Attribute (.Name x p) "append" ap) [e] [] pos) p2 ∧ (ap.endLine == pos.line) = true := by
  unfold asApp at h
  split at h
  · split at h
    · rename_i c
      cases h
      rw [Bool.and_eq_true] at c
      rw [eq_of_beq c.1]
      exact ⟨_, _, _, _, rfl, c.2⟩
    · cases h
  · cases h
def asPop : Expr → Option (Str × Expr) | .Call (.Attribute (.Name x _) m ap) [e] [] pos => if m == ("pop" : Str) && (ap.endLine == pos.line) then some (x, e) else none | _ => none
theorem asPop_ok {s : Expr} {x : Str} {e : Expr} (h : asPop s = some (x, e)) : ∃ p ap pos, s = .Call (.Attribute (.Name x p) "pop" ap) [e] [] pos ∧ (ap.endLine == pos.line) = true := by
  unfold asPop at h
  split at h
  · split at h
    · rename_i c
      cases h
      rw [Bool.and_eq_true] at c
      rw [eq_of_beq c.1]
      exact ⟨_, _, _, rfl, c.2⟩
    · cases h
  · cases h
def asStIx : Stmt → Option (Str × Expr × Expr) | .Assign [.Subscript (.Name x _) b _] e _ => some (x, b, e) | _ => none
theorem asStIx_ok {s : Stmt} {x : Str} {b e : Expr} (h : asStIx s = some (x, b, e)) : ∃ p p2 p3, s = .Assign [.Subscript (.Name x p) b p2] e p3 := by
  unfold asStIx at h
  split at h <;> cases h
  exact ⟨_, _, _, rfl⟩
def asAuIx : Stmt → Option (Str × Expr × Expr) | .AugAssign (.Subscript (.Name x _) b _) .Add e _ => some (x, b, e) | _ => none
theorem asAuIx_ok {s : Stmt} {x : Str} {b e : Expr} (h : asAuIx s = some (x, b, e)) : ∃ p p2 p3, s = .AugAssign (.Subscript (.Name x p) b p2) .Add e p3 := by
  unfold asAuIx at h
  split at h <;> cases h
  exact ⟨_, _, _, rfl⟩
def asStF : Stmt → Option (Str × Str × Expr) | .Assign [.Attribute (.Name x _) f _] e _ => some (x, f, e) | _ => none
theorem asStF_ok {s : Stmt} {x f : Str} {e : Expr} (h : asStF s = some (x, f, e)) : ∃ p p2 p3, s = .Assign [.Attribute (.Name x p) f p2] e p3 := by
  unfold asStF at h
  split at h <;> cases h
  exact ⟨_, _, _, rfl⟩
def asFor : Stmt → Option (Expr × Expr × List Stmt) | .For t i b [] _ => some (t, i, b) | _ => none
theorem asFor_ok {s : Stmt} {t i : Expr} {b : List Stmt} (h : asFor s = some (t, i, b)) : ∃ p, s = .For t i b [] p := by
  unfold asFor at h
  split at h <;> cases h
  exact ⟨_, rfl⟩
def asWhl : Stmt → Option (Expr × List Stmt) | .While c b [] _ => some (c, b) | _ => none
theorem asWhl_ok {s : Stmt} {c : Expr} {b : List Stmt} (h : asWhl s = some (c, b)) : ∃ p, s = .While c b [] p := by
  unfold asWhl at h
  split at h <;> cases h
  exact ⟨_, rfl⟩
def asRse : Stmt → Option (Str × List Expr) | .Raise (some (.Call (.Name c _) es [] _)) none _ => some (c, es) | _ => none
theorem asRse_ok {s : Stmt} {c : Str} {es : List Expr} (h : asRse s = some (c, es)) : ∃ p pos p2, s = .Raise (some (.Call (.Name c p) es [] pos)) none p2 := by
  unfold asRse at h
  split at h <;> cases h
  exact ⟨_, _, _, rfl⟩
/-! swaps -/
section
variable {env : Env}
theorem blockKind_fn (h : env.scope.kind = .function) : env.blockKind = .function := by
  unfold Env.blockKind
  rw [h]; rfl
theorem swaps_yes {elt : Expr} {gs : List Comprehension} {s : Scope} {p py : Pos} {y : Str} {l : Nat} (hk : env.scope.kind = .function) (hy : env.scope.names.lookup y = some .local) (hl : (py.line == p.line) = true)
    (hn : (s.names.any fun (n, k) => n == y && (k == .local || k == .cell)) = false) : swapsWith (.ListComp elt gs s p) (some (.Name y py)) l env = pure true := by
  show (pure (env.blockKind == .function && env.kindOf y == some .local && py.line == (Expr.ListComp elt gs s p).pos.line && !(s.names.any fun (n, k) => n == y && (k == .local || k == .cell))) : Sem Bool) = pure true
  rw [blockKind_fn hk, show env.kindOf y = some .local from hy, hn]
  rw [show (py.line == (Expr.ListComp elt gs s p).pos.line) = true from hl]
  rfl
theorem swaps_not {e : Expr} {py : Pos} {y : Str} {l : Nat} (h : compE e = false ∨ ((∃ g, asComp e = some g) ∧ ((py.line == e.pos.line) = false ∨ env.scope.names.lookup y = some .cell))) : swapsWith e (some (.Name y py)) l env = pure false := by
  rcases h with h | ⟨⟨g, hg⟩, h⟩
  · exact swaps_no h
  · rw [asComp_ok hg] at h ⊢
    show (pure (env.blockKind == .function && env.kindOf y == some .local && py.line == (Expr.ListComp g.elt _ g.sc g.pos).pos.line && !(g.sc.names.any fun (n, k) => n == y && (k == .local || k == .cell))) : Sem Bool) = pure false
    rcases h with h | h
    · rw [h]; simp
    · rw [show env.kindOf y = some .cell from h, show (some NameKind.cell == some NameKind.local) = false from rfl]
      simp
theorem stores_par {x y : Str} {px py pt pt2 : Pos} {a b : Expr} {kt k2 : Nat} (hk : env.scope.kind = .function) (hx : env.scope.names.lookup x = some .local) (hy : env.scope.names.lookup y = some .local) (hl : (py.line == px.line) = true) (hxy : (x == y) = false)
    (ha : star a = false) (hb : star b = false) (hf : [a, b].all (foldedForSure 8) = false) (hc : [a, b].all (constantsAlone 8) = false) : swappedStores [.Tuple [.Name x px, .Name y py] kt pt] (.Tuple [a, b] k2 pt2) env = pure (some [x, y]) := by
  have hne : [a, b].any star = false := by
    rw [List.any_cons, List.any_cons, ha, hb]; rfl
  have hyx : (y == x) = false := by
    have : x ≠ y := by simpa using hxy
    simpa using this.symm
  have he : (List.eraseDups [x, y]).length = 2 := by
    simp [List.eraseDups_cons, hyx]
  have hne2 : ([a, b].any fun | .Starred .. => true | _ => false) = false := hne
  unfold swappedStores
  have hl' : py.line = px.line := eq_of_beq hl
  have hf' : ¬ (foldedForSure 8 a = true ∧ foldedForSure 8 b = true) := fun ⟨z1, z2⟩ => by simp [z1, z2] at hf
  have hc' : ¬ (constantsAlone 8 a = true ∧ constantsAlone 8 b = true) := fun ⟨z1, z2⟩ => by simp [z1, z2] at hc
  simp [blockKind_fn hk, Env.kindOf, Expr.pos, hx, hy, hl', he, List.filterMap_cons]
  refine (if_neg (fun z => ?_)).trans ?_
  · have z : star a = true ∨ star b = true := z
    rw [ha, hb] at z
    rcases z with z | z <;> cases z
  rw [if_neg hf', if_neg hc']
end
/-! the check -/
mutual
def cS (N : List Str) (lv : Nat) : Sm → Scope → Stmt → Bool
  | .exp t, sc, s => match asExp s with | some e => !compE e && cE N lv t sc e | none => false
  | .ret t, sc, s => match asRet s with | some (some e) => cE N lv t sc e | _ => false
  | .retN, _, s => match asRet s with | some none => true | _ => false
  | .retL i, sc, s => match asRet s with | some (some e) => (match asName e with | some n => atN N i n && (isV sc n && okN n) | none => false) | _ => false
  | .iff c a b, sc, s => match asIff s with | some (e, x, y) => cE N lv c sc e && (cSs N lv a sc x && cSs N lv b sc y) | none => false
  | .pass, _, s => isPass s
  | .brk, _, s => isBrk s
  | .cont, _, s => isCont s
  | .set _ i t, sc, s => match asSet s with
    | some (x, p, e, _) => atN N i x && (isS sc x && ((!compE e || ((asComp e).isSome && (!(p.line == e.pos.line) || sc.names.lookup x == some .cell))) && cE N lv t sc e))
    | none => false
  | .setC _ i g ow s q el, sc, st => match asSet st with
    | some (x, p, e, _) => (match asComp e with
      | some c => atN N i x && (decide (sc.names.lookup x = some .local) && ((p.line == c.pos.line) && (!(c.sc.names.any fun (n, k) => n == x && (k == .local || k == .cell)) &&
        (blkB N sc c.sc ow && (g.slots.all (fun j => (ow.map (·.2)).contains j) && (!setE c.iter && (cI N lv s sc c.tg c.iter && (cG N g c.sc c.tg && (cEs N lv q c.sc c.ifs && cE N lv el c.sc c.elt)))))))))
      | none => false)
    | none => false
  | .tgt g t, sc, s => match asAsg s with | some (tg, e) => !compE e && (!tupE e && (!star tg && (cG N g sc tg && cE N lv t sc e))) | none => false
  | .par i j a b, sc, s => match asPar s with
    | some c => atN N i c.x && (atN N j c.y && (decide (i ≠ j) && (decide (sc.names.lookup c.x = some .local) && (decide (sc.names.lookup c.y = some .local) && ((c.py.line == c.px.line) && (!(c.x == c.y) &&
        (!star c.a && (!star c.b && (!([c.a, c.b].all (foldedForSure 8)) && (!([c.a, c.b].all (constantsAlone 8)) && (cE N lv a sc c.a && cE N lv b sc c.b)))))))))))
    | none => false
  | .app i t, sc, s => match asApp s with | some (x, e) => (atN N i x && (isV sc x && okN x)) && (!star e && cE N lv t sc e) | none => false
  | .appPop i j t, sc, s => match asApp s with
    | some (x, e) => (match asPop e with | some (y, f) => (atN N i x && (isV sc x && okN x)) && ((atN N j y && (isV sc y && okN y)) && (decide (i ≠ j) && (!star f && cE N lv t sc f))) | none => false)
    | none => false
  | .setix i b t, sc, s => match asStIx s with | some (x, y, e) => (atN N i x && (isV sc x && okN x)) && (!compE e && (!sliE y && (cE N lv b sc y && cE N lv t sc e))) | none => false
  | .augix i b t, sc, s => match asAuIx s with | some (x, y, e) => (atN N i x && (isV sc x && okN x)) && (!sliE y && (cE N lv b sc y && cE N lv t sc e)) | none => false
  | .loop g s b, sc, st => match asFor st with | some (tg, it, bd) => !setE it && (cG N g sc tg && (cI N lv s sc tg it && cSs N lv b sc bd)) | none => false
  | .whl c b, sc, s => match asWhl s with | some (e, bd) => cE N lv c sc e && cSs N lv b sc bd | none => false
  | .raise0 cn, sc, s => match asRse s with | some (c, []) => c == cn && (isG sc cn && okN cn) | _ => false
  | .raiseT cn, sc, s => match asRse s with | some (c, [e]) => c == cn && (isG sc cn && (okN cn && (match asCon e with | some (.str _) => true | _ => false))) | _ => false
  | .raiseI c ts, sc, s => match asRse s with | some (x, es) => x == c.cn && (isG sc c.cn && (okN c.cn && (decide (c.lev + 1 ≤ lv) && (!es.isEmpty && cEs N lv ts sc es)))) | none => false
  | .stf i _ f t, sc, s => match asStF s with | some (x, g, e) => g == f && ((atN N i x && (isV sc x && okN x)) && (!compE e && cE N lv t sc e)) | none => false
def cSs (N : List Str) (lv : Nat) : Sms → Scope → List Stmt → Bool
  | .nil, _, [] => true
  | .cons s ss, sc, t :: ts => cS N lv s sc t && cSs N lv ss sc ts
  | .frz _ ss, sc, ts => cSs N lv ss sc ts
  | _, _, _ => false
end
end Pd
end
section
set_option Elab.async false
set_option linter.all false
set_option maxRecDepth 100000
set_option maxHeartbeats 4000000
/-! ## the check is sound: statements -/
namespace Pd
open PySem PySem.Spec PyProof.Rows L2
structure GS (G : Gm) (sc : Scope) (R : Exn → Prop) : Prop extends GK G sc R where
  po : PassesOwn (model G.X.prog G.X.w) G.X.A G.X.env G.X.xe
section
variable {G : Gm} {sc : Scope} {R : Exn → Prop} {ρ : Rho} {E E' : DE} {e : Expr} {st : Stmt} {sts : List Stmt}
theorem wss_frz {i : Nat} {ds : List D} (e : ρ[i]? = some (.ml ds)) (w : WSs G sts (ρ.set i (.val (.lst ds))) E) : WSs G sts ρ E := fun h σ H S => by
  obtain ⟨h', s, S'⟩ := S.frz e
  have p : Pers h H h' H := fun a o e n => ⟨e, fun z => n (s a z)⟩
  exact (w h' σ H S').mono (fun _ _ n => NX.after p n) (fun _ _ n => n) (fun _ _ n => NX.after p n) fun _ _ n => NX.after p n
theorem NX.mono {h : Addr → Prop} {H : Hp} {P P' : Rho → Prop} {σ' : L2.St} {H' : Hp} (n : NX G h H P σ' H') (f : ∀ ρ, P ρ → P' ρ) : NX G h H P' σ' H' := by
  obtain ⟨h', ρ', p, S, q⟩ := n
  exact ⟨h', ρ', p, S, f _ q⟩
theorem WS.mono_nx {P : Rho → Prop} (w : WS G st ρ { E with nx := P }) (f : ∀ ρ, P ρ → E.nx ρ) : WS G st ρ E := fun h σ H S =>
  (w h σ H S).mono (fun _ _ n => NX.mono n f) (fun _ _ z => z) (fun _ _ z => z) fun _ _ z => z
theorem asg_sub {x b : Expr} {p : Pos} (hs : sliE b = false) (v : Value) : assign (.Subscript x b p) G.X.env v = (do
      let ov ← holding [v] (eval x G.X.env)
      let iv ← holding [v, ov] (eval b G.X.env)
      standAt p
      holding [v, ov, iv] (setItem ov iv v)
      release [v, ov, iv] []) := by
  cases b <;> first | rfl | cases hs
theorem aug_sub {b : Expr} (hs : sliE b = false) : ∀ ov iv new, augStore b ov iv new = (do holding [new, ov, iv] (setItem ov iv new); release [new, ov, iv] []; pure .next) := fun ov iv new => by
  cases b <;> first | rfl | cases hs
theorem WG.mono {tg : Expr} {l : List Nat} {d : D} {P P' : Rho → Prop} (w : WG G tg l d ρ P) (f : ∀ ρ, P ρ → P' ρ) : WG G tg l d ρ P' := fun h σ H v S r => (w h σ H v S r).mono fun σ' H' ⟨a, b, ρ', S', q⟩ => ⟨a, b, ρ', S', f _ q⟩
theorem few1 {e : Expr} {pos : Pos} {env : Env} (h : star e = false) : ((backTo pos (starEach [e] env)).all (fun x => !x.1) && (backToKw pos (keywordEach [] env)).all (fun x => x.1.isSome)
      && decide ([e].length + ([] : List Keyword).length + (if ([] : List Keyword).isEmpty then 0 else 1) < 30)) = true := by
  rw [star_all (es := [e]) (by rw [List.all_cons, h]; rfl)]
  rfl
end
mutual
theorem sS : ∀ (s : Sm) {G : Gm} {sc : Scope} {R : Exn → Prop} {ρ : Rho} {E : DE} {st : Stmt}, GS G sc R → okS (moOf G.X) s → cS G.X.N G.k s sc st = true → wS s R ρ E → WS G st ρ E
  | .exp t, G, sc, R, ρ, E, st, ok, ob, h, w => by
    rw [cS] at h
    rw [wS] at w
    rw [okS] at ob
    split at h
    · rename_i e ex
      obtain ⟨p, rfl⟩ := asExp_ok ex
      obtain ⟨h1, h2⟩ := Bool.a2 h
      exact ws_expr (swaps_no (Bool.nt h1)) (sE t ok.toGK ob h2 w)
    · cases h
  | .ret t, G, sc, R, ρ, E, st, ok, ob, h, w => by
    rw [cS] at h
    rw [wS] at w
    rw [okS] at ob
    split at h
    · rename_i e ex
      obtain ⟨p, rfl⟩ := asRet_ok ex
      exact ws_ret (sE t ok.toGK ob h w)
    · cases h
  | .retN, G, sc, R, ρ, E, st, ok, ob, h, w => by
    rw [cS] at h
    rw [wS] at w
    split at h
    · rename_i ex
      obtain ⟨p, rfl⟩ := asRet_ok ex
      exact ws_retN w
    · cases h
  | .retL i, G, sc, R, ρ, E, st, ok, ob, h, w => by
    rw [cS] at h
    rw [wS] at w
    split at h
    · rename_i e ex
      obtain ⟨p, rfl⟩ := asRet_ok ex
      obtain ⟨n, p, rfl, nm⟩ := asNm ok.toGK h
      obtain ⟨l, el, w⟩ := getL_ok w
      exact ws_retL nm el w
    · cases h
  | .iff c a b, G, sc, R, ρ, E, st, ok, ob, h, w => by
    rw [cS] at h
    rw [wS] at w
    rw [okS] at ob
    split at h
    · rename_i e x y ex
      obtain ⟨p, rfl⟩ := asIff_ok ex
      obtain ⟨h1, h⟩ := Bool.a2 h
      obtain ⟨h2, h3⟩ := Bool.a2 h
      refine ws_if ((sT c ok.toGK ob.1 h1 w).mono fun k w => ?_)
      cases k with
      | true => rw [if_pos rfl] at w ⊢; exact sSs a ok ob.2.1 h2 w
      | false => rw [if_neg Bool.false_ne_true] at w ⊢; exact sSs b ok ob.2.2 h3 w
    · cases h
  | .pass, G, sc, R, ρ, E, st, ok, ob, h, w => by
    rw [cS] at h
    rw [wS] at w
    obtain ⟨p, rfl⟩ := isPass_ok h
    exact ws_pass w
  | .brk, G, sc, R, ρ, E, st, ok, ob, h, w => by
    rw [cS] at h
    rw [wS] at w
    obtain ⟨p, rfl⟩ := isBrk_ok h
    exact ws_brk w
  | .cont, G, sc, R, ρ, E, st, ok, ob, h, w => by
    rw [cS] at h
    rw [wS] at w
    obtain ⟨p, rfl⟩ := isCont_ok h
    exact ws_cont w
  | .set own i t, G, sc, R, ρ, E, st, ok, ob, h, w => by
    rw [cS] at h
    rw [wS] at w
    rw [okS] at ob
    split at h
    · rename_i x p e ps ex
      rw [asSet_ok ex]
      obtain ⟨h1, h⟩ := Bool.a2 h
      obtain ⟨h2, h⟩ := Bool.a2 h
      obtain ⟨h3, h4⟩ := Bool.a2 h
      have hs := isS_ok h2
      refine ws_set (own := own) ok.nd (atN_ok h1) ?_ ?_ (swaps_not ?_) (sE t ok.toGK ob h4 w)
      · rcases hs with z | z
        · exact .inl (ok.sv.loc _ z)
        · exact .inr (ok.sv.cel _ z)
      · rcases hs with z | z
        · exact .inr (ok.sv.loc _ z)
        · exact .inl (ok.fn _ z)
      · rw [Bool.or_eq_true] at h3
        rcases h3 with z | z
        · exact .inl (Bool.nt z)
        · obtain ⟨z1, z2⟩ := Bool.a2 z
          refine .inr ⟨Option.isSome_iff_exists.mp z1, ?_⟩
          rw [Bool.or_eq_true] at z2
          rcases z2 with z2 | z2
          · exact .inl (Bool.nt z2)
          · exact .inr (ok.sv.cel _ (by simpa using z2))
    · cases h
  | .setC own i g ow s q el, G, sc, R, ρ, E, st, ok, ob, h, w => by
    rw [cS] at h
    rw [wS] at w
    rw [okS] at ob
    split at h
    · rename_i x p e ps ex
      rw [asSet_ok ex]
      split at h
      · rename_i c ec
        obtain ⟨h1, h⟩ := Bool.a2 h
        obtain ⟨h2, h⟩ := Bool.a2 h
        obtain ⟨h3, h⟩ := Bool.a2 h
        obtain ⟨h4, h⟩ := Bool.a2 h
        obtain ⟨h5, h⟩ := Bool.a2 h
        obtain ⟨h6, h⟩ := Bool.a2 h
        obtain ⟨h7, h⟩ := Bool.a2 h
        obtain ⟨h8, h⟩ := Bool.a2 h
        obtain ⟨h9, h⟩ := Bool.a2 h
        obtain ⟨h10, h11⟩ := Bool.a2 h
        have hl := ok.sv.loc _ (of_decide_eq_true h2)
        rw [asComp_ok ec]
        exact ws_setLc (owns := ow) (own := own) (l := g.slots) (A := wTg g) (Bt := fun ρ' B => wQ q Nox ρ' B) (Ce := fun ρ' K => wE el Nox ρ' fun x _ => K x) ok.toGOk (atN_ok h1) hl (swaps_yes ok.sv.kind hl h3 (Bool.nt h4)) (blkB_ok ok.sv h5)
          (fun j hj => by simpa using (List.all_eq_true.mp h6 j hj)) (fun sh Hb C cl fp d ρ P w => sG g (ok.toGK.blk h5 sh Hb C cl fp) h9 w) (fun sh Hb C cl fp ρ P w => sQ q (ok.toGK.blk h5 sh Hb C cl fp) ob.2.1 h10 w)
          (fun sh Hb C cl fp ρ P w => sE el (ok.toGK.blk h5 sh Hb C cl fp) ob.2.2 h11 w) (fold_no (Bool.nt h7)) (sI s ok.toGK ob.1 h8 w)
      · cases h
    · cases h
  | .tgt g t, G, sc, R, ρ, E, st, ok, ob, h, w => by
    rw [cS] at h
    rw [wS] at w
    rw [okS] at ob
    split at h
    · rename_i tg e ex
      obtain ⟨p, rfl⟩ := asAsg_ok ex
      obtain ⟨h1, h⟩ := Bool.a2 h
      obtain ⟨h2, h⟩ := Bool.a2 h
      obtain ⟨h3, h⟩ := Bool.a2 h
      obtain ⟨h4, h5⟩ := Bool.a2 h
      exact ws_tgt (l := g.slots) (swaps1_no (Bool.nt h1)) (stores_no (Bool.nt h2)) (by rw [asg_cons (Bool.nt h3)] <;> rfl) ((sE t ok.toGK ob h5 w).mono fun d _ w => sG g ok.toGK h4 w)
    · cases h
  | .par i j a b, G, sc, R, ρ, E, st, ok, ob, h, w => by
    rw [cS] at h
    rw [wS] at w
    rw [okS] at ob
    split at h
    · rename_i c ec
      obtain ⟨h1, h⟩ := Bool.a2 h
      obtain ⟨h2, h⟩ := Bool.a2 h
      obtain ⟨h3, h⟩ := Bool.a2 h
      obtain ⟨h4, h⟩ := Bool.a2 h
      obtain ⟨h5, h⟩ := Bool.a2 h
      obtain ⟨h6, h⟩ := Bool.a2 h
      obtain ⟨h7, h⟩ := Bool.a2 h
      obtain ⟨h8, h⟩ := Bool.a2 h
      obtain ⟨h9, h⟩ := Bool.a2 h
      obtain ⟨h10, h⟩ := Bool.a2 h
      obtain ⟨h11, h⟩ := Bool.a2 h
      obtain ⟨h12, h13⟩ := Bool.a2 h
      have hx := ok.sv.loc _ (of_decide_eq_true h4)
      have hy := ok.sv.loc _ (of_decide_eq_true h5)
      rw [asPar_ok ec]
      exact ws_par ok.toGOk (atN_ok h1) (atN_ok h2) (of_decide_eq_true h3) hx hy (stores_par ok.sv.kind hx hy h6 (Bool.nt h7) (Bool.nt h8) (Bool.nt h9) (Bool.nt h10) (Bool.nt h11)) rfl (star_cons (Bool.nt h8)) (star_cons (Bool.nt h9))
        ((sE a ok.toGK ob.1 h12 w).mono fun d1 _ w => sE b ok.toGK ob.2 h13 w)
    · cases h
  | .app i t, G, sc, R, ρ, E, st, ok, ob, h, w => by
    rw [cS] at h
    rw [wS] at w
    rw [okS] at ob
    split at h
    · rename_i x e ex
      obtain ⟨p, ap, pos, p2, rfl, hl⟩ := asApp_ok ex
      obtain ⟨h1, h⟩ := Bool.a2 h
      obtain ⟨h2, h3⟩ := Bool.a2 h
      obtain ⟨ds, el, hz, w⟩ := getL_ok w
      obtain ⟨n, q, en, nm⟩ := asNm (x := .Name x p) ok.toGK h1
      cases en
      exact ws_app nm el hz rfl (few1 (Bool.nt h2)) hl (star_cons (Bool.nt h2)) rfl rfl (sE t ok.toGK ob h3 w)
    · cases h
  | .appPop i j t, G, sc, R, ρ, E, st, ok, ob, h, w => by
    rw [cS] at h
    rw [wS] at w
    rw [okS] at ob
    split at h
    · rename_i x e ex
      obtain ⟨p, ap, pos, p2, rfl, hl⟩ := asApp_ok ex
      split at h
      · rename_i y f ey
        obtain ⟨p3, ap2, pos2, rfl, hl2⟩ := asPop_ok ey
        obtain ⟨h1, h⟩ := Bool.a2 h
        obtain ⟨h2, h⟩ := Bool.a2 h
        obtain ⟨h3, h⟩ := Bool.a2 h
        obtain ⟨h4, h5⟩ := Bool.a2 h
        obtain ⟨ds, el, w⟩ := getL_ok w
        obtain ⟨ms, em, hz, w⟩ := getL_ok w
        obtain ⟨n, q, en, nm⟩ := asNm (x := .Name x p) ok.toGK h1
        cases en
        obtain ⟨n2, q2, en2, nm2⟩ := asNm (x := .Name y p3) ok.toGK h2
        cases en2
        refine ws_appPop nm nm2 el em (of_decide_eq_true h3) hz ?_ ?_ ((sE t ok.toGK ob h5 w).mono fun d _ w => ?_)
        · exact pe_bm PySem.F.plainAttrs_list PySem.F.slot_list_pop PySem.F.type_list_pop mt_popAt nm2.pe (pa_cons pe_self pa_nil (star_cons (Bool.nt h4))) rfl (few1 (Bool.nt h4)) hl2 (star_cons (Bool.nt h4)) rfl
        · intro t0 ht
          exact ps_expr (pe_bm PySem.F.plainAttrs_list PySem.F.slot_list_append PySem.F.type_list_append mt_append nm.pe (pa_cons ht pa_nil rfl) rfl rfl hl rfl rfl) rfl
        · obtain ⟨k, ed, n, z, ⟨z1, z2, z3, z4⟩, w⟩ := asI_ok w
          exact ⟨k, n, z, ed, z1, z2, z3, z4, w⟩
      · cases h
    · cases h
  | .setix i b t, G, sc, R, ρ, E, st, ok, ob, h, w => by
    rw [cS] at h
    rw [wS] at w
    rw [okS] at ob
    split at h
    · rename_i x y e ex
      obtain ⟨p, p2, p3, rfl⟩ := asStIx_ok ex
      obtain ⟨h1, h⟩ := Bool.a2 h
      obtain ⟨h2, h⟩ := Bool.a2 h
      obtain ⟨h3, h⟩ := Bool.a2 h
      obtain ⟨h4, h5⟩ := Bool.a2 h
      obtain ⟨ds, el, w⟩ := getL_ok w
      obtain ⟨n, q, en, nm⟩ := asNm (x := .Name x p) ok.toGK h1
      cases en
      refine ws_setix nm el (swaps1_no (Bool.nt h2)) (stores_no2 rfl) rfl (asg_sub (Bool.nt h3)) ((sE t ok.toGK ob.2 h5 w).mono fun d _ w => (sE b ok.toGK ob.1 h4 w).mono fun d2 _ w => ?_)
      obtain ⟨k, ed, n, en, w⟩ := asI_ok w
      exact ⟨k, n, ed, en, w⟩
    · cases h
  | .augix i b t, G, sc, R, ρ, E, st, ok, ob, h, w => by
    rw [cS] at h
    rw [wS] at w
    rw [okS] at ob
    split at h
    · rename_i x y e ex
      obtain ⟨p, p2, p3, rfl⟩ := asAuIx_ok ex
      obtain ⟨h1, h⟩ := Bool.a2 h
      obtain ⟨h3, h⟩ := Bool.a2 h
      obtain ⟨h4, h5⟩ := Bool.a2 h
      obtain ⟨ds, el, w⟩ := getL_ok w
      obtain ⟨n, q, en, nm⟩ := asNm (x := .Name x p) ok.toGK h1
      cases en
      refine ws_augix nm el (aug_sub (Bool.nt h3)) ((sE b ok.toGK ob.1 h4 w).mono fun d _ w => ?_)
      obtain ⟨k, ed, n, m, ⟨z1, z2⟩, w⟩ := asI_ok w
      exact ⟨k, n, m, ed, z1, z2, (sE t ok.toGK ob.2 h5 w).mono fun d2 _ w => asI_ok w⟩
    · cases h
  | .loop g s b, G, sc, R, ρ, E, st, ok, ob, h, w => by
    rw [cS] at h
    rw [wS] at w
    rw [okS] at ob
    split at h
    · rename_i tg it bd ex
      obtain ⟨p, rfl⟩ := asFor_ok ex
      obtain ⟨h1, h⟩ := Bool.a2 h
      obtain ⟨h2, h⟩ := Bool.a2 h
      obtain ⟨h3, h4⟩ := Bool.a2 h
      exact ws_for (l := g.slots) (A := wTg g) (Bd := fun ρ E => wSs b R ρ E) ok.toGOk ok.po (fun d ρ P w => sG g ok.toGK h2 w) (fun ρ E w => sSs b ok ob.2 h4 w) (fold_no (Bool.nt h1)) (sI s ok.toGK ob.1 h3 w)
    · cases h
  | .whl c b, G, sc, R, ρ, E, st, ok, ob, h, w => by
    rw [cS] at h
    rw [wS] at w
    rw [okS] at ob
    split at h
    · rename_i e bd ex
      obtain ⟨p, rfl⟩ := asWhl_ok ex
      obtain ⟨h1, h2⟩ := Bool.a2 h
      exact ws_while (Cd := fun ρ P => wT c R ρ P) (Bd := fun ρ E => wSs b R ρ E) ok.po (fun ρ P w => sT c ok.toGK ob.1 h1 w) (fun ρ E w => sSs b ok ob.2 h2 w) w
    · cases h
  | .raise0 cn, G, sc, R, ρ, E, st, ok, ob, h, w => by
    rw [cS] at h
    rw [wS] at w
    rw [okS] at ob
    split at h
    · rename_i c ex
      obtain ⟨p, pos, p2, rfl⟩ := asRse_ok ex
      obtain ⟨h1, h⟩ := Bool.a2 h
      obtain ⟨h2, h3⟩ := Bool.a2 h
      obtain rfl := beq_str h1
      exact ws_raise0 ok.toGOk (ob G.X rfl) (isG_ok h2) (okN_ok h3).1 w
    · cases h
  | .raiseT cn, G, sc, R, ρ, E, st, ok, ob, h, w => by
    rw [cS] at h
    rw [wS] at w
    rw [okS] at ob
    split at h
    · rename_i c e ex
      obtain ⟨p, pos, p2, rfl⟩ := asRse_ok ex
      obtain ⟨h1, h⟩ := Bool.a2 h
      obtain ⟨h2, h⟩ := Bool.a2 h
      obtain ⟨h3, h4⟩ := Bool.a2 h
      obtain rfl := beq_str h1
      split at h4
      · rename_i m em
        obtain ⟨j, p3, rfl⟩ := asCon_ok em
        exact ws_raiseT ok.toGOk (ob G.X rfl) (isG_ok h2) (okN_ok h3).1 w
      · cases h4
    · cases h
  | .raiseI c ts, G, sc, R, ρ, E, st, ok, ob, h, w => by
    rw [cS] at h
    rw [wS] at w
    rw [okS] at ob
    split at h
    · rename_i x es ex
      obtain ⟨p, pos, p2, rfl⟩ := asRse_ok ex
      obtain ⟨h1, h⟩ := Bool.a2 h
      obtain ⟨h2, h⟩ := Bool.a2 h
      obtain ⟨h3, h⟩ := Bool.a2 h
      obtain ⟨h4, h⟩ := Bool.a2 h
      obtain ⟨h5, h6⟩ := Bool.a2 h
      obtain rfl := beq_str h1
      have st := cEs_star h6
      have wa := sEs ts ok.toGK ob.2 h6 w
      cases es with
      | nil => cases h5
      | cons e es =>
        rw [List.all_cons] at st
        obtain ⟨s1, s2⟩ := Bool.a2 st
        exact ws_raiseI ok.toGOk (ob.1 G.X rfl) (of_decide_eq_true h4) (isG_ok h2) (okN_ok h3).1 (star_cons (Bool.nt s1)) (star_any s2) wa
    · cases h
  | .stf i C f t, G, sc, R, ρ, E, st, ok, ob, h, w => by
    rw [cS] at h
    rw [wS] at w
    rw [okS] at ob
    split at h
    · rename_i x g e ex
      obtain ⟨p, p2, p3, rfl⟩ := asStF_ok ex
      obtain ⟨h1, h⟩ := Bool.a2 h
      obtain ⟨h2, h⟩ := Bool.a2 h
      obtain ⟨h3, h4⟩ := Bool.a2 h
      obtain rfl := beq_str h1
      obtain ⟨a, ks, ws, ei, hz, w⟩ := getIns_ok w
      obtain ⟨n, q, en, nm⟩ := asNm (x := .Name x p) ok.toGK h2
      cases en
      exact ws_stf nm ei hz ob.1 (swaps_no (Bool.nt h3)) (sE t ok.toGK ob.2 h4 w)
    · cases h
theorem sSs : ∀ (ss : Sms) {G : Gm} {sc : Scope} {R : Exn → Prop} {ρ : Rho} {E : DE} {sts : List Stmt}, GS G sc R → okSs (moOf G.X) ss → cSs G.X.N G.k ss sc sts = true → wSs ss R ρ E → WSs G sts ρ E
  | .nil, G, sc, R, ρ, E, [], ok, ob, h, w => by
    rw [wSs] at w
    exact ws_nil w
  | .cons s ss, G, sc, R, ρ, E, t :: ts, ok, ob, h, w => by
    rw [wSs] at w
    rw [cSs] at h
    rw [okSs] at ob
    obtain ⟨h1, h2⟩ := Bool.a2 h
    have q := sS s ok ob.1 h1 w
    refine ws_cons ?_
    exact WS.mono_nx (E := { E with nx := fun ρ' => WSs G ts ρ' E }) q fun ρ w => sSs ss ok ob.2 h2 w
  | .frz i ss, G, sc, R, ρ, E, ts, ok, ob, h, w => by
    rw [wSs] at w
    rw [cSs] at h
    rw [okSs] at ob
    obtain ⟨ds, el, w⟩ := getL_ok w
    exact wss_frz el (sSs ss ok ob h w)
  | .nil, _, _, _, _, _, _ :: _, _, _, h, _ => by cases h
  | .cons _ _, _, _, _, _, _, [], _, _, h, _ => by cases h
end
end Pd
end
section
set_option Elab.async false
set_option linter.all false
set_option maxRecDepth 100000
set_option maxHeartbeats 4000000
/-! ## a def keeps its promise -/
namespace Pd
open PySem PySem.Spec PyProof.Rows L2
def rho0 (N : List Str) (ds : List D) : Rho := ds.map Sl.val ++ List.replicate (N.length - ds.length) .un
def scB (N ps : List Str) (sc : Scope) : Bool :=
  sc.kind == .function && (sc.isCoroutine == false && (sc.isGenerator == false && (decide N.Nodup && (decide (N.take ps.length = ps) && (ps.all (fun x => isS sc x) && sc.names.all (fun y => !(y.2 == .free)))))))
theorem scB_ok {N ps : List Str} {sc : Scope} (h : scB N ps sc = true) : FnScope N ps sc := by
  unfold scB at h
  obtain ⟨h1, h⟩ := Bool.a2 h
  obtain ⟨h2, h⟩ := Bool.a2 h
  obtain ⟨h3, h⟩ := Bool.a2 h
  obtain ⟨h4, h⟩ := Bool.a2 h
  obtain ⟨h5, h⟩ := Bool.a2 h
  obtain ⟨h6, h7⟩ := Bool.a2 h
  refine ⟨by simpa using h1, by simpa using h2, by simpa using h3, of_decide_eq_true h4, of_decide_eq_true h5, fun x hx => isS_ok (List.all_eq_true.mp h6 x hx), fun y hy e => ?_⟩
  have := List.all_eq_true.mp h7 y hy
  rw [e] at this
  cases this
theorem DrL.zip {K : PySem.W.Frag} {g : Option Rg} {H : Hp} {vs : List V} {ds : List D} (r : DrL K g H vs ds) {i : Nat} {d : D} (e : ds[i]? = some d) : ∃ v, vs[i]? = some v ∧ Dr K g H v d := r.get e
theorem start_ok {G : Gm} {N : List Str} {h : Addr → Prop} {H : Hp} {vs : List V} {ds : List D} (en : Ent G h H) (r : DrL G.X.K G.g (hid h H) vs ds) : StOk G h (start N vs) (rho0 N ds) H := by
  have hl := r.length
  have own : ∀ (i : Nat) (s : Sl), (rho0 N ds)[i]? = some s → ¬ s.own := fun i s e o => by
    unfold rho0 at e
    rcases Nat.lt_or_ge i (ds.map Sl.val).length with q | q
    · rw [List.getElem?_append_left q, List.getElem?_map] at e
      cases z : ds[i]? with
      | none => rw [z] at e; cases e
      | some d => rw [z] at e; cases e; exact o
    · rw [List.getElem?_append_right q, List.getElem?_replicate] at e
      split at e <;> cases e
      exact o
  refine ⟨en, ?_, fun _ => 0, fun i j s t e1 e2 o1 o2 q => (own i s e1 o1).elim, fun i s e o => (own i s e o).elim, fun i s o e1 e2 => ?_⟩
  · unfold L2.start rho0
    rw [List.length_append, List.length_append, List.length_map, List.length_map, List.length_replicate, List.length_replicate, hl]
  · unfold rho0 at e1
    unfold L2.start at e2
    rcases Nat.lt_or_ge i (ds.map Sl.val).length with q | q
    · rw [List.getElem?_append_left q, List.getElem?_map] at e1
      rw [List.getElem?_append_left (by rw [List.length_map] at q ⊢; omega), List.getElem?_map] at e2
      cases z : ds[i]? with
      | none => rw [z] at e1; cases e1
      | some d =>
        rw [z] at e1
        cases e1
        obtain ⟨v, ev, rv⟩ := r.get z
        rw [ev] at e2
        cases e2
        exact ⟨v, rfl, rv⟩
    · rw [List.getElem?_append_right q, List.getElem?_replicate] at e1
      split at e1 <;> cases e1
      trivial
abbrev E0 (P : D → Bool → Prop) : DE := { nx := fun _ => P .non false, rt := P }
section
variable {m : Mo} {x qual : Str} {params : Arguments} {body : List Stmt} {scope : Scope} {dvs : List V} {kws : List (Str × V)} {f : Addr} {fd : FuncData} {N ps : List Str} {lv : Nat}
/-- the context of a def's body is as it should be -/
theorem gs_def {X : Cx} {g : Option Rg} {h : Addr → Prop} {H : Hp} {E : XK} {R : Exn → Prop} {sc : Scope} (S : FnScope N ps sc) (hcalm : X.calm = true) (hN : X.N = N) (hr : Room lv X.A) (hs : X.env.scope = sc) (hfn : ∀ x, X.fn x = true) (hbi : ∀ x ∈ BI, X.mg x = none)
    (st : X.stack = X.env :: X.outer) (hf : X.env.frame = some X.env.locals) (hex : X.ex = []) {E₁ : Value → Shared → Prop} (hx : X.xe = fun e s' => wpAny (model X.prog X.w) X.A (leaving X.env e) (fun _ s'' => L2N.CX X.prog X.w X.outer X.H_0 X.s_0 E e s'') E₁ s')
    (hE : ∀ cls dx H' e, Ext g H H' → ExnR X.K H' cls dx e → R e → E cls dx H') : GS ⟨X, g, h, H, lv⟩ sc R := by
  subst hs
  refine ⟨⟨⟨hcalm, by rw [hN]; exact S.nd, hr, ⟨S.kind, fun _ e => e, fun _ e => e, fun _ e => e, fun _ e => e⟩, (L2N.takes_of st hf hex hx).imp fun c d σ H' ⟨h', ρ, e, S', q, z⟩ => ?_, hbi⟩, fun x _ => hfn x⟩, passes_of hx⟩
  exact hE c d H' e ⟨fun a o n e => (S'.ent.keep a o e n).1, fun _ => S'.ent.ok⟩ q z
theorem body_ok {X : Cx} {g : Option Rg} {h : Addr → Prop} {H : Hp} {R : Exn → Prop} {P : D → Bool → Prop} {vs : List V} {ds : List D} {Q : VK} (gs : GS ⟨X, g, h, H, lv⟩ scope R) (hm : moOf X = m) (hN : X.N = N) (ir : Sms) (hok : okSs m ir) (hck : cSs N lv ir scope body = true)
    (hadr : ∀ a, adr g a → h a) (htrk : ∀ a, h a → ∃ o, H a = some o) (hrok : rok g H) (r : DrL X.K g (hid h H) vs ds) (w : wSs ir R (rho0 N ds) (E0 P))
    (hQ : ∀ v H', (Ext g H H' ∧ ∃ d fr, Dr X.K g (hid h H') v d ∧ (fr = true → Fr X.K g h H H' v d) ∧ P d fr) → Q v H') : Svs X body { nx := fun _ H' => Q .non H', rt := Q } (start N vs) H := by
  subst hm
  subst hN
  have en : Ent ⟨X, g, h, H, lv⟩ h H := ⟨fun a o e _ => ⟨e, fun z => z⟩, fun _ z => z, hadr, htrk, htrk, hrok⟩
  have q := sSs ir gs hok hck w h (start X.N vs) H (start_ok en r)
  refine Svs.mono q (fun σ' H' ⟨h', ρ', p, S', z⟩ => ?_) (fun v H' ⟨k1, k2, d, fr, r, f, z⟩ => ?_) (fun _ _ ⟨_, _, _, _, z⟩ => z.elim) fun _ _ ⟨_, _, _, _, z⟩ => z.elim
  · exact hQ _ _ ⟨⟨fun a o n e => (S'.ent.keep a o e n).1, fun _ => S'.ent.ok⟩, .non, false, .non, (fun z => nomatch z), z⟩
  · exact hQ _ _ ⟨⟨fun a o n e => k1 a o e n, fun _ => k2⟩, d, fr, r, f, z⟩
theorem spOf_len {K : PySem.W.Frag} {n : Nat} {s : Spec} {vs : List V} {H : Hp} {Q : VK} {E : XK} (h : spOf K n s vs H Q E) : vs.length = n := by
  obtain ⟨g, h, ds, P, R, hl, _, _, _, r, _⟩ := h
  rw [r.length, hl]
theorem fn_ok (F : FunD m.K x qual params body scope dvs kws f fd) (ir : Sms) (sp : Spec) (hbi : ∀ x ∈ BI, m.mg x = none) (hS : scB N ps scope = true) (hck : cSs N lv ir scope body = true) (hok : okSs m ir)
    (hw : ∀ ds P R, ds.length = ps.length → sp ds P R → wSs ir R (rho0 N ds) (E0 P)) : FnOk m.prog m.w m.K m.mg m.base (L2N.CX m.prog m.w) (lv + 1) f fd ps (spOf m.K ps.length sp) := by
  have S := scB_ok hS
  refine F.ok S (fun vs H Q E h => spOf_len h) fun cdv A outer s H vs Q E hr h => ?_
  obtain ⟨g, h, ds, P, R, hl, hadr, htrk, hrok, r, hsp, hQ, hE⟩ := h
  exact ⟨_, pss_self, body_ok (X := cxOf (L2N.CX m.prog m.w) m.prog m.w m.K m.mg m.base N qual scope f cdv A outer s H E) (gs_def S rfl rfl hr rfl (fun _ => rfl) hbi rfl rfl rfl rfl hE) rfl rfl ir hok hck hadr htrk hrok r (hw ds P R hl hsp) hQ⟩
/-- a global def -/
theorem callee_of {c : Fn} {dv : List V} {ds : List Value} (F : FunD m.K x qual params body scope dvs kws f fd) (hmg : m.mg c.x = some (.ref f)) (hb : Binds m.K fd ps ds) (hd : Vals dv ds) (hdf : ∀ (g : Option Rg) (H : Hp), DrL m.K g H dv c.dfl)
    (ir : Sms) (hbi : ∀ x ∈ BI, m.mg x = none) (hlv : c.lev = lv + 1) (har : c.ar = ps.length) (hS : scB N ps scope = true) (hck : cSs N lv ir scope body = true) (hok : okSs m ir) (hw : ∀ ds P R, ds.length = ps.length → c.sp ds P R → wSs ir R (rho0 N ds) (E0 P)) : m.callee c := fun X hX => by
  subst hX
  have q := fn_ok F ir c.sp hbi hS hck hok hw
  rw [← hlv, ← har] at q
  exact ⟨f, fd, ps, hmg, F.kp, q, ds, dv, hb, hd, hdf⟩
theorem meth_of {cn : Str} {c : Fn} {dv : List V} {ds : List Value} (F : FunD m.K x qual params body scope dvs kws f fd) (hcl : Cls m.K (He.ga m.K cn)) (hm : Meth m.K (He.ga m.K cn) c.x f) (hb : Binds m.K fd ps ds) (hd : Vals dv ds) (hdf : ∀ (g : Option Rg) (H : Hp), DrL m.K g H dv c.dfl)
    (ir : Sms) (hbi : ∀ x ∈ BI, m.mg x = none) (hlv : c.lev = lv + 1) (har : c.ar = ps.length) (hS : scB N ps scope = true) (hck : cSs N lv ir scope body = true) (hok : okSs m ir) (hw : ∀ ds P R, ds.length = ps.length → c.sp ds P R → wSs ir R (rho0 N ds) (E0 P)) : m.meth cn c := fun X hX => by
  subst hX
  have q := fn_ok F ir c.sp hbi hS hck hok hw
  rw [← hlv, ← har] at q
  exact ⟨hcl, f, fd, ps, hm, q, ds, dv, hb, hd, hdf⟩
end
end Pd
end
section
set_option Elab.async false
set_option linter.all false
set_option maxRecDepth 100000
set_option maxHeartbeats 1000000
/-! ## __init__ -/
namespace Pd
open PySem PySem.Spec PyProof.Rows L2
/-! __init__ of one or two fields -/
def asIni : Stmt → Option (Str × Str × Str) | .Assign [.Attribute (.Name s _) f _] (.Name x _) _ => some (s, f, x) | _ => none
theorem asIni_ok {st : Stmt} {s f x : Str} (h : asIni st = some (s, f, x)) : ∃ p1 p2 p3 p4, st = .Assign [.Attribute (.Name s p1) f p2] (.Name x p3) p4 := by
  unfold asIni at h
  split at h <;> cases h
  exact ⟨_, _, _, _, rfl⟩
theorem sv0 {X : Cx} {N : List Str} {i : Nat} {x : Str} {p : Pos} (hN : X.N[i]? = some x) (hs : isS X.env.scope x = true) (hk : okN x = true) : PE X (.Name x p) (tVar i) := by
  obtain ⟨h1, h2⟩ := okN_ok hk
  refine pe_var hN ?_ h1 h2
  rcases isS_ok hs with z | z
  · exact .inl z
  · exact .inr (.inl z)
theorem len2 {α : Type} {l : List α} (h : l.length = 2) : ∃ a b, l = [a, b] := by
  match l, h with
  | [a, b], _ => exact ⟨a, b, rfl⟩
theorem exi1_of {m : Mo} {cn x qual s f y : Str} {params : Arguments} {body : List Stmt} {scope : Scope} {kws : List (Str × V)} {fI : Addr} {fd : FuncData} (F : FunD m.K x qual params body scope [] kws fI fd)
    (hcl : OexC m.K (He.ga m.K cn)) (hno : PySem.W.findIn m.K (.ref (He.ga m.K cn)) f = some none) (hS : scB [s, y] [s, y] scope = true) (hb : body.map asIni = [some (s, f, y)]) (hs : okN s = true) (hy : okN y = true) :
    FnOk m.prog m.w m.K m.mg m.base (L2N.CX m.prog m.w) 1 fI fd [s, y] (spExi (He.ga m.K cn) [f]) := by
  obtain ⟨b, rfl, hb1⟩ := List.map_eq_singleton_iff.mp hb
  obtain ⟨p1, p2, p3, p4, rfl⟩ := asIni_ok hb1
  have S := scB_ok hS
  refine F.ok S (fun vs H Q E h => ?_) fun cdv A outer st H vs Q E hr h => ?_
  · obtain ⟨a, ns, rfl, hl, _⟩ := h
    show (ns.map V.int).length + 1 = _
    rw [List.length_map, hl]
    rfl
  · obtain ⟨a, ns, rfl, hl, ea, q⟩ := h
    obtain ⟨n, rfl⟩ : ∃ n, ns = [n] := List.length_eq_one_iff.mp hl
    have gs : ∀ z ∈ [s, y], isS scope z = true := fun z hz => by
      unfold isS
      rcases S.par z hz with e | e <;> rw [e]
    refine ⟨_, pss_one (ps_ost (sv0 (N := [s, y]) (i := 0) rfl (gs s (by simp)) hs) (sv0 (N := [s, y]) (i := 1) rfl (gs y (by simp)) hy)), ?_⟩
    refine ⟨.int n, rfl, .ref a, rfl, a, _, rfl, hcl, hno, .inl ⟨ea, fun dx ndx hda => ?_⟩⟩
    refine q dx [(f, .int n)] _ ndx hda (fun p hp => ?_) upd_same ?_ fun b hb hd => by rw [upd_ne hb, upd_ne hd]
    · obtain rfl : p = (f, n) := List.mem_singleton.mp hp
      exact List.lookup_cons_self
    · rw [upd_ne hda, upd_same]
theorem exi2_of {m : Mo} {cn x qual s f y f2 y2 : Str} {params : Arguments} {body : List Stmt} {scope : Scope} {kws : List (Str × V)} {fI : Addr} {fd : FuncData} (F : FunD m.K x qual params body scope [] kws fI fd)
    (hcl : OexC m.K (He.ga m.K cn)) (hno : PySem.W.findIn m.K (.ref (He.ga m.K cn)) f = some none) (hno2 : PySem.W.findIn m.K (.ref (He.ga m.K cn)) f2 = some none) (hff : (f == f2) = false) (hS : scB [s, y, y2] [s, y, y2] scope = true) (hb : body.map asIni = [some (s, f, y), some (s, f2, y2)]) (hs : okN s = true) (hy : okN y = true) (hy2 : okN y2 = true) :
    FnOk m.prog m.w m.K m.mg m.base (L2N.CX m.prog m.w) 1 fI fd [s, y, y2] (spExi (He.ga m.K cn) [f, f2]) := by
  obtain ⟨b, l, rfl, hb1, hb3⟩ := List.map_eq_cons_iff.mp hb
  obtain ⟨b2, rfl, hb2⟩ := List.map_eq_singleton_iff.mp hb3
  obtain ⟨p1, p2, p3, p4, rfl⟩ := asIni_ok hb1
  obtain ⟨p5, p6, p7, p8, rfl⟩ := asIni_ok hb2
  have S := scB_ok hS
  refine F.ok S (fun vs H Q E h => ?_) fun cdv A outer st H vs Q E hr h => ?_
  · obtain ⟨a, ns, rfl, hl, _⟩ := h
    show (ns.map V.int).length + 1 = _
    rw [List.length_map, hl]
    rfl
  · obtain ⟨a, ns, rfl, hl, ea, q⟩ := h
    obtain ⟨n, n2, rfl⟩ : ∃ n n2, ns = [n, n2] := len2 hl
    have gs : ∀ z ∈ [s, y, y2], isS scope z = true := fun z hz => by
      unfold isS
      rcases S.par z hz with e | e <;> rw [e]
    refine ⟨_, pss_cons (ps_ost (sv0 (N := [s, y, y2]) (i := 0) rfl (gs s (by simp)) hs) (sv0 (N := [s, y, y2]) (i := 1) rfl (gs y (by simp)) hy)) (pss_one (ps_ost (sv0 (N := [s, y, y2]) (i := 0) rfl (gs s (by simp)) hs) (sv0 (N := [s, y, y2]) (i := 2) rfl (gs y2 (by simp)) hy2))), ?_⟩
    refine ⟨.int n, rfl, .ref a, rfl, a, _, rfl, hcl, hno, .inl ⟨ea, fun dx ndx hda => ?_⟩⟩
    refine ⟨.int n2, rfl, .ref a, rfl, a, _, rfl, hcl, hno2, .inr ⟨dx, [(f, .int n)], upd_same, by rw [upd_ne hda, upd_same], (show 1 ≤ 900 by decide), ?_⟩⟩
    refine q dx [(f2, .int n2), (f, .int n)] _ ndx hda (fun p hp => ?_) (by rw [upd_ne (Ne.symm hda), upd_same]) upd_same fun b hb hd => by rw [upd_ne hd, upd_ne hb, upd_ne hd]
    rcases List.mem_cons.mp hp with hp | hp
    · rw [hp, List.lookup_cons, hff]
      exact List.lookup_cons_self
    · obtain rfl : p = (f2, n2) := List.mem_singleton.mp hp
      exact List.lookup_cons_self
theorem exi_of1 {m : Mo} {cn x qual s f y : Str} {params : Arguments} {body : List Stmt} {scope : Scope} {kws : List (Str × V)} {fI : Addr} {fd : FuncData} (F : FunD m.K x qual params body scope [] kws fI fd) (hg : m.mg cn = some (.ref (He.ga m.K cn)))
    (hcl : OexC m.K (He.ga m.K cn)) (hi : PySem.W.findIn m.K (.ref (He.ga m.K cn)) "__init__" = some (some (.ref fI))) (ht : PySem.W.typeIn m.K (.ref fI) = some (.type "function")) (hno : PySem.W.findIn m.K (.ref (He.ga m.K cn)) f = some none)
    (hbi : Binds m.K fd [s, y] []) (hS : scB [s, y] [s, y] scope = true) (hb : body.map asIni = [some (s, f, y)]) (hs : okN s = true) (hy : okN y = true) : m.exi ⟨cn, [f], 1⟩ := fun X hX => by
  subst hX
  exact ⟨hg, hcl, fI, fd, [s, y], hi, ht, exi1_of (m := moOf X) (cn := cn) F hcl hno hS hb hs hy, hbi⟩
theorem exi_of2 {m : Mo} {cn x qual s f y f2 y2 : Str} {params : Arguments} {body : List Stmt} {scope : Scope} {kws : List (Str × V)} {fI : Addr} {fd : FuncData} (F : FunD m.K x qual params body scope [] kws fI fd) (hg : m.mg cn = some (.ref (He.ga m.K cn)))
    (hcl : OexC m.K (He.ga m.K cn)) (hi : PySem.W.findIn m.K (.ref (He.ga m.K cn)) "__init__" = some (some (.ref fI))) (ht : PySem.W.typeIn m.K (.ref fI) = some (.type "function")) (hno : PySem.W.findIn m.K (.ref (He.ga m.K cn)) f = some none) (hno2 : PySem.W.findIn m.K (.ref (He.ga m.K cn)) f2 = some none) (hff : (f == f2) = false)
    (hbi : Binds m.K fd [s, y, y2] []) (hS : scB [s, y, y2] [s, y, y2] scope = true) (hb : body.map asIni = [some (s, f, y), some (s, f2, y2)]) (hs : okN s = true) (hy : okN y = true) (hy2 : okN y2 = true) : m.exi ⟨cn, [f, f2], 1⟩ := fun X hX => by
  subst hX
  exact ⟨hg, hcl, fI, fd, [s, y, y2], hi, ht, exi2_of (m := moOf X) (cn := cn) F hcl hno hno2 hff hS hb hs hy hy2, hbi⟩
/-! a class's __init__ -/
def rhoI (N : List Str) (x : Addr) (cn : Str) (ds : List D) : Rho := .ins x cn [] [] :: (ds.map Sl.val ++ List.replicate (N.length - (ds.length + 1)) .un)
def EI (x : Addr) (cn : Str) (P : List Str → List D → Prop) : DE := { nx := fun ρ => ∃ ks ws, ρ[0]? = some (.ins x cn ks ws) ∧ P ks ws, rt := fun _ _ => False }
theorem startI_ok {G : Gm} {N : List Str} {h : Addr → Prop} {H : Hp} {vs : List V} {ds : List D} {x dx : Addr} {cn : Str} (en : Ent G (fun a => h a ∨ a = x) H) (hx : ¬ G.h0 x) (ex : H x = some (.ins (He.ga G.X.K cn) dx [])) (r : DrL G.X.K G.g (hid (fun a => h a ∨ a = x) H) vs ds) :
    StOk G (fun a => h a ∨ a = x) (L2.start N (.ref x :: vs)) (rhoI N x cn ds) H := by
  have hl := r.length
  have at1 : ∀ (i : Nat) (s : Sl), (rhoI N x cn ds)[i + 1]? = some s → s = .un ∨ ∃ d, ds[i]? = some d ∧ s = .val d := fun i s e => by
    have e : (ds.map Sl.val ++ List.replicate (N.length - (ds.length + 1)) .un)[i]? = some s := e
    rcases Nat.lt_or_ge i (ds.map Sl.val).length with q | q
    · rw [List.getElem?_append_left q, List.getElem?_map] at e
      cases z : ds[i]? with
      | none => rw [z] at e; cases e
      | some d => rw [z] at e; cases e; exact .inr ⟨d, rfl, rfl⟩
    · rw [List.getElem?_append_right q, List.getElem?_replicate] at e
      split at e <;> cases e
      exact .inl rfl
  have own : ∀ (i : Nat) (s : Sl), (rhoI N x cn ds)[i]? = some s → s.own → i = 0 := fun i s e o => by
    cases i with
    | zero => rfl
    | succ i =>
      rcases at1 i s e with z | ⟨d, _, z⟩
      · subst z; exact o.elim
      · subst z; exact o.elim
  refine ⟨en, ?_, fun _ => x, fun i j s t e1 e2 o1 o2 _ => by rw [own i s e1 o1, own j t e2 o2], fun i s e o => hx, fun i s o e1 e2 => ?_⟩
  · unfold L2.start rhoI
    simp only [List.length_append, List.length_map, List.length_replicate, List.length_cons, hl]
    omega
  · cases i with
    | zero =>
      cases e1
      cases e2
      exact ⟨⟨rfl, rfl⟩, .inr rfl, dx, [], ex, rfl, .nil⟩
    | succ i =>
      rcases at1 i s e1 with z | ⟨d, ed, z⟩
      · subst z; trivial
      · subst z
        obtain ⟨v, ev, rv⟩ := r.get ed
        have hi : i < vs.length := (List.getElem?_eq_some_iff.mp ev).1
        have e2 : ((vs.map some) ++ List.replicate (N.length - (vs.length + 1)) none)[i]? = some o := e2
        rw [List.getElem?_append_left (by rw [List.length_map]; exact hi), List.getElem?_map, ev] at e2
        cases e2
        exact ⟨v, rfl, rv⟩
theorem mkr_of {m : Mo} {c : Mkr} {x qual : Str} {params : Arguments} {body : List Stmt} {scope : Scope} {kws : List (Str × V)} {dvs : List V} {fd : FuncData} {N ps : List Str} {lv : Nat} (F : FunD m.K x qual params body scope dvs kws (He.ma m.K (He.ga m.K c.cn) "__init__") fd) (hg : m.mg c.cn = some (.ref (He.ga m.K c.cn)))
    (hmk : Mk m.K (He.ga m.K c.cn) (He.ma m.K (He.ga m.K c.cn) "__init__")) (hb : Binds m.K fd ps []) (ir : Sms) (hbi : ∀ x ∈ BI, m.mg x = none) (hlv : c.lev = lv + 1) (har : ps.length = c.ar + 1) (hS : scB N ps scope = true) (hck : cSs N lv ir scope body = true) (hok : okSs m ir)
    (hw : ∀ a ds P R, ds.length = c.ar → c.sp ds P R → wSs ir R (rhoI N a c.cn ds) (EI a c.cn P)) : m.mkr c := fun X hX => by
  subst hX
  have S := scB_ok hS
  refine ⟨hg, hmk, fd, ps, ?_, hb⟩
  rw [hlv]
  refine F.ok S (fun vs H Q E h => ?_) fun cdv A outer st H vs Q E hr h => ⟨_, pss_self, ?_⟩
  · obtain ⟨g, h, ds, P, R, x, dx, vs', rfl, hl, _, _, _, _, _, r, _⟩ := h
    rw [List.length_cons, r.length, hl, har]
  · obtain ⟨g, h, ds, P, R, x, dx, vs', rfl, hl, hadr, htrk, hx, hrok, ex, r, hsp, hQ, hE⟩ := h
    generalize hXX : cxOf (L2N.CX (moOf X).prog (moOf X).w) (moOf X).prog (moOf X).w (moOf X).K (moOf X).mg (moOf X).base N qual scope _ cdv A outer st H E = Y at *
    have gs : GS ⟨Y, g, h, del H x, lv⟩ scope R := by
      subst hXX
      exact gs_def S rfl rfl hr rfl (fun _ => rfl) hbi rfl rfl rfl rfl hE
    have hK : Y.K = X.K := by rw [← hXX]; rfl
    have hN : Y.N = N := by rw [← hXX]; rfl
    have hm : moOf Y = moOf X := by rw [← hXX]; rfl
    have nx : ¬ adr g x := fun z => hx (hadr x z)
    have en : Ent ⟨Y, g, h, del H x, lv⟩ (fun a => h a ∨ a = x) H := by
      refine ⟨fun a o e _ => ?_, fun _ z => .inl z, hadr, fun a z => ?_, fun a z => ?_, hrok⟩
      · by_cases q : a = x
        · have e : del H x a = some o := e
          rw [q, del_same] at e; cases e
        · have e : del H x a = some o := e
          rw [del_ne q] at e
          exact ⟨e, fun z => z.elim id fun z => absurd z q⟩
      · obtain ⟨o, e⟩ := htrk a z
        exact ⟨o, by rw [show (⟨Y, g, h, del H x, lv⟩ : Gm).H0 = del H x from rfl, del_ne (fun q => hx (by rw [← q]; exact z))]; exact e⟩
      · rcases z with z | z
        · exact htrk a z
        · rw [z]; exact ⟨_, ex⟩
    have st0 := startI_ok (G := ⟨Y, g, h, del H x, lv⟩) (N := N) (cn := c.cn) en hx (by rw [hK]; exact ex) (by rw [hK]; exact r)
    have q := sSs ir gs (by rw [hm]; exact hok) (by rw [hN]; exact hck) (hw x ds P R hl hsp) _ _ H st0
    have s0 : (L2.start N (V.ref x :: vs'))[0]? = some (some (.ref x)) := rfl
    refine Svs.mono q (fun σ' H' ⟨h', ρ', p, S', ks, ws, e0, z⟩ => ?_) (fun v H' ⟨k1, k2, d, fr, r, f, z⟩ => z.elim) (fun _ _ ⟨_, _, _, _, z⟩ => z.elim) fun _ _ ⟨_, _, _, _, z⟩ => z.elim
    obtain ⟨dx', fs, q1, q2, q3, q4, q5, q6, _⟩ := S'.ownI e0
    have sub := S'.ent.sub
    subst q5
    rw [show (⟨Y, g, h, del H x, lv⟩ : Gm).X.K = X.K from hK] at q4 q6
    exact hQ H' dx' fs ws ⟨fun a o n e => (S'.ent.keep a o e n).1, fun _ => S'.ent.ok⟩ q4 (q6.mono (hid_sub (fun a z => z.elim (sub a) fun z => by rw [z]; exact q2) fun _ _ _ e => e)) z
end Pd
end
section
set_option Elab.async false
set_option linter.all false
set_option maxRecDepth 100000
set_option maxHeartbeats 1000000
/-! ## terms over the heap: for the defs that change the store of the draws -/
namespace Pd
open PySem PySem.Spec PyProof.Rows L2
def sp_mix : Spec := fun ds P R => ∃ a b, ds = [.int a, .int b] ∧ ∀ r, 0 ≤ r → P (.int r) false
def F_mix : Fn := ⟨"_law_mix", sp_mix, 1, 2, []⟩
mutual
inductive Ve where
  | var (i : Nat) | int (k : Int) | bl (b : Bool)
  | bin (o : Bop) (a b : Ve)
  | cmp (o : Cop) (a b : Ve)
  | ix (a b : Ve)
  | len (a : Ve) | toInt (a : Ve) | toList (a : Ve)
  | sl (a b : Ve)
  | mix (a b : Ve)
  | lst (es : Ves)
inductive Ves where
  | nil | cons (e : Ve) (es : Ves)
end
mutual
inductive Vs where
  | set (i : Nat) (e : Ve)
  | six (a b e : Ve)
  | ifc (o : Cop) (a b : Ve) (x y : Vss)
  | ift (a : Ve) (x y : Vss)
  | ret (e : Ve)
  | app (i : Nat) (e : Ve)
  | loop (i : Nat) (a : Ve) (b : Vss)
inductive Vss where
  | nil | cons (s : Vs) (ss : Vss)
end
mutual
def vE (X : Cx) : Ve → TE
  | .var i => tVar i
  | .int k => tC (.int k)
  | .bl b => tC (.bl b)
  | .bin o a b => tOp (o.r X.K) (vE X a) (vE X b)
  | .cmp o a b => tOp (o.r X.K) (vE X a) (vE X b)
  | .ix a b => tOp (rIx X.K) (vE X a) (vE X b)
  | .len a => fun σ H Q => vE X a σ H fun x H1 => ∃ y n, [x] = [y] ∧ LenV X.K y H1 n ∧ Q (.int n) H1
  | .toInt a => fun σ H Q => vE X a σ H fun x H1 => (∃ i, [x] = [.int i] ∧ Q (.int i) H1) ∨ ∃ k, [x] = [.bl k] ∧ Q (.int (if k then 1 else 0)) H1
  | .toList a => fun σ H Q => vE X a σ H fun x H1 => ∃ p ys, [x] = [.ref p] ∧ (SqL X.K H1 p ys ∨ SqT X.K H1 p ys) ∧ ∀ l, H1 l = none → Q (.ref l) (upd H1 l (.lst ys))
  | .sl a b => fun σ H Q => vE X a σ H fun x H1 => vE X b σ H1 fun y H2 => ∃ k, y = .int k ∧ rSlL X.K x none (some k) H2 Q
  | .mix a b => fun σ H Q => vE X a σ H fun x H1 => vE X b σ H1 fun y H2 => spOf X.K 2 sp_mix [x, y] H2 Q fun _ _ _ => False
  | .lst es => fun σ H Q => vEs X es σ H fun xs H1 => xs.length ≤ sizeLine ∧ ∀ l, H1 l = none → Q (.ref l) (upd H1 l (.lst xs))
def vEs (X : Cx) : Ves → L2.St → Hp → (List V → Hp → Prop) → Prop
  | .nil, _, H, Q => Q [] H
  | .cons e es, σ, H, Q => vE X e σ H fun x H1 => vEs X es σ H1 fun xs H2 => Q (x :: xs) H2
end
mutual
def vS (X : Cx) : Vs → Ends → L2.St → Hp → Prop
  | .set i e, D, σ, H => vE X e σ H fun v H' => D.nx (σ.set i (some v)) H'
  | .six a b e, D, σ, H => vE X e σ H fun v H1 => vE X a σ H1 fun x H2 => vE X b σ H2 fun y H3 => ∃ p xs k n, x = .ref p ∧ y = .int k ∧ H3 p = some (.lst xs) ∧ ixN xs.length k = some n ∧ D.nx σ (upd H3 p (.lst (xs.set n v)))
  | .ifc o a b x y, D, σ, H => vE X a σ H fun u H1 => vE X b σ H1 fun v H2 => o.r X.K u v H2 fun c H3 => ∃ k, c = .bl k ∧ if k = true then vSs X x D σ H3 else vSs X y D σ H3
  | .ift a x y, D, σ, H => vE X a σ H fun u H1 => ∃ k, TruV X.K u H1 k ∧ if k = true then vSs X x D σ H1 else vSs X y D σ H1
  | .ret e, D, σ, H => vE X e σ H D.rt
  | .app i e, D, σ, H => ∃ p, σ[i]? = some (some (.ref p)) ∧ (∃ xs, H p = some (.lst xs)) ∧ vE X e σ H fun v H1 => ∃ l xs y, V.ref p = .ref l ∧ [v] = [y] ∧ H1 l = some (.lst xs) ∧ xs.length < sizeLine ∧ D.nx σ (upd H1 l (.lst (xs ++ [y])))
  | .loop i a b, D, σ, H => tFor (iSeq X.K (vE X a)) (gName i) (vSs X b) D σ H
def vSs (X : Cx) : Vss → Ends → L2.St → Hp → Prop
  | .nil, D, σ, H => D.nx σ H
  | .cons s ss, D, σ, H => vS X s { D with nx := fun σ' H' => vSs X ss D σ' H' } σ H
end
theorem mix_at {K : PySem.W.Frag} {i j : Int} {H : Hp} {Q : VK} {E : XK} (q : ∀ r H', (∀ c o, H c = some o → H' c = some o) → 0 ≤ r → Q (.int r) H') : spOf K 2 sp_mix [.int i, .int j] H Q E := by
  refine ⟨none, fun _ => False, [.int i, .int j], fun d fr => ∃ r, 0 ≤ r ∧ d = .int r, fun _ => False, rfl, (fun _ z => z), (fun _ z => z.elim), trivial, .cons (.int i) (.cons (.int j) .nil), ⟨i, j, rfl, fun r hr => ⟨r, hr, rfl⟩⟩, fun v H' ⟨x1, d, fr, dr, _, r, hr, ed⟩ => ?_, fun _ _ _ _ _ _ z => z.elim⟩
  subst ed
  cases dr
  exact q r H' (fun c o e => x1.keep c o (fun z => z) e) hr
/-! the check -/
mutual
def kE (N : List Str) (sc : Scope) : Ve → Expr → Bool
  | .var i, e => (match asName e with | some x => atN N i x && (isV sc x && okN x) | none => false)
  | .int k, e => asCon e == some (.int k)
  | .bl b, e => asCon e == some (.bool b)
  | .bin o a b, e => (match asBin e with | some (x, p, y) => decide (p = o.op) && (kE N sc a x && kE N sc b y) | none => false)
  | .cmp o a b, e => (match asCmp e with | some (x, p, y) => decide (p = o.op) && (!setE y && (kE N sc a x && kE N sc b y)) | none => false)
  | .ix a b, e => (match asSub e with | some (x, y) => !sliE y && (kE N sc a x && kE N sc b y) | none => false)
  | .len a, e => (match asCall e with | some (f, [x]) => f == ("len" : Str) && (isG sc "len" && (!star x && kE N sc a x)) | _ => false)
  | .toInt a, e => (match asCall e with | some (f, [x]) => f == ("int" : Str) && (isG sc "int" && (!star x && kE N sc a x)) | _ => false)
  | .toList a, e => (match asCall e with | some (f, [x]) => f == ("list" : Str) && (isG sc "list" && (!star x && kE N sc a x)) | _ => false)
  | .sl a b, e => (match asSub e with | some (x, y) => (match asSli y with | some (none, some u) => kE N sc a x && kE N sc b u | _ => false) | none => false)
  | .mix a b, e => (match asCall e with | some (f, [x, y]) => f == ("_law_mix" : Str) && (isG sc "_law_mix" && (!star x && (!star y && (kE N sc a x && kE N sc b y)))) | _ => false)
  | .lst es, e => (match asLst e with | some xs => kEs N sc es xs | none => false)
def kEs (N : List Str) (sc : Scope) : Ves → List Expr → Bool
  | .nil, [] => true
  | .cons v vs, e :: es => !star e && (kE N sc v e && kEs N sc vs es)
  | _, _ => false
end
mutual
def kS (N : List Str) (sc : Scope) : Vs → Stmt → Bool
  | .set i v, st => (match asSet st with | some (x, _, e, _) => atN N i x && (isS sc x && (!compE e && kE N sc v e)) | none => false)
  | .six a b v, st => (match asStIx st with | some (x, y, e) => !compE e && (!sliE y && (kE N sc a (.Name x e.pos) && (kE N sc b y && kE N sc v e))) | none => false)
  | .ifc o a b x y, st => (match asIff st with | some (c, u, w) => (match asCmp c with | some (l, p, r) => decide (p = o.op) && (!setE r && (kE N sc a l && (kE N sc b r && (kSs N sc x u && kSs N sc y w)))) | none => false) | none => false)
  | .ift a x y, st => (match asIff st with | some (c, u, w) => truE c && (kE N sc a c && (kSs N sc x u && kSs N sc y w)) | none => false)
  | .ret v, st => (match asRet st with | some (some e) => kE N sc v e | _ => false)
  | .app i v, st => (match asApp st with | some (x, e) => atN N i x && (isV sc x && (okN x && (!star e && kE N sc v e))) | none => false)
  | .loop i a b, st => (match asFor st with | some (t, it, bd) => (match asName t with | some x => atN N i x && (isS sc x && (!setE it && (kE N sc a it && kSs N sc b bd))) | none => false) | none => false)
def kSs (N : List Str) (sc : Scope) : Vss → List Stmt → Bool
  | .nil, [] => true
  | .cons v vs, s :: ss => kS N sc v s && kSs N sc vs ss
  | _, _ => false
end
structure VG (X : Cx) : Prop where
  calm : X.calm = true
  nd : X.N.Nodup
  room : Room 1 X.A
  fn : ∀ x, X.fn x = true
  bi : ∀ x ∈ BI, X.mg x = none
  mix : CalleeOk X F_mix
  po : PassesOwn (model X.prog X.w) X.A X.env X.xe
section
variable {X : Cx}
theorem gl_of {x : Str} (h : isG X.env.scope x = true) : Gl X x := isG_ok h
theorem kvar {x : Str} {i : Nat} {p : Pos} (h1 : atN X.N i x = true) (h2 : isV X.env.scope x = true) (h3 : okN x = true) : PE X (.Name x p) (tVar i) :=
  pe_var (atN_ok h1) (isV_ok h2) (okN_ok h3).1 (okN_ok h3).2
theorem pass_none {σ : L2.St} : PassesAt (L2N.CX X.prog X.w) X σ fun _ _ _ => False := fun _ _ _ _ _ _ c => (show False by obtain ⟨_, _, _, _, _, _, _, _, _, _, _, _, z⟩ := c; exact z).elim
mutual
theorem okVe (G : VG X) : ∀ (v : Ve) {e : Expr}, kE X.N X.env.scope v e = true → PE X e (vE X v)
  | .var i, e, h => by
    rw [kE] at h
    split at h
    · rename_i x hx
      obtain ⟨h1, h⟩ := Bool.a2 h
      obtain ⟨h2, h3⟩ := Bool.a2 h
      obtain ⟨p, rfl⟩ := asName_ok hx
      exact kvar h1 h2 h3
    · cases h
  | .int k, e, h => by
    rw [kE] at h
    obtain ⟨j, p, rfl⟩ := asCon_ok (eq_of_beq h)
    exact pe_int
  | .bl k, e, h => by
    rw [kE] at h
    obtain ⟨j, p, rfl⟩ := asCon_ok (eq_of_beq h)
    exact pe_bl
  | .bin o a b, e, h => by
    rw [kE] at h
    split at h
    · rename_i x p y hx
      obtain ⟨h1, h⟩ := Bool.a2 h
      obtain ⟨h2, h3⟩ := Bool.a2 h
      have h1 := of_decide_eq_true h1
      subst h1
      obtain ⟨q, rfl⟩ := asBin_ok hx
      exact pe_op o.ok (okVe G a h2) (okVe G b h3)
    · cases h
  | .cmp o a b, e, h => by
    rw [kE] at h
    split at h
    · rename_i x p y hx
      obtain ⟨h1, h⟩ := Bool.a2 h
      obtain ⟨h4, h⟩ := Bool.a2 h
      obtain ⟨h2, h3⟩ := Bool.a2 h
      have h1 := of_decide_eq_true h1
      subst h1
      obtain ⟨q, rfl⟩ := asCmp_ok hx
      exact pe_cmpR (o.ok G.room.units) (okVe G a h2) (okVe G b h3) (marks_no (Bool.nt h4))
    · cases h
  | .ix a b, e, h => by
    rw [kE] at h
    split at h
    · rename_i x y hx
      obtain ⟨h1, h⟩ := Bool.a2 h
      obtain ⟨h2, h3⟩ := Bool.a2 h
      obtain ⟨q, rfl⟩ := asSub_ok hx
      exact pe_ix ix_seq (okVe G a h2) (okVe G b h3) (plain_ix (Bool.nt h1))
    · cases h
  | .len a, e, h => by
    rw [kE] at h
    split at h
    · rename_i f x hx
      obtain ⟨h1, h⟩ := Bool.a2 h
      obtain ⟨h2, h⟩ := Bool.a2 h
      obtain ⟨h3, h4⟩ := Bool.a2 h
      obtain ⟨p, q, rfl⟩ := asCall_ok hx
      rw [eq_of_beq h1]
      have r := pe_callB (p := p) (pos := q) call_len (gl_of h2) (G.bi _ (by decide)) boot_len (pa_cons (okVe G a h4) pa_nil (star_cons (Bool.nt h3))) (by decide) (by decide) (star_cons (Bool.nt h3)) rfl
      exact ⟨fun pins s σ H Q I w => r.run pins s σ H Q I w⟩
    · cases h
  | .toInt a, e, h => by
    rw [kE] at h
    split at h
    · rename_i f x hx
      obtain ⟨h1, h⟩ := Bool.a2 h
      obtain ⟨h2, h⟩ := Bool.a2 h
      obtain ⟨h3, h4⟩ := Bool.a2 h
      obtain ⟨p, q, rfl⟩ := asCall_ok hx
      rw [eq_of_beq h1]
      have r := pe_callTy (p := p) (pos := q) call_int1 (gl_of h2) (G.bi _ (by decide)) boot_int (pa_cons (okVe G a h4) pa_nil (star_cons (Bool.nt h3))) (by decide) (by decide) (star_cons (Bool.nt h3)) rfl
      exact ⟨fun pins s σ H Q I w => r.run pins s σ H Q I w⟩
    · cases h
  | .toList a, e, h => by
    rw [kE] at h
    split at h
    · rename_i f x hx
      obtain ⟨h1, h⟩ := Bool.a2 h
      obtain ⟨h2, h⟩ := Bool.a2 h
      obtain ⟨h3, h4⟩ := Bool.a2 h
      obtain ⟨p, q, rfl⟩ := asCall_ok hx
      rw [eq_of_beq h1]
      have r := pe_callTy (p := p) (pos := q) call_list_of (gl_of h2) (G.bi _ (by decide)) boot_list (pa_cons (okVe G a h4) pa_nil (star_cons (Bool.nt h3))) (by decide) (by decide) (star_cons (Bool.nt h3)) rfl
      exact ⟨fun pins s σ H Q I w => r.run pins s σ H Q I w⟩
    · cases h
  | .sl a b, e, h => by
    rw [kE] at h
    split at h
    · rename_i x y hx
      split at h
      · rename_i u hy
        obtain ⟨h1, h2⟩ := Bool.a2 h
        obtain ⟨q, rfl⟩ := asSub_ok hx
        obtain ⟨q2, rfl⟩ := asSli_ok hy
        have r := pe_slice (pos := q) sl_list (okVe G a h1) po_none (po_some (okVe G b h2)) (p2 := q2)
        exact ⟨fun pins s σ H Q I w => r.run pins s σ H Q I w⟩
      · cases h
    · cases h
  | .mix a b, e, h => by
    rw [kE] at h
    split at h
    · rename_i f x y hx
      obtain ⟨h1, h⟩ := Bool.a2 h
      obtain ⟨h2, h⟩ := Bool.a2 h
      obtain ⟨h3, h⟩ := Bool.a2 h
      obtain ⟨h4, h⟩ := Bool.a2 h
      obtain ⟨h5, h6⟩ := Bool.a2 h
      obtain ⟨p, q, rfl⟩ := asCall_ok hx
      rw [eq_of_beq h1]
      obtain ⟨fa, fd, ps, hm, hk, F, dvv, dvs, hb, hd, rd⟩ := G.mix
      have nodf : dvs = [] := by
        have z := (rd none fun _ => none).length
        exact List.length_eq_zero_iff.mp z
      subst nodf
      have he : starEach [x, y] X.env = (false, eval x X.env) :: starEach [y] X.env := star_cons (Bool.nt h3)
      have he2 : starEach [y] X.env = (false, eval y X.env) :: starEach [] X.env := star_cons (Bool.nt h4)
      have r := pe_callD (x := "_law_mix") (p := p) (pos := q) (E := fun _ _ _ _ => False) F (G.room) (gl_of h2) hm hk hb hd (fun σ => pass_none) (pa_cons (okVe G a h5) (pa_cons (okVe G b h6) pa_nil he2) he) (by decide) he (by rw [he2]; rfl)
      exact ⟨fun pins s σ H Q I w => r.run pins s σ H Q I w⟩
    · cases h
  | .lst es, e, h => by
    rw [kE] at h
    split at h
    · rename_i xs hx
      obtain ⟨q, rfl⟩ := asLst_ok hx
      have r := pe_lst (pos := q) (okVes G es h)
      exact ⟨fun pins s σ H Q I w => r.run pins s σ H Q I w⟩
    · cases h
theorem okVes (G : VG X) : ∀ (vs : Ves) {es : List Expr}, kEs X.N X.env.scope vs es = true → PA X es (vEs X vs)
  | .nil, [], _ => pa_nil
  | .cons v vs, e :: es, h => by
    rw [kEs] at h
    obtain ⟨h1, h⟩ := Bool.a2 h
    obtain ⟨h2, h3⟩ := Bool.a2 h
    exact pa_cons (okVe G v h2) (okVes G vs h3) (star_cons (Bool.nt h1))
  | .nil, _ :: _, h => by cases h
  | .cons _ _, [], h => by cases h
end
mutual
theorem okVs (G : VG X) : ∀ (v : Vs) {st : Stmt}, kS X.N X.env.scope v st = true → PS X st (vS X v)
  | .set i v, st, h => by
    rw [kS] at h
    split at h
    · rename_i x p e q hx
      obtain ⟨h1, h⟩ := Bool.a2 h
      obtain ⟨h2, h⟩ := Bool.a2 h
      obtain ⟨h3, h4⟩ := Bool.a2 h
      rw [asSet_ok hx]
      have r := ps_set (pos := q) (pos' := p) (i := i) G.nd (atN_ok h1) (isS_ok h2) (okVe G v h4) (swaps_no (Bool.nt h3)) (.inl (G.fn x))
      exact ⟨fun pins s σ H D I w => r.run pins s σ H D I w⟩
    · cases h
  | .six a b v, st, h => by
    rw [kS] at h
    split at h
    · rename_i x y e hx
      obtain ⟨h1, h⟩ := Bool.a2 h
      obtain ⟨h2, h⟩ := Bool.a2 h
      obtain ⟨h3, h⟩ := Bool.a2 h
      obtain ⟨h4, h5⟩ := Bool.a2 h
      obtain ⟨p, p2, p3, rfl⟩ := asStIx_ok hx
      have nm : ∀ q, PE X (.Name x q) (vE X a) := fun q => by
        cases a <;> first | (rw [kE] at h3; simp only [asName] at h3; obtain ⟨z1, z⟩ := Bool.a2 h3; obtain ⟨z2, z3⟩ := Bool.a2 z; exact kvar z1 z2 z3) | (rw [kE] at h3; simp [asCon, asBin, asCmp, asSub, asCall, asLst] at h3)
      have r := ps_asg (pos := p3) (okVe G v h5) (pg_sub (nm p) (okVe G b h4) set_list (asg_sub (G := ⟨X, none, fun _ => False, fun _ => none, 0⟩) (x := .Name x p) (p := p2) (Bool.nt h2))) (swaps1_no (Bool.nt h1)) (stores_no2 rfl) rfl
      exact ⟨fun pins s σ H D I w => r.run pins s σ H D I w⟩
    · cases h
  | .ifc o a b x y, st, h => by
    rw [kS] at h
    split at h
    · rename_i c u w hx
      obtain ⟨p, rfl⟩ := asIff_ok hx
      split at h
      · rename_i l p r hc
        obtain ⟨h1, h⟩ := Bool.a2 h
        obtain ⟨h2, h⟩ := Bool.a2 h
        obtain ⟨h3, h⟩ := Bool.a2 h
        obtain ⟨h4, h⟩ := Bool.a2 h
        obtain ⟨h5, h6⟩ := Bool.a2 h
        have h1 := of_decide_eq_true h1
        subst h1
        obtain ⟨q, rfl⟩ := asCmp_ok hc
        have r := ps_if (pos := p) (pt_cmpR (pos := q) (o.ok G.room.units) (okVe G a h3) (okVe G b h4) (marks_no (Bool.nt h2))) (okVss G x h5) (okVss G y h6)
        exact ⟨fun pins s σ H D I w => r.run pins s σ H D I w⟩
      · cases h
    · cases h
  | .ift a x y, st, h => by
    rw [kS] at h
    split at h
    · rename_i c u w hx
      obtain ⟨p, rfl⟩ := asIff_ok hx
      obtain ⟨h1, h⟩ := Bool.a2 h
      obtain ⟨h2, h⟩ := Bool.a2 h
      obtain ⟨h3, h4⟩ := Bool.a2 h
      have r := ps_if (pos := p) (pt_truth (okVe G a h2) (truth_at h1)) (okVss G x h3) (okVss G y h4)
      exact ⟨fun pins s σ H D I w => r.run pins s σ H D I w⟩
    · cases h
  | .ret v, st, h => by
    rw [kS] at h
    split at h
    · rename_i e hx
      obtain ⟨p, rfl⟩ := asRet_ok hx
      exact ps_ret (okVe G v h)
    · cases h
  | .app i v, st, h => by
    rw [kS] at h
    split at h
    · rename_i x e hx
      obtain ⟨h1, h⟩ := Bool.a2 h
      obtain ⟨h2, h⟩ := Bool.a2 h
      obtain ⟨h3, h⟩ := Bool.a2 h
      obtain ⟨h4, h5⟩ := Bool.a2 h
      obtain ⟨p, ap, pos, p2, rfl, hl⟩ := asApp_ok hx
      have r := ps_expr (pos := p2) (pe_bm (cpos := pos) PySem.F.plainAttrs_list PySem.F.slot_list_append PySem.F.type_list_append mt_append (kvar (p := p) h1 h2 h3) (pa_cons (okVe G v h5) pa_nil (star_cons (Bool.nt h4))) rfl (few1 (Bool.nt h4)) hl (star_cons (Bool.nt h4)) rfl) rfl
      refine ⟨fun pins s σ H D I w => r.run pins s σ H D I ?_⟩
      obtain ⟨q, e1, ⟨xs, e2⟩, w⟩ := w
      exact ⟨_, e1, .inl ⟨rfl, _, .of e2⟩, w⟩
    · cases h
  | .loop i a b, st, h => by
    rw [kS] at h
    split at h
    · rename_i t it bd hx
      obtain ⟨p, rfl⟩ := asFor_ok hx
      split at h
      · rename_i x ht
        obtain ⟨h1, h⟩ := Bool.a2 h
        obtain ⟨h2, h⟩ := Bool.a2 h
        obtain ⟨h3, h⟩ := Bool.a2 h
        obtain ⟨h4, h5⟩ := Bool.a2 h
        obtain ⟨q, rfl⟩ := asName_ok ht
        have r := ps_for (pos := p) G.po G.calm (pi_seq (okVe G a h4)) (pg_name (pos := q) (i := i) G.nd (atN_ok h1) (isS_ok h2) (.inl (G.fn x))) (okVss G b h5) (fold_no (Bool.nt h3))
        exact ⟨fun pins s σ H D I w => r.run pins s σ H D I w⟩
      · cases h
    · cases h
theorem okVss (G : VG X) : ∀ (vs : Vss) {sts : List Stmt}, kSs X.N X.env.scope vs sts = true → PSs X sts (vSs X vs)
  | .nil, [], _ => pss_nil
  | .cons v vs, s :: ss, h => by
    rw [kSs] at h
    obtain ⟨h1, h2⟩ := Bool.a2 h
    exact pss_cons (okVs G v h1) (okVss G vs h2)
  | .nil, _ :: _, h => by cases h
  | .cons _ _, [], h => by cases h
end
end
end Pd
end
section
set_option Elab.async false
set_option linter.all false
set_option maxRecDepth 100000
set_option maxHeartbeats 1000000
/-! ## _law_take: a draw -/
namespace Pd
open PySem PySem.Spec PyProof.Rows L2
def vl : List Vs → Vss
  | [] => .nil
  | s :: r => .cons s (vl r)
def takeN : List Str := ["store", "many", "cells", "pair", "drawn", "used"]
def tk1 : Vs := .six (.var 0) (.int 3) (.bin .add (.ix (.var 0) (.int 3)) (.int 1))
def tk2 : Vs := .ifc .lt (.var 1) (.int 2) (.cons (.ret (.int 0)) .nil) .nil
def tk3 : Vs := .set 2 (.ix (.var 0) (.int 0))
def tk4 : Vs := .ifc .ge (.ix (.var 0) (.int 1)) (.len (.var 2)) (.cons (.ret (.bin .mod (.toInt (.mix (.ix (.var 0) (.int 4)) (.ix (.var 0) (.int 3)))) (.var 1))) .nil) .nil
def tk5 : Vs := .set 3 (.ix (.var 2) (.ix (.var 0) (.int 1)))
def tk6 : Vs := .ift (.ix (.var 3) (.int 1))
  (.cons (.set 4 (.bin .mod (.toInt (.ix (.var 3) (.int 0))) (.var 1))) (.cons (.six (.var 3) (.int 0) (.bin .fdiv (.ix (.var 3) (.int 0)) (.var 1))) (.cons (.set 5 (.cmp .eq (.ix (.var 3) (.int 0)) (.int 0))) .nil)))
  (.cons (.set 4 (.bin .mod (.toInt (.mix (.ix (.var 3) (.int 0)) (.ix (.var 0) (.int 3)))) (.var 1))) (.cons (.six (.var 0) (.int 2) (.bin .add (.ix (.var 0) (.int 2)) (.int 1))) (.cons (.set 5 (.cmp .gt (.ix (.var 0) (.int 2)) (.int 1))) .nil)))
def tk7 : Vs := .ift (.var 5) (.cons (.six (.var 0) (.int 1) (.bin .add (.ix (.var 0) (.int 1)) (.int 1))) (.cons (.six (.var 0) (.int 2) (.int 0)) .nil)) .nil
def ir_take : Vss := .cons tk1 (.cons tk2 (.cons tk3 (.cons tk4 (.cons tk5 (.cons tk6 (.cons tk7 (.cons (.ret (.var 4)) .nil)))))))
def sp_take : Spec := fun ds P R => ∃ many : Int, ds = [.sto, .int many] ∧ many < 2 ^ 62 ∧ ∀ r, 0 ≤ r → (r = 0 ∨ r < many) → P (.int r) false
/-! the region under changes -/
theorem rg_root {r : Rg} {H : Hp} (k : RgOk r H) {pl dr tn sd : Int} (h : 0 ≤ pl) : RgOk r (upd H r.root (.lst [.ref r.cells, .int pl, .int dr, .int tn, .int sd])) := by
  refine ⟨k.ne, k.nr, k.nc, k.nd, ⟨pl, dr, tn, sd, h, upd_same⟩, by rw [upd_ne (Ne.symm k.ne)]; exact k.cl, fun a ha => ?_⟩
  obtain ⟨n, b, e⟩ := k.pr a ha
  have ne : a ≠ r.root := fun z => k.nr (z ▸ ha)
  exact ⟨n, b, by rw [upd_ne ne]; exact e⟩
theorem rg_pair {r : Rg} {H : Hp} (k : RgOk r H) {a : Addr} (ha : a ∈ r.pairs) {n : Int} {b : Bool} : RgOk r (upd H a (.lst [.int n, .bl b])) := by
  obtain ⟨pl, dr, tn, sd, h0, e⟩ := k.at_
  have n1 : r.root ≠ a := fun z => k.nr (z ▸ ha)
  have n2 : r.cells ≠ a := fun z => k.nc (z ▸ ha)
  refine ⟨k.ne, k.nr, k.nc, k.nd, ⟨pl, dr, tn, sd, h0, by rw [upd_ne n1]; exact e⟩, by rw [upd_ne n2]; exact k.cl, fun c hc => ?_⟩
  by_cases z : c = a
  · exact ⟨n, b, by rw [z, upd_same]⟩
  · obtain ⟨n', b', e'⟩ := k.pr c hc
    exact ⟨n', b', by rw [upd_ne z]; exact e'⟩
theorem ext_root {r : Rg} {H : Hp} {pl dr tn sd : Int} (h : 0 ≤ pl) : Ext (some r) H (upd H r.root (.lst [.ref r.cells, .int pl, .int dr, .int tn, .int sd])) :=
  ⟨fun a o n e => by rw [upd_ne (fun z => n (.inl z))]; exact e, fun k => rg_root k h⟩
theorem ext_pair {r : Rg} {H : Hp} {a : Addr} (ha : a ∈ r.pairs) {n : Int} {b : Bool} : Ext (some r) H (upd H a (.lst [.int n, .bl b])) :=
  ⟨fun c o m e => by
    have ne : c ≠ a := fun z => m (.inr (.inr (by rw [z]; exact ha)))
    rw [upd_ne ne]; exact e, fun k => rg_pair k ha⟩
theorem div_ok {i j : Int} (h0 : 0 < j) (h1 : j < 2 ^ 62) : CDivR i j := by
  refine ⟨by omega, PyProof.noPylong_of_log2 ?_⟩
  have hz : j.natAbs ≠ 0 := by omega
  have : j.natAbs < 2 ^ 62 := by omega
  exact Nat.lt_of_lt_of_le ((Nat.log2_lt hz).mpr this) (by decide)
theorem fmod_rng {i j : Int} (h : 0 < j) : 0 ≤ i.fmod j ∧ i.fmod j < j := ⟨Int.fmod_nonneg_of_pos i h, Int.fmod_lt_of_pos i h⟩
theorem eqD_int {K : PySem.W.Frag} {H : Hp} {i j : Int} {Q : VK} (q : ∀ b, Q (.bl b) H) : rEqD K (.int i) (.int j) H Q := ⟨.int i, .int j, .int i, .int j, rfl, rfl, q _⟩
theorem ite_f' {P Q : Prop} (h : Q) : if false = true then P else Q := h
theorem ite_t' {P Q : Prop} (h : P) : if true = true then P else Q := h
theorem ixN_nat {n i : Nat} (h : i < n) : ixN n (i : Int) = some i := by
  unfold ixN
  rw [if_pos (Int.natCast_nonneg i)]
  simp [h]
theorem take_body {X : Cx} {g : Rg} {H : Hp} {many : Int} {Q : VK} (hm : many < 2 ^ 62) (k : RgOk g H) (fin : ∀ H' i, Ext (some g) H H' → 0 ≤ i → (i = 0 ∨ i < many) → Q (.int i) H') :
    vSs X ir_take { nx := fun _ H' => Q .non H', rt := Q } (start takeN [.ref g.root, .int many]) H := by
  obtain ⟨pl, dr, tn, sd, h0, e⟩ := k.at_
  simp only [ir_take, tk1, vSs, vS, vE]
  refine ⟨_, rfl, .inl ⟨_, _, _, _, rfl, rfl, .of e, rfl, .inl ⟨tn, 1, rfl, rfl, _, rfl, _, _, _, 3, rfl, rfl, e, rfl, ?_⟩⟩⟩
  have x1 : Ext (some g) H (upd H g.root (.lst [.ref g.cells, .int pl, .int dr, .int (tn + 1), .int sd])) := ext_root h0
  have k1 := x1.ok k
  have e1 : upd H g.root (.lst [.ref g.cells, .int pl, .int dr, .int (tn + 1), .int sd]) g.root = some (.lst [.ref g.cells, .int pl, .int dr, .int (tn + 1), .int sd]) := upd_same
  show vS X tk2 _ _ (upd H g.root (.lst [.ref g.cells, .int pl, .int dr, .int (tn + 1), .int sd]))
  generalize upd H g.root (.lst [.ref g.cells, .int pl, .int dr, .int (tn + 1), .int sd]) = H1 at x1 k1 e1 ⊢
  generalize tn + 1 = tm at e1
  simp only [tk2, vSs, vS, vE]
  refine ⟨_, rfl, .inl ⟨many, 2, rfl, rfl, decide (many < 2), rfl, ?_⟩⟩
  by_cases c1 : many < 2
  · rw [decide_eq_true c1]
    refine ite_t' ?_
    exact fin _ 0 x1 (Int.le_refl _) (.inl rfl)
  rw [decide_eq_false c1]
  refine ite_f' ?_
  have mp : 0 < many := by omega
  simp only [tk3, tk4, vSs, vS, vE]
  refine ⟨_, rfl, .inl ⟨_, _, _, _, rfl, rfl, .of e1, rfl, ?_⟩⟩
  refine ⟨_, rfl, .inl ⟨_, _, _, _, rfl, rfl, .of e1, rfl, ?_⟩⟩
  refine ⟨_, rfl, .ref g.cells, _, rfl, .inl ⟨_, .of k1.cl, rfl⟩, pl, _, rfl, rfl, _, rfl, ?_⟩
  rw [List.length_map]
  by_cases c2 : ((g.pairs.length : Nat) : Int) ≤ pl
  · rw [decide_eq_true c2]
    refine ite_t' ?_
    refine ⟨_, rfl, .inl ⟨_, _, _, _, rfl, rfl, .of e1, rfl, ?_⟩⟩
    refine ⟨_, rfl, .inl ⟨_, _, _, _, rfl, rfl, .of e1, rfl, ?_⟩⟩
    refine mix_at fun r H3 k3 hr => ?_
    refine .inl ⟨r, rfl, _, rfl, r, many, rfl, rfl, (show many ≠ 0 by omega), ?_⟩
    have f := fmod_rng (i := r) mp
    exact fin H3 _ (x1.trans (.same k3)) f.1 (.inr f.2)
  rw [decide_eq_false c2]
  refine ite_f' ?_
  simp only [tk5, vSs, vS, vE]
  obtain ⟨n, rfl⟩ : ∃ n : Nat, pl = n := ⟨pl.toNat, by omega⟩
  have hn : n < g.pairs.length := by omega
  have mem := List.getElem_mem hn
  refine ⟨_, rfl, _, rfl, .inl ⟨_, _, _, _, rfl, rfl, .of e1, rfl, .inl ⟨_, _, _, V.ref g.pairs[n], rfl, rfl, .of k1.cl, ?_, ?_⟩⟩⟩
  · have z : L2.atI (g.pairs.map V.ref) ((n : Nat) : Int) = (g.pairs.map V.ref)[n]? := by
      unfold L2.atI
      rw [ixN_nat (by rw [List.length_map]; exact hn)]; rfl
    exact z.trans (by rw [List.getElem?_map, List.getElem?_eq_getElem hn]; rfl)
  obtain ⟨a, ea⟩ : ∃ a, a = g.pairs[n] := ⟨_, rfl⟩
  rw [← ea] at mem ⊢
  obtain ⟨nn, bb, e2⟩ := k1.pr a mem
  simp only [tk6, vSs, vS, vE]
  refine ⟨_, rfl, .inl ⟨_, _, _, _, rfl, rfl, .of e2, rfl, bb, rfl, ?_⟩⟩
  -- what follows
  have rest : ∀ (H5 : Hp) (i : Int) (us : Bool), Ext (some g) H H5 → RgOk g H5 → 0 ≤ i → i < many →
      vSs X (.cons tk7 (.cons (.ret (.var 4)) .nil)) { nx := fun _ H' => Q .non H', rt := Q } [some (.ref g.root), some (.int many), some (.ref g.cells), some (.ref a), some (.int i), some (.bl us)] H5 := by
    intro H5 i us x5 k5 hi hi2
    obtain ⟨pl, dr, tn, sd, h0, e⟩ := k5.at_
    simp only [tk7, vSs, vS, vE]
    refine ⟨_, rfl, us, rfl, ?_⟩
    cases us with
    | false => exact ite_f' ⟨_, rfl, fin H5 i x5 hi (.inr hi2)⟩
    | true =>
      refine ite_t' ?_
      refine ⟨_, rfl, .inl ⟨_, _, _, _, rfl, rfl, .of e, rfl, .inl ⟨pl, 1, rfl, rfl, _, rfl, _, _, _, 1, rfl, rfl, e, rfl, ?_⟩⟩⟩
      refine ⟨_, rfl, _, _, _, 2, rfl, rfl, upd_same, rfl, _, rfl, ?_⟩
      have y1 : Ext (some g) H5 (upd H5 g.root (.lst [.ref g.cells, .int (pl + 1), .int dr, .int tn, .int sd])) := ext_root (by omega)
      have y2 : Ext (some g) (upd H5 g.root (.lst [.ref g.cells, .int (pl + 1), .int dr, .int tn, .int sd])) (upd (upd H5 g.root (.lst [.ref g.cells, .int (pl + 1), .int dr, .int tn, .int sd])) g.root (.lst [.ref g.cells, .int (pl + 1), .int 0, .int tn, .int sd])) := ext_root (by omega)
      exact fin _ i ((x5.trans y1).trans y2) hi (.inr hi2)
  cases bb with
  | true =>
    refine ite_t' ?_
    have f := fmod_rng (i := nn) mp
    refine ⟨_, rfl, .inl ⟨_, _, _, _, rfl, rfl, .of e2, rfl, .inl ⟨nn, rfl, _, rfl, nn, many, rfl, rfl, (show many ≠ 0 by omega), ?_⟩⟩⟩
    refine ⟨_, rfl, .inl ⟨_, _, _, _, rfl, rfl, .of e2, rfl, _, rfl, nn, many, rfl, rfl, div_ok mp hm, _, rfl, _, _, _, 0, rfl, rfl, e2, rfl, ?_⟩⟩
    refine ⟨_, rfl, .inl ⟨_, _, _, _, rfl, rfl, .of upd_same, rfl, ?_⟩⟩
    dsimp only [tC]
    unfold Cop.r
    refine eqD_int fun us => ?_
    have y1 : Ext (some g) H1 (upd H1 a (.lst [.int (nn.fdiv many), .bl true])) := ext_pair mem
    exact rest _ _ us (x1.trans y1) (y1.ok k1) f.1 f.2
  | false =>
    refine ite_f' ?_
    refine ⟨_, rfl, .inl ⟨_, _, _, _, rfl, rfl, .of e2, rfl, ?_⟩⟩
    refine ⟨_, rfl, .inl ⟨_, _, _, _, rfl, rfl, .of e1, rfl, ?_⟩⟩
    refine mix_at fun r H3 k3 hr => ?_
    refine .inl ⟨r, rfl, _, rfl, r, many, rfl, rfl, (show many ≠ 0 by omega), ?_⟩
    have f := fmod_rng (i := r) mp
    have e3 := k3 _ _ e1
    have y3 : Ext (some g) H1 H3 := .same k3
    refine ⟨_, rfl, .inl ⟨_, _, _, _, rfl, rfl, .of e3, rfl, .inl ⟨dr, 1, rfl, rfl, _, rfl, _, _, _, 2, rfl, rfl, e3, rfl, ?_⟩⟩⟩
    refine ⟨_, rfl, .inl ⟨_, _, _, _, rfl, rfl, .of upd_same, rfl, dr + 1, 1, rfl, rfl, ?_⟩⟩
    have y4 : Ext (some g) H3 (upd H3 g.root (.lst [.ref g.cells, .int (n : Nat), .int (dr + 1), .int tm, .int sd])) := ext_root h0
    exact rest _ _ _ ((x1.trans y3).trans y4) (y4.ok (y3.ok k1)) f.1 f.2
theorem vg_of {m : Mo} {X : Cx} {N ps : List Str} {cdv : Value} {qual : Str} {f : Addr} {scope : Scope} {A : Around} {outer : List Env} {s : Shared} {H : Hp} {E : XK} (hX : X = cxOf (L2N.CX m.prog m.w) m.prog m.w m.K m.mg m.base N qual scope f cdv A outer s H E) (S : FnScope N ps scope) (hr : Room 1 X.A) (hbi : ∀ x ∈ BI, m.mg x = none) (mix : m.callee F_mix) : VG X := by
  subst hX
  exact ⟨rfl, S.nd, hr, fun _ => rfl, hbi, mix _ rfl, passes_of rfl⟩
theorem take_ok {m : Mo} {x qual : Str} {params : Arguments} {body : List Stmt} {scope : Scope} {dvs : List V} {kws : List (Str × V)} {f : Addr} {fd : FuncData} (F : FunD m.K x qual params body scope dvs kws f fd) (hbi : ∀ x ∈ BI, m.mg x = none) (mix : m.callee F_mix) (hS : scB takeN ["store", "many"] scope = true) (hB : kSs takeN scope ir_take body = true) :
    FnOk m.prog m.w m.K m.mg m.base (L2N.CX m.prog m.w) 2 f fd ["store", "many"] (spOf m.K 2 sp_take) := by
  have S := scB_ok hS
  refine F.ok S (fun vs H Q E h => spOf_len h) fun cdv A outer s H vs Q E hr h => ⟨_, okVss (X := cxOf (L2N.CX m.prog m.w) m.prog m.w m.K m.mg m.base takeN qual scope f cdv A outer s H E) (vg_of (m := m) rfl S hr hbi mix) ir_take hB, ?_⟩
  obtain ⟨g, h, ds, P, R, hl, hadr, htrk, hrok, r, ⟨many, rfl, hm, hP⟩, hQ, hE⟩ := h
  obtain ⟨v1, v2, rfl, r1, r2⟩ : ∃ v1 v2, vs = [v1, v2] ∧ Dr m.K g (hid h H) v1 .sto ∧ Dr m.K g (hid h H) v2 (.int many) := by
    cases r with
    | cons a r =>
      cases r with
      | cons b r => cases r; exact ⟨_, _, rfl, a, b⟩
  cases r1 with
  | sto hg =>
    cases r2
    subst hg
    exact take_body hm hrok fun H' i x h0 h1 => hQ _ _ ⟨x, .int i, false, .int i, (fun z => nomatch z), hP i h0 h1⟩
end Pd
end
section
set_option Elab.async false
set_option linter.all false
set_option maxRecDepth 100000
set_option maxHeartbeats 1000000
/-! ## _law_store: the draws' store is made -/
namespace Pd
open PySem PySem.Spec PyProof.Rows L2
def storeN : List Str := ["script", "cells", "seed", "cell", "left"]
def p64 : Ve := .bin .pow (.int 10) (.int 64)
def st0 : Vs := .set 2 (.bin .mod (.toInt (.mix (.bin .add (.var 2) (.bin .mod (.toInt (.var 3)) (.int 2147483647))) (.len (.var 1)))) (.int 2147483647))
def stA : Vs := .app 1 (.lst (.cons (.bin .mod (.toInt (.var 3)) (.int 2147483647)) (.cons (.bl false) .nil)))
def stB : Vs := .set 4 (.bin .mod (.toInt (.var 3)) (.bin .mul (.bin .mul (.bin .mul p64 p64) p64) p64))
def stC : Vs := .ifc .gt (.var 4) (.int 0) (.cons (.app 1 (.lst (.cons (.var 4) (.cons (.bl true) .nil)))) .nil) .nil
def st1 : Vs := .ifc .lt (.var 3) (.bin .pow (.int 10) (.int 18)) (.cons stA .nil) (.cons stB (.cons stC .nil))
def ir_store : Vss := .cons (.set 1 (.lst .nil)) (.cons (.set 2 (.int 104729)) (.cons (.loop 3 (.sl (.toList (.var 0)) (.int 63)) (.cons st0 (.cons st1 .nil))) (.cons (.ret (.lst (.cons (.var 1) (.cons (.int 0) (.cons (.int 0) (.cons (.int 0) (.cons (.var 2) .nil))))))) .nil)))
/-- a region that is new since H -/
structure NewRg (r : Rg) (H H' : Hp) : Prop where
  ok : RgOk r H'
  keep : ∀ a o, H a = some o → H' a = some o
  new : ∀ a, adr (some r) a → H a = none
def spStore (K : PySem.W.Frag) : Sp := fun vs H Q _ => ∃ (l : Addr) (ns : List Int), vs = [.ref l] ∧ SqL K H l (ns.map V.int) ∧ ns.length ≤ 1000 ∧ ∀ r H', NewRg r H H' → Q (.ref r.root) H'
/-- the loop's state -/
structure StI (H H' : Hp) (c q : Addr) (xs : List V) (j : Nat) : Prop where
  keep : ∀ a o, H a = some o → H' a = some o
  cells : ∃ ps : List Addr, H' c = some (.lst (ps.map V.ref)) ∧ ps.length ≤ j ∧ ps.Nodup ∧ c ∉ ps ∧ q ∉ ps ∧ (∀ a ∈ ps, H a = none) ∧ (∀ a ∈ ps, ∃ (n : Int) (b : Bool), H' a = some (.lst [.int n, .bl b]))
  walked : H' q = some (.lst xs)
theorem StI.later {H H1 H2 : Hp} {c q : Addr} {xs : List V} {j : Nat} (s : StI H H1 c q xs j) (k : ∀ a o, H1 a = some o → H2 a = some o) : StI H H2 c q xs j := by
  obtain ⟨ps, e1, e2, e3, e4, e5, e6, e7⟩ := s.cells
  exact ⟨fun a o e => k _ _ (s.keep a o e), ⟨ps, k _ _ e1, e2, e3, e4, e5, e6, fun a ha => by
    obtain ⟨n, b, z⟩ := e7 a ha
    exact ⟨n, b, k _ _ z⟩⟩, k _ _ s.walked⟩
theorem StI.more {H H1 : Hp} {c q : Addr} {xs : List V} {j : Nat} (s : StI H H1 c q xs j) : StI H H1 c q xs (j + 1) := by
  obtain ⟨ps, e1, e2, e⟩ := s.cells
  exact ⟨s.keep, ⟨ps, e1, Nat.le_succ_of_le e2, e⟩, s.walked⟩
/-- a pair more -/
theorem StI.add {H H1 : Hp} {c q t : Addr} {xs : List V} {j : Nat} {n : Int} {b : Bool} (s : StI H H1 c q xs j) (hc : H c = none) (hqc : q ≠ c) (nt : H1 t = none) {ps : List V} (ep : H1 c = some (.lst ps)) :
    StI H (upd (upd H1 t (.lst [.int n, .bl b])) c (.lst (ps ++ [.ref t]))) c q xs (j + 1) := by
  obtain ⟨qs, e1, e2, e3, e4, e5, e6, e7⟩ := s.cells
  rw [e1] at ep
  have ep : qs.map V.ref = ps := by simpa using ep
  subst ep
  have tc : c ≠ t := fun z => by rw [← z, e1] at nt; cases nt
  have tq : q ≠ t := fun z => by rw [← z, s.walked] at nt; cases nt
  have tH : H t = none := by
    cases z : H t with
    | none => rfl
    | some o => have := s.keep _ _ z; rw [nt] at this; cases this
  have tn : t ∉ qs := fun z => by
    obtain ⟨n, b, e⟩ := e7 t z
    rw [nt] at e; cases e
  refine ⟨fun a o e => ?_, ⟨qs ++ [t], by rw [upd_same, List.map_append]; rfl, by rw [List.length_append]; simp; exact e2, ?_, ?_, ?_, fun a ha => ?_, fun a ha => ?_⟩, ?_⟩
  · rw [upd_ne (fun z => by rw [z, hc] at e; cases e), upd_ne (fun z => by rw [z, tH] at e; cases e)]
    exact s.keep _ _ e
  · rw [List.nodup_append]
    exact ⟨e3, by simp, fun a ha b hb z => tn (by rw [List.mem_singleton.mp hb] at z; rw [← z]; exact ha)⟩
  · intro z
    rcases List.mem_append.mp z with z | z
    · exact e4 z
    · exact tc (List.mem_singleton.mp z)
  · intro z
    rcases List.mem_append.mp z with z | z
    · exact e5 z
    · exact tq (List.mem_singleton.mp z)
  · rcases List.mem_append.mp ha with z | z
    · exact e6 a z
    · rw [List.mem_singleton.mp z]; exact tH
  · rcases List.mem_append.mp ha with z | z
    · obtain ⟨n, b, e⟩ := e7 a z
      have ac : a ≠ c := fun y => e4 (by rw [← y]; exact z)
      have at_ : a ≠ t := fun y => tn (by rw [← y]; exact z)
      exact ⟨n, b, by rw [upd_ne ac, upd_ne at_]; exact e⟩
    · rw [List.mem_singleton.mp z]
      exact ⟨n, b, by rw [upd_ne (Ne.symm tc), upd_same]⟩
  · rw [upd_ne hqc, upd_ne tq]
    exact s.walked
theorem slice_ints {ns : List Int} {k : Int} : ∃ ms : List Int, cutV (ns.map V.int) none (some k) = ms.map V.int ∧ ms.length ≤ ns.length := by
  unfold cutV
  rw [← List.map_drop, ← List.map_take]
  refine ⟨_, rfl, ?_⟩
  rw [List.length_take, List.length_drop]
  omega
theorem pow_fine : CPowR 10 64 ∧ CPowR 10 18 := by
  refine ⟨⟨by decide, ?_⟩, by decide, ?_⟩ <;> decide
theorem mul_fine : IntMulOk (10 ^ (64 : Int).toNat) (10 ^ (64 : Int).toNat) ∧ IntMulOk (10 ^ (64 : Int).toNat * 10 ^ (64 : Int).toNat) (10 ^ (64 : Int).toNat) ∧ IntMulOk (10 ^ (64 : Int).toNat * 10 ^ (64 : Int).toNat * 10 ^ (64 : Int).toNat) (10 ^ (64 : Int).toNat) := by
  refine ⟨?_, ?_, ?_⟩ <;> (refine IntMulOk.of_bits ?_ ?_ <;> decide +kernel)
theorem store_body {X : Cx} {H : Hp} {l : Addr} {ns : List Int} {Q : VK} (hs : SqL X.K H l (ns.map V.int)) (hz : ns.length ≤ 1000) (fin : ∀ r H', NewRg r H H' → Q (.ref r.root) H') :
    vSs X ir_store { nx := fun _ H' => Q .non H', rt := Q } (start storeN [.ref l]) H := by
  simp only [ir_store, vSs, vS, vE, vEs]
  refine ⟨Nat.zero_le _, fun c nc => ?_⟩
  have kc : ∀ a o, H a = some o → upd H c (.lst []) a = some o := fun a o e => by rw [upd_ne (fun z => by rw [z, nc] at e; cases e)]; exact e
  refine ⟨_, rfl, l, _, rfl, .inl (sqL_mono kc hs), fun p np => ⟨63, rfl, p, _, rfl, .of upd_same, fun q nq => ⟨q, rfl, .inl ⟨⟨_, .of upd_same⟩, ?_⟩⟩⟩⟩
  obtain ⟨ms, em, hl⟩ := slice_ints (ns := ns) (k := 63)
  rw [em]
  have pc : c ≠ p := fun z => by rw [← z, upd_same] at np; cases np
  have qc : q ≠ c := fun z => by rw [z, upd_ne pc, upd_same] at nq; cases nq
  have nqH : H q = none := by
    cases z : H q with
    | none => rfl
    | some o =>
      have z1 := kc _ _ z
      have qp : q ≠ p := fun y => by rw [y, np] at z1; cases z1
      rw [upd_ne qp, z1] at nq; cases nq
  have npH : H p = none := by
    cases z : H p with
    | none => rfl
    | some o => rw [kc _ _ z] at np; cases np
  have qp : q ≠ p := fun y => by rw [y, upd_same] at nq; cases nq
  refine ⟨fun j m σ H' => m = ms.length - j ∧ j ≤ ms.length ∧ (∃ sd u v, σ = [some (.ref l), some (.ref c), some (.int sd), u, v]) ∧ StI H H' c q (ms.map V.int) j, ⟨ms.length, rfl, Nat.zero_le _, ⟨_, _, _, rfl⟩, ?_⟩, ?_⟩
  · refine ⟨fun a o e => ?_, ⟨[], ?_, Nat.le_refl _, List.nodup_nil, (fun z => by cases z), (fun z => by cases z), (fun a z => by cases z), fun a z => by cases z⟩, upd_same⟩
    · rw [upd_ne (fun z => by rw [z, nqH] at e; cases e), upd_ne (fun z => by rw [z, npH] at e; cases e)]
      exact kc _ _ e
    · rw [upd_ne (Ne.symm qc), upd_ne pc, upd_same]; rfl
  rintro j m σ H' ⟨em2, hj, ⟨sd, u, v, rfl⟩, S⟩
  by_cases hlt : j < ms.length
  · refine .inr ⟨⟨_, .int ms[j], .of S.walked, by rw [List.getElem?_map, List.getElem?_eq_getElem hlt]; rfl⟩, fun σ' H'' => (∃ sd u v, σ' = [some (.ref l), some (.ref c), some (.int sd), u, v]) ∧ StI H H'' c q (ms.map V.int) (j + 1), fun σ' H'' ⟨z1, z2⟩ => ⟨ms.length - (j + 1), by omega, rfl, hlt, z1, z2⟩, fun x H2 ⟨eh, ex⟩ => ?_⟩
    subst eh
    have ex2 := ex _ (.of S.walked)
    rw [List.getElem?_map, List.getElem?_eq_getElem hlt] at ex2
    cases ex2
    generalize ms[j] = i
    obtain ⟨ps, eps, hps, _⟩ := id S.cells
    simp only [st0, vSs, vS, vE]
    refine ⟨_, rfl, _, rfl, .inl ⟨i, rfl, i, 2147483647, rfl, rfl, (show (2147483647 : Int) ≠ 0 by decide), .inl ⟨sd, _, rfl, rfl, _, rfl, _, _, rfl, .inl ⟨_, .of eps, rfl⟩, ?_⟩⟩⟩
    refine mix_at fun r H3 k3 hr => .inl ⟨r, rfl, r, 2147483647, rfl, rfl, (show (2147483647 : Int) ≠ 0 by decide), ?_⟩
    have S3 := S.later k3
    obtain ⟨ps3, eps3, hps3, _⟩ := id S3.cells
    have few : (ps3.map V.ref).length < sizeLine := by
      rw [List.length_map]
      exact Nat.lt_of_le_of_lt (Nat.le_trans hps3 (Nat.le_trans hj (Nat.le_trans hl hz))) (by decide)
    simp only [st1, vSs, vS, vE]
    have stay : ∀ a o, H3 a = some o → H3 a = some o := fun _ _ e => e
    refine ⟨_, rfl, 10, 18, rfl, rfl, pow_fine.2, .inl ⟨i, _, rfl, rfl, decide (i < 10 ^ (18 : Int).toNat), rfl, ?_⟩⟩
    -- a new pair
    have put : ∀ {n : Int} {b : Bool} {t : Addr} {σ' : L2.St}, H3 t = none → (∃ sd u v, σ' = [some (.ref l), some (.ref c), some (.int sd), u, v]) → (∃ sd u v, σ' = [some (.ref l), some (.ref c), some (.int sd), u, v]) ∧ StI H (upd (upd H3 t (.lst [.int n, .bl b])) c (.lst (ps3.map V.ref ++ [.ref t]))) c q (ms.map V.int) (j + 1) :=
      fun nt hσ => ⟨hσ, S3.add nc qc nt eps3⟩
    have atc : ∀ {n : Int} {b : Bool} {t : Addr}, H3 t = none → upd H3 t (.lst [.int n, .bl b]) c = some (.lst (ps3.map V.ref)) := fun {n b t} nt => by
      rw [upd_ne (fun z => by rw [← z, eps3] at nt; cases nt)]; exact eps3
    by_cases c1 : i < 10 ^ (18 : Int).toNat
    · rw [decide_eq_true c1]
      refine ite_t' ?_
      simp only [stA, vSs, vS, vE, vEs]
      refine ⟨c, rfl, ⟨_, eps3⟩, _, rfl, .inl ⟨i, rfl, i, 2147483647, rfl, rfl, (show (2147483647 : Int) ≠ 0 by decide), show 2 ≤ sizeLine by decide, fun t nt => ⟨c, _, _, rfl, rfl, atc nt, few, ?_⟩⟩⟩
      exact put nt ⟨_, _, _, rfl⟩
    · rw [decide_eq_false c1]
      refine ite_f' ?_
      simp only [stB, p64, vSs, vS, vE, vEs]
      refine ⟨_, rfl, .inl ⟨i, rfl, 10, 64, rfl, rfl, pow_fine.1, 10, 64, rfl, rfl, pow_fine.1, .inl ⟨_, _, rfl, rfl, mul_fine.1, 10, 64, rfl, rfl, pow_fine.1, .inl ⟨_, _, rfl, rfl, mul_fine.2.1, 10, 64, rfl, rfl, pow_fine.1, .inl ⟨_, _, rfl, rfl, mul_fine.2.2, i, _, rfl, rfl, ?_, ?_⟩⟩⟩⟩⟩
      · show ((10 : Int) ^ (64 : Int).toNat * 10 ^ (64 : Int).toNat * 10 ^ (64 : Int).toNat * 10 ^ (64 : Int).toNat) ≠ 0
        decide +kernel
      simp only [stC, vSs, vS, vE, vEs]
      refine ⟨_, rfl, _, 0, rfl, rfl, _, rfl, ?_⟩
      split
      · refine ⟨c, rfl, ⟨_, eps3⟩, _, rfl, show 2 ≤ sizeLine by decide, fun t nt => ⟨c, _, _, rfl, rfl, atc nt, few, ?_⟩⟩
        exact put nt ⟨_, _, _, rfl⟩
      · exact ⟨⟨_, _, _, rfl⟩, S3.more⟩
  · have e : j = ms.length := by omega
    refine .inl ⟨⟨_, .of S.walked, by rw [List.length_map, e]; exact Nat.le_refl _⟩, ?_⟩
    refine ⟨_, rfl, _, rfl, show 5 ≤ sizeLine by decide, fun t nt => ?_⟩
    obtain ⟨ps, e1, e2, e3, e4, e5, e6, e7⟩ := S.cells
    have tc : c ≠ t := fun z => by rw [← z, e1] at nt; cases nt
    have tn : t ∉ ps := fun z => by
      obtain ⟨n, b, y⟩ := e7 t z
      rw [nt] at y; cases y
    have ntH : H t = none := by
      cases z : H t with
      | none => rfl
      | some o => have := S.keep _ _ z; rw [nt] at this; cases this
    refine fin ⟨t, c, ps⟩ _ ⟨⟨Ne.symm tc, tn, e4, e3, ⟨0, 0, 0, sd, Int.le_refl _, upd_same⟩, by rw [upd_ne tc]; exact e1, fun a ha => ?_⟩, fun a o y => ?_, fun a ha => ?_⟩
    · obtain ⟨n, b, y⟩ := e7 a ha
      have ne : a ≠ t := fun z => tn (by rw [← z]; exact ha)
      exact ⟨n, b, by rw [upd_ne ne]; exact y⟩
    · rw [upd_ne (fun z => by rw [z, ntH] at y; cases y)]
      exact S.keep _ _ y
    · rcases ha with z | z | z
      · rw [z]; exact ntH
      · rw [z]; exact nc
      · exact e6 a z
theorem stor_ok {m : Mo} {x qual : Str} {params : Arguments} {body : List Stmt} {scope : Scope} {dvs : List V} {kws : List (Str × V)} {f : Addr} {fd : FuncData} (F : FunD m.K x qual params body scope dvs kws f fd) (hbi : ∀ x ∈ BI, m.mg x = none) (mix : m.callee F_mix) (hS : scB storeN ["script"] scope = true) (hB : kSs storeN scope ir_store body = true) :
    FnOk m.prog m.w m.K m.mg m.base (L2N.CX m.prog m.w) 2 f fd ["script"] (spStore m.K) := by
  have S := scB_ok hS
  refine F.ok S (fun vs H Q E h => ?_) fun cdv A outer s H vs Q E hr h => ⟨_, okVss (X := cxOf (L2N.CX m.prog m.w) m.prog m.w m.K m.mg m.base storeN qual scope f cdv A outer s H E) (vg_of (m := m) rfl S hr hbi mix) ir_store hB, ?_⟩
  · obtain ⟨l, ns, rfl, _⟩ := h
    rfl
  · obtain ⟨l, ns, rfl, hs, hz, fin⟩ := h
    exact store_body hs hz fin
end Pd
end
section
set_option Elab.async false
set_option linter.all false
set_option maxRecDepth 100000
set_option maxHeartbeats 1000000
/-! ## while an exception is handled: a comprehension over a range, isinstance of the exception, a def that is handed the exception -/
namespace Pd
open PySem PySem.Spec PyProof.Rows L2
/-! ### a block that knows the exception -/
abbrev blkZ (X : Cx) (s : Shared) (H : Hp) (scope : Scope) (ce : Env) (fp : List Addr) (p : Addr × Obj) : Cx := { X.blk s H scope ce fp with pn := [p] }
section
variable {X : Cx} {s s' : Shared} {H H' : Hp} {scope : Scope} {ce : Env} {fp : List Addr} {p : Addr × Obj} {pins : List (Addr × Obj)} {σ : L2.St}
theorem okZ (k : (X.blk s H scope ce fp).Ok) : (blkZ X s H scope ce fp p).Ok :=
  ⟨k.mod, k.kind, k.glob, k.blt, k.above, k.inj, k.has, k.cab, k.hd, k.frames, k.stk, k.exf, k.bs, k.bsz, k.noex, k.exfs, k.funs, k.frf⟩
theorem invZ (I : Inv (X.blk s H scope ce fp) [] σ H' s') (z : s'.heap.get? p.1 = some p.2 ∧ H' p.1 = none ∧ p.1 ≠ ce.locals ∧ p.1 ∉ frs X.stack ∧ ∀ v, p.2.data ≠ .cell v) : Inv (blkZ X s H scope ce fp p) [] σ H' s' :=
  ⟨okZ I.ok, I.os, I.bare, I.base, I.loc, I.cell, I.free, I.freeC, fun q hq => by
    have e : q = p := by simpa using (show q ∈ [p] ++ ([] : List (Addr × Obj)) from hq)
    rw [e]; exact z, I.hok, I.len⟩
end
section
variable {X : Cx}
/-- [elt for tg in range(..) if ..] where the exception p is handled -/
theorem pe_lcZ {elt tg iter : Expr} {ifs : List Expr} {scope : Scope} {own : List (Str × Nat)} {pos : Pos} {wi : TI} {g : TG} {tt : TT} {te : TE} {p : Addr × Obj} (hp : p ∈ X.pn) (hot : L2H.Hot1 X.A p) (nd : X.N.Nodup) (hi : L2H.PIH X tg iter wi)
    (bk : BlkOk X.N X.env.scope scope own)
    (hg : ∀ (s : Shared) (H : Hp) (C : Addr) (cl : List (Str × Addr)) (fp : List Addr), PG (blkZ X s H scope (compEnvC scope cl C X.env) fp p) tg g) (ht : ∀ (s : Shared) (H : Hp) (C : Addr) (cl : List (Str × Addr)) (fp : List Addr), PTs (blkZ X s H scope (compEnvC scope cl C X.env) fp p) ifs tt)
    (he : ∀ (s : Shared) (H : Hp) (C : Addr) (cl : List (Str × Addr)) (fp : List Addr), PE (blkZ X s H scope (compEnvC scope cl C X.env) fp p) elt te) (hs : ∀ x, foldedSetIterable iter X.env x = pure x := by intro _; rfl) :
    PE X (.ListComp elt [⟨tg, iter, ifs, 0⟩] scope pos) (tLc wi g tt te (own.map (·.2))) := by
  refine ⟨fun pins s σ H Q I h => ?_⟩
  rw [eval_ListComp]
  have cap : ∀ y ∈ scope.names, y.2 = .free → ∃ c, X.env.cells.lookup y.1 = some c := fun y hy e => (bk.free y hy e).elim (fun k => I.ok.has _ (.inl k)) fun k => I.ok.has _ (.inr k)
  refine wpAny_comprehension_free (use := none) rfl hs (closure_ok cap) bk.kind (fun y hy e => by rw [bk.uniq y hy, e]) (thn (hi.run pins s σ H _ I h) fun xv s1 hx => thn hx fun itv s2 h2 => ?_)
  obtain ⟨it, fp, tn, J, H2, e, I2, T, st2, f2, q⟩ := h2
  subst e
  refine wpAny_newObj_type (newEnv_comp ?_) (by show 0 ≤ sizeLine; decide)
  generalize hL : s2.heap.objs.size = L
  have nL : H2 L = none := I2.hok.fresh (Nat.le_of_eq hL)
  obtain ⟨W, ⟨m0, w0⟩, turn⟩ := q L nL
  generalize e3 : ({ s2 with heap := s2.heap.push { cls := .type "list", data := .seq ([] : List Value).toArray } } : Shared) = s3
  have h3 : s3.heap = s2.heap.push { cls := .type "list", data := .seq ([] : List Value).toArray } := by rw [← e3]
  have I3 : Inv X pins σ (upd H2 L (.lst [])) s3 := by
    rw [← e3]
    refine I2.laid (t' := s2.toks) (fun b o z => Heap.get?_push_of_some _ z) (Nat.le_of_eq hL) ⟨Nat.zero_le _, [], 0, .nil, ?_⟩
    rw [← hL]
    exact Heap.get?_push_size _ rfl
  have low : ∀ b ∈ fp, b < s2.heap.objs.size := fun b hb => by
    obtain ⟨o, z, _⟩ := T.obj _ _ st2 b hb
    exact Heap.lt_size z
  have f3 : ∀ b ∈ fp, FpOk X pins (upd H2 L (.lst [])) b ∧ b < s3.heap.objs.size := fun b hb => by
    have lt := low b hb
    refine ⟨⟨?_, (f2 b hb).2⟩, by rw [h3, Heap.size_push]; exact Nat.lt_succ_of_lt lt⟩
    rw [upd_ne (by rw [← hL]; exact Nat.ne_of_lt lt)]
    exact (f2 b hb).1
  have st3 : tn 0 s3.heap := T.keep _ _ _ st2 fun b _ o z => by rw [h3]; exact Heap.get?_push_of_some _ z
  have J4 := block_start I3 bk nd f3
  have pg := hg s3 (upd H2 L (.lst [])) s3.heap.objs.size (cellsFrom (s3.heap.objs.size + 1) scope.names (cloFrom X.env.cells scope.names [])) fp
  have pt := ht s3 (upd H2 L (.lst [])) s3.heap.objs.size (cellsFrom (s3.heap.objs.size + 1) scope.names (cloFrom X.env.cells scope.names [])) fp
  have pe := he s3 (upd H2 L (.lst [])) s3.heap.objs.size (cellsFrom (s3.heap.objs.size + 1) scope.names (cloFrom X.env.cells scope.names [])) fp
  show codeAny _ _ (.compStart (.ListComp elt [⟨tg, iter, ifs, 0⟩] scope pos) 0 (.ref it) (.ref L) (compEnvC scope (cellsFrom (s3.heap.objs.size + 1) scope.names (cloFrom X.env.cells scope.names [])) s3.heap.objs.size X.env)) (compPost (model X.prog X.w) X.A X.xe none (EP X pins σ Q) (.ref L) s3.heap.objs.size) { s3 with heap := pushCells (s3.heap.push { cls := .type "dict", data := .dict #[] }) scope.names }
  have nfp : ∀ b ∈ fp, (upd H2 L (.lst [])) b = none := fun b hb => (f3 b hb).1.1
  -- the exception's object within the block
  have P3 := I3.pin p (List.mem_append_left _ hp)
  have lowP : p.1 < s3.heap.objs.size := Heap.lt_size P3.1
  have offS : p.1 ∉ frs X.stack := fun hm => (List.mem_cons.mp (I3.stkSub p.1 hm)).elim P3.2.2.1 P3.2.2.2.1
  have offF : ∀ b ∈ fp, p.1 ≠ b := fun b hb => (f3 b hb).1.2.2.2.2.2 p (List.mem_append_left _ hp)
  generalize hce : compEnvC scope (cellsFrom (s3.heap.objs.size + 1) scope.names (cloFrom X.env.cells scope.names [])) s3.heap.objs.size X.env = ce at J4 pg pt pe ⊢
  have cL : ce.locals = s3.heap.objs.size := by subst hce; rfl
  generalize hH3 : upd H2 L (.lst []) = H3 at I3 J4 pg pt pe w0 nfp f3 P3
  generalize e4 : ({ s3 with heap := pushCells (s3.heap.push { cls := .type "dict", data := .dict #[] }) scope.names } : Shared) = s4 at J4 ⊢
  have offL : p.1 ≠ ce.locals := by rw [cL]; exact Nat.ne_of_lt lowP
  have I4 : Inv (blkZ X s3 H3 scope ce fp p) [] (wipe σ (own.map (·.2))) H3 s4 := invZ J4 ⟨by rw [← e4]; exact pushCells_keeps _ _ _ _ (Heap.get?_push_of_some _ P3.1), P3.2.1, offL, offS, P3.2.2.2.2⟩
  have st4 : tn 0 s4.heap := T.keep _ _ _ st3 fun b _ o z => by rw [← e4]; exact pushCells_keeps _ _ _ _ (Heap.get?_push_of_some _ z)
  have hc : L2H.HotC (blkZ X s3 H3 scope ce fp p) := ⟨p, hot, List.mem_cons_self⟩
  have stat : ∀ {σ' : L2.St} {H' : Hp} {s' : Shared}, Inv (blkZ X s3 H3 scope ce fp p) [] σ' H' s' → (∀ b ∈ fp, H' b = none) → ∀ b ∈ fp, FpOk (blkZ X s3 H3 scope ce fp p) [] H' b := fun {σ' H' s'} I' hn b hb =>
    ⟨hn b hb, (I'.ok.exf b hb).1, I'.ok.exfs b hb, .inl hb, fun x c z => (I'.ok.exf b hb).2 x c z, fun q hq => by
      have z : q = p := by simpa using (show q ∈ [p] ++ ([] : List (Addr × Obj)) from hq)
      rw [z]; exact offF b hb⟩
  have loop : codeAny (model X.prog X.w) X.A (.compLoop (.ListComp elt [⟨tg, iter, ifs, 0⟩] scope pos) 0 (.ref it) (.ref L) ce) (compPost (model X.prog X.w) X.A X.xe none (EP X pins σ Q) (.ref L) s3.heap.objs.size) s4 := by
    refine compLoop_any (fun n s' => ∃ i H', Inv (blkZ X s3 H3 scope ce fp p) [] (wipe σ (own.map (·.2))) H' s' ∧ tn i s'.heap ∧ (∀ b ∈ fp, H' b = none) ∧ W i n H') ?_ m0 ⟨0, H3, I4, st4, nfp, w0⟩
    rintro n s5 ⟨i, H5, I5, st5, n5, w5⟩
    rcases turn i n H5 w5 with ⟨stop, qq⟩ | ⟨go, Nx, hNx, step⟩
    · refine thnF (T.done (blkZ X s3 H3 scope ce fp p) rfl rfl rfl hc i [] s5 _ H5 (fun _ _ => False) I5 (stat I5 n5) st5 stop) fun r s6 ⟨hr, I6⟩ => ?_
      subst hr
      have I7 : Inv X pins σ H5 s6 := I3.call' (ch := fp) I6.os I6.base I6.hok I6.bare fun b hb => ⟨(f3 b hb).1.2.2.2.1, (f3 b hb).1.2.1, (f3 b hb).1.2.2.2.2.1, (f3 b hb).1.2.2.2.2.2⟩
      have nC : H5 s3.heap.objs.size = none := by
        have z : H5 ce.locals = none := I6.free
        rw [cL] at z
        exact z
      obtain ⟨m, hn, _⟩ := I6.loc
      have hn : s6.heap.Ns ce.locals m := hn
      rw [cL] at hn
      refine ⟨m, hn, fun h'' sb => ?_⟩
      obtain ⟨f0, f1, f2', f3', f4, f5⟩ := I3.fpOk (Nat.le_refl _) nC
      exact ⟨.ref L, H5, I7.turned (t' := s6.toks) (fun b o hb z => (sb.2 b hb).trans z) f0 f1 f3' f4 f5, rfl, qq⟩
    · refine thnF (T.item (blkZ X s3 H3 scope ce fp p) rfl rfl rfl hc i [] s5 _ H5 (fun _ _ => False) I5 (stat I5 n5) st5 go) fun r s6 ⟨u, hr, h6⟩ => ?_
      subst hr
      refine thnF h6 fun _ s7 ⟨x, H7, I7, r7, y7, st7, n7⟩ => ?_
      have I7' := I7.pinned (stat I7 n7) (T.obj _ _ st7)
      refine thnF (pg.run _ s7 _ H7 x u _ I7' r7 (step x H7 y7)) fun _ s8 ⟨σ8, H8, I8, hw8, q8⟩ => ?_
      refine thnF (pt.run _ s8 σ8 H8 _ I8 q8) fun b s9 ⟨H9, I9, q9⟩ => ?_
      have fin : ∀ {s' : Shared} {H' : Hp}, Inv (blkZ X s3 H3 scope ce fp p) ([] ++ pinsAt fp s7.heap) σ8 H' s' → Nx H' → ∃ m, m < n ∧ ∃ i H', Inv (blkZ X s3 H3 scope ce fp p) [] (wipe σ (own.map (·.2))) H' s' ∧ tn i s'.heap ∧ (∀ b ∈ fp, H' b = none) ∧ W i m H' := fun {s' H'} I' nx => by
        obtain ⟨m', hm, w'⟩ := hNx H' nx
        have pin' : ∀ b ∈ fp, ∀ o, s7.heap.get? b = some o → s'.heap.get? b = some o ∧ H' b = none := fun b hb o z =>
          let y := I'.pin (b, o) (List.mem_append_right _ (List.mem_append_right _ (mem_pinsAt hb z)))
          ⟨y.1, y.2.1⟩
        have hl : (wipe σ (own.map (·.2))).length = σ8.length := by rw [← hw8, wipe_length]
        refine ⟨m', hm, i + 1, H', (I'.unpinned (pins := [])).weak hl (fun j v z => ?_), T.keep _ _ _ st7 fun b hb o z => (pin' b hb o z).1, fun b hb => ?_, w'⟩
        · rw [← hw8] at z
          exact (wipe_some z).1
        · obtain ⟨o, z, _⟩ := T.obj _ _ st7 b hb
          exact (pin' b hb o z).2
      cases b with
      | false =>
        simp only [Bool.false_eq_true, if_false] at q9 ⊢
        exact fin I9 q9
      | true =>
        simp only [if_true] at q9 ⊢
        refine thnF (pe.run _ s9 σ8 H9 _ I9 q9) fun z s10 ⟨yv, H10, I10, r10, acc, hL10, hz10, nx⟩ => ?_
        exact app_ok (X := blkZ X s3 H3 scope ce fp p) I10 hL10 hz10 r10 fun s11 I11 => fin I11 nx
  exact codeAny_compStart_list loop (T.self X.A 0 _ _ _ st4 loop)
/-! ### isinstance of the exception -/
structure XcC (K : PySem.W.Frag) (D : Addr) : Prop where
  isC : (PySem.W.clsIn K D).isSome = true
  ga : PySem.W.findIn K (.ref D) "__getattribute__" = some (some (.builtin "BaseException.__getattribute__"))
  gg : PySem.W.findIn K (.ref D) "__getattr__" = some none
  sub : PySem.W.subIn K (.ref D) (.type "BaseException") = some true
  cl : PySem.W.findIn K (.ref D) "__class__" = some (some (.builtin "object.__class__"))
  get : PySem.W.specialIn K (.builtin "object.__class__") "__get__" = some (some (.builtin "getset_descriptor.__get__"))
  tk : PySem.W.takesIn K (.builtin "object.__class__") = some true
  mro : PySem.W.mroIn K D (.type "object") = some true
theorem xcB_ok {K : PySem.W.Frag} {D : Addr} (h : xcB K D = true) : XcC K D := by
  obtain ⟨h1, h⟩ := He.ba h
  obtain ⟨h2, h⟩ := He.ba h
  obtain ⟨h3, h⟩ := He.ba h
  obtain ⟨h4, h⟩ := He.ba h
  obtain ⟨h5, h⟩ := He.ba h
  obtain ⟨h6, h⟩ := He.ba h
  obtain ⟨h7, h8⟩ := He.ba h
  exact ⟨h1, He.eqO_ok h2, He.eqO_ok h3, of_decide_eq_true h4, He.eqO_ok h5, He.eqO_ok h6, of_decide_eq_true h7, of_decide_eq_true h8⟩
/-- the exception's dict, if any, is tracked -/
def DxOk (H : Hp) : Option Addr → Prop
  | none => True
  | some d => ∃ fs, H d = some (.xd fs)
def rIsZ (K : PySem.W.Frag) (D a : Addr) (d : Option Addr) : List V → Hp → VK → Prop := fun xs H Q => ∃ (C : Addr) (b : Bool), xs = [.ref a, .ref C] ∧ PySem.W.kitOne K (.ref D) (.ref C) = some b ∧ DxOk H d ∧ Q (.bl b) H
theorem call_isZ {p : Addr × Obj} {D : Addr} {d : Option Addr} (hp : p ∈ X.pn) (C : XcC X.K D) (zc : Zc (.ref D) d p.2) (hf : ∃ vs, p.2.data = .fields vs) : CallR X (.builtin "isinstance") (rIsZ X.K D p.1 d) := by
  intro pins s σ H xs us Q I r h
  obtain ⟨cc, b, rfl, e, dk, q⟩ := h
  obtain ⟨u1, us1, rfl, r1, r2⟩ : ∃ u1 us1, us = u1 :: us1 ∧ RelV (.ref p.1) u1 ∧ Vals [.ref cc] us1 := by
    cases r with
    | cons a b => exact ⟨_, _, rfl, a, b⟩
  obtain ⟨u2, rfl, r3⟩ : ∃ u2, us1 = [u2] ∧ RelV (.ref cc) u2 := by
    cases r2 with
    | cons a b => cases b; exact ⟨_, rfl, a⟩
  cases r1
  cases r3
  obtain ⟨hget, _⟩ := I.pin p (List.mem_append_left _ hp)
  obtain ⟨vs, hv⟩ := hf
  obtain ⟨od, J⟩ : ∃ od, PySem.W.InstAt s.heap p.1 p.2 D od := by
    cases d with
    | none => exact ⟨none, hget, zc.1, by unfold PySem.W.notCls; rw [hv] <;> rfl, by rw [zc.2]; trivial⟩
    | some dd =>
      obtain ⟨fs, ed⟩ := dk
      obtain ⟨mA, hns, hr⟩ := (show ObjOk X.prog X.w H s.heap dd (.xd fs) from I.hok dd _ ed)
      obtain ⟨od, ho, hl⟩ := lookIn_ns hns
      exact ⟨some od, hget, zc.1, by unfold PySem.W.notCls; rw [hv] <;> rfl, by rw [zc.2]; exact ho⟩
  exact PySem.W.kia_one (PySem.W.kitx_exc (od := od) C.isC C.ga C.gg C.sub C.cl C.get C.tk C.mro) I.kIn J e (fun z => nomatch z) fun tk => ⟨.bl b, H, I.kept (t' := tk) fun _ _ z => z, rfl, q⟩
end
end Pd
end
section
set_option Elab.async false
set_option linter.all false
set_option maxRecDepth 100000
set_option maxHeartbeats 1000000
/-! ## try with several named clauses; a def that is handed the caught exception -/
namespace Pd
open PySem PySem.Spec PyProof.Rows L2
/-- behind a suite the clause's name is gone -/
abbrev goneD (i : Nat) (D : Ends) : Ends := { nx := fun σ' H' => D.nx (σ'.set i none) H', rt := D.rt, bk := fun σ' H' => D.bk (σ'.set i none) H', ct := fun σ' H' => D.ct (σ'.set i none) H' }
abbrev Cl := Value × (Addr → Value → Option Addr → TS)
/-- what clauses with the name of slot i wish -/
def wClz (K : PySem.W.Frag) (i : Nat) (Wout : WX) (D : Ends) : List Cl → WX
  | [] => Wout
  | (c, ts) :: r => fun cls d σ H => ∃ b, PySem.W.exmOne K cls c = some b ∧ (b = true → ∀ a, H a = none → ts a cls d (goneD i D) (σ.set i (some (.ref a))) H) ∧ (b = false → wClz K i Wout D r cls d σ H)
inductive ClzOk (X : Cx) (n : Str) : List ExceptHandler → List Cl → Prop
  | nil : ClzOk X n [] []
  | cons {x : Str} {c : Value} {ts : Addr → Value → Option Addr → TS} {b₀ : Stmt} {suite : List Stmt} {np pos' : Pos} {hds : List ExceptHandler} {l : List Cl} (hc : Names X x c)
      (hsu : ∀ (a : Addr) (oe : Obj) (cls : Value) (d : Option Addr) (pn : List (Addr × Obj)), L2N.Zn cls d oe → (∃ vs, oe.data = .fields vs) → PSs (X.suite a ((a, oe) :: pn)) (b₀ :: suite) (ts a cls d)) (r : ClzOk X n hds l) :
      ClzOk X n (.ExceptHandler (some (.Name x np)) (some n) (b₀ :: suite) pos' :: hds) ((c, ts) :: l)
section
variable {X : Cx} {n : Str} {i : Nat} {body : List Stmt} {h₀ : ExceptHandler} {hds : List ExceptHandler} {l : List Cl} {pos : Pos} {tb : WX → TS} {Wout : WX}
theorem ps_clauses (st : X.stack = X.env :: X.outer) (fr : X.env.frame = some X.env.locals) (nd : X.N.Nodup) (hi : X.N[i]? = some n) (hn : X.env.kindOf n = some .local) (tk : L2N.Takes X Wout)
    (hb : ∀ (W : WX) (pn : List (Addr × Obj)) (xe : Value → Shared → Prop), L2N.Takes (X.tr pn xe) W → PassesOwn (model X.prog X.w) X.A X.env xe → PSs (X.tr pn xe) body (tb W))
    (hh : ClzOk X n (h₀ :: hds) l) : PS X (.Try body (h₀ :: hds) [] [] pos) (fun D σ H => tb (wClz X.K i Wout D l) D σ H) := by
  refine ⟨fun pins s σ H D I h => ?_⟩
  have ok := I.ok
  have frs' : X.A.frames = some (X.env :: X.outer) := by rw [ok.frames, st]
  refine wpAny_Try_except ?_
  refine wpAny_mono ((hb (wClz X.K i Wout D l) (X.pn ++ pins) (fun e s₁ => wpAny (model X.prog X.w) X.A (noteFrame e X.env) (fun _ s₂ => wpAny (model X.prog X.w) X.A (setFlight e none) (fun _ s₃ =>
    wpAny (model X.prog X.w) X.A (handleBy e X.env (h₀ :: hds)) (SP X pins D) X.xe s₃) X.xe s₂) X.xe s₁) (fun u s' xx => ?_) PassesOwn.looking).run [] s σ H D (I.toTry _) h) (fun f s1 done => ?_) (fun e s1 z => z)
  · obtain ⟨a, B, sI, pins', τ, G, cls, d, rfl, J', nb, up, sky, na, os, ag, w⟩ := xx
    have J : Inv X pins τ G sI := J'.ofTry ok
    have sky2 : Sky B (X.env :: X.outer) a (L2N.Zn cls d) X.env.locals s'.heap := by rw [← st]; exact sky
    show wpAny (model X.prog X.w) X.A (noteFrame (.ref a) X.env) _ _ _
    refine L2N.Sky.land L2N.Zn.steady frs' fr sky2 fun h3 fl3 up3 => ?_
    have J3 : Inv X pins τ G { s' with heap := h3 } := J.landed nb fl3.1 (up.trans up3) os ag
    obtain ⟨oe3, vs3, at3, zn3, dt3⟩ := fl3.there
    have out : a ∉ frs (X.env :: X.outer) := fun hm => by
      obtain ⟨_, o', e', no⟩ := fl3.2.2.1.mem hm
      rw [at3] at e'; cases e'
      exact no _ dt3
    have offL : a ≠ X.env.locals := fun z => out (List.mem_filterMap.mpr ⟨X.env, List.mem_cons_self, by rw [fr, z]⟩)
    have offF : a ∉ X.fs := fun hm => by
      obtain ⟨e, he, q⟩ := List.mem_filterMap.mp hm
      exact out (List.mem_filterMap.mpr ⟨e, List.mem_cons_of_mem _ he, q⟩)
    have S3 := J3.suite at3 dt3 na offL offF
    have typ : PySem.W.Looks (model X.prog X.w) h3 (typeOf (.ref a)) cls := fun A Q E s k q => wpAny_typeOf_ref (k _ _ at3) (by rw [zn3.1]; exact q)
    have go : ∀ {hs : List ExceptHandler} {ls : List Cl}, ClzOk X n hs ls → wClz X.K i Wout D ls cls d τ G → wpAny (model X.prog X.w) X.A (handleBy (.ref a) X.env hs) (SP X pins D) X.xe { s' with heap := h3 } := by
      intro hs ls hk
      induction hk with
      | nil =>
        intro w
        refine wpAny_handleBy_nil ?_
        obtain ⟨k1, k2, k3, oe, vs, T, oT, ts', at5, zn5, dt5, one, hr⟩ := id fl3
        unfold PySem.passOn
        refine wpAny_bind (wpAny_field at5 dt5 one ?_)
        rw [if_neg (show ¬ ((Value.ref T == Value.none) = true) from by simp)]
        have away : wpAny (model X.prog X.w) X.A (setFlight (.ref a) X.env.frame) (fun _ s4 => wpAny (model X.prog X.w) X.A (throw (.ref a) : Sem Flow) (SP X pins D) X.xe s4) X.xe { s' with heap := h3 } := by
          rw [fr]
          refine HandSPX.setFlight_upZ fl3 fun h4 hh4 up4 => wpAny_throw (tk _ _ ?_)
          exact ⟨a, B, sI, pins, τ, G, cls, d, rfl, J, nb, (up.trans up3).trans up4, .inr (.inr (by rw [st]; exact hh4)), na, os, ag, w⟩
        first
          | exact wpAny_bind (wpAny_pure (wpAny_bind away))
          | exact wpAny_bind away
      | @cons x c ts b₀ suite np pos' hds2 l2 hc hsu r ih =>
        intro w
        obtain ⟨b, hb1, yes, no⟩ := w
        refine wpAny_handleBy_cons (codeAny_handlers_test ?_) (by intro q; cases q)
        have asks := PySem.W.exm_one (M := model X.prog X.w) (J3.kIn) typ hb1
        have named : ∀ {Q : Value → Shared → Prop} {E : Value → Shared → Prop}, Q c { s' with heap := h3 } → wpAny (model X.prog X.w) (X.A.mark (some (.ref a))) (eval (.Name x np) X.env) Q E { s' with heap := h3 } := fun {Q E} q => by
          obtain ⟨hg, hdbg, hm | ⟨hm, hv, hnn⟩⟩ := hc
          · exact ld_glob (X := X.suite a ((a, oe3) :: (X.pn ++ pins))) S3 hg hm q hdbg
          · exact ld_blt (X := X.suite a ((a, oe3) :: (X.pn ++ pins))) S3 hg hm hv q hnn hdbg
        refine named (asks.here ?_)
        cases b with
        | false =>
          show wpAny _ X.A (handleBy (.ref a) X.env hds2) _ _ _
          exact ih (no rfl)
        | true =>
          refine codeAny_handlers_suite_as ?_
          refine HandSPX.lands_againZ fl3 fun h4 fl4 up4 => ?_
          have J4 : Inv X pins τ G { s' with heap := h4 } := J.landed nb fl4.1 ((up.trans up3).trans up4) os ag
          obtain ⟨oe4, vs4, at4, zn4, dt4⟩ := fl4.there
          have S4 := J4.suite at4 dt4 na offL offF
          refine store_ok (X := X.suite a ((a, oe4) :: (X.pn ++ pins))) (v := .ref a) S4 nd hi (.inl hn) rfl (fun s5 S5 => ?_) (.inr hn)
          have goes : ∀ {σ6 : L2.St} {H6 : Hp} {s6 : Shared} {Q : Shared → Prop}, Inv (X.suite a ((a, oe4) :: (X.pn ++ pins))) [] σ6 H6 s6 → (∀ s7, Inv X pins (σ6.set i none) H6 s7 → Q s7) →
              wpAny (model X.prog X.w) X.A (do bindName X.env n .none; unbindBehindTheSuite X.env n pos') (fun _ s7 => Q s7) X.xe s6 := fun {σ6 H6 s6 Q} S6 hq => gone_ok (S6.unsuite ok) nd hi hn hq
          refine wpAny_mono ((hsu a oe4 cls d (X.pn ++ pins) zn4 ⟨_, dt4⟩).run [] s5 _ G _ S5 (yes rfl a na)) (fun f s6 end6 => ?_) (fun _ _ z => False.elim z)
          match f, end6 with
          | .next, ⟨σ6, H6, S6, q6⟩ => exact goes S6 fun s7 J7 => ⟨_, _, J7, q6⟩
          | .brk, ⟨σ6, H6, S6, q6⟩ => exact goes S6 fun s7 J7 => ⟨_, _, J7, q6⟩
          | .cont, ⟨σ6, H6, S6, q6⟩ => exact goes S6 fun s7 J7 => ⟨_, _, J7, q6⟩
          | .ret u, ⟨v6, σ6, H6, S6, r6, q6⟩ => exact goes S6 fun s7 J7 => ⟨_, _, _, J7, r6, q6⟩
    exact go hh w
  · match f, done with
    | .next, ⟨τ, G, J', q⟩ => exact wpAny_execs_nil ⟨τ, G, J'.ofTry ok, q⟩
    | .brk, ⟨τ, G, J', q⟩ => exact ⟨τ, G, J'.ofTry ok, q⟩
    | .cont, ⟨τ, G, J', q⟩ => exact ⟨τ, G, J'.ofTry ok, q⟩
    | .ret u, ⟨v, τ, G, J', r, q⟩ => exact ⟨v, τ, G, J'.ofTry ok, r, q⟩
end
/-! ### a def of one parameter that is handed the exception -/
/-- its promise: the exception's address, class and dict, then as usual -/
structure FnX (P : Program) (w : World) (K : PySem.W.Frag) (mg : Str → Option Value) (base : Heap) (k : Nat) (f : Addr) (fd : FuncData) (ps : List Str) (sp : Addr → Value → Option Addr → Hp → VK → Prop) : Prop where
  one : ps.length = 1
  run : ∀ (A : Around) (outer : List Env) (s : Shared) (H : Hp) (args : Args) (p : Addr × Obj) (cls : Value) (d : Option Addr) (Q : VK) (E : XK), L2H.RoomH k A → L2H.Hot1 A p → Zc cls d p.2 → L2H.PinOk outer H s p → Env0 P w K mg base A outer s H → BindsTo s fd args (ps.zip [.ref p.1]) →
    sp p.1 cls d H Q → codeAny (model P w) A (.call (.ref f) args) (CR (L2N.CX P w) outer P w H s Q E) s
theorem fnx_of {P : Program} {w : World} {K : PySem.W.Frag} {mg : Str → Option Value} {base : Heap} {k : Nat} {f : Addr} {x qual : Str} {params : Arguments} {body : List Stmt} {scope : Scope} {kws : List (Str × V)} {fd : FuncData} {N ps : List Str} {sp : Addr → Value → Option Addr → Hp → VK → Prop}
    (F : FunD K x qual params body scope [] kws f fd) (S : FnScope N ps scope) (one : ps.length = 1)
    (hbody : ∀ (cdv : Value) (A : Around) (outer : List Env) (s : Shared) (H : Hp) (p : Addr × Obj) (cls : Value) (d : Option Addr) (Q : VK) (E : XK), L2H.Hot1 A p → Zc cls d p.2 → L2H.RoomH k (A.deeper (envOfC qual scope s.heap.objs.size f cdv)) → sp p.1 cls d H Q →
      Svs (L2H.cxH (L2N.CX P w) P w K mg base N qual scope f cdv A outer s H E p) body { nx := fun _ H' => Q .non H', rt := Q } (start N [.ref p.1]) H) : FnX P w K mg base (k + 1) f fd ps sp := by
  obtain ⟨oc, od, dV, kV, doc, pm, an, cdv, ct, osl, rfl, lk, code, _, _⟩ := F.ex
  refine ⟨one, fun A outer s H args p cls d Q E room hot zc pin e0 hb want => ?_⟩
  have KX : K.In s.heap := e0.mod.kin.keeps fun b o e => (e0.bs b o e).1
  have lim : s.heap.NoLimit := e0.mod.nolimit.keeps fun b o e => (e0.bs b o e).1
  have kinds : ∀ y ∈ ps.zip [Value.ref p.1], scope.names.lookup y.1 = some .local ∨ (scope.names.lookup y.1 = some .cell ∧ ((cellsFrom (s.heap.objs.size + 1) scope.names []).lookup y.1).isSome = true) := fun ⟨m, v⟩ hy =>
    (S.par m (List.of_mem_zip hy).1).imp id fun q => ⟨q, PySem.W.cellsFrom_some _ _ _ (.inl q)⟩
  refine codeAny_call_function room.depth (KX _ _ lk) rfl S.co S.gen rfl (PySem.W.codeRec_of KX code) (hb _ _ _ _ ?_)
  refine wpAny_newFunctionEnv_cells S.kind kinds fun env he s1 z => ?_
  subst he
  refine ⟨lim.keeps z.toInCall.keep, codeAny_func ?_⟩
  have I := L2H.inv_startH (CX := L2N.CX P w) (E := E) (us := [Value.ref p.1]) (vs := [V.ref p.1]) S pin e0 (by rw [one]; rfl) (.cons rfl .nil) z
  refine wpAny_mono (hbody cdv A outer s H p cls d Q E hot zc (room.deeper _) want [] s1 I) (fun fl s' hs => ?_) fun e s' hs => hs
  match fl, hs with
  | .ret u, ⟨v, τ, G, J, rv, q⟩ => exact ⟨v, G, J.os, J.bare, J.base, J.hok, rv, q⟩
  | .next, ⟨τ, G, J, q⟩ => exact ⟨.non, G, J.os, J.bare, J.base, J.hok, rfl, q⟩
  | .brk, ⟨_, _, _, q⟩ => exact False.elim q
  | .cont, ⟨_, _, _, q⟩ => exact False.elim q
/-- f(e) within the suite -/
theorem pe_callX {X : Cx} {k i : Nat} {f : Addr} {fd : FuncData} {ps : List Str} {sp : Addr → Value → Option Addr → Hp → VK → Prop} {p : Addr × Obj} {cls : Value} {d : Option Addr} {x n : Str} {q1 q2 pos : Pos} (F : FnX X.prog X.w X.K X.mg X.base k f fd ps sp)
    (room : L2H.RoomH k X.A) (hp : p ∈ X.pn) (hot : L2H.Hot1 X.A p) (zc : Zc cls d p.2) (gl : Gl X x) (mg : X.mg x = some (.ref f)) (kp : PySem.W.keepIn X.K (.ref f) = true) (bi : Binds X.K fd ps []) (hn : PE X (.Name n q2) (tVar i)) (nd : (x == ("__debug__" : Str)) = false) :
    PE X (.Call (.Name x q1) [.Name n q2] [] pos) (fun σ H Q => σ[i]? = some (some (.ref p.1)) ∧ sp p.1 cls d H Q) := by
  refine ⟨fun pins s σ H Q I h => ?_⟩
  obtain ⟨at_, want⟩ := h
  refine wpAny_Call_Name_kw (ld_glob I gl mg ?_ nd)
  have args : PA X [.Name n q2] (tCons (tVar i) tNil) := pa_cons hn pa_nil
  refine PySem.W.callWith_K (h₀ := X.base) I.ok.mod.kin kp (thn (args.run pos pins s σ H (fun vs H1 => vs = [V.ref p.1] ∧ H1 = H) I ⟨_, at_, rfl, rfl⟩) fun us s1 hh => ?_)
  obtain ⟨vs, H1, I1, r, ev, eh⟩ := hh
  subst ev eh
  refine ⟨I1.kIn, ?_⟩
  obtain ⟨u, rfl, ru⟩ : ∃ u, us = [u] ∧ RelV (.ref p.1) u := by
    cases r with
    | cons a b => cases b; exact ⟨_, rfl, a⟩
  cases ru
  have P1 := I1.pin p (List.mem_append_left _ hp)
  have pin : L2H.PinOk X.stack H1 s1 p := ⟨P1.1, P1.2.1, fun hm => (List.mem_cons.mp (I1.stkSub p.1 hm)).elim P1.2.2.1 P1.2.2.2.1, P1.2.2.2.2⟩
  have b := bi s1 [.ref p.1] I1.kIn (by rw [List.append_nil, F.one]; rfl)
  rw [List.append_nil] at b
  refine wpAny_call (codeAny_mono (F.run X.A X.stack s1 H1 ⟨[.ref p.1], []⟩ p cls d Q (fun _ _ _ => False) room hot zc pin I1.env0 b want) fun r s' got => ?_)
  match r, got with
  | .ok (.ret u), got => exact I1.after got
  | .error e, got => exact (show False by obtain ⟨_, _, _, _, _, _, _, _, _, _, _, _, z⟩ := got; exact z).elim
  | .ok .next, got => exact False.elim got
  | .ok .brk, got => exact False.elim got
  | .ok .cont, got => exact False.elim got
end Pd
end
section
set_option Elab.async false
set_option linter.all false
set_option maxRecDepth 100000
set_option maxHeartbeats 1000000
/-! ## _law_kinds: the names of the classes that a caught exception belongs to -/
namespace Pd
open PySem PySem.Spec PyProof.Rows L2
theorem split_KN : Txt.split (KS1 ++ KS2) " " = KN := by decide +kernel
/-! the written def -/
def isE1 (e : Expr) (c : Str) : Bool := match asCall e with
  | some (f, [a, b]) => f == ("isinstance" : Str) && (asName a == some ("e" : Str) && asName b == some c)
  | _ => false
def isEs : List Expr → List Str → Bool
  | [], [] => true
  | e :: es, c :: cs => isE1 e c && isEs es cs
  | _, _ => false
def isNm (e : Expr) (x : Str) : Bool := asName e == some x
def setOf (st : Stmt) (x : Str) (k : Expr → Bool) : Bool := match asSet st with | some (y, _, e, _) => y == x && (!compE e && k e) | none => false
def asSplit : Expr → Option (Expr × Expr) | .Call (.Attribute o m ap) [e] [] pos => if m == ("split" : Str) && (ap.endLine == pos.line) then some (o, e) else none | _ => none
def lstOf (cs : List Str) (e : Expr) : Bool := match asLst e with | some es => isEs es cs | none => false
def addOf (cs : List Str) (e : Expr) : Bool := match asBin e with | some (a, o, b) => decide (o = .Add) && (isNm a "flags" && lstOf cs b) | none => false
def subOf (x : Str) (e : Expr) : Bool := match asSub e with | some (a, b) => isNm a x && isNm b "k" | none => false
def lenOf (e : Expr) : Bool := match asCall e with | some (f, [a]) => f == ("len" : Str) && isNm a "flags" | _ => false
def rngOf (e : Expr) : Bool := match asCall e with | some (f, [a]) => f == ("range" : Str) && lenOf a | _ => false
def isF (sc : Scope) (x : Str) : Bool := sc.names.lookup x == some NameKind.free
theorem isF_ok {sc : Scope} {x : Str} (h : isF sc x = true) : sc.names.lookup x = some .free := by unfold isF at h; simpa using h
def kdN : List Str := ["e", "names", "flags", "k"]
def kindsB (sc : Scope) (body : List Stmt) : Bool := match body with
  | [s1, s2, s3, s4, s5, s6, s7, s8] =>
    setOf s1 "names" (fun e => asCon e == some (.str KS1)) && (setOf s2 "names" (fun e => match asSplit e with
      | some (o, a) => (match asBin o with | some (x, q, y) => decide (q = .Add) && (isNm x "names" && asCon y == some (.str KS2)) | none => false) && asCon a == some (.str " ")
      | none => false) && (setOf s3 "flags" (lstOf KN1) && (setOf s4 "flags" (addOf KN2) && (setOf s5 "flags" (addOf KN3) && (setOf s6 "flags" (addOf KN4) && (setOf s7 "flags" (addOf KN5) &&
      (match asRet s8 with
        | some (some e) => (match asComp e with
          | some c => blkB kdN sc c.sc [("k", 3)] && (isNm c.tg "k" && (rngOf c.iter && ((match c.ifs with | [q] => subOf "flags" q | _ => false) && (subOf "names" c.elt && (isS c.sc "k" && (isF c.sc "names" && isF c.sc "flags"))))))
          | none => false)
        | _ => false)))))))
  | _ => false
def kdScB (sc : Scope) : Bool := isS sc "e" && (isS sc "names" && (isS sc "flags" && (isG sc "isinstance" && (isG sc "len" && (isG sc "range" && KN.all (isG sc))))))
/-! the context -/
structure KdX (X : Cx) (p : Addr × Obj) (me : Str) (d : Option Addr) : Prop where
  hp : p ∈ X.pn
  hot : L2H.Hot1 X.A p
  zc : Zc (.ref (He.ga X.K me)) d p.2
  xc : XcC X.K (He.ga X.K me)
  kit : ∀ c ∈ KN, PySem.W.kitOne X.K (.ref (He.ga X.K me)) (.ref (He.ga X.K c)) = some (c == me)
  mg : ∀ c ∈ KN, X.mg c = some (.ref (He.ga X.K c))
  gl : ∀ c ∈ KN, Gl X c
  hN : X.N = kdN
  nd : X.N.Nodup
  fn : ∀ x, X.fn x = true
  sE : isS X.env.scope "e" = true
  sN : isS X.env.scope "names" = true
  sF : isS X.env.scope "flags" = true
  gI : Gl X "isinstance"
  gL : Gl X "len"
  gR : Gl X "range"
  bI : X.mg "isinstance" = none
  bL : X.mg "len" = none
  bR : X.mg "range" = none
theorem vis_of {sc : Scope} {x : Str} (h : isS sc x = true) : Vis sc x := by
  rcases isS_ok h with z | z
  · exact .inl z
  · exact .inr (.inl z)
theorem loc_of {sc : Scope} {x : Str} (h : isS sc x = true) : Loc sc x := isS_ok h
theorem kn_db : ∀ c ∈ KN, (c == ("__debug__" : Str)) = false := by decide
section
variable {X : Cx} {p : Addr × Obj} {me : Str} {d : Option Addr} {σ : L2.St} {H : Hp}
theorem isE1_ok {e : Expr} {c : Str} (h : isE1 e c = true) : ∃ p1 p2 p3 p4, e = .Call (.Name "isinstance" p1) [.Name "e" p2, .Name c p3] [] p4 := by
  unfold isE1 at h
  split at h
  · rename_i f a b hc
    obtain ⟨h1, h⟩ := Bool.a2 h
    obtain ⟨h2, h3⟩ := Bool.a2 h
    obtain ⟨p1, p4, rfl⟩ := asCall_ok hc
    obtain ⟨p2, rfl⟩ := asName_ok (eq_of_beq h2)
    obtain ⟨p3, rfl⟩ := asName_ok (eq_of_beq h3)
    rw [eq_of_beq h1]
    exact ⟨p1, p2, p3, p4, rfl⟩
  · cases h
/-- the tests of a display -/
theorem av_isE (k : KdX X p me d) (hs : σ[0]? = some (some (.ref p.1))) (dk : DxOk H d) : ∀ {es : List Expr} {cs : List Str}, isEs es cs = true → (∀ c ∈ cs, c ∈ KN) → Av X es σ H fun vs H' => vs = cs.map (fun c => V.bl (c == me)) ∧ H' = H
  | [], [], _, _ => Av.of pa_nil ⟨rfl, rfl⟩
  | [], _ :: _, h, _ => by cases h
  | _ :: _, [], h, _ => by cases h
  | e :: es, c :: cs, h, hc => by
    obtain ⟨h1, h2⟩ := Bool.a2 h
    obtain ⟨p1, p2, p3, p4, rfl⟩ := isE1_ok h1
    have hcN := hc c (List.mem_cons_self ..)
    obtain ⟨_, vs0, hf0, _⟩ := k.hot
    have one : PE X (.Call (.Name "isinstance" p1) [.Name "e" p2, .Name c p3] [] p4) _ := pe_callB (call_isZ k.hp k.xc k.zc ⟨vs0, hf0⟩) k.gI k.bI boot_isinstance
      (pa_cons (pe_var (i := 0) (by rw [k.hN]; rfl) (vis_of k.sE)) (pa_cons (pe_glob (v := .ref (He.ga X.K c)) (k.gl c hcN) (k.mg c hcN) rfl (kn_db c hcN)) pa_nil))
    refine Av.of (pa_cons one pa_self) ?_
    refine ⟨_, hs, He.ga X.K c, (c == me), rfl, k.kit c hcN, dk, ?_⟩
    refine (av_isE k hs dk h2 fun x hx => hc x (List.mem_cons_of_mem _ hx)).mono fun vs H' ⟨e1, e2⟩ => ?_
    exact ⟨by rw [e1]; rfl, e2⟩
def bls (me : Str) (cs : List Str) : List V := cs.map fun c => V.bl (c == me)
theorem lstOf_ok {cs : List Str} {e : Expr} (h : lstOf cs e = true) : ∃ es q, e = .List es q ∧ isEs es cs = true := by
  unfold lstOf at h
  split at h
  · rename_i es he
    obtain ⟨q, rfl⟩ := asLst_ok he
    exact ⟨es, q, rfl, h⟩
  · cases h
theorem ev_lst (k : KdX X p me d) (hs : σ[0]? = some (some (.ref p.1))) (dk : DxOk H d) {cs : List Str} {e : Expr} (h : lstOf cs e = true) (hc : ∀ c ∈ cs, c ∈ KN) (hz : cs.length ≤ 20) : Ev X e σ H fun v H' => ∃ q, v = .ref q ∧ H q = none ∧ H' = upd H q (.lst (bls me cs)) := by
  obtain ⟨es, q, rfl, h⟩ := lstOf_ok h
  refine Ev.of (pe_lst pa_self) ((av_isE k hs dk h hc).mono fun vs H' ⟨e1, e2⟩ => ?_)
  subst e1 e2
  refine ⟨by rw [List.length_map]; exact Nat.le_trans hz (by decide), fun q nq => ⟨q, rfl, nq, rfl⟩⟩
theorem isNm_ok {e : Expr} {x : Str} (h : isNm e x = true) : ∃ q, e = .Name x q := asName_ok (eq_of_beq h)
theorem ev_add (k : KdX X p me d) (hs : σ[0]? = some (some (.ref p.1))) (dk : DxOk H d) {cs ks : List Str} {e : Expr} {a : Addr} (h : addOf cs e = true) (hc : ∀ c ∈ cs, c ∈ KN) (hz : cs.length ≤ 20) (hk : ks.length ≤ 20) (h2 : σ[2]? = some (some (.ref a))) (ha : H a = some (.lst (bls me ks))) :
    Ev X e σ H fun v H' => ∃ q, v = .ref q ∧ (∀ b o, H b = some o → H' b = some o) ∧ H q = none ∧ H' q = some (.lst (bls me (ks ++ cs))) := by
  unfold addOf at h
  split at h
  · rename_i x o y hb
    obtain ⟨h1, h⟩ := Bool.a2 h
    obtain ⟨h3, h4⟩ := Bool.a2 h
    have h1 := of_decide_eq_true h1
    subst h1
    obtain ⟨q1, rfl⟩ := asBin_ok hb
    obtain ⟨q2, rfl⟩ := isNm_ok h3
    refine Ev.of (pe_op op_cat (pe_var (i := 2) (by rw [k.hN]; rfl) (vis_of k.sF)) pe_self) ⟨_, h2, ?_⟩
    refine (ev_lst k hs dk h4 hc hz).mono fun v H' ⟨q, ev, nq, eH⟩ => ?_
    subst ev eH
    have hne : a ≠ q := fun z => by rw [z, nq] at ha; cases ha
    refine ⟨a, q, _, _, rfl, rfl, by rw [upd_ne hne]; exact ha, upd_same, ?_, fun r nr => ?_⟩
    · unfold bls
      rw [List.length_map, List.length_map]
      exact Nat.le_trans (Nat.add_le_add hk hz) (by decide)
    · have hrq : q ≠ r := fun z => by rw [← z, upd_same] at nr; cases nr
      have nr' : H r = none := by rw [upd_ne (Ne.symm hrq)] at nr; exact nr
      refine ⟨r, rfl, fun b o e => ?_, nr', ?_⟩
      · rw [upd_ne (fun z => by rw [z, nr'] at e; cases e), upd_ne (fun z => by rw [z, nq] at e; cases e)]
        exact e
      · rw [upd_same]
        unfold bls
        rw [List.map_append]
  · cases h
theorem setOf_ok {st : Stmt} {x : Str} {f : Expr → Bool} (h : setOf st x f = true) : ∃ q e q2, st = .Assign [.Name x q] e q2 ∧ compE e = false ∧ f e = true := by
  unfold setOf at h
  split at h
  · rename_i y q e q2 hs
    obtain ⟨h1, h⟩ := Bool.a2 h
    obtain ⟨h2, h3⟩ := Bool.a2 h
    rw [← eq_of_beq h1]
    exact ⟨q, e, q2, asSet_ok hs, by simpa using h2, h3⟩
  · cases h
theorem sv_set (k : KdX X p me d) {st : Stmt} {x : Str} {f : Expr → Bool} {i : Nat} {D : Ends} {Q : VK} (h : setOf st x f = true) (hi : kdN[i]? = some x) (hx : isS X.env.scope x = true) (w : ∀ e, f e = true → Ev X e σ H Q) (n : ∀ v H', Q v H' → D.nx (σ.set i (some v)) H') : Sv X st D σ H := by
  obtain ⟨q, e, q2, rfl, hc, hf⟩ := setOf_ok h
  exact Sv.of (ps_set (i := i) k.nd (by rw [k.hN]; exact hi) (loc_of hx) pe_self (swaps_no hc) (.inl (k.fn x))) ((w e hf).mono fun v H' z => n v H' z)
theorem ite_f {P Q : Prop} (h : Q) : if false = true then P else Q := h
theorem ite_t {P Q : Prop} (h : P) : if true = true then P else Q := h
/-! the comprehension -/
def kAcc (me : Str) (l : List Str) : List V := (l.filter fun c => c == me).map V.str
theorem kAcc_me : ∀ {me : Str}, me ∈ KN → kAcc me KN = [V.str me] := by
  have key : ∀ me ∈ KN, (KN.filter fun c => c == me) = [me] := by decide
  intro me h
  unfold kAcc
  rw [key me h]; rfl
theorem take_step {α : Type} {l : List α} {i : Nat} {x : α} (h : l[i]? = some x) : l.take (i + 1) = l.take i ++ [x] := by
  rw [List.take_add_one, h]; rfl
theorem kN_get {i : Nat} (h : i < KN.length) : KN[i]? = some KN[i] := List.getElem?_eq_getElem h
theorem ixN_of {n i : Nat} (h : i < n) : ixN n (i : Int) = some i := by
  unfold ixN
  rw [if_pos (Int.natCast_nonneg i)]
  simp [h]
theorem ev_comp (k : KdX X p me d) {a b : Addr} {c : CompP} (h1 : σ[1]? = some (some (.ref a))) (h2 : σ[2]? = some (some (.ref b))) (ha : H a = some (.lst (KN.map V.str))) (hb : H b = some (.lst (bls me KN)))
    (bk : blkB kdN X.env.scope c.sc [("k", 3)] = true) (kd : X.env.scope.kind = .function) (ht : isNm c.tg "k" = true) (hr : rngOf c.iter = true) (hq : (match c.ifs with | [q] => subOf "flags" q | _ => false) = true) (hel : subOf "names" c.elt = true) (sk : isS c.sc "k" = true) (fN : isF c.sc "names" = true) (fF : isF c.sc "flags" = true) (hl : σ.length = 4) :
    Ev X (.ListComp c.elt [⟨c.tg, c.iter, c.ifs, 0⟩] c.sc c.pos) σ H fun v H' => ∃ q, v = .ref q ∧ (∀ a o, H a = some o → H' a = some o) ∧ H q = none ∧ H' q = some (.lst (kAcc me KN)) := by
  obtain ⟨elt, tg, iter, ifs, csc, pos⟩ := c
  dsimp only at *
  obtain ⟨q1, rfl⟩ := isNm_ok ht
  obtain ⟨q, rfl⟩ : ∃ q, ifs = [q] := by
    split at hq
    · exact ⟨_, rfl⟩
    · cases hq
  dsimp only at hq
  have sub_ok : ∀ {x : Str} {e : Expr}, subOf x e = true → ∃ p1 p2 p3, e = .Subscript (.Name x p1) (.Name "k" p2) p3 := fun {x e} z => by
    unfold subOf at z
    split at z
    · rename_i u v he
      obtain ⟨z1, z2⟩ := Bool.a2 z
      obtain ⟨p3, rfl⟩ := asSub_ok he
      obtain ⟨p1, rfl⟩ := isNm_ok z1
      obtain ⟨p2, rfl⟩ := isNm_ok z2
      exact ⟨_, _, _, rfl⟩
    · cases z
  obtain ⟨r1, r2, r3, rfl⟩ := sub_ok hq
  obtain ⟨t1, t2, t3, rfl⟩ := sub_ok hel
  obtain ⟨u1, u2, u3, u4, u5, rfl⟩ : ∃ u1 u2 u3 u4 u5, iter = .Call (.Name "range" u1) [.Call (.Name "len" u2) [.Name "flags" u3] [] u4] [] u5 := by
    unfold rngOf at hr
    split at hr
    · rename_i f x hc
      obtain ⟨z1, z⟩ := Bool.a2 hr
      unfold lenOf at z
      split at z
      · rename_i g y hd
        obtain ⟨z2, z3⟩ := Bool.a2 z
        obtain ⟨u1, u5, rfl⟩ := asCall_ok hc
        obtain ⟨u2, u4, rfl⟩ := asCall_ok hd
        obtain ⟨u3, rfl⟩ := isNm_ok z3
        rw [eq_of_beq z1, eq_of_beq z2]
        exact ⟨_, _, _, _, _, rfl⟩
      · cases z
    · cases hr
  have sv : SV X X.env.scope := ⟨kd, fun _ e => e, fun _ e => e, fun _ e => e, fun _ e => e⟩
  have bo : BlkOk X.N X.env.scope csc [("k", 3)] := by
    have := blkB_ok (G := ⟨X, none, fun _ => False, H, 0⟩) (sc := X.env.scope) (s := csc) (own := [("k", 3)]) sv
    rw [k.hN] at this ⊢
    exact this bk
  have visF : ∀ {x : Str} (s : Shared) (Hb : Hp) (C : Addr) (cl : List (Str × Addr)) (fp : List Addr), isF csc x = true → Vis (blkZ X s Hb csc (compEnvC csc cl C X.env) fp p).env.scope x := fun {x} s Hb C cl fp z => by
    rcases relS_free (sc := X.env.scope) (isF_ok z) with y | y
    · exact .inr (.inl y)
    · exact .inr (.inr y)
  have locK : ∀ (s : Shared) (Hb : Hp) (C : Addr) (cl : List (Str × Addr)) (fp : List Addr), Loc (blkZ X s Hb csc (compEnvC csc cl C X.env) fp p).env.scope "k" := fun s Hb C cl fp => by
    rcases isS_ok sk with y | y
    · exact .inl (lookup_relS_keep (by decide) y)
    · exact .inr (lookup_relS_keep (by decide) y)
  have visK : ∀ (s : Shared) (Hb : Hp) (C : Addr) (cl : List (Str × Addr)) (fp : List Addr), Vis (blkZ X s Hb csc (compEnvC csc cl C X.env) fp p).env.scope "k" := fun s Hb C cl fp => (locK s Hb C cl fp).elim .inl fun z => .inr (.inl z)
  have at1 : X.N[1]? = some ("names" : Str) := by rw [k.hN]; rfl
  have at2 : X.N[2]? = some ("flags" : Str) := by rw [k.hN]; rfl
  have at3 : X.N[3]? = some ("k" : Str) := by rw [k.hN]; rfl
  have fnK : ∀ (s : Shared) (Hb : Hp) (C : Addr) (cl : List (Str × Addr)) (fp : List Addr), (blkZ X s Hb csc (compEnvC csc cl C X.env) fp p).fn "k" = true ∨ (blkZ X s Hb csc (compEnvC csc cl C X.env) fp p).env.scope.names.lookup ("k" : Str) = some .local := fun s Hb C cl fp => by
    rcases isS_ok sk with y | y
    · exact .inr (lookup_relS_keep (by decide) y)
    · refine .inl ?_
      show (csc.names.lookup ("k" : Str) == some NameKind.cell) = true
      rw [y]; rfl
  refine Ev.of (pe_lcZ (own := [("k", 3)]) (tt := fun σ H Q => tOp (rIx X.K) (tVar 2) (tVar 3) σ H fun x H' => ∃ k, TruV X.K x H' k ∧ Q k H') (te := tOp (rIx X.K) (tVar 1) (tVar 3)) k.hp k.hot k.nd (L2H.pi_range1H k.gR k.bR (pa_cons (pe_callB call_len k.gL k.bL boot_len (pa_cons (pe_var (i := 2) at2 (vis_of k.sF)) pa_nil)) pa_nil)) bo
    (fun s Hb C cl fp => pg_name (i := 3) k.nd at3 (locK s Hb C cl fp) (fnK s Hb C cl fp))
    (fun s Hb C cl fp => pts_one (pt_truth (pe_ix (show IxR (blkZ X s Hb csc (compEnvC csc cl C X.env) fp p) (rIx X.K) from ix_seq) (pe_var (X := blkZ X s Hb csc (compEnvC csc cl C X.env) fp p) (i := 2) at2 (visF s Hb C cl fp fF)) (pe_var (X := blkZ X s Hb csc (compEnvC csc cl C X.env) fp p) (i := 3) at3 (visK s Hb C cl fp)) fun _ _ => rfl) fun _ => rfl))
    (fun s Hb C cl fp => pe_ix (show IxR (blkZ X s Hb csc (compEnvC csc cl C X.env) fp p) (rIx X.K) from ix_seq) (pe_var (X := blkZ X s Hb csc (compEnvC csc cl C X.env) fp p) (i := 1) at1 (visF s Hb C cl fp fN)) (pe_var (X := blkZ X s Hb csc (compEnvC csc cl C X.env) fp p) (i := 3) at3 (visK s Hb C cl fp)) fun _ _ => rfl)) ?_
  have len18 : (bls me KN).length = 18 := by unfold bls; rw [List.length_map]; rfl
  have n18 : KN.length = 18 := rfl
  refine ⟨_, h2, V.ref b, (bls me KN).length, rfl, .inl ⟨_, .of hb, rfl⟩, ((bls me KN).length : Nat), rfl, by omega, by rw [len18]; decide, fun L nL => ?_⟩
  rw [len18]
  have hLa : a ≠ L := fun z => by rw [z, nL] at ha; cases ha
  have hLb : b ≠ L := fun z => by rw [z, nL] at hb; cases hb
  refine ⟨fun i m H' => m = 18 - i ∧ i ≤ 18 ∧ (∀ x o, H x = some o → H' x = some o) ∧ H' L = some (.lst (kAcc me (KN.take i))), ⟨18, rfl, by omega, fun x o e => by rw [upd_ne (fun z => by rw [z, nL] at e; cases e)]; exact e, upd_same⟩, fun i m H' ⟨em, hi, kp, eL⟩ => ?_⟩
  by_cases hi' : i < 18
  · refine .inr ⟨hi', fun H'' => (∀ x o, H x = some o → H'' x = some o) ∧ H'' L = some (.lst (kAcc me (KN.take (i + 1)))), fun H'' ⟨z1, z2⟩ => ⟨18 - (i + 1), by omega, rfl, by omega, z1, z2⟩, fun x H2 ⟨eH, ex⟩ => ?_⟩
    subst eH ex
    have w1 : (wipe σ [3]) = σ.set 3 none := rfl
    have hset : ((wipe σ [3]).set 3 (some (V.int (0 + (i : Nat)))))[3]? = some (some (.int (0 + (i : Nat)))) := by
      rw [List.getElem?_set_self (by rw [wipe_length, hl]; decide)]
    have g1 : ((wipe σ [3]).set 3 (some (V.int (0 + (i : Nat)))))[1]? = some (some (.ref a)) := by
      rw [List.getElem?_set_ne (by decide), w1, List.getElem?_set_ne (by decide)]; exact h1
    have g2 : ((wipe σ [3]).set 3 (some (V.int (0 + (i : Nat)))))[2]? = some (some (.ref b)) := by
      rw [List.getElem?_set_ne (by decide), w1, List.getElem?_set_ne (by decide)]; exact h2
    refine ⟨?_, ?_⟩
    · show (((wipe σ [3]).set 3 _).set 3 none) = σ.set 3 none
      rw [w1, List.set_set, List.set_set]
    · have hi2 : i < KN.length := by rw [n18]; exact hi'
      have e0 : (0 : Int) + (i : Nat) = (i : Nat) := by omega
      have ix1 : atI (bls me KN) (0 + (i : Nat) : Int) = some (V.bl (KN[i] == me)) := by
        rw [e0]
        unfold L2.atI
        rw [len18, ixN_of hi']
        show (bls me KN)[i]? = _
        unfold bls
        rw [List.getElem?_map, kN_get hi2]; rfl
      have ix2 : atI (KN.map V.str) (0 + (i : Nat) : Int) = some (V.str KN[i]) := by
        rw [e0]
        unfold L2.atI
        rw [List.length_map, n18, ixN_of hi']
        show (KN.map V.str)[i]? = _
        rw [List.getElem?_map, kN_get hi2]; rfl
      refine ⟨_, g2, _, hset, .inl ⟨b, _, _, _, rfl, rfl, .of (kp _ _ hb), ix1, ?_⟩⟩
      refine ⟨(KN[i] == me), rfl, ?_⟩
      have tk := take_step (kN_get hi2)
      cases hb2 : (KN[i] == me) with
      | false =>
        refine ite_f ?_
        refine ⟨kp, ?_⟩
        rw [eL, tk]
        unfold kAcc
        rw [List.filter_append, List.filter_cons, hb2]
        simp
      | true =>
        refine ite_t ?_
        refine ⟨_, g1, _, hset, .inl ⟨a, _, _, _, rfl, rfl, .of (kp _ _ ha), ix2, ?_⟩⟩
        refine ⟨_, eL, ?_, fun x o e => by rw [upd_ne (fun z => by rw [z, nL] at e; cases e)]; exact kp x o e, ?_⟩
        · have z1 : (kAcc me (KN.take i)).length ≤ 18 := by
            unfold kAcc
            rw [List.length_map]
            refine Nat.le_trans (List.length_filter_le _ _) ?_
            rw [List.length_take]
            exact Nat.le_trans (Nat.min_le_left _ _) hi
          exact Nat.lt_of_le_of_lt z1 (by decide)
        · rw [upd_same, tk]
          unfold kAcc
          rw [List.filter_append, List.filter_cons, hb2]
          simp
  · have e18 : i = 18 := by omega
    refine .inl ⟨by show 18 ≤ i; omega, L, rfl, kp, nL, ?_⟩
    rw [eL, e18]
    rfl
/-! the def -/
/-- its promise -/
def spKd (K : PySem.W.Frag) (ms : List Str) (a : Addr) (cls : Value) (d : Option Addr) (H : Hp) (Q : VK) : Prop := ∃ me ∈ ms, cls = .ref (He.ga K me) ∧ DxOk H d ∧ ∀ H' q, (∀ a o, H a = some o → H' a = some o) → H q = none → H' q = some (.lst [.str me]) → Q (.ref q) H'
structure KdM (m : Mo) (ms : List Str) : Prop where
  kn : ∀ me ∈ ms, me ∈ KN
  xc : ∀ me ∈ ms, XcC m.K (He.ga m.K me)
  kit : ∀ me ∈ ms, ∀ c ∈ KN, PySem.W.kitOne m.K (.ref (He.ga m.K me)) (.ref (He.ga m.K c)) = some (c == me)
  mg : ∀ c ∈ KN, m.mg c = some (.ref (He.ga m.K c))
  bI : m.mg "isinstance" = none
  bL : m.mg "len" = none
  bR : m.mg "range" = none
theorem DxOk.mono {H H' : Hp} (k : ∀ a o, H a = some o → H' a = some o) {d : Option Addr} (h : DxOk H d) : DxOk H' d := by
  cases d with
  | none => trivial
  | some dd =>
    obtain ⟨fs, e⟩ := h
    exact ⟨fs, k _ _ e⟩
theorem body_kinds {body : List Stmt} (k : KdX X p me d) (hme : me ∈ KN) (kd : X.env.scope.kind = .function) (hb : kindsB X.env.scope body = true) {Q : VK} (hs : σ = [some (.ref p.1), none, none, none]) (dk : DxOk H d)
    (hQ : ∀ H' q, (∀ a o, H a = some o → H' a = some o) → H q = none → H' q = some (.lst [.str me]) → Q (.ref q) H') : Svs X body { nx := fun _ H' => Q .non H', rt := Q } σ H := by
  subst hs
  obtain ⟨s1, s2, s3, s4, s5, s6, s7, s8, rfl⟩ : ∃ s1 s2 s3 s4 s5 s6 s7 s8, body = [s1, s2, s3, s4, s5, s6, s7, s8] := by
    unfold kindsB at hb
    split at hb
    · exact ⟨_, _, _, _, _, _, _, _, rfl⟩
    · cases hb
  unfold kindsB at hb
  dsimp only at hb
  obtain ⟨c1, hb⟩ := Bool.a2 hb
  obtain ⟨c2, hb⟩ := Bool.a2 hb
  obtain ⟨c3, hb⟩ := Bool.a2 hb
  obtain ⟨c4, hb⟩ := Bool.a2 hb
  obtain ⟨c5, hb⟩ := Bool.a2 hb
  obtain ⟨c6, hb⟩ := Bool.a2 hb
  obtain ⟨c7, c8⟩ := Bool.a2 hb
  refine Svs.of (pss_cons ps_self (pss_cons ps_self (pss_cons ps_self (pss_cons ps_self (pss_cons ps_self (pss_cons ps_self (pss_cons ps_self (pss_one ps_self)))))))) ?_
  -- names
  refine sv_set (i := 1) (Q := fun v H' => v = .str KS1 ∧ H' = H) k c1 rfl k.sN (fun e he => ?_) fun v H' ⟨ev, eH⟩ => ?_
  · obtain ⟨j, q, rfl⟩ := asCon_ok (eq_of_beq he)
    exact Ev.of pe_str ⟨rfl, rfl⟩
  subst ev eH
  refine sv_set (i := 1) (Q := fun v H2 => ∃ q, v = .ref q ∧ H' q = none ∧ H2 = upd H' q (.lst (KN.map V.str))) k c2 rfl k.sN (fun e he => ?_) fun v H2 ⟨q1, ev, nq1, eH⟩ => ?_
  · split at he
    · rename_i o a hsp
      obtain ⟨z1, z2⟩ := Bool.a2 he
      split at z1
      · rename_i x q y hbn
        obtain ⟨z3, z⟩ := Bool.a2 z1
        obtain ⟨z4, z5⟩ := Bool.a2 z
        have z3 := of_decide_eq_true z3
        subst z3
        obtain ⟨r1, rfl⟩ := asBin_ok hbn
        obtain ⟨r2, rfl⟩ := isNm_ok z4
        obtain ⟨j1, r3, rfl⟩ := asCon_ok (eq_of_beq z5)
        obtain ⟨j2, r4, rfl⟩ := asCon_ok (eq_of_beq z2)
        unfold asSplit at hsp
        split at hsp
        · split at hsp
          · rename_i hl
            cases hsp
            obtain ⟨hl1, hl2⟩ := Bool.a2 hl
            rw [eq_of_beq hl1]
            refine Ev.of (pe_split (pe_op op_add_str (pe_var (i := 1) (by rw [k.hN]; rfl) (vis_of k.sN)) pe_str) pe_str (hline := hl2)) ?_
            refine ⟨_, rfl, KS1, KS2, rfl, rfl, by decide, ⟨_, rfl⟩, KS1 ++ KS2, " ", rfl, rfl, by decide, by decide, fun q nq => ⟨q, rfl, nq, by rw [split_KN]⟩⟩
          · cases hsp
        · cases hsp
      · cases z1
    · cases he
  subst ev
  have k2 : ∀ a o, H' a = some o → H2 a = some o := fun a o e => by rw [eH, upd_ne (fun z => by rw [z, nq1] at e; cases e)]; exact e
  have at1 : H2 q1 = some (.lst (KN.map V.str)) := by rw [eH, upd_same]
  -- flags
  refine sv_set (i := 2) k c3 rfl k.sF (fun e he => ev_lst k rfl (dk.mono k2) he (by decide) (by decide)) fun v H3 ⟨q2, ev, nq2, eH3⟩ => ?_
  subst ev
  have k3 : ∀ a o, H2 a = some o → H3 a = some o := fun a o e => by rw [eH3, upd_ne (fun z => by rw [z, nq2] at e; cases e)]; exact e
  have at2 : H3 q2 = some (.lst (bls me KN1)) := by rw [eH3, upd_same]
  refine sv_set (i := 2) k c4 rfl k.sF (fun e he => ev_add k rfl ((dk.mono k2).mono k3) he (by decide) (by decide) (by decide) rfl at2) fun v H4 ⟨q3, ev, k4, _, at3⟩ => ?_
  subst ev
  refine sv_set (i := 2) k c5 rfl k.sF (fun e he => ev_add k rfl (((dk.mono k2).mono k3).mono k4) he (by decide) (by decide) (by decide) rfl at3) fun v H5 ⟨q4, ev, k5, _, at4⟩ => ?_
  subst ev
  refine sv_set (i := 2) k c6 rfl k.sF (fun e he => ev_add k rfl ((((dk.mono k2).mono k3).mono k4).mono k5) he (by decide) (by decide) (by decide) rfl at4) fun v H6 ⟨q5, ev, k6, _, at5⟩ => ?_
  subst ev
  refine sv_set (i := 2) k c7 rfl k.sF (fun e he => ev_add k rfl (((((dk.mono k2).mono k3).mono k4).mono k5).mono k6) he (by decide) (by decide) (by decide) rfl at5) fun v H7 ⟨q6, ev, k7, _, at6⟩ => ?_
  subst ev
  have kk : ∀ a o, H2 a = some o → H7 a = some o := fun a o e => k7 _ _ (k6 _ _ (k5 _ _ (k4 _ _ (k3 _ _ e))))
  split at c8
  · rename_i e hr
    obtain ⟨q, rfl⟩ := asRet_ok hr
    split at c8
    · rename_i c hc
      rw [asComp_ok hc]
      obtain ⟨b1, c8⟩ := Bool.a2 c8
      obtain ⟨b2, c8⟩ := Bool.a2 c8
      obtain ⟨b3, c8⟩ := Bool.a2 c8
      obtain ⟨b4, c8⟩ := Bool.a2 c8
      obtain ⟨b5, c8⟩ := Bool.a2 c8
      obtain ⟨b6, c8⟩ := Bool.a2 c8
      obtain ⟨b7, b8⟩ := Bool.a2 c8
      refine Sv.of (ps_ret pe_self) ((ev_comp k (a := q1) (b := q6) rfl rfl (kk _ _ at1) at6 b1 kd b2 b3 b4 b5 b6 b7 b8 rfl).mono fun v H8 ⟨qr, ev, k8, nr, er⟩ => ?_)
      subst ev
      rw [kAcc_me hme] at er
      have nr' : H' qr = none := by
        cases z : H' qr with
        | none => rfl
        | some o =>
          have := kk _ _ (k2 _ _ z)
          rw [nr] at this; cases this
      exact hQ H8 qr (fun a o e => k8 _ _ (kk _ _ (k2 _ _ e))) nr' er
    · cases c8
  · cases c8
end
end Pd
end
section
set_option Elab.async false
set_option linter.all false
set_option maxRecDepth 100000
set_option maxHeartbeats 400000
namespace Pd
open PySem PySem.Spec PyProof.Rows L2
theorem kd_start {a : Addr} : start kdN [V.ref a] = [some (.ref a), none, none, none] := rfl
theorem kinds_ok {m : Mo} {ms : List Str} {x qual : Str} {params : Arguments} {body : List Stmt} {scope : Scope} {kws : List (Str × V)} {f : Addr} {fd : FuncData} (F : FunD m.K x qual params body scope [] kws f fd) (M : KdM m ms) (hS : scB kdN ["e"] scope = true) (hB : kindsB scope body = true) (hC : kdScB scope = true) :
    FnX m.prog m.w m.K m.mg m.base 1 f fd ["e"] (spKd m.K ms) := by
  have S := scB_ok hS
  refine fnx_of F S rfl fun cdv A outer s H p cls d Q E hot zc room h => ?_
  obtain ⟨me, hme, rfl, dk, hQ⟩ := h
  unfold kdScB at hC
  obtain ⟨g1, hC⟩ := Bool.a2 hC
  obtain ⟨g2, hC⟩ := Bool.a2 hC
  obtain ⟨g3, hC⟩ := Bool.a2 hC
  obtain ⟨g4, hC⟩ := Bool.a2 hC
  obtain ⟨g5, hC⟩ := Bool.a2 hC
  obtain ⟨g6, g7⟩ := Bool.a2 hC
  have gl : ∀ c ∈ KN, Gl (L2H.cxH (L2N.CX m.prog m.w) m.prog m.w m.K m.mg m.base kdN qual scope f cdv A outer s H E p) c := fun c hc => isG_ok (List.all_eq_true.mp g7 c hc)
  have k : KdX (L2H.cxH (L2N.CX m.prog m.w) m.prog m.w m.K m.mg m.base kdN qual scope f cdv A outer s H E p) p me d := {
    hp := List.mem_cons_self
    hot := hot
    zc := zc
    xc := M.xc me hme
    kit := M.kit me hme
    mg := M.mg
    gl := gl
    hN := rfl
    nd := S.nd
    fn := fun _ => rfl
    sE := g1
    sN := g2
    sF := g3
    gI := isG_ok g4
    gL := isG_ok g5
    gR := isG_ok g6
    bI := M.bI
    bL := M.bL
    bR := M.bR }
  have hk : (L2H.cxH (L2N.CX m.prog m.w) m.prog m.w m.K m.mg m.base kdN qual scope f cdv A outer s H E p).env.scope.kind = .function := S.kind
  exact body_kinds (me := me) (p := p) (d := d) k (M.kn me hme) hk hB kd_start dk hQ
end Pd
end
section
set_option Elab.async false
set_option linter.all false
set_option maxRecDepth 100000
set_option maxHeartbeats 1000000
/-! ## try: .. except C as e: return ("refused", _law_kinds(e) ..) -/
namespace Pd
open PySem PySem.Spec PyProof.Rows L2
/-- what the clauses make of an exception -/
def hdR (P : D → Bool → Prop) : List Hd → Exn → Prop
  | [], _ => False
  | (cn, fld) :: r, e => if (cn == ("NearError" : Str) || cn == e.cls) = true then (match fld with
      | none => P (.tup [.str "refused", .lst [.str e.cls]]) false
      | some f => ∃ v, e.fs.lookup f = some v ∧ P (.tup [.str "refused", .lst [.str e.cls], .int v]) false) else hdR P r e
structure HdM (m : Mo) (ms : List Str) (hs : List Hd) : Prop where
  gl : ∀ h ∈ hs, m.mg h.1 = some (.ref (He.ga m.K h.1)) ∧ (h.1 == ("__debug__" : Str)) = false
  ex : ∀ h ∈ hs, ∀ me ∈ ms, PySem.W.exmOne m.K (.ref (He.ga m.K me)) (.ref (He.ga m.K h.1)) = some (h.1 == ("NearError" : Str) || h.1 == me)
  fl : ∀ h ∈ hs, ∀ f, h.2 = some f → (h.1 == ("NearError" : Str)) = false ∧ XfC m.K (He.ga m.K h.1) ∧ PySem.W.findIn m.K (.ref (He.ga m.K h.1)) f = some none
def isKd (e : Expr) : Bool := match asCall e with | some (f, [x]) => f == ("_law_kinds" : Str) && isNm x "e" | _ => false
def isFl (e : Expr) (f : Str) : Bool := match asAttr e with | some (x, n) => n == f && isNm x "e" | none => false
def retB (sc : Scope) (st : Stmt) (fld : Option Str) : Bool := match asRet st with
  | some (some e) => (match asTup e, fld with
    | some [a, b], none => asCon a == some (.str "refused") && isKd b
    | some [a, b, c], some f => asCon a == some (.str "refused") && (isKd b && isFl c f)
    | _, _ => false)
  | _ => false
def hdsB (sc : Scope) : List ExceptHandler → List Hd → Bool
  | [], [] => true
  | h :: r, (cn, fld) :: l => (match h with
    | .ExceptHandler (some ty) (some n) [st] _ => isNm ty cn && (n == ("e" : Str) && retB sc st fld)
    | _ => false) && (isG sc cn && hdsB sc r l)
  | _, _ => false
def catchB (N : List Str) (lv i : Nat) (ir : Sms) (hs : List Hd) (sc : Scope) (body : List Stmt) : Bool := match body with
  | [.Try bT hds [] [] _] => cSs N lv ir sc bT && (hdsB sc hds hs && (!hs.isEmpty && (atN N i "e" && (decide (1 ≤ lv) && (isG sc "_law_kinds" && decide (sc.names.lookup ("e" : Str) = some .local))))))
  | _ => false
/-- _law_kinds where it is called -/
structure KdAt (m : Mo) (ms : List Str) where
  f : Addr
  fd : FuncData
  ok : FnX m.prog m.w m.K m.mg m.base 1 f fd ["e"] (spKd m.K ms)
  mg : m.mg "_law_kinds" = some (.ref f)
  kp : PySem.W.keepIn m.K (.ref f) = true
  bi : Binds m.K fd ["e"] []
section
variable {X : Cx} {ms : List Str} {i : Nat} {σ : L2.St} {H : Hp} {me : Str} {d : Option Addr} {a : Addr} {oe : Obj} {pn : List (Addr × Obj)} {De : Ends} {g : Option Rg} {h : Addr → Prop} {H0 : Hp} {P : D → Bool → Prop}
theorem isKd_ok {e : Expr} (h : isKd e = true) : ∃ p1 p2 p3, e = .Call (.Name "_law_kinds" p1) [.Name "e" p2] [] p3 := by
  unfold isKd at h
  split at h
  · rename_i f x hc
    obtain ⟨h1, h2⟩ := Bool.a2 h
    obtain ⟨p1, p3, rfl⟩ := asCall_ok hc
    obtain ⟨p2, rfl⟩ := isNm_ok h2
    rw [eq_of_beq h1]
    exact ⟨_, _, _, rfl⟩
  · cases h
theorem isFl_ok {e : Expr} {f : Str} (h : isFl e f = true) : ∃ p1 p2, e = .Attribute (.Name "e" p1) f p2 := by
  unfold isFl at h
  split at h
  · rename_i x n hc
    obtain ⟨h1, h2⟩ := Bool.a2 h
    obtain ⟨p2, rfl⟩ := asAttr_ok hc
    obtain ⟨p1, rfl⟩ := isNm_ok h2
    rw [eq_of_beq h1]
    exact ⟨_, _, rfl⟩
  · cases h
/-- a suite's return -/
theorem suite_ret {m : Mo} (hm : moOf X = m) (K : KdAt m ms) {st : Stmt} {fld : Option Str} {fs : List (Str × Int)} (hb : retB X.env.scope st fld = true) (hi : X.N[i]? = some ("e" : Str)) (he : X.env.scope.names.lookup ("e" : Str) = some .local) (gk : Gl X "_law_kinds") (room : Room 1 X.A)
    (hme : me ∈ ms) (zn : L2N.Zn (.ref (He.ga X.K me)) d oe) (hf : ∃ vs, oe.data = .fields vs) (hxf : ∀ f, fld = some f → XfC X.K (He.ga X.K me) ∧ PySem.W.findIn X.K (.ref (He.ga X.K me)) f = some none)
    (hd : (fs = [] ∧ d = none) ∨ ∃ dd fv, d = some dd ∧ H dd = some (.xd fv) ∧ ∀ p ∈ fs, fv.lookup p.1 = some (.int p.2)) (hs : σ[i]? = some (some (.ref a)))
    (hQ : ∀ H' T q xs, (∀ b o, H b = some o → H' b = some o) → H T = none → H q = none → H' q = some (.lst [.str me]) → H' T = some (.tup (.str "refused" :: .ref q :: xs)) → (match fld with | none => xs = [] | some f => ∃ v, fs.lookup f = some v ∧ xs = [.int v]) → De.rt (.ref T) H')
    (hv : ∀ f, fld = some f → ∃ v, fs.lookup f = some v) : Svs (X.suite a ((a, oe) :: pn)) [st] De σ H := by
  subst hm
  have vE : Vis (X.suite a ((a, oe) :: pn)).env.scope "e" := .inl he
  obtain ⟨vs, dv⟩ := hf
  have rh : L2H.RoomH 1 (X.suite a ((a, oe) :: pn)).A := ⟨room.dp, room.un⟩
  have hot : L2H.Hot1 (X.suite a ((a, oe) :: pn)).A (a, oe) := ⟨rfl, vs, dv, zn.2.2 vs dv⟩
  have dk : DxOk H d := by
    rcases hd with ⟨_, z⟩ | ⟨dd, fv, z, e, _⟩
    · rw [z]; trivial
    · rw [z]; exact ⟨_, e⟩
  unfold retB at hb
  split at hb
  · rename_i e hr
    obtain ⟨q0, rfl⟩ := asRet_ok hr
    refine Svs.of (pss_one ps_self) ?_
    split at hb
    · rename_i x y ht
      obtain ⟨b1, b2⟩ := Bool.a2 hb
      obtain ⟨k0, q1, rfl⟩ := asTup_ok ht
      obtain ⟨j, q2, rfl⟩ := asCon_ok (eq_of_beq b1)
      obtain ⟨q3, q4, q5, rfl⟩ := isKd_ok b2
      have call := pe_callX (X := X.suite a ((a, oe) :: pn)) (q1 := q3) (q2 := q4) (pos := q5) K.ok rh (p := (a, oe)) List.mem_cons_self hot zn.zc (show Gl (X.suite a ((a, oe) :: pn)) "_law_kinds" from gk) K.mg K.kp K.bi (pe_var (i := i) hi vE) (by decide)
      refine Sv.of (ps_ret (pe_tup (pa_cons pe_str (pa_cons call pa_nil)))) ?_
      refine ⟨hs, me, hme, rfl, dk, fun H' q k nq eq => ⟨show 2 ≤ sizeLine by decide, fun T nT => ?_⟩⟩
      have nT0 : H T = none := by
        cases z : H T with
        | none => rfl
        | some o => have := k _ _ z; rw [nT] at this; cases this
      have qT : q ≠ T := fun z => by rw [z, nT] at eq; cases eq
      exact hQ _ T q [] (fun b o e => by rw [upd_ne (fun z => by rw [z, nT0] at e; cases e)]; exact k _ _ e) nT0 nq (by rw [upd_ne qT]; exact eq) upd_same rfl
    · rename_i x y z f ht
      obtain ⟨b1, b⟩ := Bool.a2 hb
      obtain ⟨b2, b3⟩ := Bool.a2 b
      obtain ⟨k0, q1, rfl⟩ := asTup_ok ht
      obtain ⟨j, q2, rfl⟩ := asCon_ok (eq_of_beq b1)
      obtain ⟨q3, q4, q5, rfl⟩ := isKd_ok b2
      obtain ⟨q6, q7, rfl⟩ := isFl_ok b3
      have call := pe_callX (X := X.suite a ((a, oe) :: pn)) (q1 := q3) (q2 := q4) (pos := q5) K.ok rh (p := (a, oe)) List.mem_cons_self hot zn.zc (show Gl (X.suite a ((a, oe) :: pn)) "_law_kinds" from gk) K.mg K.kp K.bi (pe_var (i := i) hi vE) (by decide)
      have fld := pe_xf (X := X) (a := a) (oe := oe) (pn := pn) (pos := q7) (hxf f rfl).1 (hxf f rfl).2 zn.zc ⟨vs, dv⟩ (pe_var (X := X.suite a ((a, oe) :: pn)) (i := i) (pos := q6) hi vE)
      refine Sv.of (ps_ret (pe_tup (pa_cons pe_str (pa_cons call (pa_cons fld pa_nil))))) ?_
      obtain ⟨v, lv⟩ := hv f rfl
      refine ⟨hs, me, hme, rfl, dk, fun H' q k nq eq => ⟨_, hs, rfl, rfl, ?_⟩⟩
      rcases hd with ⟨z, _⟩ | ⟨dd, fv, ed, e2, e3⟩
      · rw [z] at lv; cases lv
      · refine ⟨dd, fv, .int v, ed, k _ _ e2, e3 (f, v) (PySem.mem_of_lookup lv), show 3 ≤ sizeLine by decide, fun T nT => ?_⟩
        have nT0 : H T = none := by
          cases z : H T with
          | none => rfl
          | some o => have := k _ _ z; rw [nT] at this; cases this
        have qT : q ≠ T := fun z => by rw [z, nT] at eq; cases eq
        exact hQ _ T q [.int v] (fun b o e => by rw [upd_ne (fun z => by rw [z, nT0] at e; cases e)]; exact k _ _ e) nT0 nq (by rw [upd_ne qT]; exact eq) upd_same ⟨v, lv, rfl⟩
    · cases hb
  · cases hb
/-! the clauses -/
/-- a suite by itself -/
def tSu (X : Cx) (suite : List Stmt) : Addr → Value → Option Addr → TS := fun a cls d De σ H => ∀ (oe : Obj) (pn : List (Addr × Obj)), L2N.Zn cls d oe → (∃ vs, oe.data = .fields vs) → Svs (X.suite a ((a, oe) :: pn)) suite De σ H
def clsOf (X : Cx) (K : PySem.W.Frag) : List ExceptHandler → List Hd → List Cl
  | .ExceptHandler _ _ su _ :: r, (cn, _) :: l => (.ref (He.ga K cn), tSu X su) :: clsOf X K r l
  | _, _ => []
theorem clz_ok {m : Mo} {hs0 : List Hd} (hm : moOf X = m) (M : HdM m ms hs0) : ∀ {hds : List ExceptHandler} {hs : List Hd}, hdsB X.env.scope hds hs = true → (∀ h ∈ hs, h ∈ hs0) → ClzOk X "e" hds (clsOf X m.K hds hs)
  | [], [], _, _ => .nil
  | [], _ :: _, h, _ => by cases h
  | _ :: _, [], h, _ => by cases h
  | hd :: r, (cn, fld) :: l, h, hh => by
    subst hm
    unfold hdsB at h
    obtain ⟨h1, h2⟩ := Bool.a2 h
    obtain ⟨h2, h3⟩ := Bool.a2 h2
    split at h1
    · rename_i ty n st pos
      obtain ⟨h4, h5⟩ := Bool.a2 h1
      obtain ⟨h5, h6⟩ := Bool.a2 h5
      obtain ⟨q, rfl⟩ := isNm_ok h4
      have en := eq_of_beq h5
      subst en
      obtain ⟨g1, g2⟩ := M.gl (cn, fld) (hh _ (List.mem_cons_self ..))
      refine .cons ⟨isG_ok h2, g2, .inl g1⟩ (fun a oe cls d pn zn hf => ⟨fun pins s σ H De I w => w oe pn zn hf pins s I⟩) (clz_ok rfl M h3 fun x hx => hh x (List.mem_cons_of_mem _ hx))
    · cases h1
theorem clz_rd {m : Mo} {hs0 : List Hd} {Wout : WX} {De : Ends} (hm : moOf X = m) (M : HdM m ms hs0) (K : KdAt m ms) (hi : X.N[i]? = some ("e" : Str)) (he : X.env.scope.names.lookup ("e" : Str) = some .local) (gk : Gl X "_law_kinds") (room : Room 1 X.A) (hl : i < σ.length) (hme : me ∈ ms) {fs : List (Str × Int)}
    (hd : (fs = [] ∧ d = none) ∨ ∃ dd fv, d = some dd ∧ H dd = some (.xd fv) ∧ ∀ p ∈ fs, fv.lookup p.1 = some (.int p.2))
    (hQ : ∀ H' T q xs dd, (∀ b o, H b = some o → H' b = some o) → H T = none → H q = none → H' q = some (.lst [.str me]) → H' T = some (.tup (.str "refused" :: .ref q :: xs)) → DrL X.K g (hid h H') xs dd → P (.tup (.str "refused" :: .lst [.str me] :: dd)) false → De.rt (.ref T) H') :
    ∀ {hds : List ExceptHandler} {hs : List Hd}, hdsB X.env.scope hds hs = true → (∀ h ∈ hs, h ∈ hs0) → hdR P hs ⟨me, fs⟩ → wClz X.K i Wout De (clsOf X m.K hds hs) (.ref (He.ga X.K me)) d σ H
  | [], [], _, _, w => w.elim
  | [], _ :: _, h, _, _ => by cases h
  | _ :: _, [], h, _, _ => by cases h
  | hd1 :: r, (cn, fld) :: l, h, hh, w => by
    subst hm
    unfold hdsB at h
    obtain ⟨h1, h2⟩ := Bool.a2 h
    obtain ⟨h2, h3⟩ := Bool.a2 h2
    split at h1
    · rename_i ty n st pos
      obtain ⟨h4, h5⟩ := Bool.a2 h1
      obtain ⟨h5, h6⟩ := Bool.a2 h5
      have mem := hh (cn, fld) (List.mem_cons_self ..)
      refine ⟨_, M.ex _ mem me hme, fun yes a na oe pn zn hf => ?_, fun no => ?_⟩
      · unfold hdR at w
        rw [if_pos yes] at w
        have xf : ∀ f, fld = some f → XfC X.K (He.ga X.K me) ∧ PySem.W.findIn X.K (.ref (He.ga X.K me)) f = some none := fun f ef => by
          obtain ⟨z1, z2, z3⟩ := M.fl _ mem f ef
          have em : cn = me := by
            rw [z1, Bool.false_or] at yes
            exact eq_of_beq yes
          rw [← em]
          exact ⟨z2, z3⟩
        refine suite_ret (X := X) (m := moOf X) (fld := fld) (fs := fs) rfl K h6 hi he gk room hme zn hf xf hd (by rw [List.getElem?_set_self hl]) (fun H' T q xs k nT nq eq eT ex => ?_) fun f ef => ?_
        · cases fld with
          | none =>
            dsimp only at ex w
            subst ex
            exact hQ H' T q [] [] k nT nq eq eT .nil w
          | some f =>
            dsimp only at ex w
            obtain ⟨v, e1, w⟩ := w
            obtain ⟨v', e2, e3⟩ := ex
            rw [e1] at e2
            cases e2
            subst e3
            exact hQ H' T q [.int v] [.int v] k nT nq eq eT (.cons (.int v) .nil) w
        · subst ef
          dsimp only at w
          obtain ⟨v, e1, _⟩ := w
          exact ⟨v, e1⟩
      · unfold hdR at w
        rw [if_neg (by rw [no]; exact Bool.false_ne_true)] at w
        exact clz_rd rfl M K hi he gk room hl hme hd hQ h3 (fun x hx => hh x (List.mem_cons_of_mem _ hx)) w
    · cases h1
/-- the def keeps its promise -/
theorem catch_ok {m : Mo} {x qual : Str} {params : Arguments} {body : List Stmt} {scope : Scope} {dvs : List V} {kws : List (Str × V)} {f : Addr} {fd : FuncData} {N ps : List Str} {lv i : Nat} (F : FunD m.K x qual params body scope dvs kws f fd) (ir : Sms) (sp : Spec) {hs : List Hd} (M : HdM m ms hs) (K : KdAt m ms)
    (hbi : ∀ x ∈ BI, m.mg x = none) (hS : scB N ps scope = true) (hck : catchB N lv i ir hs scope body = true) (hok : okSs m ir)
    (hw : ∀ ds P R, ds.length = ps.length → sp ds P R → wSs ir (fun e => e.cls ∈ ms ∧ hdR P hs e) (rho0 N ds) (E0 P)) : FnOk m.prog m.w m.K m.mg m.base (L2N.CX m.prog m.w) (lv + 1) f fd ps (spOf m.K ps.length sp) := by
  have S := scB_ok hS
  refine F.ok S (fun vs H Q E h => spOf_len h) fun cdv A outer s H vs Q E hr h => ⟨_, pss_self, ?_⟩
  obtain ⟨g, h, ds, P, R, hl, hadr, htrk, hrok, r, hsp, hQ, hE⟩ := h
  obtain ⟨bT, hds, pos, rfl, hck⟩ : ∃ bT hds pos, body = [.Try bT hds [] [] pos] ∧ (cSs N lv ir scope bT && (hdsB scope hds hs && (!hs.isEmpty && (atN N i "e" && (decide (1 ≤ lv) && (isG scope "_law_kinds" && decide (scope.names.lookup ("e" : Str) = some .local))))))) = true := by
    unfold catchB at hck
    split at hck
    · exact ⟨_, _, _, rfl, hck⟩
    · cases hck
  obtain ⟨k1, hck⟩ := Bool.a2 hck
  obtain ⟨k2, hck⟩ := Bool.a2 hck
  obtain ⟨k3, hck⟩ := Bool.a2 hck
  obtain ⟨k4, hck⟩ := Bool.a2 hck
  obtain ⟨k5, hck⟩ := Bool.a2 hck
  obtain ⟨k6, k7⟩ := Bool.a2 hck
  have k5 := of_decide_eq_true k5
  have k7 := of_decide_eq_true k7
  have hw := hw ds P R hl hsp
  generalize eX : cxOf (L2N.CX m.prog m.w) m.prog m.w m.K m.mg m.base N qual scope f cdv A outer s H E = X at *
  have hmo : moOf X = m := by rw [← eX]; rfl
  have hXN : X.N = N := by rw [← eX]; rfl
  have hXs : X.env.scope = scope := by rw [← eX]; rfl
  have st : X.stack = X.env :: X.outer := by rw [← eX]; rfl
  have fr : X.env.frame = some X.env.locals := by rw [← eX]; rfl
  have roomX : Room lv X.A := by rw [← eX]; exact hr
  have calm : X.calm = true := by rw [← eX]; rfl
  have fnX : ∀ x, X.fn x = true := by rw [← eX]; exact fun _ => rfl
  have tk : L2N.Takes X fun _ _ _ _ => False := by
    rw [← eX]
    exact (L2N.takes_of rfl rfl rfl rfl).imp fun _ _ _ _ z => z.elim
  clear eX
  subst hmo
  subst hXN
  subst hXs
  obtain ⟨h₀, hds', rfl⟩ : ∃ h₀ hds', hds = h₀ :: hds' := by
    cases hds with
    | nil =>
      cases hs with
      | nil => cases k3
      | cons a b => cases k2
    | cons a b => exact ⟨a, b, rfl⟩
  refine Svs.of (pss_one (ps_clauses (i := i) (n := "e") (tb := fun W De σ H => ∀ (pn : List (Addr × Obj)) (xe : Value → Shared → Prop), L2N.Takes (X.tr pn xe) W → PassesOwn (model X.prog X.w) X.A X.env xe → Svs (X.tr pn xe) bT De σ H) st fr S.nd (atN_ok k4) k7 tk
    (fun W pn xe t po => ⟨fun pins s σ H De I w => w pn xe t po pins s I⟩) (clz_ok (X := X) rfl M k2 fun _ z => z))) fun pn xe t po => ?_
  have gs : GS ⟨X.tr pn xe, g, h, H, lv⟩ X.env.scope (fun e => e.cls ∈ ms ∧ hdR P hs e) := by
    refine ⟨⟨⟨calm, S.nd, roomX, ⟨S.kind, fun _ e => e, fun _ e => e, fun _ e => e, fun _ e => e⟩, fun u s' ⟨a, B, sI, pins, σ, H', c, d, e, I, nb, up, sky, na, os, ag, w⟩ => t u s' ⟨a, B, sI, pins, σ, H', c, d, e, I, nb, up, sky, na, os, ag, ?_⟩, hbi⟩, fun x _ => fnX x⟩, po⟩
    obtain ⟨h', ρ, e, S', q, hme, hr⟩ := w
    obtain ⟨me, fs⟩ := e
    obtain ⟨ec, hd⟩ := q
    subst ec
    have len : i < σ.length := by
      have z : σ.length = X.N.length := I.len
      rw [z]
      exact (List.getElem?_eq_some_iff.mp (atN_ok k4)).1
    refine clz_rd (P := P) (g := g) (h := h) rfl M K (atN_ok k4) k7 (isG_ok k6) (roomX.mono k5) len hme hd (fun H2 T q xs dd k nT nq eq eT rx hp => ?_) k2 (fun _ z => z) hr
    have nhq : ¬ h q := fun z => by
      obtain ⟨o, z2⟩ := S'.ent.trk q (S'.ent.sub q z)
      rw [nq] at z2; cases z2
    have nhT : ¬ h T := fun z => by
      obtain ⟨o, z2⟩ := S'.ent.trk T (S'.ent.sub T z)
      rw [nT] at z2; cases z2
    refine hQ _ _ ⟨⟨fun a o n e => k _ _ (S'.ent.keep a o e n).1, fun _ => rok_mono (fun a o _ z => k a o z) S'.ent.ok⟩, _, false, ?_, (fun z => nomatch z), hp⟩
    exact .tup (.inl (.inl (hid_of nhT eT))) (.cons (.str _) (.cons (.lst (hid_of nhq eq) (.cons (.str _) .nil)) rx))
  exact body_ok (X := X.tr pn xe) (R := fun e => e.cls ∈ ms ∧ hdR P hs e) gs rfl rfl ir hok k1 hadr htrk hrok r hw hQ
end
end Pd
end
section
set_option Elab.async false
set_option linter.all false
set_option maxRecDepth 100000
set_option maxHeartbeats 1000000
/-! ## the law's def, its end -/
namespace Pd
open PySem PySem.Spec PyProof.Rows L2
/-- a def's callee from its promise -/
theorem callee_fn {m : Mo} {c : Fn} {f : Addr} {fd : FuncData} {ps : List Str} (kp : PySem.W.keepIn m.K (.ref f) = true) (hmg : m.mg c.x = some (.ref f)) (hb : Binds m.K fd ps []) (hd : c.dfl = []) (q : FnOk m.prog m.w m.K m.mg m.base (L2N.CX m.prog m.w) c.lev f fd ps (spOf m.K c.ar c.sp)) : m.callee c := fun X hX => by
  subst hX
  exact ⟨f, fd, ps, hmg, kp, q, [], [], hb, .nil, fun g H => by rw [hd]; exact .nil⟩
/-- a promise of nothing -/
theorem callee_no {m : Mo} {c : Fn} {f : Addr} {fd : FuncData} {ps : List Str} (kp : PySem.W.keepIn m.K (.ref f) = true) (hmg : m.mg c.x = some (.ref f)) (hb : Binds m.K fd ps []) (hd : c.dfl = []) (no : ∀ ds P R, c.sp ds P R → False) (hr : ps.length = c.ar) : m.callee c := fun X hX => by
  subst hX
  refine ⟨f, fd, ps, hmg, kp, ⟨fun vs H Q E h => by rw [spOf_len h, hr], fun A outer s H args us vs Q E _ _ _ _ h => ?_⟩, [], [], hb, .nil, fun g H => by rw [hd]; exact .nil⟩
  obtain ⟨g, h, ds, P, R, hl, _, _, _, _, hsp, _⟩ := h
  exact (no _ _ _ hsp).elim
theorem glob_int {m : Mo} {x : Str} {i : Int} (h : ∃ t, m.mg x = some (.int i t)) : m.glob x (.int i) := fun X hX => by
  subst hX
  obtain ⟨t, e⟩ := h
  exact ⟨.int i, _, e, ⟨t, rfl⟩, fun _ _ => .int i⟩
theorem glob_ints {m : Mo} {x : Str} {l : List Int} (h : m.mg x = some (.ref (He.ga m.K x))) (ht : He.tupB m.K x (l.map He.Dv.int) = true) : m.glob x (.tup (l.map D.int)) := fun X hX => by
  subst hX
  refine ⟨.ref (He.ga X.K x), _, h, rfl, fun g H => .tup (xs := l.map V.int) ?_ ?_⟩
  · have := He.tupB_ok ht H
    rw [List.map_map] at this
    exact this
  · clear ht h
    induction l with
    | nil => exact .nil
    | cons i l ih => exact .cons (.int i) ih
/-! facts on exceptions -/
theorem kdM_of {m : Mo} {ms : List Str} (h : kdB m.K ms = true) (kn : ms.all (fun x => decide (x ∈ KN)) = true) (mg : ∀ c ∈ KN, m.mg c = some (.ref (He.ga m.K c))) (bi : ∀ x ∈ BI, m.mg x = none) : KdM m ms where
  kn := fun me hme => of_decide_eq_true (List.all_eq_true.mp kn me hme)
  xc := fun me hme => xcB_ok (He.ba (List.all_eq_true.mp h me hme)).1
  kit := fun me hme c hc => of_decide_eq_true (List.all_eq_true.mp (He.ba (List.all_eq_true.mp h me hme)).2 c hc)
  mg := mg
  bI := bi _ (by decide)
  bL := bi _ (by decide)
  bR := bi _ (by decide)
theorem hdM_of {m : Mo} {ms : List Str} {hs : List Hd} (h : hdB m.K ms hs = true) (nd : hs.all (fun h => !(h.1 == ("__debug__" : Str))) = true) (gl : ∀ h ∈ hs, m.mg h.1 = some (.ref (He.ga m.K h.1))) : HdM m ms hs where
  gl := fun x hx => ⟨gl x hx, by simpa using List.all_eq_true.mp nd x hx⟩
  ex := fun x hx me hme => of_decide_eq_true (List.all_eq_true.mp (He.ba (List.all_eq_true.mp h x hx)).1 me hme)
  fl := fun x hx f ef => by
    have := (He.ba (List.all_eq_true.mp h x hx)).2
    rw [ef] at this
    dsimp only at this
    obtain ⟨h1, h2⟩ := He.ba this
    obtain ⟨h2, h3⟩ := He.ba h2
    exact ⟨by simpa using h1, xfB_ok h2, He.eqO_ok h3⟩
/-! the law -/
def stoB (sc : Scope) (st : Stmt) : Bool := match asSet st with
  | some (y, _, e, _) => y == ("store" : Str) && (!compE e && (match asCall e with | some (f, [x]) => f == ("_law_store" : Str) && isNm x "script" | _ => false))
  | none => false
def lawB (N : List Str) (lv : Nat) (ir : Sms) (sc : Scope) (body : List Stmt) : Bool := match body with
  | st :: rest => stoB sc st && (cSs N lv ir sc rest && (atN N 0 "script" && (atN N 1 "store" && (isG sc "_law_store" && (isS sc "store" && (isS sc "script" && decide (2 ≤ lv)))))))
  | [] => false
/-- the law's promise -/
def spLaw (K : PySem.W.Frag) : Sp := fun vs H Q _ => ∃ (l : Addr) (ns : List Int), vs = [.ref l] ∧ SqL K H l (ns.map V.int) ∧ ns.length ≤ 1000 ∧ ∀ H', Q (.bl true) H'
structure StoAt (m : Mo) where
  f : Addr
  fd : FuncData
  ok : FnOk m.prog m.w m.K m.mg m.base (L2N.CX m.prog m.w) 2 f fd ["script"] (spStore m.K)
  mg : m.mg "_law_store" = some (.ref f)
  kp : PySem.W.keepIn m.K (.ref f) = true
  bi : Binds m.K fd ["script"] []
theorem passes_no {X : Cx} : Passes (L2N.CX X.prog X.w) X (fun _ _ _ => False) := fun pins σ H s e s' I c => by
  obtain ⟨a, B, H', cls, d, _, _, _, _, _, _, _, z⟩ := c
  exact z.elim
theorem law_ok {m : Mo} {x qual : Str} {params : Arguments} {body : List Stmt} {scope : Scope} {dvs : List V} {kws : List (Str × V)} {f : Addr} {fd : FuncData} {N : List Str} {lv : Nat} (F : FunD m.K x qual params body scope dvs kws f fd) (T : StoAt m) (ir : Sms)
    (hbi : ∀ x ∈ BI, m.mg x = none) (hS : scB N ["script"] scope = true) (hck : lawB N lv ir scope body = true) (hok : okSs m ir)
    (hw : ∀ P : D → Bool → Prop, P (.bl true) false → wSs ir Nox (.un :: .val .sto :: List.replicate (N.length - 2) .un) (E0 P)) : FnOk m.prog m.w m.K m.mg m.base (L2N.CX m.prog m.w) (lv + 1) f fd ["script"] (spLaw m.K) := by
  have S := scB_ok hS
  refine F.ok S (fun vs H Q E h => ?_) fun cdv A outer s H vs Q E hr h => ⟨_, pss_self, ?_⟩
  · obtain ⟨l, ns, rfl, _⟩ := h
    rfl
  obtain ⟨l, ns, rfl, hs, hz, hQ⟩ := h
  obtain ⟨st, rest, rfl, hck⟩ : ∃ st rest, body = st :: rest ∧ (stoB scope st && (cSs N lv ir scope rest && (atN N 0 "script" && (atN N 1 "store" && (isG scope "_law_store" && (isS scope "store" && (isS scope "script" && decide (2 ≤ lv)))))))) = true := by
    cases body with
    | nil => cases hck
    | cons a b => exact ⟨a, b, rfl, hck⟩
  obtain ⟨k1, hck⟩ := Bool.a2 hck
  obtain ⟨k2, hck⟩ := Bool.a2 hck
  obtain ⟨k3, hck⟩ := Bool.a2 hck
  obtain ⟨k4, hck⟩ := Bool.a2 hck
  obtain ⟨k5, hck⟩ := Bool.a2 hck
  obtain ⟨k6, hck⟩ := Bool.a2 hck
  obtain ⟨k7, k8⟩ := Bool.a2 hck
  have k8 := of_decide_eq_true k8
  unfold stoB at k1
  split at k1
  · rename_i y p e ps hset
    obtain ⟨h1, h2⟩ := Bool.a2 k1
    obtain ⟨h2, h3⟩ := Bool.a2 h2
    split at h3
    · rename_i f' a hc
      obtain ⟨h4, h5⟩ := Bool.a2 h3
      have := asSet_ok hset
      subst this
      obtain ⟨p1, p3, rfl⟩ := asCall_ok hc
      obtain ⟨p2, rfl⟩ := isNm_ok h5
      rw [eq_of_beq h1, eq_of_beq h4] at *
      have gs0 : GS ⟨cxOf (L2N.CX m.prog m.w) m.prog m.w m.K m.mg m.base N qual scope f cdv A outer s H E, none, fun _ => False, H, lv⟩ scope Nox := gs_def S rfl rfl hr rfl (fun _ => rfl) hbi rfl rfl rfl rfl fun _ _ _ _ _ _ z => z.elim
      generalize eX : cxOf (L2N.CX m.prog m.w) m.prog m.w m.K m.mg m.base N qual scope f cdv A outer s H E = X at *
      have hmo : moOf X = m := by rw [← eX]; rfl
      have hXN : X.N = N := by rw [← eX]; rfl
      have hXs : X.env.scope = scope := by rw [← eX]; rfl
      have hfn : ∀ x, X.fn x = true := by rw [← eX]; exact fun _ => rfl
      have gsAll : ∀ (g : Option Rg) (h : Addr → Prop) (H' : Hp), GS ⟨X, g, h, H', lv⟩ scope Nox := fun g h H' => by
        rw [← eX]
        exact gs_def S rfl rfl hr rfl (fun _ => rfl) hbi rfl rfl rfl rfl fun _ _ _ _ _ _ z => z.elim
      clear eX
      subst hmo
      subst hXN
      subst hXs
      have room : Room 2 X.A := gs0.toGK.room.mono k8
      have call := pe_call (X := X) (p := p1) (pos := p3) T.ok room (isG_ok k5) T.mg T.kp T.bi .nil passes_no (pa_cons (pe_var (i := 0) (pos := p2) (atN_ok k3) (vis_of k7)) pa_nil)
      refine Svs.of (pss_cons (ps_set (i := 1) S.nd (atN_ok k4) (loc_of k6) call (swaps_no (by simpa using h2)) (.inl (hfn _))) pss_self) ?_
      refine ⟨.ref l, rfl, l, ns, rfl, hs, hz, fun r H' nr => ?_⟩
      have g := gsAll (some r) (adr (some r)) H'
      have tr : ∀ a, adr (some r) a → ∃ o, H' a = some o := fun a ha => rok_trk (g := some r) nr.ok ha
      have en : Ent ⟨X, some r, adr (some r), H', lv⟩ (adr (some r)) H' := ⟨fun a o e _ => ⟨e, fun z => z⟩, fun _ z => z, fun _ z => z, tr, tr, nr.ok⟩
      have lN : 2 ≤ X.N.length := by
        have := (List.getElem?_eq_some_iff.mp (atN_ok k4)).1
        omega
      have so : StOk ⟨X, some r, adr (some r), H', lv⟩ (adr (some r)) ((start X.N [.ref l]).set 1 (some (.ref r.root))) (.un :: .val .sto :: List.replicate (X.N.length - 2) .un) H' := by
        refine ⟨en, ?_, fun _ => 0, ?_, ?_, ?_⟩
        · unfold L2.start
          simp
          omega
        · intro i j s t e1 e2 o1 _ _
          rcases i with _ | _ | i
          · cases e1; exact o1.elim
          · cases e1; exact o1.elim
          · rw [List.getElem?_cons_succ, List.getElem?_cons_succ, List.getElem?_replicate] at e1
            split at e1 <;> cases e1
            exact o1.elim
        · intro i s e1 o1
          rcases i with _ | _ | i
          · cases e1; exact o1.elim
          · cases e1; exact o1.elim
          · rw [List.getElem?_cons_succ, List.getElem?_cons_succ, List.getElem?_replicate] at e1
            split at e1 <;> cases e1
            exact o1.elim
        · intro i s o e1 e2
          rcases i with _ | _ | i
          · cases e1; trivial
          · cases e1
            rw [List.getElem?_set_self (by unfold L2.start; simp; omega)] at e2
            cases e2
            exact ⟨_, rfl, .sto rfl⟩
          · rw [List.getElem?_cons_succ, List.getElem?_cons_succ, List.getElem?_replicate] at e1
            split at e1 <;> cases e1
            trivial
      have q := sSs ir g hok k2 (hw (fun d _ => d = .bl true) rfl) _ _ H' so
      refine Svs.mono q (fun σ' H' ⟨h', ρ', p, S', z⟩ => ?_) (fun v H' ⟨k1, k2, d, fr, r, f, z⟩ => ?_) (fun _ _ ⟨_, _, _, _, z⟩ => z.elim) fun _ _ ⟨_, _, _, _, z⟩ => z.elim
      · cases z
      · subst z
        cases r
        exact hQ _
    · cases h3
  · cases k1
/-- a def may let out more -/
theorem fn_cx {P : Program} {w : World} {K : PySem.W.Frag} {mg : Str → Option Value} {base : Heap} {C1 C2 : CXT} {k : Nat} {f : Addr} {fd : FuncData} {ps : List Str} {sp : Sp} (q : FnOk P w K mg base C1 k f fd ps sp) (le : ∀ outer H s E e s', C1 outer H s E e s' → C2 outer H s E e s') :
    FnOk P w K mg base C2 k f fd ps sp := ⟨q.len, fun A outer s H args us vs Q E a1 a2 a3 a4 a5 => codeAny_mono (q.run A outer s H args us vs Q E a1 a2 a3 a4 a5) fun r s' z => by
  cases r with
  | error e => exact le _ _ _ _ _ _ z
  | ok fl => cases fl <;> exact z⟩
/-- what a def of any program lets out -/
def AnyCX : CXT := fun outer H s E e s' => ∃ P w, L2N.CX P w outer H s E e s'
theorem anyCX_no (H : Hp) (s : Shared) (e : Value) (s' : Shared) (z : AnyCX [] H s (fun _ _ _ => False) e s') : False := by
  obtain ⟨P, w, a, B, H', cls, d, z⟩ := z
  exact z.2.2.2.2.2.2.2
theorem same_fd {K : PySem.W.Frag} {x qual x2 qual2 : Str} {params params2 : Arguments} {body body2 : List Stmt} {scope scope2 : Scope} {dvs dvs2 : List V} {kws kws2 : List (Str × V)} {f : Addr} {fd fd2 : FuncData} (F : FunD K x qual params body scope dvs kws f fd) (F2 : FunD K x2 qual2 params2 body2 scope2 dvs2 kws2 f fd2) : fd = fd2 := by
  obtain ⟨_, _, _, _, _, _, _, _, _, _, _, l, _⟩ := F.ex
  obtain ⟨_, _, _, _, _, _, _, _, _, _, _, l2, _⟩ := F2.ex
  rw [l] at l2
  cases l2
  rfl
end Pd
end
section
set_option Elab.async false
set_option linter.all false
/-! ## how the weakest preconditions compute -/
namespace Pd
open PySem L2
section
variable {ρ : Rho} {s : Sl} {i j : Nat} {d : D} {l m : List D} {x y : Int} {u v : Str} {b c : Bool} {P : D → Bool → Prop} {B : Bool → Prop} {V : D → Prop} {L : List D → Prop} {Q : Rho → Prop}
theorem getV_0 : getV (.val d :: ρ) 0 V = V d := rfl
theorem getV_s : getV (s :: ρ) (i + 1) V = getV ρ i V := rfl
theorem getL_0 : getL (.ml l :: ρ) 0 L = L l := rfl
theorem getL_s : getL (s :: ρ) (i + 1) L = getL ρ i L := rfl
theorem set_0 {t : Sl} : List.set (s :: ρ) 0 t = t :: ρ := rfl
theorem set_s {t : Sl} : List.set (s :: ρ) (i + 1) t = s :: List.set ρ i t := rfl
theorem asB_b : asB (.bl b) B = B b := rfl
theorem asI_i {I : Int → Prop} : asI (.int x) I = I x := rfl
theorem asQ_l : asQ (.lst l) L = L l := rfl
theorem asQ_t : asQ (.tup l) L = L l := rfl
theorem asLs_l : asLs (.lst l) L = L l := rfl
theorem add_ii : wBin .add (.int x) (.int y) P = P (.int (x + y)) false := rfl
theorem add_ss : wBin .add (.str u) (.str v) P = (u.length + v.length ≤ sizeLine ∧ P (.str (u ++ v)) false) := rfl
theorem add_ll : wBin .add (.lst l) (.lst m) P = (l.length + m.length ≤ sizeLine ∧ P (.lst (l ++ m)) true) := rfl
theorem add_tt : wBin .add (.tup l) (.tup m) P = (l.length + m.length ≤ sizeLine ∧ P (.tup (l ++ m)) false) := rfl
theorem sub_ii : wBin .sub (.int x) (.int y) P = P (.int (x - y)) false := rfl
theorem mul_ii : wBin .mul (.int x) (.int y) P = (IntMulOk x y ∧ P (.int (x * y)) false) := rfl
theorem mul_li : wBin .mul (.lst l) (.int y) P = (-(2 ^ 63) ≤ y ∧ y < 2 ^ 63 ∧ l.length * y.toNat ≤ sizeLine ∧ P (.lst (List.replicate y.toNat l).flatten) true) := rfl
theorem fdiv_ii : wBin .fdiv (.int x) (.int y) P = (CDivR x y ∧ P (.int (x.fdiv y)) false) := rfl
theorem mod_ii : wBin .mod (.int x) (.int y) P = (y ≠ 0 ∧ P (.int (x.fmod y)) false) := rfl
theorem pow_ii : wBin .pow (.int x) (.int y) P = (CPowR x y ∧ P (.int (x ^ y.toNat)) false) := rfl
theorem lt_ii : wCmp .lt (.int x) (.int y) B = B (decide (x < y)) := rfl
theorem le_ii : wCmp .le (.int x) (.int y) B = B (decide (x ≤ y)) := rfl
theorem gt_ii : wCmp .gt (.int x) (.int y) B = B (decide (y < x)) := rfl
theorem ge_ii : wCmp .ge (.int x) (.int y) B = B (decide (y ≤ x)) := rfl
theorem eq_ii : wCmp .eq (.int x) (.int y) B = B (x == y) := by
  show (shp 12 (.int x) = true ∧ shp 12 (.int y) = true ∧ B (deq (.int x) (.int y))) = _
  simp [shp, deq]
theorem ne_ii : wCmp .ne (.int x) (.int y) B = B (!(x == y)) := by
  show (shp 12 (.int x) = true ∧ shp 12 (.int y) = true ∧ B (!deq (.int x) (.int y))) = _
  simp [shp, deq]
theorem isn_n : wCmp .isn d .non B = B (isNon d) := rfl
theorem isnn_n : wCmp .isnn d .non B = B (!isNon d) := rfl
theorem truth_b : truth (.bl b) B = B b := rfl
theorem truth_i : truth (.int x) B = B (x != 0) := rfl
theorem truth_l : truth (.lst l) B = B (!l.isEmpty) := rfl
theorem truth_t : truth (.tup l) B = B (!l.isEmpty) := rfl
theorem len_l : wBi .len [.lst l] P = P (.int l.length) false := rfl
theorem len_t : wBi .len [.tup l] P = P (.int l.length) false := rfl
theorem len_s : wBi .len [.str u] P = (u.length ≤ sizeLine ∧ P (.int u.length) false) := rfl
theorem abs_i : wBi .abs [.int x] P = P (.int (if x < 0 then -x else x)) false := rfl
theorem min2_ii : wBi .min2 [.int x, .int y] P = P (.int (if y < x then y else x)) false := rfl
theorem max2_ii : wBi .max2 [.int x, .int y] P = P (.int (if y > x then y else x)) false := rfl
theorem int_i : wBi .int [.int x] P = P (.int x) false := rfl
theorem int_b : wBi .int [.bl b] P = P (.int (if b then 1 else 0)) false := rfl
theorem tuple_l : wBi .tuple [.lst l] P = P (.tup l) false := rfl
theorem tuple_t : wBi .tuple [.tup l] P = P (.tup l) false := rfl
theorem list_l : wBi .list [.lst l] P = P (.lst l) true := rfl
theorem list_t : wBi .list [.tup l] P = P (.lst l) true := rfl
theorem all_l {bs : List Bool} : wBi .all [.lst (bs.map D.bl)] P = P (.bl (bs.all id)) false := by
  show (∃ cs, bolsD (bs.map D.bl) = some cs ∧ P (.bl (cs.all id)) false) = _
  rw [bolsD_map]
  simp
theorem sum_l {ns : List Int} : wBi .sum [.lst (ns.map D.int)] P = P (.int ns.sum) false := by
  show (∃ cs, intsD (ns.map D.int) = some cs ∧ P (.int cs.sum) false) = _
  rw [intsD_map]
  simp
theorem sum_t {ns : List Int} : wBi .sum [.tup (ns.map D.int)] P = P (.int ns.sum) false := by
  show (∃ cs, intsD (ns.map D.int) = some cs ∧ P (.int cs.sum) false) = _
  rw [intsD_map]
  simp
theorem atI_nat {α : Type} {l : List α} {n : Nat} : L2.atI l (n : Int) = l[n]? := by
  unfold L2.atI
  by_cases h : n < l.length
  · have e : ixN l.length (n : Int) = some n := by
      unfold ixN
      rw [if_pos (Int.natCast_nonneg n)]
      simp [h]
    rw [e]
    rfl
  · have e : ixN l.length (n : Int) = none := by
      unfold ixN
      rw [if_pos (Int.natCast_nonneg n)]
      simp [h]
    rw [e, List.getElem?_eq_none (by omega)]
    rfl
theorem ix_ln {n : Nat} : wIx (.lst l) (.int n) P = ∃ d, l[n]? = some d ∧ P d false := by
  show (∃ d, L2.atI l (n : Int) = some d ∧ P d false) = _
  rw [atI_nat]
theorem ix_tn {n : Nat} : wIx (.tup l) (.int n) P = ∃ d, l[n]? = some d ∧ P d false := by
  show (∃ d, L2.atI l (n : Int) = some d ∧ P d false) = _
  rw [atI_nat]
theorem ix_l0 : wIx (.lst (d :: l)) (.int 0) P = P d false := by
  rw [show (0 : Int) = ((0 : Nat) : Int) from rfl, ix_ln]; simp
theorem ix_t0 : wIx (.tup (d :: l)) (.int 0) P = P d false := by
  rw [show (0 : Int) = ((0 : Nat) : Int) from rfl, ix_tn]; simp
theorem ix_l1 {e : D} : wIx (.lst (d :: e :: l)) (.int 1) P = P e false := by
  rw [show (1 : Int) = ((1 : Nat) : Int) from rfl, ix_ln]; simp
theorem ix_t1 {e : D} : wIx (.tup (d :: e :: l)) (.int 1) P = P e false := by
  rw [show (1 : Int) = ((1 : Nat) : Int) from rfl, ix_tn]; simp
theorem ix_t2 {e f : D} : wIx (.tup (d :: e :: f :: l)) (.int 2) P = P f false := by
  rw [show (2 : Int) = ((2 : Nat) : Int) from rfl, ix_tn]; simp
theorem tg_nm : wTg (.nm i) d ρ Q = Q (ρ.set i (.val d)) := rfl
theorem tg_tp {ts : Tgs} : wTg (.tp ts) (.tup l) ρ Q = wTgs ts l ρ Q := rfl
theorem tgs_nil : wTgs .nil [] ρ Q = Q ρ := rfl
theorem tgs_cons {t : Tg} {ts : Tgs} : wTgs (.cons t ts) (d :: l) ρ Q = wTg t d ρ fun ρ' => wTgs ts l ρ' Q := rfl
theorem setQ_f {fr : Bool} : setQ false i ρ Q d fr = Q (ρ.set i (.val d)) := rfl
theorem setQ_t : setQ true i ρ Q (.lst l) true = Q (ρ.set i (.ml l)) := by
  show (true = true ∧ ∃ ds, D.lst l = .lst ds ∧ Q (ρ.set i (.ml ds))) = _
  simp
theorem wipe_n : wipeR ρ [] = ρ := rfl
theorem wipe_c {v : Nat} {vs : List Nat} : wipeR ρ (v :: vs) = (wipeR ρ vs).set v .un := rfl
/-! loops by invariants -/
theorem for_I {t : D → Rho → (Rho → Prop) → Prop} {F : Rho → Prop} {items : List D} {ρ : Rho} (I : List D → Rho → Prop) (h0 : I items ρ) (step : ∀ d r ρ (K : Rho → Prop), I (d :: r) ρ → (∀ ρ', I r ρ' → K ρ') → t d ρ K) (fin : ∀ ρ, I [] ρ → F ρ) : wFor t items ρ F := by
  induction items generalizing ρ with
  | nil => exact fin ρ h0
  | cons d r ih => exact step d r ρ _ h0 fun ρ' h => ih h
theorem loop_I {t : D → (Option D → Prop) → Prop} {F : List D → Prop} {items acc : List D} (I : List D → List D → Prop) (h0 : I items acc) (step : ∀ d r acc (K : Option D → Prop), I (d :: r) acc → (∀ x, I r (acc ++ [x]) → K (some x)) → (I r acc → K none) → t d K) (fin : ∀ acc, I [] acc → F acc) : wLoop t items acc F := by
  induction items generalizing acc with
  | nil => exact fin acc h0
  | cons d r ih => exact step d r acc _ h0 (fun x h => ih h) fun h => ih h
theorem loop_map {α : Type} {t : D → (Option D → Prop) → Prop} {F : List D → Prop} {xs : List α} {g f : α → D} {acc : List D} (step : ∀ x ∈ xs, ∀ K : Option D → Prop, K (some (f x)) → t (g x) K) (fin : F (acc ++ xs.map f)) : wLoop t (xs.map g) acc F := by
  induction xs generalizing acc with
  | nil => rw [List.map_nil, List.append_nil] at fin; exact fin
  | cons x r ih =>
    refine step x (List.mem_cons_self ..) _ ?_
    refine ih (fun y hy => step y (List.mem_cons_of_mem _ hy)) ?_
    rw [List.append_assoc]
    exact fin
theorem loop_filter {α : Type} {t : D → (Option D → Prop) → Prop} {F : List D → Prop} {xs : List α} {g f : α → D} {p : α → Bool} {acc : List D} (step : ∀ x ∈ xs, ∀ K : Option D → Prop, (p x = true → K (some (f x))) → (p x = false → K none) → t (g x) K) (fin : F (acc ++ (xs.filter p).map f)) : wLoop t (xs.map g) acc F := by
  induction xs generalizing acc with
  | nil => rw [List.filter_nil, List.map_nil, List.append_nil] at fin; exact fin
  | cons x r ih =>
    refine step x (List.mem_cons_self ..) _ (fun h => ?_) fun h => ?_
    · refine ih (fun y hy => step y (List.mem_cons_of_mem _ hy)) ?_
      rw [List.filter_cons, if_pos h] at fin
      rw [List.append_assoc]
      exact fin
    · refine ih (fun y hy => step y (List.mem_cons_of_mem _ hy)) ?_
      rw [List.filter_cons, if_neg (by rw [h]; exact Bool.false_ne_true)] at fin
      exact fin
end
end Pd
local macro_rules | `(tactic| walk_at "wp") => `(tactic| simp only [wSs, wS, wE, wEs, wT, wBp, wTb, wQ, wO, wI, rho0, Pd.getV_0, Pd.getV_s, Pd.getL_0, Pd.getL_s, Pd.set_0, Pd.set_s])
end
section
set_option Elab.async false
set_option linter.all false
/-! ## ratios: plain arithmetic -/
namespace Rt
open PySem Pd
/-- a ratio as the program has it -/
def rat (q : Rat) : D := .tup [.int q.num, .int q.den]
/-! sizes -/
def Bd (n : Nat) (i : Int) : Prop := i.natAbs < 2 ^ n
theorem Bd.mono {n m : Nat} {i : Int} (h : Bd n i) (k : n ≤ m) : Bd m i := Nat.lt_of_lt_of_le h (Nat.pow_le_pow_right (by decide) k)
theorem Bd.mul {n m : Nat} {i j : Int} (h : Bd n i) (k : Bd m j) : Bd (n + m) (i * j) := by
  unfold Bd at *
  rw [Int.natAbs_mul, Nat.pow_add]
  exact Nat.mul_lt_mul'' h k
theorem Bd.add {n : Nat} {i j : Int} (h : Bd n i) (k : Bd n j) : Bd (n + 1) (i + j) := by
  unfold Bd at *
  have := Int.natAbs_add_le i j
  rw [Nat.pow_succ]
  omega
theorem Bd.sub {n : Nat} {i j : Int} (h : Bd n i) (k : Bd n j) : Bd (n + 1) (i - j) := by
  unfold Bd at *
  rw [Nat.pow_succ]
  omega
theorem Bd.neg {n : Nat} {i : Int} (h : Bd n i) : Bd n (-i) := by
  unfold Bd at *
  rw [Int.natAbs_neg]; exact h
theorem Bd.bits {n : Nat} {i : Int} (h : Bd n i) : Builtin.Int.intBits i ≤ n := by
  unfold Builtin.Int.intBits
  by_cases e : (i == 0) = true
  · rw [if_pos e]; exact Nat.zero_le _
  · rw [if_neg e]
    have hz : i.natAbs ≠ 0 := by
      have : i ≠ 0 := by simpa using e
      omega
    have := (Nat.log2_lt hz).mpr h
    omega
theorem Bd.mulOk {n m : Nat} {i j : Int} (h : Bd n i) (k : Bd m j) (hn : n ≤ 1048576 := by decide) (hm : m ≤ 1048576 := by decide) : IntMulOk i j :=
  IntMulOk.of_bits (Nat.le_trans h.bits hn) (Nat.le_trans k.bits hm)
theorem Bd.divOk {n : Nat} {i j : Int} (k : Bd n j) (hj : j ≠ 0) (hn : n ≤ 9000 := by decide) : CDivR i j := by
  refine ⟨hj, PyProof.noPylong_of_log2 ?_⟩
  have hz : j.natAbs ≠ 0 := by omega
  exact Nat.lt_of_lt_of_le ((Nat.log2_lt hz).mpr k) hn
theorem Bd.fdiv {n : Nat} {i : Int} {g : Nat} (h : Bd n i) : Bd n (i.fdiv g) := by
  unfold Bd at *
  rw [Int.fdiv_eq_ediv_of_nonneg _ (Int.natCast_nonneg g)]
  refine Nat.lt_of_le_of_lt ?_ h
  exact Int.natAbs_ediv_le_natAbs i g
theorem Bd.gcdr {n : Nat} {i j : Int} (h : Bd n j) (hj : j ≠ 0) : Bd n (Int.gcd i j : Nat) := by
  unfold Bd at *
  rw [Int.natAbs_natCast]
  have : Int.gcd i j ≤ j.natAbs := Nat.le_of_dvd (by omega) (Nat.gcd_dvd_right _ _)
  omega
/-- small ratios -/
structure Sm (n : Nat) (q : Rat) : Prop where
  num : Bd n q.num
  den : Bd n q.den
/-! normal forms -/
theorem mkRat_nf {n : Int} {d : Nat} (hd : d ≠ 0) (c : Nat.gcd n.natAbs d = 1) : (mkRat n d).num = n ∧ (mkRat n d).den = d := by
  rw [← Rat.normalize_eq_mkRat hd, Rat.normalize_eq_mk' n d hd c]
  exact ⟨rfl, rfl⟩
theorem mkRat_g {n n' : Int} {d d' g : Nat} (hg : g ≠ 0) (e1 : n = g * n') (e2 : d = g * d') (hd : d' ≠ 0) (c : Nat.gcd n'.natAbs d' = 1) : (mkRat n d).num = n' ∧ (mkRat n d).den = d' := by
  rw [e1, e2, Rat.mkRat_mul_left hg]
  exact mkRat_nf hd c
theorem fdiv_nat (i : Int) (g : Nat) : i.fdiv g = i / g := Int.fdiv_eq_ediv_of_nonneg _ (Int.natCast_nonneg g)
/-- above // gcd, below // gcd -/
theorem low_alg (a : Int) (b : Nat) (hb : b ≠ 0) : a.fdiv (Int.gcd a b : Nat) = (mkRat a b).num ∧ (b : Int).fdiv (Int.gcd a b : Nat) = ((mkRat a b).den : Int) := by
  have hg : Int.gcd a b = Nat.gcd b a.natAbs := by rw [Int.gcd_comm]; rfl
  rw [fdiv_nat, fdiv_nat, Rat.num_mkRat, Rat.den_mkRat, if_neg hb, if_neg hb, hg]
  exact ⟨rfl, by rw [Int.natCast_ediv]⟩
theorem gcd_nat (a b : Nat) : Int.gcd (a : Int) (b : Int) = Nat.gcd a b := rfl
/-- sum_of's steps -/
theorem sum_alg (p q : Rat) (g : Nat) (hg : g = Nat.gcd p.den q.den) (top : Int) (ht : top = p.num * (q.den / g : Nat) + q.num * (p.den / g : Nat)) (e : Nat) (he : e = Int.gcd top g) :
    top / (e : Int) = (p + q).num ∧ p.den / e * (q.den / g) = (p + q).den := by
  have hp := p.den_nz
  have hq := q.den_nz
  have g0 : g ≠ 0 := by
    rw [hg]
    exact Nat.gcd_ne_zero_left hp
  obtain ⟨b', eb⟩ : g ∣ p.den := by rw [hg]; exact Nat.gcd_dvd_left _ _
  obtain ⟨u', eu⟩ : g ∣ q.den := by rw [hg]; exact Nat.gcd_dvd_right _ _
  have hb' : p.den / g = b' := by rw [eb]; exact Nat.mul_div_cancel_left _ (Nat.pos_of_ne_zero g0)
  have hu' : q.den / g = u' := by rw [eu]; exact Nat.mul_div_cancel_left _ (Nat.pos_of_ne_zero g0)
  have cbu : Nat.gcd b' u' = 1 := by
    have h1 : Nat.gcd (g * b') (g * u') = g * Nat.gcd b' u' := Nat.gcd_mul_left ..
    rw [← eb, ← eu, ← hg] at h1
    have : g * 1 = g * Nat.gcd b' u' := by omega
    exact (Nat.eq_of_mul_eq_mul_left (Nat.pos_of_ne_zero g0) this).symm
  rw [hb', hu'] at ht
  rw [hu']
  have e0 : e ≠ 0 := by
    rw [he]
    intro z
    exact g0 (by have := (Int.gcd_eq_zero_iff.mp z).2; omega)
  have edg : e ∣ g := by
    rw [he]
    exact Nat.gcd_dvd_right _ _
  have edt : (e : Int) ∣ top := by
    rw [he]
    exact Int.gcd_dvd_left ..
  obtain ⟨g', eg⟩ := edg
  obtain ⟨t', et⟩ := edt
  have b0 : b' ≠ 0 := by rintro rfl; rw [Nat.mul_zero] at eb; exact hp eb
  have u0 : u' ≠ 0 := by rintro rfl; rw [Nat.mul_zero] at eu; exact hq eu
  have g'0 : g' ≠ 0 := by rintro rfl; rw [Nat.mul_zero] at eg; exact g0 eg
  have hd : p.den / e = g' * b' := by
    rw [eb, eg, Nat.mul_assoc]
    exact Nat.mul_div_cancel_left _ (Nat.pos_of_ne_zero e0)
  have htd : top / (e : Int) = t' := by
    rw [et]
    exact Int.mul_ediv_cancel_left _ (by omega)
  rw [hd, htd]
  -- coprime
  have ctb : Nat.gcd top.natAbs b' = 1 := by
    have h1 : Nat.gcd p.num.natAbs b' = 1 := Nat.Coprime.coprime_dvd_right ⟨g, by rw [eb, Nat.mul_comm]⟩ p.reduced
    have h2 : Nat.gcd (p.num.natAbs * u') b' = 1 := Nat.Coprime.mul_left h1 (Nat.Coprime.symm cbu)
    have h3 : Int.gcd top b' = Int.gcd (p.num * u') b' := by
      rw [ht]
      exact Int.gcd_add_mul_right_left ..
    have h4 : Int.gcd (p.num * u') b' = 1 := by
      show Nat.gcd (p.num * u').natAbs b' = 1
      rw [Int.natAbs_mul]
      exact h2
    rw [h4] at h3
    exact h3
  have ctu : Nat.gcd top.natAbs u' = 1 := by
    have h1 : Nat.gcd q.num.natAbs u' = 1 := Nat.Coprime.coprime_dvd_right ⟨g, by rw [eu, Nat.mul_comm]⟩ q.reduced
    have h2 : Nat.gcd (q.num.natAbs * b') u' = 1 := Nat.Coprime.mul_left h1 cbu
    have h3 : Int.gcd top u' = Int.gcd (q.num * b') u' := by
      rw [ht, Int.add_comm]
      exact Int.gcd_add_mul_right_left ..
    have h4 : Int.gcd (q.num * b') u' = 1 := by
      show Nat.gcd (q.num * b').natAbs u' = 1
      rw [Int.natAbs_mul]
      exact h2
    rw [h4] at h3
    exact h3
  have td : t'.natAbs ∣ top.natAbs := by rw [et, Int.natAbs_mul]; exact Nat.dvd_mul_left _ _
  have c1 : Nat.gcd t'.natAbs b' = 1 := Nat.Coprime.coprime_dvd_left td ctb
  have c2 : Nat.gcd t'.natAbs u' = 1 := Nat.Coprime.coprime_dvd_left td ctu
  have c3 : Nat.gcd t'.natAbs g' = 1 := by
    have h1 : Nat.gcd (e * t'.natAbs) (e * g') = e * Nat.gcd t'.natAbs g' := Nat.gcd_mul_left ..
    have h2 : e * t'.natAbs = top.natAbs := by rw [et, Int.natAbs_mul, Int.natAbs_natCast]
    rw [h2, ← eg] at h1
    have h3 : e = Nat.gcd top.natAbs g := he
    rw [← h3] at h1
    have : e * 1 = e * Nat.gcd t'.natAbs g' := by omega
    exact (Nat.eq_of_mul_eq_mul_left (Nat.pos_of_ne_zero e0) this).symm
  have c : Nat.gcd t'.natAbs (g' * b' * u') = 1 := Nat.Coprime.mul_right (Nat.Coprime.mul_right c3 c1) c2
  have key := mkRat_g (n := p.num * q.den + q.num * p.den) (d := p.den * q.den) (g := g * e) (n' := t') (d' := g' * b' * u') (Nat.mul_ne_zero g0 e0) ?_ ?_ (Nat.mul_ne_zero (Nat.mul_ne_zero g'0 b0) u0) c
  · rw [Rat.add_def']
    exact ⟨key.1.symm, key.2.symm⟩
  · have h1 : ((g * e : Nat) : Int) * t' = g * top := by rw [et, Int.natCast_mul]; grind
    rw [h1, ht, eb, eu, Int.natCast_mul, Int.natCast_mul]
    grind
  · have : p.den * q.den = g * b' * (g * u') := by rw [← eb, ← eu]
    rw [this]
    have h2 : g * b' * (g * u') = g * (g * (b' * u')) := by grind
    rw [h2]
    have h3 : g * e * (g' * b' * u') = g * (e * g' * (b' * u')) := by grind
    rw [h3, ← eg]
/-- product_of's steps -/
theorem prod_alg (p q : Rat) (l r : Nat) (hl : l = Int.gcd p.num q.den) (hr : r = Int.gcd q.num p.den) : p.num / (l : Int) * (q.num / (r : Int)) = (p * q).num ∧ p.den / r * (q.den / l) = (p * q).den := by
  have hp := p.den_nz
  have hq := q.den_nz
  have l0 : l ≠ 0 := by
    rw [hl]; intro z
    exact hq (by have := (Int.gcd_eq_zero_iff.mp z).2; omega)
  have r0 : r ≠ 0 := by
    rw [hr]; intro z
    exact hp (by have := (Int.gcd_eq_zero_iff.mp z).2; omega)
  obtain ⟨a', ea⟩ : (l : Int) ∣ p.num := by rw [hl]; exact Int.gcd_dvd_left ..
  obtain ⟨m', em⟩ : (r : Int) ∣ q.num := by rw [hr]; exact Int.gcd_dvd_left ..
  obtain ⟨b', eb⟩ : r ∣ p.den := by rw [hr]; exact Nat.gcd_dvd_right _ _
  obtain ⟨u', eu⟩ : l ∣ q.den := by rw [hl]; exact Nat.gcd_dvd_right _ _
  have h1 : p.num / (l : Int) = a' := by rw [ea]; exact Int.mul_ediv_cancel_left _ (by omega)
  have h2 : q.num / (r : Int) = m' := by rw [em]; exact Int.mul_ediv_cancel_left _ (by omega)
  have h3 : p.den / r = b' := by rw [eb]; exact Nat.mul_div_cancel_left _ (Nat.pos_of_ne_zero r0)
  have h4 : q.den / l = u' := by rw [eu]; exact Nat.mul_div_cancel_left _ (Nat.pos_of_ne_zero l0)
  rw [h1, h2, h3, h4]
  have b0 : b' ≠ 0 := by rintro rfl; rw [Nat.mul_zero] at eb; exact hp eb
  have u0 : u' ≠ 0 := by rintro rfl; rw [Nat.mul_zero] at eu; exact hq eu
  have can : ∀ {k x y : Nat}, k ≠ 0 → k = Nat.gcd (k * x) (k * y) → Nat.gcd x y = 1 := fun {k x y} k0 h => by
    rw [Nat.gcd_mul_left] at h
    have : k * 1 = k * Nat.gcd x y := by omega
    exact (Nat.eq_of_mul_eq_mul_left (Nat.pos_of_ne_zero k0) this).symm
  have cau : Nat.gcd a'.natAbs u' = 1 := can l0 (by
    have e : Int.gcd p.num q.den = Nat.gcd p.num.natAbs q.den := rfl
    rw [e, ea, eu, Int.natAbs_mul, Int.natAbs_natCast] at hl
    exact hl)
  have cmb : Nat.gcd m'.natAbs b' = 1 := can r0 (by
    have e : Int.gcd q.num p.den = Nat.gcd q.num.natAbs p.den := rfl
    rw [e, em, eb, Int.natAbs_mul, Int.natAbs_natCast] at hr
    exact hr)
  have d1 : a'.natAbs ∣ p.num.natAbs := by rw [ea, Int.natAbs_mul]; exact Nat.dvd_mul_left _ _
  have d2 : b' ∣ p.den := ⟨r, by rw [eb, Nat.mul_comm]⟩
  have d3 : m'.natAbs ∣ q.num.natAbs := by rw [em, Int.natAbs_mul]; exact Nat.dvd_mul_left _ _
  have d4 : u' ∣ q.den := ⟨l, by rw [eu, Nat.mul_comm]⟩
  have cab : Nat.gcd a'.natAbs b' = 1 := Nat.Coprime.coprime_dvd_left d1 (Nat.Coprime.coprime_dvd_right d2 p.reduced)
  have cmu : Nat.gcd m'.natAbs u' = 1 := Nat.Coprime.coprime_dvd_left d3 (Nat.Coprime.coprime_dvd_right d4 q.reduced)
  have c : Nat.gcd (a' * m').natAbs (b' * u') = 1 := by
    rw [Int.natAbs_mul]
    exact Nat.Coprime.mul_right (Nat.Coprime.mul_left cab cmb) (Nat.Coprime.mul_left cau cmu)
  have key := mkRat_g (n := p.num * q.num) (d := p.den * q.den) (g := l * r) (n' := a' * m') (d' := b' * u') (Nat.mul_ne_zero l0 r0) ?_ ?_ (Nat.mul_ne_zero b0 u0) c
  · rw [Rat.mul_def']
    exact ⟨key.1.symm, key.2.symm⟩
  · rw [ea, em, Int.natCast_mul]; grind
  · rw [eb, eu]; grind
end Rt
end
section
set_option Elab.async false
set_option linter.all false
/-! ## ratios: what the functions promise -/
namespace Ny
open PySem Pd Rt
mutual
/-- plain data: no instance, no store -/
def pl : D → Bool
  | .tup l => plL l
  | .lst l => plL l
  | .obj _ _ _ => false
  | .sto => false
  | _ => true
def plL : List D → Bool
  | [] => true
  | d :: l => pl d && plL l
end
theorem pl_ty : ∀ {d : D}, pl d = true → ∃ s, tyD d = some s
  | .non, _ => ⟨_, rfl⟩ | .bl _, _ => ⟨_, rfl⟩ | .int _, _ => ⟨_, rfl⟩ | .str _, _ => ⟨_, rfl⟩ | .tup _, _ => ⟨_, rfl⟩ | .lst _, _ => ⟨_, rfl⟩
def isW : D → Bool | .int _ => true | _ => false
def isSeq : D → Bool | .lst _ => true | .tup _ => true | _ => false
def isRat : D → Bool
  | .tup [.int a, .int b] => decide (1 ≤ b) && (b == 1 || ((Int.gcd a b : Nat) : Int) == 1)
  | _ => false
def isRats : D → Bool
  | .lst l => l.all isRat
  | .tup l => l.all isRat
  | _ => false
/-- sums that stay small -/
def Acc : Rat → List Rat → Prop
  | a, [] => Sm 4000 a
  | a, q :: r => Sm 4000 a ∧ Sm 4000 q ∧ Acc (a + q) r
def sumR : Rat → List Rat → Rat
  | a, [] => a
  | a, q :: r => sumR (a + q) r
def BadNumber : Exn := ⟨"BadNumber", []⟩
def sp_is_whole : Pd.Spec := fun ds P R => match ds with | [d] => pl d = true ∧ P (.bl (isW d)) false | _ => False
def sp_is_sequence : Pd.Spec := fun ds P R => match ds with | [d] => pl d = true ∧ P (.bl (isSeq d)) false | _ => False
def sp_common_divisor : Pd.Spec := fun ds P R => match ds with | [.int a, .int b] => P (.int (Int.gcd a b : Nat)) false | _ => False
def sp_is_ratio : Pd.Spec := fun ds P R => match ds with | [d] => pl d = true ∧ P (.bl (isRat d)) false | _ => False
def sp_check_ratio : Pd.Spec := fun ds P R => match ds with | [d] => pl d = true ∧ (if isRat d = true then P .non false else R BadNumber) | _ => False
def sp_check_ratios : Pd.Spec := fun ds P R => match ds with | [d] => pl d = true ∧ (if isRats d = true then P .non false else R BadNumber) | _ => False
def sp_opposite : Pd.Spec := fun ds P R => ∃ p, ds = [rat p] ∧ P (rat (-p)) false
def sp_sum_of : Pd.Spec := fun ds P R => ∃ p q, ds = [rat p, rat q] ∧ Sm 4000 p ∧ Sm 4000 q ∧ P (rat (p + q)) false
def sp_product_of : Pd.Spec := fun ds P R => ∃ p q, ds = [rat p, rat q] ∧ Sm 4000 p ∧ Sm 4000 q ∧ P (rat (p * q)) false
def sp_make : Pd.Spec := fun ds P R => ∃ a b, ds = [.int a, .int b] ∧ b ≠ 0 ∧ Bd 8000 b ∧ P (rat (Rat.divInt a b)) false
def sp_plus : Pd.Spec := sp_sum_of
def sp_minus : Pd.Spec := fun ds P R => ∃ p q, ds = [rat p, rat q] ∧ Sm 4000 p ∧ Sm 4000 q ∧ P (rat (p - q)) false
def sp_times : Pd.Spec := sp_product_of
def sp_over : Pd.Spec := fun ds P R => ∃ p q, ds = [rat p, rat q] ∧ Sm 4000 p ∧ Sm 4000 q ∧ q ≠ 0 ∧ P (rat (p / q)) false
def sp_total : Pd.Spec := fun ds P R => ∃ d l, ds = [d] ∧ seqD d = some (l.map rat) ∧ Acc 0 l ∧ P (rat (sumR 0 l)) false
end Ny
end
section
set_option Elab.async false
set_option linter.all false
namespace Ny
open PySem Pd Rt
def F_is_whole : Fn := ⟨"is_whole_ratio", sp_is_whole, 1, 1, []⟩
def N_is_whole : List Str := ["thing"]
def ir_is_whole : Sms := (.cons (.ret (.bop true (.cons (.isi .int (.var 0)) (.cons (.not (.isi .bool (.var 0))) .nil)))) .nil)
theorem r_is_whole {a0 : D} : rho0 N_is_whole [a0] = [.val a0] := rfl
def F_is_sequence : Fn := ⟨"is_sequence", sp_is_sequence, 1, 1, []⟩
def N_is_sequence : List Str := ["thing"]
def ir_is_sequence : Sms := (.cons (.ret (.isi2 .list .tuple (.var 0))) .nil)
theorem r_is_sequence {a0 : D} : rho0 N_is_sequence [a0] = [.val a0] := rfl
def F_common_divisor : Fn := ⟨"common_divisor", sp_common_divisor, 1, 2, []⟩
def N_common_divisor : List Str := ["one", "two"]
def ir_common_divisor : Sms := (.cons (.set false 0 (.bi .abs (.cons (.var 0) .nil))) (.cons (.set false 1 (.bi .abs (.cons (.var 1) .nil))) (.cons (.whl (.cmp .ne (.var 1) (.con (.int 0))) (.cons (.par 0 1 (.var 1) (.bin .mod (.var 0) (.var 1))) .nil)) (.cons (.ret (.var 0)) .nil))))
theorem r_common_divisor {a0 a1 : D} : rho0 N_common_divisor [a0, a1] = [.val a0, .val a1] := rfl
def F_is_ratio : Fn := ⟨"is_ratio", sp_is_ratio, 2, 1, []⟩
def N_is_ratio : List Str := ["thing", "above", "below"]
def ir_is_ratio : Sms := (.cons (.iff (.bop false (.cons (.not (.tru (.isi .tuple (.var 0)))) (.cons (.cmp .ne (.bi .len (.cons (.var 0) .nil)) (.con (.int 2))) .nil))) (.cons (.ret (.con (.bl false))) .nil) .nil) (.cons (.tgt (.tp (.cons (.nm 1) (.cons (.nm 2) .nil))) (.var 0)) (.cons (.iff (.bop false (.cons (.not (.tru (.call F_is_whole (.cons (.var 1) .nil)))) (.cons (.not (.tru (.call F_is_whole (.cons (.var 2) .nil)))) (.cons (.cmp .lt (.var 2) (.con (.int 1))) .nil)))) (.cons (.ret (.con (.bl false))) .nil) .nil) (.cons (.ret (.bop false (.cons (.cmp .eq (.var 2) (.con (.int 1))) (.cons (.cmp .eq (.call F_common_divisor (.cons (.var 1) (.cons (.var 2) .nil))) (.con (.int 1))) .nil)))) .nil))))
theorem r_is_ratio {a0 : D} : rho0 N_is_ratio [a0] = [.val a0, .un, .un] := rfl
def F_check_ratio : Fn := ⟨"check_ratio", sp_check_ratio, 3, 1, []⟩
def N_check_ratio : List Str := ["thing"]
def ir_check_ratio : Sms := (.cons (.iff (.not (.tru (.call F_is_ratio (.cons (.var 0) .nil)))) (.cons (.raiseT "BadNumber") .nil) .nil) .nil)
theorem r_check_ratio {a0 : D} : rho0 N_check_ratio [a0] = [.val a0] := rfl
def F_check_ratios : Fn := ⟨"check_ratios", sp_check_ratios, 4, 1, []⟩
def N_check_ratios : List Str := ["thing", "part"]
def ir_check_ratios : Sms := (.cons (.iff (.not (.tru (.call F_is_sequence (.cons (.var 0) .nil)))) (.cons (.raiseT "BadNumber") .nil) .nil) (.cons (.loop (.nm 1) (.seq (.var 0)) (.cons (.exp (.call F_check_ratio (.cons (.var 1) .nil))) .nil)) .nil))
theorem r_check_ratios {a0 : D} : rho0 N_check_ratios [a0] = [.val a0, .un] := rfl
def F_opposite : Fn := ⟨"opposite", sp_opposite, 1, 1, []⟩
def N_opposite : List Str := ["p"]
def ir_opposite : Sms := (.cons (.ret (.tup (.cons (.neg (.ix (.var 0) (.con (.int 0)))) (.cons (.ix (.var 0) (.con (.int 1))) .nil)))) .nil)
theorem r_opposite {a0 : D} : rho0 N_opposite [a0] = [.val a0] := rfl
def F_sum_of : Fn := ⟨"sum_of", sp_sum_of, 2, 2, []⟩
def N_sum_of : List Str := ["p", "q", "above", "below", "more", "under", "shared", "rest", "top", "extra"]
def ir_sum_of : Sms := (.cons (.tgt (.tp (.cons (.nm 2) (.cons (.nm 3) .nil))) (.var 0)) (.cons (.tgt (.tp (.cons (.nm 4) (.cons (.nm 5) .nil))) (.var 1)) (.cons (.set false 6 (.call F_common_divisor (.cons (.var 3) (.cons (.var 5) .nil)))) (.cons (.set false 7 (.bin .fdiv (.var 5) (.var 6))) (.cons (.set false 8 (.bin .add (.bin .mul (.var 2) (.var 7)) (.bin .mul (.var 4) (.bin .fdiv (.var 3) (.var 6))))) (.cons (.set false 9 (.call F_common_divisor (.cons (.var 8) (.cons (.var 6) .nil)))) (.cons (.ret (.tup (.cons (.bin .fdiv (.var 8) (.var 9)) (.cons (.bin .mul (.bin .fdiv (.var 3) (.var 9)) (.var 7)) .nil)))) .nil)))))))
theorem r_sum_of {a0 a1 : D} : rho0 N_sum_of [a0, a1] = [.val a0, .val a1, .un, .un, .un, .un, .un, .un, .un, .un] := rfl
def F_product_of : Fn := ⟨"product_of", sp_product_of, 2, 2, []⟩
def N_product_of : List Str := ["p", "q", "above", "below", "more", "under", "left", "right"]
def ir_product_of : Sms := (.cons (.tgt (.tp (.cons (.nm 2) (.cons (.nm 3) .nil))) (.var 0)) (.cons (.tgt (.tp (.cons (.nm 4) (.cons (.nm 5) .nil))) (.var 1)) (.cons (.set false 6 (.call F_common_divisor (.cons (.var 2) (.cons (.var 5) .nil)))) (.cons (.set false 7 (.call F_common_divisor (.cons (.var 4) (.cons (.var 3) .nil)))) (.cons (.ret (.tup (.cons (.bin .mul (.bin .fdiv (.var 2) (.var 6)) (.bin .fdiv (.var 4) (.var 7))) (.cons (.bin .mul (.bin .fdiv (.var 3) (.var 7)) (.bin .fdiv (.var 5) (.var 6))) .nil)))) .nil)))))
theorem r_product_of {a0 a1 : D} : rho0 N_product_of [a0, a1] = [.val a0, .val a1, .un, .un, .un, .un, .un, .un] := rfl
def F_make_1 : Fn := ⟨"make", sp_make, 2, 2, [(.int 1)]⟩
def F_make : Fn := ⟨"make", sp_make, 2, 2, []⟩
def N_make : List Str := ["above", "below", "shared"]
def ir_make : Sms := (.cons (.iff (.bop false (.cons (.not (.tru (.call F_is_whole (.cons (.var 0) .nil)))) (.cons (.not (.tru (.call F_is_whole (.cons (.var 1) .nil)))) (.cons (.cmp .eq (.var 1) (.con (.int 0))) .nil)))) (.cons (.raiseT "BadNumber") .nil) .nil) (.cons (.iff (.cmp .lt (.var 1) (.con (.int 0))) (.cons (.set false 0 (.neg (.var 0))) (.cons (.set false 1 (.neg (.var 1))) .nil)) .nil) (.cons (.set false 2 (.call F_common_divisor (.cons (.var 0) (.cons (.var 1) .nil)))) (.cons (.ret (.tup (.cons (.bin .fdiv (.var 0) (.var 2)) (.cons (.bin .fdiv (.var 1) (.var 2)) .nil)))) .nil))))
theorem r_make {a0 a1 : D} : rho0 N_make [a0, a1] = [.val a0, .val a1, .un] := rfl
def F_plus : Fn := ⟨"plus", sp_plus, 4, 2, []⟩
def N_plus : List Str := ["p", "q"]
def ir_plus : Sms := (.cons (.exp (.call F_check_ratio (.cons (.var 0) .nil))) (.cons (.exp (.call F_check_ratio (.cons (.var 1) .nil))) (.cons (.ret (.call F_sum_of (.cons (.var 0) (.cons (.var 1) .nil)))) .nil)))
theorem r_plus {a0 a1 : D} : rho0 N_plus [a0, a1] = [.val a0, .val a1] := rfl
def F_minus : Fn := ⟨"minus", sp_minus, 4, 2, []⟩
def N_minus : List Str := ["p", "q"]
def ir_minus : Sms := (.cons (.exp (.call F_check_ratio (.cons (.var 0) .nil))) (.cons (.exp (.call F_check_ratio (.cons (.var 1) .nil))) (.cons (.ret (.call F_sum_of (.cons (.var 0) (.cons (.call F_opposite (.cons (.var 1) .nil)) .nil)))) .nil)))
theorem r_minus {a0 a1 : D} : rho0 N_minus [a0, a1] = [.val a0, .val a1] := rfl
def F_times : Fn := ⟨"times", sp_times, 4, 2, []⟩
def N_times : List Str := ["p", "q"]
def ir_times : Sms := (.cons (.exp (.call F_check_ratio (.cons (.var 0) .nil))) (.cons (.exp (.call F_check_ratio (.cons (.var 1) .nil))) (.cons (.ret (.call F_product_of (.cons (.var 0) (.cons (.var 1) .nil)))) .nil)))
theorem r_times {a0 a1 : D} : rho0 N_times [a0, a1] = [.val a0, .val a1] := rfl
def F_over : Fn := ⟨"over", sp_over, 4, 2, []⟩
def N_over : List Str := ["p", "q", "above", "below"]
def ir_over : Sms := (.cons (.exp (.call F_check_ratio (.cons (.var 0) .nil))) (.cons (.exp (.call F_check_ratio (.cons (.var 1) .nil))) (.cons (.tgt (.tp (.cons (.nm 2) (.cons (.nm 3) .nil))) (.var 1)) (.cons (.iff (.cmp .eq (.var 2) (.con (.int 0))) (.cons (.raiseT "BadNumber") .nil) .nil) (.cons (.iff (.cmp .lt (.var 2) (.con (.int 0))) (.cons (.ret (.call F_product_of (.cons (.var 0) (.cons (.tup (.cons (.neg (.var 3)) (.cons (.neg (.var 2)) .nil))) .nil)))) .nil) .nil) (.cons (.ret (.call F_product_of (.cons (.var 0) (.cons (.tup (.cons (.var 3) (.cons (.var 2) .nil))) .nil)))) .nil))))))
theorem r_over {a0 a1 : D} : rho0 N_over [a0, a1] = [.val a0, .val a1, .un, .un] := rfl
def F_total : Fn := ⟨"total", sp_total, 5, 1, []⟩
def N_total : List Str := ["ratios", "result", "part"]
def ir_total : Sms := (.cons (.exp (.call F_check_ratios (.cons (.var 0) .nil))) (.cons (.set false 1 (.tup (.cons (.con (.int 0)) (.cons (.con (.int 1)) .nil)))) (.cons (.loop (.nm 2) (.seq (.var 0)) (.cons (.set false 1 (.call F_sum_of (.cons (.var 1) (.cons (.var 2) .nil)))) .nil)) (.cons (.ret (.var 1)) .nil))))
theorem r_total {a0 : D} : rho0 N_total [a0] = [.val a0, .un, .un] := rfl
end Ny
end
section
set_option Elab.async false
set_option linter.all false
namespace Ny
open PySem Pd Rt
local macro_rules | `(tactic| walk_at "wp") => `(tactic| simp only [wSs, wS, wE, wEs, wT, wBp, wTb, wQ, wO, wI, Co.d, List.length_cons, List.length_nil, List.append_nil, List.cons_append, List.nil_append, if_true, if_false, Bool.false_eq_true, reduceIte, reduceCtorEq, Bool.not_true, Bool.not_false, true_and, and_true,
  Pd.getV_0, Pd.getV_s, Pd.getL_0, Pd.getL_s, Pd.set_0, Pd.set_s, Pd.asB_b, Pd.asI_i, Pd.asQ_l, Pd.asQ_t, Pd.asLs_l, Pd.add_ii, Pd.add_ss, Pd.add_ll, Pd.add_tt, Pd.sub_ii, Pd.mul_ii, Pd.mul_li, Pd.fdiv_ii, Pd.mod_ii, Pd.pow_ii, Pd.lt_ii, Pd.le_ii, Pd.gt_ii, Pd.ge_ii, Pd.eq_ii, Pd.ne_ii, Pd.isn_n, Pd.isnn_n,
  Pd.truth_b, Pd.truth_i, Pd.truth_l, Pd.truth_t, Pd.len_l, Pd.len_t, Pd.len_s, Pd.abs_i, Pd.min2_ii, Pd.max2_ii, Pd.int_i, Pd.int_b, Pd.tuple_l, Pd.tuple_t, Pd.list_l, Pd.list_t, Pd.all_l, Pd.sum_l, Pd.sum_t, Pd.ix_l0, Pd.ix_t0, Pd.ix_l1, Pd.ix_t1, Pd.ix_t2,
  Pd.tg_nm, Pd.tg_tp, Pd.tgs_nil, Pd.tgs_cons, Pd.setQ_f, Pd.setQ_t, Pd.wipe_n, Pd.wipe_c])
theorem one_of {α : Type} {l : List α} (h : l.length = 1) : ∃ a, l = [a] := List.length_eq_one_iff.mp h
theorem abs_ite (a : Int) : (if a < 0 then -a else a) = (a.natAbs : Int) := by omega
theorem w_is_whole (ds P R) (hl : ds.length = 1) (h : sp_is_whole ds P R) : wSs ir_is_whole R (rho0 N_is_whole ds) (E0 P) := by
  obtain ⟨d, rfl⟩ := one_of hl
  obtain ⟨hp, h⟩ := h
  have ht := pl_ty hp
  rw [r_is_whole, ir_is_whole]
  walk_at "wp"
  refine ⟨ht, ?_⟩
  cases d <;> simp [isTy, tyD, isW] at * <;> first | exact h | exact ⟨ht, h⟩
theorem w_is_sequence (ds P R) (hl : ds.length = 1) (h : sp_is_sequence ds P R) : wSs ir_is_sequence R (rho0 N_is_sequence ds) (E0 P) := by
  obtain ⟨d, rfl⟩ := one_of hl
  obtain ⟨hp, h⟩ := h
  have ht := pl_ty hp
  rw [r_is_sequence, ir_is_sequence]
  walk_at "wp"
  refine ⟨ht, ?_⟩
  cases d <;> exact h
theorem w_common_divisor (ds P R) (hl : ds.length = 2) (h : sp_common_divisor ds P R) : wSs ir_common_divisor R (rho0 N_common_divisor ds) (E0 P) := by
  unfold sp_common_divisor at h
  split at h
  · rename_i a b
    rw [r_common_divisor, ir_common_divisor]
    walk_at "wp"
    refine ⟨fun m ρ => ∃ x y : Nat, ρ = [.val (.int x), .val (.int y)] ∧ Nat.gcd x y = Int.gcd a b ∧ m = y, ⟨b.natAbs, a.natAbs, b.natAbs, by rw [abs_ite, abs_ite], rfl, rfl⟩, ?_⟩
    rintro m ρ ⟨x, y, rfl, hg, rfl⟩
    walk_at "wp"
    by_cases hy : m = 0
    · subst hy
      simp
      rw [← hg] at h
      simpa using h
    · have : ((m : Int) == 0) = false := by simp [hy]
      rw [this]
      walk_at "wp"
      refine ⟨by simpa using hy, x % m, Nat.mod_lt _ (Nat.pos_of_ne_zero hy), m, x % m, ?_, ?_, rfl⟩
      · rw [Int.fmod_eq_emod_of_nonneg _ (Int.natCast_nonneg m)]; rfl
      · rw [← hg, Nat.gcd_comm x m, Nat.gcd_rec m x, Nat.gcd_comm]
  · exact h.elim
theorem w_opposite (ds P R) (hl : ds.length = 1) (h : sp_opposite ds P R) : wSs ir_opposite R (rho0 N_opposite ds) (E0 P) := by
  obtain ⟨p, rfl, h⟩ := h
  rw [r_opposite, ir_opposite]
  unfold rat
  walk_at "wp"
  exact ⟨by decide, h⟩
theorem cdv {a b : Int} {P : D → Bool → Prop} {R : Exn → Prop} : sp_common_divisor [.int a, .int b] P R = P (.int (Int.gcd a b : Nat)) false := rfl
theorem gcd0 {a : Int} {b : Nat} (hb : b ≠ 0) : ((Int.gcd a b : Nat) : Int) ≠ 0 := by
  intro z
  have z : Int.gcd a b = 0 := by omega
  exact hb (by have := (Int.gcd_eq_zero_iff.mp z).2; omega)
theorem bd_div {n a g : Nat} (h : Bd n (a : Int)) : Bd n ((a / g : Nat) : Int) := by
  unfold Bd at *
  rw [Int.natAbs_natCast] at *
  exact Nat.lt_of_le_of_lt (Nat.div_le_self a g) h
theorem w_sum_of (ds P R) (hl : ds.length = 2) (h : sp_sum_of ds P R) : wSs ir_sum_of R (rho0 N_sum_of ds) (E0 P) := by
  obtain ⟨p, q, rfl, hp, hq, h⟩ := h
  rw [r_sum_of, ir_sum_of]
  unfold rat at *
  simp only [F_common_divisor]
  walk_at "wp"
  rw [cdv]
  walk_at "wp"
  generalize hg : Int.gcd p.den q.den = g
  have hg' : g = Nat.gcd p.den q.den := hg.symm
  have g0 : (g : Int) ≠ 0 := by rw [← hg]; exact gcd0 q.den_nz
  have bg : Bd 4000 (g : Int) := by rw [← hg]; exact hq.den.gcdr (by have := q.den_nz; omega)
  have e1 : (q.den : Int).fdiv g = (q.den / g : Nat) := fdiv_nat _ _
  have e2 : (p.den : Int).fdiv g = (p.den / g : Nat) := fdiv_nat _ _
  rw [e1, e2]
  have d1 : Bd 4000 ((q.den / g : Nat) : Int) := bd_div hq.den
  have d2 : Bd 4000 ((p.den / g : Nat) : Int) := bd_div hp.den
  refine ⟨bg.divOk g0, hp.num.mulOk d1, bg.divOk g0, hq.num.mulOk d2, ?_⟩
  rw [cdv]
  walk_at "wp"
  generalize ht : p.num * ((q.den / g : Nat) : Int) + q.num * ((p.den / g : Nat) : Int) = top
  generalize he : Int.gcd top g = e
  have gn : g ≠ 0 := by omega
  have e0 : (e : Int) ≠ 0 := by rw [← he]; exact gcd0 gn
  have be : Bd 4000 (e : Int) := by rw [← he]; exact bg.gcdr g0
  have k := sum_alg p q g hg' top ht.symm e he.symm
  have e3 : top.fdiv e = top / (e : Int) := fdiv_nat _ _
  have e4 : (p.den : Int).fdiv e = (p.den / e : Nat) := fdiv_nat _ _
  rw [e3, e4, k.1]
  refine ⟨be.divOk e0, be.divOk e0, (bd_div hp.den).mulOk d1, by decide, ?_⟩
  rw [← Int.natCast_mul, k.2]
  exact h
theorem w_product_of (ds P R) (hl : ds.length = 2) (h : sp_product_of ds P R) : wSs ir_product_of R (rho0 N_product_of ds) (E0 P) := by
  obtain ⟨p, q, rfl, hp, hq, h⟩ := h
  rw [r_product_of, ir_product_of]
  unfold rat at *
  simp only [F_common_divisor]
  walk_at "wp"
  rw [cdv]
  walk_at "wp"
  rw [cdv]
  walk_at "wp"
  generalize hl : Int.gcd p.num q.den = l
  generalize hr : Int.gcd q.num p.den = r
  have l0 : (l : Int) ≠ 0 := by rw [← hl]; exact gcd0 q.den_nz
  have r0 : (r : Int) ≠ 0 := by rw [← hr]; exact gcd0 p.den_nz
  have bl : Bd 4000 (l : Int) := by rw [← hl]; exact hq.den.gcdr (by have := q.den_nz; omega)
  have br : Bd 4000 (r : Int) := by rw [← hr]; exact hp.den.gcdr (by have := p.den_nz; omega)
  have k := prod_alg p q l r hl.symm hr.symm
  refine ⟨bl.divOk l0, br.divOk r0, hp.num.fdiv.mulOk hq.num.fdiv, br.divOk r0, bl.divOk l0, hp.den.fdiv.mulOk hq.den.fdiv, by decide, ?_⟩
  rw [fdiv_nat, fdiv_nat, fdiv_nat, fdiv_nat, k.1, ← Int.natCast_ediv, ← Int.natCast_ediv, ← Int.natCast_mul, k.2]
  exact h
theorem wis {d : D} {P : D → Bool → Prop} {R : Exn → Prop} (h : pl d = true) (q : P (.bl (isW d)) false) : sp_is_whole [d] P R := ⟨h, q⟩
theorem plL_mem : ∀ {l : List D}, plL l = true → ∀ d ∈ l, pl d = true
  | d :: l, h, x, hx => by
    rw [plL, Bool.and_eq_true] at h
    rcases List.mem_cons.mp hx with e | e
    · rw [e]; exact h.1
    · exact plL_mem h.2 x e
theorem w_is_ratio (ds P R) (hl : ds.length = 1) (h : sp_is_ratio ds P R) : wSs ir_is_ratio R (rho0 N_is_ratio ds) (E0 P) := by
  obtain ⟨d, rfl⟩ := one_of hl
  obtain ⟨hp, h⟩ := h
  have ht := pl_ty hp
  rw [r_is_ratio, ir_is_ratio]
  simp only [F_is_whole, F_common_divisor]
  walk_at "wp"
  refine ⟨ht, ?_⟩
  have no : ∀ {l : List D}, l.length ≠ 2 → isRat (.tup l) = false := fun {l} z => by
    unfold isRat
    split
    · rename_i e; cases e; exact absurd rfl z
    · rfl
  cases d with
  | tup l =>
    rw [show isTy .tuple (.tup l) = true from rfl]
    walk_at "wp"
    by_cases e : l.length = 2
    · obtain ⟨a, b, rfl⟩ : ∃ a b, l = [a, b] := len2 e
      have e2 : (!(((([a, b] : List D).length : Nat) : Int) == 2)) = false := rfl
      rw [e2]
      walk_at "wp"
      rw [pl, plL, plL, plL, Bool.and_true, Bool.and_eq_true] at hp
      refine wis hp.1 ?_
      cases a with
      | int a =>
        walk_at "wp"
        simp only [isW, Bool.not_true]
        walk_at "wp"
        refine wis hp.2 ?_
        cases b with
        | int b =>
          simp only [isW, Bool.not_true]
          walk_at "wp"
          by_cases hb : b < 1
          · have e3 : isRat (.tup [.int a, .int b]) = false := by
              unfold isRat
              have : ¬ 1 ≤ b := by omega
              simp [this]
            rw [e3] at h
            rw [decide_eq_true hb]
            walk_at "wp"
            exact h
          · rw [decide_eq_false hb]
            walk_at "wp"
            have e4 : isRat (.tup [.int a, .int b]) = (b == 1 || ((Int.gcd a b : Nat) : Int) == 1) := by
              unfold isRat
              have : 1 ≤ b := by omega
              simp [this]
            rw [e4] at h
            cases hb1 : (b == 1) with
            | true =>
              rw [hb1] at h
              walk_at "wp"
              exact h
            | false =>
              rw [hb1] at h
              walk_at "wp"
              rw [cdv]
              walk_at "wp"
              exact h
        | _ => simp only [isW, Bool.not_false]; walk_at "wp"; exact h
      | _ => simp only [isW, Bool.not_false]; walk_at "wp"; exact h
    · have e2 : (!(((l.length : Nat) : Int) == 2)) = true := by
        simp
        omega
      rw [no e] at h
      rw [e2]
      walk_at "wp"
      exact h
  | _ =>
    simp only [isTy, tyD]
    walk_at "wp"
    exact h
theorem for_n {t : D → Rho → (Rho → Prop) → Prop} {ρ : Rho} {F : Rho → Prop} : wFor t [] ρ F = F ρ := rfl
theorem for_c {t : D → Rho → (Rho → Prop) → Prop} {d : D} {r : List D} {ρ : Rho} {F : Rho → Prop} : wFor t (d :: r) ρ F = t d ρ fun ρ' => wFor t r ρ' F := rfl
theorem w_check_ratio (ds P R) (hl : ds.length = 1) (h : sp_check_ratio ds P R) : wSs ir_check_ratio R (rho0 N_check_ratio ds) (E0 P) := by
  obtain ⟨d, rfl⟩ := one_of hl
  obtain ⟨hp, h⟩ := h
  rw [r_check_ratio, ir_check_ratio]
  simp only [F_is_ratio]
  walk_at "wp"
  refine ⟨hp, ?_⟩
  cases e : isRat d with
  | true => rw [e] at h; walk_at "wp"; exact h
  | false => rw [e] at h; walk_at "wp"; exact h
theorem w_check_ratios (ds P R) (hl : ds.length = 1) (h : sp_check_ratios ds P R) : wSs ir_check_ratios R (rho0 N_check_ratios ds) (E0 P) := by
  obtain ⟨d, rfl⟩ := one_of hl
  obtain ⟨hp, h⟩ := h
  rw [r_check_ratios, ir_check_ratios]
  simp only [F_is_sequence, F_check_ratio]
  walk_at "wp"
  refine ⟨hp, ?_⟩
  have ent : ∀ l : List D, plL l = true → (if l.all isRat = true then P .non false else R BadNumber) → ∀ t : D → Rho → (Rho → Prop) → Prop, (∀ x (s : Sl) (K : Rho → Prop), (pl x = true ∧ if isRat x = true then K [.val d, .val x] else R BadNumber) → t x [.val d, s] K) → wFor t l [.val d, .un] fun _ => P .non false := fun l hp h t ht => by
    refine for_I (fun l ρ => plL l = true ∧ (if l.all isRat = true then P .non false else R BadNumber) ∧ ∃ s, ρ = [.val d, s]) ⟨hp, h, _, rfl⟩ ?_ fun ρ z => z.2.1
    rintro x r ρ K ⟨h1, h2, s, rfl⟩ hK
    rw [plL, Bool.and_eq_true] at h1
    refine ht x s K ⟨h1.1, ?_⟩
    rw [List.all_cons] at h2
    cases e : isRat x with
    | true =>
      rw [e, Bool.true_and] at h2
      rw [if_pos rfl]
      exact hK _ ⟨h1.2, h2, _, rfl⟩
    | false =>
      rw [e, Bool.false_and] at h2
      exact h2
  cases d with
  | lst l =>
    simp only [isSeq]
    walk_at "wp"
    exact ent l hp h _ fun x s K z => z
  | tup l =>
    simp only [isSeq]
    walk_at "wp"
    exact ent l hp h _ fun x s K z => z
  | _ => simp only [isSeq]; walk_at "wp"; exact h
theorem div_alg (a b : Int) (hb : b ≠ 0) : (if b < 0 then -a else a).fdiv (Int.gcd (if b < 0 then -a else a) (if b < 0 then -b else b) : Nat) = (Rat.divInt a b).num ∧ (if b < 0 then -b else b).fdiv (Int.gcd (if b < 0 then -a else a) (if b < 0 then -b else b) : Nat) = ((Rat.divInt a b).den : Int) := by
  by_cases h : b < 0
  · rw [if_pos h, if_pos h]
    have e : -b = (b.natAbs : Int) := by omega
    rw [e]
    have k := low_alg (-a) b.natAbs (by omega)
    rw [k.1, k.2, ← Rat.divInt_ofNat, ← e, Rat.neg_divInt_neg]
    exact ⟨rfl, rfl⟩
  · rw [if_neg h, if_neg h]
    have e : b = (b.natAbs : Int) := by omega
    generalize b.natAbs = n at e
    subst e
    have k := low_alg a n (by omega)
    rw [k.1, k.2, ← Rat.divInt_ofNat]
    exact ⟨rfl, rfl⟩
theorem w_make (ds P R) (hl : ds.length = 2) (h : sp_make ds P R) : wSs ir_make R (rho0 N_make ds) (E0 P) := by
  obtain ⟨a, b, rfl, hb, bb, h⟩ := h
  rw [r_make, ir_make]
  simp only [F_is_whole, F_common_divisor]
  walk_at "wp"
  refine wis rfl ?_
  simp only [isW]
  walk_at "wp"
  refine wis rfl ?_
  simp only [isW]
  walk_at "wp"
  have e0 : (b == 0) = false := by simpa using hb
  rw [e0]
  walk_at "wp"
  have k := div_alg a b hb
  have go : ∀ a' b' : Int, b' ≠ 0 → Bd 8000 b' → a'.fdiv (Int.gcd a' b' : Nat) = (Rat.divInt a b).num → b'.fdiv (Int.gcd a' b' : Nat) = ((Rat.divInt a b).den : Int) →
      (CDivR a' (Int.gcd a' b' : Nat) ∧ CDivR b' (Int.gcd a' b' : Nat) ∧ 2 ≤ sizeLine ∧ P (.tup [.int (a'.fdiv (Int.gcd a' b' : Nat)), .int (b'.fdiv (Int.gcd a' b' : Nat))]) false) := fun a' b' hb' bb' k1 k2 => by
    have g0 : ((Int.gcd a' b' : Nat) : Int) ≠ 0 := by
      intro z
      have z : Int.gcd a' b' = 0 := by omega
      exact hb' (Int.gcd_eq_zero_iff.mp z).2
    have bg : Bd 8000 ((Int.gcd a' b' : Nat) : Int) := bb'.gcdr hb'
    refine ⟨bg.divOk g0, bg.divOk g0, by decide, ?_⟩
    rw [k1, k2]
    exact h
  by_cases hn : b < 0
  · rw [decide_eq_true hn]
    rw [if_pos hn, if_pos hn] at k
    walk_at "wp"
    rw [cdv]
    walk_at "wp"
    exact go _ _ (by omega) bb.neg k.1 k.2
  · rw [decide_eq_false hn]
    rw [if_neg hn, if_neg hn] at k
    walk_at "wp"
    rw [cdv]
    walk_at "wp"
    exact go _ _ hb bb k.1 k.2
theorem isRat_rat (q : Rat) : isRat (rat q) = true := by
  unfold rat isRat
  have h1 : (1 : Int) ≤ q.den := by have := q.den_pos; omega
  have h2 : Int.gcd q.num q.den = 1 := q.reduced
  simp [h1, h2]
theorem pl_rat (q : Rat) : pl (rat q) = true := rfl
theorem chk {q : Rat} {P : D → Bool → Prop} {R : Exn → Prop} (h : P .non false) : sp_check_ratio [rat q] P R := by
  refine ⟨rfl, ?_⟩
  rw [if_pos (isRat_rat q)]
  exact h
theorem w_plus (ds P R) (hl : ds.length = 2) (h : sp_plus ds P R) : wSs ir_plus R (rho0 N_plus ds) (E0 P) := by
  obtain ⟨p, q, rfl, hp, hq, h⟩ := h
  rw [r_plus, ir_plus]
  simp only [F_check_ratio, F_sum_of]
  walk_at "wp"
  refine chk ?_
  refine chk ?_
  exact ⟨p, q, rfl, hp, hq, h⟩
theorem w_times (ds P R) (hl : ds.length = 2) (h : sp_times ds P R) : wSs ir_times R (rho0 N_times ds) (E0 P) := by
  obtain ⟨p, q, rfl, hp, hq, h⟩ := h
  rw [r_times, ir_times]
  simp only [F_check_ratio, F_product_of]
  walk_at "wp"
  refine chk ?_
  refine chk ?_
  exact ⟨p, q, rfl, hp, hq, h⟩
theorem Sm_neg {n : Nat} {q : Rat} (h : Sm n q) : Sm n (-q) := ⟨h.num.neg, h.den⟩
theorem w_minus (ds P R) (hl : ds.length = 2) (h : sp_minus ds P R) : wSs ir_minus R (rho0 N_minus ds) (E0 P) := by
  obtain ⟨p, q, rfl, hp, hq, h⟩ := h
  rw [r_minus, ir_minus]
  simp only [F_check_ratio, F_sum_of, F_opposite]
  walk_at "wp"
  refine chk ?_
  refine chk ?_
  refine ⟨q, rfl, p, -q, rfl, hp, Sm_neg hq, ?_⟩
  rw [← Rat.sub_eq_add_neg]
  exact h
theorem w_over (ds P R) (hl : ds.length = 2) (h : sp_over ds P R) : wSs ir_over R (rho0 N_over ds) (E0 P) := by
  obtain ⟨p, q, rfl, hp, hq, hz, h⟩ := h
  rw [r_over, ir_over]
  simp only [F_check_ratio, F_product_of]
  walk_at "wp"
  refine chk ?_
  refine chk ?_
  show wTgs _ [.int q.num, .int q.den] _ _
  walk_at "wp"
  have nz : q.num ≠ 0 := fun z => hz (Rat.num_eq_zero.mp z)
  have e0 : (q.num == 0) = false := by simpa using nz
  rw [e0]
  walk_at "wp"
  have iv : ∀ s : Int, s = q.num.sign → s * q.den = (q⁻¹).num := fun s e => by rw [e, Rat.num_inv]
  have dn : ((q⁻¹).den : Int) = q.num.natAbs := by rw [Rat.den_inv, if_neg nz]
  have sm : Sm 4000 q⁻¹ := by
    refine ⟨?_, ?_⟩
    · rw [Rat.num_inv]
      have := hq.den
      unfold Bd at *
      rw [Int.natAbs_mul, Int.natAbs_sign_of_ne_zero nz, Nat.one_mul]
      exact this
    · rw [dn]
      have := hq.num
      unfold Bd at *
      exact this
  by_cases hn : q.num < 0
  · rw [decide_eq_true hn]
    walk_at "wp"
    refine ⟨by decide, p, q⁻¹, ?_, hp, sm, h⟩
    show [rat p, D.tup [.int (-q.den), .int (-q.num)]] = [rat p, D.tup [.int (q⁻¹).num, .int (q⁻¹).den]]
    rw [dn, ← iv _ rfl, Int.sign_eq_neg_one_of_neg hn, show ((q.num.natAbs : Nat) : Int) = -q.num by omega, show (-1 : Int) * q.den = -q.den by omega]
  · rw [decide_eq_false hn]
    walk_at "wp"
    refine ⟨by decide, p, q⁻¹, ?_, hp, sm, h⟩
    show [rat p, D.tup [.int q.den, .int q.num]] = [rat p, D.tup [.int (q⁻¹).num, .int (q⁻¹).den]]
    rw [dn, ← iv _ rfl, Int.sign_eq_one_of_pos (by omega), show ((q.num.natAbs : Nat) : Int) = q.num by omega, Int.one_mul]
theorem rats_ok : ∀ l : List Rat, (l.map rat).all isRat = true ∧ plL (l.map rat) = true
  | [] => ⟨rfl, rfl⟩
  | q :: r => by
    obtain ⟨a, b⟩ := rats_ok r
    rw [List.map_cons, List.all_cons, plL, isRat_rat, a, b]
    exact ⟨rfl, rfl⟩
theorem w_total (ds P R) (hl : ds.length = 1) (h : sp_total ds P R) : wSs ir_total R (rho0 N_total ds) (E0 P) := by
  obtain ⟨d, l, rfl, es, ha, h⟩ := h
  rw [r_total, ir_total]
  simp only [F_check_ratios, F_sum_of]
  walk_at "wp"
  have hd : d = .lst (l.map rat) ∨ d = .tup (l.map rat) := by
    cases d <;> cases es
    · exact .inr rfl
    · exact .inl rfl
  have r1 := rats_ok l
  refine ⟨?_, ?_⟩
  · rcases hd with e | e <;> rw [e] <;> exact r1.2
  have e1 : isRats d = true := by rcases hd with e | e <;> rw [e] <;> exact r1.1
  rw [e1]
  walk_at "wp"
  refine ⟨by decide, ?_⟩
  have ent : ∀ t : D → Rho → (Rho → Prop) → Prop, (∀ q a (s : Sl) (K : Rho → Prop), Sm 4000 a → Sm 4000 q → K [.val d, .val (rat (a + q)), .val (rat q)] → t (rat q) [.val d, .val (rat a), s] K) → wFor t (l.map rat) [.val d, .val (rat 0), .un] fun ρ => getV ρ 1 fun d => P d false := fun t ht => by
    refine for_I (fun its ρ => ∃ r a s, its = r.map rat ∧ ρ = [.val d, .val (rat a), s] ∧ Acc a r ∧ P (rat (sumR a r)) false) ⟨l, 0, .un, rfl, rfl, ha, h⟩ ?_ ?_
    · rintro x its ρ K ⟨r, a, s, e, rfl, h1, h2⟩ hK
      cases r with
      | nil => cases e
      | cons q r =>
        cases e
        exact ht q a s K h1.1 h1.2.1 (hK _ ⟨r, a + q, _, rfl, rfl, h1.2.2, h2⟩)
    · rintro ρ ⟨r, a, s, e, rfl, h1, h2⟩
      cases r with
      | nil => exact h2
      | cons q r => cases e
  rcases hd with e | e
  · rw [e] at ent ⊢
    walk_at "wp"
    exact ent _ fun q a s K h1 h2 h3 => ⟨a, q, rfl, h1, h2, h3⟩
  · rw [e] at ent ⊢
    walk_at "wp"
    exact ent _ fun q a s K h1 h2 h3 => ⟨a, q, rfl, h1, h2, h3⟩
end Ny
end
section
set_option Elab.async false
set_option linter.all false
/-! ## forms: what the functions promise -/
namespace Ny
open PySem Pd Rt
def BadSpot : Exn := ⟨"BadSpot", []⟩
def isDim : D → Bool | .int i => decide (1 ≤ i) && decide (i ≤ 3) | _ => false
def areInts (n : Int) : D → Bool | .tup l => (l.length : Int) == n && l.all isW | _ => false
def areRats (n : Int) : D → Bool | .tup l => (l.length : Int) == n && l.all isRat | _ => false
def okSpot : D → Bool | .tup l => (decide (1 ≤ l.length) && decide (l.length ≤ 3)) && l.all isRat | _ => false
def lenD : D → Int | .tup l => l.length | .lst l => l.length | _ => 0
def okTwo (a b : D) : Bool := okSpot a && areRats (lenD a) b
def okCount : D → Bool | .int i => decide (1 ≤ i) | _ => false
def okCounts (n : Int) (d : D) : Bool := match d with | .lst l => (l.length : Int) == n && l.all okCount | .tup l => (l.length : Int) == n && l.all okCount | _ => false
def sp_check_dim : Pd.Spec := fun ds P R => match ds with | [d] => pl d = true ∧ (if isDim d = true then P .non false else R BadNumber) | _ => False
def sp_are_integers : Pd.Spec := fun ds P R => match ds with | [d, .int n] => pl d = true ∧ P (.bl (areInts n d)) false | _ => False
def sp_are_ratios : Pd.Spec := fun ds P R => match ds with | [d, .int n] => pl d = true ∧ P (.bl (areRats n d)) false | _ => False
def sp_is_row : Pd.Spec := fun ds P R => match ds with | [.int n, d] => isDim (.int n) = true ∧ pl d = true ∧ P (.bl (areInts n d)) false | _ => False
def sp_is_spot : Pd.Spec := fun ds P R => match ds with | [.int n, d] => isDim (.int n) = true ∧ pl d = true ∧ P (.bl (areRats n d)) false | _ => False
def sp_check_spot : Pd.Spec := fun ds P R => match ds with | [d] => pl d = true ∧ (if okSpot d = true then P .non false else R BadSpot) | _ => False
def sp_check_two_spots : Pd.Spec := fun ds P R => match ds with | [a, b] => pl a = true ∧ pl b = true ∧ (if okTwo a b = true then P .non false else R BadSpot) | _ => False
def sp_check_counts : Pd.Spec := fun ds P R => match ds with | [d, .int n] => pl d = true ∧ (if okCounts n d = true then P .non false else R BadNumber) | _ => False
end Ny
end
section
set_option Elab.async false
set_option linter.all false
namespace Ny
open PySem Pd Rt
def F_check_dim : Fn := ⟨"check_dim", sp_check_dim, 2, 1, []⟩
def N_check_dim : List Str := ["dim"]
def ir_check_dim : Sms := (.cons (.iff (.bop false (.cons (.not (.tru (.call F_is_whole (.cons (.var 0) .nil)))) (.cons (.cmp .lt (.var 0) (.con (.int 1))) (.cons (.cmp .gt (.var 0) (.glo "MOST_DIM" (.int 3))) .nil)))) (.cons (.raiseT "BadNumber") .nil) .nil) .nil)
theorem r_check_dim {a0 : D} : rho0 N_check_dim [a0] = [.val a0] := rfl
def F_are_integers : Fn := ⟨"are_integers", sp_are_integers, 2, 2, []⟩
def N_are_integers : List Str := ["thing", "size", "part"]
def ir_are_integers : Sms := (.cons (.ret (.bop true (.cons (.isi .tuple (.var 0)) (.cons (.cmp .eq (.bi .len (.cons (.var 0) .nil)) (.var 1)) (.cons (.bi .all (.cons (.comp (.nm 2) [("part", 2)] (.seq (.var 0)) .nil (.call F_is_whole (.cons (.var 2) .nil))) .nil)) .nil))))) .nil)
theorem r_are_integers {a0 a1 : D} : rho0 N_are_integers [a0, a1] = [.val a0, .val a1, .un] := rfl
def F_are_ratios : Fn := ⟨"are_ratios", sp_are_ratios, 3, 2, []⟩
def N_are_ratios : List Str := ["thing", "size", "part"]
def ir_are_ratios : Sms := (.cons (.ret (.bop true (.cons (.isi .tuple (.var 0)) (.cons (.cmp .eq (.bi .len (.cons (.var 0) .nil)) (.var 1)) (.cons (.bi .all (.cons (.comp (.nm 2) [("part", 2)] (.seq (.var 0)) .nil (.call F_is_ratio (.cons (.var 2) .nil))) .nil)) .nil))))) .nil)
theorem r_are_ratios {a0 a1 : D} : rho0 N_are_ratios [a0, a1] = [.val a0, .val a1, .un] := rfl
def F_is_row : Fn := ⟨"is_row", sp_is_row, 3, 2, []⟩
def N_is_row : List Str := ["dim", "thing"]
def ir_is_row : Sms := (.cons (.exp (.call F_check_dim (.cons (.var 0) .nil))) (.cons (.ret (.call F_are_integers (.cons (.var 1) (.cons (.var 0) .nil)))) .nil))
theorem r_is_row {a0 a1 : D} : rho0 N_is_row [a0, a1] = [.val a0, .val a1] := rfl
def F_is_spot : Fn := ⟨"is_spot", sp_is_spot, 4, 2, []⟩
def N_is_spot : List Str := ["dim", "thing"]
def ir_is_spot : Sms := (.cons (.exp (.call F_check_dim (.cons (.var 0) .nil))) (.cons (.ret (.call F_are_ratios (.cons (.var 1) (.cons (.var 0) .nil)))) .nil))
theorem r_is_spot {a0 a1 : D} : rho0 N_is_spot [a0, a1] = [.val a0, .val a1] := rfl
def F_check_spot : Fn := ⟨"check_spot_forms", sp_check_spot, 4, 1, []⟩
def N_check_spot : List Str := ["spot"]
def ir_check_spot : Sms := (.cons (.iff (.bop false (.cons (.not (.tru (.isi .tuple (.var 0)))) (.cons (.cmp .lt (.bi .len (.cons (.var 0) .nil)) (.con (.int 1))) (.cons (.cmp .gt (.bi .len (.cons (.var 0) .nil)) (.glo "MOST_DIM" (.int 3))) .nil)))) (.cons (.raiseT "BadSpot") .nil) .nil) (.cons (.iff (.not (.tru (.call F_are_ratios (.cons (.var 0) (.cons (.bi .len (.cons (.var 0) .nil)) .nil))))) (.cons (.raiseT "BadSpot") .nil) .nil) .nil))
theorem r_check_spot {a0 : D} : rho0 N_check_spot [a0] = [.val a0] := rfl
def F_check_two_spots : Fn := ⟨"check_two_spots", sp_check_two_spots, 5, 2, []⟩
def N_check_two_spots : List Str := ["begin", "finish"]
def ir_check_two_spots : Sms := (.cons (.exp (.call F_check_spot (.cons (.var 0) .nil))) (.cons (.iff (.not (.tru (.call F_are_ratios (.cons (.var 1) (.cons (.bi .len (.cons (.var 0) .nil)) .nil))))) (.cons (.raiseT "BadSpot") .nil) .nil) .nil))
theorem r_check_two_spots {a0 a1 : D} : rho0 N_check_two_spots [a0, a1] = [.val a0, .val a1] := rfl
def F_check_counts : Fn := ⟨"check_counts", sp_check_counts, 2, 2, []⟩
def N_check_counts : List Str := ["counts", "size", "count"]
def ir_check_counts : Sms := (.cons (.iff (.bop false (.cons (.not (.tru (.call F_is_sequence (.cons (.var 0) .nil)))) (.cons (.cmp .ne (.bi .len (.cons (.var 0) .nil)) (.var 1)) .nil))) (.cons (.raiseT "BadNumber") .nil) .nil) (.cons (.iff (.not (.tru (.bi .all (.cons (.comp (.nm 2) [("count", 2)] (.seq (.var 0)) .nil (.bop true (.cons (.call F_is_whole (.cons (.var 2) .nil)) (.cons (.cmp .ge (.var 2) (.con (.int 1))) .nil)))) .nil)))) (.cons (.raiseT "BadNumber") .nil) .nil) .nil))
theorem r_check_counts {a0 a1 : D} : rho0 N_check_counts [a0, a1] = [.val a0, .val a1, .un] := rfl
end Ny
end
section
set_option Elab.async false
set_option linter.all false
namespace Ny
open PySem Pd Rt
local macro_rules | `(tactic| walk_at "wp") => `(tactic| simp only [wSs, wS, wE, wEs, wT, wBp, wTb, wQ, wO, wI, Co.d, List.length_cons, List.length_nil, List.append_nil, List.cons_append, List.nil_append, if_true, if_false, Bool.false_eq_true, reduceIte, reduceCtorEq, Bool.not_true, Bool.not_false, true_and, and_true,
  Pd.getV_0, Pd.getV_s, Pd.getL_0, Pd.getL_s, Pd.set_0, Pd.set_s, Pd.asB_b, Pd.asI_i, Pd.asQ_l, Pd.asQ_t, Pd.asLs_l, Pd.add_ii, Pd.add_ss, Pd.add_ll, Pd.add_tt, Pd.sub_ii, Pd.mul_ii, Pd.mul_li, Pd.fdiv_ii, Pd.mod_ii, Pd.pow_ii, Pd.lt_ii, Pd.le_ii, Pd.gt_ii, Pd.ge_ii, Pd.eq_ii, Pd.ne_ii, Pd.isn_n, Pd.isnn_n,
  Pd.truth_b, Pd.truth_i, Pd.truth_l, Pd.truth_t, Pd.len_l, Pd.len_t, Pd.len_s, Pd.abs_i, Pd.min2_ii, Pd.max2_ii, Pd.int_i, Pd.int_b, Pd.tuple_l, Pd.tuple_t, Pd.list_l, Pd.list_t, Pd.all_l, Pd.sum_l, Pd.sum_t, Pd.ix_l0, Pd.ix_t0, Pd.ix_l1, Pd.ix_t1, Pd.ix_t2,
  Pd.tg_nm, Pd.tg_tp, Pd.tgs_nil, Pd.tgs_cons, Pd.setQ_f, Pd.setQ_t, Pd.wipe_n, Pd.wipe_c])
theorem two_of {α : Type} {l : List α} (h : l.length = 2) : ∃ a b, l = [a, b] := len2 h
theorem all_comp {t : D → (Option D → Prop) → Prop} {l : List D} {f : D → Bool} {P : D → Bool → Prop} (step : ∀ x ∈ l, ∀ K : Option D → Prop, K (some (.bl (f x))) → t x K) (fin : P (.bl (l.all f)) false) : wLoop t l [] fun acc => wBi .all [.lst acc] P := by
  have e : l = l.map id := by simp
  rw [e]
  refine loop_map (f := fun x => D.bl (f x)) (g := id) step ?_
  have e2 : [] ++ l.map (fun x => D.bl (f x)) = (l.map f).map D.bl := by simp
  rw [e2, all_l, List.all_map]
  exact fin
theorem w_check_dim (ds P R) (hl : ds.length = 1) (h : sp_check_dim ds P R) : wSs ir_check_dim R (rho0 N_check_dim ds) (E0 P) := by
  obtain ⟨d, rfl⟩ := one_of hl
  obtain ⟨hp, h⟩ := h
  rw [r_check_dim, ir_check_dim]
  simp only [F_is_whole]
  walk_at "wp"
  refine wis hp ?_
  cases d with
  | int i =>
    simp only [isW]
    walk_at "wp"
    have e : isDim (.int i) = (decide (1 ≤ i) && decide (i ≤ 3)) := rfl
    rw [e] at h
    by_cases h1 : i < 1
    · rw [decide_eq_true h1]
      rw [decide_eq_false (by omega), Bool.false_and] at h
      walk_at "wp"
      exact h
    · rw [decide_eq_false h1]
      rw [decide_eq_true (by omega), Bool.true_and] at h
      walk_at "wp"
      by_cases h2 : 3 < i
      · rw [decide_eq_true h2]
        rw [decide_eq_false (by omega)] at h
        walk_at "wp"
        exact h
      · rw [decide_eq_false h2]
        rw [decide_eq_true (by omega)] at h
        walk_at "wp"
        exact h
  | _ => simp only [isW]; walk_at "wp"; exact h
theorem w_are_integers (ds P R) (hl : ds.length = 2) (h : sp_are_integers ds P R) : wSs ir_are_integers R (rho0 N_are_integers ds) (E0 P) := by
  unfold sp_are_integers at h
  split at h
  · rename_i d n
    obtain ⟨hp, h⟩ := h
    rw [r_are_integers, ir_are_integers]
    simp only [F_is_whole]
    walk_at "wp"
    refine ⟨pl_ty hp, ?_⟩
    cases d with
    | tup l =>
      rw [show isTy .tuple (.tup l) = true from rfl]
      walk_at "wp"
      have e : areInts n (.tup l) = ((l.length : Int) == n && l.all isW) := rfl
      rw [e] at h
      cases hn : ((l.length : Int) == n) with
      | false =>
        rw [hn, Bool.false_and] at h
        walk_at "wp"
        exact h
      | true =>
        rw [hn, Bool.true_and] at h
        walk_at "wp"
        refine all_comp (f := isW) (fun x hx K hK => ?_) h
        exact ⟨plL_mem hp x hx, hK⟩
    | _ => simp only [isTy, tyD]; walk_at "wp"; exact h
  · exact h.elim
theorem w_are_ratios (ds P R) (hl : ds.length = 2) (h : sp_are_ratios ds P R) : wSs ir_are_ratios R (rho0 N_are_ratios ds) (E0 P) := by
  unfold sp_are_ratios at h
  split at h
  · rename_i d n
    obtain ⟨hp, h⟩ := h
    rw [r_are_ratios, ir_are_ratios]
    simp only [F_is_ratio]
    walk_at "wp"
    refine ⟨pl_ty hp, ?_⟩
    cases d with
    | tup l =>
      rw [show isTy .tuple (.tup l) = true from rfl]
      walk_at "wp"
      have e : areRats n (.tup l) = ((l.length : Int) == n && l.all isRat) := rfl
      rw [e] at h
      cases hn : ((l.length : Int) == n) with
      | false =>
        rw [hn, Bool.false_and] at h
        walk_at "wp"
        exact h
      | true =>
        rw [hn, Bool.true_and] at h
        walk_at "wp"
        refine all_comp (f := isRat) (fun x hx K hK => ?_) h
        exact ⟨plL_mem hp x hx, hK⟩
    | _ => simp only [isTy, tyD]; walk_at "wp"; exact h
  · exact h.elim
theorem w_is_row (ds P R) (hl : ds.length = 2) (h : sp_is_row ds P R) : wSs ir_is_row R (rho0 N_is_row ds) (E0 P) := by
  unfold sp_is_row at h
  split at h
  · rename_i n d
    obtain ⟨hd, hp, h⟩ := h
    rw [r_is_row, ir_is_row]
    simp only [F_check_dim, F_are_integers]
    walk_at "wp"
    refine ⟨rfl, ?_⟩
    rw [if_pos hd]
    exact ⟨hp, h⟩
  · exact h.elim
theorem w_is_spot (ds P R) (hl : ds.length = 2) (h : sp_is_spot ds P R) : wSs ir_is_spot R (rho0 N_is_spot ds) (E0 P) := by
  unfold sp_is_spot at h
  split at h
  · rename_i n d
    obtain ⟨hd, hp, h⟩ := h
    rw [r_is_spot, ir_is_spot]
    simp only [F_check_dim, F_are_ratios]
    walk_at "wp"
    refine ⟨rfl, ?_⟩
    rw [if_pos hd]
    exact ⟨hp, h⟩
  · exact h.elim
theorem w_check_spot (ds P R) (hl : ds.length = 1) (h : sp_check_spot ds P R) : wSs ir_check_spot R (rho0 N_check_spot ds) (E0 P) := by
  obtain ⟨d, rfl⟩ := one_of hl
  obtain ⟨hp, h⟩ := h
  rw [r_check_spot, ir_check_spot]
  simp only [F_are_ratios]
  walk_at "wp"
  refine ⟨pl_ty hp, ?_⟩
  cases d with
  | tup l =>
    rw [show isTy .tuple (.tup l) = true from rfl]
    walk_at "wp"
    have e : okSpot (.tup l) = ((decide (1 ≤ l.length) && decide (l.length ≤ 3)) && l.all isRat) := rfl
    rw [e] at h
    by_cases h1 : (l.length : Int) < 1
    · rw [decide_eq_true h1]
      rw [decide_eq_false (by omega), Bool.false_and, Bool.false_and] at h
      walk_at "wp"
      exact h
    · rw [decide_eq_false h1]
      rw [decide_eq_true (by omega), Bool.true_and] at h
      walk_at "wp"
      by_cases h2 : (3 : Int) < l.length
      · rw [decide_eq_true h2]
        rw [decide_eq_false (by omega), Bool.false_and] at h
        walk_at "wp"
        exact h
      · rw [decide_eq_false h2]
        rw [decide_eq_true (by omega), Bool.true_and] at h
        walk_at "wp"
        refine ⟨hp, ?_⟩
        have e2 : areRats (l.length : Int) (.tup l) = l.all isRat := by
          unfold areRats
          simp
        rw [e2]
        cases h3 : l.all isRat with
        | true => rw [h3] at h; walk_at "wp"; exact h
        | false => rw [h3] at h; walk_at "wp"; exact h
  | _ => simp only [isTy, tyD]; walk_at "wp"; exact h
theorem w_check_two_spots (ds P R) (hl : ds.length = 2) (h : sp_check_two_spots ds P R) : wSs ir_check_two_spots R (rho0 N_check_two_spots ds) (E0 P) := by
  obtain ⟨a, b, rfl⟩ := two_of hl
  obtain ⟨ha, hb, h⟩ := h
  rw [r_check_two_spots, ir_check_two_spots]
  simp only [F_check_spot, F_are_ratios]
  walk_at "wp"
  refine ⟨ha, ?_⟩
  unfold okTwo at h
  cases e : okSpot a with
  | false =>
    rw [e, Bool.false_and] at h
    exact h
  | true =>
    rw [e, Bool.true_and] at h
    cases a with
    | tup l =>
      walk_at "wp"
      refine ⟨hb, ?_⟩
      have e2 : lenD (.tup l) = l.length := rfl
      rw [e2] at h
      cases h3 : areRats (l.length : Int) b with
      | true => rw [h3] at h; walk_at "wp"; exact h
      | false => rw [h3] at h; walk_at "wp"; exact h
    | _ => cases e
theorem w_check_counts (ds P R) (hl : ds.length = 2) (h : sp_check_counts ds P R) : wSs ir_check_counts R (rho0 N_check_counts ds) (E0 P) := by
  unfold sp_check_counts at h
  split at h
  · rename_i d n
    obtain ⟨hp, h⟩ := h
    rw [r_check_counts, ir_check_counts]
    simp only [F_is_sequence, F_is_whole]
    walk_at "wp"
    refine ⟨hp, ?_⟩
    have one : ∀ (x : D) (s : Sl) (K : Option D → Prop), pl x = true → K (some (.bl (okCount x))) → (sp_is_whole [x] (fun d x_1 => asB d fun b => if b = true then wCmp Cop.ge x (D.int 1) fun k => K (some (.bl k)) else K (some (.bl false))) Nox) := fun x s K hx hK => by
      refine wis hx ?_
      cases x with
      | int i =>
        simp only [isW]
        walk_at "wp"
        exact hK
      | _ => simp only [isW]; walk_at "wp"; exact hK
    cases d with
    | lst l =>
      simp only [isSeq]
      walk_at "wp"
      have e : okCounts n (.lst l) = ((l.length : Int) == n && l.all okCount) := rfl
      rw [e] at h
      cases hn : ((l.length : Int) == n) with
      | false =>
        rw [hn, Bool.false_and] at h
        walk_at "wp"
        exact h
      | true =>
        rw [hn, Bool.true_and] at h
        walk_at "wp"
        refine all_comp (f := okCount) (fun x hx K hK => ?_) ?_
        · exact one x .un K (plL_mem hp x hx) hK
        · cases h3 : l.all okCount with
          | true => rw [h3] at h; walk_at "wp"; exact h
          | false => rw [h3] at h; walk_at "wp"; exact h
    | tup l =>
      simp only [isSeq]
      walk_at "wp"
      have e : okCounts n (.tup l) = ((l.length : Int) == n && l.all okCount) := rfl
      rw [e] at h
      cases hn : ((l.length : Int) == n) with
      | false =>
        rw [hn, Bool.false_and] at h
        walk_at "wp"
        exact h
      | true =>
        rw [hn, Bool.true_and] at h
        walk_at "wp"
        refine all_comp (f := okCount) (fun x hx K hK => ?_) ?_
        · exact one x .un K (plL_mem hp x hx) hK
        · cases h3 : l.all okCount with
          | true => rw [h3] at h; walk_at "wp"; exact h
          | false => rw [h3] at h; walk_at "wp"; exact h
    | _ => simp only [isSeq]; walk_at "wp"; exact h
  · exact h.elim
end Ny
end
section
set_option Elab.async false
set_option linter.all false
/-! ## books: what the functions promise (of good points) -/
namespace Ny
open PySem Pd Rt
def X_TooLarge : Exi := ⟨"TooLarge", ["limit"], 1⟩
structure Pt where
  row : List Int
  wt : Int
  col : Str
def rowD (r : List Int) : D := .tup (r.map D.int)
def ptD (p : Pt) : D := .tup [rowD p.row, .int p.wt, .str p.col]
def isLet (x : Str) : Prop := x.length = 1 ∧ PyData.strOk x = true ∧ strLt x "a" = false ∧ strLt "z" x = false
structure GoodPt (dim : Nat) (p : Pt) : Prop where
  len : p.row.length = dim
  ent : ∀ x ∈ p.row, -1000000 ≤ x ∧ x ≤ 1000000
  wt : -1000000000000 ≤ p.wt ∧ p.wt ≤ 1000000000000
  col : isLet p.col
def lim : Nat → Nat | 1 => 12 | 2 => 7 | 3 => 5 | _ => 0
structure GoodPts (dim : Nat) (ps : List Pt) : Prop where
  dm : 1 ≤ dim ∧ dim ≤ 3
  one : 0 < ps.length
  most : ps.length ≤ lim dim
  pts : ∀ p ∈ ps, GoodPt dim p
  nd : (ps.map fun p => (p.row, p.wt)).Nodup
def eqW (ps : List Pt) : Bool := ps.all fun p => p.wt == (ps.head?.map (·.wt)).getD 0
def bookKs : List Str := ["dim", "points", "many", "equal_weights"]
def bookVs (dim : Nat) (ps : List Pt) : List D := [.int dim, .tup (ps.map ptD), .int ps.length, .bl (eqW ps)]
def bookD (dim : Nat) (ps : List Pt) : D := .obj "Book" bookKs (bookVs dim ps)
def isNum (n : Int) : D → Bool | .int i => decide (0 ≤ i) && decide (i < n) | _ => false
def sp_is_whole_54 : Pd.Spec := sp_is_whole
def sp_is_dim : Pd.Spec := fun ds P R => match ds with | [.int i] => P (.bl (isDim (.int i))) false | _ => False
def sp_is_letter : Pd.Spec := fun ds P R => ∃ x, ds = [.str x] ∧ isLet x ∧ P (.bl true) false
def sp_is_bounded_row : Pd.Spec := fun ds P R => ∃ (dim : Nat) (p : Pt), ds = [.int dim, rowD p.row] ∧ (1 ≤ dim ∧ dim ≤ 3) ∧ GoodPt dim p ∧ P (.bl true) false
def sp_is_point : Pd.Spec := fun ds P R => ∃ (dim : Nat) (p : Pt), ds = [.int dim, ptD p] ∧ (1 ≤ dim ∧ dim ≤ 3) ∧ GoodPt dim p ∧ P (.bl true) false
def sp_has_twins : Pd.Spec := fun ds P R => ∃ (dim : Nat) (ps : List Pt), ds = [.tup (ps.map ptD)] ∧ GoodPts dim ps ∧ P (.bl false) false
def sp_is_point_number : Pd.Spec := fun ds P R => match ds with | [.int n, d] => pl d = true ∧ P (.bl (isNum n d)) false | _ => False
def sp_check_number : Pd.Spec := fun ds P R => match ds with | [.int n, d] => pl d = true ∧ (if isNum n d = true then P .non false else R BadNumber) | _ => False
def sp_check_spot_64 : Pd.Spec := fun ds P R => match ds with | [.int n, d] => isDim (.int n) = true ∧ pl d = true ∧ (if areRats n d = true then P .non false else R BadSpot) | _ => False
def mkBook : List D → (List Str → List D → Prop) → (Exn → Prop) → Prop := fun ds P R => ∃ (dim : Nat) (ps : List Pt) (d : D), ds = [.int dim, d] ∧ seqD d = some (ps.map ptD) ∧ GoodPts dim ps ∧ P bookKs (bookVs dim ps)
def sp_Book_row : Pd.Spec := fun ds P R => ∃ (dim : Nat) (ps : List Pt) (n : Nat) (p : Pt), ds = [bookD dim ps, .int n] ∧ ps[n]? = some p ∧ P (rowD p.row) false
def sp_Book_weight : Pd.Spec := fun ds P R => ∃ (dim : Nat) (ps : List Pt) (n : Nat) (p : Pt), ds = [bookD dim ps, .int n] ∧ ps[n]? = some p ∧ P (.int p.wt) false
end Ny
end
section
set_option Elab.async false
set_option linter.all false
namespace Ny
open PySem Pd Rt
def F_is_whole_54 : Fn := ⟨"is_whole_book", sp_is_whole_54, 1, 1, []⟩
def N_is_whole_54 : List Str := ["thing"]
def ir_is_whole_54 : Sms := (.cons (.ret (.bop true (.cons (.isi .int (.var 0)) (.cons (.not (.isi .bool (.var 0))) .nil)))) .nil)
theorem r_is_whole_54 {a0 : D} : rho0 N_is_whole_54 [a0] = [.val a0] := rfl
def F_is_dim : Fn := ⟨"is_dim", sp_is_dim, 2, 1, []⟩
def N_is_dim : List Str := ["thing"]
def ir_is_dim : Sms := (.cons (.ret (.bop true (.cons (.call F_is_whole_54 (.cons (.var 0) .nil)) (.cons (.chn .le .le (.con (.int 1)) (.var 0) (.con (.int 3))) .nil)))) .nil)
theorem r_is_dim {a0 : D} : rho0 N_is_dim [a0] = [.val a0] := rfl
def F_is_letter : Fn := ⟨"is_letter", sp_is_letter, 1, 1, []⟩
def N_is_letter : List Str := ["thing"]
def ir_is_letter : Sms := (.cons (.ret (.bop true (.cons (.isi .str (.var 0)) (.cons (.cmp .eq (.bi .len (.cons (.var 0) .nil)) (.con (.int 1))) (.cons (.chn .le .le (.con (.str "a")) (.var 0) (.con (.str "z"))) .nil))))) .nil)
theorem r_is_letter {a0 : D} : rho0 N_is_letter [a0] = [.val a0] := rfl
def F_is_bounded_row : Fn := ⟨"is_bounded_row", sp_is_bounded_row, 4, 2, []⟩
def N_is_bounded_row : List Str := ["dim", "thing", "entry"]
def ir_is_bounded_row : Sms := (.cons (.iff (.bop false (.cons (.not (.tru (.isi .tuple (.var 1)))) (.cons (.not (.tru (.call F_is_row (.cons (.var 0) (.cons (.var 1) .nil))))) .nil))) (.cons (.ret (.con (.bl false))) .nil) .nil) (.cons (.ret (.bi .all (.cons (.comp (.nm 2) [("entry", 2)] (.seq (.var 1)) .nil (.chn .le .le (.neg (.glo "ENTRY_BOUND" (.int 1000000))) (.var 2) (.glo "ENTRY_BOUND" (.int 1000000)))) .nil))) .nil))
theorem r_is_bounded_row {a0 a1 : D} : rho0 N_is_bounded_row [a0, a1] = [.val a0, .val a1, .un] := rfl
def F_is_point : Fn := ⟨"is_point", sp_is_point, 5, 2, []⟩
def N_is_point : List Str := ["dim", "thing", "row", "weight", "colour"]
def ir_is_point : Sms := (.cons (.iff (.bop false (.cons (.not (.tru (.isi .tuple (.var 1)))) (.cons (.cmp .ne (.bi .len (.cons (.var 1) .nil)) (.con (.int 3))) .nil))) (.cons (.ret (.con (.bl false))) .nil) .nil) (.cons (.tgt (.tp (.cons (.nm 2) (.cons (.nm 3) (.cons (.nm 4) .nil)))) (.var 1)) (.cons (.iff (.bop false (.cons (.not (.tru (.call F_is_bounded_row (.cons (.var 0) (.cons (.var 2) .nil))))) (.cons (.not (.tru (.call F_is_letter (.cons (.var 4) .nil)))) .nil))) (.cons (.ret (.con (.bl false))) .nil) .nil) (.cons (.ret (.bop true (.cons (.call F_is_whole_54 (.cons (.var 3) .nil)) (.cons (.chn .le .le (.neg (.glo "WEIGHT_BOUND" (.int 1000000000000))) (.var 3) (.glo "WEIGHT_BOUND" (.int 1000000000000))) .nil)))) .nil))))
theorem r_is_point {a0 a1 : D} : rho0 N_is_point [a0, a1] = [.val a0, .val a1, .un, .un, .un] := rfl
def F_has_twins : Fn := ⟨"has_twins", sp_has_twins, 1, 1, []⟩
def N_has_twins : List Str := ["points", "row", "weight", "spare"]
theorem r_has_twins {a0 : D} : rho0 N_has_twins [a0] = [.val a0, .un, .un, .un] := rfl
def F_is_point_number : Fn := ⟨"is_point_number", sp_is_point_number, 2, 2, []⟩
def N_is_point_number : List Str := ["many", "thing"]
def ir_is_point_number : Sms := (.cons (.ret (.bop true (.cons (.call F_is_whole_54 (.cons (.var 1) .nil)) (.cons (.chn .le .lt (.con (.int 0)) (.var 1) (.var 0)) .nil)))) .nil)
theorem r_is_point_number {a0 a1 : D} : rho0 N_is_point_number [a0, a1] = [.val a0, .val a1] := rfl
def F_check_number : Fn := ⟨"check_number_book", sp_check_number, 3, 2, []⟩
def N_check_number : List Str := ["many", "thing"]
def ir_check_number : Sms := (.cons (.iff (.not (.tru (.call F_is_point_number (.cons (.var 0) (.cons (.var 1) .nil))))) (.cons (.raise0 "BadNumber") .nil) .nil) .nil)
theorem r_check_number {a0 a1 : D} : rho0 N_check_number [a0, a1] = [.val a0, .val a1] := rfl
def F_check_spot_64 : Fn := ⟨"check_spot_book", sp_check_spot_64, 5, 2, []⟩
def N_check_spot_64 : List Str := ["dim", "thing"]
def ir_check_spot_64 : Sms := (.cons (.iff (.bop false (.cons (.not (.tru (.isi .tuple (.var 1)))) (.cons (.not (.tru (.call F_is_spot (.cons (.var 0) (.cons (.var 1) .nil))))) .nil))) (.cons (.raise0 "BadSpot") .nil) .nil) .nil)
theorem r_check_spot_64 {a0 a1 : D} : rho0 N_check_spot_64 [a0, a1] = [.val a0, .val a1] := rfl
def M_Book : Mkr := ⟨"Book", mkBook, 6, 2⟩
def N_Book___init__ : List Str := ["self", "dim", "points", "kept", "point"]
def ir_Book___init__ : Sms := (.cons (.iff (.bop false (.cons (.not (.tru (.call F_is_dim (.cons (.var 1) .nil)))) (.cons (.not (.tru (.isi2 .list .tuple (.var 2)))) .nil))) (.cons (.raise0 "BadBook") .nil) .nil) (.cons (.set false 3 (.bi .tuple (.cons (.var 2) .nil))) (.cons (.iff (.bop false (.cons (.cmp .eq (.bi .len (.cons (.var 3) .nil)) (.con (.int 0))) (.cons (.not (.tru (.bi .all (.cons (.comp (.nm 4) [("point", 4)] (.seq (.var 3)) .nil (.call F_is_point (.cons (.var 1) (.cons (.var 4) .nil)))) .nil)))) .nil))) (.cons (.raise0 "BadBook") .nil) .nil) (.cons (.iff (.tru (.call F_has_twins (.cons (.var 3) .nil))) (.cons (.raise0 "BadBook") .nil) .nil) (.cons (.iff (.cmp .gt (.bi .len (.cons (.var 3) .nil)) (.ix (.glo "POINT_LIMITS" (.tup [(.int 0), (.int 12), (.int 7), (.int 5)])) (.var 1))) (.cons (.raiseI X_TooLarge (.cons (.ix (.glo "POINT_LIMITS" (.tup [(.int 0), (.int 12), (.int 7), (.int 5)])) (.var 1)) .nil)) .nil) .nil) (.cons (.stf 0 "Book" "dim" (.var 1)) (.cons (.stf 0 "Book" "points" (.var 3)) (.cons (.stf 0 "Book" "many" (.bi .len (.cons (.var 3) .nil))) (.cons (.stf 0 "Book" "equal_weights" (.bi .all (.cons (.comp (.nm 4) [("point", 4)] (.seq (.var 3)) .nil (.cmp .eq (.ix (.var 4) (.con (.int 1))) (.ix (.ix (.var 3) (.con (.int 0))) (.con (.int 1))))) .nil))) .nil)))))))))
theorem r_Book___init__ {a0 a1 a2 : D} : rho0 N_Book___init__ [a0, a1, a2] = [.val a0, .val a1, .val a2, .un, .un] := rfl
def F_Book_row : Fn := ⟨"row", sp_Book_row, 4, 2, []⟩
def N_Book_row : List Str := ["self", "i"]
def ir_Book_row : Sms := (.cons (.exp (.call F_check_number (.cons (.fld "Book" "many" (.var 0)) (.cons (.var 1) .nil)))) (.cons (.ret (.ix (.ix (.fld "Book" "points" (.var 0)) (.var 1)) (.con (.int 0)))) .nil))
theorem r_Book_row {a0 a1 : D} : rho0 N_Book_row [a0, a1] = [.val a0, .val a1] := rfl
end Ny
end
section
set_option Elab.async false
set_option linter.all false
namespace Ny
open PySem Pd Rt
local macro_rules | `(tactic| walk_at "wp") => `(tactic| simp only [wSs, wS, wE, wEs, wT, wBp, wTb, wQ, wO, wI, Co.d, List.length_cons, List.length_nil, List.append_nil, List.map_cons, List.map_nil, List.cons_append, List.nil_append, if_true, if_false, Bool.false_eq_true, reduceIte, reduceCtorEq, Bool.not_true, Bool.not_false, true_and, and_true,
  Pd.getV_0, Pd.getV_s, Pd.getL_0, Pd.getL_s, Pd.set_0, Pd.set_s, Pd.asB_b, Pd.asI_i, Pd.asQ_l, Pd.asQ_t, Pd.asLs_l, Pd.add_ii, Pd.add_ss, Pd.add_ll, Pd.add_tt, Pd.sub_ii, Pd.mul_ii, Pd.mul_li, Pd.fdiv_ii, Pd.mod_ii, Pd.pow_ii, Pd.lt_ii, Pd.le_ii, Pd.gt_ii, Pd.ge_ii, Pd.eq_ii, Pd.ne_ii, Pd.isn_n, Pd.isnn_n,
  Pd.truth_b, Pd.truth_i, Pd.truth_l, Pd.truth_t, Pd.len_l, Pd.len_t, Pd.len_s, Pd.abs_i, Pd.min2_ii, Pd.max2_ii, Pd.int_i, Pd.int_b, Pd.tuple_l, Pd.tuple_t, Pd.list_l, Pd.list_t, Pd.all_l, Pd.sum_l, Pd.sum_t, Pd.ix_l0, Pd.ix_t0, Pd.ix_l1, Pd.ix_t1, Pd.ix_t2,
  Pd.tg_nm, Pd.tg_tp, Pd.tgs_nil, Pd.tgs_cons, Pd.setQ_f, Pd.setQ_t, Pd.wipe_n, Pd.wipe_c])
theorem w_is_whole_54 (ds P R) (hl : ds.length = 1) (h : sp_is_whole_54 ds P R) : wSs ir_is_whole_54 R (rho0 N_is_whole_54 ds) (E0 P) := by
  obtain ⟨d, rfl⟩ := one_of hl
  obtain ⟨hp, h⟩ := h
  have ht := pl_ty hp
  rw [r_is_whole_54, ir_is_whole_54]
  walk_at "wp"
  refine ⟨ht, ?_⟩
  cases d <;> simp [isTy, tyD, isW] at * <;> first | exact h | exact ⟨ht, h⟩
theorem wib {d : D} {P : D → Bool → Prop} {R : Exn → Prop} (h : pl d = true) (q : P (.bl (isW d)) false) : sp_is_whole_54 [d] P R := ⟨h, q⟩
theorem w_is_dim (ds P R) (hl : ds.length = 1) (h : sp_is_dim ds P R) : wSs ir_is_dim R (rho0 N_is_dim ds) (E0 P) := by
  unfold sp_is_dim at h
  split at h
  · rename_i i
    rw [r_is_dim, ir_is_dim]
    simp only [F_is_whole_54]
    walk_at "wp"
    refine wib rfl ?_
    simp only [isW]
    walk_at "wp"
    have e : isDim (.int i) = (decide (1 ≤ i) && decide (i ≤ 3)) := rfl
    rw [e] at h
    by_cases h1 : 1 ≤ i
    · rw [decide_eq_true h1, Bool.true_and] at h
      rw [decide_eq_true h1]
      walk_at "wp"
      exact h
    · rw [decide_eq_false h1, Bool.false_and] at h
      rw [decide_eq_false h1]
      walk_at "wp"
      exact h
  · exact h.elim
theorem le_ss {i j : Str} {B : Bool → Prop} : wCmp .le (.str i) (.str j) B = B (!strLt j i) := rfl
theorem w_is_letter (ds P R) (hl : ds.length = 1) (h : sp_is_letter ds P R) : wSs ir_is_letter R (rho0 N_is_letter ds) (E0 P) := by
  obtain ⟨x, rfl, ⟨h1, h2, h3, h4⟩, h⟩ := h
  rw [r_is_letter, ir_is_letter]
  walk_at "wp"
  refine ⟨⟨_, rfl⟩, ?_⟩
  rw [show isTy .str (.str x) = true from rfl]
  walk_at "wp"
  refine ⟨by rw [h1]; decide, ?_⟩
  rw [h1]
  rw [show (((1 : Nat) : Int) == 1) = true from rfl]
  walk_at "wp"
  rw [le_ss, h3]
  walk_at "wp"
  rw [le_ss, h4]
  exact h
theorem areInts_row (r : List Int) : areInts r.length (rowD r) = true := by
  unfold areInts rowD
  simp [isW]
theorem pl_ints : ∀ r : List Int, plL (r.map D.int) = true
  | [] => rfl
  | _ :: r => by
    rw [List.map_cons, plL, pl_ints r]; rfl
theorem w_is_bounded_row (ds P R) (hl : ds.length = 2) (h : sp_is_bounded_row ds P R) : wSs ir_is_bounded_row R (rho0 N_is_bounded_row ds) (E0 P) := by
  obtain ⟨dim, p, rfl, hd, gp, h⟩ := h
  rw [r_is_bounded_row, ir_is_bounded_row]
  simp only [F_is_row]
  walk_at "wp"
  refine ⟨⟨_, rfl⟩, ?_⟩
  rw [show isTy .tuple (rowD p.row) = true from rfl]
  walk_at "wp"
  have hdi : isDim (.int dim) = true := by
    show (decide ((1 : Int) ≤ dim) && decide ((dim : Int) ≤ 3)) = true
    rw [decide_eq_true (by omega), decide_eq_true (by omega)]; rfl
  refine ⟨hdi, pl_ints _, ?_⟩
  rw [← gp.len, areInts_row]
  walk_at "wp"
  refine all_comp (f := fun _ => true) (fun x hx K hK => ?_) ?_
  · obtain ⟨i, hi, rfl⟩ := List.mem_map.mp hx
    have b := gp.ent i hi
    walk_at "wp"
    rw [decide_eq_true b.1, decide_eq_true b.2]
    walk_at "wp"
    exact hK
  · rw [show (p.row.map D.int).all (fun _ => true) = true by simp]
    exact h
theorem w_is_point (ds P R) (hl : ds.length = 2) (h : sp_is_point ds P R) : wSs ir_is_point R (rho0 N_is_point ds) (E0 P) := by
  obtain ⟨dim, p, rfl, hd, gp, h⟩ := h
  rw [r_is_point, ir_is_point]
  unfold ptD
  simp only [F_is_bounded_row, F_is_letter, F_is_whole_54]
  walk_at "wp"
  refine ⟨⟨_, rfl⟩, ?_⟩
  rw [show ∀ l, isTy .tuple (.tup l) = true from fun _ => rfl]
  walk_at "wp"
  rw [show (!((((0 + 1 + 1 + 1 : Nat)) : Int) == 3)) = false from rfl]
  walk_at "wp"
  refine ⟨dim, p, rfl, hd, gp, ?_⟩
  walk_at "wp"
  refine ⟨p.col, rfl, gp.col, ?_⟩
  walk_at "wp"
  refine wib rfl ?_
  simp only [isW]
  walk_at "wp"
  rw [decide_eq_true gp.wt.1, decide_eq_true gp.wt.2]
  walk_at "wp"
  exact h
theorem w_is_point_number (ds P R) (hl : ds.length = 2) (h : sp_is_point_number ds P R) : wSs ir_is_point_number R (rho0 N_is_point_number ds) (E0 P) := by
  unfold sp_is_point_number at h
  split at h
  · rename_i n d
    obtain ⟨hp, h⟩ := h
    rw [r_is_point_number, ir_is_point_number]
    simp only [F_is_whole_54]
    walk_at "wp"
    refine wib hp ?_
    cases d with
    | int i =>
      simp only [isW]
      walk_at "wp"
      have e : isNum n (.int i) = (decide (0 ≤ i) && decide (i < n)) := rfl
      rw [e] at h
      by_cases h1 : 0 ≤ i
      · rw [decide_eq_true h1, Bool.true_and] at h
        rw [decide_eq_true h1]
        walk_at "wp"
        exact h
      · rw [decide_eq_false h1, Bool.false_and] at h
        rw [decide_eq_false h1]
        walk_at "wp"
        exact h
    | _ => simp only [isW]; walk_at "wp"; exact h
  · exact h.elim
theorem w_check_number (ds P R) (hl : ds.length = 2) (h : sp_check_number ds P R) : wSs ir_check_number R (rho0 N_check_number ds) (E0 P) := by
  unfold sp_check_number at h
  split at h
  · rename_i n d
    obtain ⟨hp, h⟩ := h
    rw [r_check_number, ir_check_number]
    simp only [F_is_point_number]
    walk_at "wp"
    refine ⟨hp, ?_⟩
    cases e : isNum n d with
    | true => rw [e] at h; walk_at "wp"; exact h
    | false => rw [e] at h; walk_at "wp"; exact h
  · exact h.elim
theorem w_check_spot_64 (ds P R) (hl : ds.length = 2) (h : sp_check_spot_64 ds P R) : wSs ir_check_spot_64 R (rho0 N_check_spot_64 ds) (E0 P) := by
  unfold sp_check_spot_64 at h
  split at h
  · rename_i n d
    obtain ⟨hd, hp, h⟩ := h
    rw [r_check_spot_64, ir_check_spot_64]
    simp only [F_is_spot]
    walk_at "wp"
    refine ⟨pl_ty hp, ?_⟩
    cases d with
    | tup l =>
      rw [show isTy .tuple (.tup l) = true from rfl]
      walk_at "wp"
      refine ⟨hd, hp, ?_⟩
      cases e : areRats n (.tup l) with
      | true => rw [e] at h; walk_at "wp"; exact h
      | false => rw [e] at h; walk_at "wp"; exact h
    | _ => simp only [isTy, tyD]; walk_at "wp"; exact h
  · exact h.elim
end Ny
end
section
set_option Elab.async false
set_option linter.all false
namespace Ny
open PySem Pd Rt
local macro_rules | `(tactic| walk_at "wp") => `(tactic| simp only [wSs, wS, wE, wEs, wT, wBp, wTb, wQ, wO, wI, Co.d, List.length_cons, List.length_nil, List.append_nil, List.map_cons, List.map_nil, List.cons_append, List.nil_append, if_true, if_false, Bool.false_eq_true, reduceIte, reduceCtorEq, Bool.not_true, Bool.not_false, true_and, and_true,
  Pd.getV_0, Pd.getV_s, Pd.getL_0, Pd.getL_s, Pd.set_0, Pd.set_s, Pd.asB_b, Pd.asI_i, Pd.asQ_l, Pd.asQ_t, Pd.asLs_l, Pd.add_ii, Pd.add_ss, Pd.add_ll, Pd.add_tt, Pd.sub_ii, Pd.mul_ii, Pd.mul_li, Pd.fdiv_ii, Pd.mod_ii, Pd.pow_ii, Pd.lt_ii, Pd.le_ii, Pd.gt_ii, Pd.ge_ii, Pd.eq_ii, Pd.ne_ii, Pd.isn_n, Pd.isnn_n,
  Pd.truth_b, Pd.truth_i, Pd.truth_l, Pd.truth_t, Pd.len_l, Pd.len_t, Pd.len_s, Pd.abs_i, Pd.min2_ii, Pd.max2_ii, Pd.int_i, Pd.int_b, Pd.tuple_l, Pd.tuple_t, Pd.list_l, Pd.list_t, Pd.all_l, Pd.sum_l, Pd.sum_t, Pd.ix_l0, Pd.ix_t0, Pd.ix_l1, Pd.ix_t1, Pd.ix_t2,
  Pd.tg_nm, Pd.tg_tp, Pd.tgs_nil, Pd.tgs_cons, Pd.setQ_f, Pd.setQ_t, Pd.wipe_n, Pd.wipe_c])
theorem ri_Book___init__ {x : Addr} {a b : D} : rhoI N_Book___init__ x "Book" [a, b] = [.ins x "Book" [] [], .val a, .val b, .un, .un] := rfl
theorem ins_0 {a : Addr} {C : Str} {ks : List Str} {ws : List D} {ρ : Rho} {P : Addr → List Str → List D → Prop} : getIns (.ins a C ks ws :: ρ) 0 C P = P a ks ws := by
  show (C = C ∧ P a ks ws) = _
  simp
theorem isn {n : Int} {d : D} {P : D → Bool → Prop} {R : Exn → Prop} (h : pl d = true) (e : isNum n d = true) (q : P .non false) : sp_check_number [.int n, d] P R := ⟨h, by rw [if_pos e]; exact q⟩
theorem isd {i : Int} {P : D → Bool → Prop} {R : Exn → Prop} : sp_is_dim [.int i] P R = P (.bl (isDim (.int i))) false := rfl
theorem lim_at {dim : Nat} (h : 1 ≤ dim ∧ dim ≤ 3) {P : D → Bool → Prop} (q : P (.int (lim dim)) false) : wIx (.tup [.int 0, .int 12, .int 7, .int 5]) (.int dim) P := by
  rw [ix_tn]
  obtain ⟨h1, h2⟩ := h
  match dim, h1, h2 with
  | 1, _, _ => exact ⟨_, rfl, q⟩
  | 2, _, _ => exact ⟨_, rfl, q⟩
  | 3, _, _ => exact ⟨_, rfl, q⟩
theorem put_ne {f k : Str} {d v : D} {ks : List Str} {vs : List D} (h : ¬ k = f) : putD f d (k :: ks) (v :: vs) = (k :: (putD f d ks vs).1, v :: (putD f d ks vs).2) := by
  show (if k = f then (k :: ks, d :: vs) else _) = _
  rw [if_neg h]
theorem put_nil {f : Str} {d : D} : putD f d [] [] = ([f], [d]) := rfl
abbrev k1 : List Str := ["dim"]
abbrev k2 : List Str := ["dim", "points"]
abbrev k3 : List Str := ["dim", "points", "many"]
theorem p1 {a : D} : putD "dim" a [] [] = (k1, [a]) := rfl
theorem p2 {a b : D} : putD "points" b (k1, [a]).1 (k1, [a]).2 = (k2, [a, b]) := by
  show putD "points" b k1 [a] = (k2, [a, b])
  rw [put_ne (by decide), put_nil]
theorem p3 {a b c : D} : putD "many" c (k2, [a, b]).1 (k2, [a, b]).2 = (k3, [a, b, c]) := by
  show putD "many" c k2 [a, b] = (k3, [a, b, c])
  rw [put_ne (by decide), put_ne (by decide), put_nil]
theorem p4 {a b c e : D} : putD "equal_weights" e (k3, [a, b, c]).1 (k3, [a, b, c]).2 = (bookKs, [a, b, c, e]) := by
  show putD "equal_weights" e k3 [a, b, c] = (bookKs, [a, b, c, e])
  rw [put_ne (by decide), put_ne (by decide), put_ne (by decide), put_nil]
  rfl
theorem w_Book___init__ (a : Addr) (ds : List D) (P : List Str → List D → Prop) (R : Exn → Prop) (hl : ds.length = 2) (h : mkBook ds P R) : wSs ir_Book___init__ R (rhoI N_Book___init__ a "Book" ds) (EI a "Book" P) := by
  obtain ⟨dim, ps, d, rfl, es, gp, h⟩ := h
  rw [ri_Book___init__, ir_Book___init__]
  simp only [F_is_dim, F_is_point, F_has_twins]
  have hd : d = .lst (ps.map ptD) ∨ d = .tup (ps.map ptD) := by
    cases d <;> cases es
    · exact .inr rfl
    · exact .inl rfl
  have hdi : isDim (.int dim) = true := by
    have := gp.dm
    show (decide ((1 : Int) ≤ dim) && decide ((dim : Int) ≤ 3)) = true
    rw [decide_eq_true (by omega), decide_eq_true (by omega)]; rfl
  have tpl : ∀ {Q : D → Bool → Prop}, Q (.tup (ps.map ptD)) false → wBi .tuple [d] Q := fun {Q} q => by
    rcases hd with e | e <;> rw [e] <;> exact q
  have sq : (isTy .list d || isTy .tuple d) = true := by rcases hd with e | e <;> rw [e] <;> rfl
  have ty : ∃ s, tyD d = some s := by rcases hd with e | e <;> rw [e] <;> exact ⟨_, rfl⟩
  walk_at "wp"
  rw [isd, hdi]
  walk_at "wp"
  refine ⟨ty, ?_⟩
  rw [sq]
  walk_at "wp"
  refine tpl ?_
  walk_at "wp"
  have l0 : (((ps.map ptD).length : Nat) : Int) = ps.length := by rw [List.length_map]
  have n0 : ((ps.length : Int) == 0) = false := by
    have := gp.one
    simp
    rintro rfl
    exact absurd this (by decide)
  rw [l0, n0]
  walk_at "wp"
  refine all_comp (f := fun _ => true) (fun x hx K hK => ?_) ?_
  · obtain ⟨p, hp, rfl⟩ := List.mem_map.mp hx
    exact ⟨dim, p, rfl, gp.dm, gp.pts p hp, hK⟩
  rw [show (ps.map ptD).all (fun _ => true) = true by simp]
  walk_at "wp"
  refine ⟨dim, ps, rfl, gp, ?_⟩
  walk_at "wp"
  refine lim_at gp.dm ?_
  walk_at "wp"
  have hm := gp.most
  rw [decide_eq_false (by omega)]
  walk_at "wp"
  rw [ins_0]
  walk_at "wp"
  refine ⟨by decide, ?_⟩
  rw [p1, ins_0]
  refine ⟨by show 1 < 1000; decide, ?_⟩
  rw [p2, ins_0]
  refine ⟨by show 2 < 1000; decide, ?_⟩
  rw [p3, ins_0]
  refine ⟨by show 3 < 1000; decide, ?_⟩
  obtain ⟨p0, hp0⟩ : ∃ p, ps[0]? = some p := by
    have := gp.one
    exact ⟨ps[0], List.getElem?_eq_getElem _⟩
  have e0 : (ps.map ptD)[0]? = some (ptD p0) := by rw [List.getElem?_map, hp0]; rfl
  have eq_ : eqW ps = ps.all fun p => p.wt == p0.wt := by
    unfold eqW
    have : ps.head? = some p0 := by rw [← hp0]; exact (List.head?_eq_getElem?).symm ▸ rfl
    rw [this]
    rfl
  have e : ps.map ptD = ps.map ptD := rfl
  have st : ∀ {t : D → (Option D → Prop) → Prop} {Q : D → Bool → Prop}, (∀ p ∈ ps, ∀ K : Option D → Prop, K (some (.bl (p.wt == p0.wt))) → t (ptD p) K) → Q (.bl (eqW ps)) false → wLoop t (ps.map ptD) [] fun acc => wBi .all [.lst acc] Q := fun {t Q} ht q => by
    refine loop_map (f := fun p => D.bl (p.wt == p0.wt)) ht ?_
    have e2 : [] ++ ps.map (fun p => D.bl (p.wt == p0.wt)) = (ps.map fun p => p.wt == p0.wt).map D.bl := by simp
    rw [e2, all_l, List.all_map]
    rw [eq_] at q
    exact q
  refine st (fun p hp K hK => ?_) ?_
  · unfold ptD
    walk_at "wp"
    rw [show (0 : Int) = ((0 : Nat) : Int) from rfl, ix_tn]
    refine ⟨ptD p0, e0, ?_⟩
    unfold ptD
    walk_at "wp"
    exact hK
  · rw [p4]
    exact ⟨_, _, rfl, h⟩
theorem w_Book_row (ds P R) (hl : ds.length = 2) (h : sp_Book_row ds P R) : wSs ir_Book_row R (rho0 N_Book_row ds) (E0 P) := by
  obtain ⟨dim, ps, n, p, rfl, hn, h⟩ := h
  rw [r_Book_row, ir_Book_row]
  simp only [F_check_number]
  unfold bookD
  walk_at "wp"
  refine ⟨rfl, _, rfl, ?_⟩
  have hlt := (List.getElem?_eq_some_iff.mp hn).1
  refine isn rfl ?_ ?_
  · show (decide ((0 : Int) ≤ n) && decide ((n : Int) < ps.length)) = true
    rw [decide_eq_true (by omega), decide_eq_true (by omega)]; rfl
  refine ⟨rfl, _, rfl, ?_⟩
  rw [ix_tn]
  refine ⟨ptD p, by rw [List.getElem?_map, hn]; rfl, ?_⟩
  unfold ptD
  walk_at "wp"
  exact h
end Ny
end
section
set_option Elab.async false
set_option linter.all false
/-! ## ratios over one denominator: sizes -/
namespace Rt
open PySem Pd
/-- x is k over m, k below 2^b -/
def Q (m b : Nat) (x : Rat) : Prop := ∃ k : Int, x = mkRat k m ∧ Bd b k
section
variable {m n b c : Nat} {x y : Rat}
theorem Q.sm (h : Q m b x) (hm : 0 < m) (h1 : m < 2 ^ n) (h2 : b ≤ n) : Sm n x := by
  obtain ⟨k, rfl, hk⟩ := h
  have m0 : m ≠ 0 := by omega
  refine ⟨?_, ?_⟩
  · rw [Rat.num_mkRat, if_neg m0]
    have := (hk.mono h2).fdiv (g := Nat.gcd m k.natAbs)
    rw [fdiv_nat] at this
    exact this
  · rw [Rat.den_mkRat, if_neg m0]
    unfold Bd
    rw [Int.natAbs_natCast]
    exact Nat.lt_of_le_of_lt (Nat.div_le_self _ _) h1
theorem Q.mono (h : Q m b x) (k : b ≤ c) : Q m c x := by
  obtain ⟨i, e, hi⟩ := h
  exact ⟨i, e, hi.mono k⟩
theorem Q.add (hm : m ≠ 0) (h : Q m b x) (k : Q m b y) : Q m (b + 1) (x + y) := by
  obtain ⟨i, rfl, hi⟩ := h
  obtain ⟨j, rfl, hj⟩ := k
  refine ⟨i + j, ?_, hi.add hj⟩
  rw [Rat.mkRat_add_mkRat _ _ hm hm, ← Int.add_mul]
  exact Rat.mkRat_mul_right hm
theorem Q.neg (h : Q m b x) : Q m b (-x) := by
  obtain ⟨i, rfl, hi⟩ := h
  exact ⟨-i, Rat.neg_mkRat _ _, hi.neg⟩
theorem Q.sub (hm : m ≠ 0) (h : Q m b x) (k : Q m b y) : Q m (b + 1) (x - y) := by
  rw [Rat.sub_eq_add_neg]
  exact h.add hm k.neg
theorem Q.mul (h : Q m b x) (k : Q n c y) : Q (m * n) (b + c) (x * y) := by
  obtain ⟨i, rfl, hi⟩ := h
  obtain ⟨j, rfl, hj⟩ := k
  exact ⟨i * j, Rat.mkRat_mul_mkRat .., hi.mul hj⟩
theorem Q.int {i : Int} (h : Bd b i) : Q 1 b (i : Rat) := ⟨i, by
  have := Rat.mkRat_self (i : Rat)
  rw [Rat.num_intCast, Rat.den_intCast] at this
  exact this.symm, h⟩
/-- a finer denominator -/
theorem Q.lift (h : Q m b x) (hn : n ≠ 0) (h2 : n < 2 ^ c) : Q (m * n) (b + c) x := by
  obtain ⟨i, rfl, hi⟩ := h
  refine ⟨i * n, (Rat.mkRat_mul_right hn).symm, hi.mul (by unfold Bd; rw [Int.natAbs_natCast]; exact h2)⟩
/-- an integer's multiple -/
theorem Q.imul {i : Int} (h : Bd c i) (k : Q m b x) : Q m (c + b) ((i : Rat) * x) := by
  have := (Q.int h).mul k
  rw [Nat.one_mul] at this
  exact this
end
theorem acc_of {m b : Nat} (hm : m ≠ 0) (h1 : m < 2 ^ 4000) : ∀ {l : List Rat} {a : Rat}, Q m b a → (∀ q ∈ l, Q m b q) → b + l.length ≤ 4000 → Ny.Acc a l
  | [], a, h, _, hb => h.sm (by omega) h1 (by omega)
  | q :: r, a, h, hl, hb => by
    rw [List.length_cons] at hb
    refine ⟨h.sm (by omega) h1 (by omega), (hl q (List.mem_cons_self ..)).sm (by omega) h1 (by omega), ?_⟩
    refine acc_of hm h1 (h.add hm (hl q (List.mem_cons_self ..))) (fun z hz => (hl z (List.mem_cons_of_mem _ hz)).mono (by omega)) (by omega)
theorem sumR_Q {m : Nat} (hm : m ≠ 0) : ∀ {l : List Rat} {a : Rat} {b : Nat}, Q m b a → (∀ q ∈ l, Q m b q) → Q m (b + l.length) (Ny.sumR a l)
  | [], a, b, h, _ => h
  | q :: r, a, b, h, hl => by
    have := sumR_Q hm (l := r) (h.add hm (hl q (List.mem_cons_self ..))) fun z hz => (hl z (List.mem_cons_of_mem _ hz)).mono (by omega)
    rw [List.length_cons]
    exact this.mono (by omega)
theorem Q.zero {m b : Nat} : Q m b 0 := ⟨0, (Rat.zero_mkRat m).symm, by unfold Bd; exact Nat.two_pow_pos b⟩
theorem Q.ofInt {m b c : Nat} {i : Int} (hm : m ≠ 0) (h : Bd b i) (h2 : m < 2 ^ c) : Q m (b + c) (i : Rat) := by
  have := (Q.int h).lift hm h2
  rw [Nat.one_mul] at this
  exact this
theorem sq_div (x : Rat) (e : Int) : Rat.divInt ((x.num - e * x.den) ^ 2) (x.den * x.den) = (x - (e : Rat)) * (x - (e : Rat)) := by
  have h : x - (e : Rat) = Rat.divInt (x.num - e * x.den) x.den := by
    rw [Rat.sub_def', Rat.num_intCast, Rat.den_intCast, Rat.divInt_ofNat]
    simp
  rw [h, Rat.divInt_mul_divInt, Int.pow_succ, Int.pow_succ, Int.pow_zero, Int.one_mul]
theorem sm_int {n b : Nat} {i : Int} (h : Bd b i) (k : b ≤ n) (h1 : 1 ≤ n) : Sm n (i : Rat) := ⟨by rw [Rat.num_intCast]; exact h.mono k, by
  rw [Rat.den_intCast]
  unfold Bd
  have : 2 ^ 1 ≤ 2 ^ n := Nat.pow_le_pow_right (by decide) h1
  have e : ((1 : Nat) : Int).natAbs = 1 := rfl
  rw [e]
  omega⟩
end Rt
end
section
set_option Elab.async false
set_option linter.all false
/-! ## prices: what the functions promise -/
namespace Ny
open PySem Pd Rt
def spotD (s : List Rat) : D := .tup (s.map rat)
/-- a spot whose coordinates have one denominator -/
def OkSpot (dim : Nat) (s : List Rat) : Prop := s.length = dim ∧ ∃ M : Nat, 0 < M ∧ M < 2 ^ 240 ∧ ∀ x ∈ s, Q M 1000 x
/-- the level: the squares' sum less the weight -/
def levI (p : Pt) : Int := (p.row.map fun x => x * x).sum - p.wt
def sqd (x : Rat) (e : Int) : Rat := (x - (e : Rat)) * (x - (e : Rat))
def prc (p : Pt) (s : List Rat) : Rat := sumR 0 (List.zipWith sqd s p.row) - (p.wt : Rat)
def wholeI : List Rat → Int → Int
  | [], w => w
  | x :: r, w => wholeI r (w * x.den)
def placesI (s : List Rat) : List Int := s.map fun x => x.num * (wholeI s 1).fdiv x.den
def scI (s : List Rat) (p : Pt) : Int := wholeI s 1 * levI p - 2 * (List.zipWith (fun e l => e * l) p.row (placesI s)).sum
def cheap (ps : List Pt) (s : List Rat) : List Nat := (List.range ps.length).filter fun k => ps.all fun q => match ps[k]? with | some p => decide (prc p s ≤ prc q s) | none => false
def natsD (l : List Nat) : List D := l.map fun k => D.int (k : Nat)
def sp_level_of : Pd.Spec := fun ds P R => ∃ (dim : Nat) (p : Pt), ds = [ptD p] ∧ GoodPt dim p ∧ P (.int (levI p)) false
def sp_price_of : Pd.Spec := fun ds P R => ∃ (dim : Nat) (p : Pt) (s : List Rat), ds = [ptD p, spotD s] ∧ dim ≤ 3 ∧ GoodPt dim p ∧ OkSpot dim s ∧ P (rat (prc p s)) false
def sp_scaled_prices : Pd.Spec := fun ds P R => ∃ (dim : Nat) (ps : List Pt) (s : List Rat), ds = [bookD dim ps, spotD s] ∧ GoodPts dim ps ∧ OkSpot dim s ∧ P (.lst (ps.map fun p => D.int (scI s p))) true
def sp_level : Pd.Spec := fun ds P R => ∃ (dim : Nat) (ps : List Pt) (n : Nat) (p : Pt), ds = [bookD dim ps, .int n] ∧ GoodPts dim ps ∧ ps[n]? = some p ∧ P (.int (levI p)) false
def sp_price : Pd.Spec := fun ds P R => ∃ (dim : Nat) (ps : List Pt) (n : Nat) (p : Pt) (s : List Rat), ds = [bookD dim ps, .int n, spotD s] ∧ GoodPts dim ps ∧ ps[n]? = some p ∧ OkSpot dim s ∧ P (rat (prc p s)) false
def sp_cheapest : Pd.Spec := fun ds P R => ∃ (dim : Nat) (ps : List Pt) (s : List Rat), ds = [bookD dim ps, spotD s] ∧ GoodPts dim ps ∧ OkSpot dim s ∧ P (.tup (natsD (cheap ps s))) false
end Ny
end
section
set_option Elab.async false
set_option linter.all false
namespace Ny
open PySem Pd Rt
def F_level_of : Fn := ⟨"level_of", sp_level_of, 1, 1, []⟩
def N_level_of : List Str := ["point", "entry"]
def ir_level_of : Sms := (.cons (.ret (.bin .sub (.bi .sum (.cons (.comp (.nm 1) [("entry", 1)] (.seq (.ix (.var 0) (.con (.int 0)))) .nil (.bin .mul (.var 1) (.var 1))) .nil)) (.ix (.var 0) (.con (.int 1))))) .nil)
theorem r_level_of {a0 : D} : rho0 N_level_of [a0] = [.val a0, .un] := rfl
def F_price_of : Fn := ⟨"price_of", sp_price_of, 6, 2, []⟩
def N_price_of : List Str := ["point", "spot", "parts", "above", "below", "entry"]
def ir_price_of : Sms := (.cons (.setC false 2 (.tp (.cons (.tp (.cons (.nm 3) (.cons (.nm 4) .nil))) (.cons (.nm 5) .nil))) [("above", 3), ("below", 4), ("entry", 5)] (.zip (.var 1) (.ix (.var 0) (.con (.int 0)))) .nil (.call F_make (.cons (.bin .pow (.bin .sub (.var 3) (.bin .mul (.var 5) (.var 4))) (.con (.int 2))) (.cons (.bin .mul (.var 4) (.var 4)) .nil)))) (.cons (.ret (.call F_minus (.cons (.call F_total (.cons (.var 2) .nil)) (.cons (.call F_make_1 (.cons (.ix (.var 0) (.con (.int 1))) .nil)) .nil)))) .nil))
theorem r_price_of {a0 a1 : D} : rho0 N_price_of [a0, a1] = [.val a0, .val a1, .un, .un, .un, .un] := rfl
def F_scaled_prices : Fn := ⟨"scaled_prices", sp_scaled_prices, 2, 2, []⟩
def N_scaled_prices : List Str := ["book", "spot", "whole", "spare", "below", "places", "above", "found", "point", "product", "entry", "place"]
def ir_scaled_prices : Sms := (.cons (.set false 2 (.con (.int 1))) (.cons (.loop (.tp (.cons (.nm 3) (.cons (.nm 4) .nil))) (.seq (.var 1)) (.cons (.set false 2 (.bin .mul (.var 2) (.var 4))) .nil)) (.cons (.setC false 5 (.tp (.cons (.nm 6) (.cons (.nm 4) .nil))) [("above", 6), ("below", 4)] (.seq (.var 1)) .nil (.bin .mul (.var 6) (.bin .fdiv (.var 2) (.var 4)))) (.cons (.set true 7 (.lst .nil)) (.cons (.loop (.nm 8) (.seq (.fld "Book" "points" (.var 0))) (.cons (.set false 9 (.bi .sum (.cons (.comp (.tp (.cons (.nm 10) (.cons (.nm 11) .nil))) [("entry", 10), ("place", 11)] (.zip (.ix (.var 8) (.con (.int 0))) (.var 5)) .nil (.bin .mul (.var 10) (.var 11))) .nil))) (.cons (.app 7 (.bin .sub (.bin .mul (.var 2) (.call F_level_of (.cons (.var 8) .nil))) (.bin .mul (.con (.int 2)) (.var 9)))) .nil))) (.cons (.retL 7) .nil))))))
theorem r_scaled_prices {a0 a1 : D} : rho0 N_scaled_prices [a0, a1] = [.val a0, .val a1, .un, .un, .un, .un, .un, .un, .un, .un, .un, .un] := rfl
def F_level : Fn := ⟨"level", sp_level, 4, 2, []⟩
def N_level : List Str := ["book", "i"]
def ir_level : Sms := (.cons (.exp (.call F_check_number (.cons (.fld "Book" "many" (.var 0)) (.cons (.var 1) .nil)))) (.cons (.ret (.call F_level_of (.cons (.ix (.fld "Book" "points" (.var 0)) (.var 1)) .nil))) .nil))
theorem r_level {a0 a1 : D} : rho0 N_level [a0, a1] = [.val a0, .val a1] := rfl
def F_price : Fn := ⟨"price", sp_price, 7, 3, []⟩
def N_price : List Str := ["book", "i", "spot"]
def ir_price : Sms := (.cons (.exp (.call F_check_number (.cons (.fld "Book" "many" (.var 0)) (.cons (.var 1) .nil)))) (.cons (.exp (.call F_check_spot_64 (.cons (.fld "Book" "dim" (.var 0)) (.cons (.var 2) .nil)))) (.cons (.ret (.call F_price_of (.cons (.ix (.fld "Book" "points" (.var 0)) (.var 1)) (.cons (.var 2) .nil)))) .nil)))
theorem r_price {a0 a1 a2 : D} : rho0 N_price [a0, a1, a2] = [.val a0, .val a1, .val a2] := rfl
def F_cheapest : Fn := ⟨"cheapest", sp_cheapest, 6, 2, []⟩
def N_cheapest : List Str := ["book", "spot", "scaled", "least", "k"]
def ir_cheapest : Sms := (.cons (.exp (.call F_check_spot_64 (.cons (.fld "Book" "dim" (.var 0)) (.cons (.var 1) .nil)))) (.cons (.set false 2 (.call F_scaled_prices (.cons (.var 0) (.cons (.var 1) .nil)))) (.cons (.set false 3 (.bi .min1 (.cons (.var 2) .nil))) (.cons (.ret (.bi .tuple (.cons (.comp (.nm 4) [("k", 4)] (.r1 (.fld "Book" "many" (.var 0))) (.cons (.cmp .eq (.ix (.var 2) (.var 4)) (.var 3)) .nil) (.var 4)) .nil))) .nil))))
theorem r_cheapest {a0 a1 : D} : rho0 N_cheapest [a0, a1] = [.val a0, .val a1, .un, .un, .un] := rfl
end Ny
end
section
set_option Elab.async false
set_option linter.all false
set_option maxRecDepth 100000
namespace Ny
open PySem Pd Rt
local macro_rules | `(tactic| walk_at "wp") => `(tactic| simp only [wSs, wS, wE, wEs, wT, wBp, wTb, wQ, wO, wI, Co.d, List.length_cons, List.length_nil, List.append_nil, List.map_cons, List.map_nil, List.cons_append, List.nil_append, if_true, if_false, Bool.false_eq_true, reduceIte, reduceCtorEq, Bool.not_true, Bool.not_false, true_and, and_true,
  Pd.getV_0, Pd.getV_s, Pd.getL_0, Pd.getL_s, Pd.set_0, Pd.set_s, Pd.asB_b, Pd.asI_i, Pd.asQ_l, Pd.asQ_t, Pd.asLs_l, Pd.add_ii, Pd.add_ss, Pd.add_ll, Pd.add_tt, Pd.sub_ii, Pd.mul_ii, Pd.mul_li, Pd.fdiv_ii, Pd.mod_ii, Pd.pow_ii, Pd.lt_ii, Pd.le_ii, Pd.gt_ii, Pd.ge_ii, Pd.eq_ii, Pd.ne_ii, Pd.isn_n, Pd.isnn_n,
  Pd.truth_b, Pd.truth_i, Pd.truth_l, Pd.truth_t, Pd.len_l, Pd.len_t, Pd.len_s, Pd.abs_i, Pd.min2_ii, Pd.max2_ii, Pd.int_i, Pd.int_b, Pd.tuple_l, Pd.tuple_t, Pd.list_l, Pd.list_t, Pd.all_l, Pd.sum_l, Pd.sum_t, Pd.ix_l0, Pd.ix_t0, Pd.ix_l1, Pd.ix_t1, Pd.ix_t2,
  Pd.tg_nm, Pd.tg_tp, Pd.tgs_nil, Pd.tgs_cons, Pd.setQ_f, Pd.setQ_t, Pd.wipe_n, Pd.wipe_c])
theorem sum_comp {α : Type} {t : D → (Option D → Prop) → Prop} {xs : List α} {g : α → D} {f : α → Int} {P : D → Bool → Prop} (step : ∀ x ∈ xs, ∀ K : Option D → Prop, K (some (.int (f x))) → t (g x) K) (fin : P (.int (xs.map f).sum) false) : wLoop t (xs.map g) [] fun acc => wBi .sum [.lst acc] P := by
  refine loop_map (f := fun x => D.int (f x)) (g := g) step ?_
  have e2 : [] ++ xs.map (fun x => D.int (f x)) = (xs.map f).map D.int := by simp
  rw [e2, sum_l]
  exact fin
theorem bd_of {n : Nat} {i : Int} (h : -(2 ^ n) < i ∧ i < 2 ^ n) : Bd n i := by
  unfold Bd
  have e : ((2 ^ n : Nat) : Int) = 2 ^ n := by simp
  omega
theorem ent_bd {x : Int} (h : -1000000 ≤ x ∧ x ≤ 1000000) : Bd 20 x := bd_of (by omega)
theorem wt_bd {x : Int} (h : -1000000000000 ≤ x ∧ x ≤ 1000000000000) : Bd 40 x := bd_of (by omega)
theorem w_level_of (ds P R) (hl : ds.length = 1) (h : sp_level_of ds P R) : wSs ir_level_of R (rho0 N_level_of ds) (E0 P) := by
  obtain ⟨dim, p, rfl, gp, h⟩ := h
  rw [r_level_of, ir_level_of]
  unfold ptD rowD
  walk_at "wp"
  refine sum_comp (f := fun x => x * x) (fun x hx K hK => ?_) ?_
  · walk_at "wp"
    have b := ent_bd (gp.ent x hx)
    exact ⟨b.mulOk b, hK⟩
  · walk_at "wp"
    exact h
theorem w_level (ds P R) (hl : ds.length = 2) (h : sp_level ds P R) : wSs ir_level R (rho0 N_level ds) (E0 P) := by
  obtain ⟨dim, ps, n, p, rfl, gp, hn, h⟩ := h
  rw [r_level, ir_level]
  simp only [F_check_number, F_level_of]
  unfold bookD
  walk_at "wp"
  have hlt := (List.getElem?_eq_some_iff.mp hn).1
  refine ⟨rfl, _, rfl, isn rfl ?_ ?_⟩
  · show (decide ((0 : Int) ≤ n) && decide ((n : Int) < ps.length)) = true
    rw [decide_eq_true (by omega), decide_eq_true (by omega)]; rfl
  refine ⟨rfl, _, rfl, ?_⟩
  rw [ix_tn]
  refine ⟨ptD p, by rw [List.getElem?_map, hn]; rfl, dim, p, rfl, gp.pts p (List.mem_of_getElem? hn), h⟩
theorem w_price (ds P R) (hl : ds.length = 3) (h : sp_price ds P R) : wSs ir_price R (rho0 N_price ds) (E0 P) := by
  obtain ⟨dim, ps, n, p, s, rfl, gp, hn, hs, h⟩ := h
  rw [r_price, ir_price]
  simp only [F_check_number, F_check_spot_64, F_price_of]
  unfold bookD
  walk_at "wp"
  have hlt := (List.getElem?_eq_some_iff.mp hn).1
  have hd := gp.dm
  refine ⟨rfl, _, rfl, isn rfl ?_ ?_⟩
  · show (decide ((0 : Int) ≤ n) && decide ((n : Int) < ps.length)) = true
    rw [decide_eq_true (by omega), decide_eq_true (by omega)]; rfl
  refine ⟨rfl, _, rfl, ?_, (rats_ok s).2, ?_⟩
  · show (decide ((1 : Int) ≤ dim) && decide ((dim : Int) ≤ 3)) = true
    rw [decide_eq_true (by omega), decide_eq_true (by omega)]; rfl
  have e : areRats dim (spotD s) = true := by
    unfold areRats spotD
    dsimp only
    rw [(rats_ok s).1, List.length_map, hs.1]
    simp
  rw [if_pos e]
  refine ⟨rfl, _, rfl, ?_⟩
  rw [ix_tn]
  exact ⟨ptD p, by rw [List.getElem?_map, hn]; rfl, dim, p, s, rfl, hd.2, gp.pts p (List.mem_of_getElem? hn), hs, h⟩
theorem zip_rats (s : List Rat) (r : List Int) : zipDD (s.map rat) (r.map D.int) = (s.zip r).map fun q => D.tup [rat q.1, .int q.2] := by
  unfold zipDD
  rw [List.zipWith_map, List.zip, List.map_zipWith]
theorem zw_map (s : List Rat) (r : List Int) : List.zipWith sqd s r = (s.zip r).map fun q => sqd q.1 q.2 := by
  rw [List.zip, List.map_zipWith]
theorem divInt_one (i : Int) : Rat.divInt i 1 = (i : Rat) := by
  have := Rat.num_divInt_den (i : Rat)
  rw [Rat.num_intCast, Rat.den_intCast] at this
  exact this
theorem w_price_of (ds P R) (hl : ds.length = 2) (h : sp_price_of ds P R) : wSs ir_price_of R (rho0 N_price_of ds) (E0 P) := by
  obtain ⟨dim, p, s, rfl, hd, gp, ⟨hs, M, hM, hM2, hq⟩, h⟩ := h
  rw [r_price_of, ir_price_of]
  simp only [F_make, F_minus, F_total, F_make_1]
  unfold ptD rowD spotD
  walk_at "wp"
  rw [zip_rats]
  have m0 : M ≠ 0 := by omega
  have sm : ∀ x ∈ s, Sm 1000 x := fun x hx => (hq x hx).sm hM (Nat.lt_of_lt_of_le hM2 (Nat.pow_le_pow_right (by decide) (by decide))) (by decide)
  refine loop_map (f := fun q => rat (sqd q.1 q.2)) (fun q hx K hK => ?_) ?_
  · obtain ⟨x, e⟩ := q
    have hx1 := (List.of_mem_zip hx).1
    have hx2 := (List.of_mem_zip hx).2
    have b := ent_bd (gp.ent e hx2)
    have sx := sm x hx1
    unfold rat
    walk_at "wp"
    have bm : Bd 1021 (x.num - e * x.den) := (sx.num.mono (by decide) : Bd 1020 x.num).sub (b.mul sx.den)
    refine ⟨b.mulOk sx.den, ⟨by decide, ?_⟩, sx.den.mulOk sx.den, _, _, rfl, ?_, ((sx.den.mul sx.den).mono (by decide)), ?_⟩
    · have := bm.bits
      omega
    · have := x.den_nz
      intro z
      rcases Int.mul_eq_zero.mp z with z | z <;> omega
    · show K (some (rat (Rat.divInt ((x.num - e * x.den) ^ 2) (x.den * x.den))))
      rw [sq_div]
      exact hK
  · walk_at "wp"
    have hq2 : ∀ q ∈ List.zipWith sqd s p.row, Q (M * M) 2002 q := fun q hq' => by
      rw [zw_map] at hq'
      obtain ⟨⟨x, e⟩, hx, rfl⟩ := List.mem_map.mp hq'
      have hx1 := (List.of_mem_zip hx).1
      have hx2 := (List.of_mem_zip hx).2
      have b := ent_bd (gp.ent e hx2)
      have k : Q M 1001 (x - (e : Rat)) := (hq x hx1).sub m0 ((Q.ofInt m0 b hM2).mono (by decide))
      exact k.mul k
    have mm : M * M ≠ 0 := Nat.mul_ne_zero m0 m0
    have mm2 : M * M < 2 ^ 4000 := by
      have : M * M < 2 ^ 240 * 2 ^ 240 := Nat.mul_lt_mul'' hM2 hM2
      rw [← Nat.pow_add] at this
      exact Nat.lt_of_lt_of_le this (Nat.pow_le_pow_right (by decide) (by decide))
    have hlen : (List.zipWith sqd s p.row).length ≤ 3 := by
      rw [List.length_zipWith, hs, gp.len]
      omega
    have e1 : [] ++ (s.zip p.row).map (fun q => rat (sqd q.1 q.2)) = (List.zipWith sqd s p.row).map rat := by
      rw [zw_map, List.nil_append, List.map_map]
      rfl
    rw [List.nil_append] at e1
    rw [e1]
    refine ⟨_, _, rfl, rfl, acc_of mm mm2 Q.zero hq2 (by omega), p.wt, 1, rfl, by decide, bd_of (by decide), ?_⟩
    rw [divInt_one]
    have qs := sumR_Q mm (a := 0) (b := 2002) Q.zero hq2
    exact ⟨_, _, rfl, qs.sm (Nat.pos_of_ne_zero mm) mm2 (by omega), sm_int (wt_bd gp.wt) (by decide) (by decide), h⟩
end Ny
end
section
set_option Elab.async false
set_option linter.all false
set_option maxRecDepth 100000
namespace Ny
open PySem Pd Rt
local macro_rules | `(tactic| walk_at "wp") => `(tactic| simp only [wSs, wS, wE, wEs, wT, wBp, wTb, wQ, wO, wI, Co.d, List.length_cons, List.length_nil, List.append_nil, List.map_cons, List.map_nil, List.cons_append, List.nil_append, if_true, if_false, Bool.false_eq_true, reduceIte, reduceCtorEq, Bool.not_true, Bool.not_false, true_and, and_true,
  Pd.getV_0, Pd.getV_s, Pd.getL_0, Pd.getL_s, Pd.set_0, Pd.set_s, Pd.asB_b, Pd.asI_i, Pd.asQ_l, Pd.asQ_t, Pd.asLs_l, Pd.add_ii, Pd.add_ss, Pd.add_ll, Pd.add_tt, Pd.sub_ii, Pd.mul_ii, Pd.mul_li, Pd.fdiv_ii, Pd.mod_ii, Pd.pow_ii, Pd.lt_ii, Pd.le_ii, Pd.gt_ii, Pd.ge_ii, Pd.eq_ii, Pd.ne_ii, Pd.isn_n, Pd.isnn_n,
  Pd.truth_b, Pd.truth_i, Pd.truth_l, Pd.truth_t, Pd.len_l, Pd.len_t, Pd.len_s, Pd.abs_i, Pd.min2_ii, Pd.max2_ii, Pd.int_i, Pd.int_b, Pd.tuple_l, Pd.tuple_t, Pd.list_l, Pd.list_t, Pd.all_l, Pd.sum_l, Pd.sum_t, Pd.ix_l0, Pd.ix_t0, Pd.ix_l1, Pd.ix_t1, Pd.ix_t2,
  Pd.tg_nm, Pd.tg_tp, Pd.tgs_nil, Pd.tgs_cons, Pd.setQ_f, Pd.setQ_t, Pd.wipe_n, Pd.wipe_c])
theorem zip_ints (r l : List Int) : zipDD (r.map D.int) (l.map D.int) = (r.zip l).map fun q => D.tup [.int q.1, .int q.2] := by
  unfold zipDD
  rw [List.zipWith_map, List.zip, List.map_zipWith]
theorem zw_mul (r l : List Int) : List.zipWith (fun e l => e * l) r l = (r.zip l).map fun q => q.1 * q.2 := by
  rw [List.zip, List.map_zipWith]
theorem fld_b {c f : Str} {ks : List Str} {vs : List D} {P : D → Prop} {x : D} (e : oget f ks vs = some x) (h : P x) : asO c (.obj c ks vs) fun ks vs => ∃ x, oget f ks vs = some x ∧ P x := ⟨rfl, x, e, h⟩
theorem whole_pos : ∀ {s : List Rat} {w : Int}, 0 < w → 0 < wholeI s w
  | [], w, h => h
  | x :: r, w, h => by
    have := x.den_pos
    exact whole_pos (s := r) (Int.mul_pos h (by omega))
theorem whole_bd : ∀ {s : List Rat} {w : Int} {b : Nat}, Bd b w → (∀ x ∈ s, Bd 240 (x.den : Int)) → Bd (b + 240 * s.length) (wholeI s w)
  | [], w, b, h, _ => h
  | x :: r, w, b, h, hs => by
    have := whole_bd (s := r) (h.mul (hs x (List.mem_cons_self ..))) fun y hy => hs y (List.mem_cons_of_mem _ hy)
    rw [List.length_cons]
    exact this.mono (by omega)
theorem lev_bd {dim : Nat} {p : Pt} (gp : GoodPt dim p) (hd : dim ≤ 3) : Bd 44 (levI p) := by
  have key : ∀ l : List Int, (∀ x ∈ l, -1000000 ≤ x ∧ x ≤ 1000000) → 0 ≤ (l.map fun x => x * x).sum ∧ (l.map fun x => x * x).sum ≤ 1000000000000 * l.length := by
    intro l
    induction l with
    | nil => intro _; simp
    | cons x r ih =>
      intro h
      have h1 := ih fun y hy => h y (List.mem_cons_of_mem _ hy)
      have h2 := h x (List.mem_cons_self ..)
      have h3 : x * x ≤ 1000000 * 1000000 := by
        have := Int.natAbs_mul_self (a := x)
        have h4 : x.natAbs ≤ 1000000 := by omega
        have h5 : x.natAbs * x.natAbs ≤ 1000000 * 1000000 := Nat.mul_le_mul h4 h4
        omega
      have h4 : 0 ≤ x * x := by
        have := Int.natAbs_mul_self (a := x)
        omega
      simp only [List.map_cons, List.sum_cons, List.length_cons]
      omega
  have k := key p.row gp.ent
  have hl := gp.len
  have w := gp.wt
  unfold levI
  exact bd_of (by
    generalize (p.row.map fun x => x * x).sum = z at *
    omega)
theorem lim_le {dim : Nat} (h : 1 ≤ dim ∧ dim ≤ 3) : lim dim ≤ 12 := by
  obtain ⟨d1, d2⟩ := h
  match dim, d1, d2 with
  | 1, _, _ => exact Nat.le_refl _
  | 2, _, _ => decide
  | 3, _, _ => decide
theorem w_scaled_prices (ds P R) (hl : ds.length = 2) (h : sp_scaled_prices ds P R) : wSs ir_scaled_prices R (rho0 N_scaled_prices ds) (E0 P) := by
  obtain ⟨dim, ps, s, rfl, gp, ⟨hs, M, hM, hM2, hq⟩, h⟩ := h
  rw [r_scaled_prices, ir_scaled_prices]
  simp only [F_level_of]
  have sm : ∀ x ∈ s, Sm 1000 x := fun x hx => (hq x hx).sm hM (Nat.lt_of_lt_of_le hM2 (Nat.pow_le_pow_right (by decide) (by decide))) (by decide)
  have dn : ∀ x ∈ s, Bd 240 (x.den : Int) := fun x hx => by
    obtain ⟨k, e, _⟩ := hq x hx
    rw [e, Rat.den_mkRat, if_neg (by omega)]
    unfold Bd
    rw [Int.natAbs_natCast]
    exact Nat.lt_of_le_of_lt (Nat.div_le_self _ _) hM2
  have hd := gp.dm
  have one : Bd 1 (1 : Int) := bd_of (by decide)
  walk_at "wp"
  refine for_I (fun its ρ => ∃ r w b x y, its = r.map rat ∧ ρ = [.val (bookD dim ps), .val (spotD s), .val (.int w), x, y, .un, .un, .un, .un, .un, .un, .un] ∧ wholeI r w = wholeI s 1 ∧ Bd b w ∧ b + 240 * r.length ≤ 2000 ∧ ∀ x ∈ r, Bd 240 (x.den : Int)) ⟨s, 1, 1, .un, .un, rfl, rfl, rfl, one, by omega, dn⟩ ?_ ?_
  · rintro d its ρ K ⟨r, w, b, x, y, e, rfl, e1, hb, hb2, hr⟩ hK
    cases r with
    | nil => cases e
    | cons q r =>
      cases e
      unfold rat
      walk_at "wp"
      have hq1 := hr q (List.mem_cons_self ..)
      rw [List.length_cons] at hb2
      exact ⟨hb.mulOk hq1 (by omega), hK _ ⟨r, w * q.den, b + 240, _, _, rfl, rfl, e1, hb.mul hq1, by omega, fun z hz => hr z (List.mem_cons_of_mem _ hz)⟩⟩
  rintro ρ ⟨r, w, b, x, y, e, rfl, e1, hb, hb2, hr⟩
  cases r with
  | cons q r => cases e
  | nil =>
    obtain rfl : w = wholeI s 1 := e1
    have hw := whole_bd one dn
    rw [hs] at hw
    have hw : Bd 721 (wholeI s 1) := hw.mono (by omega)
    unfold spotD
    walk_at "wp"
    refine loop_map (f := fun x => D.int (x.num * (wholeI s 1).fdiv x.den)) (fun x hx K hK => ?_) ?_
    · unfold rat
      walk_at "wp"
      have sx := sm x hx
      exact ⟨sx.den.divOk (by have := x.den_nz; omega), sx.num.mulOk hw.fdiv, hK⟩
    · have e2 : s.map (fun x => D.int (x.num * (wholeI s 1).fdiv x.den)) = (placesI s).map D.int := by
        unfold placesI
        rw [List.map_map]
        rfl
      have hpl : ∀ l ∈ placesI s, Bd 1721 l := fun l hl => by
        obtain ⟨x, hx, rfl⟩ := List.mem_map.mp hl
        exact ((sm x hx).num.mul hw.fdiv).mono (by decide)
      rw [List.nil_append, e2]
      unfold bookD
      refine ⟨Nat.zero_le _, rfl, .tup (ps.map ptD), rfl, ?_⟩
      rw [asQ_t]
      refine for_I (fun its ρ => ∃ (r done : List Pt) (u v : Sl), its = r.map ptD ∧ ps = done ++ r ∧ ρ = [.val (.obj "Book" bookKs (bookVs dim ps)), .val (.tup (s.map rat)), .val (.int (wholeI s 1)), x, y, .val (.lst ((placesI s).map D.int)), .un, .ml (done.map fun p => D.int (scI s p)), u, v, .un, .un]) ⟨ps, [], .un, .un, rfl, rfl, rfl⟩ ?_ ?_
      · rintro d its ρ K ⟨r, done, u, v, e, ep, rfl⟩ hK
        cases r with
        | nil => cases e
        | cons p r =>
          cases e
          have gpp := gp.pts p (by rw [ep]; simp)
          unfold ptD rowD
          walk_at "wp"
          rw [zip_ints]
          refine sum_comp (f := fun q => q.1 * q.2) (fun q hq' K hK => ?_) ?_
          · walk_at "wp"
            obtain ⟨a, b⟩ := q
            have hx1 := (List.of_mem_zip hq').1
            have hx2 := (List.of_mem_zip hq').2
            exact ⟨(ent_bd (gpp.ent a hx1)).mulOk (hpl b hx2), hK⟩
          · walk_at "wp"
            have hlen : done.length < 12 := by
              have h1 : ps.length ≤ 12 := by
                exact Nat.le_trans gp.most (lim_le hd)
              rw [ep] at h1
              simp at h1
              omega
            refine ⟨by rw [List.length_map]; exact Nat.lt_of_lt_of_le hlen (by decide), dim, p, rfl, gpp, hw.mulOk (lev_bd gpp hd.2), ?_⟩
            rw [← zw_mul]
            refine ⟨IntMulOk.of_left (by decide), hK _ ⟨r, done ++ [p], .val (ptD p), .val (.int (List.zipWith (fun e l => e * l) p.row (placesI s)).sum), rfl, by rw [ep]; simp, ?_⟩⟩
            rw [List.map_append]
            rfl
      · rintro ρ ⟨r, done, u, v, e, ep, rfl⟩
        cases r with
        | cons q r => cases e
        | nil =>
          rw [List.append_nil] at ep
          subst ep
          walk_at "wp"
          exact h
end Ny
end
section
set_option Elab.async false
set_option linter.all false
set_option maxRecDepth 100000
namespace Ny
open PySem Pd Rt
local macro_rules | `(tactic| walk_at "wp") => `(tactic| simp only [wSs, wS, wE, wEs, wT, wBp, wTb, wQ, wO, wI, Co.d, List.length_cons, List.length_nil, List.append_nil, List.map_cons, List.map_nil, List.cons_append, List.nil_append, if_true, if_false, Bool.false_eq_true, reduceIte, reduceCtorEq, Bool.not_true, Bool.not_false, true_and, and_true,
  Pd.getV_0, Pd.getV_s, Pd.getL_0, Pd.getL_s, Pd.set_0, Pd.set_s, Pd.asB_b, Pd.asI_i, Pd.asQ_l, Pd.asQ_t, Pd.asLs_l, Pd.add_ii, Pd.add_ss, Pd.add_ll, Pd.add_tt, Pd.sub_ii, Pd.mul_ii, Pd.mul_li, Pd.fdiv_ii, Pd.mod_ii, Pd.pow_ii, Pd.lt_ii, Pd.le_ii, Pd.gt_ii, Pd.ge_ii, Pd.eq_ii, Pd.ne_ii, Pd.isn_n, Pd.isnn_n,
  Pd.truth_b, Pd.truth_i, Pd.truth_l, Pd.truth_t, Pd.len_l, Pd.len_t, Pd.len_s, Pd.abs_i, Pd.min2_ii, Pd.max2_ii, Pd.int_i, Pd.int_b, Pd.tuple_l, Pd.tuple_t, Pd.list_l, Pd.list_t, Pd.all_l, Pd.sum_l, Pd.sum_t, Pd.ix_l0, Pd.ix_t0, Pd.ix_l1, Pd.ix_t1, Pd.ix_t2,
  Pd.tg_nm, Pd.tg_tp, Pd.tgs_nil, Pd.tgs_cons, Pd.setQ_f, Pd.setQ_t, Pd.wipe_n, Pd.wipe_c])
theorem sumR_sum : ∀ (l : List Rat) (a : Rat), sumR a l = a + l.sum
  | [], a => by simp [sumR, Rat.add_zero]
  | q :: r, a => by
    show sumR (a + q) r = _
    rw [sumR_sum r, List.sum_cons, Rat.add_assoc]
def nn (s : List Rat) : Rat := (s.map fun x => x * x).sum
theorem sq_exp : ∀ (s : List Rat) (r : List Int), s.length = r.length → (List.zipWith sqd s r).sum = nn s - 2 * (List.zipWith (fun (e : Int) (x : Rat) => (e : Rat) * x) r s).sum + ((r.map fun x => x * x).sum : Int)
  | [], [], _ => by simp [nn]; grind
  | x :: s, e :: r, h => by
    have ih := sq_exp s r (by simpa using h)
    unfold nn at *
    simp only [List.zipWith_cons_cons, List.sum_cons, List.map_cons, Rat.intCast_add, Rat.intCast_mul]
    rw [ih]
    unfold sqd
    grind
theorem whole_mul : ∀ (s : List Rat) (w : Int), wholeI s w = w * wholeI s 1
  | [], w => by simp [wholeI]
  | x :: r, w => by
    show wholeI r (w * x.den) = w * wholeI r (1 * x.den)
    rw [whole_mul r (w * x.den), whole_mul r (1 * x.den), Int.one_mul, Int.mul_assoc]
theorem den_dvd : ∀ {s : List Rat} {x : Rat}, x ∈ s → (x.den : Int) ∣ wholeI s 1
  | y :: r, x, h => by
    show (x.den : Int) ∣ wholeI r (1 * y.den)
    rw [whole_mul, Int.one_mul]
    rcases List.mem_cons.mp h with e | e
    · rw [e]; exact Int.dvd_mul_right ..
    · exact Int.dvd_trans (den_dvd e) (Int.dvd_mul_left ..)
theorem place_eq {s : List Rat} {x : Rat} (h : x ∈ s) : ((x.num * (wholeI s 1).fdiv x.den : Int) : Rat) = (wholeI s 1 : Rat) * x := by
  obtain ⟨k, e⟩ := den_dvd h
  rw [e]
  have d0 : (x.den : Int) ≠ 0 := by have := x.den_nz; omega
  have e1 : ((x.den : Int) * k).fdiv x.den = k := by
    rw [fdiv_nat]
    exact Int.mul_ediv_cancel_left _ d0
  rw [e1, Rat.intCast_mul, Rat.intCast_mul]
  have e2 : x * (x.den : Int) = (x.num : Int) := by
    have h1 := Rat.num_divInt_den x
    rw [Rat.divInt_eq_div] at h1
    have h2 : (((x.den : Int)) : Rat) ≠ 0 := by
      intro z
      exact d0 (by exact_mod_cast z)
    have h3 := Rat.div_mul_cancel (a := (x.num : Rat)) h2
    rw [h1] at h3
    exact h3
  grind
theorem sc_eq {s : List Rat} {p : Pt} (h : s.length = p.row.length) : (scI s p : Rat) = (wholeI s 1 : Rat) * (prc p s - nn s) := by
  have key : ∀ (t : List Rat) (r : List Int), (∀ x ∈ t, x ∈ s) → (((List.zipWith (fun (e l : Int) => e * l) r (t.map fun x => x.num * (wholeI s 1).fdiv x.den)).sum : Int) : Rat) = (wholeI s 1 : Rat) * (List.zipWith (fun (e : Int) (x : Rat) => (e : Rat) * x) r t).sum := by
    intro t
    induction t with
    | nil => intro r _; cases r <;> simp
    | cons x t ih =>
      intro r hx
      cases r with
      | nil => simp
      | cons e r =>
        have := ih r fun y hy => hx y (List.mem_cons_of_mem _ hy)
        simp only [List.map_cons, List.zipWith_cons_cons, List.sum_cons, Rat.intCast_add, Rat.intCast_mul e]
        rw [this, place_eq (hx x (List.mem_cons_self ..))]
        grind
  have k := key s p.row fun _ h => h
  unfold scI prc levI placesI
  rw [sumR_sum, sq_exp s p.row h]
  simp only [Rat.intCast_sub, Rat.intCast_mul]
  rw [k, show ((2 : Int) : Rat) = 2 from rfl]
  grind
theorem sc_le {s : List Rat} {p q : Pt} (h : s.length = p.row.length) (h2 : s.length = q.row.length) : scI s p ≤ scI s q ↔ prc p s ≤ prc q s := by
  have w := whole_pos (s := s) (w := 1) (by decide)
  have w' : (0 : Rat) < (wholeI s 1 : Rat) := Rat.intCast_pos.mpr w
  rw [← Rat.intCast_le_intCast, sc_eq h, sc_eq h2]
  constructor
  · intro z
    have := Rat.le_of_mul_le_mul_left z w'
    grind
  · intro z
    refine Rat.mul_le_mul_of_nonneg_left ?_ (Rat.le_of_lt w')
    grind
theorem rg_eq (n : Nat) : rgD 0 n = (List.range n).map fun i => D.int (i : Nat) := by
  unfold rgD
  rw [show ((n : Int) - 0).toNat = n by omega]
  refine List.map_congr_left fun i _ => ?_
  rw [Int.zero_add]
theorem w_cheapest (ds P R) (hl : ds.length = 2) (h : sp_cheapest ds P R) : wSs ir_cheapest R (rho0 N_cheapest ds) (E0 P) := by
  obtain ⟨dim, ps, s, rfl, gp, hs, h⟩ := h
  rw [r_cheapest, ir_cheapest]
  simp only [F_check_spot_64, F_scaled_prices]
  have hd := gp.dm
  have hlen : ps.length ≤ 12 := Nat.le_trans gp.most (lim_le hd)
  have e : areRats dim (spotD s) = true := by
    unfold areRats spotD
    dsimp only
    rw [(rats_ok s).1, List.length_map, hs.1]
    simp
  walk_at "wp"
  refine ⟨rfl, _, rfl, ?_, (rats_ok s).2, ?_⟩
  · show (decide ((1 : Int) ≤ dim) && decide ((dim : Int) ≤ 3)) = true
    rw [decide_eq_true (by omega), decide_eq_true (by omega)]; rfl
  rw [if_pos e]
  refine ⟨dim, ps, s, rfl, gp, hs, ?_⟩
  walk_at "wp"
  refine ⟨ps.map (scI s), ?_, ?_, fun m hm hmin => ?_⟩
  · have e2 : ps.map (fun p => D.int (scI s p)) = (ps.map (scI s)).map D.int := by rw [List.map_map]; rfl
    rw [e2, intsD_map]
  · rw [List.length_map]; exact gp.one
  walk_at "wp"
  refine ⟨rfl, _, rfl, ?_⟩
  rw [asI_i]
  have h12 : 12 ≤ sizeLine := by decide
  refine ⟨⟨by omega, Int.ofNat_le.mpr (Nat.le_trans hlen h12)⟩, ?_⟩
  rw [rg_eq]
  have len : ∀ p ∈ ps, s.length = p.row.length := fun p hp => by rw [hs.1, (gp.pts p hp).len]
  refine loop_filter (f := fun i : Nat => D.int (i : Nat)) (p := fun i : Nat => match ps[i]? with | some p => scI s p == m | none => false) (fun i hi K h1 h2 => ?_) ?_
  · have hi : i < ps.length := List.mem_range.mp hi
    have ei : ps[i]? = some ps[i] := List.getElem?_eq_getElem hi
    rw [ix_ln]
    refine ⟨.int (scI s ps[i]), by rw [List.getElem?_map, ei]; rfl, ?_⟩
    rw [eq_ii]
    rw [ei] at h1 h2
    cases z : (scI s ps[i] == m) with
    | true => rw [if_pos rfl]; exact h1 z
    | false => rw [if_neg Bool.false_ne_true]; exact h2 z
  · walk_at "wp"
    have ef : (List.range ps.length).filter (fun i : Nat => match ps[i]? with | some p => scI s p == m | none => false) = cheap ps s := by
      unfold cheap
      refine List.filter_congr fun i hi => ?_
      have hi : i < ps.length := List.mem_range.mp hi
      have ei : ps[i]? = some ps[i] := List.getElem?_eq_getElem hi
      rw [ei]
      dsimp only
      have mi : ps[i] ∈ ps := List.getElem_mem hi
      obtain ⟨p0, hp0, em⟩ := List.mem_map.mp hm
      rw [Bool.eq_iff_iff]
      simp only [beq_iff_eq, List.all_eq_true, decide_eq_true_eq]
      constructor
      · intro z q hq
        refine (sc_le (len _ mi) (len _ hq)).mp ?_
        rw [z]
        exact hmin _ (List.mem_map_of_mem hq)
      · intro z
        have h1 := (sc_le (len _ mi) (len _ hp0)).mpr (z p0 hp0)
        have h2 := hmin (scI s ps[i]) (List.mem_map_of_mem mi)
        omega
    rw [ef]
    exact h
end Ny
end
section
set_option Elab.async false
set_option linter.all false
set_option maxRecDepth 100000
/-! ## the company's mean spot: what the function promises -/
namespace Ny
open PySem Pd Rt
/-- a company: spots of one dimension, counts -/
structure Comp (dim : Nat) (S : List (List Rat)) (cs : List Int) : Prop where
  dm : 1 ≤ dim ∧ dim ≤ 3
  one : 0 < S.length
  most : S.length ≤ 32
  len : S.length = cs.length
  spot : ∀ s ∈ S, s.length = dim ∧ ∀ x ∈ s, Q 84 700 x
  cnt : ∀ c ∈ cs, 1 ≤ c ∧ Bd 220 c
def colR (S : List (List Rat)) (cs : List Int) (k : Nat) : Rat := sumR 0 (List.zipWith (fun (s : List Rat) (c : Int) => (c : Rat) * s.getD k 0) S cs)
def invN (cs : List Int) : Rat := mkRat 1 cs.sum.toNat
def meanR (dim : Nat) (S : List (List Rat)) (cs : List Int) : List Rat := (List.range dim).map fun k => colR S cs k * invN cs
def okSpots (d : D) : Bool := match seqD d with | some l => !l.isEmpty && l.all (okTwo (l.headD .non)) | none => false
def spotsL (S : List (List Rat)) : List D := S.map spotD
def sp_mean_spot : Pd.Spec := fun ds P R => ∃ d c, ds = [d, c] ∧ pl d = true ∧ pl c = true ∧
  ((okSpots d = false ∧ R BadSpot) ∨ (okSpots d = true ∧ (∃ l, seqD d = some l ∧ okCounts l.length c = false) ∧ R BadNumber) ∨
    ∃ dim S cs, seqD d = some (spotsL S) ∧ seqD c = some (cs.map D.int) ∧ Comp dim S cs ∧ P (spotD (meanR dim S cs)) false)
end Ny
end
section
set_option Elab.async false
set_option linter.all false
namespace Ny
open PySem Pd Rt
def F_mean_spot : Fn := ⟨"mean_spot", sp_mean_spot, 6, 2, []⟩
def N_mean_spot : List Str := ["spots", "counts", "spot", "many", "result", "at", "entry", "count"]
def ir_mean_spot : Sms := (.cons (.iff (.bop false (.cons (.not (.tru (.call F_is_sequence (.cons (.var 0) .nil)))) (.cons (.cmp .eq (.bi .len (.cons (.var 0) .nil)) (.con (.int 0))) .nil))) (.cons (.raiseT "BadSpot") .nil) .nil) (.cons (.loop (.nm 2) (.seq (.var 0)) (.cons (.exp (.call F_check_two_spots (.cons (.ix (.var 0) (.con (.int 0))) (.cons (.var 2) .nil)))) .nil)) (.cons (.exp (.call F_check_counts (.cons (.var 1) (.cons (.bi .len (.cons (.var 0) .nil)) .nil)))) (.cons (.set false 3 (.bi .sum (.cons (.var 1) .nil))) (.cons (.set true 4 (.lst .nil)) (.cons (.loop (.nm 5) (.r1 (.bi .len (.cons (.ix (.var 0) (.con (.int 0))) .nil))) (.cons (.set false 6 (.tup (.cons (.con (.int 0)) (.cons (.con (.int 1)) .nil)))) (.cons (.loop (.tp (.cons (.nm 2) (.cons (.nm 7) .nil))) (.zip (.var 0) (.var 1)) (.cons (.set false 6 (.call F_sum_of (.cons (.var 6) (.cons (.call F_product_of (.cons (.tup (.cons (.var 7) (.cons (.con (.int 1)) .nil))) (.cons (.ix (.var 2) (.var 5)) .nil))) .nil)))) .nil)) (.cons (.app 4 (.call F_product_of (.cons (.var 6) (.cons (.tup (.cons (.con (.int 1)) (.cons (.var 3) .nil))) .nil)))) .nil)))) (.frz 4 (.cons (.ret (.bi .tuple (.cons (.var 4) .nil))) .nil))))))))
theorem r_mean_spot {a0 a1 : D} : rho0 N_mean_spot [a0, a1] = [.val a0, .val a1, .un, .un, .un, .un, .un, .un] := rfl
end Ny
end
section
set_option Elab.async false
set_option linter.all false
set_option maxRecDepth 100000
namespace Ny
open PySem Pd Rt
local macro_rules | `(tactic| walk_at "wp") => `(tactic| simp only [wSs, wS, wE, wEs, wT, wBp, wTb, wQ, wO, wI, Co.d, List.length_cons, List.length_nil, List.append_nil, List.map_cons, List.map_nil, List.cons_append, List.nil_append, if_true, if_false, Bool.false_eq_true, reduceIte, reduceCtorEq, Bool.not_true, Bool.not_false, true_and, and_true,
  Pd.getV_0, Pd.getV_s, Pd.getL_0, Pd.getL_s, Pd.set_0, Pd.set_s, Pd.asB_b, Pd.asI_i, Pd.asQ_l, Pd.asQ_t, Pd.asLs_l, Pd.add_ii, Pd.add_ss, Pd.add_ll, Pd.add_tt, Pd.sub_ii, Pd.mul_ii, Pd.mul_li, Pd.fdiv_ii, Pd.mod_ii, Pd.pow_ii, Pd.lt_ii, Pd.le_ii, Pd.gt_ii, Pd.ge_ii, Pd.eq_ii, Pd.ne_ii, Pd.isn_n, Pd.isnn_n,
  Pd.truth_b, Pd.truth_i, Pd.truth_l, Pd.truth_t, Pd.len_l, Pd.len_t, Pd.len_s, Pd.abs_i, Pd.min2_ii, Pd.max2_ii, Pd.int_i, Pd.int_b, Pd.tuple_l, Pd.tuple_t, Pd.list_l, Pd.list_t, Pd.all_l, Pd.sum_l, Pd.sum_t, Pd.ix_l0, Pd.ix_t0, Pd.ix_l1, Pd.ix_t1, Pd.ix_t2,
  Pd.tg_nm, Pd.tg_tp, Pd.tgs_nil, Pd.tgs_cons, Pd.setQ_f, Pd.setQ_t, Pd.wipe_n, Pd.wipe_c])
theorem cnt_sum : ∀ {cs : List Int}, (∀ c ∈ cs, 1 ≤ c ∧ Bd 220 c) → (cs.length : Int) ≤ cs.sum ∧ cs.sum ≤ 2 ^ 220 * cs.length
  | [], _ => ⟨by simp, by simp⟩
  | c :: r, h => by
    have h1 := cnt_sum (cs := r) fun x hx => h x (List.mem_cons_of_mem _ hx)
    have h2 := h c (List.mem_cons_self ..)
    have h3 : c < 2 ^ 220 := by
      have h4 := h2.2
      unfold Bd at h4
      have e : ((2 ^ 220 : Nat) : Int) = 2 ^ 220 := by simp
      omega
    rw [List.sum_cons, List.length_cons]
    generalize r.sum = z at *
    constructor
    · omega
    · have : (2 ^ 220 : Int) * ((r.length + 1 : Nat) : Int) = 2 ^ 220 * r.length + 2 ^ 220 := by
        rw [Int.natCast_add, Int.mul_add]; simp
      omega
section
variable {dim : Nat} {S : List (List Rat)} {cs : List Int}
theorem Comp.sum_pos (h : Comp dim S cs) : 0 < cs.sum := by
  have h1 := (cnt_sum h.cnt).1
  have h2 := h.one
  have h3 := h.len
  omega
theorem Comp.sum_bd (h : Comp dim S cs) : cs.sum.toNat < 2 ^ 226 := by
  have h1 := (cnt_sum h.cnt).2
  have h2 := h.most
  have h3 := h.len
  have h4 := h.sum_pos
  have h5 : (2 ^ 220 : Int) * cs.length ≤ 2 ^ 220 * 32 := Int.mul_le_mul_of_nonneg_left (by omega) (by decide)
  have h6 : cs.sum ≤ 2 ^ 220 * 32 := Int.le_trans h1 h5
  have h7 : (cs.sum.toNat : Int) ≤ 2 ^ 220 * 32 := by omega
  have h8 : ((2 ^ 220 * 32 : Nat) : Int) = 2 ^ 220 * 32 := by simp
  have h9 : cs.sum.toNat ≤ 2 ^ 220 * 32 := by omega
  exact Nat.lt_of_le_of_lt h9 (by decide)
theorem inv_rat (h : 0 < cs.sum) : rat (invN cs) = .tup [.int 1, .int cs.sum] := by
  have k := mkRat_nf (n := 1) (d := cs.sum.toNat) (by omega) (Nat.gcd_one_left _)
  unfold rat invN
  rw [k.1, k.2, Int.toNat_of_nonneg (by omega)]
theorem inv_Q (h : 0 < cs.sum) : Q cs.sum.toNat 1 (invN cs) := ⟨1, rfl, bd_of (by decide)⟩
theorem int_rat (c : Int) : D.tup [.int c, .int 1] = rat (c : Rat) := by
  unfold rat
  rw [Rat.num_intCast, Rat.den_intCast]
  rfl
theorem col_in (h : Comp dim S cs) {k : Nat} (hk : k < dim) : ∀ q ∈ List.zipWith (fun (s : List Rat) (c : Int) => (c : Rat) * s.getD k 0) S cs, Q 84 920 q := fun q hq => by
  rw [show List.zipWith (fun (s : List Rat) (c : Int) => (c : Rat) * s.getD k 0) S cs = (S.zip cs).map fun z => (z.2 : Rat) * z.1.getD k 0 by rw [List.zip, List.map_zipWith]] at hq
  obtain ⟨⟨s, c⟩, hz, rfl⟩ := List.mem_map.mp hq
  have h1 := h.spot s (List.of_mem_zip hz).1
  have h2 := h.cnt c (List.of_mem_zip hz).2
  have hks : k < s.length := by rw [h1.1]; exact hk
  have e : s.getD k 0 = s[k] := by simp [List.getD, hks]
  rw [e]
  exact (Q.imul h2.2 (h1.2 _ (List.getElem_mem hks))).mono (by decide)
theorem col_Q (h : Comp dim S cs) {k : Nat} (hk : k < dim) : Q 84 952 (colR S cs k) := by
  have := sumR_Q (m := 84) (by decide) (l := List.zipWith (fun (s : List Rat) (c : Int) => (c : Rat) * s.getD k 0) S cs) (a := 0) (b := 920) Q.zero (col_in h hk)
  refine this.mono ?_
  have h1 := h.most
  rw [List.length_zipWith]
  omega
/-- the mean spot is a good spot -/
theorem mean_ok (h : Comp dim S cs) : OkSpot dim (meanR dim S cs) := by
  refine ⟨by unfold meanR; rw [List.length_map, List.length_range], 84 * cs.sum.toNat, ?_, ?_, fun x hx => ?_⟩
  · have := h.sum_pos
    omega
  · have h1 := h.sum_bd
    have h2 : 84 * cs.sum.toNat < 2 ^ 7 * 2 ^ 226 := Nat.mul_lt_mul'' (by decide) h1
    exact Nat.lt_of_lt_of_le h2 (by decide)
  · obtain ⟨k, hk, rfl⟩ := List.mem_map.mp hx
    exact ((col_Q h (List.mem_range.mp hk)).mul (inv_Q h.sum_pos)).mono (by decide)
end
theorem seq_of {d : D} {l : List D} (h : seqD d = some l) : (d = .lst l ∨ d = .tup l) ∧ isSeq d = true := by
  cases d <;> cases h
  · exact ⟨.inr rfl, rfl⟩
  · exact ⟨.inl rfl, rfl⟩
theorem len_q {d : D} {l : List D} (h : seqD d = some l) {P : D → Bool → Prop} (q : P (.int l.length) false) : wBi .len [d] P := by
  rcases (seq_of h).1 with e | e <;> rw [e] <;> exact q
theorem ix_q {d x : D} {l : List D} {n : Nat} (h : seqD d = some l) (e : l[n]? = some x) {P : D → Bool → Prop} (q : P x false) : wIx d (.int n) P := by
  rcases (seq_of h).1 with e' | e' <;> rw [e']
  · rw [ix_ln]; exact ⟨x, e, q⟩
  · rw [ix_tn]; exact ⟨x, e, q⟩
theorem ix_q0 {d x : D} {l : List D} (h : seqD d = some l) (e : l[0]? = some x) {P : D → Bool → Prop} (q : P x false) : wIx d (.int 0) P := ix_q (n := 0) h e q
theorem asQ_q {d : D} {l : List D} (h : seqD d = some l) {P : List D → Prop} (q : P l) : asQ d P := by
  rcases (seq_of h).1 with e | e <;> rw [e] <;> exact q
theorem sum_q {d : D} {ns : List Int} (h : seqD d = some (ns.map D.int)) {P : D → Bool → Prop} (q : P (.int ns.sum) false) : wBi .sum [d] P := by
  rcases (seq_of h).1 with e | e <;> rw [e]
  · rw [sum_l]; exact q
  · rw [sum_t]; exact q
theorem pl_seq {d : D} {l : List D} (h : seqD d = some l) (hp : pl d = true) : plL l = true := by
  rcases (seq_of h).1 with e | e <;> rw [e] at hp <;> exact hp
theorem spots_pl : ∀ S : List (List Rat), plL (spotsL S) = true
  | [] => rfl
  | s :: r => by
    show (pl (spotD s) && plL (spotsL r)) = true
    rw [spots_pl r]
    have : pl (spotD s) = true := (rats_ok s).2
    rw [this]; rfl
section
variable {dim : Nat} {S : List (List Rat)} {cs : List Int}
theorem spot_ok {s : List Rat} (hd : 1 ≤ dim ∧ dim ≤ 3) (h : s.length = dim) : okSpot (spotD s) = true := by
  unfold okSpot spotD
  dsimp only
  rw [(rats_ok s).1, List.length_map, h, decide_eq_true hd.1, decide_eq_true hd.2]; rfl
theorem rats_len {s : List Rat} {n : Int} (h : (s.length : Int) = n) : areRats n (spotD s) = true := by
  unfold areRats spotD
  dsimp only
  rw [(rats_ok s).1, List.length_map, h]
  simp
theorem Comp.oks (h : Comp dim S cs) {d : D} (e : seqD d = some (spotsL S)) : okSpots d = true := by
  unfold okSpots
  rw [e]
  obtain ⟨s0, r, eS⟩ : ∃ s0 r, S = s0 :: r := by
    have := h.one
    cases S with
    | nil => exact absurd this (by decide)
    | cons a b => exact ⟨a, b, rfl⟩
  have h0 := (h.spot s0 (by rw [eS]; simp)).1
  dsimp only
  rw [Bool.and_eq_true]
  refine ⟨by rw [eS]; rfl, ?_⟩
  rw [List.all_eq_true]
  intro x hx
  obtain ⟨s, hs, rfl⟩ := List.mem_map.mp hx
  have e0 : (spotsL S).headD .non = spotD s0 := by rw [eS]; rfl
  rw [e0]
  unfold okTwo
  rw [spot_ok h.dm h0, Bool.true_and]
  refine rats_len ?_
  show (s.length : Int) = (s0.map rat).length
  rw [List.length_map, h0, (h.spot s hs).1]
theorem Comp.okc (h : Comp dim S cs) {c : D} (e : seqD c = some (cs.map D.int)) : okCounts S.length c = true := by
  have key : (((cs.map D.int).length : Int) == (S.length : Int) && (cs.map D.int).all okCount) = true := by
    rw [List.length_map, h.len, Bool.and_eq_true]
    refine ⟨by simp, ?_⟩
    rw [List.all_eq_true]
    intro x hx
    obtain ⟨i, hi, rfl⟩ := List.mem_map.mp hx
    exact decide_eq_true (h.cnt i hi).1
  rcases (seq_of e).1 with e' | e' <;> rw [e'] <;> exact key
end
theorem zip_spots (S : List (List Rat)) (cs : List Int) : zipDD (spotsL S) (cs.map D.int) = (S.zip cs).map fun z => D.tup [spotD z.1, .int z.2] := by
  unfold zipDD spotsL
  rw [List.zipWith_map, List.zip, List.map_zipWith]
theorem zw_col (S : List (List Rat)) (cs : List Int) (k : Nat) : List.zipWith (fun (s : List Rat) (c : Int) => (c : Rat) * s.getD k 0) S cs = (S.zip cs).map fun z => (z.2 : Rat) * z.1.getD k 0 := by rw [List.zip, List.map_zipWith]
theorem big84 : (84 : Nat) < 2 ^ 4000 := Nat.lt_of_lt_of_le (show 84 < 2 ^ 7 by decide) (Nat.pow_le_pow_right (by decide) (by decide))
theorem w_mean_spot (ds P R) (hl : ds.length = 2) (h : sp_mean_spot ds P R) : wSs ir_mean_spot R (rho0 N_mean_spot ds) (E0 P) := by
  obtain ⟨d, c, rfl, pd, pc, h⟩ := h
  rw [r_mean_spot, ir_mean_spot]
  simp only [F_is_sequence, F_check_two_spots, F_check_counts, F_sum_of, F_product_of]
  walk_at "wp"
  refine ⟨pd, ?_⟩
  cases es : seqD d with
  | none =>
    have e1 : isSeq d = false := by cases d <;> first | rfl | cases es
    have e2 : okSpots d = false := by unfold okSpots; rw [es]
    rw [e1]
    walk_at "wp"
    rcases h with h | ⟨h, _⟩ | ⟨dim, S, cs, h1, _⟩
    · exact h.2
    · rw [e2] at h; cases h
    · rw [es] at h1; cases h1
  | some l =>
    rw [(seq_of es).2]
    walk_at "wp"
    refine len_q es ?_
    walk_at "wp"
    have hs : okSpots d = (!l.isEmpty && l.all (okTwo (l.headD .non))) := by unfold okSpots; rw [es]
    by_cases z : l = []
    · rw [hs, z] at h
      rw [z]
      rw [show (((([] : List D).length : Nat) : Int) == 0) = true from rfl]
      walk_at "wp"
      rcases h with h | ⟨h, _⟩ | ⟨dim, S, cs, h1, _, h3, _⟩
      · exact h.2
      · cases h
      · rw [es, z] at h1
        have h4 := h3.one
        cases S with
        | nil => exact absurd h4 (by decide)
        | cons a b => cases h1
    · obtain ⟨x0, l', el⟩ : ∃ x0 l', l = x0 :: l' := by
        cases l with
        | nil => exact absurd rfl z
        | cons a b => exact ⟨a, b, rfl⟩
      have n0 : (((l.length : Nat) : Int) == 0) = false := by rw [el]; simp; omega
      rw [n0]
      walk_at "wp"
      refine asQ_q es ?_
      have hh : l.headD .non = x0 := by rw [el]; rfl
      have i0 : l[0]? = some x0 := by rw [el]; rfl
      have pll := pl_seq es pd
      have px0 : pl x0 = true := plL_mem pll x0 (by rw [el]; simp)
      have hs2 : okSpots d = l.all (okTwo x0) := by
        rw [hs, hh, el]; rfl
      refine for_I (fun its ρ => ∃ x, ρ = [.val d, .val c, x, .un, .un, .un, .un, .un] ∧ plL its = true ∧ ((okSpots d = true ∧ its.all (okTwo x0) = true) ∨ (R BadSpot ∧ its.all (okTwo x0) = false))) ⟨.un, rfl, pll, ?_⟩ ?_ ?_
      · cases e : okSpots d with
        | true => exact .inl ⟨rfl, by rw [← hs2, e]⟩
        | false =>
          refine .inr ⟨?_, by rw [← hs2, e]⟩
          rcases h with h | ⟨h, _⟩ | ⟨dim, S, cs, h1, _, h3, _⟩
          · exact h.2
          · rw [e] at h; cases h
          · have := h3.oks h1
            rw [e] at this; cases this
      · rintro x r ρ K ⟨y, rfl, hp, hc⟩ hK
        rw [plL, Bool.and_eq_true] at hp
        walk_at "wp"
        refine ix_q0 es i0 ⟨px0, hp.1, ?_⟩
        rw [List.all_cons] at hc
        cases e : okTwo x0 x with
        | true =>
          rw [if_pos rfl]
          rw [e, Bool.true_and] at hc
          exact hK _ ⟨_, rfl, hp.2, hc⟩
        | false =>
          rw [if_neg Bool.false_ne_true]
          rw [e, Bool.false_and] at hc
          rcases hc with ⟨_, q⟩ | ⟨q, _⟩
          · cases q
          · exact q
      · rintro ρ ⟨y, rfl, _, hc⟩
        rcases hc with ⟨hok, _⟩ | ⟨_, q⟩
        · walk_at "wp"
          refine len_q es ?_
          refine ⟨pc, ?_⟩
          cases ec : okCounts l.length c with
          | false =>
            rw [if_neg Bool.false_ne_true]
            rcases h with ⟨h, _⟩ | ⟨_, _, h⟩ | ⟨dim, S, cs, h1, h2, h3, _⟩
            · rw [hok] at h; cases h
            · exact h
            · have h4 := h3.okc h2
              rw [es] at h1
              have h5 : l.length = S.length := by rw [Option.some.inj h1]; unfold spotsL; rw [List.length_map]
              rw [← h5, ec] at h4
              cases h4
          | true =>
            rw [if_pos rfl]
            rcases h with ⟨h, _⟩ | ⟨_, ⟨l2, h1, h2⟩, _⟩ | ⟨dim, S, cs, h1, h2, h3, h⟩
            · rw [hok] at h; cases h
            · rw [es] at h1
              rw [← Option.some.inj h1, ec] at h2
              cases h2
            · skip
              have hl : l = spotsL S := Option.some.inj (by rw [← es, h1])
              obtain ⟨s0, e0, hs0⟩ : ∃ s0, x0 = spotD s0 ∧ s0 ∈ S := by
                have := List.mem_of_getElem? i0
                rw [hl] at this
                obtain ⟨s0, hs, e⟩ := List.mem_map.mp this
                exact ⟨s0, e.symm, hs⟩
              have l0 := (h3.spot s0 hs0).1
              refine sum_q h2 ?_
              walk_at "wp"
              refine ⟨Nat.zero_le _, ?_⟩
              refine ix_q0 es i0 ?_
              rw [e0]
              unfold spotD
              walk_at "wp"
              rw [List.length_map, l0, rg_eq]
              have dm := h3.dm
              have z3 : 3 ≤ sizeLine := by decide
              refine ⟨⟨by omega, Int.ofNat_le.mpr (Nat.le_trans dm.2 z3)⟩, ?_⟩
              refine for_I (fun its ρ => ∃ (k : Nat) (x y z w : Sl), k ≤ dim ∧ its = ((List.range dim).drop k).map (fun i => D.int (i : Nat)) ∧ ρ = [.val d, .val c, x, .val (.int cs.sum), .ml (((List.range k).map fun i => colR S cs i * invN cs).map rat), y, z, w]) ⟨0, y, .un, .un, .un, Nat.zero_le _, rfl, rfl⟩ ?_ ?_
              · rintro x its ρ K ⟨k, x1, y1, z1, w1, hk, e, rfl⟩ hK
                have hk2 : k < dim := by
                  rcases Nat.lt_or_ge k dim with q | q
                  · exact q
                  · rw [List.drop_eq_nil_of_le (by rw [List.length_range]; exact q)] at e
                    cases e
                rw [List.drop_eq_getElem_cons (by rw [List.length_range]; exact hk2), List.map_cons, List.getElem_range] at e
                obtain ⟨e1, e2⟩ := List.cons.inj e
                subst e1
                walk_at "wp"
                refine ⟨by decide, ?_⟩
                refine asQ_q h1 (asQ_q h2 ?_)
                rw [zip_spots]
                have hacc : Acc 0 ((S.zip cs).map fun z => (z.2 : Rat) * z.1.getD k 0) := by
                  rw [← zw_col]
                  refine acc_of (m := 84) (b := 920) (by decide) big84 Q.zero (col_in h3 hk2) ?_
                  have := h3.most
                  rw [List.length_zipWith]
                  omega
                have hsum : sumR 0 ((S.zip cs).map fun z => (z.2 : Rat) * z.1.getD k 0) = colR S cs k := by
                  unfold colR
                  rw [zw_col]
                refine for_I (fun its ρ => ∃ (r : List (List Rat × Int)) (a : Rat) (x w : Sl), its = r.map (fun z => D.tup [spotD z.1, .int z.2]) ∧ ρ = [.val d, .val c, x, .val (.int cs.sum), .ml (((List.range k).map fun i => colR S cs i * invN cs).map rat), .val (.int k), .val (rat a), w] ∧ Acc a (r.map fun z => (z.2 : Rat) * z.1.getD k 0) ∧ sumR a (r.map fun z => (z.2 : Rat) * z.1.getD k 0) = colR S cs k ∧ ∀ z ∈ r, z ∈ S.zip cs) ⟨S.zip cs, 0, x1, w1, rfl, rfl, hacc, hsum, fun _ h => h⟩ ?_ ?_
                · rintro x its' ρ K ⟨r, a, x2, w2, e, rfl, ha, hsm, hin⟩ hK
                  cases r with
                  | nil => cases e
                  | cons z r =>
                    cases e
                    obtain ⟨s, cn⟩ := z
                    have hz := hin _ (List.mem_cons_self ..)
                    have g1 := h3.spot s (List.of_mem_zip hz).1
                    have g2 := h3.cnt cn (List.of_mem_zip hz).2
                    have hks : k < s.length := by rw [g1.1]; exact hk2
                    have e5 : s.getD k 0 = s[k] := by simp [List.getD, hks]
                    unfold spotD
                    walk_at "wp"
                    refine ⟨by decide, ?_⟩
                    rw [ix_tn]
                    refine ⟨rat s[k], by rw [List.getElem?_map, List.getElem?_eq_getElem hks]; rfl, ?_⟩
                    rw [int_rat]
                    refine ⟨(cn : Rat), s[k], rfl, sm_int g2.2 (by decide) (by decide), (g1.2 _ (List.getElem_mem hks)).sm (by decide) big84 (by decide), ?_⟩
                    obtain ⟨a1, a2, a3⟩ := ha
                    dsimp only at a2 a3 hsm
                    rw [e5] at a2 a3
                    refine ⟨a, (cn : Rat) * s[k], rfl, a1, a2, ?_⟩
                    walk_at "wp"
                    refine hK _ ⟨r, a + (cn : Rat) * s[k], _, _, rfl, rfl, a3, ?_, fun z hz => hin z (List.mem_cons_of_mem _ hz)⟩
                    rw [← hsm, List.map_cons]
                    show _ = sumR (a + (cn : Rat) * s.getD k 0) _
                    rw [e5]
                · rintro ρ ⟨r, a, x2, w2, e, rfl, ha, hsm, hin⟩
                  cases r with
                  | cons z r => cases e
                  | nil =>
                    have ea : a = colR S cs k := hsm
                    subst ea
                    have hp := h3.sum_pos
                    have m84 : (84 : Nat) ≠ 0 := by decide
                    walk_at "wp"
                    refine ⟨?_, by decide, ?_⟩
                    · rw [List.length_map, List.length_map, List.length_range]
                      omega
                    rw [← inv_rat hp]
                    refine ⟨_, _, rfl, (col_Q h3 hk2).sm (by decide) big84 (by decide), (inv_Q hp).sm (by omega) (Nat.lt_of_lt_of_le h3.sum_bd (Nat.pow_le_pow_right (by decide) (by decide))) (by decide), ?_⟩
                    refine hK _ ⟨k + 1, x2, .val (.int k), .val (rat (colR S cs k)), w2, hk2, e2, ?_⟩
                    rw [List.range_succ, List.map_append, List.map_append]
                    rfl
              · rintro ρ ⟨k, x1, y1, z1, w1, hk, e, rfl⟩
                have hk2 : k = dim := by
                  rcases Nat.lt_or_ge k dim with q | q
                  · rw [List.drop_eq_getElem_cons (by rw [List.length_range]; exact q)] at e
                    cases e
                  · omega
                subst hk2
                walk_at "wp"
                exact h
        · cases q
end Ny
end
section
set_option Elab.async false
set_option linter.all false
set_option maxRecDepth 100000
/-! ## company: what the functions promise -/
namespace Ny
open PySem Pd Rt
def TooLarge (n : Int) : Exn := ⟨"TooLarge", [("limit", n)]⟩
/-- is a company's call refused, and how (spots of dimension n) -/
def compRef (n : Int) (d c : D) : Option Exn := match seqD d with
  | none => some BadSpot
  | some l => if l.isEmpty = true then some BadSpot else if l.all (areRats n) = false then some BadSpot else
    match seqD c with
    | none => some BadNumber
    | some m => if (m.length == l.length) = false then some BadNumber else if m.all okCount = false then some BadNumber else
      if 20 < l.length then some (TooLarge 20) else none
def dimRef (d : D) : Option Exn := match seqD d with
  | none => some BadSpot
  | some l => match l with
    | .tup x :: _ => if x.length < 1 ∨ 3 < x.length then some BadSpot else none
    | _ => some BadSpot
def sp_check_number_76 : Pd.Spec := fun ds P R => ∃ dim ps d, ds = [bookD dim ps, d] ∧ pl d = true ∧ (if isNum ps.length d = true then P .non false else R BadNumber)
def sp_check_company : Pd.Spec := fun ds P R => ∃ (n : Int) (d c : D), ds = [.int n, d, c] ∧ isDim (.int n) = true ∧ pl d = true ∧ pl c = true ∧ (match compRef n d c with | none => P .non false | some e => R e)
def sp_spots_dim : Pd.Spec := fun ds P R => ∃ d, ds = [d] ∧ pl d = true ∧ (match dimRef d with | none => ∃ x l, seqD d = some (.tup x :: l) ∧ P (.int x.length) false | some e => R e)
/-- the sums of a company: counts times coordinates; times squares -/
def sqR (S : List (List Rat)) (cs : List Int) (k : Nat) : Rat := sumR 0 (List.zipWith (fun (s : List Rat) (c : Int) => (c : Rat) * s.getD k 0 * s.getD k 0) S cs)
def colsR (dim : Nat) (S : List (List Rat)) (cs : List Int) : List Rat := (List.range dim).map (colR S cs)
def sqsR (dim : Nat) (S : List (List Rat)) (cs : List Int) : Rat := sumR 0 ((List.range dim).map (sqR S cs))
def addD (dim : Nat) (S : List (List Rat)) (cs : List Int) : D := .tup [.int cs.sum, .lst ((colsR dim S cs).map rat), rat (sqsR dim S cs)]
def sp_count_sums : Pd.Spec := fun ds P R => ∃ (d c : D) (dim : Nat) (S : List (List Rat)) (cs : List Int), ds = [d, c] ∧ seqD d = some (spotsL S) ∧ seqD c = some (cs.map D.int) ∧ Comp dim S cs ∧ P (addD dim S cs) false
def totR (dim : Nat) (S : List (List Rat)) (cs : List Int) (p : Pt) : Rat := sqsR dim S cs - 2 * sumR 0 (List.zipWith (fun (e : Int) (x : Rat) => (e : Rat) * x) p.row (colsR dim S cs)) + ((cs.sum * levI p : Int) : Rat)
def sp_total_from : Pd.Spec := fun ds P R => ∃ (dim : Nat) (ps : List Pt) (n : Nat) (p : Pt) (S : List (List Rat)) (cs : List Int), ds = [bookD dim ps, .int n, addD dim S cs] ∧ GoodPts dim ps ∧ ps[n]? = some p ∧ Comp dim S cs ∧ P (rat (totR dim S cs p)) false
end Ny
end
section
set_option Elab.async false
set_option linter.all false
namespace Ny
open PySem Pd Rt
def F_check_number_76 : Fn := ⟨"check_number_company", sp_check_number_76, 1, 2, []⟩
def N_check_number_76 : List Str := ["book", "i"]
def ir_check_number_76 : Sms := (.cons (.iff (.bop false (.cons (.not (.tru (.isi .int (.var 1)))) (.cons (.tru (.isi .bool (.var 1))) (.cons (.cmp .lt (.var 1) (.con (.int 0))) (.cons (.cmp .ge (.var 1) (.fld "Book" "many" (.var 0))) .nil))))) (.cons (.raise0 "BadNumber") .nil) .nil) .nil)
theorem r_check_number_76 {a0 a1 : D} : rho0 N_check_number_76 [a0, a1] = [.val a0, .val a1] := rfl
def F_check_company : Fn := ⟨"check_company", sp_check_company, 5, 3, []⟩
def N_check_company : List Str := ["dim", "spots", "counts", "spot", "count"]
def ir_check_company : Sms := (.cons (.iff (.bop false (.cons (.not (.tru (.isi2 .list .tuple (.var 1)))) (.cons (.cmp .eq (.bi .len (.cons (.var 1) .nil)) (.con (.int 0))) .nil))) (.cons (.raise0 "BadSpot") .nil) .nil) (.cons (.loop (.nm 3) (.seq (.var 1)) (.cons (.iff (.bop false (.cons (.not (.tru (.isi .tuple (.var 3)))) (.cons (.not (.tru (.call F_is_spot (.cons (.var 0) (.cons (.var 3) .nil))))) .nil))) (.cons (.raise0 "BadSpot") .nil) .nil) .nil)) (.cons (.iff (.bop false (.cons (.not (.tru (.isi2 .list .tuple (.var 2)))) (.cons (.cmp .ne (.bi .len (.cons (.var 2) .nil)) (.bi .len (.cons (.var 1) .nil))) .nil))) (.cons (.raise0 "BadNumber") .nil) .nil) (.cons (.loop (.nm 4) (.seq (.var 2)) (.cons (.iff (.bop false (.cons (.not (.tru (.isi .int (.var 4)))) (.cons (.tru (.isi .bool (.var 4))) (.cons (.cmp .lt (.var 4) (.con (.int 1))) .nil)))) (.cons (.raise0 "BadNumber") .nil) .nil) .nil)) (.cons (.iff (.cmp .gt (.bi .len (.cons (.var 1) .nil)) (.glo "SPOT_LIMIT" (.int 20))) (.cons (.raiseI X_TooLarge (.cons (.glo "SPOT_LIMIT" (.int 20)) .nil)) .nil) .nil) .nil)))))
theorem r_check_company {a0 a1 a2 : D} : rho0 N_check_company [a0, a1, a2] = [.val a0, .val a1, .val a2, .un, .un] := rfl
def F_spots_dim : Fn := ⟨"spots_dim", sp_spots_dim, 1, 1, []⟩
def N_spots_dim : List Str := ["spots"]
def ir_spots_dim : Sms := (.cons (.iff (.bop false (.cons (.not (.tru (.isi2 .list .tuple (.var 0)))) (.cons (.cmp .eq (.bi .len (.cons (.var 0) .nil)) (.con (.int 0))) .nil))) (.cons (.raise0 "BadSpot") .nil) .nil) (.cons (.iff (.bop false (.cons (.not (.tru (.isi .tuple (.ix (.var 0) (.con (.int 0)))))) (.cons (.cmp .lt (.bi .len (.cons (.ix (.var 0) (.con (.int 0))) .nil)) (.con (.int 1))) (.cons (.cmp .gt (.bi .len (.cons (.ix (.var 0) (.con (.int 0))) .nil)) (.con (.int 3))) .nil)))) (.cons (.raise0 "BadSpot") .nil) .nil) (.cons (.ret (.bi .len (.cons (.ix (.var 0) (.con (.int 0))) .nil))) .nil)))
theorem r_spots_dim {a0 : D} : rho0 N_spots_dim [a0] = [.val a0] := rfl
def F_count_sums : Fn := ⟨"count_sums", sp_count_sums, 6, 2, []⟩
def N_count_sums : List Str := ["spots", "counts", "sums", "squares", "k", "parts", "spot", "count", "part"]
def ir_count_sums : Sms := (.cons (.set true 2 (.lst .nil)) (.cons (.set true 3 (.lst .nil)) (.cons (.loop (.nm 4) (.r1 (.bi .len (.cons (.ix (.var 0) (.con (.int 0))) .nil))) (.cons (.setC false 5 (.tp (.cons (.nm 6) (.cons (.nm 7) .nil))) [("spot", 6), ("count", 7)] (.zip (.var 0) (.var 1)) .nil (.call F_times (.cons (.tup (.cons (.var 7) (.cons (.con (.int 1)) .nil))) (.cons (.ix (.var 6) (.var 4)) .nil)))) (.cons (.app 2 (.call F_total (.cons (.var 5) .nil))) (.cons (.app 3 (.call F_total (.cons (.comp (.tp (.cons (.nm 8) (.cons (.nm 6) .nil))) [("part", 8), ("spot", 6)] (.zip (.var 5) (.var 0)) .nil (.call F_times (.cons (.var 8) (.cons (.ix (.var 6) (.var 4)) .nil)))) .nil))) .nil)))) (.frz 3 (.frz 2 (.cons (.ret (.tup (.cons (.bi .sum (.cons (.var 1) .nil)) (.cons (.var 2) (.cons (.call F_total (.cons (.var 3) .nil)) .nil))))) .nil))))))
theorem r_count_sums {a0 a1 : D} : rho0 N_count_sums [a0, a1] = [.val a0, .val a1, .un, .un, .un, .un, .un, .un, .un] := rfl
def F_total_from : Fn := ⟨"total_from", sp_total_from, 6, 3, []⟩
def N_total_from : List Str := ["book", "i", "added", "people", "sums", "squares", "pull", "entry", "part"]
def ir_total_from : Sms := (.cons (.tgt (.tp (.cons (.nm 3) (.cons (.nm 4) (.cons (.nm 5) .nil)))) (.var 2)) (.cons (.set false 6 (.call F_total (.cons (.comp (.tp (.cons (.nm 7) (.cons (.nm 8) .nil))) [("entry", 7), ("part", 8)] (.zip (.meth "Book" F_Book_row (.var 0) (.cons (.var 1) .nil)) (.var 4)) .nil (.call F_times (.cons (.tup (.cons (.var 7) (.cons (.con (.int 1)) .nil))) (.cons (.var 8) .nil)))) .nil))) (.cons (.ret (.call F_plus (.cons (.call F_minus (.cons (.var 5) (.cons (.call F_times (.cons (.tup (.cons (.con (.int 2)) (.cons (.con (.int 1)) .nil))) (.cons (.var 6) .nil))) .nil))) (.cons (.tup (.cons (.bin .mul (.var 3) (.call F_level (.cons (.var 0) (.cons (.var 1) .nil)))) (.cons (.con (.int 1)) .nil))) .nil)))) .nil)))
theorem r_total_from {a0 a1 a2 : D} : rho0 N_total_from [a0, a1, a2] = [.val a0, .val a1, .val a2, .un, .un, .un, .un, .un, .un] := rfl
end Ny
end
section
set_option Elab.async false
set_option linter.all false
set_option maxRecDepth 100000
namespace Ny
open PySem Pd Rt
local macro_rules | `(tactic| walk_at "wp") => `(tactic| simp only [wSs, wS, wE, wEs, wT, wBp, wTb, wQ, wO, wI, Co.d, List.length_cons, List.length_nil, List.append_nil, List.map_cons, List.map_nil, List.cons_append, List.nil_append, if_true, if_false, Bool.false_eq_true, reduceIte, reduceCtorEq, Bool.not_true, Bool.not_false, true_and, and_true,
  Pd.getV_0, Pd.getV_s, Pd.getL_0, Pd.getL_s, Pd.set_0, Pd.set_s, Pd.asB_b, Pd.asI_i, Pd.asQ_l, Pd.asQ_t, Pd.asLs_l, Pd.add_ii, Pd.add_ss, Pd.add_ll, Pd.add_tt, Pd.sub_ii, Pd.mul_ii, Pd.mul_li, Pd.fdiv_ii, Pd.mod_ii, Pd.pow_ii, Pd.lt_ii, Pd.le_ii, Pd.gt_ii, Pd.ge_ii, Pd.eq_ii, Pd.ne_ii, Pd.isn_n, Pd.isnn_n,
  Pd.truth_b, Pd.truth_i, Pd.truth_l, Pd.truth_t, Pd.len_l, Pd.len_t, Pd.len_s, Pd.abs_i, Pd.min2_ii, Pd.max2_ii, Pd.int_i, Pd.int_b, Pd.tuple_l, Pd.tuple_t, Pd.list_l, Pd.list_t, Pd.all_l, Pd.sum_l, Pd.sum_t, Pd.ix_l0, Pd.ix_t0, Pd.ix_l1, Pd.ix_t1, Pd.ix_t2,
  Pd.tg_nm, Pd.tg_tp, Pd.tgs_nil, Pd.tgs_cons, Pd.setQ_f, Pd.setQ_t, Pd.wipe_n, Pd.wipe_c])
theorem w_check_number_76 (ds P R) (hl : ds.length = 2) (h : sp_check_number_76 ds P R) : wSs ir_check_number_76 R (rho0 N_check_number_76 ds) (E0 P) := by
  obtain ⟨dim, ps, d, rfl, hp, h⟩ := h
  rw [r_check_number_76, ir_check_number_76]
  unfold bookD
  walk_at "wp"
  refine ⟨pl_ty hp, ?_⟩
  have fl : ∀ {P : D → Prop}, P (.int ps.length) → asO "Book" (.obj "Book" bookKs (bookVs dim ps)) fun ks vs => ∃ x, oget "many" ks vs = some x ∧ P x := fun {P} q => ⟨rfl, _, rfl, q⟩
  cases d with
  | int i =>
    rw [show isTy .int (.int i) = true from rfl]
    walk_at "wp"
    refine ⟨⟨_, rfl⟩, ?_⟩
    rw [show isTy .bool (.int i) = false from rfl]
    walk_at "wp"
    have e : isNum ps.length (.int i) = (decide (0 ≤ i) && decide (i < ps.length)) := rfl
    rw [e] at h
    by_cases h1 : i < 0
    · rw [decide_eq_true h1]
      rw [decide_eq_false (by omega), Bool.false_and] at h
      walk_at "wp"
      exact h
    · rw [decide_eq_false h1]
      rw [decide_eq_true (by omega), Bool.true_and] at h
      walk_at "wp"
      refine fl ?_
      rw [ge_ii]
      by_cases h2 : i < ps.length
      · rw [decide_eq_true h2] at h
        rw [decide_eq_false (by omega)]
        walk_at "wp"
        exact h
      · rw [decide_eq_false h2] at h
        rw [decide_eq_true (by omega)]
        walk_at "wp"
        exact h
  | bl b =>
    rw [show isTy .int (.bl b) = true from rfl]
    walk_at "wp"
    refine ⟨⟨_, rfl⟩, ?_⟩
    rw [show isTy .bool (.bl b) = true from rfl]
    walk_at "wp"
    exact h
  | _ => simp only [isTy, tyD]; walk_at "wp"; exact h
theorem no_isW {d : D} {P : D → Bool → Prop} : True := trivial
theorem w_check_company (ds P R) (hl : ds.length = 3) (h : sp_check_company ds P R) : wSs ir_check_company R (rho0 N_check_company ds) (E0 P) := by
  obtain ⟨n, d, c, rfl, hn, pd, pc, h⟩ := h
  rw [r_check_company, ir_check_company]
  simp only [F_is_spot]
  walk_at "wp"
  refine ⟨pl_ty pd, ?_⟩
  have two : ∀ x : D, (isTy .list x || isTy .tuple x) = isSeq x := fun x => by cases x <;> rfl
  have none_seq : ∀ x : D, seqD x = none → isSeq x = false := fun x e => by cases x <;> first | rfl | cases e
  rw [two]
  unfold compRef at h
  cases es : seqD d with
  | none =>
    rw [es] at h
    rw [none_seq d es]
    walk_at "wp"
    exact h
  | some l =>
    rw [es] at h
    dsimp only at h
    rw [(seq_of es).2]
    walk_at "wp"
    refine len_q es ?_
    walk_at "wp"
    by_cases z : l = []
    · rw [z] at h ⊢
      rw [show (((([] : List D).length : Nat) : Int) == 0) = true from rfl]
      walk_at "wp"
      exact h
    · have ie : l.isEmpty = false := by cases l <;> first | exact absurd rfl z | rfl
      have n0 : (((l.length : Nat) : Int) == 0) = false := by
        cases l with
        | nil => exact absurd rfl z
        | cons a b => simp; omega
      rw [ie, if_neg Bool.false_ne_true] at h
      rw [n0]
      walk_at "wp"
      refine asQ_q es ?_
      refine for_I (fun its ρ => ∃ x, ρ = [.val (.int n), .val d, .val c, x, .un] ∧ plL its = true ∧ ((l.all (areRats n) = true ∧ its.all (areRats n) = true) ∨ (R BadSpot ∧ its.all (areRats n) = false))) ⟨.un, rfl, pl_seq es pd, ?_⟩ ?_ ?_
      · cases e : l.all (areRats n) with
        | true => exact .inl ⟨rfl, rfl⟩
        | false => rw [e, if_pos rfl] at h; exact .inr ⟨h, rfl⟩
      · rintro x r ρ K ⟨y, rfl, hp, hc⟩ hK
        rw [plL, Bool.and_eq_true] at hp
        rw [List.all_cons] at hc
        walk_at "wp"
        refine ⟨pl_ty hp.1, ?_⟩
        have go : (areRats n x = true → K [.val (.int n), .val d, .val c, .val x, .un]) ∧ (areRats n x = false → R BadSpot) := by
          refine ⟨fun e => ?_, fun e => ?_⟩
          · rw [e, Bool.true_and] at hc
            exact hK _ ⟨_, rfl, hp.2, hc⟩
          · rw [e, Bool.false_and] at hc
            rcases hc with ⟨_, q⟩ | ⟨q, _⟩
            · cases q
            · exact q
        cases x with
        | tup t =>
          rw [show isTy .tuple (.tup t) = true from rfl]
          walk_at "wp"
          refine ⟨hn, hp.1, ?_⟩
          cases e : areRats n (.tup t) with
          | true => walk_at "wp"; exact go.1 e
          | false => walk_at "wp"; exact go.2 e
        | _ => simp only [isTy, tyD]; walk_at "wp"; exact go.2 rfl
      · rintro ρ ⟨y, rfl, _, hc⟩
        rcases hc with ⟨hok, _⟩ | ⟨_, q⟩
        · rw [hok, if_neg (by decide)] at h
          walk_at "wp"
          refine ⟨pl_ty pc, ?_⟩
          rw [two]
          cases ec : seqD c with
          | none =>
            rw [ec] at h
            rw [none_seq c ec]
            walk_at "wp"
            exact h
          | some m =>
            rw [ec] at h
            dsimp only at h
            rw [(seq_of ec).2]
            walk_at "wp"
            refine len_q ec (len_q es ?_)
            walk_at "wp"
            cases em : (m.length == l.length) with
            | false =>
              rw [em, if_pos rfl] at h
              have : (((m.length : Nat) : Int) == ((l.length : Nat) : Int)) = false := by
                simp at em ⊢
                omega
              rw [this]
              walk_at "wp"
              exact h
            | true =>
              rw [em, if_neg (by decide)] at h
              have : (((m.length : Nat) : Int) == ((l.length : Nat) : Int)) = true := by
                simp at em ⊢
                omega
              rw [this]
              walk_at "wp"
              refine asQ_q ec ?_
              refine for_I (fun its ρ => ∃ x, ρ = [.val (.int n), .val d, .val c, y, x] ∧ plL its = true ∧ ((m.all okCount = true ∧ its.all okCount = true) ∨ (R BadNumber ∧ its.all okCount = false))) ⟨.un, rfl, pl_seq ec pc, ?_⟩ ?_ ?_
              · cases e : m.all okCount with
                | true => exact .inl ⟨rfl, rfl⟩
                | false => rw [e, if_pos rfl] at h; exact .inr ⟨h, rfl⟩
              · rintro x r ρ K ⟨y2, rfl, hp, hc⟩ hK
                rw [plL, Bool.and_eq_true] at hp
                rw [List.all_cons] at hc
                walk_at "wp"
                refine ⟨pl_ty hp.1, ?_⟩
                have go : (okCount x = true → K [.val (.int n), .val d, .val c, y, .val x]) ∧ (okCount x = false → R BadNumber) := by
                  refine ⟨fun e => ?_, fun e => ?_⟩
                  · rw [e, Bool.true_and] at hc
                    exact hK _ ⟨_, rfl, hp.2, hc⟩
                  · rw [e, Bool.false_and] at hc
                    rcases hc with ⟨_, q⟩ | ⟨q, _⟩
                    · cases q
                    · exact q
                cases x with
                | int i =>
                  rw [show isTy .int (.int i) = true from rfl]
                  walk_at "wp"
                  refine ⟨⟨_, rfl⟩, ?_⟩
                  rw [show isTy .bool (.int i) = false from rfl]
                  walk_at "wp"
                  by_cases h1 : i < 1
                  · rw [decide_eq_true h1]
                    walk_at "wp"
                    exact go.2 (decide_eq_false (by omega))
                  · rw [decide_eq_false h1]
                    walk_at "wp"
                    exact go.1 (decide_eq_true (by omega))
                | bl b =>
                  rw [show isTy .int (.bl b) = true from rfl]
                  walk_at "wp"
                  refine ⟨⟨_, rfl⟩, ?_⟩
                  rw [show isTy .bool (.bl b) = true from rfl]
                  walk_at "wp"
                  exact go.2 rfl
                | _ => simp only [isTy, tyD]; walk_at "wp"; exact go.2 rfl
              · rintro ρ ⟨y2, rfl, _, hc⟩
                rcases hc with ⟨hok2, _⟩ | ⟨_, q⟩
                · rw [hok2, if_neg (by decide)] at h
                  walk_at "wp"
                  refine len_q es ?_
                  rw [gt_ii]
                  by_cases h20 : 20 < l.length
                  · rw [if_pos h20] at h
                    rw [decide_eq_true (by omega)]
                    walk_at "wp"
                    exact ⟨[20], rfl, rfl, by decide, h⟩
                  · rw [if_neg h20] at h
                    rw [decide_eq_false (by omega)]
                    walk_at "wp"
                    exact h
                · cases q
        · cases q
theorem w_spots_dim (ds P R) (hl : ds.length = 1) (h : sp_spots_dim ds P R) : wSs ir_spots_dim R (rho0 N_spots_dim ds) (E0 P) := by
  obtain ⟨d, rfl, pd, h⟩ := h
  rw [r_spots_dim, ir_spots_dim]
  walk_at "wp"
  refine ⟨pl_ty pd, ?_⟩
  have two : ∀ x : D, (isTy .list x || isTy .tuple x) = isSeq x := fun x => by cases x <;> rfl
  rw [two]
  unfold dimRef at h
  cases es : seqD d with
  | none =>
    rw [es] at h
    have : isSeq d = false := by cases d <;> first | rfl | cases es
    rw [this]
    walk_at "wp"
    exact h
  | some l =>
    rw [es] at h
    dsimp only at h
    rw [(seq_of es).2]
    walk_at "wp"
    refine len_q es ?_
    walk_at "wp"
    cases l with
    | nil => exact h
    | cons x r =>
      have n0 : ((((x :: r).length : Nat) : Int) == 0) = false := by simp; omega
      rw [n0]
      have i0 : (x :: r)[0]? = some x := rfl
      have px : pl x = true := plL_mem (pl_seq es pd) x (by simp)
      walk_at "wp"
      refine ix_q0 es i0 ⟨pl_ty px, ?_⟩
      cases x with
      | tup t =>
        rw [show isTy .tuple (.tup t) = true from rfl]
        dsimp only at h
        walk_at "wp"
        refine ix_q0 es i0 ?_
        rw [len_t]
        walk_at "wp"
        by_cases h1 : t.length < 1
        · rw [if_pos (.inl h1)] at h
          rw [decide_eq_true (by omega)]
          walk_at "wp"
          exact h
        · rw [decide_eq_false (by omega)]
          walk_at "wp"
          refine ix_q0 es i0 ?_
          rw [len_t]
          walk_at "wp"
          by_cases h3 : 3 < t.length
          · rw [if_pos (.inr h3)] at h
            rw [decide_eq_true (by omega)]
            walk_at "wp"
            exact h
          · rw [if_neg (by omega)] at h
            rw [decide_eq_false (by omega)]
            walk_at "wp"
            refine ix_q0 es i0 ?_
            rw [len_t]
            obtain ⟨x, l, e, h⟩ := h
            cases e
            exact h
      | _ => simp only [isTy, tyD]; walk_at "wp"; exact h
end Ny
end
section
set_option Elab.async false
set_option linter.all false
set_option maxRecDepth 100000
namespace Ny
open PySem Pd Rt
local macro_rules | `(tactic| walk_at "wp") => `(tactic| simp only [wSs, wS, wE, wEs, wT, wBp, wTb, wQ, wO, wI, Co.d, List.length_cons, List.length_nil, List.append_nil, List.map_cons, List.map_nil, List.cons_append, List.nil_append, if_true, if_false, Bool.false_eq_true, reduceIte, reduceCtorEq, Bool.not_true, Bool.not_false, true_and, and_true,
  Pd.getV_0, Pd.getV_s, Pd.getL_0, Pd.getL_s, Pd.set_0, Pd.set_s, Pd.asB_b, Pd.asI_i, Pd.asQ_l, Pd.asQ_t, Pd.asLs_l, Pd.add_ii, Pd.add_ss, Pd.add_ll, Pd.add_tt, Pd.sub_ii, Pd.mul_ii, Pd.mul_li, Pd.fdiv_ii, Pd.mod_ii, Pd.pow_ii, Pd.lt_ii, Pd.le_ii, Pd.gt_ii, Pd.ge_ii, Pd.eq_ii, Pd.ne_ii, Pd.isn_n, Pd.isnn_n,
  Pd.truth_b, Pd.truth_i, Pd.truth_l, Pd.truth_t, Pd.len_l, Pd.len_t, Pd.len_s, Pd.abs_i, Pd.min2_ii, Pd.max2_ii, Pd.int_i, Pd.int_b, Pd.tuple_l, Pd.tuple_t, Pd.list_l, Pd.list_t, Pd.all_l, Pd.sum_l, Pd.sum_t, Pd.ix_l0, Pd.ix_t0, Pd.ix_l1, Pd.ix_t1, Pd.ix_t2,
  Pd.tg_nm, Pd.tg_tp, Pd.tgs_nil, Pd.tgs_cons, Pd.setQ_f, Pd.setQ_t, Pd.wipe_n, Pd.wipe_c])
theorem zip_self {α β γ : Type} {f : α × β → γ} : ∀ {S : List α} {cs : List β}, S.length = cs.length → ((S.zip cs).map f).zip S = (S.zip cs).map fun z => (f z, z.1)
  | [], [], _ => rfl
  | s :: S, c :: cs, h => by
    have := zip_self (f := f) (S := S) (cs := cs) (by simpa using h)
    show (f (s, c), s) :: ((S.zip cs).map f).zip S = _
    rw [this]; rfl
theorem zip_parts (L : List Rat) (S : List (List Rat)) : zipDD (L.map rat) (spotsL S) = (L.zip S).map fun z => D.tup [rat z.1, spotD z.2] := by
  unfold zipDD spotsL
  rw [List.zipWith_map, List.zip, List.map_zipWith]
theorem zip_parts2 {S : List (List Rat)} {cs : List Int} {f : List Rat × Int → Rat} (h : S.length = cs.length) : zipDD (((S.zip cs).map f).map rat) (spotsL S) = (S.zip cs).map fun z => D.tup [rat (f z), spotD z.1] := by
  rw [zip_parts, zip_self h, List.map_map]
  rfl
theorem zw_sq (S : List (List Rat)) (cs : List Int) (k : Nat) : List.zipWith (fun (s : List Rat) (c : Int) => (c : Rat) * s.getD k 0 * s.getD k 0) S cs = (S.zip cs).map fun z => (z.2 : Rat) * z.1.getD k 0 * z.1.getD k 0 := by rw [List.zip, List.map_zipWith]
section
variable {dim : Nat} {S : List (List Rat)} {cs : List Int}
theorem spot_at (h : Comp dim S cs) {k : Nat} (hk : k < dim) {s : List Rat} (hs : s ∈ S) : s[k]? = some (s.getD k 0) ∧ Q 84 700 (s.getD k 0) := by
  have g1 := h.spot s hs
  have hks : k < s.length := by rw [g1.1]; exact hk
  have e5 : s.getD k 0 = s[k] := by simp [List.getD, hks]
  rw [e5]
  exact ⟨List.getElem?_eq_getElem hks, g1.2 _ (List.getElem_mem hks)⟩
theorem big7056 : (84 * 84 : Nat) < 2 ^ 4000 := Nat.lt_of_lt_of_le (show 84 * 84 < 2 ^ 13 by decide) (Nat.pow_le_pow_right (by decide) (by decide))
theorem sq_in (h : Comp dim S cs) {k : Nat} (hk : k < dim) : ∀ q ∈ List.zipWith (fun (s : List Rat) (c : Int) => (c : Rat) * s.getD k 0 * s.getD k 0) S cs, Q (84 * 84) 1620 q := fun q hq => by
  rw [zw_sq] at hq
  obtain ⟨⟨s, c⟩, hz, rfl⟩ := List.mem_map.mp hq
  have h1 := spot_at h hk (List.of_mem_zip hz).1
  have h2 := h.cnt c (List.of_mem_zip hz).2
  exact (((Q.imul h2.2 h1.2).mono (by decide) : Q 84 920 _).mul h1.2).mono (by decide)
theorem sq_Q (h : Comp dim S cs) {k : Nat} (hk : k < dim) : Q (84 * 84) 1652 (sqR S cs k) := by
  have := sumR_Q (m := 84 * 84) (by decide) (l := List.zipWith (fun (s : List Rat) (c : Int) => (c : Rat) * s.getD k 0 * s.getD k 0) S cs) (a := 0) (b := 1620) Q.zero (sq_in h hk)
  refine this.mono ?_
  have h1 := h.most
  rw [List.length_zipWith]
  omega
theorem sqs_in (h : Comp dim S cs) : ∀ q ∈ (List.range dim).map (sqR S cs), Q (84 * 84) 1652 q := fun q hq => by
  obtain ⟨k, hk, rfl⟩ := List.mem_map.mp hq
  exact sq_Q h (List.mem_range.mp hk)
theorem sqs_Q (h : Comp dim S cs) : Q (84 * 84) 1655 (sqsR dim S cs) := by
  have := sumR_Q (m := 84 * 84) (by decide) (a := 0) (b := 1652) Q.zero (sqs_in h)
  refine this.mono ?_
  have h1 := h.dm
  rw [List.length_map, List.length_range]
  omega
end
theorem w_count_sums (ds P R) (hl : ds.length = 2) (h : sp_count_sums ds P R) : wSs ir_count_sums R (rho0 N_count_sums ds) (E0 P) := by
  obtain ⟨d, c, dim, S, cs, rfl, h1, h2, hc, h⟩ := h
  rw [r_count_sums, ir_count_sums]
  simp only [F_times, F_total]
  walk_at "wp"
  refine ⟨Nat.zero_le _, Nat.zero_le _, ?_⟩
  obtain ⟨s0, r0, eS⟩ : ∃ s0 r, S = s0 :: r := by
    have := hc.one
    cases S with
    | nil => exact absurd this (by decide)
    | cons a b => exact ⟨a, b, rfl⟩
  have l0 := (hc.spot s0 (by rw [eS]; simp)).1
  have dm := hc.dm
  have z3 : 3 ≤ sizeLine := by decide
  refine ix_q0 h1 (x := spotD s0) (by rw [eS]; rfl) ?_
  unfold spotD
  walk_at "wp"
  rw [List.length_map, l0, rg_eq]
  refine ⟨⟨by omega, Int.ofNat_le.mpr (Nat.le_trans dm.2 z3)⟩, ?_⟩
  refine for_I (fun its ρ => ∃ (k : Nat) (x y : Sl), k ≤ dim ∧ its = ((List.range dim).drop k).map (fun i => D.int (i : Nat)) ∧ ρ = [.val d, .val c, .ml (((List.range k).map (colR S cs)).map rat), .ml (((List.range k).map (sqR S cs)).map rat), x, y, .un, .un, .un]) ⟨0, .un, .un, Nat.zero_le _, rfl, rfl⟩ ?_ ?_
  · rintro x its ρ K ⟨k, x1, y1, hk, e, rfl⟩ hK
    have hk2 : k < dim := by
      rcases Nat.lt_or_ge k dim with q | q
      · exact q
      · rw [List.drop_eq_nil_of_le (by rw [List.length_range]; exact q)] at e
        cases e
    rw [List.drop_eq_getElem_cons (by rw [List.length_range]; exact hk2), List.map_cons, List.getElem_range] at e
    obtain ⟨e1, e2⟩ := List.cons.inj e
    subst e1
    walk_at "wp"
    refine asQ_q h1 (asQ_q h2 ?_)
    rw [zip_spots]
    refine loop_map (f := fun z : List Rat × Int => rat ((z.2 : Rat) * z.1.getD k 0)) (fun z hz K hK => ?_) ?_
    · obtain ⟨s, cn⟩ := z
      have g1 := spot_at hc hk2 (List.of_mem_zip hz).1
      have g2 := hc.cnt cn (List.of_mem_zip hz).2
      unfold spotD
      walk_at "wp"
      refine ⟨by decide, ?_⟩
      rw [ix_tn]
      refine ⟨rat (s.getD k 0), by rw [List.getElem?_map, g1.1]; rfl, ?_⟩
      rw [int_rat]
      exact ⟨(cn : Rat), s.getD k 0, rfl, sm_int g2.2 (by decide) (by decide), g1.2.sm (by decide) big84 (by decide), hK⟩
    have e5 : [] ++ (S.zip cs).map (fun z : List Rat × Int => rat ((z.2 : Rat) * z.1.getD k 0)) = ((S.zip cs).map fun z => (z.2 : Rat) * z.1.getD k 0).map rat := by
      rw [List.nil_append, List.map_map]; rfl
    rw [e5]
    have hm := hc.most
    have k12 : k < sizeLine := Nat.lt_of_lt_of_le hk2 (Nat.le_trans dm.2 z3)
    refine ⟨by rw [List.length_map, List.length_map, List.length_range]; exact k12, _, _, rfl, rfl, ?_, ?_⟩
    · rw [← zw_col]
      refine acc_of (m := 84) (b := 920) (by decide) big84 Q.zero (col_in hc hk2) ?_
      rw [List.length_zipWith]
      omega
    walk_at "wp"
    refine ⟨by rw [List.length_map, List.length_map, List.length_range]; exact k12, asQ_q h1 ?_⟩
    rw [zip_parts2 hc.len]
    refine loop_map (f := fun z : List Rat × Int => rat ((z.2 : Rat) * z.1.getD k 0 * z.1.getD k 0)) (fun z hz K hK => ?_) ?_
    · obtain ⟨s, cn⟩ := z
      have g1 := spot_at hc hk2 (List.of_mem_zip hz).1
      have g2 := hc.cnt cn (List.of_mem_zip hz).2
      unfold spotD
      walk_at "wp"
      rw [ix_tn]
      refine ⟨rat (s.getD k 0), by rw [List.getElem?_map, g1.1]; rfl, ?_⟩
      refine ⟨(cn : Rat) * s.getD k 0, s.getD k 0, rfl, ((Q.imul g2.2 g1.2).mono (by decide) : Q 84 920 _).sm (by decide) big84 (by decide), g1.2.sm (by decide) big84 (by decide), hK⟩
    have e6 : [] ++ (S.zip cs).map (fun z : List Rat × Int => rat ((z.2 : Rat) * z.1.getD k 0 * z.1.getD k 0)) = ((S.zip cs).map fun z => (z.2 : Rat) * z.1.getD k 0 * z.1.getD k 0).map rat := by
      rw [List.nil_append, List.map_map]; rfl
    rw [e6]
    refine ⟨_, _, rfl, rfl, ?_, ?_⟩
    · rw [← zw_sq]
      refine acc_of (m := 84 * 84) (b := 1620) (by decide) big7056 Q.zero (sq_in hc hk2) ?_
      rw [List.length_zipWith]
      omega
    refine hK _ ⟨k + 1, .val (.int k), .val (.lst (((S.zip cs).map fun z => (z.2 : Rat) * z.1.getD k 0).map rat)), hk2, e2, ?_⟩
    rw [List.range_succ, List.map_append, List.map_append, List.map_append, List.map_append]
    have e7 : colR S cs k = sumR 0 ((S.zip cs).map fun z => (z.2 : Rat) * z.1.getD k 0) := by unfold colR; rw [zw_col]
    have e8 : sqR S cs k = sumR 0 ((S.zip cs).map fun z => (z.2 : Rat) * z.1.getD k 0 * z.1.getD k 0) := by unfold sqR; rw [zw_sq]
    rw [← e7, ← e8]
    rfl
  · rintro ρ ⟨k, x1, y1, hk, e, rfl⟩
    have hk2 : k = dim := by
      rcases Nat.lt_or_ge k dim with q | q
      · rw [List.drop_eq_getElem_cons (by rw [List.length_range]; exact q)] at e
        cases e
      · omega
    subst hk2
    walk_at "wp"
    refine sum_q h2 ?_
    refine ⟨_, _, rfl, rfl, ?_, by decide, h⟩
    refine acc_of (m := 84 * 84) (b := 1652) (by decide) big7056 Q.zero (sqs_in hc) ?_
    rw [List.length_map, List.length_range]
    omega
end Ny
end
section
set_option Elab.async false
set_option linter.all false
set_option maxRecDepth 100000
namespace Ny
open PySem Pd Rt
local macro_rules | `(tactic| walk_at "wp") => `(tactic| simp only [wSs, wS, wE, wEs, wT, wBp, wTb, wQ, wO, wI, Co.d, List.length_cons, List.length_nil, List.append_nil, List.map_cons, List.map_nil, List.cons_append, List.nil_append, if_true, if_false, Bool.false_eq_true, reduceIte, reduceCtorEq, Bool.not_true, Bool.not_false, true_and, and_true,
  Pd.getV_0, Pd.getV_s, Pd.getL_0, Pd.getL_s, Pd.set_0, Pd.set_s, Pd.asB_b, Pd.asI_i, Pd.asQ_l, Pd.asQ_t, Pd.asLs_l, Pd.add_ii, Pd.add_ss, Pd.add_ll, Pd.add_tt, Pd.sub_ii, Pd.mul_ii, Pd.mul_li, Pd.fdiv_ii, Pd.mod_ii, Pd.pow_ii, Pd.lt_ii, Pd.le_ii, Pd.gt_ii, Pd.ge_ii, Pd.eq_ii, Pd.ne_ii, Pd.isn_n, Pd.isnn_n,
  Pd.truth_b, Pd.truth_i, Pd.truth_l, Pd.truth_t, Pd.len_l, Pd.len_t, Pd.len_s, Pd.abs_i, Pd.min2_ii, Pd.max2_ii, Pd.int_i, Pd.int_b, Pd.tuple_l, Pd.tuple_t, Pd.list_l, Pd.list_t, Pd.all_l, Pd.sum_l, Pd.sum_t, Pd.ix_l0, Pd.ix_t0, Pd.ix_l1, Pd.ix_t1, Pd.ix_t2,
  Pd.tg_nm, Pd.tg_tp, Pd.tgs_nil, Pd.tgs_cons, Pd.setQ_f, Pd.setQ_t, Pd.wipe_n, Pd.wipe_c])
theorem zip_int_rat (r : List Int) (l : List Rat) : zipDD (r.map D.int) (l.map rat) = (r.zip l).map fun z => D.tup [.int z.1, rat z.2] := by
  unfold zipDD
  rw [List.zipWith_map, List.zip, List.map_zipWith]
theorem zw_ir (r : List Int) (l : List Rat) : List.zipWith (fun (e : Int) (x : Rat) => (e : Rat) * x) r l = (r.zip l).map fun z => (z.1 : Rat) * z.2 := by rw [List.zip, List.map_zipWith]
theorem w_total_from (ds P R) (hl : ds.length = 3) (h : sp_total_from ds P R) : wSs ir_total_from R (rho0 N_total_from ds) (E0 P) := by
  obtain ⟨dim, ps, n, p, S, cs, rfl, gp, hn, hc, h⟩ := h
  rw [r_total_from, ir_total_from]
  simp only [F_times, F_total, F_plus, F_minus, F_level, F_Book_row]
  unfold addD bookD
  walk_at "wp"
  have gpp := gp.pts p (List.mem_of_getElem? hn)
  have dm := hc.dm
  have colsQ : ∀ x ∈ colsR dim S cs, Q 84 952 x := fun x hx => by
    obtain ⟨k, hk, rfl⟩ := List.mem_map.mp hx
    exact col_Q hc (List.mem_range.mp hk)
  have prQ : ∀ q ∈ List.zipWith (fun (e : Int) (x : Rat) => (e : Rat) * x) p.row (colsR dim S cs), Q 84 972 q := fun q hq => by
    rw [zw_ir] at hq
    obtain ⟨⟨e, x⟩, hz, rfl⟩ := List.mem_map.mp hq
    exact (Q.imul (ent_bd (gpp.ent e (List.of_mem_zip hz).1)) (colsQ x (List.of_mem_zip hz).2)).mono (by decide)
  have hlen : (List.zipWith (fun (e : Int) (x : Rat) => (e : Rat) * x) p.row (colsR dim S cs)).length ≤ 3 := by
    rw [List.length_zipWith]
    unfold colsR
    rw [List.length_map, List.length_range]
    omega
  refine ⟨rfl, by decide, dim, ps, n, p, rfl, hn, ?_⟩
  unfold rowD
  walk_at "wp"
  rw [zip_int_rat]
  refine loop_map (f := fun z : Int × Rat => rat ((z.1 : Rat) * z.2)) (fun z hz K hK => ?_) ?_
  · obtain ⟨e, x⟩ := z
    have b := ent_bd (gpp.ent e (List.of_mem_zip hz).1)
    have q := colsQ x (List.of_mem_zip hz).2
    walk_at "wp"
    refine ⟨by decide, ?_⟩
    rw [int_rat]
    exact ⟨(e : Rat), x, rfl, sm_int b (by decide) (by decide), q.sm (by decide) big84 (by decide), hK⟩
  have e5 : [] ++ (p.row.zip (colsR dim S cs)).map (fun z : Int × Rat => rat ((z.1 : Rat) * z.2)) = (List.zipWith (fun (e : Int) (x : Rat) => (e : Rat) * x) p.row (colsR dim S cs)).map rat := by
    rw [List.nil_append, zw_ir, List.map_map]; rfl
  rw [e5]
  refine ⟨_, _, rfl, rfl, acc_of (m := 84) (b := 972) (by decide) big84 Q.zero prQ (by omega), ?_⟩
  walk_at "wp"
  refine ⟨by decide, ?_⟩
  rw [int_rat]
  have pullQ := (sumR_Q (m := 84) (by decide) (a := 0) (b := 972) Q.zero prQ).mono (show _ ≤ 975 by omega)
  refine ⟨((2 : Int) : Rat), _, rfl, sm_int (b := 2) (bd_of (by decide)) (by decide) (by decide), pullQ.sm (by decide) big84 (by decide), ?_⟩
  walk_at "wp"
  have two : Q 84 977 (((2 : Int) : Rat) * sumR 0 (List.zipWith (fun (e : Int) (x : Rat) => (e : Rat) * x) p.row (colsR dim S cs))) := (Q.imul (c := 2) (bd_of (by decide)) pullQ).mono (by decide)
  have two2 : Q (84 * 84) 1655 (((2 : Int) : Rat) * sumR 0 (List.zipWith (fun (e : Int) (x : Rat) => (e : Rat) * x) p.row (colsR dim S cs))) := (two.lift (n := 84) (c := 7) (by decide) (by decide)).mono (by decide)
  have sq := sqs_Q hc
  refine ⟨_, _, rfl, sq.sm (by decide) big7056 (by decide), two2.sm (by decide) big7056 (by decide), ?_⟩
  walk_at "wp"
  refine ⟨dim, ps, n, p, rfl, gp, hn, ?_⟩
  walk_at "wp"
  have sb : Bd 226 cs.sum := by
    have h1 := hc.sum_bd
    have h2 := hc.sum_pos
    unfold Bd
    omega
  have lb := lev_bd gpp gp.dm.2
  refine ⟨sb.mulOk lb, by decide, ?_⟩
  rw [int_rat]
  refine ⟨_, _, rfl, (sq.sub (by decide) two2).sm (by decide) big7056 (by decide), sm_int (sb.mul lb) (by decide) (by decide), ?_⟩
  exact h
end Ny
end
section
set_option Elab.async false
set_option linter.all false
set_option maxRecDepth 100000
/-! ## company: the calls -/
namespace Ny
open PySem Pd Rt
/-- a good company, as lists or tuples -/
structure CompD (dim : Nat) (S : List (List Rat)) (cs : List Int) (d c : D) : Prop where
  sp : seqD d = some (spotsL S)
  ct : seqD c = some (cs.map D.int)
  ok : Comp dim S cs
  few : S.length ≤ 20
def spreadR (dim : Nat) (S : List (List Rat)) (cs : List Int) : Rat := sqsR dim S cs - sumR 0 ((colsR dim S cs).map fun x => x * x) / ((cs.sum : Int) : Rat)
def demL (ps : List Pt) : List (List Rat) → List Int → List Int → List Int
  | s :: S, c :: cs, acc => demL ps S cs (acc.set ((cheap ps s).headD 0) (acc.getD ((cheap ps s).headD 0) 0 + c))
  | _, _, acc => acc
def sp_total_price : Pd.Spec := fun ds P R => ∃ (dim : Nat) (ps : List Pt) (i d c : D), ds = [bookD dim ps, i, d, c] ∧ GoodPts dim ps ∧ pl i = true ∧ pl d = true ∧ pl c = true ∧
  (if isNum ps.length i = true then (match compRef dim d c with
    | some e => R e
    | none => ∃ n p S cs, i = .int (n : Nat) ∧ ps[n]? = some p ∧ CompD dim S cs d c ∧ P (rat (totR dim S cs p)) false) else R BadNumber)
def sp_totals : Pd.Spec := fun ds P R => ∃ (dim : Nat) (ps : List Pt) (d c : D), ds = [bookD dim ps, d, c] ∧ GoodPts dim ps ∧ pl d = true ∧ pl c = true ∧
  (match compRef dim d c with
    | some e => R e
    | none => ∃ S cs, CompD dim S cs d c ∧ P (.tup ((ps.map (totR dim S cs)).map rat)) false)
def sp_spread : Pd.Spec := fun ds P R => ∃ (d c : D), ds = [d, c] ∧ pl d = true ∧ pl c = true ∧
  (match dimRef d with
    | some e => R e
    | none => ∃ n : Int, (∃ x l, seqD d = some (.tup x :: l) ∧ n = x.length) ∧ (match compRef n d c with
      | some e => R e
      | none => ∃ dim S cs, n = (dim : Nat) ∧ CompD dim S cs d c ∧ P (rat (spreadR dim S cs)) false))
def sp_least_total : Pd.Spec := fun ds P R => ∃ (dim : Nat) (ps : List Pt) (d c : D), ds = [bookD dim ps, d, c] ∧ GoodPts dim ps ∧ pl d = true ∧ pl c = true ∧
  (match compRef dim d c with
    | some e => R e
    | none => ∃ S cs, CompD dim S cs d c ∧ P (.tup (natsD (cheap ps (meanR dim S cs)))) false)
def sp_demand : Pd.Spec := fun ds P R => ∃ (dim : Nat) (ps : List Pt) (d c : D), ds = [bookD dim ps, d, c] ∧ GoodPts dim ps ∧ pl d = true ∧ pl c = true ∧
  (match compRef dim d c with
    | some e => R e
    | none => ∃ S cs, CompD dim S cs d c ∧ P (.tup ((demL ps S cs (List.replicate ps.length 0)).map D.int)) false)
end Ny
end
section
set_option Elab.async false
set_option linter.all false
namespace Ny
open PySem Pd Rt
def N_total_price : List Str := ["book", "i", "spots", "counts"]
def ir_total_price : Sms := (.cons (.exp (.call F_check_number_76 (.cons (.var 0) (.cons (.var 1) .nil)))) (.cons (.exp (.call F_check_company (.cons (.fld "Book" "dim" (.var 0)) (.cons (.var 2) (.cons (.var 3) .nil))))) (.cons (.ret (.call F_total_from (.cons (.var 0) (.cons (.var 1) (.cons (.call F_count_sums (.cons (.var 2) (.cons (.var 3) .nil))) .nil))))) .nil)))
theorem r_total_price {a0 a1 a2 a3 : D} : rho0 N_total_price [a0, a1, a2, a3] = [.val a0, .val a1, .val a2, .val a3] := rfl
def N_totals : List Str := ["book", "spots", "counts", "added", "i"]
def ir_totals : Sms := (.cons (.exp (.call F_check_company (.cons (.fld "Book" "dim" (.var 0)) (.cons (.var 1) (.cons (.var 2) .nil))))) (.cons (.set false 3 (.call F_count_sums (.cons (.var 1) (.cons (.var 2) .nil)))) (.cons (.ret (.bi .tuple (.cons (.comp (.nm 4) [("i", 4)] (.r1 (.fld "Book" "many" (.var 0))) .nil (.call F_total_from (.cons (.var 0) (.cons (.var 4) (.cons (.var 3) .nil))))) .nil))) .nil)))
theorem r_totals {a0 a1 a2 : D} : rho0 N_totals [a0, a1, a2] = [.val a0, .val a1, .val a2, .un, .un] := rfl
def N_spread : List Str := ["spots", "counts", "people", "sums", "squares", "part"]
def ir_spread : Sms := (.cons (.exp (.call F_check_company (.cons (.call F_spots_dim (.cons (.var 0) .nil)) (.cons (.var 0) (.cons (.var 1) .nil))))) (.cons (.tgt (.tp (.cons (.nm 2) (.cons (.nm 3) (.cons (.nm 4) .nil)))) (.call F_count_sums (.cons (.var 0) (.cons (.var 1) .nil)))) (.cons (.ret (.call F_minus (.cons (.var 4) (.cons (.call F_over (.cons (.call F_total (.cons (.comp (.nm 5) [("part", 5)] (.seq (.var 3)) .nil (.call F_times (.cons (.var 5) (.cons (.var 5) .nil)))) .nil)) (.cons (.tup (.cons (.var 2) (.cons (.con (.int 1)) .nil))) .nil))) .nil)))) .nil)))
theorem r_spread {a0 a1 : D} : rho0 N_spread [a0, a1] = [.val a0, .val a1, .un, .un, .un, .un] := rfl
def N_least_total : List Str := ["book", "spots", "counts"]
def ir_least_total : Sms := (.cons (.exp (.call F_check_company (.cons (.fld "Book" "dim" (.var 0)) (.cons (.var 1) (.cons (.var 2) .nil))))) (.cons (.ret (.call F_cheapest (.cons (.var 0) (.cons (.call F_mean_spot (.cons (.var 1) (.cons (.var 2) .nil))) .nil)))) .nil))
theorem r_least_total {a0 a1 a2 : D} : rho0 N_least_total [a0, a1, a2] = [.val a0, .val a1, .val a2] := rfl
def N_demand : List Str := ["book", "spots", "counts", "people", "spot", "count"]
def ir_demand : Sms := (.cons (.exp (.call F_check_company (.cons (.fld "Book" "dim" (.var 0)) (.cons (.var 1) (.cons (.var 2) .nil))))) (.cons (.set true 3 (.bin .mul (.lst (.cons (.con (.int 0)) .nil)) (.fld "Book" "many" (.var 0)))) (.cons (.loop (.tp (.cons (.nm 4) (.cons (.nm 5) .nil))) (.zip (.var 1) (.var 2)) (.cons (.augix 3 (.ix (.call F_cheapest (.cons (.var 0) (.cons (.var 4) .nil))) (.con (.int 0))) (.var 5)) .nil)) (.frz 3 (.cons (.ret (.bi .tuple (.cons (.var 3) .nil))) .nil)))))
theorem r_demand {a0 a1 a2 : D} : rho0 N_demand [a0, a1, a2] = [.val a0, .val a1, .val a2, .un, .un, .un] := rfl
end Ny
end
section
set_option Elab.async false
set_option linter.all false
set_option maxRecDepth 100000
namespace Ny
open PySem Pd Rt
local macro_rules | `(tactic| walk_at "wp") => `(tactic| simp only [wSs, wS, wE, wEs, wT, wBp, wTb, wQ, wO, wI, Co.d, List.length_cons, List.length_nil, List.append_nil, List.map_cons, List.map_nil, List.cons_append, List.nil_append, if_true, if_false, Bool.false_eq_true, reduceIte, reduceCtorEq, Bool.not_true, Bool.not_false, true_and, and_true,
  Pd.getV_0, Pd.getV_s, Pd.getL_0, Pd.getL_s, Pd.set_0, Pd.set_s, Pd.asB_b, Pd.asI_i, Pd.asQ_l, Pd.asQ_t, Pd.asLs_l, Pd.add_ii, Pd.add_ss, Pd.add_ll, Pd.add_tt, Pd.sub_ii, Pd.mul_ii, Pd.mul_li, Pd.fdiv_ii, Pd.mod_ii, Pd.pow_ii, Pd.lt_ii, Pd.le_ii, Pd.gt_ii, Pd.ge_ii, Pd.eq_ii, Pd.ne_ii, Pd.isn_n, Pd.isnn_n,
  Pd.truth_b, Pd.truth_i, Pd.truth_l, Pd.truth_t, Pd.len_l, Pd.len_t, Pd.len_s, Pd.abs_i, Pd.min2_ii, Pd.max2_ii, Pd.int_i, Pd.int_b, Pd.tuple_l, Pd.tuple_t, Pd.list_l, Pd.list_t, Pd.all_l, Pd.sum_l, Pd.sum_t, Pd.ix_l0, Pd.ix_t0, Pd.ix_l1, Pd.ix_t1, Pd.ix_t2,
  Pd.tg_nm, Pd.tg_tp, Pd.tgs_nil, Pd.tgs_cons, Pd.setQ_f, Pd.setQ_t, Pd.wipe_n, Pd.wipe_c])
theorem dim_ok {dim : Nat} (h : 1 ≤ dim ∧ dim ≤ 3) : isDim (.int dim) = true := by
  show (decide ((1 : Int) ≤ dim) && decide ((dim : Int) ≤ 3)) = true
  rw [decide_eq_true (by omega), decide_eq_true (by omega)]; rfl
theorem w_total_price (ds P R) (hl : ds.length = 4) (h : sp_total_price ds P R) : wSs ir_total_price R (rho0 N_total_price ds) (E0 P) := by
  obtain ⟨dim, ps, i, d, c, rfl, gp, pi, pd, pc, h⟩ := h
  rw [r_total_price, ir_total_price]
  simp only [F_check_number_76, F_check_company, F_count_sums, F_total_from]
  walk_at "wp"
  refine ⟨dim, ps, i, rfl, pi, ?_⟩
  cases ei : isNum ps.length i with
  | false => rw [ei] at h; exact h
  | true =>
    rw [ei, if_pos rfl] at h
    rw [if_pos rfl]
    refine ⟨rfl, .int dim, rfl, (dim : Int), d, c, rfl, dim_ok gp.dm, pd, pc, ?_⟩
    cases er : compRef dim d c with
    | some e => rw [er] at h; exact h
    | none =>
      rw [er] at h
      obtain ⟨n, p, S, cs, rfl, hn, hc, h⟩ := h
      exact ⟨d, c, dim, S, cs, rfl, hc.sp, hc.ct, hc.ok, dim, ps, n, p, S, cs, rfl, gp, hn, hc.ok, h⟩
theorem w_least_total (ds P R) (hl : ds.length = 3) (h : sp_least_total ds P R) : wSs ir_least_total R (rho0 N_least_total ds) (E0 P) := by
  obtain ⟨dim, ps, d, c, rfl, gp, pd, pc, h⟩ := h
  rw [r_least_total, ir_least_total]
  simp only [F_check_company, F_cheapest, F_mean_spot]
  walk_at "wp"
  refine ⟨rfl, .int dim, rfl, (dim : Int), d, c, rfl, dim_ok gp.dm, pd, pc, ?_⟩
  cases er : compRef dim d c with
  | some e => rw [er] at h; exact h
  | none =>
    rw [er] at h
    obtain ⟨S, cs, hc, h⟩ := h
    exact ⟨d, c, rfl, pd, pc, .inr (.inr ⟨dim, S, cs, hc.sp, hc.ct, hc.ok, dim, ps, _, rfl, gp, mean_ok hc.ok, h⟩)⟩
theorem w_totals (ds P R) (hl : ds.length = 3) (h : sp_totals ds P R) : wSs ir_totals R (rho0 N_totals ds) (E0 P) := by
  obtain ⟨dim, ps, d, c, rfl, gp, pd, pc, h⟩ := h
  rw [r_totals, ir_totals]
  simp only [F_check_company, F_count_sums, F_total_from]
  walk_at "wp"
  refine ⟨rfl, .int dim, rfl, (dim : Int), d, c, rfl, dim_ok gp.dm, pd, pc, ?_⟩
  cases er : compRef dim d c with
  | some e => rw [er] at h; exact h
  | none =>
    rw [er] at h
    obtain ⟨S, cs, hc, h⟩ := h
    refine ⟨d, c, dim, S, cs, rfl, hc.sp, hc.ct, hc.ok, ?_⟩
    walk_at "wp"
    refine ⟨rfl, .int ps.length, rfl, ?_⟩
    rw [asI_i, rg_eq]
    have h12 : 12 ≤ sizeLine := by decide
    have hlen : ps.length ≤ 12 := Nat.le_trans gp.most (lim_le gp.dm)
    refine ⟨⟨by omega, Int.ofNat_le.mpr (Nat.le_trans hlen h12)⟩, ?_⟩
    refine loop_map (f := fun i : Nat => match ps[i]? with | some p => rat (totR dim S cs p) | none => .non) (fun i hi K hK => ?_) ?_
    · have hi : i < ps.length := List.mem_range.mp hi
      have ei : ps[i]? = some ps[i] := List.getElem?_eq_getElem hi
      rw [ei] at hK
      exact ⟨dim, ps, i, ps[i], S, cs, rfl, gp, ei, hc.ok, hK⟩
    · have e : [] ++ (List.range ps.length).map (fun i : Nat => match ps[i]? with | some p => rat (totR dim S cs p) | none => .non) = (ps.map (totR dim S cs)).map rat := by
        rw [List.nil_append]
        apply List.ext_getElem?
        intro i
        rw [List.getElem?_map, List.getElem?_map, List.getElem?_map]
        by_cases hi : i < ps.length
        · rw [List.getElem?_range hi, List.getElem?_eq_getElem hi]
          simp [List.getElem?_eq_getElem hi]
        · rw [List.getElem?_eq_none (by rw [List.length_range]; omega), List.getElem?_eq_none (by omega)]
          rfl
      rw [e]
      exact h
theorem w_spread (ds P R) (hl : ds.length = 2) (h : sp_spread ds P R) : wSs ir_spread R (rho0 N_spread ds) (E0 P) := by
  obtain ⟨d, c, rfl, pd, pc, h⟩ := h
  rw [r_spread, ir_spread]
  simp only [F_check_company, F_spots_dim, F_count_sums, F_minus, F_over, F_total, F_times]
  walk_at "wp"
  refine ⟨d, rfl, pd, ?_⟩
  cases ed : dimRef d with
  | some e => rw [ed] at h; exact h
  | none =>
    rw [ed] at h
    obtain ⟨n, ⟨x, l, es, en⟩, h⟩ := h
    refine ⟨x, l, es, ?_⟩
    have hn : isDim (.int x.length) = true := by
      unfold dimRef at ed
      rw [es] at ed
      dsimp only at ed
      by_cases q : x.length < 1 ∨ 3 < x.length
      · rw [if_pos q] at ed; cases ed
      · show (decide ((1 : Int) ≤ x.length) && decide ((x.length : Int) ≤ 3)) = true
        rw [decide_eq_true (by omega), decide_eq_true (by omega)]; rfl
    refine ⟨(x.length : Int), d, c, rfl, hn, pd, pc, ?_⟩
    rw [← en]
    cases er : compRef n d c with
    | some e => rw [er] at h; exact h
    | none =>
      rw [er] at h
      obtain ⟨dim, S, cs, _, hc, h⟩ := h
      refine ⟨d, c, dim, S, cs, rfl, hc.sp, hc.ct, hc.ok, ?_⟩
      unfold addD
      walk_at "wp"
      have hok := hc.ok
      have dm := hok.dm
      have colsQ : ∀ x ∈ colsR dim S cs, Q 84 952 x := fun x hx => by
        obtain ⟨k, hk, rfl⟩ := List.mem_map.mp hx
        exact col_Q hok (List.mem_range.mp hk)
      have sqQ : ∀ q ∈ (colsR dim S cs).map (fun x => x * x), Q (84 * 84) 1904 q := fun q hq => by
        obtain ⟨x, hx, rfl⟩ := List.mem_map.mp hq
        exact (colsQ x hx).mul (colsQ x hx)
      have hlen : (colsR dim S cs).length = dim := by unfold colsR; rw [List.length_map, List.length_range]
      refine loop_map (f := fun x => rat (x * x)) (fun x hx K hK => ?_) ?_
      · have q := (colsQ x hx).sm (n := 4000) (by decide) big84 (by decide)
        exact ⟨x, x, rfl, q, q, hK⟩
      have e5 : [] ++ (colsR dim S cs).map (fun x => rat (x * x)) = ((colsR dim S cs).map fun x => x * x).map rat := by
        rw [List.nil_append, List.map_map]; rfl
      rw [e5]
      refine ⟨_, _, rfl, rfl, acc_of (m := 84 * 84) (b := 1904) (by decide) big7056 Q.zero sqQ (by rw [List.length_map, hlen]; omega), ?_⟩
      walk_at "wp"
      refine ⟨by decide, ?_⟩
      rw [int_rat]
      have sq := (sumR_Q (m := 84 * 84) (by decide) (a := 0) (b := 1904) Q.zero sqQ).mono (show _ ≤ 1907 by rw [List.length_map, hlen]; omega)
      have hp := hok.sum_pos
      have sb : Bd 226 cs.sum := by
        have h1 := hok.sum_bd
        unfold Bd
        omega
      have nz : ((cs.sum : Int) : Rat) ≠ 0 := by
        intro z
        have : cs.sum = 0 := by exact_mod_cast z
        omega
      refine ⟨_, _, rfl, sq.sm (by decide) big7056 (by decide), sm_int sb (by decide) (by decide), nz, ?_⟩
      have iv : ((cs.sum : Int) : Rat)⁻¹ = invN cs := by
        apply Rat.ext
        · rw [Rat.num_inv, Rat.num_intCast, Rat.den_intCast, Int.sign_eq_one_of_pos hp]
          have := (mkRat_nf (n := 1) (d := cs.sum.toNat) (by omega) (Nat.gcd_one_left _)).1
          unfold invN
          rw [this]; rfl
        · rw [Rat.den_inv, Rat.num_intCast, if_neg (by omega)]
          have := (mkRat_nf (n := 1) (d := cs.sum.toNat) (by omega) (Nat.gcd_one_left _)).2
          unfold invN
          rw [this]
          omega
      have qd : Q (84 * 84 * cs.sum.toNat) 1908 (sumR 0 ((colsR dim S cs).map fun x => x * x) / ((cs.sum : Int) : Rat)) := by
        rw [Rat.div_def, iv]
        exact sq.mul (inv_Q hp)
      have hb := hok.sum_bd
      have mm2 : 84 * 84 * cs.sum.toNat < 2 ^ 4000 := by
        have : 84 * 84 * cs.sum.toNat < 2 ^ 13 * 2 ^ 226 := Nat.mul_lt_mul'' (by decide) hb
        exact Nat.lt_of_lt_of_le this (by rw [← Nat.pow_add]; exact Nat.pow_le_pow_right (by decide) (by decide))
      exact ⟨_, _, rfl, (sqs_Q hok).sm (by decide) big7056 (by decide), qd.sm (by omega) mm2 (by decide), h⟩
theorem cheap_ne {dim : Nat} {ps : List Pt} (gp : GoodPts dim ps) (s : List Rat) : ∃ k r, cheap ps s = k :: r ∧ k < ps.length := by
  have key : ∀ l : List Pt, 0 < l.length → ∃ p ∈ l, ∀ q ∈ l, prc p s ≤ prc q s := by
    intro l
    induction l with
    | nil => intro h; exact absurd h (by decide)
    | cons a r ih =>
      intro _
      cases r with
      | nil => exact ⟨a, by simp, fun q hq => by rw [List.mem_singleton.mp hq]; exact Rat.le_refl⟩
      | cons b r =>
        obtain ⟨p, hp, hm⟩ := ih (by simp)
        rcases Rat.le_total (a := prc a s) (b := prc p s) with q | q
        · refine ⟨a, by simp, fun z hz => ?_⟩
          rcases List.mem_cons.mp hz with e | e
          · rw [e]; exact Rat.le_refl
          · exact Rat.le_trans q (hm z e)
        · refine ⟨p, List.mem_cons_of_mem _ hp, fun z hz => ?_⟩
          rcases List.mem_cons.mp hz with e | e
          · rw [e]; exact q
          · exact hm z e
  obtain ⟨p, hp, hm⟩ := key ps gp.one
  obtain ⟨i, hi, e⟩ := List.mem_iff_getElem.mp hp
  have mem : i ∈ cheap ps s := by
    unfold cheap
    rw [List.mem_filter]
    refine ⟨List.mem_range.mpr hi, ?_⟩
    rw [List.all_eq_true]
    intro q hq
    rw [List.getElem?_eq_getElem hi, e]
    exact decide_eq_true (hm q hq)
  cases ec : cheap ps s with
  | nil => rw [ec] at mem; cases mem
  | cons k r =>
    refine ⟨k, r, rfl, ?_⟩
    have : k ∈ cheap ps s := by rw [ec]; simp
    unfold cheap at this
    exact List.mem_range.mp (List.mem_filter.mp this).1
end Ny
end
section
set_option Elab.async false
set_option linter.all false
set_option maxRecDepth 100000
/-! ## the law's own arithmetic: what the functions promise -/
namespace Ny
open PySem Pd Rt
def sp__law_mix : Pd.Spec := Pd.sp_mix
def F__law_mix : Fn := Pd.F_mix
def sp__law_take : Pd.Spec := Pd.sp_take
def F__law_take : Fn := ⟨"_law_take", sp__law_take, 2, 2, []⟩
def sp__law_lowest : Pd.Spec := fun ds P R => ∃ a b, ds = [.int a, .int b] ∧ b ≠ 0 ∧ Bd 9000 b ∧ P (rat (Rat.divInt a b)) false
def sp__law_plus : Pd.Spec := fun ds P R => ∃ p q, ds = [rat p, rat q] ∧ Sm 4000 p ∧ Sm 4000 q ∧ P (rat (p + q)) false
def cmpI (p q : Rat) : Int := (if q < p then 1 else 0) - (if p < q then 1 else 0)
def sp__law_compare : Pd.Spec := fun ds P R => ∃ p q, ds = [rat p, rat q] ∧ Sm 4000 p ∧ Sm 4000 q ∧ P (.int (cmpI p q)) false
/-- the numbers of least cost -/
def leastI (l : List Int) : List Nat := (List.range l.length).filter fun k => l.all fun y => decide (l.getD k 0 ≤ y)
def sp__law_least : Pd.Spec := fun ds P R => ∃ l : List Int, ds = [.lst (l.map D.int)] ∧ l.length ≤ 1000 ∧ P (.lst (natsD (leastI l))) true
def costI (s : List Rat) (p : Pt) : Int := -p.wt * wholeI s 1 * wholeI s 1 + (List.zipWith (fun (x : Rat) (e : Int) => (x.num * (wholeI s 1).fdiv x.den - e * wholeI s 1) * (x.num * (wholeI s 1).fdiv x.den - e * wholeI s 1)) s p.row).sum
def sp__law_costs : Pd.Spec := fun ds P R => ∃ (dim : Nat) (ps : List Pt) (s : List Rat), ds = [.lst (ps.map ptD), spotD s] ∧ GoodPts dim ps ∧ OkSpot dim s ∧ P (.tup [.lst ((ps.map (costI s)).map D.int), .int (wholeI s 1 * wholeI s 1)]) false
end Ny
end
section
set_option Elab.async false
set_option linter.all false
namespace Ny
open PySem Pd Rt
def N__law_mix : List Str := ["number", "turn", "one", "two", "three"]
def ir__law_mix : Sms := (.cons (.set false 2 (.bin .mod (.bi .int (.cons (.bin .add (.bin .add (.bin .mul (.bin .mod (.bi .int (.cons (.var 0) .nil)) (.con (.int 2147483647))) (.con (.int 48271))) (.bin .mul (.var 1) (.con (.int 69621)))) (.con (.int 7919))) .nil)) (.con (.int 2147483647)))) (.cons (.set false 3 (.bin .mod (.bi .int (.cons (.bin .add (.bin .add (.bin .mul (.var 2) (.var 2)) (.bin .mul (.var 1) (.con (.int 40503)))) (.con (.int 1013))) .nil)) (.con (.int 2147483629)))) (.cons (.set false 4 (.bin .mod (.bi .int (.cons (.bin .add (.bin .mul (.var 3) (.var 3)) (.var 2)) .nil)) (.con (.int 2147483587)))) (.cons (.ret (.bin .add (.bin .mul (.var 4) (.con (.int 2147483629))) (.var 3))) .nil))))
theorem r__law_mix {a0 a1 : D} : rho0 N__law_mix [a0, a1] = [.val a0, .val a1, .un, .un, .un] := rfl
def F__law_lowest : Fn := ⟨"_law_lowest", sp__law_lowest, 1, 2, []⟩
def N__law_lowest : List Str := ["above", "below", "one", "two"]
def ir__law_lowest : Sms := (.cons (.set false 2 (.bi .abs (.cons (.var 0) .nil))) (.cons (.set false 3 (.bi .abs (.cons (.var 1) .nil))) (.cons (.whl (.cmp .gt (.var 3) (.con (.int 0))) (.cons (.par 2 3 (.var 3) (.bin .mod (.bi .int (.cons (.var 2) .nil)) (.var 3))) .nil)) (.cons (.set false 2 (.bi .max2 (.cons (.con (.int 1)) (.cons (.var 2) .nil)))) (.cons (.iff (.cmp .lt (.var 1) (.con (.int 0))) (.cons (.set false 2 (.neg (.var 2))) .nil) .nil) (.cons (.ret (.tup (.cons (.bin .fdiv (.var 0) (.var 2)) (.cons (.bin .fdiv (.var 1) (.var 2)) .nil)))) .nil))))))
theorem r__law_lowest {a0 a1 : D} : rho0 N__law_lowest [a0, a1] = [.val a0, .val a1, .un, .un] := rfl
def F__law_plus : Fn := ⟨"_law_plus", sp__law_plus, 2, 2, []⟩
def N__law_plus : List Str := ["p", "q"]
def ir__law_plus : Sms := (.cons (.ret (.call F__law_lowest (.cons (.bin .add (.bin .mul (.ix (.var 0) (.con (.int 0))) (.ix (.var 1) (.con (.int 1)))) (.bin .mul (.ix (.var 1) (.con (.int 0))) (.ix (.var 0) (.con (.int 1))))) (.cons (.bin .mul (.ix (.var 0) (.con (.int 1))) (.ix (.var 1) (.con (.int 1)))) .nil)))) .nil)
theorem r__law_plus {a0 a1 : D} : rho0 N__law_plus [a0, a1] = [.val a0, .val a1] := rfl
def F__law_compare : Fn := ⟨"_law_compare", sp__law_compare, 1, 2, []⟩
def N__law_compare : List Str := ["p", "q", "one"]
def ir__law_compare : Sms := (.cons (.set false 2 (.bin .sub (.bin .mul (.ix (.var 0) (.con (.int 0))) (.ix (.var 1) (.con (.int 1)))) (.bin .mul (.ix (.var 1) (.con (.int 0))) (.ix (.var 0) (.con (.int 1)))))) (.cons (.ret (.bin .sub (.bi .int (.cons (.cmp .gt (.var 2) (.con (.int 0))) .nil)) (.bi .int (.cons (.cmp .lt (.var 2) (.con (.int 0))) .nil)))) .nil))
theorem r__law_compare {a0 a1 : D} : rho0 N__law_compare [a0, a1] = [.val a0, .val a1, .un] := rfl
def F__law_least : Fn := ⟨"_law_least", sp__law_least, 1, 1, []⟩
def N__law_least : List Str := ["costs", "k"]
def ir__law_least : Sms := (.cons (.ret (.comp (.nm 1) [("k", 1)] (.r1 (.bi .len (.cons (.var 0) .nil))) (.cons (.cmp .eq (.ix (.var 0) (.var 1)) (.bi .min1 (.cons (.var 0) .nil))) .nil) (.var 1))) .nil)
theorem r__law_least {a0 : D} : rho0 N__law_least [a0] = [.val a0, .un] := rfl
def F__law_costs : Fn := ⟨"_law_costs", sp__law_costs, 1, 2, []⟩
def N__law_costs : List Str := ["points", "spot", "below", "p", "out", "place", "heavy", "letter", "cost", "k", "one"]
def ir__law_costs : Sms := (.cons (.set false 2 (.con (.int 1))) (.cons (.loop (.nm 3) (.seq (.var 1)) (.cons (.set false 2 (.bin .mul (.var 2) (.ix (.var 3) (.con (.int 1))))) .nil)) (.cons (.set true 4 (.lst .nil)) (.cons (.loop (.tp (.cons (.nm 5) (.cons (.nm 6) (.cons (.nm 7) .nil)))) (.seq (.var 0)) (.cons (.set false 8 (.bin .mul (.bin .mul (.neg (.var 6)) (.var 2)) (.var 2))) (.cons (.loop (.nm 9) (.r1 (.bi .len (.cons (.var 1) .nil))) (.cons (.set false 10 (.bin .sub (.bin .mul (.ix (.ix (.var 1) (.var 9)) (.con (.int 0))) (.bin .fdiv (.var 2) (.ix (.ix (.var 1) (.var 9)) (.con (.int 1))))) (.bin .mul (.ix (.var 5) (.var 9)) (.var 2)))) (.cons (.set false 8 (.bin .add (.var 8) (.bin .mul (.var 10) (.var 10)))) .nil))) (.cons (.app 4 (.var 8)) .nil)))) (.frz 4 (.cons (.ret (.tup (.cons (.var 4) (.cons (.bin .mul (.var 2) (.var 2)) .nil)))) .nil))))))
theorem r__law_costs {a0 a1 : D} : rho0 N__law_costs [a0, a1] = [.val a0, .val a1, .un, .un, .un, .un, .un, .un, .un, .un, .un] := rfl
end Ny
end
section
set_option Elab.async false
set_option linter.all false
set_option maxRecDepth 100000
namespace Ny
open PySem Pd Rt
local macro_rules | `(tactic| walk_at "wp") => `(tactic| simp only [wSs, wS, wE, wEs, wT, wBp, wTb, wQ, wO, wI, Co.d, List.length_cons, List.length_nil, List.append_nil, List.map_cons, List.map_nil, List.cons_append, List.nil_append, if_true, if_false, Bool.false_eq_true, reduceIte, reduceCtorEq, Bool.not_true, Bool.not_false, true_and, and_true,
  Pd.getV_0, Pd.getV_s, Pd.getL_0, Pd.getL_s, Pd.set_0, Pd.set_s, Pd.asB_b, Pd.asI_i, Pd.asQ_l, Pd.asQ_t, Pd.asLs_l, Pd.add_ii, Pd.add_ss, Pd.add_ll, Pd.add_tt, Pd.sub_ii, Pd.mul_ii, Pd.mul_li, Pd.fdiv_ii, Pd.mod_ii, Pd.pow_ii, Pd.lt_ii, Pd.le_ii, Pd.gt_ii, Pd.ge_ii, Pd.eq_ii, Pd.ne_ii, Pd.isn_n, Pd.isnn_n,
  Pd.truth_b, Pd.truth_i, Pd.truth_l, Pd.truth_t, Pd.len_l, Pd.len_t, Pd.len_s, Pd.abs_i, Pd.min2_ii, Pd.max2_ii, Pd.int_i, Pd.int_b, Pd.tuple_l, Pd.tuple_t, Pd.list_l, Pd.list_t, Pd.all_l, Pd.sum_l, Pd.sum_t, Pd.ix_l0, Pd.ix_t0, Pd.ix_l1, Pd.ix_t1, Pd.ix_t2,
  Pd.tg_nm, Pd.tg_tp, Pd.tgs_nil, Pd.tgs_cons, Pd.setQ_f, Pd.setQ_t, Pd.wipe_n, Pd.wipe_c])
theorem mod_pos {i j : Int} (h : 0 < j) : 0 ≤ i.fmod j ∧ i.fmod j < j := ⟨Int.fmod_nonneg_of_pos i h, Int.fmod_lt_of_pos i h⟩
theorem small_bits {x : Int} (h0 : 0 ≤ x) (h : x < 2 ^ 62) : Builtin.Int.intBits x ≤ 64 := Nat.le_trans (Bd.bits (n := 62) (by unfold Bd; omega)) (by decide)
theorem mulR {a b : Int} (h0 : 0 ≤ b) (h : b < 2 ^ 62) : IntMulOk a b := IntMulOk.of_right (small_bits h0 h)
theorem w__law_mix (ds P R) (hl : ds.length = 2) (h : sp__law_mix ds P R) : wSs ir__law_mix R (rho0 N__law_mix ds) (E0 P) := by
  obtain ⟨a, b, rfl, h⟩ := h
  rw [r__law_mix, ir__law_mix]
  walk_at "wp"
  have m1 := mod_pos (i := a) (j := 2147483647) (by decide)
  generalize a.fmod 2147483647 = a1 at m1 ⊢
  refine ⟨by decide, mulR (by decide) (by decide), mulR (by decide) (by decide), by decide, ?_⟩
  have m2 := mod_pos (i := a1 * 48271 + b * 69621 + 7919) (j := 2147483647) (by decide)
  generalize (a1 * 48271 + b * 69621 + 7919).fmod 2147483647 = one at m2 ⊢
  refine ⟨mulR m2.1 (by omega), mulR (by decide) (by decide), by decide, ?_⟩
  have m3 := mod_pos (i := one * one + b * 40503 + 1013) (j := 2147483629) (by decide)
  generalize (one * one + b * 40503 + 1013).fmod 2147483629 = two at m3 ⊢
  refine ⟨mulR m3.1 (by omega), by decide, ?_⟩
  have m4 := mod_pos (i := two * two + one) (j := 2147483587) (by decide)
  generalize (two * two + one).fmod 2147483587 = three at m4 ⊢
  refine ⟨mulR (by decide) (by decide), h _ ?_⟩
  omega
theorem low_div (a b : Int) (hb : b ≠ 0) (g : Int) (hg : g = if b < 0 then -((Int.gcd a b : Nat) : Int) else ((Int.gcd a b : Nat) : Int)) : a.fdiv g = (Rat.divInt a b).num ∧ b.fdiv g = ((Rat.divInt a b).den : Int) := by
  have g0 : Int.gcd a b ≠ 0 := fun z => hb (Int.gcd_eq_zero_iff.mp z).2
  by_cases hn : b < 0
  · rw [if_pos hn] at hg
    have e1 : a.fdiv g = (-a).fdiv (Int.gcd a b : Nat) := by rw [hg, ← Int.neg_fdiv_neg, Int.neg_neg]
    have e2 : b.fdiv g = (-b).fdiv (Int.gcd a b : Nat) := by rw [hg, ← Int.neg_fdiv_neg, Int.neg_neg]
    obtain ⟨n, hn2⟩ : ∃ n : Nat, -b = n := ⟨(-b).toNat, by omega⟩
    have n0 : n ≠ 0 := by omega
    have ed : Rat.divInt a b = mkRat (-a) n := by
      have : b = -(n : Int) := by omega
      rw [this, Rat.divInt_neg', Rat.divInt_ofNat]
    have eg : Int.gcd a b = Int.gcd (-a) n := by rw [← hn2, Int.neg_gcd, Int.gcd_neg]
    rw [e1, e2, ed, hn2, eg]
    exact low_alg (-a) n n0
  · rw [if_neg hn] at hg
    obtain ⟨n, hn2⟩ : ∃ n : Nat, b = n := ⟨b.toNat, by omega⟩
    have n0 : n ≠ 0 := by omega
    rw [hg, hn2, Rat.divInt_ofNat]
    exact low_alg a n n0
theorem w__law_lowest (ds P R) (hl : ds.length = 2) (h : sp__law_lowest ds P R) : wSs ir__law_lowest R (rho0 N__law_lowest ds) (E0 P) := by
  obtain ⟨a, b, rfl, hb, bb, h⟩ := h
  rw [r__law_lowest, ir__law_lowest]
  walk_at "wp"
  refine ⟨fun m ρ => ∃ x y : Nat, ρ = [.val (.int a), .val (.int b), .val (.int x), .val (.int y)] ∧ Nat.gcd x y = Int.gcd a b ∧ m = y, ⟨b.natAbs, a.natAbs, b.natAbs, by rw [abs_ite, abs_ite], rfl, rfl⟩, ?_⟩
  rintro m ρ ⟨x, y, rfl, hg, rfl⟩
  walk_at "wp"
  by_cases hy : m = 0
  · subst hy
    rw [decide_eq_false (show ¬ ((0 : Int) < ((0 : Nat) : Int)) by decide)]
    walk_at "wp"
    have gx : x = Int.gcd a b := by rw [← hg, Nat.gcd_zero_right]
    have g0 : Int.gcd a b ≠ 0 := fun z => hb (Int.gcd_eq_zero_iff.mp z).2
    have e1 : (if (1 : Int) < (x : Int) then (x : Int) else 1) = (Int.gcd a b : Nat) := by
      rw [gx]; split <;> omega
    have k := low_div a b hb _ rfl
    have bg : Bd 9000 ((Int.gcd a b : Nat) : Int) := bb.gcdr hb
    by_cases hn : b < 0
    · rw [decide_eq_true hn]
      walk_at "wp"
      rw [if_pos hn] at k
      simp only [gt_iff_lt]
      rw [e1, k.1, k.2]
      have bn : Bd 9000 (-((Int.gcd a b : Nat) : Int)) := bg.neg
      exact ⟨bn.divOk (by omega), bn.divOk (by omega), by decide, h⟩
    · rw [decide_eq_false hn]
      walk_at "wp"
      rw [if_neg hn] at k
      simp only [gt_iff_lt]
      rw [e1, k.1, k.2]
      exact ⟨bg.divOk (by omega), bg.divOk (by omega), by decide, h⟩
  · rw [decide_eq_true (show (0 : Int) < ((m : Nat) : Int) by omega)]
    walk_at "wp"
    refine ⟨by omega, x % m, Nat.mod_lt _ (Nat.pos_of_ne_zero hy), m, x % m, ?_, ?_, rfl⟩
    · rw [Int.fmod_eq_emod_of_nonneg _ (Int.natCast_nonneg m)]; rfl
    · rw [← hg, Nat.gcd_comm x m, Nat.gcd_rec m x, Nat.gcd_comm]
theorem w__law_plus (ds P R) (hl : ds.length = 2) (h : sp__law_plus ds P R) : wSs ir__law_plus R (rho0 N__law_plus ds) (E0 P) := by
  obtain ⟨p, q, rfl, hp, hq, h⟩ := h
  rw [r__law_plus, ir__law_plus]
  unfold rat
  simp only [F__law_lowest]
  walk_at "wp"
  have e : Rat.divInt (p.num * q.den + q.num * p.den) (p.den * q.den) = p + q := by
    rw [Rat.add_def', ← Int.natCast_mul, Rat.divInt_ofNat]
  refine ⟨hp.num.mulOk hq.den, hq.num.mulOk hp.den, hp.den.mulOk hq.den, _, _, rfl, ?_, (hp.den.mul hq.den).mono (by decide), ?_⟩
  · have h1 := p.den_nz
    have h2 := q.den_nz
    rw [← Int.natCast_mul]
    have := Nat.mul_ne_zero h1 h2
    omega
  · rw [e]
    exact h
theorem cross_lt {p q : Rat} : p < q ↔ p.num * q.den < q.num * p.den := Rat.lt_iff p q
theorem w__law_compare (ds P R) (hl : ds.length = 2) (h : sp__law_compare ds P R) : wSs ir__law_compare R (rho0 N__law_compare ds) (E0 P) := by
  obtain ⟨p, q, rfl, hp, hq, h⟩ := h
  rw [r__law_compare, ir__law_compare]
  unfold rat
  walk_at "wp"
  refine ⟨hp.num.mulOk hq.den, hq.num.mulOk hp.den, ?_⟩
  have e : (if decide (0 < p.num * (q.den : Int) - q.num * p.den) = true then (1 : Int) else 0) - (if decide (p.num * (q.den : Int) - q.num * p.den < 0) = true then 1 else 0) = cmpI p q := by
    unfold cmpI
    simp only [decide_eq_true_eq, cross_lt]
    congr 1 <;> congr 1 <;> exact propext ⟨fun z => by omega, fun z => by omega⟩
  rw [e]
  exact h
end Ny
end
section
set_option Elab.async false
set_option linter.all false
set_option maxRecDepth 100000
namespace Ny
open PySem Pd Rt
local macro_rules | `(tactic| walk_at "wp") => `(tactic| simp only [wSs, wS, wE, wEs, wT, wBp, wTb, wQ, wO, wI, Co.d, List.length_cons, List.length_nil, List.append_nil, List.map_cons, List.map_nil, List.cons_append, List.nil_append, if_true, if_false, Bool.false_eq_true, reduceIte, reduceCtorEq, Bool.not_true, Bool.not_false, true_and, and_true,
  Pd.getV_0, Pd.getV_s, Pd.getL_0, Pd.getL_s, Pd.set_0, Pd.set_s, Pd.asB_b, Pd.asI_i, Pd.asQ_l, Pd.asQ_t, Pd.asLs_l, Pd.add_ii, Pd.add_ss, Pd.add_ll, Pd.add_tt, Pd.sub_ii, Pd.mul_ii, Pd.mul_li, Pd.fdiv_ii, Pd.mod_ii, Pd.pow_ii, Pd.lt_ii, Pd.le_ii, Pd.gt_ii, Pd.ge_ii, Pd.eq_ii, Pd.ne_ii, Pd.isn_n, Pd.isnn_n,
  Pd.truth_b, Pd.truth_i, Pd.truth_l, Pd.truth_t, Pd.len_l, Pd.len_t, Pd.len_s, Pd.abs_i, Pd.min2_ii, Pd.max2_ii, Pd.int_i, Pd.int_b, Pd.tuple_l, Pd.tuple_t, Pd.list_l, Pd.list_t, Pd.all_l, Pd.sum_l, Pd.sum_t, Pd.ix_l0, Pd.ix_t0, Pd.ix_l1, Pd.ix_t1, Pd.ix_t2,
  Pd.tg_nm, Pd.tg_tp, Pd.tgs_nil, Pd.tgs_cons, Pd.setQ_f, Pd.setQ_t, Pd.wipe_n, Pd.wipe_c])
theorem for_rng {t : D → Rho → (Rho → Prop) → Prop} {F : Rho → Prop} {n : Nat} {ρ : Rho} (I : Nat → Rho → Prop) (h0 : I 0 ρ) (step : ∀ k ρ (K : Rho → Prop), k < n → I k ρ → (∀ ρ', I (k + 1) ρ' → K ρ') → t (.int (k : Nat)) ρ K) (fin : ∀ ρ, I n ρ → F ρ) : wFor t (rgD 0 n) ρ F := by
  rw [rg_eq]
  refine for_I (fun its ρ => ∃ k, k ≤ n ∧ its = (List.range' k (n - k)).map (fun i => D.int (i : Nat)) ∧ I k ρ) ⟨0, Nat.zero_le _, by rw [Nat.sub_zero, List.range_eq_range'], h0⟩ ?_ ?_
  · rintro d its ρ K ⟨k, hk, e, i⟩ hK
    by_cases z : k = n
    · rw [z, Nat.sub_self] at e; cases e
    · have e2 : n - k = (n - (k + 1)) + 1 := by omega
      rw [e2, List.range'_succ, List.map_cons] at e
      cases e
      exact step k ρ K (by omega) i fun ρ' i' => hK ρ' ⟨k + 1, by omega, rfl, i'⟩
  · rintro ρ ⟨k, hk, e, i⟩
    have : k = n := by
      by_cases z : k = n
      · exact z
      · have e2 : n - k = (n - (k + 1)) + 1 := by omega
        rw [e2, List.range'_succ] at e
        cases e
    rw [this] at i
    exact fin ρ i
theorem w__law_least (ds P R) (hl : ds.length = 1) (h : sp__law_least ds P R) : wSs ir__law_least R (rho0 N__law_least ds) (E0 P) := by
  obtain ⟨l, rfl, hz, h⟩ := h
  rw [r__law_least, ir__law_least]
  walk_at "wp"
  rw [List.length_map]
  refine ⟨⟨by omega, Int.ofNat_le.mpr (Nat.le_trans hz (by decide))⟩, ?_⟩
  rw [rg_eq]
  refine loop_filter (f := fun i : Nat => D.int (i : Nat)) (p := fun i : Nat => l.all fun y => decide (l.getD i 0 ≤ y)) (fun i hi K h1 h2 => ?_) ?_
  · have hi : i < l.length := List.mem_range.mp hi
    rw [ix_ln]
    refine ⟨.int l[i], by rw [List.getElem?_map, List.getElem?_eq_getElem hi]; rfl, ?_⟩
    refine ⟨l, intsD_map l, by omega, fun m hm hmin => ?_⟩
    show wCmp .eq (.int l[i]) (.int m) _
    rw [eq_ii]
    have e : l.getD i 0 = l[i] := by simp [List.getD, hi]
    rw [e] at h1 h2
    cases z : (l[i] == m) with
    | true =>
      rw [if_pos rfl]
      have z := eq_of_beq z
      exact h1 (by rw [List.all_eq_true]; intro y hy; rw [z]; exact decide_eq_true (hmin y hy))
    | false =>
      rw [if_neg Bool.false_ne_true]
      refine h2 ?_
      have z : l[i] ≠ m := by simpa using z
      cases q : l.all (fun y => decide (l[i] ≤ y)) with
      | false => rfl
      | true =>
        have q1 := of_decide_eq_true (List.all_eq_true.mp q m hm)
        have q2 := hmin l[i] (List.getElem_mem hi)
        omega
  · exact h
/-! the prices over one denominator -/
def cTerm (s : List Rat) (x : Rat) (e : Int) : Int := (x.num * (wholeI s 1).fdiv x.den - e * wholeI s 1) * (x.num * (wholeI s 1).fdiv x.den - e * wholeI s 1)
theorem w__law_costs (ds P R) (hl : ds.length = 2) (h : sp__law_costs ds P R) : wSs ir__law_costs R (rho0 N__law_costs ds) (E0 P) := by
  obtain ⟨dim, ps, s, rfl, gp, ⟨hs, M, hM, hM2, hq⟩, h⟩ := h
  rw [r__law_costs, ir__law_costs]
  have sm : ∀ x ∈ s, Sm 1000 x := fun x hx => (hq x hx).sm hM (Nat.lt_of_lt_of_le hM2 (Nat.pow_le_pow_right (by decide) (by decide))) (by decide)
  have dn : ∀ x ∈ s, Bd 240 (x.den : Int) := fun x hx => by
    obtain ⟨k, e, _⟩ := hq x hx
    rw [e, Rat.den_mkRat, if_neg (by omega)]
    unfold Bd
    rw [Int.natAbs_natCast]
    exact Nat.lt_of_le_of_lt (Nat.div_le_self _ _) hM2
  have hd := gp.dm
  have one : Bd 1 (1 : Int) := bd_of (by decide)
  have hw : Bd 721 (wholeI s 1) := by
    have := whole_bd one dn
    rw [hs] at this
    exact this.mono (by omega)
  walk_at "wp"
  refine for_I (fun its ρ => ∃ r w b x, its = r.map rat ∧ ρ = [.val (.lst (ps.map ptD)), .val (spotD s), .val (.int w), x, .un, .un, .un, .un, .un, .un, .un] ∧ wholeI r w = wholeI s 1 ∧ Bd b w ∧ b + 240 * r.length ≤ 2000 ∧ ∀ x ∈ r, Bd 240 (x.den : Int)) ⟨s, 1, 1, .un, rfl, rfl, rfl, one, by omega, dn⟩ ?_ ?_
  · rintro d its ρ K ⟨r, w, b, x, e, rfl, e1, hb, hb2, hr⟩ hK
    cases r with
    | nil => cases e
    | cons q r =>
      cases e
      unfold rat
      walk_at "wp"
      have hq1 := hr q (List.mem_cons_self ..)
      rw [List.length_cons] at hb2
      exact ⟨hb.mulOk hq1 (by omega), hK _ ⟨r, w * q.den, b + 240, _, rfl, rfl, e1, hb.mul hq1, by omega, fun z hz => hr z (List.mem_cons_of_mem _ hz)⟩⟩
  rintro ρ ⟨r, w, b, x, e, rfl, e1, hb, hb2, hr⟩
  cases r with
  | cons q r => cases e
  | nil =>
    obtain rfl : w = wholeI s 1 := e1
    walk_at "wp"
    refine ⟨Nat.zero_le _, ?_⟩
    have fewp : ps.length ≤ 12 := Nat.le_trans gp.most (lim_le hd)
    refine for_I (fun its ρ => ∃ (r done : List Pt) (u0 u1 u2 u3 u4 u5 : Sl), its = r.map ptD ∧ ps = done ++ r ∧ ρ = [.val (.lst (ps.map ptD)), .val (spotD s), .val (.int (wholeI s 1)), x, .ml ((done.map (costI s)).map D.int), u0, u1, u2, u3, u4, u5]) ⟨ps, [], .un, .un, .un, .un, .un, .un, rfl, rfl, rfl⟩ ?_ ?_
    · rintro d its ρ K ⟨r, done, u0, u1, u2, u3, u4, u5, e, ep, rfl⟩ hK
      cases r with
      | nil => cases e
      | cons p r =>
        cases e
        have gpp := gp.pts p (by rw [ep]; simp)
        have wb : Bd 40 p.wt := by unfold Bd; have := gpp.wt; omega
        rw [show ptD p = .tup [.tup (p.row.map D.int), .int p.wt, .str p.col] from rfl]
        walk_at "wp"
        refine ⟨wb.neg.mulOk hw, (wb.neg.mul hw).mulOk hw, ?_⟩
        rw [show spotD s = .tup (s.map rat) from rfl]
        walk_at "wp"
        rw [List.length_map, hs]
        refine ⟨⟨by omega, Int.ofNat_le.mpr (Nat.le_trans hd.2 (by decide))⟩, ?_⟩
        refine for_rng (fun k ρ => ∃ u4 u5 : Sl, ρ = [.val (.lst (ps.map ptD)), .val (.tup (s.map rat)), .val (.int (wholeI s 1)), x, .ml ((done.map (costI s)).map D.int), .val (.tup (p.row.map D.int)), .val (.int p.wt), .val (.str p.col), .val (.int (-p.wt * wholeI s 1 * wholeI s 1 + ((List.zipWith (cTerm s) s p.row).take k).sum)), u4, u5]) ⟨_, _, by rw [List.take_zero, List.sum_nil, Int.add_zero]⟩ ?_ ?_
        · rintro k ρ K hk ⟨u4, u5, rfl⟩ hK
          have hks : k < s.length := by omega
          have hkr : k < p.row.length := by rw [gpp.len]; exact hk
          have es : (s.map rat)[k]? = some (rat s[k]) := by rw [List.getElem?_map, List.getElem?_eq_getElem hks]; rfl
          have er : (p.row.map D.int)[k]? = some (.int p.row[k]) := by rw [List.getElem?_map, List.getElem?_eq_getElem hkr]; rfl
          have ms := List.getElem_mem hks
          have mr := List.getElem_mem hkr
          have sx := sm _ ms
          have be := ent_bd (gpp.ent _ mr)
          walk_at "wp"
          rw [ix_tn]
          refine ⟨_, es, ?_⟩
          rw [show rat s[k] = .tup [.int s[k].num, .int s[k].den] from rfl]
          walk_at "wp"
          rw [ix_tn]
          refine ⟨_, es, ?_⟩
          rw [show rat s[k] = .tup [.int s[k].num, .int s[k].den] from rfl]
          walk_at "wp"
          refine ⟨sx.den.divOk (by have := s[k].den_nz; omega), sx.num.mulOk hw.fdiv, ?_⟩
          rw [ix_tn]
          refine ⟨_, er, ?_⟩
          walk_at "wp"
          have b1 : Bd 1721 (s[k].num * (wholeI s 1).fdiv s[k].den) := sx.num.mul hw.fdiv
          have b2 : Bd 1721 (p.row[k] * wholeI s 1) := (be.mul hw).mono (by decide)
          have ez : (List.zipWith (cTerm s) s p.row)[k]? = some (cTerm s s[k] p.row[k]) := by
            rw [List.getElem?_zipWith, List.getElem?_eq_getElem hks, List.getElem?_eq_getElem hkr]
          have e3 : ((List.zipWith (cTerm s) s p.row).take (k + 1)).sum = ((List.zipWith (cTerm s) s p.row).take k).sum + cTerm s s[k] p.row[k] := by
            rw [List.take_add_one, ez, List.sum_append]
            simp
          refine ⟨be.mulOk hw, (b1.sub b2).mulOk (b1.sub b2), hK _ ⟨.val (.int (k : Nat)), .val (.int (s[k].num * (wholeI s 1).fdiv s[k].den - p.row[k] * wholeI s 1)), ?_⟩⟩
          rw [e3, ← Int.add_assoc]
          rfl
        · rintro ρ ⟨u4, u5, rfl⟩
          walk_at "wp"
          have hlen : done.length < 12 := by
            rw [ep] at fewp
            simp at fewp
            omega
          have lz : (List.zipWith (cTerm s) s p.row).length = dim := by rw [List.length_zipWith, hs, gpp.len]; omega
          have ec : -p.wt * wholeI s 1 * wholeI s 1 + ((List.zipWith (cTerm s) s p.row).take dim).sum = costI s p := by rw [← lz, List.take_length]; rfl
          rw [ec]
          refine ⟨by rw [List.length_map, List.length_map]; exact Nat.lt_of_lt_of_le hlen (by decide), hK _ ⟨r, done ++ [p], .val (.tup (p.row.map D.int)), .val (.int p.wt), .val (.str p.col), .val (.int (costI s p)), u4, u5, rfl, by rw [ep]; simp, ?_⟩⟩
          rw [List.map_append, List.map_append]
          rfl
    · rintro ρ ⟨r, done, u0, u1, u2, u3, u4, u5, e, ep, rfl⟩
      cases r with
      | cons q r => cases e
      | nil =>
        rw [List.append_nil] at ep
        subst ep
        walk_at "wp"
        exact ⟨hw.mulOk hw, by decide, h⟩
end Ny
end
section
set_option Elab.async false
set_option linter.all false
set_option maxRecDepth 100000
/-! ## the law's sums: what the functions promise -/
namespace Ny
open PySem Pd Rt
def spotsD (S : List (List Rat)) : D := .lst (spotsL S)
def ptsD (ps : List Pt) : D := .lst (ps.map ptD)
def cntD (cs : List Int) : D := .lst (cs.map D.int)
def totL (S : List (List Rat)) (cs : List Int) (p : Pt) : List Rat := List.zipWith (fun (s : List Rat) (c : Int) => (c : Rat) * prc p s) S cs
def totS (S : List (List Rat)) (cs : List Int) (p : Pt) : Rat := (totL S cs p).sum
def farRow (mean : List Rat) (s : List Rat) (c : Int) : List Rat := List.zipWith (fun (x y : Rat) => (c : Rat) * ((x - y) * (x - y))) s mean
def farR (S : List (List Rat)) (cs : List Int) (mean : List Rat) : Rat := (List.zipWith (fun s c => (farRow mean s c).sum) S cs).sum
def sp__law_sums : Pd.Spec := fun ds P R => ∃ (dim : Nat) (ps : List Pt) (S : List (List Rat)) (cs : List Int), ds = [ptsD ps, spotsD S, cntD cs] ∧ GoodPts dim ps ∧ Comp dim S cs ∧ P (.lst ((ps.map (totS S cs)).map rat)) false
def sp__law_middle_of : Pd.Spec := fun ds P R => ∃ (dim : Nat) (S : List (List Rat)) (cs : List Int), ds = [spotsD S, cntD cs] ∧ Comp dim S cs ∧ P (.tup [spotD (meanR dim S cs), rat (farR S cs (meanR dim S cs))]) false
def sp__law_demand : Pd.Spec := fun ds P R => ∃ (dim : Nat) (ps : List Pt) (S : List (List Rat)) (cs : List Int), ds = [ptsD ps, spotsD S, cntD cs] ∧ GoodPts dim ps ∧ Comp dim S cs ∧ P (.tup ((demL ps S cs (List.replicate ps.length 0)).map D.int)) false
/-! == by the law -/
def F_eqB : Fn := ⟨"_law_equal", fun _ _ _ => False, 0, 2, []⟩
def atomD : D → Bool
  | .non => true | .bl _ => true | .int _ => true | .str x => PyData.strOk x | _ => false
/-- plain data, nested at most n deep, no list longer than 1000 -/
def eqd : Nat → D → Bool
  | 0, d => atomD d
  | n + 1, .lst l => decide (l.length ≤ 1000) && l.all (eqd n)
  | n + 1, .tup l => decide (l.length ≤ 1000) && l.all (eqd n)
  | _ + 1, d => atomD d
def sp_eq (n : Nat) : Pd.Spec := fun ds P R => ∃ d, ds = [d, d] ∧ eqd n d = true ∧ P (.bl true) false
def F_eq (n : Nat) : Fn := ⟨"_law_equal", sp_eq n, n + 1, 2, []⟩
def F_eqP : Nat → Fn
  | 0 => F_eqB
  | n + 1 => F_eq n
def sp__law_equal : Pd.Spec := sp_eq 5
def F__law_equal : Fn := F_eq 5
end Ny
end
section
set_option Elab.async false
set_option linter.all false
namespace Ny
open PySem Pd Rt
def F__law_sums : Fn := ⟨"_law_sums", sp__law_sums, 3, 3, []⟩
def N__law_sums : List Str := ["points", "spots", "counts", "out", "point", "m", "numbers", "below", "k"]
def ir__law_sums : Sms := (.cons (.set false 3 (.comp (.nm 4) [("point", 4)] (.seq (.var 0)) .nil (.tup (.cons (.con (.int 0)) (.cons (.con (.int 1)) .nil))))) (.cons (.loop (.nm 5) (.r1 (.bi .len (.cons (.var 1) .nil))) (.cons (.tgt (.tp (.cons (.nm 6) (.cons (.nm 7) .nil))) (.call F__law_costs (.cons (.var 0) (.cons (.ix (.var 1) (.var 5)) .nil)))) (.cons (.set false 3 (.comp (.nm 8) [("k", 8)] (.r1 (.bi .len (.cons (.var 0) .nil))) .nil (.call F__law_plus (.cons (.ix (.var 3) (.var 8)) (.cons (.call F__law_lowest (.cons (.bin .mul (.ix (.var 2) (.var 5)) (.ix (.var 6) (.var 8))) (.cons (.var 7) .nil))) .nil))))) .nil))) (.cons (.ret (.var 3)) .nil)))
theorem r__law_sums {a0 a1 a2 : D} : rho0 N__law_sums [a0, a1, a2] = [.val a0, .val a1, .val a2, .un, .un, .un, .un, .un, .un] := rfl
def F__law_middle_of : Fn := ⟨"_law_middle_of", sp__law_middle_of, 3, 2, []⟩
def N__law_middle_of : List Str := ["spots", "counts", "mean", "k", "p", "m", "far"]
def ir__law_middle_of : Sms := (.cons (.set true 2 (.lst .nil)) (.cons (.loop (.nm 3) (.r1 (.bi .len (.cons (.ix (.var 0) (.con (.int 0))) .nil))) (.cons (.set false 4 (.tup (.cons (.con (.int 0)) (.cons (.con (.int 1)) .nil)))) (.cons (.loop (.nm 5) (.r1 (.bi .len (.cons (.var 0) .nil))) (.cons (.set false 4 (.call F__law_plus (.cons (.var 4) (.cons (.call F__law_lowest (.cons (.bin .mul (.ix (.var 1) (.var 5)) (.ix (.ix (.ix (.var 0) (.var 5)) (.var 3)) (.con (.int 0)))) (.cons (.ix (.ix (.ix (.var 0) (.var 5)) (.var 3)) (.con (.int 1))) .nil))) .nil)))) .nil)) (.cons (.app 2 (.call F__law_lowest (.cons (.ix (.var 4) (.con (.int 0))) (.cons (.bin .mul (.ix (.var 4) (.con (.int 1))) (.bi .sum (.cons (.var 1) .nil))) .nil)))) .nil)))) (.frz 2 (.cons (.set false 6 (.tup (.cons (.con (.int 0)) (.cons (.con (.int 1)) .nil)))) (.cons (.loop (.nm 5) (.r1 (.bi .len (.cons (.var 0) .nil))) (.cons (.loop (.nm 3) (.r1 (.bi .len (.cons (.var 2) .nil))) (.cons (.set false 4 (.call F__law_plus (.cons (.ix (.ix (.var 0) (.var 5)) (.var 3)) (.cons (.tup (.cons (.neg (.ix (.ix (.var 2) (.var 3)) (.con (.int 0)))) (.cons (.ix (.ix (.var 2) (.var 3)) (.con (.int 1))) .nil))) .nil)))) (.cons (.set false 6 (.call F__law_plus (.cons (.var 6) (.cons (.call F__law_lowest (.cons (.bin .mul (.bin .mul (.ix (.var 1) (.var 5)) (.ix (.var 4) (.con (.int 0)))) (.ix (.var 4) (.con (.int 0)))) (.cons (.bin .mul (.ix (.var 4) (.con (.int 1))) (.ix (.var 4) (.con (.int 1)))) .nil))) .nil)))) .nil))) .nil)) (.cons (.ret (.tup (.cons (.bi .tuple (.cons (.var 2) .nil)) (.cons (.var 6) .nil)))) .nil))))))
theorem r__law_middle_of {a0 a1 : D} : rho0 N__law_middle_of [a0, a1] = [.val a0, .val a1, .un, .un, .un, .un, .un] := rfl
def F__law_demand : Fn := ⟨"_law_demand", sp__law_demand, 2, 3, []⟩
def N__law_demand : List Str := ["points", "spots", "counts", "out", "point", "m", "best"]
def ir__law_demand : Sms := (.cons (.setC true 3 (.nm 4) [("point", 4)] (.seq (.var 0)) .nil (.con (.int 0))) (.cons (.loop (.nm 5) (.r1 (.bi .len (.cons (.var 1) .nil))) (.cons (.set false 6 (.ix (.call F__law_least (.cons (.ix (.call F__law_costs (.cons (.var 0) (.cons (.ix (.var 1) (.var 5)) .nil))) (.con (.int 0))) .nil)) (.con (.int 0)))) (.cons (.setix 3 (.var 6) (.bin .add (.ixO 3 (.var 6)) (.ix (.var 2) (.var 5)))) .nil))) (.frz 3 (.cons (.ret (.bi .tuple (.cons (.var 3) .nil))) .nil))))
theorem r__law_demand {a0 a1 a2 : D} : rho0 N__law_demand [a0, a1, a2] = [.val a0, .val a1, .val a2, .un, .un, .un, .un] := rfl
def N__law_equal : List Str := ["given", "due", "k"]
def ir_eq (F : Fn) : Sms := (.cons (.iff (.bop false (.cons (.tru (.isi .list (.var 1))) (.cons (.tru (.isi .tuple (.var 1))) .nil))) (.cons (.iff (.bop false (.cons (.cmp .ne (.isi .list (.var 0)) (.isi .list (.var 1))) (.cons (.cmp .ne (.isi .tuple (.var 0)) (.isi .tuple (.var 1))) .nil))) (.cons (.ret (.con (.bl false))) .nil) .nil) (.cons (.ret (.bop true (.cons (.cmp .eq (.bi .len (.cons (.var 0) .nil)) (.bi .len (.cons (.var 1) .nil))) (.cons (.bi .all (.cons (.comp (.nm 2) [("k", 2)] (.r1 (.bi .len (.cons (.var 1) .nil))) .nil (.call F (.cons (.ix (.var 0) (.var 2)) (.cons (.ix (.var 1) (.var 2)) .nil)))) .nil)) .nil)))) .nil)) .nil) (.cons (.iff (.bop false (.cons (.cmp .isn (.var 1) (.con .non)) (.cons (.cmp .isn (.var 0) (.con .non)) .nil))) (.cons (.ret (.bop true (.cons (.cmp .isn (.var 1) (.con .non)) (.cons (.cmp .isn (.var 0) (.con .non)) .nil)))) .nil) .nil) (.cons (.iff (.bop false (.cons (.cmp .ne (.isi .bool (.var 0)) (.isi .bool (.var 1))) (.cons (.cmp .ne (.isi .int (.var 0)) (.isi .int (.var 1))) .nil))) (.cons (.ret (.con (.bl false))) .nil) .nil) (.cons (.ret (.bop true (.cons (.cmp .eq (.isi .str (.var 0)) (.isi .str (.var 1))) (.cons (.cmp .eq (.var 0) (.var 1)) .nil)))) .nil))))
theorem r__law_equal {a0 a1 : D} : rho0 N__law_equal [a0, a1] = [.val a0, .val a1, .un] := rfl
end Ny
end
section
set_option Elab.async false
set_option linter.all false
set_option maxRecDepth 100000
namespace Ny
open PySem Pd Rt
local macro_rules | `(tactic| walk_at "wp") => `(tactic| simp only [wSs, wS, wE, wEs, wT, wBp, wTb, wQ, wO, wI, Co.d, List.length_cons, List.length_nil, List.append_nil, List.map_cons, List.map_nil, List.cons_append, List.nil_append, if_true, if_false, Bool.false_eq_true, reduceIte, reduceCtorEq, Bool.not_true, Bool.not_false, true_and, and_true,
  Pd.getV_0, Pd.getV_s, Pd.getL_0, Pd.getL_s, Pd.set_0, Pd.set_s, Pd.asB_b, Pd.asI_i, Pd.asQ_l, Pd.asQ_t, Pd.asLs_l, Pd.add_ii, Pd.add_ss, Pd.add_ll, Pd.add_tt, Pd.sub_ii, Pd.mul_ii, Pd.mul_li, Pd.fdiv_ii, Pd.mod_ii, Pd.pow_ii, Pd.lt_ii, Pd.le_ii, Pd.gt_ii, Pd.ge_ii, Pd.eq_ii, Pd.ne_ii, Pd.isn_n, Pd.isnn_n,
  Pd.truth_b, Pd.truth_i, Pd.truth_l, Pd.truth_t, Pd.len_l, Pd.len_t, Pd.len_s, Pd.abs_i, Pd.min2_ii, Pd.max2_ii, Pd.int_i, Pd.int_b, Pd.tuple_l, Pd.tuple_t, Pd.list_l, Pd.list_t, Pd.all_l, Pd.sum_l, Pd.sum_t, Pd.ix_l0, Pd.ix_t0, Pd.ix_l1, Pd.ix_t1, Pd.ix_t2,
  Pd.tg_nm, Pd.tg_tp, Pd.tgs_nil, Pd.tgs_cons, Pd.setQ_f, Pd.setQ_t, Pd.wipe_n, Pd.wipe_c])
theorem eqd_cases {n : Nat} {d : D} (h : eqd n d = true) : atomD d = true ∨ ∃ m l, n = m + 1 ∧ (d = .lst l ∨ d = .tup l) ∧ l.length ≤ 1000 ∧ ∀ x ∈ l, eqd m x = true := by
  cases n with
  | zero => exact .inl h
  | succ m =>
    cases d <;> first
      | exact .inl h
      | (refine .inr ⟨m, _, rfl, by first | exact .inl rfl | exact .inr rfl, ?_⟩
         unfold eqd at h
         rw [Bool.and_eq_true, List.all_eq_true] at h
         exact ⟨of_decide_eq_true h.1, h.2⟩)
theorem atom_ty {d : D} (h : atomD d = true) : (∃ s, tyD d = some s) ∧ isTy .list d = false ∧ isTy .tuple d = false := by
  cases d <;> first | exact ⟨⟨_, rfl⟩, rfl, rfl⟩ | cases h
theorem ne_bb {a b : Bool} {B : Bool → Prop} : wCmp .ne (.bl a) (.bl b) B = B (!(a == b)) := by
  show (shp 12 (.bl a) = true ∧ shp 12 (.bl b) = true ∧ B (!deq (.bl a) (.bl b))) = _
  simp [shp, deq]
theorem eq_bb {a b : Bool} {B : Bool → Prop} : wCmp .eq (.bl a) (.bl b) B = B (a == b) := by
  show (shp 12 (.bl a) = true ∧ shp 12 (.bl b) = true ∧ B (deq (.bl a) (.bl b))) = _
  simp [shp, deq]
theorem rep_bl (n : Nat) : (List.range n).map (fun _ => D.bl true) = (List.replicate n true).map D.bl := by
  rw [List.map_replicate, List.map_const', List.length_range]
theorem w_eq (n : Nat) (ds P R) (hl : ds.length = 2) (h : sp_eq n ds P R) : wSs (ir_eq (F_eqP n)) R (rho0 N__law_equal ds) (E0 P) := by
  obtain ⟨d, rfl, hs, h⟩ := h
  rw [r__law_equal, ir_eq]
  rcases eqd_cases hs with ha | ⟨m, l, rfl, hd, hz, hx⟩
  · obtain ⟨ty, t1, t2⟩ := atom_ty ha
    walk_at "wp"
    refine ⟨ty, ?_⟩
    rw [t1]
    walk_at "wp"
    refine ⟨ty, ?_⟩
    rw [t2]
    walk_at "wp"
    by_cases hn : isNon d = true
    · rw [hn]
      walk_at "wp"
      cases d <;> first | exact h | (walk_at "wp"; exact h) | cases hn
    · have hn : isNon d = false := by cases z : isNon d <;> first | rfl | exact absurd z hn
      rw [hn]
      walk_at "wp"
      refine ⟨ty, ty, ?_⟩
      rw [ne_bb, beq_self_eq_true]
      walk_at "wp"
      refine ⟨ty, ty, ?_⟩
      rw [ne_bb, beq_self_eq_true]
      walk_at "wp"
      refine ⟨ty, ty, ?_⟩
      rw [eq_bb, beq_self_eq_true]
      walk_at "wp"
      cases d with
      | bl b => rw [eq_bb, beq_self_eq_true]; exact h
      | int b => rw [eq_ii, beq_self_eq_true]; exact h
      | str x =>
        refine ⟨ha, ha, ?_⟩
        show P (.bl (x == x)) false
        rw [beq_self_eq_true]; exact h
      | non => cases hn
      | _ => cases ha
  · have key : ∀ (d : D), (d = .lst l ∨ d = .tup l) → ∀ K : List D → Prop, K ((List.replicate l.length true).map D.bl) → wLoop (fun d1 k => wIx d d1 fun u _ => wIx d d1 fun v _ => [u, v].length = 2 ∧ sp_eq m [u, v] (fun x _ => k (some x)) Nox) (rgD 0 l.length) [] K := by
      intro d hd K hK
      rw [rg_eq]
      refine loop_map (f := fun _ : Nat => D.bl true) (fun i hi K2 hK2 => ?_) ?_
      · have hi : i < l.length := List.mem_range.mp hi
        have e : l[i]? = some l[i] := List.getElem?_eq_getElem hi
        have ix : ∀ Q : D → Bool → Prop, Q l[i] false → wIx d (.int (i : Nat)) Q := fun Q hQ => by
          rcases hd with rfl | rfl
          · rw [ix_ln]; exact ⟨_, e, hQ⟩
          · rw [ix_tn]; exact ⟨_, e, hQ⟩
        exact ix _ (ix _ ⟨rfl, _, rfl, hx _ (List.getElem_mem hi), hK2⟩)
      · rw [List.nil_append, rep_bl]; exact hK
    have hrg : Rg1 (l.length : Int) := ⟨by omega, Int.ofNat_le.mpr (Nat.le_trans hz (by decide))⟩
    have hall : ((List.replicate l.length true).all id) = true := by
      rw [List.all_eq_true]
      intro x hx
      rw [(List.mem_replicate.mp hx).2]; rfl
    rcases hd with rfl | rfl
    · have ty : ∃ s, tyD (D.lst l) = some s := ⟨_, rfl⟩
      walk_at "wp"
      refine ⟨ty, ?_⟩
      rw [show isTy .list (.lst l) = true from rfl]
      walk_at "wp"
      refine ⟨ty, ty, ?_⟩
      rw [ne_bb, beq_self_eq_true]
      walk_at "wp"
      refine ⟨ty, ty, ?_⟩
      rw [ne_bb, beq_self_eq_true]
      walk_at "wp"
      rw [beq_self_eq_true]
      walk_at "wp"
      refine ⟨hrg, ?_⟩
      refine key _ (.inl rfl) _ ?_
      rw [all_l, hall]
      exact h
    · have ty : ∃ s, tyD (D.tup l) = some s := ⟨_, rfl⟩
      walk_at "wp"
      refine ⟨ty, ?_⟩
      rw [show isTy .list (.tup l) = false from rfl]
      walk_at "wp"
      refine ⟨ty, ?_⟩
      rw [show isTy .tuple (.tup l) = true from rfl]
      walk_at "wp"
      refine ⟨ty, ty, ?_⟩
      rw [ne_bb, beq_self_eq_true]
      walk_at "wp"
      refine ⟨ty, ty, ?_⟩
      rw [ne_bb, beq_self_eq_true]
      walk_at "wp"
      rw [beq_self_eq_true]
      walk_at "wp"
      refine ⟨hrg, ?_⟩
      refine key _ (.inr rfl) _ ?_
      rw [all_l, hall]
      exact h
end Ny
end
section
set_option Elab.async false
set_option linter.all false
set_option maxRecDepth 100000
/-! ## the law's sums: mathematics -/
namespace Ny
open PySem Pd Rt
theorem cTerm_eq {s : List Rat} {x : Rat} (h : x ∈ s) (e : Int) : (cTerm s x e : Rat) = (wholeI s 1 : Rat) * (wholeI s 1 : Rat) * sqd x e := by
  unfold cTerm sqd
  rw [Rat.intCast_mul, Rat.intCast_sub, place_eq h, Rat.intCast_mul]
  grind
theorem cTerm_sum {s : List Rat} : ∀ (t : List Rat) (r : List Int), (∀ x ∈ t, x ∈ s) → (((List.zipWith (cTerm s) t r).sum : Int) : Rat) = (wholeI s 1 : Rat) * (wholeI s 1 : Rat) * (List.zipWith sqd t r).sum
  | [], _, _ => by simp
  | x :: t, [], _ => by simp
  | x :: t, e :: r, h => by
    simp only [List.zipWith_cons_cons, List.sum_cons, Rat.intCast_add]
    rw [cTerm_sum t r fun z hz => h z (List.mem_cons_of_mem _ hz), cTerm_eq (h x (List.mem_cons_self ..))]
    grind
theorem cost_eq (s : List Rat) (p : Pt) : (costI s p : Rat) = (wholeI s 1 : Rat) * (wholeI s 1 : Rat) * prc p s := by
  have h := cTerm_sum (s := s) s p.row fun _ h => h
  have e : costI s p = -p.wt * wholeI s 1 * wholeI s 1 + (List.zipWith (cTerm s) s p.row).sum := rfl
  rw [e, Rat.intCast_add, h, Rat.intCast_mul, Rat.intCast_mul, Rat.intCast_neg]
  unfold prc
  rw [sumR_sum]
  grind
theorem whole_ne (s : List Rat) : (wholeI s 1 : Rat) ≠ 0 := by
  have w := whole_pos (s := s) (w := 1) (by decide)
  intro z
  have : wholeI s 1 = 0 := by exact_mod_cast z
  omega
theorem cost_div (s : List Rat) (p : Pt) (c : Int) : Rat.divInt (c * costI s p) (wholeI s 1 * wholeI s 1) = (c : Rat) * prc p s := by
  rw [Rat.divInt_eq_div, Rat.intCast_mul, Rat.intCast_mul, cost_eq]
  have w := whole_ne s
  generalize (wholeI s 1 : Rat) = B at w
  rw [Rat.div_def]
  have : (B * B)⁻¹ * (B * B) = 1 := Rat.inv_mul_cancel _ (by
    intro z
    rcases Rat.mul_eq_zero.mp z with z | z <;> exact w z)
  grind
theorem cost_le {s : List Rat} {p q : Pt} : costI s p ≤ costI s q ↔ prc p s ≤ prc q s := by
  have w := whole_pos (s := s) (w := 1) (by decide)
  have w' : (0 : Rat) < (wholeI s 1 : Rat) := Rat.intCast_pos.mpr w
  have w2 : (0 : Rat) < (wholeI s 1 : Rat) * (wholeI s 1 : Rat) := Rat.mul_pos w' w'
  rw [← Rat.intCast_le_intCast, cost_eq, cost_eq]
  constructor
  · intro z
    exact Rat.le_of_mul_le_mul_left z w2
  · intro z
    exact Rat.mul_le_mul_of_nonneg_left z (Rat.le_of_lt w2)
theorem least_cheap (ps : List Pt) (s : List Rat) : leastI (ps.map (costI s)) = cheap ps s := by
  unfold leastI cheap
  rw [List.length_map]
  refine List.filter_congr fun i hi => ?_
  have hi : i < ps.length := List.mem_range.mp hi
  rw [List.getElem?_eq_getElem hi, List.all_map]
  have e : (ps.map (costI s)).getD i 0 = costI s ps[i] := by simp [List.getD, hi]
  rw [e]
  dsimp only
  congr 1
  funext q
  show decide (costI s ps[i] ≤ costI s q) = decide (prc ps[i] s ≤ prc q s)
  exact decide_eq_decide.mpr cost_le
/-- sizes of prices at a company's spots -/
theorem prc_Q {dim : Nat} {p : Pt} {s : List Rat} (gp : GoodPt dim p) (hd : dim ≤ 3) (hl : s.length = dim) (hq : ∀ x ∈ s, Q 84 700 x) : Q (84 * 84) 1460 (prc p s) := by
  unfold prc
  have h1 : ∀ q ∈ List.zipWith sqd s p.row, Q (84 * 84) 1416 q := fun q hq' => by
    rw [show List.zipWith sqd s p.row = (s.zip p.row).map fun z => sqd z.1 z.2 by rw [List.zip, List.map_zipWith]] at hq'
    obtain ⟨⟨x, e⟩, hz, rfl⟩ := List.mem_map.mp hq'
    have be := ent_bd (gp.ent e (List.of_mem_zip hz).2)
    have qe : Q 84 707 ((e : Int) : Rat) := (Q.ofInt (by decide) be (c := 7) (by decide)).mono (by decide)
    have qx := (hq x (List.of_mem_zip hz).1).mono (show 700 ≤ 707 by decide)
    have := qx.sub (by decide) qe
    exact (this.mul this).mono (by decide)
  have h2 := sumR_Q (m := 84 * 84) (by decide) (a := 0) (b := 1416) Q.zero h1
  have h3 : (List.zipWith sqd s p.row).length ≤ 3 := by rw [List.length_zipWith]; omega
  have h4 : Q (84 * 84) 1459 ((p.wt : Int) : Rat) := (Q.ofInt (by decide) (wt_bd gp.wt) (c := 13) (by decide)).mono (by decide)
  exact (h2.mono (by omega)).sub (by decide) h4
theorem comp_ok {dim : Nat} {S : List (List Rat)} {cs : List Int} (h : Comp dim S cs) {s : List Rat} (hs : s ∈ S) : OkSpot dim s := by
  obtain ⟨h1, h2⟩ := h.spot s hs
  exact ⟨h1, 84, by decide, by decide, fun x hx => (h2 x hx).mono (by decide)⟩
end Ny
end
section
set_option Elab.async false
set_option linter.all false
set_option maxRecDepth 100000
set_option exponentiation.threshold 5000
namespace Ny
open PySem Pd Rt
local macro_rules | `(tactic| walk_at "wp") => `(tactic| simp only [wSs, wS, wE, wEs, wT, wBp, wTb, wQ, wO, wI, Co.d, List.length_cons, List.length_nil, List.append_nil, List.map_cons, List.map_nil, List.cons_append, List.nil_append, if_true, if_false, Bool.false_eq_true, reduceIte, reduceCtorEq, Bool.not_true, Bool.not_false, true_and, and_true,
  Pd.getV_0, Pd.getV_s, Pd.getL_0, Pd.getL_s, Pd.set_0, Pd.set_s, Pd.asB_b, Pd.asI_i, Pd.asQ_l, Pd.asQ_t, Pd.asLs_l, Pd.add_ii, Pd.add_ss, Pd.add_ll, Pd.add_tt, Pd.sub_ii, Pd.mul_ii, Pd.mul_li, Pd.fdiv_ii, Pd.mod_ii, Pd.pow_ii, Pd.lt_ii, Pd.le_ii, Pd.gt_ii, Pd.ge_ii, Pd.eq_ii, Pd.ne_ii, Pd.isn_n, Pd.isnn_n,
  Pd.truth_b, Pd.truth_i, Pd.truth_l, Pd.truth_t, Pd.len_l, Pd.len_t, Pd.len_s, Pd.abs_i, Pd.min2_ii, Pd.max2_ii, Pd.int_i, Pd.int_b, Pd.tuple_l, Pd.tuple_t, Pd.list_l, Pd.list_t, Pd.all_l, Pd.sum_l, Pd.sum_t, Pd.ix_l0, Pd.ix_t0, Pd.ix_l1, Pd.ix_t1, Pd.ix_t2,
  Pd.tg_nm, Pd.tg_tp, Pd.tgs_nil, Pd.tgs_cons, Pd.setQ_f, Pd.setQ_t, Pd.wipe_n, Pd.wipe_c])
theorem sum_Q {m b : Nat} (hm : m ≠ 0) {l : List Rat} (h : ∀ q ∈ l, Q m b q) : Q m (b + l.length) l.sum := by
  have := sumR_Q hm (a := 0) (b := b) Q.zero h
  rw [sumR_sum, Rat.zero_add] at this
  exact this
theorem sum_bd {n : Nat} : ∀ {l : List Int}, (∀ x ∈ l, Bd n x) → Bd (n + l.length) l.sum
  | [], _ => by unfold Bd; simp; exact Nat.two_pow_pos _
  | x :: l, h => by
    have h1 := h x (List.mem_cons_self ..)
    have h2 := sum_bd (l := l) fun y hy => h y (List.mem_cons_of_mem _ hy)
    rw [List.sum_cons, List.length_cons]
    exact ((h1.mono (by omega)).add h2).mono (by omega)
theorem ok_sm {dim : Nat} {s : List Rat} (h : OkSpot dim s) : ∀ x ∈ s, Sm 1000 x := by
  obtain ⟨hs, M, hM, hM2, hq⟩ := h
  exact fun x hx => (hq x hx).sm hM (Nat.lt_of_lt_of_le hM2 (Nat.pow_le_pow_right (by decide) (by decide))) (by decide)
theorem ok_wb {dim : Nat} {s : List Rat} (h : OkSpot dim s) (hd : dim ≤ 3) : Bd 721 (wholeI s 1) := by
  obtain ⟨hs, M, hM, hM2, hq⟩ := h
  have dn : ∀ x ∈ s, Bd 240 (x.den : Int) := fun x hx => by
    obtain ⟨k, e, _⟩ := hq x hx
    rw [e, Rat.den_mkRat, if_neg (by omega)]
    unfold Bd
    rw [Int.natAbs_natCast]
    exact Nat.lt_of_le_of_lt (Nat.div_le_self _ _) hM2
  have := whole_bd (b := 1) (w := 1) (bd_of (by decide)) dn
  rw [hs] at this
  exact this.mono (by omega)
theorem cost_bd {dim : Nat} {p : Pt} {s : List Rat} (gp : GoodPt dim p) (h : OkSpot dim s) (hd : dim ≤ 3) : Bd 3448 (costI s p) := by
  have sm := ok_sm h
  have hw := ok_wb h hd
  have e : costI s p = -p.wt * wholeI s 1 * wholeI s 1 + (List.zipWith (cTerm s) s p.row).sum := rfl
  rw [e]
  have h1 : Bd 3447 (-p.wt * wholeI s 1 * wholeI s 1) := (((wt_bd gp.wt).neg.mul hw).mul hw).mono (by decide)
  have h2 : ∀ x ∈ List.zipWith (cTerm s) s p.row, Bd 3444 x := fun x hx => by
    rw [show List.zipWith (cTerm s) s p.row = (s.zip p.row).map fun z => cTerm s z.1 z.2 by rw [List.zip, List.map_zipWith]] at hx
    obtain ⟨⟨y, e⟩, hz, rfl⟩ := List.mem_map.mp hx
    have be := ent_bd (gp.ent e (List.of_mem_zip hz).2)
    have sy := sm y (List.of_mem_zip hz).1
    have b1 : Bd 1721 (y.num * (wholeI s 1).fdiv y.den) := sy.num.mul hw.fdiv
    have b2 : Bd 1721 (e * wholeI s 1) := (be.mul hw).mono (by decide)
    exact ((b1.sub b2).mul (b1.sub b2)).mono (by decide)
  have h3 := sum_bd h2
  have h4 : (List.zipWith (cTerm s) s p.row).length ≤ 3 := by
    rw [List.length_zipWith, h.1]
    omega
  exact (h1.add (h3.mono (by omega))).mono (by decide)
theorem whole_nz (s : List Rat) : wholeI s 1 * wholeI s 1 ≠ 0 := by
  have w := whole_pos (s := s) (w := 1) (by decide)
  have := Int.mul_pos w w
  omega
section
variable {dim : Nat} {S : List (List Rat)} {cs : List Int} {ps : List Pt}
theorem tot_Q (h : Comp dim S cs) {p : Pt} (gp : GoodPt dim p) : ∀ q ∈ totL S cs p, Q (84 * 84) 1680 q := fun q hq => by
  unfold totL at hq
  rw [show List.zipWith (fun (s : List Rat) (c : Int) => (c : Rat) * prc p s) S cs = (S.zip cs).map fun z => (z.2 : Rat) * prc p z.1 by rw [List.zip, List.map_zipWith]] at hq
  obtain ⟨⟨s, c⟩, hz, rfl⟩ := List.mem_map.mp hq
  have h1 := h.spot s (List.of_mem_zip hz).1
  have h2 := h.cnt c (List.of_mem_zip hz).2
  exact (Q.imul h2.2 (prc_Q gp h.dm.2 h1.1 h1.2)).mono (by decide)
theorem tot_get (h : Comp dim S cs) {p : Pt} {k : Nat} (hk : k < S.length) (hk2 : k < cs.length) : (totL S cs p)[k]? = some ((cs[k] : Rat) * prc p S[k]) := by
  unfold totL
  rw [List.getElem?_zipWith, List.getElem?_eq_getElem hk, List.getElem?_eq_getElem hk2]
end
theorem w__law_sums (ds P R) (hl : ds.length = 3) (h : sp__law_sums ds P R) : wSs ir__law_sums R (rho0 N__law_sums ds) (E0 P) := by
  obtain ⟨dim, ps, S, cs, rfl, gp, hc, h⟩ := h
  rw [r__law_sums, ir__law_sums]
  simp only [F__law_costs, F__law_plus, F__law_lowest]
  unfold ptsD spotsD cntD
  walk_at "wp"
  have fewp : ps.length ≤ 12 := Nat.le_trans gp.most (lim_le gp.dm)
  refine loop_map (f := fun _ : Pt => rat 0) (fun p hp K hK => ?_) ?_
  · exact ⟨by decide, hK⟩
  rw [List.nil_append]
  have lenS : (spotsL S).length = S.length := by unfold spotsL; rw [List.length_map]
  rw [lenS]
  refine ⟨⟨by omega, Int.ofNat_le.mpr (Nat.le_trans hc.most (by decide))⟩, ?_⟩
  refine for_rng (fun k ρ => ∃ u4 u5 u6 u7 u8 : Sl, ρ = [.val (.lst (ps.map ptD)), .val (.lst (spotsL S)), .val (.lst (cs.map D.int)), .val (.lst (ps.map fun p => rat ((totL S cs p).take k).sum)), u4, u5, u6, u7, u8]) ⟨.un, .un, .un, .un, .un, by simp only [List.take_zero, List.sum_nil]⟩ ?_ ?_
  · rintro k ρ K hk ⟨u4, u5, u6, u7, u8, rfl⟩ hK
    have hk2 : k < cs.length := by rw [← hc.len]; exact hk
    have ms := List.getElem_mem hk
    have es : (spotsL S)[k]? = some (spotD S[k]) := by unfold spotsL; rw [List.getElem?_map, List.getElem?_eq_getElem hk]; rfl
    have ec : (cs.map D.int)[k]? = some (.int cs[k]) := by rw [List.getElem?_map, List.getElem?_eq_getElem hk2]; rfl
    have oks := comp_ok hc ms
    have hw := ok_wb oks hc.dm.2
    have bc := (hc.cnt _ (List.getElem_mem hk2)).2
    walk_at "wp"
    rw [ix_ln]
    refine ⟨_, es, dim, ps, S[k], rfl, gp, oks, ?_⟩
    walk_at "wp"
    rw [List.length_map]
    refine ⟨⟨by omega, Int.ofNat_le.mpr (Nat.le_trans fewp (by decide))⟩, ?_⟩
    rw [rg_eq]
    refine loop_map (f := fun i : Nat => match ps[i]? with | some p => rat ((totL S cs p).take (k + 1)).sum | none => .non) (fun i hi K hK => ?_) ?_
    · have hi : i < ps.length := List.mem_range.mp hi
      have ei : ps[i]? = some ps[i] := List.getElem?_eq_getElem hi
      have gpi := gp.pts _ (List.getElem_mem hi)
      rw [ix_ln]
      refine ⟨rat ((totL S cs ps[i]).take k).sum, by rw [List.getElem?_map, ei]; rfl, ?_⟩
      rw [ix_ln]
      refine ⟨_, ec, ?_⟩
      rw [ix_ln]
      refine ⟨.int (costI S[k] ps[i]), by rw [List.getElem?_map, List.getElem?_map, ei]; rfl, ?_⟩
      walk_at "wp"
      refine ⟨bc.mulOk (cost_bd gpi oks hc.dm.2), _, _, rfl, whole_nz _, (hw.mul hw).mono (by decide), ?_⟩
      rw [cost_div]
      have tq := tot_Q hc gpi
      have q1 : Q (84 * 84) 1720 ((totL S cs ps[i]).take k).sum := by
        have := sum_Q (m := 84 * 84) (by decide) (b := 1680) (l := (totL S cs ps[i]).take k) fun q hq => tq q (List.mem_of_mem_take hq)
        refine this.mono ?_
        have h1 : ((totL S cs ps[i]).take k).length ≤ k := by rw [List.length_take]; omega
        have h2 := hc.most
        omega
      have eg := tot_get hc (p := ps[i]) hk hk2
      have q2 : Q (84 * 84) 1680 ((cs[k] : Rat) * prc ps[i] S[k]) := tq _ (List.mem_of_getElem? eg)
      refine ⟨_, _, rfl, q1.sm (by decide) big7056 (by decide), q2.sm (by decide) big7056 (by decide), ?_⟩
      rw [ei] at hK
      have e3 : ((totL S cs ps[i]).take (k + 1)).sum = ((totL S cs ps[i]).take k).sum + (cs[k] : Rat) * prc ps[i] S[k] := by
        rw [List.take_add_one, eg, List.sum_append]
        simp [Rat.add_zero]
      dsimp only at hK
      rw [e3] at hK
      exact hK
    · refine hK _ ⟨u4, .val (.int (k : Nat)), .val (.lst ((ps.map (costI S[k])).map D.int)), .val (.int (wholeI S[k] 1 * wholeI S[k] 1)), u8, ?_⟩
      have e4 : [] ++ (List.range ps.length).map (fun i : Nat => match ps[i]? with | some p => rat ((totL S cs p).take (k + 1)).sum | none => D.non) = ps.map fun p => rat ((totL S cs p).take (k + 1)).sum := by
        rw [List.nil_append]
        apply List.ext_getElem?
        intro i
        rw [List.getElem?_map, List.getElem?_map]
        by_cases hi : i < ps.length
        · rw [List.getElem?_range hi, List.getElem?_eq_getElem hi]
          simp [List.getElem?_eq_getElem hi]
        · rw [List.getElem?_eq_none (by rw [List.length_range]; omega), List.getElem?_eq_none (by omega)]
          rfl
      rw [e4]
  · rintro ρ ⟨u4, u5, u6, u7, u8, rfl⟩
    walk_at "wp"
    have e : (ps.map fun p => rat ((totL S cs p).take S.length).sum) = (ps.map (totS S cs)).map rat := by
      rw [List.map_map]
      refine List.map_congr_left fun p _ => ?_
      show rat _ = rat (totL S cs p).sum
      rw [List.take_of_length_le (by unfold totL; rw [List.length_zipWith]; omega)]
    rw [e]
    exact h
end Ny
end
section
set_option Elab.async false
set_option linter.all false
set_option maxRecDepth 100000
set_option exponentiation.threshold 5000
namespace Ny
open PySem Pd Rt
local macro_rules | `(tactic| walk_at "wp") => `(tactic| simp only [wSs, wS, wE, wEs, wT, wBp, wTb, wQ, wO, wI, Co.d, List.length_cons, List.length_nil, List.append_nil, List.map_cons, List.map_nil, List.cons_append, List.nil_append, if_true, if_false, Bool.false_eq_true, reduceIte, reduceCtorEq, Bool.not_true, Bool.not_false, true_and, and_true,
  Pd.getV_0, Pd.getV_s, Pd.getL_0, Pd.getL_s, Pd.set_0, Pd.set_s, Pd.asB_b, Pd.asI_i, Pd.asQ_l, Pd.asQ_t, Pd.asLs_l, Pd.add_ii, Pd.add_ss, Pd.add_ll, Pd.add_tt, Pd.sub_ii, Pd.mul_ii, Pd.mul_li, Pd.fdiv_ii, Pd.mod_ii, Pd.pow_ii, Pd.lt_ii, Pd.le_ii, Pd.gt_ii, Pd.ge_ii, Pd.eq_ii, Pd.ne_ii, Pd.isn_n, Pd.isnn_n,
  Pd.truth_b, Pd.truth_i, Pd.truth_l, Pd.truth_t, Pd.len_l, Pd.len_t, Pd.len_s, Pd.abs_i, Pd.min2_ii, Pd.max2_ii, Pd.int_i, Pd.int_b, Pd.tuple_l, Pd.tuple_t, Pd.list_l, Pd.list_t, Pd.all_l, Pd.sum_l, Pd.sum_t, Pd.ix_l0, Pd.ix_t0, Pd.ix_l1, Pd.ix_t1, Pd.ix_t2,
  Pd.tg_nm, Pd.tg_tp, Pd.tgs_nil, Pd.tgs_cons, Pd.setQ_f, Pd.setQ_t, Pd.wipe_n, Pd.wipe_c])
theorem scale_div (c : Int) (x : Rat) : Rat.divInt (c * x.num) x.den = (c : Rat) * x := by
  have h := Rat.num_divInt_den x
  rw [Rat.divInt_eq_div] at h ⊢
  rw [Rat.intCast_mul, Rat.div_def, Rat.mul_assoc, ← Rat.div_def, h]
theorem sq_div2 (c : Int) (d : Rat) : Rat.divInt (c * d.num * d.num) (d.den * d.den) = (c : Rat) * (d * d) := by
  have h : d * d = Rat.divInt (d.num * d.num) (d.den * d.den) := by
    rw [← Rat.divInt_mul_divInt, Rat.num_divInt_den]
  rw [h, Rat.divInt_eq_div, Rat.divInt_eq_div, Int.mul_assoc, Rat.intCast_mul c, Rat.div_def, Rat.div_def, Rat.mul_assoc]
theorem inv_div {cs : List Int} (h : 0 < cs.sum) (q : Rat) : Rat.divInt q.num (q.den * cs.sum) = q * invN cs := by
  unfold invN
  have e : ((q.den : Int) * cs.sum) = ((q.den * cs.sum.toNat : Nat) : Int) := by
    rw [Int.natCast_mul, Int.toNat_of_nonneg (by omega)]
  rw [e, Rat.divInt_ofNat]
  conv => rhs; rw [← Rat.mkRat_self q]
  rw [Rat.mkRat_mul_mkRat, Int.mul_one]
theorem neg_rat (y : Rat) : D.tup [.int (-y.num), .int y.den] = rat (-y) := by
  unfold rat
  rw [Rat.neg_num, Rat.neg_den]
def colL (S : List (List Rat)) (cs : List Int) (k : Nat) : List Rat := List.zipWith (fun (s : List Rat) (c : Int) => (c : Rat) * s.getD k 0) S cs
theorem colR_sum (S : List (List Rat)) (cs : List Int) (k : Nat) : colR S cs k = (colL S cs k).sum := by
  show sumR 0 (colL S cs k) = _
  rw [sumR_sum, Rat.zero_add]
theorem w__law_middle_of (ds P R) (hl : ds.length = 2) (h : sp__law_middle_of ds P R) : wSs ir__law_middle_of R (rho0 N__law_middle_of ds) (E0 P) := by
  obtain ⟨dim, S, cs, rfl, hc, h⟩ := h
  rw [r__law_middle_of, ir__law_middle_of]
  simp only [F__law_plus, F__law_lowest]
  unfold spotsD cntD
  have dm := hc.dm
  have sp := hc.sum_pos
  have sb := hc.sum_bd
  have lenS : (spotsL S).length = S.length := by unfold spotsL; rw [List.length_map]
  have eS : ∀ {k : Nat} (hk : k < S.length), (spotsL S)[k]? = some (spotD S[k]) := fun {k} hk => by unfold spotsL; rw [List.getElem?_map, List.getElem?_eq_getElem hk]; rfl
  have ec : ∀ {k : Nat} (hk : k < cs.length), (cs.map D.int)[k]? = some (.int cs[k]) := fun {k} hk => by rw [List.getElem?_map, List.getElem?_eq_getElem hk]; rfl
  have ex : ∀ {s : List Rat} {k : Nat} (hk : k < s.length), (s.map rat)[k]? = some (rat s[k]) := fun {s k} hk => by rw [List.getElem?_map, List.getElem?_eq_getElem hk]; rfl
  have one := hc.one
  have e0 := eS hc.one
  have l0 := (hc.spot _ (List.getElem_mem hc.one)).1
  have mb : Bd 226 cs.sum := by unfold Bd; omega
  walk_at "wp"
  refine ⟨Nat.zero_le _, ?_⟩
  refine ix_q0 (d := .lst (spotsL S)) rfl e0 ?_
  rw [show spotD S[0] = .tup (S[0].map rat) from rfl]
  walk_at "wp"
  rw [List.length_map, l0]
  refine ⟨⟨by omega, Int.ofNat_le.mpr (Nat.le_trans dm.2 (by decide))⟩, ?_⟩
  refine for_rng (fun k ρ => ∃ u3 u4 u5 : Sl, ρ = [.val (.lst (spotsL S)), .val (.lst (cs.map D.int)), .ml ((List.range k).map fun j => rat (colR S cs j * invN cs)), u3, u4, u5, .un]) ⟨.un, .un, .un, rfl⟩ ?_ ?_
  · rintro k ρ K hk ⟨u3, u4, u5, rfl⟩ hK
    walk_at "wp"
    refine ⟨by decide, ?_⟩
    rw [lenS]
    refine ⟨⟨by omega, Int.ofNat_le.mpr (Nat.le_trans hc.most (by decide))⟩, ?_⟩
    have inQ : ∀ q ∈ colL S cs k, Q 84 920 q := col_in hc hk
    refine for_rng (fun m ρ => ∃ u5 : Sl, ρ = [.val (.lst (spotsL S)), .val (.lst (cs.map D.int)), .ml ((List.range k).map fun j => rat (colR S cs j * invN cs)), .val (.int (k : Nat)), .val (rat ((colL S cs k).take m).sum), u5, .un]) ⟨u5, rfl⟩ ?_ ?_
    · rintro m ρ K hm ⟨u5, rfl⟩ hK
      have hm2 : m < cs.length := by rw [← hc.len]; exact hm
      have hs := hc.spot _ (List.getElem_mem hm)
      have hks : k < S[m].length := by rw [hs.1]; exact hk
      have bc := (hc.cnt _ (List.getElem_mem hm2)).2
      have qx := hs.2 _ (List.getElem_mem hks)
      have sx := qx.sm (n := 4000) (by decide) big84 (by decide)
      have ixx : ∀ Q : D → Bool → Prop, Q (rat S[m][k]) false → wIx (.lst (spotsL S)) (.int (m : Nat)) (fun d _ => wIx d (.int (k : Nat)) Q) := fun Q hQ => by
        rw [ix_ln]
        refine ⟨_, eS hm, ?_⟩
        show wIx (.tup (S[m].map rat)) _ _
        rw [ix_tn]
        exact ⟨_, ex hks, hQ⟩
      walk_at "wp"
      rw [ix_ln]
      refine ⟨_, ec hm2, ixx _ ?_⟩
      rw [show rat S[m][k] = .tup [.int S[m][k].num, .int S[m][k].den] from rfl]
      walk_at "wp"
      refine ⟨bc.mulOk sx.num, ixx _ ?_⟩
      rw [show rat S[m][k] = .tup [.int S[m][k].num, .int S[m][k].den] from rfl]
      walk_at "wp"
      refine ⟨_, _, rfl, by have := S[m][k].den_nz; omega, sx.den.mono (by decide), ?_⟩
      rw [scale_div]
      have eg : (colL S cs k)[m]? = some ((cs[m] : Rat) * S[m][k]) := by
        unfold colL
        rw [List.getElem?_zipWith, List.getElem?_eq_getElem hm, List.getElem?_eq_getElem hm2]
        have : S[m].getD k 0 = S[m][k] := by simp [List.getD, hks]
        show some ((cs[m] : Rat) * S[m].getD k 0) = _
        rw [this]
      have q1 : Q 84 960 ((colL S cs k).take m).sum := by
        have := sum_Q (m := 84) (by decide) (b := 920) (l := (colL S cs k).take m) fun q hq => inQ q (List.mem_of_mem_take hq)
        refine this.mono ?_
        have h1 : ((colL S cs k).take m).length ≤ m := by rw [List.length_take]; omega
        have h2 := hc.most
        omega
      have q2 : Q 84 920 ((cs[m] : Rat) * S[m][k]) := inQ _ (List.mem_of_getElem? eg)
      refine ⟨_, _, rfl, q1.sm (by decide) big84 (by decide), q2.sm (by decide) big84 (by decide), hK _ ⟨.val (.int (m : Nat)), ?_⟩⟩
      have e3 : ((colL S cs k).take (m + 1)).sum = ((colL S cs k).take m).sum + (cs[m] : Rat) * S[m][k] := by
        rw [List.take_add_one, eg, List.sum_append]
        simp [Rat.add_zero]
      rw [e3]
      rfl
    · rintro ρ ⟨u5, rfl⟩
      have et : ((colL S cs k).take S.length).sum = colR S cs k := by
        rw [colR_sum, List.take_of_length_le (by unfold colL; rw [List.length_zipWith]; omega)]
      rw [et]
      have qc := col_Q hc hk
      have sc := qc.sm (n := 4000) (by decide) big84 (by decide)
      rw [show rat (colR S cs k) = .tup [.int (colR S cs k).num, .int (colR S cs k).den] from rfl]
      walk_at "wp"
      refine ⟨by rw [List.length_map, List.length_range]; exact Nat.lt_of_le_of_lt (show k ≤ 3 by omega) (by decide), sc.den.mulOk mb, _, _, rfl, ?_, (sc.den.mul mb).mono (by decide), ?_⟩
      · have := (colR S cs k).den_nz
        intro z
        rcases Int.mul_eq_zero.mp z with z | z <;> omega
      · rw [inv_div sp]
        refine hK _ ⟨.val (.int (k : Nat)), .val (.tup [.int (colR S cs k).num, .int (colR S cs k).den]), u5, ?_⟩
        rw [List.range_succ, List.map_append]
        rfl
  · rintro ρ ⟨u3, u4, u5, rfl⟩
    have em : (List.range dim).map (fun j => rat (colR S cs j * invN cs)) = (meanR dim S cs).map rat := by
      unfold meanR
      rw [List.map_map]; rfl
    rw [em]
    walk_at "wp"
    refine ⟨by decide, ?_⟩
    rw [lenS]
    refine ⟨⟨by omega, Int.ofNat_le.mpr (Nat.le_trans hc.most (by decide))⟩, ?_⟩
    generalize hM : meanR dim S cs = mean at h ⊢
    have lm : mean.length = dim := by rw [← hM]; unfold meanR; rw [List.length_map, List.length_range]
    have big : 84 * cs.sum.toNat < 2 ^ 233 := by
      have : 84 * cs.sum.toNat < 2 ^ 7 * 2 ^ 226 := Nat.mul_lt_mul'' (by decide) sb
      exact Nat.lt_of_lt_of_le this (by decide)
    have big2 : 84 * cs.sum.toNat * (84 * cs.sum.toNat) < 2 ^ 4000 := by
      have : 84 * cs.sum.toNat * (84 * cs.sum.toNat) < 2 ^ 233 * 2 ^ 233 := Nat.mul_lt_mul'' big big
      exact Nat.lt_of_lt_of_le this (by decide)
    have N0 : 0 < 84 * cs.sum.toNat := by omega
    have NN : 0 < 84 * cs.sum.toNat * (84 * cs.sum.toNat) := Nat.mul_pos N0 N0
    have qm : ∀ y ∈ mean, Q (84 * cs.sum.toNat) 953 y := fun y hy => by
      rw [← hM] at hy
      obtain ⟨k, hk, rfl⟩ := List.mem_map.mp hy
      exact (col_Q hc (List.mem_range.mp hk)).mul (inv_Q sp)
    have qx : ∀ {s : List Rat}, s ∈ S → ∀ x ∈ s, Q (84 * cs.sum.toNat) 953 x := fun {s} hs x hx =>
      (((hc.spot s hs).2 x hx).lift (n := cs.sum.toNat) (c := 226) (by omega) sb).mono (by decide)
    have qrow : ∀ {s : List Rat} {c : Int}, s ∈ S → c ∈ cs → ∀ q ∈ farRow mean s c, Q (84 * cs.sum.toNat * (84 * cs.sum.toNat)) 2140 q := fun {s c} hs hcc q hq => by
      unfold farRow at hq
      rw [show List.zipWith (fun (x y : Rat) => (c : Rat) * ((x - y) * (x - y))) s mean = (s.zip mean).map fun z => (c : Rat) * ((z.1 - z.2) * (z.1 - z.2)) by rw [List.zip, List.map_zipWith]] at hq
      obtain ⟨⟨x, y⟩, hz, rfl⟩ := List.mem_map.mp hq
      have d := (qx hs x (List.of_mem_zip hz).1).sub (by omega) (qm y (List.of_mem_zip hz).2)
      exact (Q.imul (hc.cnt c hcc).2 (d.mul d)).mono (by decide)
    have lrow : ∀ {s : List Rat} {c : Int}, s ∈ S → (farRow mean s c).length = dim := fun {s c} hs => by
      unfold farRow
      rw [List.length_zipWith, (hc.spot s hs).1, lm]; omega
    have qfar : ∀ q ∈ List.zipWith (fun s c => (farRow mean s c).sum) S cs, Q (84 * cs.sum.toNat * (84 * cs.sum.toNat)) 2143 q := fun q hq => by
      rw [show List.zipWith (fun s c => (farRow mean s c).sum) S cs = (S.zip cs).map fun z => (farRow mean z.1 z.2).sum by rw [List.zip, List.map_zipWith]] at hq
      obtain ⟨⟨s, c⟩, hz, rfl⟩ := List.mem_map.mp hq
      have hs := (List.of_mem_zip hz).1
      have := sum_Q (by omega) (qrow hs (List.of_mem_zip hz).2)
      rw [lrow hs] at this
      exact this.mono (by omega)
    refine for_rng (fun m ρ => ∃ u3 u4 u5 : Sl, ρ = [.val (.lst (spotsL S)), .val (.lst (cs.map D.int)), .val (.lst (mean.map rat)), u3, u4, u5, .val (rat ((List.zipWith (fun s c => (farRow mean s c).sum) S cs).take m).sum)]) ⟨u3, u4, u5, rfl⟩ ?_ ?_
    · rintro m ρ K hm ⟨u3, u4, u5, rfl⟩ hK
      have hm2 : m < cs.length := by rw [← hc.len]; exact hm
      have ms := List.getElem_mem hm
      have hs := hc.spot _ ms
      have bc := (hc.cnt _ (List.getElem_mem hm2)).2
      generalize hF : ((List.zipWith (fun s c => (farRow mean s c).sum) S cs).take m).sum = F
      have qF : Q (84 * cs.sum.toNat * (84 * cs.sum.toNat)) 2175 F := by
        rw [← hF]
        have := sum_Q (by omega) (b := 2143) (l := (List.zipWith (fun s c => (farRow mean s c).sum) S cs).take m) fun q hq => qfar q (List.mem_of_mem_take hq)
        refine this.mono ?_
        have h1 : ((List.zipWith (fun s c => (farRow mean s c).sum) S cs).take m).length ≤ m := by rw [List.length_take]; omega
        have h2 := hc.most
        omega
      walk_at "wp"
      rw [List.length_map, lm]
      refine ⟨⟨by omega, Int.ofNat_le.mpr (Nat.le_trans dm.2 (by decide))⟩, ?_⟩
      refine for_rng (fun k ρ => ∃ u3 u4 : Sl, ρ = [.val (.lst (spotsL S)), .val (.lst (cs.map D.int)), .val (.lst (mean.map rat)), u3, u4, .val (.int (m : Nat)), .val (rat (F + ((farRow mean S[m] cs[m]).take k).sum))]) ⟨u3, u4, by rw [List.take_zero, List.sum_nil, Rat.add_zero]⟩ ?_ ?_
      · rintro k ρ K hk ⟨u3, u4, rfl⟩ hK
        have hks : k < S[m].length := by rw [hs.1]; exact hk
        have hkm : k < mean.length := by rw [lm]; exact hk
        have x1 := qx ms _ (List.getElem_mem hks)
        have y1 := qm _ (List.getElem_mem hkm)
        have ey : (mean.map rat)[k]? = some (rat mean[k]) := ex hkm
        walk_at "wp"
        rw [ix_ln]
        refine ⟨_, eS hm, ?_⟩
        rw [show spotD S[m] = .tup (S[m].map rat) from rfl, ix_tn]
        refine ⟨_, ex hks, ?_⟩
        rw [ix_ln]
        refine ⟨_, ey, ?_⟩
        rw [show rat mean[k] = .tup [.int mean[k].num, .int mean[k].den] from rfl]
        walk_at "wp"
        rw [ix_ln]
        refine ⟨_, ey, ?_⟩
        rw [show rat mean[k] = .tup [.int mean[k].num, .int mean[k].den] from rfl]
        walk_at "wp"
        rw [neg_rat]
        have b233 : 84 * cs.sum.toNat < 2 ^ 4000 := Nat.lt_of_lt_of_le big (by decide)
        refine ⟨by decide, _, _, rfl, x1.sm N0 b233 (by decide), y1.neg.sm N0 b233 (by decide), ?_⟩
        have ed : S[m][k] + -mean[k] = S[m][k] - mean[k] := by rw [Rat.sub_eq_add_neg]
        rw [ed]
        have d1 := x1.sub (by omega) y1
        have sd := d1.sm (n := 1000) N0 (Nat.lt_of_lt_of_le big (by decide)) (by decide)
        generalize hd : S[m][k] - mean[k] = d at d1 sd
        rw [show rat d = .tup [.int d.num, .int d.den] from rfl]
        walk_at "wp"
        rw [ix_ln]
        refine ⟨_, ec hm2, ?_⟩
        walk_at "wp"
        refine ⟨bc.mulOk sd.num, (bc.mul sd.num).mulOk sd.num, sd.den.mulOk sd.den, _, _, rfl, ?_, (sd.den.mul sd.den).mono (by decide), ?_⟩
        · have := d.den_nz
          intro z
          rcases Int.mul_eq_zero.mp z with z | z <;> omega
        rw [sq_div2]
        have er : (farRow mean S[m] cs[m])[k]? = some ((cs[m] : Rat) * (d * d)) := by
          unfold farRow
          rw [List.getElem?_zipWith, List.getElem?_eq_getElem hks, List.getElem?_eq_getElem hkm]
          show some ((cs[m] : Rat) * ((S[m][k] - mean[k]) * (S[m][k] - mean[k]))) = _
          rw [hd]
        have qr := qrow ms (List.getElem_mem hm2)
        have q2 := qr _ (List.mem_of_getElem? er)
        have q1 : Q (84 * cs.sum.toNat * (84 * cs.sum.toNat)) 2176 (F + ((farRow mean S[m] cs[m]).take k).sum) := by
          have := sum_Q (by omega) (b := 2140) (l := (farRow mean S[m] cs[m]).take k) fun q hq => qr q (List.mem_of_mem_take hq)
          have h1 : ((farRow mean S[m] cs[m]).take k).length ≤ 3 := by rw [List.length_take]; omega
          exact qF.add (by omega) (this.mono (by omega))
        refine ⟨_, _, rfl, q1.sm NN big2 (by decide), q2.sm NN big2 (by decide), hK _ ⟨.val (.int (k : Nat)), .val (.tup [.int d.num, .int d.den]), ?_⟩⟩
        have e3 : F + ((farRow mean S[m] cs[m]).take (k + 1)).sum = F + ((farRow mean S[m] cs[m]).take k).sum + (cs[m] : Rat) * (d * d) := by
          rw [List.take_add_one, er, List.sum_append, Rat.add_assoc]
          simp [Rat.add_zero]
        rw [e3]
        rfl
      · rintro ρ ⟨u3, u4, rfl⟩
        refine hK _ ⟨u3, u4, .val (.int (m : Nat)), ?_⟩
        have eg : (List.zipWith (fun s c => (farRow mean s c).sum) S cs)[m]? = some (farRow mean S[m] cs[m]).sum := by
          rw [List.getElem?_zipWith, List.getElem?_eq_getElem hm, List.getElem?_eq_getElem hm2]
        have e3 : ((List.zipWith (fun s c => (farRow mean s c).sum) S cs).take (m + 1)).sum = F + (farRow mean S[m] cs[m]).sum := by
          rw [List.take_add_one, eg, List.sum_append, hF]
          simp [Rat.add_zero]
        have e4 : (farRow mean S[m] cs[m]).take dim = farRow mean S[m] cs[m] := List.take_of_length_le (by rw [lrow ms]; exact Nat.le_refl _)
        rw [e3, e4]
    · rintro ρ ⟨u3, u4, u5, rfl⟩
      walk_at "wp"
      have et : (List.zipWith (fun s c => (farRow mean s c).sum) S cs).take S.length = List.zipWith (fun s c => (farRow mean s c).sum) S cs := List.take_of_length_le (by rw [List.length_zipWith]; omega)
      rw [et]
      exact ⟨by decide, h⟩
end Ny
end
section
set_option Elab.async false
set_option linter.all false
set_option maxRecDepth 100000
set_option exponentiation.threshold 5000
namespace Ny
open PySem Pd Rt
local macro_rules | `(tactic| walk_at "wp") => `(tactic| simp only [wSs, wS, wE, wEs, wT, wBp, wTb, wQ, wO, wI, Co.d, List.length_cons, List.length_nil, List.append_nil, List.map_cons, List.map_nil, List.cons_append, List.nil_append, if_true, if_false, Bool.false_eq_true, reduceIte, reduceCtorEq, Bool.not_true, Bool.not_false, true_and, and_true,
  Pd.getV_0, Pd.getV_s, Pd.getL_0, Pd.getL_s, Pd.set_0, Pd.set_s, Pd.asB_b, Pd.asI_i, Pd.asQ_l, Pd.asQ_t, Pd.asLs_l, Pd.add_ii, Pd.add_ss, Pd.add_ll, Pd.add_tt, Pd.sub_ii, Pd.mul_ii, Pd.mul_li, Pd.fdiv_ii, Pd.mod_ii, Pd.pow_ii, Pd.lt_ii, Pd.le_ii, Pd.gt_ii, Pd.ge_ii, Pd.eq_ii, Pd.ne_ii, Pd.isn_n, Pd.isnn_n,
  Pd.truth_b, Pd.truth_i, Pd.truth_l, Pd.truth_t, Pd.len_l, Pd.len_t, Pd.len_s, Pd.abs_i, Pd.min2_ii, Pd.max2_ii, Pd.int_i, Pd.int_b, Pd.tuple_l, Pd.tuple_t, Pd.list_l, Pd.list_t, Pd.all_l, Pd.sum_l, Pd.sum_t, Pd.ix_l0, Pd.ix_t0, Pd.ix_l1, Pd.ix_t1, Pd.ix_t2,
  Pd.tg_nm, Pd.tg_tp, Pd.tgs_nil, Pd.tgs_cons, Pd.setQ_f, Pd.setQ_t, Pd.wipe_n, Pd.wipe_c])
theorem dem_len {ps : List Pt} : ∀ (S : List (List Rat)) (cs : List Int) (acc : List Int), (demL ps S cs acc).length = acc.length
  | [], _, _ => by unfold demL; rfl
  | _ :: _, [], _ => by unfold demL; rfl
  | s :: S, c :: cs, acc => by
    unfold demL
    rw [dem_len S cs, List.length_set]
theorem get_of {l : List Int} {i : Nat} (h : i < l.length) : (l.map D.int)[i]? = some (.int (l.getD i 0)) := by
  rw [List.getElem?_map, List.getElem?_eq_getElem h]
  simp [List.getD, h]
theorem at_of {l : List Int} {i : Nat} (h : i < l.length) : L2.atI (l.map D.int) (i : Int) = some (.int (l.getD i 0)) := by
  rw [atI_nat, get_of h]
theorem ixn_of {α : Type} {l : List α} {n i : Nat} (hl : l.length = n) (h : i < n) : L2.ixN l.length (i : Int) = some i := by
  rw [hl]
  unfold L2.ixN
  rw [if_pos (Int.natCast_nonneg i)]
  simp [h]
theorem w__law_demand (ds P R) (hl : ds.length = 3) (h : sp__law_demand ds P R) : wSs ir__law_demand R (rho0 N__law_demand ds) (E0 P) := by
  obtain ⟨dim, ps, S, cs, rfl, gp, hc, h⟩ := h
  rw [r__law_demand, ir__law_demand]
  simp only [F__law_least, F__law_costs]
  unfold ptsD spotsD cntD
  have fewp : ps.length ≤ 12 := Nat.le_trans gp.most (lim_le gp.dm)
  have lenS : (spotsL S).length = S.length := by unfold spotsL; rw [List.length_map]
  walk_at "wp"
  refine loop_map (f := fun _ : Pt => D.int 0) (fun p hp K hK => hK) ?_
  have e0 : [] ++ ps.map (fun _ => D.int 0) = (List.replicate ps.length (0 : Int)).map D.int := by
    rw [List.nil_append, List.map_const', List.map_replicate]
  rw [e0]
  rw [lenS]
  refine ⟨⟨by omega, Int.ofNat_le.mpr (Nat.le_trans hc.most (by decide))⟩, ?_⟩
  refine for_rng (fun m ρ => ∃ (acc : List Int) (u5 u6 : Sl), ρ = [.val (.lst (ps.map ptD)), .val (.lst (spotsL S)), .val (.lst (cs.map D.int)), .ml (acc.map D.int), .un, u5, u6] ∧ acc.length = ps.length ∧ demL ps (S.drop m) (cs.drop m) acc = demL ps S cs (List.replicate ps.length 0)) ⟨_, .un, .un, rfl, List.length_replicate, rfl⟩ ?_ ?_
  · rintro m ρ K hm ⟨acc, u5, u6, rfl, la, hd⟩ hK
    have hm2 : m < cs.length := by rw [← hc.len]; exact hm
    have es : (spotsL S)[m]? = some (spotD S[m]) := by unfold spotsL; rw [List.getElem?_map, List.getElem?_eq_getElem hm]; rfl
    have ec : (cs.map D.int)[m]? = some (.int cs[m]) := by rw [List.getElem?_map, List.getElem?_eq_getElem hm2]; rfl
    have oks := comp_ok hc (List.getElem_mem hm)
    obtain ⟨i, r, ei, hi⟩ := cheap_ne gp S[m]
    walk_at "wp"
    rw [ix_ln]
    refine ⟨_, es, dim, ps, S[m], rfl, gp, oks, ?_⟩
    walk_at "wp"
    refine ⟨ps.map (costI S[m]), rfl, by rw [List.length_map]; exact Nat.le_trans fewp (by decide), ?_⟩
    rw [least_cheap, ei]
    show wIx (.lst (.int (i : Nat) :: natsD r)) (.int 0) _
    walk_at "wp"
    refine ⟨_, at_of (by rw [la]; exact hi), ?_⟩
    rw [ix_ln]
    refine ⟨_, ec, ?_⟩
    walk_at "wp"
    refine ⟨i, ixn_of (by rw [List.length_map]; exact la) hi, hK _ ⟨acc.set i (acc.getD i 0 + cs[m]), .val (.int (m : Nat)), .val (.int (i : Nat)), ?_, by rw [List.length_set]; exact la, ?_⟩⟩
    · rw [List.map_set]
    · rw [← hd, List.drop_eq_getElem_cons hm, List.drop_eq_getElem_cons hm2]
      conv => rhs; unfold demL
      rw [ei]
      rfl
  · rintro ρ ⟨acc, u5, u6, rfl, la, hd⟩
    walk_at "wp"
    have e1 : S.drop S.length = [] := List.drop_length
    rw [e1] at hd
    have e2 : acc = demL ps S cs (List.replicate ps.length 0) := by
      rw [← hd]
      unfold demL; rfl
    rw [e2]
    exact h
theorem w_demand (ds P R) (hl : ds.length = 3) (h : sp_demand ds P R) : wSs ir_demand R (rho0 N_demand ds) (E0 P) := by
  obtain ⟨dim, ps, d, c, rfl, gp, pd, pc, h⟩ := h
  rw [r_demand, ir_demand]
  simp only [F_check_company, F_cheapest]
  walk_at "wp"
  refine ⟨rfl, .int dim, rfl, (dim : Int), d, c, rfl, dim_ok gp.dm, pd, pc, ?_⟩
  cases er : compRef dim d c with
  | some e => rw [er] at h; exact h
  | none =>
    rw [er] at h
    obtain ⟨S, cs, hc, h⟩ := h
    have hok := hc.ok
    have fewp : ps.length ≤ 12 := Nat.le_trans gp.most (lim_le gp.dm)
    walk_at "wp"
    refine ⟨by decide, rfl, .int ps.length, rfl, ?_⟩
    walk_at "wp"
    refine ⟨by omega, by omega, Nat.le_trans (show _ ≤ 12 by simpa using fewp) (by decide), ?_⟩
    have e0 : (List.replicate ((ps.length : Nat) : Int).toNat [D.int 0]).flatten = (List.replicate ps.length (0 : Int)).map D.int := by
      rw [Int.toNat_natCast, List.map_replicate]
      induction ps.length with
      | zero => rfl
      | succ n ih => rw [List.replicate_succ, List.flatten_cons, ih, List.replicate_succ]; rfl
    rw [e0]
    refine asQ_q hc.sp (asQ_q hc.ct ?_)
    have ez : zipDD (spotsL S) (cs.map D.int) = (S.zip cs).map fun z => D.tup [spotD z.1, .int z.2] := by
      unfold zipDD spotsL
      rw [List.zipWith_map, List.zip, List.map_zipWith]
    rw [ez]
    refine for_I (fun its ρ => ∃ (S2 : List (List Rat)) (cs2 acc : List Int) (u4 u5 : Sl), its = (S2.zip cs2).map (fun z => D.tup [spotD z.1, .int z.2]) ∧ ρ = [.val (bookD dim ps), .val d, .val c, .ml (acc.map D.int), u4, u5] ∧ acc.length = ps.length ∧ S2.length = cs2.length ∧ (∀ s ∈ S2, s ∈ S) ∧ demL ps S2 cs2 acc = demL ps S cs (List.replicate ps.length 0)) ⟨S, cs, _, .un, .un, rfl, rfl, List.length_replicate, hok.len, fun _ z => z, rfl⟩ ?_ ?_
    · rintro dd its ρ K ⟨S2, cs2, acc, u4, u5, e, rfl, la, l2, sub, hd⟩ hK
      cases S2 with
      | nil => cases e
      | cons s S2 =>
        cases cs2 with
        | nil => cases l2
        | cons c2 cs2 =>
          cases e
          have oks := comp_ok hok (sub s (List.mem_cons_self ..))
          obtain ⟨i, r, ei, hi⟩ := cheap_ne gp s
          walk_at "wp"
          refine ⟨dim, ps, s, rfl, gp, oks, ?_⟩
          rw [ei]
          show wIx (.tup (.int (i : Nat) :: natsD r)) (.int 0) _
          walk_at "wp"
          refine ⟨i, acc.getD i 0, ⟨at_of (by rw [la]; exact hi), ixn_of (by rw [List.length_map]; exact la) hi⟩, hK _ ⟨S2, cs2, acc.set i (acc.getD i 0 + c2), .val (spotD s), .val (.int c2), rfl, ?_, by rw [List.length_set]; exact la, by simpa using l2, fun x hx => sub x (List.mem_cons_of_mem _ hx), ?_⟩⟩
          · rw [List.map_set]
          · rw [← hd]
            conv => rhs; unfold demL
            rw [ei]
            rfl
    · rintro ρ ⟨S2, cs2, acc, u4, u5, e, rfl, la, l2, sub, hd⟩
      cases S2 with
      | cons s S2 =>
        cases cs2 with
        | nil => cases l2
        | cons c2 cs2 => cases e
      | nil =>
        walk_at "wp"
        have e2 : acc = demL ps S cs (List.replicate ps.length 0) := by
          rw [← hd]
          unfold demL; rfl
        rw [e2]
        exact h
end Ny
end
section
set_option Elab.async false
set_option linter.all false
set_option maxRecDepth 100000
/-! ## the law's draws: what the functions promise -/
namespace Ny
open PySem Pd Rt
def sp__law_pick : Pd.Spec := fun ds P R => (∃ l, ds = [.sto, .lst l] ∧ 0 < l.length ∧ l.length ≤ 1000 ∧ ∀ d ∈ l, P d false) ∨
  ∃ s : Str, ds = [.sto, .str s] ∧ 0 < s.length ∧ s.length ≤ 1000 ∧ ∀ c ∈ s.cps.toList, P (.str ⟨#[c]⟩) false
def sp__law_dim : Pd.Spec := fun ds P R => ds = [.sto, .int 3] ∧ ∀ d : Nat, 1 ≤ d ∧ d ≤ 3 → P (.int (d : Nat)) false
def sp__law_span : Pd.Spec := fun ds P R => ∃ lo hi, ds = [.sto, .int lo, .int hi] ∧ lo ≤ hi ∧ hi - lo < 2 ^ 60 ∧ ∀ r, lo ≤ r → r ≤ hi → P (.int r) false
def sp__law_some : Pd.Spec := fun ds P R => ∃ many count : Nat, ds = [.sto, .int many, .int count] ∧ 0 < many ∧ many ≤ 200 ∧ count ≤ many ∧
  ∀ out : List Int, out.Nodup → (∀ x ∈ out, 0 ≤ x ∧ x < many) → out.length = count → P (.lst (out.map D.int)) true
def sp__law_dots : Pd.Spec := fun ds P R => ∃ dim count heavy : Nat, ds = [.sto, .int dim, .int count, .int heavy] ∧ (1 ≤ dim ∧ dim ≤ 3) ∧ (1 ≤ count ∧ count ≤ lim dim) ∧ heavy ≤ 1 ∧
  ∀ ps, GoodPts dim ps → P (.lst (ps.map ptD)) true
def Spot84 (dim : Nat) (s : List Rat) : Prop := s.length = dim ∧ ∀ x ∈ s, Q 84 700 x
def sp__law_near_spot : Pd.Spec := fun ds P R => ∃ (dim : Nat) (ps : List Pt), ds = [.sto, .lst (ps.map ptD)] ∧ GoodPts dim ps ∧ ∀ s, Spot84 dim s → P (spotD s) false
def sp__law_some_spot : Pd.Spec := fun ds P R => ∃ (dim : Nat) (ps : List Pt), ds = [.sto, .lst (ps.map ptD)] ∧ GoodPts dim ps ∧ ∀ s, Spot84 dim s → P (spotD s) false
end Ny
end
section
set_option Elab.async false
set_option linter.all false
namespace Ny
open PySem Pd Rt
def F__law_pick : Fn := ⟨"_law_pick", sp__law_pick, 3, 2, []⟩
def N__law_pick : List Str := ["store", "things"]
def ir__law_pick : Sms := (.cons (.ret (.ix (.var 1) (.call F__law_take (.cons (.var 0) (.cons (.bi .len (.cons (.var 1) .nil)) .nil))))) .nil)
theorem r__law_pick {a0 a1 : D} : rho0 N__law_pick [a0, a1] = [.val a0, .val a1] := rfl
def F__law_dim : Fn := ⟨"_law_dim", sp__law_dim, 4, 2, []⟩
def N__law_dim : List Str := ["store", "most"]
def ir__law_dim : Sms := (.cons (.ret (.bi .min2 (.cons (.var 1) (.cons (.call F__law_pick (.cons (.var 0) (.cons (.lst (.cons (.con (.int 1)) (.cons (.con (.int 1)) (.cons (.con (.int 2)) (.cons (.con (.int 2)) (.cons (.con (.int 2)) (.cons (.con (.int 3)) .nil))))))) .nil))) .nil)))) .nil)
theorem r__law_dim {a0 a1 : D} : rho0 N__law_dim [a0, a1] = [.val a0, .val a1] := rfl
def F__law_span : Fn := ⟨"_law_span", sp__law_span, 3, 3, []⟩
def N__law_span : List Str := ["store", "low", "high"]
def ir__law_span : Sms := (.cons (.ret (.bin .add (.var 1) (.call F__law_take (.cons (.var 0) (.cons (.bin .add (.bin .sub (.var 2) (.var 1)) (.con (.int 1))) .nil))))) .nil)
theorem r__law_span {a0 a1 a2 : D} : rho0 N__law_span [a0, a1, a2] = [.val a0, .val a1, .val a2] := rfl
def F__law_some : Fn := ⟨"_law_some", sp__law_some, 3, 3, []⟩
def N__law_some : List Str := ["store", "many", "count", "rest", "out", "k"]
def ir__law_some : Sms := (.cons (.set true 3 (.lrg (.var 1))) (.cons (.set true 4 (.lst .nil)) (.cons (.loop (.nm 5) (.r1 (.bi .min2 (.cons (.var 1) (.cons (.var 2) .nil)))) (.cons (.appPop 4 3 (.call F__law_take (.cons (.var 0) (.cons (.lenO 3) .nil)))) .nil)) (.cons (.retL 4) .nil))))
theorem r__law_some {a0 a1 a2 : D} : rho0 N__law_some [a0, a1, a2] = [.val a0, .val a1, .val a2, .un, .un, .un] := rfl
def F__law_dots : Fn := ⟨"_law_dots", sp__law_dots, 4, 4, []⟩
def N__law_dots : List Str := ["store", "dim", "count", "heavy", "line", "wide", "many", "by", "much", "light", "letters", "shift", "tilt", "out", "number", "cell", "parts", "place", "one"]
def ir__law_dots : Sms := (.cons (.set false 4 (.bop true (.cons (.cmp .gt (.var 1) (.con (.int 1))) (.cons (.cmp .eq (.call F__law_take (.cons (.var 0) (.cons (.con (.int 4)) .nil))) (.con (.int 0))) .nil)))) (.cons (.set false 5 (.ix (.lst (.cons (.con (.int 15)) (.cons (.con (.int 5)) (.cons (.con (.int 3)) .nil)))) (.bin .sub (.var 1) (.con (.int 1))))) (.cons (.set false 6 (.bin .add (.con (.int 1)) (.var 3))) (.cons (.set false 7 (.call F__law_pick (.cons (.var 0) (.cons (.lst (.cons (.con (.int 1)) (.cons (.con (.int 1)) (.cons (.con (.int 1)) (.cons (.con (.int 1)) (.cons (.con (.int 1)) (.cons (.con (.int 2)) (.cons (.neg (.con (.int 3))) (.cons (.con (.int 50000)) .nil))))))))) .nil)))) (.cons (.set false 8 (.call F__law_pick (.cons (.var 0) (.cons (.lst (.cons (.con (.int 1)) (.cons (.con (.int 2)) (.cons (.con (.int 5)) (.cons (.con (.int 30)) .nil))))) .nil)))) (.cons (.set false 9 (.call F__law_pick (.cons (.var 0) (.cons (.lst (.cons (.con (.int 0)) (.cons (.con (.int 0)) (.cons (.con (.int 0)) (.cons (.con (.int 0)) (.cons (.con (.int 3)) (.cons (.bin .sub (.bin .pow (.con (.int 10)) (.con (.int 12))) (.con (.int 30))) (.cons (.neg (.bin .pow (.con (.int 10)) (.con (.int 12)))) .nil)))))))) .nil)))) (.cons (.set false 10 (.call F__law_pick (.cons (.var 0) (.cons (.lst (.cons (.con (.str "ab")) (.cons (.con (.str "ab")) (.cons (.con (.str "ab")) (.cons (.con (.str "abc")) (.cons (.con (.str "abc")) (.cons (.con (.str "azby")) (.cons (.con (.str "abcdefghijklmnopqrstuvwxyz")) (.cons (.con (.str "a")) .nil))))))))) .nil)))) (.cons (.set false 11 (.call F__law_span (.cons (.var 0) (.cons (.neg (.con (.int 4))) (.cons (.con (.int 2)) .nil))))) (.cons (.set false 12 (.call F__law_span (.cons (.var 0) (.cons (.neg (.con (.int 1))) (.cons (.con (.int 1)) .nil))))) (.cons (.set true 13 (.lst .nil)) (.cons (.loop (.nm 14) (.seq (.call F__law_some (.cons (.var 0) (.cons (.bin .mul (.ife (.tru (.var 4)) (.con (.int 15)) (.ix (.lst (.cons (.con (.int 15)) (.cons (.con (.int 25)) (.cons (.con (.int 27)) .nil)))) (.bin .sub (.var 1) (.con (.int 1))))) (.var 6)) (.cons (.var 2) .nil))))) (.cons (.set false 15 (.bin .fdiv (.bi .int (.cons (.var 14) .nil)) (.var 6))) (.cons (.set false 16 (.ife (.tru (.var 4)) (.lst (.cons (.var 15) (.cons (.bin .mul (.var 12) (.var 15)) (.cons (.var 15) .nil)))) (.lst (.cons (.bin .mod (.var 15) (.var 5)) (.cons (.bin .mod (.bin .fdiv (.var 15) (.var 5)) (.var 5)) (.cons (.bin .fdiv (.var 15) (.bin .mul (.var 5) (.var 5))) .nil)))))) (.cons (.set false 17 (.bi .tuple (.cons (.comp (.nm 18) [("one", 18)] (.seq (.sl (.var 16) .no (.yes (.var 1)))) .nil (.bin .mul (.var 7) (.bin .add (.var 11) (.var 18)))) .nil))) (.cons (.app 13 (.tup (.cons (.var 17) (.cons (.bin .add (.var 9) (.bin .mul (.var 8) (.bin .mod (.bi .int (.cons (.var 14) .nil)) (.var 6)))) (.cons (.call F__law_pick (.cons (.var 0) (.cons (.var 10) .nil))) .nil))))) .nil))))) (.cons (.retL 13) .nil))))))))))))
theorem r__law_dots {a0 a1 a2 a3 : D} : rho0 N__law_dots [a0, a1, a2, a3] = [.val a0, .val a1, .val a2, .val a3, .un, .un, .un, .un, .un, .un, .un, .un, .un, .un, .un, .un, .un, .un, .un] := rfl
def F__law_near_spot : Fn := ⟨"_law_near_spot", sp__law_near_spot, 4, 2, []⟩
def N__law_near_spot : List Str := ["store", "points", "one", "two", "p", "k"]
def ir__law_near_spot : Sms := (.cons (.set false 2 (.ix (.call F__law_pick (.cons (.var 0) (.cons (.var 1) .nil))) (.con (.int 0)))) (.cons (.set false 3 (.ix (.call F__law_pick (.cons (.var 0) (.cons (.var 1) .nil))) (.con (.int 0)))) (.cons (.iff (.cmp .eq (.call F__law_take (.cons (.var 0) (.cons (.con (.int 3)) .nil))) (.con (.int 0))) (.cons (.ret (.bi .tuple (.cons (.comp (.nm 4) [("p", 4)] (.seq (.var 2)) .nil (.call F__law_lowest (.cons (.call F__law_span (.cons (.var 0) (.cons (.neg (.con (.int 12))) (.cons (.con (.int 24)) .nil)))) (.cons (.call F__law_pick (.cons (.var 0) (.cons (.lst (.cons (.con (.int 1)) (.cons (.con (.int 2)) (.cons (.con (.int 3)) (.cons (.con (.int 4)) .nil))))) .nil))) .nil)))) .nil))) .nil) .nil) (.cons (.ret (.bi .tuple (.cons (.comp (.nm 5) [("k", 5)] (.r1 (.bi .len (.cons (.var 2) .nil))) .nil (.call F__law_lowest (.cons (.bin .add (.ix (.var 2) (.var 5)) (.ix (.var 3) (.var 5))) (.cons (.con (.int 2)) .nil)))) .nil))) .nil))))
theorem r__law_near_spot {a0 a1 : D} : rho0 N__law_near_spot [a0, a1] = [.val a0, .val a1, .un, .un, .un, .un] := rfl
def F__law_some_spot : Fn := ⟨"_law_some_spot", sp__law_some_spot, 4, 2, []⟩
def N__law_some_spot : List Str := ["store", "points", "dim", "one", "two", "k", "big"]
def ir__law_some_spot : Sms := (.cons (.set false 2 (.bi .len (.cons (.ix (.ix (.var 1) (.con (.int 0))) (.con (.int 0))) .nil))) (.cons (.iff (.cmp .gt (.call F__law_take (.cons (.var 0) (.cons (.con (.int 3)) .nil))) (.con (.int 0))) (.cons (.set false 3 (.ix (.call F__law_pick (.cons (.var 0) (.cons (.var 1) .nil))) (.con (.int 0)))) (.cons (.set false 4 (.ix (.call F__law_pick (.cons (.var 0) (.cons (.var 1) .nil))) (.con (.int 0)))) (.cons (.ret (.bi .tuple (.cons (.comp (.nm 5) [("k", 5)] (.r1 (.var 2)) .nil (.call F__law_lowest (.cons (.bin .add (.ix (.var 3) (.var 5)) (.ix (.var 4) (.var 5))) (.cons (.con (.int 2)) .nil)))) .nil))) .nil))) .nil) (.cons (.set false 6 (.ife (.cmp .eq (.call F__law_take (.cons (.var 0) (.cons (.con (.int 6)) .nil))) (.con (.int 5))) (.bin .mul (.bin .mul (.bin .mul (.bin .pow (.con (.int 10)) (.con (.int 64))) (.bin .pow (.con (.int 10)) (.con (.int 64)))) (.bin .pow (.con (.int 10)) (.con (.int 64)))) (.bin .pow (.con (.int 10)) (.con (.int 7)))) (.con (.int 0)))) (.cons (.ret (.bi .tuple (.cons (.comp (.nm 5) [("k", 5)] (.r1 (.var 2)) .nil (.call F__law_lowest (.cons (.bin .add (.var 6) (.call F__law_span (.cons (.var 0) (.cons (.neg (.con (.int 12))) (.cons (.con (.int 24)) .nil))))) (.cons (.call F__law_pick (.cons (.var 0) (.cons (.lst (.cons (.con (.int 1)) (.cons (.con (.int 1)) (.cons (.con (.int 2)) (.cons (.con (.int 3)) (.cons (.con (.int 7)) .nil)))))) .nil))) .nil)))) .nil))) .nil))))
theorem r__law_some_spot {a0 a1 : D} : rho0 N__law_some_spot [a0, a1] = [.val a0, .val a1, .un, .un, .un, .un, .un] := rfl
end Ny
end
section
set_option Elab.async false
set_option linter.all false
set_option maxRecDepth 100000
set_option exponentiation.threshold 5000
namespace Ny
open PySem Pd Rt
local macro_rules | `(tactic| walk_at "wp") => `(tactic| simp only [wSs, wS, wE, wEs, wT, wBp, wTb, wQ, wO, wI, Co.d, List.length_cons, List.length_nil, List.append_nil, List.map_cons, List.map_nil, List.cons_append, List.nil_append, if_true, if_false, Bool.false_eq_true, reduceIte, reduceCtorEq, Bool.not_true, Bool.not_false, true_and, and_true,
  Pd.getV_0, Pd.getV_s, Pd.getL_0, Pd.getL_s, Pd.set_0, Pd.set_s, Pd.asB_b, Pd.asI_i, Pd.asQ_l, Pd.asQ_t, Pd.asLs_l, Pd.add_ii, Pd.add_ss, Pd.add_ll, Pd.add_tt, Pd.sub_ii, Pd.mul_ii, Pd.mul_li, Pd.fdiv_ii, Pd.mod_ii, Pd.pow_ii, Pd.lt_ii, Pd.le_ii, Pd.gt_ii, Pd.ge_ii, Pd.eq_ii, Pd.ne_ii, Pd.isn_n, Pd.isnn_n,
  Pd.truth_b, Pd.truth_i, Pd.truth_l, Pd.truth_t, Pd.len_l, Pd.len_t, Pd.len_s, Pd.abs_i, Pd.min2_ii, Pd.max2_ii, Pd.int_i, Pd.int_b, Pd.tuple_l, Pd.tuple_t, Pd.list_l, Pd.list_t, Pd.all_l, Pd.sum_l, Pd.sum_t, Pd.ix_l0, Pd.ix_t0, Pd.ix_l1, Pd.ix_t1, Pd.ix_t2,
  Pd.tg_nm, Pd.tg_tp, Pd.tgs_nil, Pd.tgs_cons, Pd.setQ_f, Pd.setQ_t, Pd.wipe_n, Pd.wipe_c])
theorem at_int {α : Type} {l : List α} {r : Int} (h0 : 0 ≤ r) (h : r < l.length) : ∃ x, L2.atI l r = some x ∧ x ∈ l := by
  obtain ⟨n, rfl⟩ : ∃ n : Nat, r = n := ⟨r.toNat, by omega⟩
  have hn : n < l.length := by omega
  exact ⟨l[n], by rw [atI_nat, List.getElem?_eq_getElem hn], List.getElem_mem hn⟩
theorem seq_nat {n k : Nat} (h : n < k) : seqIndex? (n : Int) k = some n := by
  unfold seqIndex?
  have e : (if (n : Int) < 0 then (n : Int) + (k : Int) else (n : Int)) = n := if_neg (by omega)
  simp only [e]
  rw [if_pos (by rw [decide_eq_true (by omega), decide_eq_true (by omega)]; rfl)]
  rfl
theorem erase_perm {α : Type} {l : List α} {n : Nat} (h : n < l.length) : (l[n] :: l.eraseIdx n).Perm l := by
  have e1 : l.eraseIdx n = l.take n ++ l.drop (n + 1) := List.eraseIdx_eq_take_drop_succ ..
  have e2 : l = l.take n ++ l[n] :: l.drop (n + 1) := by
    rw [← List.drop_eq_getElem_cons h, List.take_append_drop]
  rw [e1]
  conv => rhs; rw [e2]
  exact List.perm_middle.symm
theorem w__law_pick (ds P R) (hl : ds.length = 2) (h : sp__law_pick ds P R) : wSs ir__law_pick R (rho0 N__law_pick ds) (E0 P) := by
  rcases h with ⟨l, rfl, h0, hz, h⟩ | ⟨s, rfl, h0, hz, h⟩
  · rw [r__law_pick, ir__law_pick]
    simp only [F__law_take]
    walk_at "wp"
    refine ⟨_, rfl, by omega, fun r r0 r1 => ?_⟩
    obtain ⟨x, ex, mx⟩ := at_int (l := l) r0 (by omega)
    exact ⟨x, ex, h x mx⟩
  · rw [r__law_pick, ir__law_pick]
    simp only [F__law_take]
    walk_at "wp"
    refine ⟨Nat.le_trans hz (by decide), _, rfl, by omega, fun r r0 r1 => ?_⟩
    have el : s.cps.toList.length = s.length := by rw [Array.length_toList]; rfl
    obtain ⟨x, ex, mx⟩ := at_int (l := s.cps.toList) r0 (by rw [el]; omega)
    exact ⟨Nat.le_trans hz (by decide), x, ex, h x mx⟩
theorem w__law_dim (ds P R) (hl : ds.length = 2) (h : sp__law_dim ds P R) : wSs ir__law_dim R (rho0 N__law_dim ds) (E0 P) := by
  obtain ⟨rfl, h⟩ := h
  rw [r__law_dim, ir__law_dim]
  simp only [F__law_pick]
  walk_at "wp"
  refine ⟨by decide, .inl ⟨_, rfl, by decide, by decide, fun d hd => ?_⟩⟩
  simp only [List.mem_cons, List.not_mem_nil, or_false] at hd
  have h1 := h 1 (by decide)
  have h2 := h 2 (by decide)
  have h3 := h 3 (by decide)
  rcases hd with rfl | rfl | rfl | rfl | rfl | rfl
  · exact h1
  · exact h1
  · exact h2
  · exact h2
  · exact h2
  · exact h3
theorem w__law_span (ds P R) (hl : ds.length = 3) (h : sp__law_span ds P R) : wSs ir__law_span R (rho0 N__law_span ds) (E0 P) := by
  obtain ⟨lo, hi, rfl, h1, h2, h⟩ := h
  rw [r__law_span, ir__law_span]
  simp only [F__law_take]
  walk_at "wp"
  refine ⟨_, rfl, by omega, fun r r0 r1 => ?_⟩
  walk_at "wp"
  exact h _ (by omega) (by omega)
theorem w__law_some (ds P R) (hl : ds.length = 3) (h : sp__law_some ds P R) : wSs ir__law_some R (rho0 N__law_some ds) (E0 P) := by
  obtain ⟨many, count, rfl, h0, h1, h2, h⟩ := h
  rw [r__law_some, ir__law_some]
  simp only [F__law_take]
  walk_at "wp"
  have hm : (if (count : Int) < (many : Int) then (count : Int) else (many : Int)) = (count : Nat) := by split <;> omega
  have er : rgD 0 (many : Int) = ((List.range many).map fun i : Nat => (i : Int)).map D.int := by rw [rg_eq, List.map_map]; rfl
  rw [er]
  rw [hm]
  clear hm
  refine ⟨⟨by omega, by omega, by omega, by omega, by omega⟩, Nat.zero_le _, ⟨by omega, Int.ofNat_le.mpr (Nat.le_trans (show count ≤ 200 by omega) (by decide))⟩, ?_⟩
  refine for_rng (fun k ρ => ∃ (rest out : List Int) (u5 : Sl), ρ = [.val .sto, .val (.int many), .val (.int count), .ml (rest.map D.int), .ml (out.map D.int), u5] ∧ (out ++ rest).Nodup ∧ (∀ x ∈ out ++ rest, 0 ≤ x ∧ x < many) ∧ out.length = k ∧ rest.length + k = many) ⟨_, [], .un, rfl, ?_, ?_, rfl, by rw [List.length_map, List.length_range]; rfl⟩ ?_ ?_
  · rw [List.nil_append]
    exact List.Pairwise.map _ (fun a b h => by simp only [ne_eq]; omega) List.nodup_range
  · intro x hx
    rw [List.nil_append] at hx
    obtain ⟨i, hi, rfl⟩ := List.mem_map.mp hx
    have := List.mem_range.mp hi
    omega
  · rintro k ρ K hk ⟨rest, out, u5, rfl, nd, rng, lo, lr⟩ hK
    walk_at "wp"
    refine ⟨by rw [List.length_map, lo]; exact Nat.lt_of_lt_of_le (show k < 200 by omega) (by decide), _, rfl, by rw [List.length_map]; omega, fun r r0 r1 => ?_⟩
    walk_at "wp"
    rw [List.length_map] at r1
    obtain ⟨n, rfl⟩ : ∃ n : Nat, r = n := ⟨r.toNat, by omega⟩
    have hn : n < rest.length := by omega
    have es : seqIndex? (n : Int) (rest.map D.int).length = some n := by
      rw [List.length_map]
      exact seq_nat hn
    have pm : (out ++ [rest[n]] ++ rest.eraseIdx n).Perm (out ++ rest) := by
      rw [List.append_assoc]
      exact List.Perm.append_left _ (erase_perm hn)
    refine ⟨n, .int rest[n], ⟨by omega, by omega, es, by rw [List.getElem?_map, List.getElem?_eq_getElem hn]; rfl⟩, hK _ ⟨rest.eraseIdx n, out ++ [rest[n]], .val (.int (k : Nat)), ?_, pm.nodup_iff.mpr nd, fun x hx => rng x (pm.mem_iff.mp hx), by rw [List.length_append, lo]; rfl, ?_⟩⟩
    · rw [List.map_append, show (rest.map D.int).eraseIdx n = (rest.eraseIdx n).map D.int by rw [List.eraseIdx_eq_take_drop_succ, List.eraseIdx_eq_take_drop_succ, List.map_append, List.map_take, List.map_drop]]
      rfl
    · rw [List.length_eraseIdx, if_pos hn]; omega
  · rintro ρ ⟨rest, out, u5, rfl, nd, rng, lo, lr⟩
    walk_at "wp"
    exact h out (List.nodup_append.mp nd).1 (fun x hx => rng x (List.mem_append_left _ hx)) lo
/-! spots -/
theorem q84 {n d : Int} (hn : Bd 690 n) (hd : d = 1 ∨ d = 2 ∨ d = 3 ∨ d = 4 ∨ d = 7) : Q 84 700 (Rat.divInt n d) := by
  have key : ∀ (k m : Nat), 0 < k → k < 2 ^ 10 → k * m = 84 → Q 84 700 (Rat.divInt n m) := fun k m k0 k1 e => by
    refine ⟨n * k, ?_, ?_⟩
    · rw [Rat.divInt_ofNat, ← e, Nat.mul_comm k m]
      exact (Rat.mkRat_mul_right (by omega)).symm
    · exact hn.mul (m := 10) (by unfold Bd; rw [Int.natAbs_natCast]; exact k1)
  rcases hd with rfl | rfl | rfl | rfl | rfl
  · exact key 84 1 (by decide) (by decide) (by decide)
  · exact key 42 2 (by decide) (by decide) (by decide)
  · exact key 28 3 (by decide) (by decide) (by decide)
  · exact key 21 4 (by decide) (by decide) (by decide)
  · exact key 12 7 (by decide) (by decide) (by decide)
theorem loop_any {α : Type} {t : D → (Option D → Prop) → Prop} {F : List D → Prop} {xs : List α} {g : α → D} {ok : Rat → Prop} (step : ∀ x ∈ xs, ∀ K : Option D → Prop, (∀ q, ok q → K (some (rat q))) → t (g x) K) (fin : ∀ s : List Rat, s.length = xs.length → (∀ q ∈ s, ok q) → F (s.map rat)) : wLoop t (xs.map g) [] F := by
  have key : ∀ (xs : List α) (acc : List Rat), (∀ x ∈ xs, ∀ K : Option D → Prop, (∀ q, ok q → K (some (rat q))) → t (g x) K) → (∀ s : List Rat, s.length = xs.length → (∀ q ∈ s, ok q) → F ((acc ++ s).map rat)) → wLoop t (xs.map g) (acc.map rat) F := by
    intro xs
    induction xs with
    | nil =>
      intro acc _ fin
      have := fin [] rfl (fun q hq => by cases hq)
      rw [List.append_nil] at this
      exact this
    | cons x r ih =>
      intro acc st fin
      refine st x (List.mem_cons_self ..) _ fun q hq => ?_
      have := ih (acc ++ [q]) (fun y hy => st y (List.mem_cons_of_mem _ hy)) fun s hs hok => ?_
      · rw [List.map_append] at this
        exact this
      · have := fin (q :: s) (by rw [List.length_cons, hs]; rfl) fun z hz => by
          rcases List.mem_cons.mp hz with e | e
          · rw [e]; exact hq
          · exact hok z e
        rw [List.append_assoc]
        exact this
  exact key xs [] step fun s h1 h2 => by rw [List.nil_append]; exact fin s h1 h2
theorem w__law_near_spot (ds P R) (hl : ds.length = 2) (h : sp__law_near_spot ds P R) : wSs ir__law_near_spot R (rho0 N__law_near_spot ds) (E0 P) := by
  obtain ⟨dim, ps, rfl, gp, h⟩ := h
  rw [r__law_near_spot, ir__law_near_spot]
  simp only [F__law_pick, F__law_take, F__law_span, F__law_lowest]
  have fewp : ps.length ≤ 12 := Nat.le_trans gp.most (lim_le gp.dm)
  have pk : ∀ Q : D → Bool → Prop, (∀ p ∈ ps, Q (ptD p) false) → sp__law_pick [.sto, .lst (ps.map ptD)] Q R := fun Q hQ =>
    .inl ⟨_, rfl, by rw [List.length_map]; exact gp.one, by rw [List.length_map]; omega, fun d hd => by
      obtain ⟨p, hp, rfl⟩ := List.mem_map.mp hd
      exact hQ p hp⟩
  walk_at "wp"
  refine pk _ fun p hp => ?_
  rw [show ptD p = .tup [rowD p.row, .int p.wt, .str p.col] from rfl]
  walk_at "wp"
  refine pk _ fun q hq => ?_
  rw [show ptD q = .tup [rowD q.row, .int q.wt, .str q.col] from rfl]
  walk_at "wp"
  have g1 := gp.pts p hp
  have g2 := gp.pts q hq
  have dm := gp.dm
  refine ⟨_, rfl, by decide, fun r r0 r1 => ?_⟩
  walk_at "wp"
  have fin : ∀ s : List Rat, s.length = dim → (∀ x ∈ s, Q 84 700 x) → P (.tup (s.map rat)) false := fun s h1 h2 => h s ⟨h1, h2⟩
  cases e : (r == 0) with
  | true =>
    walk_at "wp"
    rw [show rowD p.row = .tup (p.row.map D.int) from rfl]
    walk_at "wp"
    refine loop_any (ok := Q 84 700) (fun x hx K hK => ?_) fun s h1 h2 => fin s (by rw [h1, g1.len]) h2
    refine ⟨_, _, rfl, by decide, by decide, fun a a0 a1 => ⟨by decide, .inl ⟨_, rfl, by decide, by decide, fun d hd => ?_⟩⟩⟩
    simp only [List.mem_cons, List.not_mem_nil, or_false] at hd
    have ba : Bd 690 a := (show Bd 10 a from bd_of (by omega)).mono (by decide)
    rcases hd with rfl | rfl | rfl | rfl
    · exact ⟨_, _, rfl, by decide, bd_of (by decide), hK _ (q84 ba (by simp))⟩
    · exact ⟨_, _, rfl, by decide, bd_of (by decide), hK _ (q84 ba (by simp))⟩
    · exact ⟨_, _, rfl, by decide, bd_of (by decide), hK _ (q84 ba (by simp))⟩
    · exact ⟨_, _, rfl, by decide, bd_of (by decide), hK _ (q84 ba (by simp))⟩
  | false =>
    walk_at "wp"
    rw [show rowD p.row = .tup (p.row.map D.int) from rfl, show rowD q.row = .tup (q.row.map D.int) from rfl]
    walk_at "wp"
    rw [List.length_map, g1.len]
    refine ⟨⟨by omega, Int.ofNat_le.mpr (Nat.le_trans dm.2 (by decide))⟩, ?_⟩
    rw [rg_eq]
    refine loop_any (ok := Q 84 700) (fun k hk K hK => ?_) fun s h1 h2 => fin s (by rw [h1, List.length_range]) h2
    have hk := List.mem_range.mp hk
    have h1 : k < p.row.length := by rw [g1.len]; exact hk
    have h2 : k < q.row.length := by rw [g2.len]; exact hk
    rw [ix_tn]
    refine ⟨.int p.row[k], by rw [List.getElem?_map, List.getElem?_eq_getElem h1]; rfl, ?_⟩
    rw [ix_tn]
    refine ⟨.int q.row[k], by rw [List.getElem?_map, List.getElem?_eq_getElem h2]; rfl, ?_⟩
    have b1 := ent_bd (g1.ent _ (List.getElem_mem h1))
    have b2 := ent_bd (g2.ent _ (List.getElem_mem h2))
    exact ⟨_, _, rfl, by decide, bd_of (by decide), hK _ (q84 ((b1.add b2).mono (by decide)) (by simp))⟩
theorem w__law_some_spot (ds P R) (hl : ds.length = 2) (h : sp__law_some_spot ds P R) : wSs ir__law_some_spot R (rho0 N__law_some_spot ds) (E0 P) := by
  obtain ⟨dim, ps, rfl, gp, h⟩ := h
  rw [r__law_some_spot, ir__law_some_spot]
  simp only [F__law_pick, F__law_take, F__law_span, F__law_lowest]
  have fewp : ps.length ≤ 12 := Nat.le_trans gp.most (lim_le gp.dm)
  have pk : ∀ Q : D → Bool → Prop, (∀ p ∈ ps, Q (ptD p) false) → sp__law_pick [.sto, .lst (ps.map ptD)] Q R := fun Q hQ =>
    .inl ⟨_, rfl, by rw [List.length_map]; exact gp.one, by rw [List.length_map]; omega, fun d hd => by
      obtain ⟨p, hp, rfl⟩ := List.mem_map.mp hd
      exact hQ p hp⟩
  have one := gp.one
  have dm := gp.dm
  have e0 : (ps.map ptD)[0]? = some (ptD ps[0]) := by rw [List.getElem?_map, List.getElem?_eq_getElem one]; rfl
  have g0 := gp.pts _ (List.getElem_mem one)
  walk_at "wp"
  refine ix_q0 (d := .lst (ps.map ptD)) rfl e0 ?_
  rw [show ptD ps[0] = .tup [.tup (ps[0].row.map D.int), .int ps[0].wt, .str ps[0].col] from rfl]
  walk_at "wp"
  rw [List.length_map, g0.len]
  refine ⟨_, rfl, by decide, fun r r0 r1 => ?_⟩
  walk_at "wp"
  have fin : ∀ s : List Rat, s.length = dim → (∀ x ∈ s, Q 84 700 x) → P (.tup (s.map rat)) false := fun s h1 h2 => h s ⟨h1, h2⟩
  have rg : Rg1 (dim : Int) := ⟨by omega, Int.ofNat_le.mpr (Nat.le_trans dm.2 (by decide))⟩
  by_cases e : 0 < r
  · rw [decide_eq_true e]
    walk_at "wp"
    refine pk _ fun p hp => ?_
    rw [show ptD p = .tup [.tup (p.row.map D.int), .int p.wt, .str p.col] from rfl]
    walk_at "wp"
    refine pk _ fun q hq => ?_
    rw [show ptD q = .tup [.tup (q.row.map D.int), .int q.wt, .str q.col] from rfl]
    walk_at "wp"
    have g1 := gp.pts p hp
    have g2 := gp.pts q hq
    refine ⟨rg, ?_⟩
    rw [rg_eq]
    refine loop_any (ok := Q 84 700) (fun k hk K hK => ?_) fun s h1 h2 => fin s (by rw [h1, List.length_range]) h2
    have hk := List.mem_range.mp hk
    have h1 : k < p.row.length := by rw [g1.len]; exact hk
    have h2 : k < q.row.length := by rw [g2.len]; exact hk
    rw [ix_tn]
    refine ⟨.int p.row[k], by rw [List.getElem?_map, List.getElem?_eq_getElem h1]; rfl, ?_⟩
    rw [ix_tn]
    refine ⟨.int q.row[k], by rw [List.getElem?_map, List.getElem?_eq_getElem h2]; rfl, ?_⟩
    have b1 := ent_bd (g1.ent _ (List.getElem_mem h1))
    have b2 := ent_bd (g2.ent _ (List.getElem_mem h2))
    exact ⟨_, _, rfl, by decide, bd_of (by decide), hK _ (q84 ((b1.add b2).mono (by decide)) (by simp))⟩
  · rw [decide_eq_false e]
    walk_at "wp"
    refine ⟨_, rfl, by decide, fun r' r0' r1' => ?_⟩
    walk_at "wp"
    have last : ∀ big : Int, Bd 680 big → Rg1 (dim : Int) ∧ wLoop (fun d k => sp__law_span [.sto, .int (-12), .int 24] (fun d2 x => wBin .add (.int big) d2 fun d _ => 0 + 1 + 1 + 1 + 1 + 1 ≤ sizeLine ∧ sp__law_pick [.sto, .lst [.int 1, .int 1, .int 2, .int 3, .int 7]] (fun d3 x => sp__law_lowest [d, d3] (fun d x => k (some d)) Nox) Nox) Nox) (rgD 0 (dim : Int)) [] fun acc => P (.tup acc) false := by
      intro big hb
      refine ⟨rg, ?_⟩
      rw [rg_eq]
      refine loop_any (ok := Q 84 700) (fun k hk K hK => ?_) fun s h1 h2 => fin s (by rw [h1, List.length_range]) h2
      refine ⟨_, _, rfl, by decide, by decide, fun a a0 a1 => ?_⟩
      refine ⟨by decide, .inl ⟨_, rfl, by decide, by decide, fun d hd => ?_⟩⟩
      simp only [List.mem_cons, List.not_mem_nil, or_false] at hd
      have ba : Bd 690 (big + a) := (hb.add ((show Bd 10 a from bd_of (by omega)).mono (by decide))).mono (by decide)
      rcases hd with rfl | rfl | rfl | rfl | rfl
      · exact ⟨_, _, rfl, by decide, bd_of (by decide), hK _ (q84 ba (by simp))⟩
      · exact ⟨_, _, rfl, by decide, bd_of (by decide), hK _ (q84 ba (by simp))⟩
      · exact ⟨_, _, rfl, by decide, bd_of (by decide), hK _ (q84 ba (by simp))⟩
      · exact ⟨_, _, rfl, by decide, bd_of (by decide), hK _ (q84 ba (by simp))⟩
      · exact ⟨_, _, rfl, by decide, bd_of (by decide), hK _ (q84 ba (by simp))⟩
    by_cases e5 : (r' == 5) = true
    · rw [if_pos e5]
      have p64 : CPowR 10 64 := ⟨by decide, by decide⟩
      have p7 : CPowR 10 7 := ⟨by decide, by decide⟩
      exact ⟨p64, p64, .of_bits (by decide +kernel) (by decide +kernel), p64, .of_bits (by decide +kernel) (by decide +kernel), p7, .of_bits (by decide +kernel) (by decide +kernel), last _ (bd_of (by decide +kernel))⟩
    · rw [if_neg e5]
      exact last 0 (bd_of (by decide))
end Ny
end
section
set_option Elab.async false
set_option linter.all false
set_option maxRecDepth 100000
namespace Ny
open PySem Pd Rt
local macro_rules | `(tactic| walk_at "wp") => `(tactic| simp only [wSs, wS, wE, wEs, wT, wBp, wTb, wQ, wO, wI, Co.d, List.length_cons, List.length_nil, List.append_nil, List.map_cons, List.map_nil, List.cons_append, List.nil_append, if_true, if_false, Bool.false_eq_true, reduceIte, reduceCtorEq, Bool.not_true, Bool.not_false, true_and, and_true,
  Pd.getV_0, Pd.getV_s, Pd.getL_0, Pd.getL_s, Pd.set_0, Pd.set_s, Pd.asB_b, Pd.asI_i, Pd.asQ_l, Pd.asQ_t, Pd.asLs_l, Pd.add_ii, Pd.add_ss, Pd.add_ll, Pd.add_tt, Pd.sub_ii, Pd.mul_ii, Pd.mul_li, Pd.fdiv_ii, Pd.mod_ii, Pd.pow_ii, Pd.lt_ii, Pd.le_ii, Pd.gt_ii, Pd.ge_ii, Pd.eq_ii, Pd.ne_ii, Pd.isn_n, Pd.isnn_n,
  Pd.truth_b, Pd.truth_i, Pd.truth_l, Pd.truth_t, Pd.len_l, Pd.len_t, Pd.len_s, Pd.abs_i, Pd.min2_ii, Pd.max2_ii, Pd.int_i, Pd.int_b, Pd.tuple_l, Pd.tuple_t, Pd.list_l, Pd.list_t, Pd.all_l, Pd.sum_l, Pd.sum_t, Pd.ix_l0, Pd.ix_t0, Pd.ix_l1, Pd.ix_t1, Pd.ix_t2,
  Pd.tg_nm, Pd.tg_tp, Pd.tgs_nil, Pd.tgs_cons, Pd.setQ_f, Pd.setQ_t, Pd.wipe_n, Pd.wipe_c])
def dotsBod2 : Sms := (.cons (.set false 17 (.bi .tuple (.cons (.comp (.nm 18) [("one", 18)] (.seq (.sl (.var 16) .no (.yes (.var 1)))) .nil (.bin .mul (.var 7) (.bin .add (.var 11) (.var 18)))) .nil))) (.cons (.app 13 (.tup (.cons (.var 17) (.cons (.bin .add (.var 9) (.bin .mul (.var 8) (.bin .mod (.bi .int (.cons (.var 14) .nil)) (.var 6)))) (.cons (.call F__law_pick (.cons (.var 0) (.cons (.var 10) .nil))) .nil))))) .nil))
def dotsBody : Sms := (.cons (.set false 15 (.bin .fdiv (.bi .int (.cons (.var 14) .nil)) (.var 6))) (.cons (.set false 16 (.ife (.tru (.var 4)) (.lst (.cons (.var 15) (.cons (.bin .mul (.var 12) (.var 15)) (.cons (.var 15) .nil)))) (.lst (.cons (.bin .mod (.var 15) (.var 5)) (.cons (.bin .mod (.bin .fdiv (.var 15) (.var 5)) (.var 5)) (.cons (.bin .fdiv (.var 15) (.bin .mul (.var 5) (.var 5))) .nil)))))) dotsBod2))
def dotsTail : Sms := (.cons (.loop (.nm 14) (.seq (.call F__law_some (.cons (.var 0) (.cons (.bin .mul (.ife (.tru (.var 4)) (.con (.int 15)) (.ix (.lst (.cons (.con (.int 15)) (.cons (.con (.int 25)) (.cons (.con (.int 27)) .nil)))) (.bin .sub (.var 1) (.con (.int 1))))) (.var 6)) (.cons (.var 2) .nil))))) dotsBody) (.cons (.retL 13) .nil))
def dotsMid : Sms := (.cons (.set false 5 (.ix (.lst (.cons (.con (.int 15)) (.cons (.con (.int 5)) (.cons (.con (.int 3)) .nil)))) (.bin .sub (.var 1) (.con (.int 1))))) (.cons (.set false 6 (.bin .add (.con (.int 1)) (.var 3))) (.cons (.set false 7 (.call F__law_pick (.cons (.var 0) (.cons (.lst (.cons (.con (.int 1)) (.cons (.con (.int 1)) (.cons (.con (.int 1)) (.cons (.con (.int 1)) (.cons (.con (.int 1)) (.cons (.con (.int 2)) (.cons (.neg (.con (.int 3))) (.cons (.con (.int 50000)) .nil))))))))) .nil)))) (.cons (.set false 8 (.call F__law_pick (.cons (.var 0) (.cons (.lst (.cons (.con (.int 1)) (.cons (.con (.int 2)) (.cons (.con (.int 5)) (.cons (.con (.int 30)) .nil))))) .nil)))) (.cons (.set false 9 (.call F__law_pick (.cons (.var 0) (.cons (.lst (.cons (.con (.int 0)) (.cons (.con (.int 0)) (.cons (.con (.int 0)) (.cons (.con (.int 0)) (.cons (.con (.int 3)) (.cons (.bin .sub (.bin .pow (.con (.int 10)) (.con (.int 12))) (.con (.int 30))) (.cons (.neg (.bin .pow (.con (.int 10)) (.con (.int 12)))) .nil)))))))) .nil)))) (.cons (.set false 10 (.call F__law_pick (.cons (.var 0) (.cons (.lst (.cons (.con (.str "ab")) (.cons (.con (.str "ab")) (.cons (.con (.str "ab")) (.cons (.con (.str "abc")) (.cons (.con (.str "abc")) (.cons (.con (.str "azby")) (.cons (.con (.str "abcdefghijklmnopqrstuvwxyz")) (.cons (.con (.str "a")) .nil))))))))) .nil)))) (.cons (.set false 11 (.call F__law_span (.cons (.var 0) (.cons (.neg (.con (.int 4))) (.cons (.con (.int 2)) .nil))))) (.cons (.set false 12 (.call F__law_span (.cons (.var 0) (.cons (.neg (.con (.int 1))) (.cons (.con (.int 1)) .nil))))) (.cons (.set true 13 (.lst .nil)) dotsTail)))))))))
theorem dots_cut : ir__law_dots = (.cons (.set false 4 (.bop true (.cons (.cmp .gt (.var 1) (.con (.int 1))) (.cons (.cmp .eq (.call F__law_take (.cons (.var 0) (.cons (.con (.int 4)) .nil))) (.con (.int 0))) .nil)))) dotsMid) := rfl

def dParts (line : Bool) (wide tilt cell : Int) : List Int := if line then [cell, tilt * cell, cell] else [cell.fmod wide, (cell.fdiv wide).fmod wide, cell.fdiv (wide * wide)]
def dRow (dim : Nat) (line : Bool) (wide b sh tilt cell : Int) : List Int := ((dParts line wide tilt cell).take dim).map fun one => b * (sh + one)
inductive Shape : Nat → Bool → Int → Nat → Prop
  | s1 : Shape 1 false 15 15
  | s2 : Shape 2 false 5 25
  | l2 : Shape 2 true 5 15
  | s3 : Shape 3 false 3 27
  | l3 : Shape 3 true 3 15
structure DotV (b much light sh tilt : Int) (lets : Str) : Prop where
  b : b = 1 ∨ b = 2 ∨ b = -3 ∨ b = 50000
  m : much = 1 ∨ much = 2 ∨ much = 5 ∨ much = 30
  l : light = 0 ∨ light = 3 ∨ light = 10 ^ 12 - 30 ∨ light = -10 ^ 12
  s : -4 ≤ sh ∧ sh ≤ 2
  t : tilt = -1 ∨ tilt = 0 ∨ tilt = 1
  z : 0 < lets.length ∧ lets.length ≤ 1000
  c : ∀ c ∈ lets.cps.toList, isLet ⟨#[c]⟩
theorem Shape.dm {dim line wide cells} (h : Shape dim line wide cells) : 1 ≤ dim ∧ dim ≤ 3 := by cases h <;> decide
theorem cut_take {l : List D} {n : Nat} (h : n ≤ l.length) : cutD l none (some (n : Int)) = l.take n := by
  unfold cutD
  rw [HT.sIx_none, HT.sIx_nat, Nat.min_eq_left h]
  rfl
theorem for_done {α : Type} {t : D → Rho → (Rho → Prop) → Prop} {F : Rho → Prop} {xs : List α} {g : α → D} {ρ : Rho} (I : List α → Rho → Prop) (h0 : I [] ρ)
    (step : ∀ done x r ρ (K : Rho → Prop), done ++ x :: r = xs → I done ρ → (∀ ρ', I (done ++ [x]) ρ' → K ρ') → t (g x) ρ K) (fin : ∀ ρ, I xs ρ → F ρ) : wFor t (xs.map g) ρ F := by
  refine for_I (fun its ρ => ∃ done r, its = r.map g ∧ done ++ r = xs ∧ I done ρ) ⟨[], xs, rfl, rfl, h0⟩ ?_ ?_
  · rintro d its ρ K ⟨done, r, e, e2, i⟩ hK
    cases r with
    | nil => cases e
    | cons x r =>
      cases e
      exact step done x r ρ K e2 i fun ρ' i' => hK ρ' ⟨done ++ [x], r, rfl, by rw [← e2, List.append_assoc]; rfl, i'⟩
  · rintro ρ ⟨done, r, e, e2, i⟩
    cases r with
    | nil => rw [List.append_nil] at e2; rw [← e2] at fin; exact fin ρ i
    | cons x r => cases e
theorem sm_mul {i j : Int} (hi : -(2 ^ 60) < i ∧ i < 2 ^ 60) (hj : -(2 ^ 60) < j ∧ j < 2 ^ 60) : IntMulOk i j := (bd_of hi).mulOk (bd_of hj)
theorem sm_div {i j : Int} (h : j ≠ 0) (hj : -(2 ^ 60) < j ∧ j < 2 ^ 60) : CDivR i j := (bd_of hj).divOk h
theorem mod_small {n : Int} {heavy : Nat} (hh : heavy ≤ 1) (hn : 0 ≤ n) : 0 ≤ n.fmod (1 + heavy) ∧ n.fmod (1 + heavy) ≤ 1 := by
  rw [Int.fmod_eq_emod_of_nonneg _ (by omega)]
  rcases (show heavy = 0 ∨ heavy = 1 by omega) with rfl | rfl
  · rw [show (1 : Int) + ((0 : Nat) : Int) = 1 from rfl]; omega
  · rw [show (1 : Int) + ((1 : Nat) : Int) = 2 from rfl]; omega
theorem dots_bod2 {dim count heavy : Nat} {b much light sh tilt : Int} {xs : List Int} {lets : Str} {line : Bool} {wide : Int} {R : Exn → Prop} {E : DE} {acc : List D} {n : Int} {u15 u17 u18 : Sl} (dm : 1 ≤ dim ∧ dim ≤ 3) (hh : heavy ≤ 1) (v : DotV b much light sh tilt lets) (ha : acc.length < 300)
    (hn : 0 ≤ n) (hx : xs.length = 3 ∧ ∀ x ∈ xs, -14 ≤ x ∧ x ≤ 14)
    (fin : ∀ (p : Pt) (u15 u16 u17 u18 : Sl), p.row = (xs.take dim).map (fun one => b * (sh + one)) → p.wt = light + much * n.fmod (1 + heavy) → isLet p.col →
      E.nx [.val .sto, .val (.int dim), .val (.int count), .val (.int heavy), .val (.bl line), .val (.int wide), .val (.int (1 + heavy)), .val (.int b), .val (.int much), .val (.int light), .val (.str lets), .val (.int sh), .val (.int tilt), .ml (acc ++ [ptD p]), .val (.int n), u15, u16, u17, u18]) :
    wSs dotsBod2 R [.val .sto, .val (.int dim), .val (.int count), .val (.int heavy), .val (.bl line), .val (.int wide), .val (.int (1 + heavy)), .val (.int b), .val (.int much), .val (.int light), .val (.str lets), .val (.int sh), .val (.int tilt), .ml acc, .val (.int n), u15, .val (.lst (xs.map D.int)), u17, u18] E := by
  rw [dotsBod2]
  simp only [F__law_pick]
  have vb := v.b
  have vs := v.s
  have vm := v.m
  have nm := mod_small hh hn
  walk_at "wp"
  simp only [wSl]
  walk_at "wp"
  rw [cut_take (by rw [List.length_map]; omega), ← List.map_take]
  refine loop_map (f := fun one => D.int (b * (sh + one))) (fun d hd K hK => ?_) ?_
  · walk_at "wp"
    have := hx.2 d (List.mem_of_mem_take hd)
    exact ⟨sm_mul (by omega) (by omega), hK⟩
  refine ⟨Nat.lt_trans ha (by decide), by omega, sm_mul (by omega) (by omega), .inr ⟨lets, rfl, v.z.1, v.z.2, fun c hc => ⟨by decide, ?_⟩⟩⟩
  have := fin ⟨(xs.take dim).map (fun one => b * (sh + one)), light + much * n.fmod (1 + heavy), ⟨#[c]⟩⟩ u15 (Sl.val (D.lst (List.map D.int xs))) (Sl.val (D.tup ([] ++ List.map (fun one => D.int (b * (sh + one))) (List.take dim xs)))) u18 rfl rfl (v.c c hc)
  rw [show ptD ⟨(xs.take dim).map (fun one => b * (sh + one)), light + much * n.fmod (1 + heavy), ⟨#[c]⟩⟩ = .tup [.tup ([] ++ List.map (fun one => D.int (b * (sh + one))) (List.take dim xs)), .int (light + much * n.fmod (1 + heavy)), .str ⟨#[c]⟩] by
    show D.tup [.tup (((xs.take dim).map (fun one => b * (sh + one))).map D.int), _, _] = _
    rw [List.map_map]; rfl] at this
  exact this
/-- the cell's number -/
theorem cell_rng {n : Int} {heavy cells : Nat} (hh : heavy ≤ 1) (hn : 0 ≤ n ∧ n < cells * (1 + heavy)) : 0 ≤ n.fdiv (1 + heavy) ∧ n.fdiv (1 + heavy) < cells := by
  rw [Int.fdiv_eq_ediv_of_nonneg _ (by omega)]
  obtain ⟨h0, h1⟩ := hn
  rcases (show heavy = 0 ∨ heavy = 1 by omega) with rfl | rfl
  · rw [show (1 : Int) + ((0 : Nat) : Int) = 1 from rfl] at *; omega
  · rw [show (1 : Int) + ((1 : Nat) : Int) = 2 from rfl] at *; omega
theorem fm_15 (x : Int) : x.fmod 15 = x % 15 := Int.fmod_eq_emod_of_nonneg _ (by decide)
theorem fm_5 (x : Int) : x.fmod 5 = x % 5 := Int.fmod_eq_emod_of_nonneg _ (by decide)
theorem fm_3 (x : Int) : x.fmod 3 = x % 3 := Int.fmod_eq_emod_of_nonneg _ (by decide)
theorem fd_15 (x : Int) : x.fdiv 15 = x / 15 := Int.fdiv_eq_ediv_of_nonneg _ (by decide)
theorem fd_5 (x : Int) : x.fdiv 5 = x / 5 := Int.fdiv_eq_ediv_of_nonneg _ (by decide)
theorem fd_3 (x : Int) : x.fdiv 3 = x / 3 := Int.fdiv_eq_ediv_of_nonneg _ (by decide)
theorem fd_225 (x : Int) : x.fdiv (15 * 15) = x / 225 := Int.fdiv_eq_ediv_of_nonneg _ (by decide)
theorem fd_25 (x : Int) : x.fdiv (5 * 5) = x / 25 := Int.fdiv_eq_ediv_of_nonneg _ (by decide)
theorem fd_9 (x : Int) : x.fdiv (3 * 3) = x / 9 := Int.fdiv_eq_ediv_of_nonneg _ (by decide)
theorem parts_rng {dim : Nat} {line : Bool} {wide : Int} {cells : Nat} {tilt c : Int} (sp : Shape dim line wide cells) (t : tilt = -1 ∨ tilt = 0 ∨ tilt = 1) (hc : 0 ≤ c ∧ c < cells) : ∀ x ∈ dParts line wide tilt c, -14 ≤ x ∧ x ≤ 14 := by
  cases sp <;> simp only [dParts, if_true, if_false, Bool.false_eq_true, List.mem_cons, List.not_mem_nil, or_false, fm_15, fm_5, fm_3, fd_15, fd_5, fd_3, fd_225, fd_25, fd_9] <;> intro x hx
  · rcases hx with rfl | rfl | rfl <;> omega
  · rcases hx with rfl | rfl | rfl <;> omega
  · rcases t with rfl | rfl | rfl <;> rcases hx with rfl | rfl | rfl <;> omega
  · rcases hx with rfl | rfl | rfl <;> omega
  · rcases t with rfl | rfl | rfl <;> rcases hx with rfl | rfl | rfl <;> omega
/-- a row tells its cell -/
theorem row_inj {dim : Nat} {line : Bool} {wide b sh tilt : Int} {cells : Nat} {c d : Int} (sp : Shape dim line wide cells) (hb : b ≠ 0) (hc : 0 ≤ c ∧ c < cells) (hd : 0 ≤ d ∧ d < cells) (e : dRow dim line wide b sh tilt c = dRow dim line wide b sh tilt d) : c = d := by
  have cut : ∀ {x y : Int}, b * (sh + x) = b * (sh + y) → x = y := fun q => by
    have := Int.eq_of_mul_eq_mul_left hb q
    omega
  cases sp <;> simp only [dRow, dParts, if_true, if_false, Bool.false_eq_true, List.take_succ_cons, List.take_zero, List.map_cons, List.map_nil, List.cons.injEq, and_true, fm_15, fm_5, fm_3, fd_15, fd_5, fd_3, fd_225, fd_25, fd_9] at e
  · have e1 := cut e; omega
  · have e1 := cut e.1; have e2 := cut e.2; omega
  · exact cut e.1
  · have e1 := cut e.1; have e2 := cut e.2.1; have e3 := cut e.2.2; omega
  · exact cut e.1
theorem dots_step {dim count heavy : Nat} {line : Bool} {wide b much light sh tilt : Int} {cells : Nat} {lets : Str} {R : Exn → Prop} {E : DE} {acc : List D} {n : Int} {u15 u16 u17 u18 : Sl} (sp : Shape dim line wide cells) (hh : heavy ≤ 1) (v : DotV b much light sh tilt lets) (ha : acc.length < 300)
    (hn : 0 ≤ n ∧ n < cells * (1 + heavy))
    (fin : ∀ (p : Pt) (u15 u16 u17 u18 : Sl), p.row = dRow dim line wide b sh tilt (n.fdiv (1 + heavy)) → p.wt = light + much * n.fmod (1 + heavy) → isLet p.col →
      E.nx [.val .sto, .val (.int dim), .val (.int count), .val (.int heavy), .val (.bl line), .val (.int wide), .val (.int (1 + heavy)), .val (.int b), .val (.int much), .val (.int light), .val (.str lets), .val (.int sh), .val (.int tilt), .ml (acc ++ [ptD p]), .val (.int n), u15, u16, u17, u18]) :
    wSs dotsBody R [.val .sto, .val (.int dim), .val (.int count), .val (.int heavy), .val (.bl line), .val (.int wide), .val (.int (1 + heavy)), .val (.int b), .val (.int much), .val (.int light), .val (.str lets), .val (.int sh), .val (.int tilt), .ml acc, .val (.int n), u15, u16, u17, u18] E := by
  rw [dotsBody]
  have cr := cell_rng hh hn
  have pr := parts_rng sp v.t cr
  have cl : cells ≤ 27 := by cases sp <;> decide
  have vt := v.t
  unfold dRow at fin
  walk_at "wp"
  refine ⟨sm_div (by omega) (by omega), ?_⟩
  generalize n.fdiv (1 + heavy) = c at *
  by_cases e : line = true
  · rw [if_pos e]
    subst e
    refine ⟨sm_mul (by omega) (by omega), by decide, ?_⟩
    exact dots_bod2 (xs := [c, tilt * c, c]) sp.dm hh v ha hn.1 ⟨rfl, pr⟩ fin
  · rw [if_neg e]
    have e : line = false := Bool.eq_false_iff.mpr e
    subst e
    have w : wide ≠ 0 ∧ 0 ≤ wide ∧ wide ≤ 15 ∧ 0 ≤ wide * wide ∧ wide * wide ≤ 225 ∧ wide * wide ≠ 0 := by cases sp <;> decide
    refine ⟨w.1, sm_div w.1 (by omega), w.1, sm_mul (by omega) (by omega), sm_div w.2.2.2.2.2 (by omega), by decide, ?_⟩
    exact dots_bod2 (xs := [c.fmod wide, (c.fdiv wide).fmod wide, c.fdiv (wide * wide)]) sp.dm hh v ha hn.1 ⟨rfl, pr⟩ fin
/-- a drawn number's row and weight -/
def dKey (dim heavy : Nat) (line : Bool) (wide b much light sh tilt n : Int) : List Int × Int := (dRow dim line wide b sh tilt (n.fdiv (1 + heavy)), light + much * n.fmod (1 + heavy))
theorem key_inj {dim heavy : Nat} {line : Bool} {wide b much light sh tilt : Int} {cells : Nat} {n m : Int} (sp : Shape dim line wide cells) (hh : heavy ≤ 1) (hb : b ≠ 0) (hm : much ≠ 0) (hn : 0 ≤ n ∧ n < cells * (1 + heavy)) (hm' : 0 ≤ m ∧ m < cells * (1 + heavy)) (e : dKey dim heavy line wide b much light sh tilt n = dKey dim heavy line wide b much light sh tilt m) : n = m := by
  have e1 := (Prod.mk.injEq .. ▸ e : _ ∧ _).1
  have e2 := (Prod.mk.injEq .. ▸ e : _ ∧ _).2
  have c := row_inj sp hb (cell_rng hh hn) (cell_rng hh hm') e1
  have r : n.fmod (1 + heavy) = m.fmod (1 + heavy) := Int.eq_of_mul_eq_mul_left hm (by omega)
  rw [← Int.mul_fdiv_add_fmod n (1 + heavy), ← Int.mul_fdiv_add_fmod m (1 + heavy), c, r]
theorem len_row {dim : Nat} {line : Bool} {wide b sh tilt : Int} {cells : Nat} {c : Int} (sp : Shape dim line wide cells) : (dRow dim line wide b sh tilt c).length = dim := by cases sp <;> rfl
theorem dots_tail {dim count heavy : Nat} {line : Bool} {wide b much light sh tilt : Int} {cells : Nat} {lets : Str} {R : Exn → Prop} {P : D → Bool → Prop} (sp : Shape dim line wide cells) (hh : heavy ≤ 1) (hc : 1 ≤ count ∧ count ≤ lim dim) (v : DotV b much light sh tilt lets)
    (fin : ∀ ps, GoodPts dim ps → P (.lst (ps.map ptD)) true) :
    wSs dotsTail R [.val .sto, .val (.int dim), .val (.int count), .val (.int heavy), .val (.bl line), .val (.int wide), .val (.int (1 + heavy)), .val (.int b), .val (.int much), .val (.int light), .val (.str lets), .val (.int sh), .val (.int tilt), .ml [], .un, .un, .un, .un, .un] (E0 P) := by
  have lc := lim_le sp.dm
  have vb := v.b
  have vm := v.m
  have vl := v.l
  have vs := v.s
  have main : ∀ out : List Int, out.Nodup → (∀ x ∈ out, 0 ≤ x ∧ x < cells * (1 + heavy)) → out.length = count →
      wFor (fun d ρ k => wSs dotsBody R (ρ.set 14 (.val d)) { nx := k, rt := P, bk := fun ρ' => getL ρ' 13 fun ds => P (.lst ds) true, ct := k }) (out.map D.int) [.val .sto, .val (.int dim), .val (.int count), .val (.int heavy), .val (.bl line), .val (.int wide), .val (.int (1 + heavy)), .val (.int b), .val (.int much), .val (.int light), .val (.str lets), .val (.int sh), .val (.int tilt), .ml [], .un, .un, .un, .un, .un]
        (fun ρ' => getL ρ' 13 fun ds => P (.lst ds) true) := by
    intro out nd rng len
    refine for_done (fun done ρ => ∃ (ps : List Pt) (u14 u15 u16 u17 u18 : Sl), ρ = [.val .sto, .val (.int dim), .val (.int count), .val (.int heavy), .val (.bl line), .val (.int wide), .val (.int (1 + heavy)), .val (.int b), .val (.int much), .val (.int light), .val (.str lets), .val (.int sh), .val (.int tilt), .ml (ps.map ptD), u14, u15, u16, u17, u18] ∧ (∀ p ∈ ps, isLet p.col) ∧ ps.map (fun p => (p.row, p.wt)) = done.map (dKey dim heavy line wide b much light sh tilt)) ⟨[], _, _, _, _, _, rfl, fun p hp => (by cases hp), rfl⟩ ?_ ?_
    · rintro done x r ρ K e ⟨ps, u14, u15, u16, u17, u18, rfl, il, k⟩ hK
      have hx := rng x (by rw [← e]; exact List.mem_append_right _ (List.mem_cons_self ..))
      have lp : ps.length = done.length := by
        have := congrArg List.length k
        rwa [List.length_map, List.length_map] at this
      have ld : done.length < count := by rw [← len, ← e, List.length_append, List.length_cons]; omega
      refine dots_step sp hh v (by rw [List.length_map]; omega) hx fun p u15 u16 u17 u18 e1 e2 e3 => hK _ ⟨ps ++ [p], _, _, _, _, _, by rw [List.map_append]; rfl, ?_, ?_⟩
      · intro q hq
        rcases List.mem_append.mp hq with h | h
        · exact il q h
        · rw [List.mem_singleton.mp h]; exact e3
      · rw [List.map_append, List.map_append, k]
        simp only [List.map_cons, List.map_nil, dKey, e1, e2]
    · rintro ρ ⟨ps, u14, u15, u16, u17, u18, rfl, il, k⟩
      have lp : ps.length = count := by
        have := congrArg List.length k
        rwa [List.length_map, List.length_map, len] at this
      refine fin ps ⟨sp.dm, by omega, by omega, fun p hp => ?_, ?_⟩
      · have hp' : (p.row, p.wt) ∈ out.map (dKey dim heavy line wide b much light sh tilt) := by
          rw [← k]; exact List.mem_map_of_mem hp
        obtain ⟨n, hn, en⟩ := List.mem_map.mp hp'
        have hn := rng n hn
        have er : p.row = dRow dim line wide b sh tilt (n.fdiv (1 + heavy)) := (congrArg Prod.fst en).symm
        have ew : p.wt = light + much * n.fmod (1 + heavy) := (congrArg Prod.snd en).symm
        have pr := parts_rng sp v.t (cell_rng hh hn)
        have nm := mod_small hh hn.1
        refine ⟨by rw [er]; exact len_row sp, ?_, ?_, il p hp⟩
        · rw [er]
          intro y hy
          obtain ⟨one, ho, rfl⟩ := List.mem_map.mp hy
          have := pr one (List.mem_of_mem_take ho)
          rcases vb with rfl | rfl | rfl | rfl <;> omega
        · rw [ew]
          generalize n.fmod (1 + heavy) = r at nm
          rcases vm with rfl | rfl | rfl | rfl <;> rcases vl with rfl | rfl | rfl | rfl <;> omega
      · rw [k]
        have b0 : b ≠ 0 := by omega
        have m0 : much ≠ 0 := by omega
        exact List.pairwise_map.mpr (nd.imp_of_mem fun ha hb ne e => ne (key_inj sp hh b0 m0 (rng _ ha) (rng _ hb) e))
  have cl : cells ≤ 27 ∧ 0 < cells ∧ lim dim ≤ cells := by cases sp <;> decide
  have fin2 : sp__law_some [.sto, .int (cells * (1 + heavy)), .int count] (fun d x => asQ d fun items => wFor (fun d ρ k => wSs dotsBody R (ρ.set 14 (.val d)) { nx := k, rt := P, bk := fun ρ' => getL ρ' 13 fun ds => P (.lst ds) true, ct := k }) items [.val .sto, .val (.int dim), .val (.int count), .val (.int heavy), .val (.bl line), .val (.int wide), .val (.int (1 + heavy)), .val (.int b), .val (.int much), .val (.int light), .val (.str lets), .val (.int sh), .val (.int tilt), .ml [], .un, .un, .un, .un, .un]
        (fun ρ' => getL ρ' 13 fun ds => P (.lst ds) true)) R := by
    refine ⟨cells * (1 + heavy), count, rfl, ?_, ?_, ?_, fun out nd rng len => main out nd rng len⟩
    all_goals (rcases (show heavy = 0 ∨ heavy = 1 by omega) with rfl | rfl <;> omega)
  rw [dotsTail]
  simp only [F__law_some]
  cases sp
  · walk_at "wp"
    exact ⟨by decide, _, rfl, sm_mul (by omega) (by omega), fin2⟩
  · walk_at "wp"
    exact ⟨by decide, _, rfl, sm_mul (by omega) (by omega), fin2⟩
  · walk_at "wp"
    exact ⟨sm_mul (by omega) (by omega), fin2⟩
  · walk_at "wp"
    exact ⟨by decide, _, rfl, sm_mul (by omega) (by omega), fin2⟩
  · walk_at "wp"
    exact ⟨sm_mul (by omega) (by omega), fin2⟩
theorem dots_mid {dim count heavy : Nat} {line : Bool} {wide : Int} {cells : Nat} {R : Exn → Prop} {P : D → Bool → Prop} (sp : Shape dim line wide cells) (hh : heavy ≤ 1) (hc : 1 ≤ count ∧ count ≤ lim dim)
    (fin : ∀ ps, GoodPts dim ps → P (.lst (ps.map ptD)) true) :
    wSs dotsMid R [.val .sto, .val (.int dim), .val (.int count), .val (.int heavy), .val (.bl line), .un, .un, .un, .un, .un, .un, .un, .un, .un, .un, .un, .un, .un, .un] (E0 P) := by
  rw [dotsMid]
  simp only [F__law_pick, F__law_span]
  have ew : ∀ Q : D → Bool → Prop, Q (.int wide) false → wIx (.lst [.int 15, .int 5, .int 3]) (.int ((dim : Int) - 1)) Q := fun Q q => by cases sp <;> exact ⟨_, rfl, q⟩
  have dm := sp.dm
  walk_at "wp"
  refine ⟨by decide, ew _ ?_⟩
  walk_at "wp"
  refine ⟨by decide, .inl ⟨_, rfl, by decide, by decide, fun d hb => ?_⟩⟩
  obtain ⟨b, rfl, vb⟩ : ∃ b, d = .int b ∧ (b = 1 ∨ b = 2 ∨ b = -3 ∨ b = 50000) := by
    simp only [List.mem_cons, List.not_mem_nil, or_false] at hb
    rcases hb with rfl | rfl | rfl | rfl | rfl | rfl | rfl | rfl <;> exact ⟨_, rfl, by decide⟩
  walk_at "wp"
  refine ⟨by decide, .inl ⟨_, rfl, by decide, by decide, fun d hb => ?_⟩⟩
  obtain ⟨m, rfl, vm⟩ : ∃ b, d = .int b ∧ (b = 1 ∨ b = 2 ∨ b = 5 ∨ b = 30) := by
    simp only [List.mem_cons, List.not_mem_nil, or_false] at hb
    rcases hb with rfl | rfl | rfl | rfl <;> exact ⟨_, rfl, by decide⟩
  walk_at "wp"
  refine ⟨⟨by decide, by decide⟩, ⟨by decide, by decide⟩, by decide, .inl ⟨_, rfl, by decide, by decide, fun d hb => ?_⟩⟩
  obtain ⟨l, rfl, vl⟩ : ∃ b, d = .int b ∧ (b = 0 ∨ b = 3 ∨ b = 10 ^ 12 - 30 ∨ b = -10 ^ 12) := by
    simp only [List.mem_cons, List.not_mem_nil, or_false] at hb
    rcases hb with rfl | rfl | rfl | rfl | rfl | rfl | rfl <;> exact ⟨_, rfl, by decide⟩
  walk_at "wp"
  refine ⟨by decide, .inl ⟨_, rfl, by decide, by decide, fun d hb => ?_⟩⟩
  obtain ⟨lets, rfl, vz, vc⟩ : ∃ b : Str, d = .str b ∧ (0 < b.length ∧ b.length ≤ 1000) ∧ ∀ c ∈ b.cps.toList, isLet ⟨#[c]⟩ := by
    simp only [List.mem_cons, List.not_mem_nil, or_false] at hb
    rcases hb with rfl | rfl | rfl | rfl | rfl | rfl | rfl | rfl <;> exact ⟨_, rfl, by decide, by unfold isLet; decide +kernel⟩
  walk_at "wp"
  refine ⟨_, _, rfl, by decide, by decide, fun sh s0 s1 => ?_⟩
  walk_at "wp"
  refine ⟨_, _, rfl, by decide, by decide, fun tilt t0 t1 => ?_⟩
  walk_at "wp"
  exact ⟨by decide, dots_tail sp hh hc ⟨vb, vm, vl, ⟨s0, s1⟩, by omega, vz, vc⟩ fin⟩
theorem w__law_dots (ds P R) (hl : ds.length = 4) (h : sp__law_dots ds P R) : wSs ir__law_dots R (rho0 N__law_dots ds) (E0 P) := by
  obtain ⟨dim, count, heavy, rfl, dm, hc, hh, h⟩ := h
  rw [r__law_dots, dots_cut]
  simp only [F__law_take]
  rcases (show dim = 1 ∨ dim = 2 ∨ dim = 3 by omega) with rfl | rfl | rfl
  · walk_at "wp"
    rw [decide_eq_false (by decide)]
    walk_at "wp"
    exact dots_mid .s1 hh hc h
  · walk_at "wp"
    rw [decide_eq_true (by decide)]
    walk_at "wp"
    refine ⟨_, rfl, by decide, fun r r0 r1 => ?_⟩
    walk_at "wp"
    cases (r == 0)
    · exact dots_mid .s2 hh hc h
    · exact dots_mid .l2 hh hc h
  · walk_at "wp"
    rw [decide_eq_true (by decide)]
    walk_at "wp"
    refine ⟨_, rfl, by decide, fun r r0 r1 => ?_⟩
    walk_at "wp"
    cases (r == 0)
    · exact dots_mid .s3 hh hc h
    · exact dots_mid .l3 hh hc h
end Ny
end
section
set_option Elab.async false
set_option linter.all false
set_option maxRecDepth 100000
/-! ## the law's calls: what the functions promise -/
namespace Ny
open PySem Pd Rt
def msK : List Str := ["BadNumber", "BadSpot", "TooLarge"]
def hsK : List Hd := [("TooLarge", some "limit"), ("NearError", none)]
def ansD (d : D) : D := .tup [.str "answer", d]
def ansK (P : D → Bool → Prop) : D → Bool → Prop := fun d _ => 0 + 1 + 1 ≤ sizeLine ∧ P (ansD d) false
def refK (P : D → Bool → Prop) : Exn → Prop := fun e => e.cls ∈ msK ∧ hdR P hsK e
def sp__law_call : Pd.Spec := fun ds P R => ∃ (name : Str) (a b c : D), ds = [.str name, a, b, c] ∧ (
  (name = "totals" ∧ sp_totals [a, b, c] (ansK P) (refK P)) ∨
  (name = "total_price" ∧ ∃ x i, a = .lst [x, i] ∧ sp_total_price [x, i, b, c] (ansK P) (refK P)) ∨
  (name = "spread" ∧ sp_spread [b, c] (ansK P) (refK P)) ∨
  (name = "demand" ∧ sp_demand [a, b, c] (ansK P) (refK P)) ∨
  (name = "mean_spot" ∧ sp_mean_spot [b, c] (ansK P) (refK P)) ∨
  (name = "least_total" ∧ sp_least_total [a, b, c] (ansK P) (refK P)))
def sp__law_served : Pd.Spec := fun ds P R => ∃ (dim : Nat) (ps : List Pt) (S : List (List Rat)) (cs : List Int), ds = [ptsD ps, bookD dim ps, spotsD S, cntD cs] ∧ GoodPts dim ps ∧ Comp dim S cs ∧ S.length ≤ 20 ∧ P (.bl true) false
def sp__law_refuses : Pd.Spec := fun ds P R => ∃ (dim : Nat) (ps : List Pt) (S : List (List Rat)) (cs : List Int) (c : Int), ds = [.sto, ptsD ps, bookD dim ps, spotsD S, cntD cs, .int c] ∧ GoodPts dim ps ∧ Comp dim S cs ∧ S.length ≤ 20 ∧ 1 ≤ c ∧ P (.bl true) false
end Ny
end
section
set_option Elab.async false
set_option linter.all false
namespace Ny
open PySem Pd Rt
def F_totals : Fn := ⟨"totals", sp_totals, 7, 3, []⟩
def F_total_price : Fn := ⟨"total_price", sp_total_price, 7, 4, []⟩
def F_spread : Fn := ⟨"spread", sp_spread, 7, 2, []⟩
def F_demand : Fn := ⟨"demand", sp_demand, 7, 3, []⟩
def F_least_total : Fn := ⟨"least_total", sp_least_total, 7, 3, []⟩
def F__law_call : Fn := ⟨"_law_call", sp__law_call, 8, 4, []⟩
def N__law_call : List Str := ["name", "book", "spots", "counts", "e"]
def ir__law_call : Sms := (.cons (.iff (.cmp .eq (.var 0) (.con (.str "totals"))) (.cons (.ret (.tup (.cons (.con (.str "answer")) (.cons (.call F_totals (.cons (.var 1) (.cons (.var 2) (.cons (.var 3) .nil)))) .nil)))) .nil) .nil) (.cons (.iff (.cmp .eq (.var 0) (.con (.str "total_price"))) (.cons (.ret (.tup (.cons (.con (.str "answer")) (.cons (.call F_total_price (.cons (.ix (.var 1) (.con (.int 0))) (.cons (.ix (.var 1) (.con (.int 1))) (.cons (.var 2) (.cons (.var 3) .nil))))) .nil)))) .nil) .nil) (.cons (.iff (.cmp .eq (.var 0) (.con (.str "spread"))) (.cons (.ret (.tup (.cons (.con (.str "answer")) (.cons (.call F_spread (.cons (.var 2) (.cons (.var 3) .nil))) .nil)))) .nil) .nil) (.cons (.iff (.cmp .eq (.var 0) (.con (.str "demand"))) (.cons (.ret (.tup (.cons (.con (.str "answer")) (.cons (.call F_demand (.cons (.var 1) (.cons (.var 2) (.cons (.var 3) .nil)))) .nil)))) .nil) .nil) (.cons (.iff (.cmp .eq (.var 0) (.con (.str "mean_spot"))) (.cons (.ret (.tup (.cons (.con (.str "answer")) (.cons (.call F_mean_spot (.cons (.var 2) (.cons (.var 3) .nil))) .nil)))) .nil) .nil) (.cons (.ret (.tup (.cons (.con (.str "answer")) (.cons (.call F_least_total (.cons (.var 1) (.cons (.var 2) (.cons (.var 3) .nil)))) .nil)))) .nil))))))
theorem r__law_call {a0 a1 a2 a3 : D} : rho0 N__law_call [a0, a1, a2, a3] = [.val a0, .val a1, .val a2, .val a3, .un] := rfl
def F__law_served : Fn := ⟨"_law_served", sp__law_served, 9, 4, []⟩
def N__law_served : List Str := ["points", "book", "spots", "counts", "sums", "mean", "far", "least", "k", "p", "some", "many", "dues", "name", "due", "handed", "costs", "below", "own"]
def ir__law_served : Sms := (.cons (.set false 4 (.call F__law_sums (.cons (.var 0) (.cons (.var 2) (.cons (.var 3) .nil))))) (.cons (.tgt (.tp (.cons (.nm 5) (.cons (.nm 6) .nil))) (.call F__law_middle_of (.cons (.var 2) (.cons (.var 3) .nil)))) (.cons (.setC false 7 (.nm 8) [("k", 8)] (.r1 (.bi .len (.cons (.var 4) .nil))) (.cons (.cmp .eq (.bi .len (.cons (.comp (.nm 9) [("p", 9)] (.seq (.var 4)) (.cons (.cmp .lt (.call F__law_compare (.cons (.var 9) (.cons (.ix (.var 4) (.var 8)) .nil))) (.con (.int 0))) .nil) (.var 9)) .nil)) (.con (.int 0))) .nil) (.var 8)) (.cons (.set false 10 (.bi .list (.cons (.var 2) .nil))) (.cons (.set false 11 (.bi .list (.cons (.var 3) .nil))) (.cons (.set false 12 (.lst (.cons (.tup (.cons (.con (.str "totals")) (.cons (.bi .tuple (.cons (.var 4) .nil)) .nil))) (.cons (.tup (.cons (.con (.str "spread")) (.cons (.var 6) .nil))) (.cons (.tup (.cons (.con (.str "least_total")) (.cons (.bi .tuple (.cons (.var 7) .nil)) .nil))) (.cons (.tup (.cons (.con (.str "mean_spot")) (.cons (.var 5) .nil))) .nil)))))) (.cons (.loop (.tp (.cons (.nm 13) (.cons (.nm 14) .nil))) (.seq (.bin .add (.var 12) (.lst (.cons (.tup (.cons (.con (.str "demand")) (.cons (.call F__law_demand (.cons (.var 0) (.cons (.var 2) (.cons (.var 3) .nil)))) .nil))) .nil)))) (.cons (.loop (.nm 15) (.seq (.lst (.cons (.tup (.cons (.var 10) (.cons (.var 11) .nil))) (.cons (.tup (.cons (.bi .tuple (.cons (.var 2) .nil)) (.cons (.bi .tuple (.cons (.var 3) .nil)) .nil))) .nil)))) (.cons (.iff (.not (.tru (.call F__law_equal (.cons (.call F__law_call (.cons (.var 13) (.cons (.var 1) (.cons (.ix (.var 15) (.con (.int 0))) (.cons (.ix (.var 15) (.con (.int 1))) .nil))))) (.cons (.tup (.cons (.con (.str "answer")) (.cons (.var 14) .nil))) .nil))))) (.cons (.ret (.con (.bl false))) .nil) .nil) .nil)) .nil)) (.cons (.tgt (.tp (.cons (.nm 16) (.cons (.nm 17) .nil))) (.call F__law_costs (.cons (.var 0) (.cons (.var 5) .nil)))) (.cons (.iff (.bop false (.cons (.cmp .ne (.call F__law_least (.cons (.var 16) .nil)) (.var 7)) (.cons (.not (.tru (.call F__law_equal (.cons (.call F_cheapest (.cons (.var 1) (.cons (.var 5) .nil))) (.cons (.bi .tuple (.cons (.var 7) .nil)) .nil))))) .nil))) (.cons (.ret (.con (.bl false))) .nil) .nil) (.cons (.loop (.nm 8) (.r1 (.bi .len (.cons (.var 0) .nil))) (.cons (.iff (.not (.tru (.call F__law_equal (.cons (.call F__law_call (.cons (.con (.str "total_price")) (.cons (.lst (.cons (.var 1) (.cons (.var 8) .nil))) (.cons (.var 10) (.cons (.var 11) .nil))))) (.cons (.tup (.cons (.con (.str "answer")) (.cons (.ix (.var 4) (.var 8)) .nil))) .nil))))) (.cons (.ret (.con (.bl false))) .nil) .nil) (.cons (.set false 18 (.call F__law_plus (.cons (.var 6) (.cons (.call F__law_lowest (.cons (.bin .mul (.bi .sum (.cons (.var 3) .nil)) (.ix (.var 16) (.var 8))) (.cons (.var 17) .nil))) .nil)))) (.cons (.iff (.bop false (.cons (.cmp .ne (.var 18) (.ix (.var 4) (.var 8))) (.cons (.not (.tru (.call F__law_equal (.cons (.call F_price (.cons (.var 1) (.cons (.var 8) (.cons (.var 5) .nil)))) (.cons (.call F__law_lowest (.cons (.ix (.var 16) (.var 8)) (.cons (.var 17) .nil))) .nil))))) .nil))) (.cons (.ret (.con (.bl false))) .nil) .nil) .nil)))) (.cons (.ret (.bop true (.cons (.call F__law_equal (.cons (.var 10) (.cons (.var 2) .nil))) (.cons (.call F__law_equal (.cons (.var 11) (.cons (.var 3) .nil))) .nil)))) .nil)))))))))))
theorem r__law_served {a0 a1 a2 a3 : D} : rho0 N__law_served [a0, a1, a2, a3] = [.val a0, .val a1, .val a2, .val a3, .un, .un, .un, .un, .un, .un, .un, .un, .un, .un, .un, .un, .un, .un, .un] := rfl
def F__law_refuses : Fn := ⟨"_law_refuses", sp__law_refuses, 9, 6, []⟩
def N__law_refuses : List Str := ["store", "points", "book", "spots", "counts", "some", "many", "p", "n", "rest", "bad", "wrong", "spoilt", "shorts", "more", "name", "k", "dues", "things", "numbers", "due", "head", "start"]
def ir__law_refuses : Sms := (.cons (.set false 6 (.bi .len (.cons (.var 1) .nil))) (.cons (.set false 7 (.ix (.ix (.var 3) (.con (.int 0))) (.con (.int 0)))) (.cons (.set false 8 (.call F__law_take (.cons (.var 0) (.cons (.bi .len (.cons (.var 3) .nil)) .nil)))) (.cons (.set false 9 (.sl (.ix (.var 3) (.con (.int 0))) (.yes (.con (.int 1))) .no)) (.cons (.set false 10 (.call F__law_pick (.cons (.var 0) (.cons (.lst (.cons (.bi .list (.cons (.ix (.var 3) (.con (.int 0))) .nil)) (.cons (.bin .add (.ix (.var 3) (.con (.int 0))) (.tup (.cons (.var 7) .nil))) (.cons (.var 9) (.cons (.con .non) (.cons (.bin .add (.tup (.cons (.tup (.cons (.bin .mul (.con (.int 2)) (.ix (.var 7) (.con (.int 0)))) (.cons (.bin .mul (.con (.int 2)) (.ix (.var 7) (.con (.int 1)))) .nil))) .nil)) (.var 9)) (.cons (.con (.str "0")) (.cons (.con (.int 0)) .nil)))))))) .nil)))) (.cons (.set false 11 (.call F__law_pick (.cons (.var 0) (.cons (.lst (.cons (.con (.int 0)) (.cons (.neg (.con (.int 1))) (.cons (.con (.bl true)) (.cons (.con .non) (.cons (.con (.str "1")) (.cons (.tup (.cons (.con (.int 1)) (.cons (.con (.int 1)) .nil))) .nil))))))) .nil)))) (.cons (.set false 12 (.lst (.cons (.bin .add (.bin .add (.sl (.var 3) .no (.yes (.var 8))) (.lst (.cons (.var 10) .nil))) (.sl (.var 3) (.yes (.var 8)) .no)) (.cons (.lst .nil) (.cons (.con .non) (.cons (.con (.str "")) (.cons (.bin .add (.var 3) (.lst (.cons (.var 10) .nil))) .nil))))))) (.cons (.set false 13 (.lst (.cons (.bin .add (.bin .add (.sl (.var 4) .no (.yes (.var 8))) (.lst (.cons (.var 11) .nil))) (.sl (.var 4) (.yes (.bin .add (.var 8) (.con (.int 1)))) .no)) (.cons (.sl (.var 4) (.yes (.con (.int 1))) .no) (.cons (.bin .add (.var 4) (.lst (.cons (.con (.int 1)) .nil))) (.cons (.con .non) (.cons (.bin .add (.sl (.var 4) .no (.yes (.neg (.con (.int 1))))) (.lst (.cons (.var 11) .nil))) .nil))))))) (.cons (.set false 14 (.sl (.bin .mul (.var 3) (.con (.int 21))) .no (.yes (.con (.int 21))))) (.cons (.loop (.nm 15) (.seq (.lst (.cons (.con (.str "totals")) (.cons (.con (.str "total_price")) (.cons (.con (.str "spread")) (.cons (.con (.str "demand")) (.cons (.con (.str "least_total")) .nil))))))) (.cons (.loop (.nm 16) (.r1 (.con (.int 5))) (.cons (.set false 17 (.lst (.cons (.tup (.cons (.ix (.var 12) (.var 16)) (.cons (.ix (.var 13) (.var 16)) (.cons (.con (.str "BadSpot")) .nil)))) (.cons (.tup (.cons (.var 3) (.cons (.ix (.var 13) (.var 16)) (.cons (.con (.str "BadNumber")) .nil)))) (.cons (.tup (.cons (.ix (.var 12) (.var 16)) (.cons (.var 4) (.cons (.con (.str "BadSpot")) .nil)))) .nil))))) (.cons (.set false 17 (.bin .add (.var 17) (.lst (.cons (.tup (.cons (.bin .add (.var 14) (.lst (.cons (.var 10) .nil))) (.cons (.ix (.var 13) (.var 16)) (.cons (.con (.str "BadSpot")) .nil)))) (.cons (.tup (.cons (.var 14) (.cons (.bin .add (.bin .mul (.lst (.cons (.con (.int 1)) .nil)) (.con (.int 20))) (.lst (.cons (.var 11) .nil))) (.cons (.con (.str "BadNumber")) .nil)))) .nil))))) (.cons (.loop (.tp (.cons (.nm 18) (.cons (.nm 19) (.cons (.nm 20) .nil)))) (.seq (.var 17)) (.cons (.set false 21 (.ife (.cmp .eq (.var 15) (.con (.str "total_price"))) (.lst (.cons (.var 2) (.cons (.bin .sub (.var 6) (.con (.int 1))) .nil))) (.var 2))) (.cons (.iff (.cmp .ne (.call F__law_call (.cons (.var 15) (.cons (.var 21) (.cons (.var 18) (.cons (.var 19) .nil))))) (.tup (.cons (.con (.str "refused")) (.cons (.lst (.cons (.var 20) .nil)) .nil)))) (.cons (.ret (.con (.bl false))) .nil) .nil) .nil))) .nil)))) (.cons (.set false 21 (.ife (.cmp .eq (.var 15) (.con (.str "total_price"))) (.lst (.cons (.var 2) (.cons (.bin .sub (.var 6) (.con (.int 1))) .nil))) (.var 2))) (.cons (.iff (.not (.tru (.call F__law_equal (.cons (.call F__law_call (.cons (.var 15) (.cons (.var 21) (.cons (.var 14) (.cons (.bin .mul (.lst (.cons (.var 5) .nil)) (.con (.int 21))) .nil))))) (.cons (.tup (.cons (.con (.str "refused")) (.cons (.lst (.cons (.con (.str "TooLarge")) .nil)) (.cons (.con (.int 20)) .nil)))) .nil))))) (.cons (.ret (.con (.bl false))) .nil) .nil) .nil)))) (.cons (.loop (.nm 22) (.seq (.lst (.cons (.var 6) (.cons (.neg (.con (.int 1))) (.cons (.con (.bl true)) (.cons (.con .non) (.cons (.con (.str "0")) .nil))))))) (.cons (.iff (.cmp .ne (.call F__law_call (.cons (.con (.str "total_price")) (.cons (.lst (.cons (.var 2) (.cons (.var 22) .nil))) (.cons (.ix (.var 12) (.con (.int 0))) (.cons (.lst (.cons (.con (.int 0)) .nil)) .nil))))) (.tup (.cons (.con (.str "refused")) (.cons (.lst (.cons (.con (.str "BadNumber")) .nil)) .nil)))) (.cons (.ret (.con (.bl false))) .nil) .nil) .nil)) (.cons (.ret (.cmp .eq (.call F__law_call (.cons (.con (.str "mean_spot")) (.cons (.var 2) (.cons (.bin .add (.var 14) (.lst (.cons (.var 10) .nil))) (.cons (.bin .mul (.lst (.cons (.con (.int 1)) .nil)) (.con (.int 22))) .nil))))) (.tup (.cons (.con (.str "refused")) (.cons (.lst (.cons (.con (.str "BadSpot")) .nil)) .nil))))) .nil))))))))))))
theorem r__law_refuses {a0 a1 a2 a3 a4 a5 : D} : rho0 N__law_refuses [a0, a1, a2, a3, a4, a5] = [.val a0, .val a1, .val a2, .val a3, .val a4, .val a5, .un, .un, .un, .un, .un, .un, .un, .un, .un, .un, .un, .un, .un, .un, .un, .un, .un] := rfl
end Ny
end
section
set_option Elab.async false
set_option linter.all false
set_option maxRecDepth 100000
namespace Ny
open PySem Pd Rt
local macro_rules | `(tactic| walk_at "wp") => `(tactic| simp only [wSs, wS, wE, wEs, wT, wBp, wTb, wQ, wO, wI, Co.d, List.length_cons, List.length_nil, List.append_nil, List.map_cons, List.map_nil, List.cons_append, List.nil_append, if_true, if_false, Bool.false_eq_true, reduceIte, reduceCtorEq, Bool.not_true, Bool.not_false, true_and, and_true,
  Pd.getV_0, Pd.getV_s, Pd.getL_0, Pd.getL_s, Pd.set_0, Pd.set_s, Pd.asB_b, Pd.asI_i, Pd.asQ_l, Pd.asQ_t, Pd.asLs_l, Pd.add_ii, Pd.add_ss, Pd.add_ll, Pd.add_tt, Pd.sub_ii, Pd.mul_ii, Pd.mul_li, Pd.fdiv_ii, Pd.mod_ii, Pd.pow_ii, Pd.lt_ii, Pd.le_ii, Pd.gt_ii, Pd.ge_ii, Pd.eq_ii, Pd.ne_ii, Pd.isn_n, Pd.isnn_n,
  Pd.truth_b, Pd.truth_i, Pd.truth_l, Pd.truth_t, Pd.len_l, Pd.len_t, Pd.len_s, Pd.abs_i, Pd.min2_ii, Pd.max2_ii, Pd.int_i, Pd.int_b, Pd.tuple_l, Pd.tuple_t, Pd.list_l, Pd.list_t, Pd.all_l, Pd.sum_l, Pd.sum_t, Pd.ix_l0, Pd.ix_t0, Pd.ix_l1, Pd.ix_t1, Pd.ix_t2,
  Pd.tg_nm, Pd.tg_tp, Pd.tgs_nil, Pd.tgs_cons, Pd.setQ_f, Pd.setQ_t, Pd.wipe_n, Pd.wipe_c])
theorem two_le : 0 + 1 + 1 ≤ sizeLine := by decide
theorem cmp_no {x y : Str} {A B : Prop} (e : (x == y) = false) (h1 : PyData.strOk x = true) (h2 : PyData.strOk y = true) (b : B) : wCmp .eq (.str x) (.str y) fun k => if k = true then A else B :=
  ⟨h1, h2, by rw [show deq (.str x) (.str y) = (x == y) from rfl, e]; exact b⟩
theorem cmp_yes {x y : Str} {A B : Prop} (e : (x == y) = true) (h1 : PyData.strOk x = true) (h2 : PyData.strOk y = true) (a : A) : wCmp .eq (.str x) (.str y) fun k => if k = true then A else B :=
  ⟨h1, h2, by rw [show deq (.str x) (.str y) = (x == y) from rfl, e]; exact a⟩
theorem w__law_call (ds P R) (hl : ds.length = 4) (h : sp__law_call ds P R) : wSs ir__law_call (fun e => e.cls ∈ msK ∧ hdR P hsK e) (rho0 N__law_call ds) (E0 P) := by
  obtain ⟨name, a, b, c, rfl, h⟩ := h
  rw [r__law_call, ir__law_call]
  simp only [F_totals, F_total_price, F_spread, F_demand, F_mean_spot, F_least_total]
  rcases h with ⟨rfl, h⟩ | ⟨rfl, x, i, rfl, h⟩ | ⟨rfl, h⟩ | ⟨rfl, h⟩ | ⟨rfl, h⟩ | ⟨rfl, h⟩
  · walk_at "wp"
    exact cmp_yes (by decide +kernel) (by decide +kernel) (by decide +kernel) h
  · walk_at "wp"
    exact cmp_no (by decide +kernel) (by decide +kernel) (by decide +kernel) (cmp_yes (by decide +kernel) (by decide +kernel) (by decide +kernel) h)
  · walk_at "wp"
    exact cmp_no (by decide +kernel) (by decide +kernel) (by decide +kernel) (cmp_no (by decide +kernel) (by decide +kernel) (by decide +kernel) (cmp_yes (by decide +kernel) (by decide +kernel) (by decide +kernel) h))
  · walk_at "wp"
    exact cmp_no (by decide +kernel) (by decide +kernel) (by decide +kernel) (cmp_no (by decide +kernel) (by decide +kernel) (by decide +kernel) (cmp_no (by decide +kernel) (by decide +kernel) (by decide +kernel) (cmp_yes (by decide +kernel) (by decide +kernel) (by decide +kernel) h)))
  · walk_at "wp"
    exact cmp_no (by decide +kernel) (by decide +kernel) (by decide +kernel) (cmp_no (by decide +kernel) (by decide +kernel) (by decide +kernel) (cmp_no (by decide +kernel) (by decide +kernel) (by decide +kernel) (cmp_no (by decide +kernel) (by decide +kernel) (by decide +kernel) (cmp_yes (by decide +kernel) (by decide +kernel) (by decide +kernel) h))))
  · walk_at "wp"
    exact cmp_no (by decide +kernel) (by decide +kernel) (by decide +kernel) (cmp_no (by decide +kernel) (by decide +kernel) (by decide +kernel) (cmp_no (by decide +kernel) (by decide +kernel) (by decide +kernel) (cmp_no (by decide +kernel) (by decide +kernel) (by decide +kernel) (cmp_no (by decide +kernel) (by decide +kernel) (by decide +kernel) (h)))))
end Ny
end
section
set_option Elab.async false
set_option linter.all false
set_option maxRecDepth 100000
/-! ## totals, spread and mean: mathematics -/
namespace Ny
open PySem Pd Rt
def rs (n : Nat) (f : Nat → Rat) : Rat := ((List.range n).map f).sum
theorem sum_add_map {α : Type} (f g : α → Rat) : ∀ l : List α, (l.map fun k => f k + g k).sum = (l.map f).sum + (l.map g).sum
  | [] => by simp; grind
  | x :: l => by
    simp only [List.map_cons, List.sum_cons, sum_add_map f g l]
    grind
theorem sum_mul_map {α : Type} (c : Rat) (f : α → Rat) : ∀ l : List α, (l.map fun k => c * f k).sum = c * (l.map f).sum
  | [] => by simp
  | x :: l => by
    simp only [List.map_cons, List.sum_cons, sum_mul_map c f l]
    grind
theorem rs_add (n : Nat) (f g : Nat → Rat) : rs n (fun k => f k + g k) = rs n f + rs n g := sum_add_map f g _
theorem rs_mul (n : Nat) (c : Rat) (f : Nat → Rat) : rs n (fun k => c * f k) = c * rs n f := sum_mul_map c f _
theorem rs_congr {n : Nat} {f g : Nat → Rat} (h : ∀ k, k < n → f k = g k) : rs n f = rs n g := by
  unfold rs
  rw [List.map_congr_left fun k hk => h k (List.mem_range.mp hk)]
theorem rs_zero (n : Nat) : rs n (fun _ => 0) = 0 := by
  have := rs_mul n 0 fun _ => 0
  simp only [Rat.zero_mul] at this
  exact this
theorem zw_rs {α β : Type} (f : α → β → Rat) (a0 : α) (b0 : β) : ∀ (n : Nat) (l : List α) (m : List β), l.length = n → m.length = n → (List.zipWith f l m).sum = rs n fun k => f (l.getD k a0) (m.getD k b0)
  | 0, [], [], _, _ => rfl
  | n + 1, x :: l, y :: m, h1, h2 => by
    rw [List.zipWith_cons_cons, List.sum_cons, zw_rs f a0 b0 n l m (Nat.succ.inj h1) (Nat.succ.inj h2)]
    unfold rs
    rw [List.range_succ_eq_map, List.map_cons, List.sum_cons, List.map_map]
    rfl
theorem map_rs {α : Type} (f : α → Rat) (a0 : α) : ∀ (n : Nat) (l : List α), l.length = n → (l.map f).sum = rs n fun k => f (l.getD k a0)
  | 0, [], _ => rfl
  | n + 1, x :: l, h1 => by
    rw [List.map_cons, List.sum_cons, map_rs f a0 n l (Nat.succ.inj h1)]
    unfold rs
    rw [List.range_succ_eq_map, List.map_cons, List.sum_cons, List.map_map]
    rfl
theorem sqR_cons (s : List Rat) (S : List (List Rat)) (c : Int) (cs : List Int) (k : Nat) : sqR (s :: S) (c :: cs) k = (c : Rat) * s.getD k 0 * s.getD k 0 + sqR S cs k := by
  unfold sqR
  rw [sumR_sum, sumR_sum, List.zipWith_cons_cons, List.sum_cons]
  grind
theorem colR_cons (s : List Rat) (S : List (List Rat)) (c : Int) (cs : List Int) (k : Nat) : colR (s :: S) (c :: cs) k = (c : Rat) * s.getD k 0 + colR S cs k := by
  unfold colR
  rw [sumR_sum, sumR_sum, List.zipWith_cons_cons, List.sum_cons]
  grind
/-- the sum of weighted squared distances from a row -/
def distR (n : Nat) (S : List (List Rat)) (cs : List Int) (e : Nat → Rat) : Rat := (List.zipWith (fun (s : List Rat) (c : Int) => (c : Rat) * rs n fun k => (s.getD k 0 - e k) * (s.getD k 0 - e k)) S cs).sum
theorem dist_eq (n : Nat) (e : Nat → Rat) : ∀ (S : List (List Rat)) (cs : List Int), S.length = cs.length → distR n S cs e = rs n fun k => sqR S cs k - 2 * e k * colR S cs k + ((cs.sum : Int) : Rat) * (e k * e k)
  | [], [], _ => by
    rw [show distR n [] [] e = 0 from rfl]
    rw [← rs_zero n]
    refine rs_congr fun k _ => ?_
    rw [show sqR [] [] k = 0 from rfl, show colR [] [] k = 0 from rfl, show (([] : List Int).sum) = 0 from rfl]
    grind
  | s :: S, c :: cs, h => by
    have ih := dist_eq n e S cs (Nat.succ.inj h)
    rw [show distR n (s :: S) (c :: cs) e = (c : Rat) * (rs n fun k => (s.getD k 0 - e k) * (s.getD k 0 - e k)) + distR n S cs e by
      unfold distR; rw [List.zipWith_cons_cons, List.sum_cons]]
    rw [ih, ← rs_mul, ← rs_add]
    refine rs_congr fun k _ => ?_
    rw [sqR_cons, colR_cons, List.sum_cons, Rat.intCast_add]
    grind
theorem prc_rs {n : Nat} {p : Pt} {s : List Rat} (h1 : s.length = n) (h2 : p.row.length = n) : prc p s = (rs n fun k => (s.getD k 0 - ((p.row.getD k 0 : Int) : Rat)) * (s.getD k 0 - ((p.row.getD k 0 : Int) : Rat))) - (p.wt : Rat) := by
  unfold prc
  rw [sumR_sum, zw_rs sqd 0 0 n s p.row h1 h2, Rat.zero_add]
  rfl
theorem lev_rs {n : Nat} {p : Pt} (h2 : p.row.length = n) : ((levI p : Int) : Rat) = (rs n fun k => ((p.row.getD k 0 : Int) : Rat) * ((p.row.getD k 0 : Int) : Rat)) - (p.wt : Rat) := by
  unfold levI
  rw [Rat.intCast_sub]
  congr 1
  have cast : ∀ r : List Int, (((r.map fun x => x * x).sum : Int) : Rat) = (r.map fun x : Int => (x : Rat) * (x : Rat)).sum := by
    intro r
    induction r with
    | nil => rfl
    | cons x r ih => rw [List.map_cons, List.map_cons, List.sum_cons, List.sum_cons, Rat.intCast_add, ih, Rat.intCast_mul]
  rw [cast, map_rs (fun x : Int => (x : Rat) * (x : Rat)) 0 n _ h2]
theorem tot_dist {n : Nat} {p : Pt} (h2 : p.row.length = n) : ∀ (S : List (List Rat)) (cs : List Int), S.length = cs.length → (∀ s ∈ S, s.length = n) → totS S cs p = distR n S cs (fun k => ((p.row.getD k 0 : Int) : Rat)) - ((cs.sum : Int) : Rat) * (p.wt : Rat)
  | [], [], _, _ => by
    rw [show totS [] [] p = 0 from rfl, show distR n [] [] _ = 0 from rfl, show (([] : List Int).sum) = 0 from rfl]
    grind
  | s :: S, c :: cs, h, hs => by
    have ih := tot_dist h2 S cs (Nat.succ.inj h) fun s hs' => hs s (List.mem_cons_of_mem _ hs')
    rw [show totS (s :: S) (c :: cs) p = (c : Rat) * prc p s + totS S cs p by unfold totS totL; rw [List.zipWith_cons_cons, List.sum_cons], ih, prc_rs (hs s (List.mem_cons_self ..)) h2]
    rw [show distR n (s :: S) (c :: cs) (fun k => ((p.row.getD k 0 : Int) : Rat)) = (c : Rat) * (rs n fun k => (s.getD k 0 - ((p.row.getD k 0 : Int) : Rat)) * (s.getD k 0 - ((p.row.getD k 0 : Int) : Rat))) + distR n S cs (fun k => ((p.row.getD k 0 : Int) : Rat)) by
      unfold distR; rw [List.zipWith_cons_cons, List.sum_cons]]
    rw [List.sum_cons, Rat.intCast_add]
    grind
theorem far_dist {n : Nat} {mean : List Rat} (h2 : mean.length = n) : ∀ (S : List (List Rat)) (cs : List Int), S.length = cs.length → (∀ s ∈ S, s.length = n) → farR S cs mean = distR n S cs (fun k => mean.getD k 0)
  | [], [], _, _ => rfl
  | s :: S, c :: cs, h, hs => by
    have ih := far_dist h2 S cs (Nat.succ.inj h) fun s hs' => hs s (List.mem_cons_of_mem _ hs')
    rw [show farR (s :: S) (c :: cs) mean = (farRow mean s c).sum + farR S cs mean by unfold farR; rw [List.zipWith_cons_cons, List.sum_cons], ih]
    rw [show distR n (s :: S) (c :: cs) (fun k => mean.getD k 0) = (c : Rat) * (rs n fun k => (s.getD k 0 - mean.getD k 0) * (s.getD k 0 - mean.getD k 0)) + distR n S cs (fun k => mean.getD k 0) by
      unfold distR; rw [List.zipWith_cons_cons, List.sum_cons]]
    congr 1
    unfold farRow
    rw [zw_rs (fun (x y : Rat) => (c : Rat) * ((x - y) * (x - y))) 0 0 n s mean (hs s (List.mem_cons_self ..)) h2, ← rs_mul]
theorem inv_mul {cs : List Int} (h : 0 < cs.sum) : ((cs.sum : Int) : Rat) * invN cs = 1 := by
  unfold invN
  obtain ⟨n, e⟩ : ∃ n : Nat, cs.sum = n := ⟨cs.sum.toNat, by omega⟩
  rw [e, Int.toNat_natCast, Rat.mkRat_eq_div]
  have : ((n : Int) : Rat) ≠ 0 := by
    intro z
    have : (n : Int) = 0 := by exact_mod_cast z
    omega
  rw [Rat.div_def]
  have e3 : ((n : Int) : Rat) * ((n : Int) : Rat)⁻¹ = 1 := Rat.mul_inv_cancel _ this
  have e4 : ((1 : Int) : Rat) = 1 := rfl
  rw [e4, Rat.one_mul]
  exact e3
section
variable {dim : Nat} {S : List (List Rat)} {cs : List Int}
theorem mean_len : (meanR dim S cs).length = dim := by
  unfold meanR
  rw [List.length_map, List.length_range]
theorem mean_get {k : Nat} (h : k < dim) : (meanR dim S cs).getD k 0 = colR S cs k * invN cs := by
  unfold meanR
  rw [List.getD_eq_getElem?_getD, List.getElem?_map, List.getElem?_range h]
  rfl
theorem Comp.lens (h : Comp dim S cs) : ∀ s ∈ S, s.length = dim := fun s hs => (h.spot s hs).1
/-- the program's total is the law's -/
theorem tot_eq (h : Comp dim S cs) {p : Pt} (gp : GoodPt dim p) : totR dim S cs p = totS S cs p := by
  rw [tot_dist gp.len S cs h.len h.lens, dist_eq dim _ S cs h.len]
  unfold totR sqsR colsR
  rw [Rat.intCast_mul, lev_rs gp.len, sumR_sum, sumR_sum, zw_rs (fun (e : Int) (x : Rat) => (e : Rat) * x) 0 0 dim p.row _ gp.len (by rw [List.length_map, List.length_range])]
  rw [show ((List.range dim).map (sqR S cs)).sum = rs dim (sqR S cs) from rfl]
  have e1 : (rs dim fun k => sqR S cs k - 2 * ((p.row.getD k 0 : Int) : Rat) * colR S cs k + ((cs.sum : Int) : Rat) * (((p.row.getD k 0 : Int) : Rat) * ((p.row.getD k 0 : Int) : Rat))) =
      rs dim (sqR S cs) + (-2) * (rs dim fun k => ((p.row.getD k 0 : Int) : Rat) * ((List.range dim).map (colR S cs)).getD k 0) + ((cs.sum : Int) : Rat) * rs dim fun k => ((p.row.getD k 0 : Int) : Rat) * ((p.row.getD k 0 : Int) : Rat) := by
    rw [← rs_mul, ← rs_mul, ← rs_add, ← rs_add]
    refine rs_congr fun k hk => ?_
    rw [show ((List.range dim).map (colR S cs)).getD k 0 = colR S cs k by rw [List.getD_eq_getElem?_getD, List.getElem?_map, List.getElem?_range hk]; rfl]
    grind
  rw [e1]
  grind
/-- the spread is the law's -/
theorem far_eq (h : Comp dim S cs) : spreadR dim S cs = farR S cs (meanR dim S cs) := by
  rw [far_dist mean_len S cs h.len h.lens, dist_eq dim _ S cs h.len]
  have w := inv_mul h.sum_pos
  unfold spreadR sqsR colsR
  rw [sumR_sum, sumR_sum, List.map_map]
  rw [show ((List.range dim).map (sqR S cs)).sum = rs dim (sqR S cs) from rfl, show ((List.range dim).map ((fun x => x * x) ∘ colR S cs)).sum = rs dim (fun k => colR S cs k * colR S cs k) from rfl]
  have e1 : (rs dim fun k => sqR S cs k - 2 * (meanR dim S cs).getD k 0 * colR S cs k + ((cs.sum : Int) : Rat) * ((meanR dim S cs).getD k 0 * (meanR dim S cs).getD k 0)) =
      rs dim (sqR S cs) + (-invN cs) * (rs dim fun k => colR S cs k * colR S cs k) := by
    rw [← rs_mul, ← rs_add]
    refine rs_congr fun k hk => ?_
    rw [mean_get hk]
    generalize colR S cs k = x, sqR S cs k = y, invN cs = v, ((cs.sum : Int) : Rat) = z at w
    have : z * (x * v * (x * v)) = x * x * v * (z * v) := by grind
    rw [this, w]
    grind
  rw [e1, Rat.div_def]
  have iv : ((cs.sum : Int) : Rat)⁻¹ = invN cs := by
    generalize invN cs = v, ((cs.sum : Int) : Rat) = z at w
    have z0 : z ≠ 0 := fun e => by rw [e, Rat.zero_mul] at w; exact absurd w (by decide)
    have := Rat.mul_inv_cancel _ z0
    grind
  rw [iv]
  grind
/-- the spread and the mean spot's price give the total -/
theorem own_eq (h : Comp dim S cs) {p : Pt} (gp : GoodPt dim p) : farR S cs (meanR dim S cs) + ((cs.sum : Int) : Rat) * prc p (meanR dim S cs) = totS S cs p := by
  rw [far_dist mean_len S cs h.len h.lens, dist_eq dim _ S cs h.len, tot_dist gp.len S cs h.len h.lens, dist_eq dim _ S cs h.len, prc_rs mean_len gp.len]
  have w := inv_mul h.sum_pos
  have e1 : (rs dim fun k => sqR S cs k - 2 * ((p.row.getD k 0 : Int) : Rat) * colR S cs k + ((cs.sum : Int) : Rat) * (((p.row.getD k 0 : Int) : Rat) * ((p.row.getD k 0 : Int) : Rat))) =
      (rs dim fun k => sqR S cs k - 2 * (meanR dim S cs).getD k 0 * colR S cs k + ((cs.sum : Int) : Rat) * ((meanR dim S cs).getD k 0 * (meanR dim S cs).getD k 0)) + ((cs.sum : Int) : Rat) * (rs dim fun k => ((meanR dim S cs).getD k 0 - ((p.row.getD k 0 : Int) : Rat)) * ((meanR dim S cs).getD k 0 - ((p.row.getD k 0 : Int) : Rat))) := by
    rw [← rs_mul, ← rs_add]
    refine rs_congr fun k hk => ?_
    rw [mean_get hk]
    generalize colR S cs k = x, sqR S cs k = y, invN cs = v, ((cs.sum : Int) : Rat) = z, ((p.row.getD k 0 : Int) : Rat) = e at w
    have : z * (x * v) = x := by
      have : z * (x * v) = x * (z * v) := by grind
      rw [this, w]; grind
    grind
  rw [e1]
  grind
end
end Ny
end
section
set_option Elab.async false
set_option linter.all false
set_option maxRecDepth 100000
set_option exponentiation.threshold 5000
/-! ## what the law's comparisons need -/
namespace Ny
open PySem Pd Rt
theorem for_mem {t : D → Rho → (Rho → Prop) → Prop} {F : Rho → Prop} {items : List D} {ρ : Rho} (I : Rho → Prop) (h0 : I ρ) (step : ∀ d ∈ items, ∀ ρ (K : Rho → Prop), I ρ → (∀ ρ', I ρ' → K ρ') → t d ρ K) (fin : ∀ ρ, I ρ → F ρ) : wFor t items ρ F := by
  refine for_I (fun its ρ => (∀ d ∈ its, d ∈ items) ∧ I ρ) ⟨fun _ h => h, h0⟩ ?_ fun ρ h => fin ρ h.2
  rintro d r ρ K ⟨h1, h2⟩ hK
  exact step d (h1 d (List.mem_cons_self ..)) ρ K h2 fun ρ' h => hK ρ' ⟨fun x hx => h1 x (List.mem_cons_of_mem _ hx), h⟩
/-! plain data -/
theorem eqd_rat (n : Nat) (x : Rat) : eqd (n + 1) (rat x) = true := by
  cases n <;> rfl
theorem eqd_int (n : Nat) (i : Int) : eqd n (.int i) = true := by
  cases n <;> rfl
theorem eqd_lst {n : Nat} {l : List D} (hz : l.length ≤ 1000) (h : ∀ d ∈ l, eqd n d = true) : eqd (n + 1) (.lst l) = true := by
  show (decide (l.length ≤ 1000) && l.all (eqd n)) = true
  rw [decide_eq_true hz, Bool.true_and]
  exact List.all_eq_true.mpr h
theorem eqd_tup {n : Nat} {l : List D} (hz : l.length ≤ 1000) (h : ∀ d ∈ l, eqd n d = true) : eqd (n + 1) (.tup l) = true := eqd_lst (n := n) hz h
theorem eqd_spot {n : Nat} {s : List Rat} (h : s.length ≤ 1000) : eqd (n + 2) (spotD s) = true := eqd_tup (by rw [List.length_map]; exact h) fun d hd => by
  obtain ⟨x, _, rfl⟩ := List.mem_map.mp hd
  exact eqd_rat n x
theorem eqd_ints {n : Nat} {l : List Int} (h : l.length ≤ 1000) : ∀ d ∈ l.map D.int, eqd n d = true := fun d hd => by
  obtain ⟨x, _, rfl⟩ := List.mem_map.mp hd
  exact eqd_int n x
theorem eqd_ans {n : Nat} {d : D} (h : eqd (n + 1) d = true) : eqd (n + 2) (ansD d) = true := eqd_tup (show 2 ≤ 1000 by decide) fun x hx => by
  rcases List.mem_cons.mp hx with rfl | hx
  · exact (by decide +kernel : PyData.strOk (Str.ofString "answer") = true)
  · rw [List.mem_singleton.mp hx]; exact h
section
variable {dim : Nat} {S : List (List Rat)} {cs : List Int} {ps : List Pt}
/-! sizes -/
theorem tot_sQ (h : Comp dim S cs) {p : Pt} (gp : GoodPt dim p) : Q (84 * 84) 1712 (totS S cs p) := by
  have := sum_Q (m := 84 * 84) (b := 1680) (by decide) (tot_Q h gp)
  have h1 := h.most
  refine this.mono ?_
  unfold totL
  rw [List.length_zipWith]
  omega
theorem tot_sm (h : Comp dim S cs) {p : Pt} (gp : GoodPt dim p) : Sm 4000 (totS S cs p) := (tot_sQ h gp).sm (by decide) big7056 (by decide)
theorem W_ne (h : Comp dim S cs) : cs.sum.toNat ≠ 0 := by have := h.sum_pos; omega
theorem big_W (h : Comp dim S cs) : 84 * 84 * cs.sum.toNat < 2 ^ 4000 := by
  have h1 := h.sum_bd
  have : 84 * 84 * cs.sum.toNat < 2 ^ 13 * 2 ^ 226 := Nat.mul_lt_mul_of_lt_of_le (by decide) (Nat.le_of_lt h1) (Nat.two_pow_pos _)
  rw [← Nat.pow_add] at this
  exact Nat.lt_of_lt_of_le this (Nat.pow_le_pow_right (by decide) (by decide))
theorem far_Q (h : Comp dim S cs) : Q (84 * 84 * cs.sum.toNat) 2000 (farR S cs (meanR dim S cs)) := by
  rw [← far_eq h]
  unfold spreadR colsR
  have h1 : Q (84 * 84 * cs.sum.toNat) 1999 (sqsR dim S cs) := ((sqs_Q h).lift (W_ne h) h.sum_bd).mono (by decide)
  have h2 : ∀ q ∈ ((List.range dim).map (colR S cs)).map (fun x => x * x), Q (84 * 84) 1904 q := fun q hq => by
    rw [List.map_map] at hq
    obtain ⟨k, hk, rfl⟩ := List.mem_map.mp hq
    have := col_Q h (List.mem_range.mp hk)
    exact this.mul this
  have h3 := sumR_Q (m := 84 * 84) (by decide) (a := 0) (b := 1904) Q.zero h2
  have h4 : Q (84 * 84) 1907 (sumR 0 (((List.range dim).map (colR S cs)).map (fun x => x * x))) := h3.mono (by rw [List.length_map, List.length_map, List.length_range]; have := h.dm.2; omega)
  have iv : ((cs.sum : Int) : Rat)⁻¹ = invN cs := by
    have w := inv_mul h.sum_pos
    generalize invN cs = v, ((cs.sum : Int) : Rat) = z at w
    have z0 : z ≠ 0 := fun e => by rw [e, Rat.zero_mul] at w; exact absurd w (by decide)
    have := Rat.mul_inv_cancel _ z0
    grind
  have h5 := h4.mul (inv_Q h.sum_pos)
  rw [Rat.div_def, iv]
  exact h1.sub (by have := W_ne h; omega) (h5.mono (by decide))
theorem far_sm (h : Comp dim S cs) : Sm 4000 (farR S cs (meanR dim S cs)) := (far_Q h).sm (by have := W_ne h; omega) (big_W h) (by decide)
theorem own_sm (h : Comp dim S cs) {p : Pt} (gp : GoodPt dim p) : Sm 4000 (((cs.sum : Int) : Rat) * prc p (meanR dim S cs)) := by
  have e : ((cs.sum : Int) : Rat) * prc p (meanR dim S cs) = totS S cs p - farR S cs (meanR dim S cs) := by
    have := own_eq h gp
    grind
  rw [e]
  have h1 : Q (84 * 84 * cs.sum.toNat) 2000 (totS S cs p) := ((tot_sQ h gp).lift (W_ne h) h.sum_bd).mono (by decide)
  exact (h1.sub (by have := W_ne h; omega) (far_Q h)).sm (by have := W_ne h; omega) (big_W h) (by decide)
theorem sum_Bd (h : Comp dim S cs) : Bd 226 cs.sum := by
  have h1 := h.sum_pos
  have h2 := h.sum_bd
  unfold Bd
  omega
/-! least totals -/
theorem cmp_neg (p q : Rat) : decide (cmpI p q < 0) = decide (p < q) := by
  unfold cmpI
  by_cases h : p < q
  · have : ¬ q < p := fun z => by grind
    rw [if_pos h, if_neg this, decide_eq_true h]; rfl
  · rw [if_neg h, decide_eq_false h]
    split <;> rfl
theorem tot_le (h : Comp dim S cs) {p q : Pt} (gp : GoodPt dim p) (gq : GoodPt dim q) : totS S cs p ≤ totS S cs q ↔ prc p (meanR dim S cs) ≤ prc q (meanR dim S cs) := by
  rw [← own_eq h gp, ← own_eq h gq]
  have w : (0 : Rat) < ((cs.sum : Int) : Rat) := Rat.intCast_pos.mpr h.sum_pos
  constructor
  · intro z
    have : ((cs.sum : Int) : Rat) * prc p (meanR dim S cs) ≤ ((cs.sum : Int) : Rat) * prc q (meanR dim S cs) := by grind
    exact Rat.le_of_mul_le_mul_left this w
  · intro z
    have := Rat.mul_le_mul_of_nonneg_left z (Rat.le_of_lt w)
    grind
theorem least_tot (gp : GoodPts dim ps) (h : Comp dim S cs) : ((List.range ps.length).filter fun k => ((((ps.map (totS S cs)).filter fun q => decide (cmpI q ((ps.map (totS S cs)).getD k 0) < 0)).length : Int) == 0)) = cheap ps (meanR dim S cs) := by
  unfold cheap
  refine List.filter_congr fun k hk => ?_
  have hk := List.mem_range.mp hk
  rw [List.getElem?_eq_getElem hk]
  have e : (ps.map (totS S cs)).getD k 0 = totS S cs ps[k] := by simp [List.getD, hk]
  rw [e]
  rw [Bool.eq_iff_iff, beq_iff_eq, List.all_eq_true]
  have gk := gp.pts _ (List.getElem_mem hk)
  constructor
  · intro z q hq
    have z : ((ps.map (totS S cs)).filter fun q => decide (cmpI q (totS S cs ps[k]) < 0)) = [] := List.eq_nil_of_length_eq_zero (by omega)
    have := List.filter_eq_nil_iff.mp z _ (List.mem_map_of_mem hq)
    rw [cmp_neg] at this
    have : ¬ totS S cs q < totS S cs ps[k] := by simpa using this
    exact decide_eq_true ((tot_le h gk (gp.pts q hq)).mp (by grind))
  · intro z
    have : ((ps.map (totS S cs)).filter fun q => decide (cmpI q (totS S cs ps[k]) < 0)) = [] := List.filter_eq_nil_iff.mpr fun x hx => by
      obtain ⟨q, hq, rfl⟩ := List.mem_map.mp hx
      rw [cmp_neg]
      have := (tot_le h gk (gp.pts q hq)).mpr (of_decide_eq_true (z q hq))
      have : ¬ totS S cs q < totS S cs ps[k] := by grind
      simpa using this
    rw [this]
    rfl
/-! a good company is not refused -/
theorem comp_none {d c : D} (h : CompD dim S cs d c) : compRef dim d c = none := by
  have one := h.ok.one
  unfold compRef
  rw [h.sp]
  dsimp only
  rw [if_neg (by
    cases S with
    | nil => cases one
    | cons s S => exact Bool.noConfusion)]
  have a : (spotsL S).all (areRats dim) = true := List.all_eq_true.mpr fun x hx => by
    obtain ⟨s, hs, rfl⟩ := List.mem_map.mp hx
    exact rats_len (by rw [h.ok.lens s hs])
  rw [if_neg (by rw [a]; exact Bool.noConfusion)]
  rw [h.ct]
  dsimp only
  have l : ((cs.map D.int).length == (spotsL S).length) = true := by
    rw [List.length_map]; unfold spotsL; rw [List.length_map, h.ok.len]; exact beq_self_eq_true _
  rw [if_neg (by rw [l]; exact Bool.noConfusion)]
  have b : (cs.map D.int).all okCount = true := List.all_eq_true.mpr fun x hx => by
    obtain ⟨s, hs, rfl⟩ := List.mem_map.mp hx
    exact decide_eq_true (h.ok.cnt s hs).1
  rw [if_neg (by rw [b]; exact Bool.noConfusion)]
  rw [if_neg (by unfold spotsL; rw [List.length_map]; have := h.few; omega)]
theorem dim_none {d c : D} (h : CompD dim S cs d c) : dimRef d = none ∧ ∃ x l, seqD d = some (.tup x :: l) ∧ (x.length : Int) = dim := by
  have one := h.ok.one
  obtain ⟨s, S', rfl⟩ : ∃ s S', S = s :: S' := by
    cases S with
    | nil => cases one
    | cons a b => exact ⟨a, b, rfl⟩
  have l := h.ok.lens s (List.mem_cons_self ..)
  refine ⟨?_, s.map rat, spotsL S', h.sp, by rw [List.length_map, l]⟩
  unfold dimRef
  rw [h.sp]
  show (if (s.map rat).length < 1 ∨ 3 < (s.map rat).length then some BadSpot else none) = none
  rw [if_neg (by rw [List.length_map, l]; have := h.ok.dm; omega)]
theorem comp_pl {d c : D} (h : CompD dim S cs d c) : pl d = true ∧ pl c = true := by
  have h1 := seq_of h.sp
  have h2 := seq_of h.ct
  have hc : plL (cs.map D.int) = true := by
    clear h1 h2 h
    induction cs with
    | nil => rfl
    | cons c r ih => exact ih
  constructor
  · rcases h1.1 with rfl | rfl <;> exact spots_pl S
  · rcases h2.1 with rfl | rfl <;> exact hc
/-- what a call answers -/
def Serves (dim : Nat) (ps : List Pt) (S : List (List Rat)) (cs : List Int) (name : Str) (a due : D) : Prop :=
  eqd 4 due = true ∧ ∀ (d c : D) (P : D → Bool → Prop) (R : Exn → Prop), CompD dim S cs d c → P (ansD due) false → sp__law_call [.str name, a, d, c] P R
theorem sv_totals (gp : GoodPts dim ps) (h : Comp dim S cs) : Serves dim ps S cs "totals" (bookD dim ps) (.tup ((ps.map (totS S cs)).map rat)) := by
  have few : ps.length ≤ 12 := Nat.le_trans gp.most (lim_le gp.dm)
  refine ⟨eqd_tup (by rw [List.length_map, List.length_map]; omega) fun d hd => ?_, fun d c P R cd hp => ⟨_, _, _, _, rfl, .inl ⟨rfl, dim, ps, d, c, rfl, gp, (comp_pl cd).1, (comp_pl cd).2, ?_⟩⟩⟩
  · obtain ⟨x, _, rfl⟩ := List.mem_map.mp hd
    exact eqd_rat _ x
  · rw [comp_none cd]
    refine ⟨S, cs, cd, by decide, ?_⟩
    rw [show ps.map (totR dim S cs) = ps.map (totS S cs) from List.map_congr_left fun p hp => tot_eq h (gp.pts p hp)]
    exact hp
theorem sv_price (gp : GoodPts dim ps) (h : Comp dim S cs) {k : Nat} {p : Pt} (hk : ps[k]? = some p) : Serves dim ps S cs "total_price" (.lst [bookD dim ps, .int k]) (rat (totS S cs p)) := by
  refine ⟨eqd_rat _ _, fun d c P R cd hp => ⟨_, _, _, _, rfl, .inr (.inl ⟨rfl, _, _, rfl, dim, ps, _, d, c, rfl, gp, rfl, (comp_pl cd).1, (comp_pl cd).2, ?_⟩)⟩⟩
  obtain ⟨hk', e⟩ := List.getElem?_eq_some_iff.mp hk
  rw [if_pos (show isNum ps.length (.int (k : Nat)) = true by
    show (decide ((0 : Int) ≤ (k : Nat)) && decide (((k : Nat) : Int) < (ps.length : Nat))) = true
    rw [decide_eq_true (by omega), decide_eq_true (by omega)]; rfl), comp_none cd]
  refine ⟨k, p, S, cs, rfl, hk, cd, by decide, ?_⟩
  rw [tot_eq h (gp.pts p (List.mem_of_getElem? hk))]
  exact hp
theorem sv_spread (a : D) (h : Comp dim S cs) : Serves dim ps S cs "spread" a (rat (farR S cs (meanR dim S cs))) := by
  refine ⟨eqd_rat _ _, fun d c P R cd hp => ⟨_, _, _, _, rfl, .inr (.inr (.inl ⟨rfl, d, c, rfl, (comp_pl cd).1, (comp_pl cd).2, ?_⟩))⟩⟩
  obtain ⟨e, x, l, e2, e3⟩ := dim_none cd
  rw [e]
  refine ⟨dim, ⟨x, l, e2, e3.symm⟩, ?_⟩
  rw [comp_none cd]
  refine ⟨dim, S, cs, rfl, cd, by decide, ?_⟩
  rw [far_eq h]
  exact hp
theorem sv_least (gp : GoodPts dim ps) (h : Comp dim S cs) : Serves dim ps S cs "least_total" (bookD dim ps) (.tup (natsD (cheap ps (meanR dim S cs)))) := by
  have few : ps.length ≤ 12 := Nat.le_trans gp.most (lim_le gp.dm)
  refine ⟨eqd_tup ?_ fun d hd => ?_, fun d c P R cd hp => ⟨_, _, _, _, rfl, .inr (.inr (.inr (.inr (.inr ⟨rfl, dim, ps, d, c, rfl, gp, (comp_pl cd).1, (comp_pl cd).2, ?_⟩))))⟩⟩
  · unfold natsD cheap
    rw [List.length_map]
    exact Nat.le_trans (List.length_filter_le ..) (by rw [List.length_range]; omega)
  · obtain ⟨x, _, rfl⟩ := List.mem_map.mp hd
    exact eqd_int _ _
  · rw [comp_none cd]
    exact ⟨S, cs, cd, by decide, hp⟩
theorem dem_le (h : Comp dim S cs) (gp : GoodPts dim ps) : (demL ps S cs (List.replicate ps.length 0)).length ≤ 1000 := by
  rw [dem_len, List.length_replicate]
  have few : ps.length ≤ 12 := Nat.le_trans gp.most (lim_le gp.dm)
  omega
theorem sv_demand (gp : GoodPts dim ps) (h : Comp dim S cs) : Serves dim ps S cs "demand" (bookD dim ps) (.tup ((demL ps S cs (List.replicate ps.length 0)).map D.int)) := by
  refine ⟨eqd_tup (by rw [List.length_map]; exact dem_le h gp) (eqd_ints (dem_le h gp)), fun d c P R cd hp => ⟨_, _, _, _, rfl, .inr (.inr (.inr (.inl ⟨rfl, dim, ps, d, c, rfl, gp, (comp_pl cd).1, (comp_pl cd).2, ?_⟩)))⟩⟩
  rw [comp_none cd]
  exact ⟨S, cs, cd, by decide, hp⟩
theorem sv_mean (a : D) (h : Comp dim S cs) : Serves dim ps S cs "mean_spot" a (spotD (meanR dim S cs)) := by
  refine ⟨eqd_spot (by rw [mean_len]; have := h.dm; omega), fun d c P R cd hp => ⟨_, _, _, _, rfl, .inr (.inr (.inr (.inr (.inl ⟨rfl, d, c, rfl, (comp_pl cd).1, (comp_pl cd).2, .inr (.inr ⟨dim, S, cs, cd.sp, cd.ct, h, by decide, hp⟩)⟩))))⟩⟩
end
end Ny
end
section
set_option Elab.async false
set_option linter.all false
set_option maxRecDepth 100000
namespace Ny
open PySem Pd Rt
local macro_rules | `(tactic| walk_at "wp") => `(tactic| simp only [wSs, wS, wE, wEs, wT, wBp, wTb, wQ, wO, wI, Co.d, List.length_cons, List.length_nil, List.append_nil, List.map_cons, List.map_nil, List.cons_append, List.nil_append, if_true, if_false, Bool.false_eq_true, reduceIte, reduceCtorEq, Bool.not_true, Bool.not_false, true_and, and_true,
  Pd.getV_0, Pd.getV_s, Pd.getL_0, Pd.getL_s, Pd.set_0, Pd.set_s, Pd.asB_b, Pd.asI_i, Pd.asQ_l, Pd.asQ_t, Pd.asLs_l, Pd.add_ii, Pd.add_ss, Pd.add_ll, Pd.add_tt, Pd.sub_ii, Pd.mul_ii, Pd.mul_li, Pd.fdiv_ii, Pd.mod_ii, Pd.pow_ii, Pd.lt_ii, Pd.le_ii, Pd.gt_ii, Pd.ge_ii, Pd.eq_ii, Pd.ne_ii, Pd.isn_n, Pd.isnn_n,
  Pd.truth_b, Pd.truth_i, Pd.truth_l, Pd.truth_t, Pd.len_l, Pd.len_t, Pd.len_s, Pd.abs_i, Pd.min2_ii, Pd.max2_ii, Pd.int_i, Pd.int_b, Pd.tuple_l, Pd.tuple_t, Pd.list_l, Pd.list_t, Pd.all_l, Pd.sum_l, Pd.sum_t, Pd.ix_l0, Pd.ix_t0, Pd.ix_l1, Pd.ix_t1, Pd.ix_t2,
  Pd.tg_nm, Pd.tg_tp, Pd.tgs_nil, Pd.tgs_cons, Pd.setQ_f, Pd.setQ_t, Pd.wipe_n, Pd.wipe_c])
def svE : Sms := (.cons (.ret (.bop true (.cons (.call F__law_equal (.cons (.var 10) (.cons (.var 2) .nil))) (.cons (.call F__law_equal (.cons (.var 11) (.cons (.var 3) .nil))) .nil)))) .nil)
def svDb : Sms := (.cons (.iff (.not (.tru (.call F__law_equal (.cons (.call F__law_call (.cons (.con (.str "total_price")) (.cons (.lst (.cons (.var 1) (.cons (.var 8) .nil))) (.cons (.var 10) (.cons (.var 11) .nil))))) (.cons (.tup (.cons (.con (.str "answer")) (.cons (.ix (.var 4) (.var 8)) .nil))) .nil))))) (.cons (.ret (.con (.bl false))) .nil) .nil) (.cons (.set false 18 (.call F__law_plus (.cons (.var 6) (.cons (.call F__law_lowest (.cons (.bin .mul (.bi .sum (.cons (.var 3) .nil)) (.ix (.var 16) (.var 8))) (.cons (.var 17) .nil))) .nil)))) (.cons (.iff (.bop false (.cons (.cmp .ne (.var 18) (.ix (.var 4) (.var 8))) (.cons (.not (.tru (.call F__law_equal (.cons (.call F_price (.cons (.var 1) (.cons (.var 8) (.cons (.var 5) .nil)))) (.cons (.call F__law_lowest (.cons (.ix (.var 16) (.var 8)) (.cons (.var 17) .nil))) .nil))))) .nil))) (.cons (.ret (.con (.bl false))) .nil) .nil) .nil)))
def svD : Sms := (.cons (.loop (.nm 8) (.r1 (.bi .len (.cons (.var 0) .nil))) svDb) svE)
def svC : Sms := (.cons (.tgt (.tp (.cons (.nm 16) (.cons (.nm 17) .nil))) (.call F__law_costs (.cons (.var 0) (.cons (.var 5) .nil)))) (.cons (.iff (.bop false (.cons (.cmp .ne (.call F__law_least (.cons (.var 16) .nil)) (.var 7)) (.cons (.not (.tru (.call F__law_equal (.cons (.call F_cheapest (.cons (.var 1) (.cons (.var 5) .nil))) (.cons (.bi .tuple (.cons (.var 7) .nil)) .nil))))) .nil))) (.cons (.ret (.con (.bl false))) .nil) .nil) svD))
def svBb : Sms := (.cons (.loop (.nm 15) (.seq (.lst (.cons (.tup (.cons (.var 10) (.cons (.var 11) .nil))) (.cons (.tup (.cons (.bi .tuple (.cons (.var 2) .nil)) (.cons (.bi .tuple (.cons (.var 3) .nil)) .nil))) .nil)))) (.cons (.iff (.not (.tru (.call F__law_equal (.cons (.call F__law_call (.cons (.var 13) (.cons (.var 1) (.cons (.ix (.var 15) (.con (.int 0))) (.cons (.ix (.var 15) (.con (.int 1))) .nil))))) (.cons (.tup (.cons (.con (.str "answer")) (.cons (.var 14) .nil))) .nil))))) (.cons (.ret (.con (.bl false))) .nil) .nil) .nil)) .nil)
def svB : Sms := (.cons (.loop (.tp (.cons (.nm 13) (.cons (.nm 14) .nil))) (.seq (.bin .add (.var 12) (.lst (.cons (.tup (.cons (.con (.str "demand")) (.cons (.call F__law_demand (.cons (.var 0) (.cons (.var 2) (.cons (.var 3) .nil)))) .nil))) .nil)))) svBb) svC)
theorem served_cut : ir__law_served = (.cons (.set false 4 (.call F__law_sums (.cons (.var 0) (.cons (.var 2) (.cons (.var 3) .nil))))) (.cons (.tgt (.tp (.cons (.nm 5) (.cons (.nm 6) .nil))) (.call F__law_middle_of (.cons (.var 2) (.cons (.var 3) .nil)))) (.cons (.setC false 7 (.nm 8) [("k", 8)] (.r1 (.bi .len (.cons (.var 4) .nil))) (.cons (.cmp .eq (.bi .len (.cons (.comp (.nm 9) [("p", 9)] (.seq (.var 4)) (.cons (.cmp .lt (.call F__law_compare (.cons (.var 9) (.cons (.ix (.var 4) (.var 8)) .nil))) (.con (.int 0))) .nil) (.var 9)) .nil)) (.con (.int 0))) .nil) (.var 8)) (.cons (.set false 10 (.bi .list (.cons (.var 2) .nil))) (.cons (.set false 11 (.bi .list (.cons (.var 3) .nil))) (.cons (.set false 12 (.lst (.cons (.tup (.cons (.con (.str "totals")) (.cons (.bi .tuple (.cons (.var 4) .nil)) .nil))) (.cons (.tup (.cons (.con (.str "spread")) (.cons (.var 6) .nil))) (.cons (.tup (.cons (.con (.str "least_total")) (.cons (.bi .tuple (.cons (.var 7) .nil)) .nil))) (.cons (.tup (.cons (.con (.str "mean_spot")) (.cons (.var 5) .nil))) .nil)))))) svB)))))) := rfl

theorem deq_ints (l : List Int) : deqL (l.map D.int) (l.map D.int) = true := by
  induction l with
  | nil => rfl
  | cons x l ih =>
    show ((x == x) && deqL _ _) = true
    rw [ih, beq_self_eq_true]; rfl
theorem shp_ints (n : Nat) (l : List Int) : shpL n (l.map D.int) = true := by
  induction l with
  | nil => cases n <;> rfl
  | cons x l ih =>
    rw [List.map_cons]
    unfold shpL
    rw [ih, Bool.and_true]
    cases n <;> rfl
theorem ne_ints {l : List Int} {P : Bool → Prop} (p : P false) : wCmp .ne (.lst (l.map D.int)) (.lst (l.map D.int)) P :=
  ⟨shp_ints 11 l, shp_ints 11 l, by rw [show deq (.lst (l.map D.int)) (.lst (l.map D.int)) = true from deq_ints l]; exact p⟩
theorem nats_ints (l : List Nat) : natsD l = (l.map fun k : Nat => (k : Int)).map D.int := by
  rw [List.map_map]; rfl
theorem ne_nats {l : List Nat} {P : Bool → Prop} (p : P false) : wCmp .ne (.lst (natsD l)) (.lst (natsD l)) P := by
  rw [nats_ints]
  exact ne_ints p
theorem ne_rat {x : Rat} {P : Bool → Prop} (p : P false) : wCmp .ne (rat x) (rat x) P :=
  ⟨rfl, rfl, by rw [show deq (rat x) (rat x) = ((x.num == x.num) && (((x.den : Int) == x.den) && true)) from rfl, beq_self_eq_true, beq_self_eq_true]; exact p⟩
section
variable {dim : Nat} {S : List (List Rat)} {cs : List Int} {ps : List Pt} {R : Exn → Prop}
def svR (dim : Nat) (ps : List Pt) (S : List (List Rat)) (cs : List Int) (l : List Sl) : Rho :=
  [.val (ptsD ps), .val (bookD dim ps), .val (spotsD S), .val (cntD cs), .val (.lst ((ps.map (totS S cs)).map rat)), .val (spotD (meanR dim S cs)), .val (rat (farR S cs (meanR dim S cs))), .val (.lst (natsD (cheap ps (meanR dim S cs))))] ++ l
theorem eq_ok {d : D} {P : D → Bool → Prop} {R : Exn → Prop} (h : eqd 5 d = true) (p : P (.bl true) false) : sp_eq 5 [d, d] P R := ⟨d, rfl, h, p⟩
/-- the loop over what is due -/
theorem sv_body {name : Str} {due : D} {E : DE} {u8 u9 : Sl} {u15 u16 u17 u18 : Sl} {dues : D} (h : Comp dim S cs) (few : S.length ≤ 20) (sv : Serves dim ps S cs name (bookD dim ps) due)
    (fin : ∀ u15, E.nx (svR dim ps S cs [u8, u9, .val (spotsD S), .val (cntD cs), .val dues, .val (.str name), .val due, u15, u16, u17, u18])) :
    wSs svBb R (svR dim ps S cs [u8, u9, .val (spotsD S), .val (cntD cs), .val dues, .val (.str name), .val due, u15, u16, u17, u18]) E := by
  unfold svR at fin ⊢
  rw [svBb]
  simp only [F__law_call, F__law_equal, F_eq]
  rw [show spotsD S = .lst (spotsL S) from rfl, show cntD cs = .lst (cs.map D.int) from rfl] at *
  walk_at "wp"
  refine ⟨by decide, by decide, by decide, ?_⟩
  refine for_mem (fun ρ => ∃ u15, ρ = [.val (ptsD ps), .val (bookD dim ps), .val (.lst (spotsL S)), .val (.lst (cs.map D.int)), .val (.lst ((ps.map (totS S cs)).map rat)), .val (spotD (meanR dim S cs)), .val (rat (farR S cs (meanR dim S cs))), .val (.lst (natsD (cheap ps (meanR dim S cs)))), u8, u9, .val (.lst (spotsL S)), .val (.lst (cs.map D.int)), .val dues, .val (.str name), .val due, u15, u16, u17, u18]) ⟨_, rfl⟩ ?_ ?_
  · rintro d hd ρ K ⟨u15, rfl⟩ hK
    obtain ⟨a, c, rfl, cd⟩ : ∃ a c, d = .tup [a, c] ∧ CompD dim S cs a c := by
      rcases List.mem_cons.mp hd with rfl | hd
      · exact ⟨_, _, rfl, rfl, rfl, h, few⟩
      · rw [List.mem_singleton.mp hd]
        exact ⟨_, _, rfl, rfl, rfl, h, few⟩
    walk_at "wp"
    refine sv.2 a c _ _ cd ⟨by decide, eq_ok (eqd_ans sv.1) ?_⟩
    walk_at "wp"
    exact hK _ ⟨_, rfl⟩
  · rintro ρ ⟨u15, rfl⟩
    exact fin u15
theorem sv_B {u8 u9 u13 u14 u15 u16 u17 u18 : Sl} {dues : D} (h : Comp dim S cs) (few : S.length ≤ 20) (gp : GoodPts dim ps) {P : D → Bool → Prop}
    (hd : dues = .lst [.tup [.str "totals", .tup ((ps.map (totS S cs)).map rat)], .tup [.str "spread", rat (farR S cs (meanR dim S cs))], .tup [.str "least_total", .tup (natsD (cheap ps (meanR dim S cs)))], .tup [.str "mean_spot", spotD (meanR dim S cs)]])
    (fin : ∀ u13 u14 u15, wSs svC R (svR dim ps S cs [u8, u9, .val (spotsD S), .val (cntD cs), .val dues, u13, u14, u15, u16, u17, u18]) (E0 P)) :
    wSs svB R (svR dim ps S cs [u8, u9, .val (spotsD S), .val (cntD cs), .val dues, u13, u14, u15, u16, u17, u18]) (E0 P) := by
  unfold svR at fin ⊢
  rw [svB]
  simp only [F__law_demand]
  subst hd
  walk_at "wp"
  refine ⟨dim, ps, S, cs, rfl, gp, h, by decide, by decide, by decide, ?_⟩
  have key : ∀ d ∈ [D.tup [.str "totals", .tup ((ps.map (totS S cs)).map rat)], .tup [.str "spread", rat (farR S cs (meanR dim S cs))], .tup [.str "least_total", .tup (natsD (cheap ps (meanR dim S cs)))], .tup [.str "mean_spot", spotD (meanR dim S cs)], .tup [.str "demand", .tup ((demL ps S cs (List.replicate ps.length 0)).map D.int)]],
      ∃ (name : Str) (due : D), d = .tup [.str name, due] ∧ Serves dim ps S cs name (bookD dim ps) due := by
    intro d hd
    simp only [List.mem_cons, List.not_mem_nil, or_false] at hd
    rcases hd with rfl | rfl | rfl | rfl | rfl
    · exact ⟨_, _, rfl, sv_totals gp h⟩
    · exact ⟨_, _, rfl, sv_spread _ h⟩
    · exact ⟨_, _, rfl, sv_least gp h⟩
    · exact ⟨_, _, rfl, sv_mean _ h⟩
    · exact ⟨_, _, rfl, sv_demand gp h⟩
  refine for_mem (fun ρ => ∃ u13 u14 u15, ρ = svR dim ps S cs [u8, u9, .val (spotsD S), .val (cntD cs), .val (.lst [.tup [.str "totals", .tup ((ps.map (totS S cs)).map rat)], .tup [.str "spread", rat (farR S cs (meanR dim S cs))], .tup [.str "least_total", .tup (natsD (cheap ps (meanR dim S cs)))], .tup [.str "mean_spot", spotD (meanR dim S cs)]]), u13, u14, u15, u16, u17, u18]) ⟨u13, u14, u15, rfl⟩ ?_ ?_
  · rintro d hd ρ K ⟨u13, u14, u15, rfl⟩ hK
    obtain ⟨name, due, rfl, sv⟩ := key d hd
    walk_at "wp"
    exact sv_body h few sv fun u15 => hK _ ⟨_, _, u15, rfl⟩
  · rintro ρ ⟨u13, u14, u15, rfl⟩
    exact fin u13 u14 u15
theorem sv_E {u8 u9 u12 u13 u14 u15 u16 u17 u18 : Sl} (h : Comp dim S cs) (few : S.length ≤ 20) {P : D → Bool → Prop} (hp : P (.bl true) false) :
    wSs svE R (svR dim ps S cs [u8, u9, .val (spotsD S), .val (cntD cs), u12, u13, u14, u15, u16, u17, u18]) (E0 P) := by
  unfold svR
  rw [svE]
  simp only [F__law_equal, F_eq]
  walk_at "wp"
  have hm := h.most
  refine eq_ok (eqd_lst (by unfold spotsL; rw [List.length_map]; omega) fun d hd => ?_) ?_
  · obtain ⟨s, hs, rfl⟩ := List.mem_map.mp hd
    exact eqd_spot (by rw [h.lens s hs]; have := h.dm; omega)
  walk_at "wp"
  have hl := h.len
  exact eq_ok (eqd_lst (by rw [List.length_map]; omega) (eqd_ints (by omega))) hp
theorem sv_step {E : DE} {k : Nat} {u9 u12 u13 u14 u15 u18 : Sl} (h : Comp dim S cs) (few : S.length ≤ 20) (gp : GoodPts dim ps) (hk : k < ps.length)
    (fin : ∀ u18, E.nx (svR dim ps S cs [.val (.int (k : Nat)), u9, .val (spotsD S), .val (cntD cs), u12, u13, u14, u15, .val (.lst ((ps.map (costI (meanR dim S cs))).map D.int)), .val (.int (wholeI (meanR dim S cs) 1 * wholeI (meanR dim S cs) 1)), u18])) :
    wSs svDb R (svR dim ps S cs [.val (.int (k : Nat)), u9, .val (spotsD S), .val (cntD cs), u12, u13, u14, u15, .val (.lst ((ps.map (costI (meanR dim S cs))).map D.int)), .val (.int (wholeI (meanR dim S cs) 1 * wholeI (meanR dim S cs) 1)), u18]) E := by
  unfold svR at fin ⊢
  rw [svDb]
  simp only [F__law_call, F__law_equal, F_eq, F__law_plus, F__law_lowest, F_price]
  have gk := gp.pts _ (List.getElem_mem hk)
  have ek : ps[k]? = some ps[k] := List.getElem?_eq_getElem hk
  have ct : CompD dim S cs (spotsD S) (cntD cs) := ⟨rfl, rfl, h, few⟩
  have sv := sv_price gp h ek
  have et : ((ps.map (totS S cs)).map rat)[k]? = some (rat (totS S cs ps[k])) := by rw [List.getElem?_map, List.getElem?_map, ek]; rfl
  have ec : ((ps.map (costI (meanR dim S cs))).map D.int)[k]? = some (.int (costI (meanR dim S cs) ps[k])) := by rw [List.getElem?_map, List.getElem?_map, ek]; rfl
  have it : ∀ P : D → Bool → Prop, P (rat (totS S cs ps[k])) false → wIx (.lst ((ps.map (totS S cs)).map rat)) (.int (k : Nat)) P := fun P p => ix_q (n := k) rfl et p
  have ic : ∀ P : D → Bool → Prop, P (.int (costI (meanR dim S cs) ps[k])) false → wIx (.lst ((ps.map (costI (meanR dim S cs))).map D.int)) (.int (k : Nat)) P := fun P p => ix_q (n := k) rfl ec p
  have wb : Bd 9000 (wholeI (meanR dim S cs) 1 * wholeI (meanR dim S cs) 1) := ((ok_wb (mean_ok h) h.dm.2).mul (ok_wb (mean_ok h) h.dm.2)).mono (by decide)
  have wn := whole_nz (meanR dim S cs)
  walk_at "wp"
  refine ⟨by decide, sv.2 _ _ _ _ ct (it _ ⟨by decide, eq_ok (eqd_ans sv.1) ?_⟩)⟩
  walk_at "wp"
  rw [show cntD cs = .lst (cs.map D.int) from rfl]
  rw [sum_l]
  refine ic _ ?_
  walk_at "wp"
  refine ⟨(sum_Bd h).mulOk (cost_bd gk (mean_ok h) h.dm.2), _, _, rfl, wn, wb, ?_⟩
  rw [cost_div]
  refine ⟨_, _, rfl, far_sm h, own_sm h gk, ?_⟩
  rw [own_eq h gk]
  walk_at "wp"
  refine it _ (ne_rat ?_)
  walk_at "wp"
  refine ⟨dim, ps, k, ps[k], _, rfl, gp, ek, mean_ok h, ic _ ?_⟩
  refine ⟨_, _, rfl, wn, wb, ?_⟩
  have := cost_div (meanR dim S cs) ps[k] 1
  rw [Int.one_mul, show ((1 : Int) : Rat) = 1 from rfl, Rat.one_mul] at this
  rw [this]
  refine eq_ok (eqd_rat _ _) ?_
  walk_at "wp"
  exact fin _
theorem sv_D {u8 u9 u12 u13 u14 u15 u18 : Sl} (h : Comp dim S cs) (few : S.length ≤ 20) (gp : GoodPts dim ps) {P : D → Bool → Prop} (hp : P (.bl true) false) :
    wSs svD R (svR dim ps S cs [u8, u9, .val (spotsD S), .val (cntD cs), u12, u13, u14, u15, .val (.lst ((ps.map (costI (meanR dim S cs))).map D.int)), .val (.int (wholeI (meanR dim S cs) 1 * wholeI (meanR dim S cs) 1)), u18]) (E0 P) := by
  unfold svR
  rw [svD]
  rw [show ptsD ps = .lst (ps.map ptD) from rfl]
  walk_at "wp"
  rw [List.length_map]
  have few2 : ps.length ≤ 12 := Nat.le_trans gp.most (lim_le gp.dm)
  refine ⟨⟨by omega, Int.ofNat_le.mpr (Nat.le_trans few2 (by decide))⟩, ?_⟩
  refine for_rng (fun _ ρ => ∃ u8 u18, ρ = svR dim ps S cs [u8, u9, .val (spotsD S), .val (cntD cs), u12, u13, u14, u15, .val (.lst ((ps.map (costI (meanR dim S cs))).map D.int)), .val (.int (wholeI (meanR dim S cs) 1 * wholeI (meanR dim S cs) 1)), u18]) ⟨u8, u18, rfl⟩ ?_ ?_
  · rintro k ρ K hk ⟨u8, u18, rfl⟩ hK
    exact sv_step h few gp hk fun u18 => hK _ ⟨_, u18, rfl⟩
  · rintro ρ ⟨u8, u18, rfl⟩
    exact sv_E h few hp
theorem sv_C {u16 u17 u18 : Sl} {u8 u9 u12 u13 u14 u15 : Sl} (h : Comp dim S cs) (few : S.length ≤ 20) (gp : GoodPts dim ps) {P : D → Bool → Prop}
    (hp : P (.bl true) false) :
    wSs svC R (svR dim ps S cs [u8, u9, .val (spotsD S), .val (cntD cs), u12, u13, u14, u15, u16, u17, u18]) (E0 P) := by
  unfold svR
  rw [svC]
  simp only [F__law_costs, F__law_least, F_cheapest, F__law_equal, F_eq]
  walk_at "wp"
  refine ⟨dim, ps, _, rfl, gp, mean_ok h, ?_⟩
  have few2 : ps.length ≤ 12 := Nat.le_trans gp.most (lim_le gp.dm)
  have nle : (natsD (cheap ps (meanR dim S cs))).length ≤ 1000 := by
    unfold natsD cheap
    rw [List.length_map]
    exact Nat.le_trans (List.length_filter_le ..) (by rw [List.length_range]; omega)
  refine ⟨_, rfl, by rw [List.length_map]; omega, ?_⟩
  rw [least_cheap]
  walk_at "wp"
  refine ne_nats ?_
  walk_at "wp"
  refine ⟨dim, ps, _, rfl, gp, mean_ok h, eq_ok (eqd_tup nle fun d hd => ?_) ?_⟩
  · obtain ⟨x, _, rfl⟩ := List.mem_map.mp hd
    exact eqd_int _ _
  walk_at "wp"
  exact sv_D h few gp hp
end

theorem w__law_served (ds P R) (hl : ds.length = 4) (h : sp__law_served ds P R) : wSs ir__law_served R (rho0 N__law_served ds) (E0 P) := by
  obtain ⟨dim, ps, S, cs, rfl, gp, cm, few, h⟩ := h
  rw [r__law_served, served_cut]
  simp only [F__law_sums, F__law_middle_of, F__law_compare]
  walk_at "wp"
  refine ⟨_, _, _, _, rfl, gp, cm, _, _, _, rfl, cm, ?_⟩
  walk_at "wp"
  have few2 : ps.length ≤ 12 := Nat.le_trans gp.most (lim_le gp.dm)
  have el : ((ps.map (totS S cs)).map rat).length = ps.length := by rw [List.length_map, List.length_map]
  rw [el]
  refine ⟨⟨by omega, Int.ofNat_le.mpr (Nat.le_trans few2 (by decide))⟩, ?_⟩
  rw [rg_eq]
  refine loop_filter (f := fun k : Nat => D.int (k : Nat)) (p := fun k => ((((ps.map (totS S cs)).filter fun q => decide (cmpI q ((ps.map (totS S cs)).getD k 0) < 0)).length : Int) == 0)) (fun k hk K h1 h2 => ?_) ?_
  · have hk := List.mem_range.mp hk
    have et : ((ps.map (totS S cs)).map rat)[k]? = some (rat ((ps.map (totS S cs)).getD k 0)) := by
      rw [List.getElem?_map, List.getD_eq_getElem?_getD, List.getElem?_map, List.getElem?_eq_getElem hk]; rfl
    have sk : Sm 4000 ((ps.map (totS S cs)).getD k 0) := by
      rw [List.getD_eq_getElem?_getD, List.getElem?_map, List.getElem?_eq_getElem hk]
      exact tot_sm cm (gp.pts _ (List.getElem_mem hk))
    refine loop_filter (f := rat) (p := fun q => decide (cmpI q ((ps.map (totS S cs)).getD k 0) < 0)) (fun q hq K h3 h4 => ?_) ?_
    · refine ix_q (n := k) rfl et ?_
      have sq : Sm 4000 q := by
        obtain ⟨p, hp, rfl⟩ := List.mem_map.mp hq
        exact tot_sm cm (gp.pts p hp)
      refine ⟨_, _, rfl, sq, sk, ?_⟩
      walk_at "wp"
      cases e : decide (cmpI q ((ps.map (totS S cs)).getD k 0) < 0) with
      | true => rw [if_pos rfl]; exact h3 e
      | false => rw [if_neg Bool.noConfusion]; exact h4 e
    · rw [List.nil_append, List.length_map]
      cases e : (((((ps.map (totS S cs)).filter fun q => decide (cmpI q ((ps.map (totS S cs)).getD k 0) < 0)).length : Int) == 0)) with
      | true => rw [if_pos rfl]; exact h1 e
      | false => rw [if_neg Bool.noConfusion]; exact h2 e
  · rw [least_tot gp cm, List.nil_append, show (cheap ps (meanR dim S cs)).map (fun k : Nat => D.int (k : Nat)) = natsD (cheap ps (meanR dim S cs)) from rfl]
    rw [show spotsD S = .lst (spotsL S) from rfl, show cntD cs = .lst (cs.map D.int) from rfl]
    walk_at "wp"
    refine ⟨by decide, by decide, by decide, by decide, by decide, ?_⟩
    exact sv_B cm few gp rfl fun u13 u14 u15 => sv_C cm few gp h
end Ny
end
section
set_option Elab.async false
set_option linter.all false
set_option maxRecDepth 100000
/-! ## what the company's calls refuse -/
namespace Ny
open PySem Pd Rt
/-- no spots of any dimension -/
def BadSp (d : D) : Prop := pl d = true ∧ (seqD d = none ∨ ∃ l, seqD d = some l ∧ ∀ n : Int, l = [] ∨ l.all (areRats n) = false)
/-- no counts for m spots -/
def BadCt (m : Nat) (c : D) : Prop := pl c = true ∧ (seqD c = none ∨ ∃ l, seqD c = some l ∧ ((l.length == m) = false ∨ l.all okCount = false))
theorem badsp_ref {d : D} (h : BadSp d) (n : Int) (c : D) : compRef n d c = some BadSpot := by
  unfold compRef
  rcases h.2 with e | ⟨l, e, h⟩
  · rw [e]
  · rw [e]
    dsimp only
    rcases h n with rfl | z
    · rfl
    · split
      · rfl
      · first | rfl | rw [if_pos z]
theorem dim_ref {d : D} {e : Exn} (h : dimRef d = some e) : e = BadSpot := by
  unfold dimRef at h
  split at h
  · cases h; rfl
  · split at h
    · split at h <;> cases h
      rfl
    · cases h; rfl
theorem dim_go {d : D} (h : dimRef d = none) : ∃ x l, seqD d = some (.tup x :: l) := by
  unfold dimRef at h
  split at h
  · cases h
  · rename_i l e
    split at h
    · rename_i x r
      exact ⟨x, r, e⟩
    · cases h
section
variable {dim : Nat} {S : List (List Rat)} {ps : List Pt}
/-- good spots -/
structure GoodS (dim : Nat) (S : List (List Rat)) (d : D) : Prop where
  dm : 1 ≤ dim ∧ dim ≤ 3
  one : 0 < S.length
  len : ∀ s ∈ S, s.length = dim
  sp : seqD d = some (spotsL S)
theorem GoodS.pl {d : D} (h : GoodS dim S d) : pl d = true := by
  rcases (seq_of h.sp).1 with rfl | rfl <;> exact spots_pl S
theorem GoodS.rats {d : D} (h : GoodS dim S d) : (spotsL S).all (areRats dim) = true := List.all_eq_true.mpr fun x hx => by
  obtain ⟨s, hs, rfl⟩ := List.mem_map.mp hx
  exact rats_len (by rw [h.len s hs])
theorem GoodS.ne {d : D} (h : GoodS dim S d) : (spotsL S).isEmpty = false := by
  have one := h.one
  cases S with
  | nil => cases one
  | cons s S => rfl
theorem GoodS.dimr {d : D} (h : GoodS dim S d) : dimRef d = none ∧ ∃ x l, seqD d = some (.tup x :: l) ∧ (x.length : Int) = dim := by
  have one := h.one
  have sp := h.sp
  have len := h.len
  have dm := h.dm
  obtain ⟨s, S', rfl⟩ : ∃ s S', S = s :: S' := by
    cases S with
    | nil => cases one
    | cons a b => exact ⟨a, b, rfl⟩
  have l := len s (List.mem_cons_self ..)
  refine ⟨?_, s.map rat, spotsL S', sp, by rw [List.length_map, l]⟩
  unfold dimRef
  rw [sp]
  show (if (s.map rat).length < 1 ∨ 3 < (s.map rat).length then some BadSpot else none) = none
  rw [if_neg (by rw [List.length_map, l]; omega)]
theorem good_ct {d c : D} (h : GoodS dim S d) (b : BadCt S.length c) : compRef dim d c = some BadNumber := by
  unfold compRef
  rw [h.sp]
  dsimp only
  rw [if_neg (by rw [h.ne]; exact Bool.noConfusion), if_neg (by rw [h.rats]; exact Bool.noConfusion)]
  rcases b.2 with e | ⟨l, e, z⟩
  · rw [e]
  · rw [e]
    dsimp only
    rw [show (spotsL S).length = S.length from List.length_map ..]
    rcases z with z | z
    · rw [if_pos z]
    · split
      · rfl
      · first | rfl | rw [if_pos z]
theorem good_large {d : D} (h : GoodS dim S d) (h21 : S.length = 21) {l : List D} (hl : l.length = 21) (hc : l.all okCount = true) : compRef dim d (.lst l) = some (TooLarge 20) := by
  unfold compRef
  rw [h.sp]
  dsimp only
  rw [if_neg (by rw [h.ne]; exact Bool.noConfusion), if_neg (by rw [h.rats]; exact Bool.noConfusion)]
  rw [show seqD (.lst l) = some l from rfl]
  dsimp only
  rw [show (spotsL S).length = S.length from List.length_map .., hl, h21, if_neg (by decide), if_neg (by rw [hc]; exact Bool.noConfusion), if_pos (by decide)]
/-- the five calls refuse alike -/
def five : List Str := ["totals", "total_price", "spread", "demand", "least_total"]
def headOf (dim : Nat) (ps : List Pt) (name : Str) : D := if name = "total_price" then .lst [bookD dim ps, .int ((ps.length : Int) - 1)] else bookD dim ps
theorem refuse5 (gp : GoodPts dim ps) {name : Str} (hn : name ∈ five) {d c : D} {e : Exn} {P : D → Bool → Prop} {R : Exn → Prop} (pd : pl d = true) (pc : pl c = true) (h1 : compRef dim d c = some e)
    (h2 : dimRef d = some e ∨ (dimRef d = none ∧ ∃ x l, seqD d = some (.tup x :: l) ∧ compRef (x.length : Nat) d c = some e)) (hp : refK P e) : sp__law_call [.str name, headOf dim ps name, d, c] P R := by
  have one := gp.one
  unfold five at hn
  simp only [List.mem_cons, List.not_mem_nil, or_false] at hn
  have t : ∀ {x y : Str}, (x == y) = false → x ≠ y := fun e z => by rw [z, beq_self_eq_true] at e; cases e
  rcases hn with rfl | rfl | rfl | rfl | rfl
  · rw [headOf, if_neg (t (by decide +kernel))]
    exact ⟨_, _, _, _, rfl, .inl ⟨rfl, dim, ps, d, c, rfl, gp, pd, pc, by rw [h1]; exact hp⟩⟩
  · rw [headOf, if_pos rfl]
    refine ⟨_, _, _, _, rfl, .inr (.inl ⟨rfl, _, _, rfl, dim, ps, _, d, c, rfl, gp, rfl, pd, pc, ?_⟩)⟩
    rw [if_pos (show isNum ps.length (.int ((ps.length : Int) - 1)) = true by
      show (decide ((0 : Int) ≤ (ps.length : Int) - 1) && decide ((ps.length : Int) - 1 < (ps.length : Nat))) = true
      rw [decide_eq_true (by omega), decide_eq_true (by omega)]; rfl), h1]
    exact hp
  · rw [headOf, if_neg (t (by decide +kernel))]
    refine ⟨_, _, _, _, rfl, .inr (.inr (.inl ⟨rfl, d, c, rfl, pd, pc, ?_⟩))⟩
    rcases h2 with e2 | ⟨e2, x, l, e3, e4⟩
    · rw [e2]; exact hp
    · rw [e2]
      refine ⟨_, ⟨x, l, e3, rfl⟩, ?_⟩
      rw [e4]
      exact hp
  · rw [headOf, if_neg (t (by decide +kernel))]
    exact ⟨_, _, _, _, rfl, .inr (.inr (.inr (.inl ⟨rfl, dim, ps, d, c, rfl, gp, pd, pc, by rw [h1]; exact hp⟩)))⟩
  · rw [headOf, if_neg (t (by decide +kernel))]
    exact ⟨_, _, _, _, rfl, .inr (.inr (.inr (.inr (.inr ⟨rfl, dim, ps, d, c, rfl, gp, pd, pc, by rw [h1]; exact hp⟩))))⟩
theorem refuse_sp (gp : GoodPts dim ps) {name : Str} (hn : name ∈ five) {d c : D} {P : D → Bool → Prop} {R : Exn → Prop} (b : BadSp d) (pc : pl c = true) (hp : refK P BadSpot) : sp__law_call [.str name, headOf dim ps name, d, c] P R := by
  refine refuse5 gp hn b.1 pc (badsp_ref b _ _) ?_ hp
  cases e : dimRef d with
  | some e2 => left; rw [dim_ref e]
  | none =>
    obtain ⟨x, l, e3⟩ := dim_go e
    exact .inr ⟨rfl, x, l, e3, badsp_ref b _ _⟩
theorem refuse_ct (gp : GoodPts dim ps) {name : Str} (hn : name ∈ five) {d c : D} {P : D → Bool → Prop} {R : Exn → Prop} (g : GoodS dim S d) (b : BadCt S.length c) (hp : refK P BadNumber) : sp__law_call [.str name, headOf dim ps name, d, c] P R := by
  refine refuse5 gp hn g.pl b.1 (good_ct g b) ?_ hp
  obtain ⟨e, x, l, e2, e3⟩ := g.dimr
  exact .inr ⟨e, x, l, e2, by rw [e3]; exact good_ct g b⟩
theorem refuse_large (gp : GoodPts dim ps) {name : Str} (hn : name ∈ five) {d : D} {P : D → Bool → Prop} {R : Exn → Prop} (g : GoodS dim S d) (h21 : S.length = 21) {l : List D} (pc : pl (.lst l) = true) (hl : l.length = 21) (hc : l.all okCount = true) (hp : refK P (TooLarge 20)) : sp__law_call [.str name, headOf dim ps name, d, .lst l] P R := by
  refine refuse5 gp hn g.pl pc (good_large g h21 hl hc) ?_ hp
  obtain ⟨e, x, l', e2, e3⟩ := g.dimr
  exact .inr ⟨e, x, l', e2, by rw [e3]; exact good_large g h21 hl hc⟩
theorem ref_sp {P : D → Bool → Prop} (p : P (.tup [.str "refused", .lst [.str "BadSpot"]]) false) : refK P BadSpot := by
  refine ⟨by decide +kernel, ?_⟩
  unfold hsK hdR
  rw [if_neg (by decide +kernel)]
  unfold hdR
  rw [if_pos (by decide +kernel)]
  exact p
theorem ref_num {P : D → Bool → Prop} (p : P (.tup [.str "refused", .lst [.str "BadNumber"]]) false) : refK P BadNumber := by
  refine ⟨by decide +kernel, ?_⟩
  unfold hsK hdR
  rw [if_neg (by decide +kernel)]
  unfold hdR
  rw [if_pos (by decide +kernel)]
  exact p
theorem ref_large {P : D → Bool → Prop} (p : P (.tup [.str "refused", .lst [.str "TooLarge"], .int 20]) false) : refK P (TooLarge 20) := by
  refine ⟨by decide +kernel, ?_⟩
  unfold hsK hdR
  rw [if_pos (by decide +kernel)]
  exact ⟨20, by decide +kernel, p⟩
end
end Ny
end
section
set_option Elab.async false
set_option linter.all false
set_option maxRecDepth 100000
namespace Ny
open PySem Pd Rt
local macro_rules | `(tactic| walk_at "wp") => `(tactic| simp only [wSs, wS, wE, wEs, wT, wBp, wTb, wQ, wO, wI, Co.d, List.length_cons, List.length_nil, List.append_nil, List.map_cons, List.map_nil, List.cons_append, List.nil_append, if_true, if_false, Bool.false_eq_true, reduceIte, reduceCtorEq, Bool.not_true, Bool.not_false, true_and, and_true,
  Pd.getV_0, Pd.getV_s, Pd.getL_0, Pd.getL_s, Pd.set_0, Pd.set_s, Pd.asB_b, Pd.asI_i, Pd.asQ_l, Pd.asQ_t, Pd.asLs_l, Pd.add_ii, Pd.add_ss, Pd.add_ll, Pd.add_tt, Pd.sub_ii, Pd.mul_ii, Pd.mul_li, Pd.fdiv_ii, Pd.mod_ii, Pd.pow_ii, Pd.lt_ii, Pd.le_ii, Pd.gt_ii, Pd.ge_ii, Pd.eq_ii, Pd.ne_ii, Pd.isn_n, Pd.isnn_n,
  Pd.truth_b, Pd.truth_i, Pd.truth_l, Pd.truth_t, Pd.len_l, Pd.len_t, Pd.len_s, Pd.abs_i, Pd.min2_ii, Pd.max2_ii, Pd.int_i, Pd.int_b, Pd.tuple_l, Pd.tuple_t, Pd.list_l, Pd.list_t, Pd.all_l, Pd.sum_l, Pd.sum_t, Pd.ix_l0, Pd.ix_t0, Pd.ix_l1, Pd.ix_t1, Pd.ix_t2,
  Pd.tg_nm, Pd.tg_tp, Pd.tgs_nil, Pd.tgs_cons, Pd.setQ_f, Pd.setQ_t, Pd.wipe_n, Pd.wipe_c])
def rfD : Sms := (.cons (.ret (.cmp .eq (.call F__law_call (.cons (.con (.str "mean_spot")) (.cons (.var 2) (.cons (.bin .add (.var 14) (.lst (.cons (.var 10) .nil))) (.cons (.bin .mul (.lst (.cons (.con (.int 1)) .nil)) (.con (.int 22))) .nil))))) (.tup (.cons (.con (.str "refused")) (.cons (.lst (.cons (.con (.str "BadSpot")) .nil)) .nil))))) .nil)
def rfC : Sms := (.cons (.loop (.nm 22) (.seq (.lst (.cons (.var 6) (.cons (.neg (.con (.int 1))) (.cons (.con (.bl true)) (.cons (.con .non) (.cons (.con (.str "0")) .nil))))))) (.cons (.iff (.cmp .ne (.call F__law_call (.cons (.con (.str "total_price")) (.cons (.lst (.cons (.var 2) (.cons (.var 22) .nil))) (.cons (.ix (.var 12) (.con (.int 0))) (.cons (.lst (.cons (.con (.int 0)) .nil)) .nil))))) (.tup (.cons (.con (.str "refused")) (.cons (.lst (.cons (.con (.str "BadNumber")) .nil)) .nil)))) (.cons (.ret (.con (.bl false))) .nil) .nil) .nil)) rfD)
def rfTb : Sms := (.cons (.set false 21 (.ife (.cmp .eq (.var 15) (.con (.str "total_price"))) (.lst (.cons (.var 2) (.cons (.bin .sub (.var 6) (.con (.int 1))) .nil))) (.var 2))) (.cons (.iff (.cmp .ne (.call F__law_call (.cons (.var 15) (.cons (.var 21) (.cons (.var 18) (.cons (.var 19) .nil))))) (.tup (.cons (.con (.str "refused")) (.cons (.lst (.cons (.var 20) .nil)) .nil)))) (.cons (.ret (.con (.bl false))) .nil) .nil) .nil))
def rfKb : Sms := (.cons (.set false 17 (.lst (.cons (.tup (.cons (.ix (.var 12) (.var 16)) (.cons (.ix (.var 13) (.var 16)) (.cons (.con (.str "BadSpot")) .nil)))) (.cons (.tup (.cons (.var 3) (.cons (.ix (.var 13) (.var 16)) (.cons (.con (.str "BadNumber")) .nil)))) (.cons (.tup (.cons (.ix (.var 12) (.var 16)) (.cons (.var 4) (.cons (.con (.str "BadSpot")) .nil)))) .nil))))) (.cons (.set false 17 (.bin .add (.var 17) (.lst (.cons (.tup (.cons (.bin .add (.var 14) (.lst (.cons (.var 10) .nil))) (.cons (.ix (.var 13) (.var 16)) (.cons (.con (.str "BadSpot")) .nil)))) (.cons (.tup (.cons (.var 14) (.cons (.bin .add (.bin .mul (.lst (.cons (.con (.int 1)) .nil)) (.con (.int 20))) (.lst (.cons (.var 11) .nil))) (.cons (.con (.str "BadNumber")) .nil)))) .nil))))) (.cons (.loop (.tp (.cons (.nm 18) (.cons (.nm 19) (.cons (.nm 20) .nil)))) (.seq (.var 17)) rfTb) .nil)))
def rfLb : Sms := (.cons (.set false 21 (.ife (.cmp .eq (.var 15) (.con (.str "total_price"))) (.lst (.cons (.var 2) (.cons (.bin .sub (.var 6) (.con (.int 1))) .nil))) (.var 2))) (.cons (.iff (.not (.tru (.call F__law_equal (.cons (.call F__law_call (.cons (.var 15) (.cons (.var 21) (.cons (.var 14) (.cons (.bin .mul (.lst (.cons (.var 5) .nil)) (.con (.int 21))) .nil))))) (.cons (.tup (.cons (.con (.str "refused")) (.cons (.lst (.cons (.con (.str "TooLarge")) .nil)) (.cons (.con (.int 20)) .nil)))) .nil))))) (.cons (.ret (.con (.bl false))) .nil) .nil) .nil))
def rfBb : Sms := (.cons (.loop (.nm 16) (.r1 (.con (.int 5))) rfKb) rfLb)
def rfB : Sms := (.cons (.loop (.nm 15) (.seq (.lst (.cons (.con (.str "totals")) (.cons (.con (.str "total_price")) (.cons (.con (.str "spread")) (.cons (.con (.str "demand")) (.cons (.con (.str "least_total")) .nil))))))) rfBb) rfC)
def rfA2 : Sms := (.cons (.set false 12 (.lst (.cons (.bin .add (.bin .add (.sl (.var 3) .no (.yes (.var 8))) (.lst (.cons (.var 10) .nil))) (.sl (.var 3) (.yes (.var 8)) .no)) (.cons (.lst .nil) (.cons (.con .non) (.cons (.con (.str "")) (.cons (.bin .add (.var 3) (.lst (.cons (.var 10) .nil))) .nil))))))) (.cons (.set false 13 (.lst (.cons (.bin .add (.bin .add (.sl (.var 4) .no (.yes (.var 8))) (.lst (.cons (.var 11) .nil))) (.sl (.var 4) (.yes (.bin .add (.var 8) (.con (.int 1)))) .no)) (.cons (.sl (.var 4) (.yes (.con (.int 1))) .no) (.cons (.bin .add (.var 4) (.lst (.cons (.con (.int 1)) .nil))) (.cons (.con .non) (.cons (.bin .add (.sl (.var 4) .no (.yes (.neg (.con (.int 1))))) (.lst (.cons (.var 11) .nil))) .nil))))))) (.cons (.set false 14 (.sl (.bin .mul (.var 3) (.con (.int 21))) .no (.yes (.con (.int 21))))) rfB)))
theorem refuses_cut : ir__law_refuses = (.cons (.set false 6 (.bi .len (.cons (.var 1) .nil))) (.cons (.set false 7 (.ix (.ix (.var 3) (.con (.int 0))) (.con (.int 0)))) (.cons (.set false 8 (.call F__law_take (.cons (.var 0) (.cons (.bi .len (.cons (.var 3) .nil)) .nil)))) (.cons (.set false 9 (.sl (.ix (.var 3) (.con (.int 0))) (.yes (.con (.int 1))) .no)) (.cons (.set false 10 (.call F__law_pick (.cons (.var 0) (.cons (.lst (.cons (.bi .list (.cons (.ix (.var 3) (.con (.int 0))) .nil)) (.cons (.bin .add (.ix (.var 3) (.con (.int 0))) (.tup (.cons (.var 7) .nil))) (.cons (.var 9) (.cons (.con .non) (.cons (.bin .add (.tup (.cons (.tup (.cons (.bin .mul (.con (.int 2)) (.ix (.var 7) (.con (.int 0)))) (.cons (.bin .mul (.con (.int 2)) (.ix (.var 7) (.con (.int 1)))) .nil))) .nil)) (.var 9)) (.cons (.con (.str "0")) (.cons (.con (.int 0)) .nil)))))))) .nil)))) (.cons (.set false 11 (.call F__law_pick (.cons (.var 0) (.cons (.lst (.cons (.con (.int 0)) (.cons (.neg (.con (.int 1))) (.cons (.con (.bl true)) (.cons (.con .non) (.cons (.con (.str "1")) (.cons (.tup (.cons (.con (.int 1)) (.cons (.con (.int 1)) .nil))) .nil))))))) .nil)))) rfA2)))))) := rfl
section
variable {dim : Nat} {S : List (List Rat)} {cs : List Int} {ps : List Pt} {R : Exn → Prop}
theorem badsp_mem {l : List D} {bad : D} {s : List Rat} (pp : plL l = true) (hb : bad ∈ l) (hs : spotD s ∈ l) (hl : s.length = dim) (nb : areRats dim bad = false) : BadSp (.lst l) := by
  refine ⟨pp, .inr ⟨l, rfl, fun n => .inr ?_⟩⟩
  rw [List.all_eq_false]
  by_cases e : n = dim
  · subst e
    exact ⟨bad, hb, by rw [nb]; exact Bool.noConfusion⟩
  · refine ⟨spotD s, hs, ?_⟩
    have : (((s.map rat).length : Int) == n) = false := by
      rw [List.length_map, hl]
      exact beq_eq_false_iff_ne.mpr fun z => e z.symm
    show ¬ ((((s.map rat).length : Int) == n) && (s.map rat).all isRat) = true
    rw [this]
    exact Bool.noConfusion
theorem badct_mem {m : Nat} {l : List D} {w : D} (pp : plL l = true) (hw : w ∈ l) (nw : okCount w = false) : BadCt m (.lst l) :=
  ⟨pp, .inr ⟨l, rfl, .inr (List.all_eq_false.mpr ⟨w, hw, by rw [nw]; exact Bool.noConfusion⟩)⟩⟩
theorem badct_len {m : Nat} {l : List D} (pp : plL l = true) (h : l.length ≠ m) : BadCt m (.lst l) := ⟨pp, .inr ⟨l, rfl, .inl (beq_eq_false_iff_ne.mpr h)⟩⟩
theorem plL_all : ∀ {l : List D}, plL l = true ↔ ∀ d ∈ l, pl d = true
  | [] => ⟨fun _ _ h => (by cases h), fun _ => rfl⟩
  | x :: l => by
    show ((pl x && plL l) = true) ↔ _
    rw [Bool.and_eq_true, plL_all]
    refine ⟨fun z d h => ?_, fun h => ⟨h x (List.mem_cons_self ..), fun d m => h d (List.mem_cons_of_mem _ m)⟩⟩
    rcases List.mem_cons.mp h with e | h
    · rw [e]; exact z.1
    · exact z.2 d h
theorem cut_drop {α : Type} {l : List α} {n : Nat} (h : n ≤ l.length) : cutD l (some (n : Int)) none = l.drop n := by
  unfold cutD
  rw [HT.sIx_none, HT.sIx_nat, Nat.min_eq_left h]
  exact List.take_of_length_le (by rw [List.length_drop]; omega)
theorem cut_take' {α : Type} {l : List α} {n : Nat} (h : n ≤ l.length) : cutD l none (some (n : Int)) = l.take n := by
  unfold cutD
  rw [HT.sIx_none, HT.sIx_nat, Nat.min_eq_left h]
  rfl
theorem cut_mem {α : Type} {l : List α} {lo hi : Option Int} {x : α} (h : x ∈ cutD l lo hi) : x ∈ l := List.mem_of_mem_drop (List.mem_of_mem_take h)
theorem cut_len {α : Type} {l : List α} {lo hi : Option Int} : (cutD l lo hi).length ≤ l.length := by
  unfold cutD
  rw [List.length_take, List.length_drop]
  omega
theorem cut_pl {l : List D} {lo hi : Option Int} (h : plL l = true) : plL (cutD l lo hi) = true := plL_all.mpr fun d hd => plL_all.mp h d (cut_mem hd)
def moreS (S : List (List Rat)) : List (List Rat) := ((List.replicate 21 S).flatten).take 21
theorem flat_len {α : Type} (l : List α) : ∀ n : Nat, ((List.replicate n l).flatten).length = n * l.length
  | 0 => by rw [List.replicate_zero, Nat.zero_mul]; rfl
  | n + 1 => by rw [List.replicate_succ, List.flatten_cons, List.length_append, flat_len l n, Nat.succ_mul]; omega
theorem more_len (h : 0 < S.length) : (moreS S).length = 21 := by
  unfold moreS
  rw [List.length_take, flat_len]
  omega
theorem more_mem {s : List Rat} (h : s ∈ moreS S) : s ∈ S := by
  unfold moreS at h
  obtain ⟨l, hl, hs⟩ := List.mem_flatten.mp (List.mem_of_mem_take h)
  rw [(List.mem_replicate.mp hl).2] at hs
  exact hs
theorem more_spots (h : 0 < S.length) : cutD (List.replicate (Int.toNat 21) (spotsL S)).flatten none (some 21) = spotsL (moreS S) := by
  have l : (spotsL S).length = S.length := List.length_map ..
  rw [show Int.toNat 21 = 21 from rfl, show (21 : Int) = ((21 : Nat) : Int) from rfl, cut_take' (by rw [flat_len]; omega)]
  unfold spotsL moreS
  rw [List.map_take, List.map_flatten, List.map_replicate]
theorem le_line {n : Nat} (h : n ≤ 1000) : n ≤ sizeLine := Nat.le_trans h (by decide)
theorem not_rat2 (x : Rat) : isRat (.tup [.int (2 * x.num), .int (2 * x.den)]) = false := by
  show (decide ((1 : Int) ≤ 2 * x.den) && ((2 * (x.den : Int)) == 1 || ((Int.gcd (2 * x.num) (2 * x.den) : Nat) : Int) == 1)) = false
  have h1 : ((2 * (x.den : Int)) == 1) = false := beq_eq_false_iff_ne.mpr (by omega)
  have h2 : (((Int.gcd (2 * x.num) (2 * x.den) : Nat) : Int) == 1) = false := beq_eq_false_iff_ne.mpr (by
    rw [Int.gcd_mul_left]
    show ((2 * Int.gcd x.num x.den : Nat) : Int) ≠ 1
    omega)
  rw [h1, h2]
  simp
/-- what spoils a spot -/
def BadOne (dim : Nat) (d : D) : Prop := pl d = true ∧ areRats dim d = false
theorem areR_len {l : List D} (h : l.length ≠ dim) : areRats dim (.tup l) = false := by
  show (((l.length : Int) == (dim : Int)) && l.all isRat) = false
  rw [show ((l.length : Int) == (dim : Int)) = false from beq_eq_false_iff_ne.mpr (by omega)]
  rfl
theorem rats_pl (s : List Rat) : plL (s.map rat) = true := plL_all.mpr fun d hd => by
  obtain ⟨x, _, rfl⟩ := List.mem_map.mp hd
  rfl
theorem plL_app {l m : List D} (h1 : plL l = true) (h2 : plL m = true) : plL (l ++ m) = true := plL_all.mpr fun d hd => by
  rcases List.mem_append.mp hd with h | h
  · exact plL_all.mp h1 d h
  · exact plL_all.mp h2 d h
theorem ints_pl (l : List Int) : plL (l.map D.int) = true := plL_all.mpr fun d hd => by
  obtain ⟨x, _, rfl⟩ := List.mem_map.mp hd
  rfl
def rfR (dim : Nat) (ps : List Pt) (S : List (List Rat)) (cs : List Int) (c : Int) (p n rest : D) (bad wrong : D) (spoilt shorts : List D) (M : List (List Rat)) (l : List Sl) : Rho :=
  [.val .sto, .val (ptsD ps), .val (bookD dim ps), .val (spotsD S), .val (cntD cs), .val (.int c), .val (.int ps.length), .val p, .val n, .val rest, .val bad, .val wrong, .val (.lst spoilt), .val (.lst shorts), .val (.lst (spotsL M))] ++ l
/-- what the setting up gives -/
structure RfF (dim : Nat) (S : List (List Rat)) (bad wrong : D) (spoilt shorts : List D) (M : List (List Rat)) : Prop where
  bad : BadOne dim bad
  wr : pl wrong = true ∧ okCount wrong = false
  sp5 : spoilt.length = 5
  sp : ∀ d ∈ spoilt, BadSp d
  sh5 : shorts.length = 5
  sh : ∀ d ∈ shorts, BadCt S.length d
  m : GoodS dim M (.lst (spotsL M))
  m21 : M.length = 21
theorem rf_A2 {P : D → Bool → Prop} {c : Int} {n : Nat} {p rest bad wrong : D} (h : Comp dim S cs) (few : S.length ≤ 20) (hn : n < S.length) (hb : BadOne dim bad) (hw : pl wrong = true ∧ okCount wrong = false)
    (fin : ∀ spoilt shorts M, RfF dim S bad wrong spoilt shorts M → wSs rfB R (rfR dim ps S cs c p (.int n) rest bad wrong spoilt shorts M [.un, .un, .un, .un, .un, .un, .un, .un]) (E0 P)) :
    wSs rfA2 R [.val .sto, .val (ptsD ps), .val (bookD dim ps), .val (spotsD S), .val (cntD cs), .val (.int c), .val (.int ps.length), .val p, .val (.int n), .val rest, .val bad, .val wrong, .un, .un, .un, .un, .un, .un, .un, .un, .un, .un, .un] (E0 P) := by
  rw [rfA2]
  rw [show spotsD S = .lst (spotsL S) from rfl, show cntD cs = .lst (cs.map D.int) from rfl]
  walk_at "wp"
  simp only [wSl]
  walk_at "wp"
  have one := h.one
  have ls : (spotsL S).length = S.length := List.length_map ..
  have lc : (cs.map D.int).length = S.length := by rw [List.length_map, h.len]
  have c1 : (cutD (spotsL S) none (some (n : Int))).length ≤ 20 := Nat.le_trans cut_len (by omega)
  have c2 : (cutD (spotsL S) (some (n : Int)) none).length ≤ 20 := Nat.le_trans cut_len (by omega)
  have c3 : (cutD (cs.map D.int) none (some (n : Int))).length ≤ 20 := Nat.le_trans cut_len (by omega)
  have c4 : (cutD (cs.map D.int) (some ((n : Int) + 1)) none).length ≤ 20 := Nat.le_trans cut_len (by omega)
  have c5 : (cutD (cs.map D.int) none (some (-1))).length ≤ 20 := Nat.le_trans cut_len (by omega)
  refine ⟨by decide, le_line (by omega), le_line (by rw [List.length_append, List.length_singleton]; omega), by decide, by decide, le_line (by omega), by decide, by decide, le_line (by omega), le_line (by rw [List.length_append, List.length_singleton]; omega), by decide, le_line (by omega), by decide, le_line (by omega), by decide, by decide, by decide, le_line (by rw [show Int.toNat 21 = 21 from rfl]; omega), ?_⟩
  rw [more_spots one]
  refine fin _ _ _ ⟨hb, hw, rfl, fun d hd => ?_, rfl, fun d hd => ?_, ⟨h.dm, by rw [more_len one]; decide, fun s hs => h.lens s (more_mem hs), rfl⟩, more_len one⟩
  · have s0 : spotD S[0] ∈ spotsL S := List.mem_map_of_mem (List.getElem_mem one)
    have l0 := h.lens S[0] (List.getElem_mem one)
    have pb : plL [bad] = true := plL_all.mpr fun d hd => by rw [List.mem_singleton.mp hd]; exact hb.1
    simp only [List.mem_cons, List.not_mem_nil, or_false] at hd
    rcases hd with rfl | rfl | rfl | rfl | rfl
    · refine badsp_mem (plL_app (plL_app (cut_pl (spots_pl S)) pb) (cut_pl (spots_pl S))) (bad := bad) (s := S[0]) (List.mem_append_left _ (List.mem_append_right _ (List.mem_singleton_self _))) ?_ l0 hb.2
      rw [cut_take' (by omega), cut_drop (by omega)]
      have : spotD S[0] ∈ (spotsL S).take n ++ (spotsL S).drop n := by rw [List.take_append_drop]; exact s0
      rcases List.mem_append.mp this with m | m
      · exact List.mem_append_left _ (List.mem_append_left _ m)
      · exact List.mem_append_right _ m
    · exact ⟨rfl, .inr ⟨[], rfl, fun _ => .inl rfl⟩⟩
    · exact ⟨rfl, .inl rfl⟩
    · exact ⟨rfl, .inl rfl⟩
    · exact badsp_mem (plL_app (spots_pl S) pb) (bad := bad) (s := S[0]) (List.mem_append_right _ (List.mem_singleton_self _)) (List.mem_append_left _ s0) l0 hb.2
  · have pw : plL [wrong] = true := plL_all.mpr fun d hd => by rw [List.mem_singleton.mp hd]; exact hw.1
    simp only [List.mem_cons, List.not_mem_nil, or_false] at hd
    rcases hd with rfl | rfl | rfl | rfl | rfl
    · exact badct_mem (plL_app (plL_app (cut_pl (ints_pl cs)) pw) (cut_pl (ints_pl cs))) (w := wrong) (List.mem_append_left _ (List.mem_append_right _ (List.mem_singleton_self _))) hw.2
    · refine badct_len (cut_pl (ints_pl cs)) ?_
      rw [show (1 : Int) = ((1 : Nat) : Int) from rfl, cut_drop (by omega), List.length_drop]
      omega
    · refine badct_len (plL_app (ints_pl cs) rfl) ?_
      rw [List.length_append, List.length_singleton]
      omega
    · exact ⟨rfl, .inl rfl⟩
    · exact badct_mem (plL_app (cut_pl (ints_pl cs)) pw) (w := wrong) (List.mem_append_right _ (List.mem_singleton_self _)) hw.2
theorem head_ok {name : Str} (hn : name ∈ five) {A B : Prop} (a : headOf dim ps name = .lst [bookD dim ps, .int ((ps.length : Int) - 1)] → A) (b : headOf dim ps name = bookD dim ps → B) : wCmp .eq (.str name) (.str "total_price") fun k => if k = true then 0 + 1 + 1 ≤ sizeLine ∧ A else B := by
  have sn : PyData.strOk name = true := by
    unfold five at hn
    simp only [List.mem_cons, List.not_mem_nil, or_false] at hn
    rcases hn with rfl | rfl | rfl | rfl | rfl <;> decide +kernel
  by_cases e : name = "total_price"
  · exact cmp_yes (by rw [e]; exact beq_self_eq_true _) sn (by decide +kernel) ⟨by decide, a (by rw [headOf, if_pos e])⟩
  · exact cmp_no (beq_eq_false_iff_ne.mpr e) sn (by decide +kernel) (b (by rw [headOf, if_neg e]))
def refD (due : Str) : D := .tup [.str "refused", .lst [.str due]]
theorem ne_ref {due : Str} (so : PyData.strOk due = true) {P : Bool → Prop} (p : P false) : wCmp .ne (refD due) (refD due) P := by
  have h : shp 12 (refD due) = true := by
    show (PyData.strOk "refused" && ((PyData.strOk due && true) && true)) = true
    rw [so, show PyData.strOk "refused" = true by decide +kernel]; rfl
  refine ⟨h, h, ?_⟩
  have : deq (refD due) (refD due) = true := by
    show ((("refused" : Str) == ("refused" : Str)) && (((due == due) && true) && true)) = true
    rw [beq_self_eq_true, beq_self_eq_true]; rfl
  rw [this]
  exact p
theorem rf_T {E : DE} {c0 : Int} {p n rest bad wrong : D} {spoilt shorts : List D} {M : List (List Rat)} {name due : Str} {u16 u17 u21 u22 : Sl} {d c : D} (hn : name ∈ five) (so : PyData.strOk due = true)
    (call : ∀ (P : D → Bool → Prop) (R : Exn → Prop), P (refD due) false → sp__law_call [.str name, headOf dim ps name, d, c] P R)
    (fin : ∀ u21, E.nx (rfR dim ps S cs c0 p n rest bad wrong spoilt shorts M [.val (.str name), u16, u17, .val d, .val c, .val (.str due), u21, u22])) :
    wSs rfTb R (rfR dim ps S cs c0 p n rest bad wrong spoilt shorts M [.val (.str name), u16, u17, .val d, .val c, .val (.str due), u21, u22]) E := by
  unfold rfR at fin ⊢
  rw [rfTb]
  simp only [F__law_call]
  walk_at "wp"
  refine head_ok (dim := dim) (ps := ps) hn (fun e => ?_) fun e => ?_
  all_goals
    rw [e] at call
    refine call _ _ ⟨by decide, by decide, ?_⟩
    refine ne_ref so ?_
    walk_at "wp"
    exact fin _
theorem rf_K {E : DE} {c0 : Int} {p n rest bad wrong : D} {spoilt shorts : List D} {M : List (List Rat)} {name : Str} {k : Nat} {u17 u18 u19 u20 u21 u22 : Sl} (h : Comp dim S cs) (few : S.length ≤ 20) (gp : GoodPts dim ps) (F : RfF dim S bad wrong spoilt shorts M) (hn : name ∈ five) (hk : k < 5)
    (fin : ∀ u17 u18 u19 u20 u21, E.nx (rfR dim ps S cs c0 p n rest bad wrong spoilt shorts M [.val (.str name), .val (.int (k : Nat)), u17, u18, u19, u20, u21, u22])) :
    wSs rfKb R (rfR dim ps S cs c0 p n rest bad wrong spoilt shorts M [.val (.str name), .val (.int (k : Nat)), u17, u18, u19, u20, u21, u22]) E := by
  unfold rfR at fin ⊢
  rw [rfKb]
  have k1 : k < spoilt.length := by rw [F.sp5]; exact hk
  have k2 : k < shorts.length := by rw [F.sh5]; exact hk
  have i1 : ∀ P : D → Bool → Prop, P spoilt[k] false → wIx (.lst spoilt) (.int (k : Nat)) P := fun P p => ix_q (n := k) rfl (List.getElem?_eq_getElem k1) p
  have i2 : ∀ P : D → Bool → Prop, P shorts[k] false → wIx (.lst shorts) (.int (k : Nat)) P := fun P p => ix_q (n := k) rfl (List.getElem?_eq_getElem k2) p
  have b1 := F.sp _ (List.getElem_mem k1)
  have b2 := F.sh _ (List.getElem_mem k2)
  generalize spoilt[k] = a at *
  generalize shorts[k] = b at *
  walk_at "wp"
  refine i1 _ (i2 _ ⟨by decide, i2 _ ⟨by decide, i1 _ ⟨by decide, by decide, ?_⟩⟩⟩)
  have lM : (spotsL M).length = 21 := by unfold spotsL; rw [List.length_map, F.m21]
  refine ⟨by decide, le_line (by omega), i2 _ ⟨by decide, by decide, by decide, by decide, by decide, by decide, by decide, by decide, by decide, by decide, ?_⟩⟩
  have one := h.one
  have gS : GoodS dim S (spotsD S) := ⟨h.dm, one, h.lens, rfl⟩
  have bM : BadSp (.lst (spotsL M ++ [bad])) := by
    have o := F.m.one
    exact badsp_mem (plL_app (spots_pl M) (plL_all.mpr fun d hd => by rw [List.mem_singleton.mp hd]; exact F.bad.1)) (bad := bad) (s := M[0]) (List.mem_append_right _ (List.mem_singleton_self _)) (List.mem_append_left _ (List.mem_map_of_mem (List.getElem_mem o))) (F.m.len _ (List.getElem_mem o)) F.bad.2
  have key : ∀ d ∈ [D.tup [a, b, .str "BadSpot"], .tup [spotsD S, b, .str "BadNumber"], .tup [a, cntD cs, .str "BadSpot"], .tup [.lst (spotsL M ++ [bad]), b, .str "BadSpot"], .tup [.lst (spotsL M), .lst ((List.replicate (Int.toNat 20) [D.int 1]).flatten ++ [wrong]), .str "BadNumber"]],
      ∃ (x y : D) (due : Str), d = .tup [x, y, .str due] ∧ PyData.strOk due = true ∧ ∀ (P : D → Bool → Prop) (R : Exn → Prop), P (refD due) false → sp__law_call [.str name, headOf dim ps name, x, y] P R := by
    intro d hd
    simp only [List.mem_cons, List.not_mem_nil, or_false] at hd
    rcases hd with rfl | rfl | rfl | rfl | rfl
    · exact ⟨_, _, _, rfl, by decide +kernel, fun P R q => refuse_sp gp hn b1 b2.1 (ref_sp q)⟩
    · exact ⟨_, _, _, rfl, by decide +kernel, fun P R q => refuse_ct gp hn gS b2 (ref_num q)⟩
    · exact ⟨_, _, _, rfl, by decide +kernel, fun P R q => refuse_sp gp hn b1 (ints_pl cs) (ref_sp q)⟩
    · exact ⟨_, _, _, rfl, by decide +kernel, fun P R q => refuse_sp gp hn bM b2.1 (ref_sp q)⟩
    · refine ⟨_, _, _, rfl, by decide +kernel, fun P R q => refuse_ct gp hn F.m (badct_mem (plL_app (by decide) (plL_all.mpr fun d hd => by rw [List.mem_singleton.mp hd]; exact F.wr.1)) (w := wrong) (List.mem_append_right _ (List.mem_singleton_self _)) F.wr.2) (ref_num q)⟩
  generalize D.lst [D.tup [a, b, .str "BadSpot"], .tup [spotsD S, b, .str "BadNumber"], .tup [a, cntD cs, .str "BadSpot"], .tup [.lst (spotsL M ++ [bad]), b, .str "BadSpot"], .tup [.lst (spotsL M), .lst ((List.replicate (Int.toNat 20) [D.int 1]).flatten ++ [wrong]), .str "BadNumber"]] = u17d
  refine for_mem (fun ρ => ∃ u18 u19 u20 u21, ρ = rfR dim ps S cs c0 p n rest bad wrong spoilt shorts M [.val (.str name), .val (.int (k : Nat)), .val u17d, u18, u19, u20, u21, u22]) ⟨u18, u19, u20, u21, rfl⟩ ?_ ?_
  · rintro d hd ρ K ⟨u18, u19, u20, u21, rfl⟩ hK
    obtain ⟨x, y, due, rfl, so, call⟩ := key d hd
    unfold rfR at hK ⊢
    walk_at "wp"
    exact rf_T hn so call fun u21 => hK _ ⟨_, _, _, u21, rfl⟩
  · rintro ρ ⟨u18, u19, u20, u21, rfl⟩
    exact fin _ _ _ _ _
theorem eqd_ref : eqd 5 (.tup [.str "refused", .lst [.str "TooLarge"], .int 20]) = true := by decide +kernel
theorem rf_L {E : DE} {c0 : Int} {p n rest bad wrong : D} {spoilt shorts : List D} {M : List (List Rat)} {name : Str} {u16 u17 u18 u19 u20 u21 u22 : Sl} (h : Comp dim S cs) (few : S.length ≤ 20) (gp : GoodPts dim ps) (F : RfF dim S bad wrong spoilt shorts M) (hn : name ∈ five) (h1 : 1 ≤ c0)
    (fin : ∀ u21, E.nx (rfR dim ps S cs c0 p n rest bad wrong spoilt shorts M [.val (.str name), u16, u17, u18, u19, u20, u21, u22])) :
    wSs rfLb R (rfR dim ps S cs c0 p n rest bad wrong spoilt shorts M [.val (.str name), u16, u17, u18, u19, u20, u21, u22]) E := by
  unfold rfR at fin ⊢
  rw [rfLb]
  simp only [F__law_call, F__law_equal, F_eq]
  have call : ∀ (P : D → Bool → Prop) (R : Exn → Prop), P (.tup [.str "refused", .lst [.str "TooLarge"], .int 20]) false → sp__law_call [.str name, headOf dim ps name, .lst (spotsL M), .lst (List.replicate (Int.toNat 21) [D.int c0]).flatten] P R := fun P R q =>
    refuse_large gp hn F.m F.m21 rfl rfl (show (decide (1 ≤ c0) && _) = true by simp [h1, okCount]) (ref_large q)
  walk_at "wp"
  refine head_ok (dim := dim) (ps := ps) hn (fun e => ?_) fun e => ?_
  all_goals
    rw [e] at call
    refine ⟨by decide, by decide, by decide, by decide, call _ _ ⟨by decide, by decide, eq_ok eqd_ref ?_⟩⟩
    walk_at "wp"
    exact fin _
theorem rf_N {E : DE} {c0 : Int} {p n rest bad wrong : D} {spoilt shorts : List D} {M : List (List Rat)} {name : Str} {u16 u17 u18 u19 u20 u21 u22 : Sl} (h : Comp dim S cs) (few : S.length ≤ 20) (gp : GoodPts dim ps) (F : RfF dim S bad wrong spoilt shorts M) (hn : name ∈ five) (h1 : 1 ≤ c0)
    (fin : ∀ u16 u17 u18 u19 u20 u21, E.nx (rfR dim ps S cs c0 p n rest bad wrong spoilt shorts M [.val (.str name), u16, u17, u18, u19, u20, u21, u22])) :
    wSs rfBb R (rfR dim ps S cs c0 p n rest bad wrong spoilt shorts M [.val (.str name), u16, u17, u18, u19, u20, u21, u22]) E := by
  rw [rfBb]
  walk_at "wp"
  refine ⟨⟨by decide, by decide⟩, ?_⟩
  refine for_rng (n := 5) (fun _ ρ => ∃ u16 u17 u18 u19 u20 u21, ρ = rfR dim ps S cs c0 p n rest bad wrong spoilt shorts M [.val (.str name), u16, u17, u18, u19, u20, u21, u22]) ⟨u16, u17, u18, u19, u20, u21, rfl⟩ ?_ ?_
  · rintro k ρ K hk ⟨u16, u17, u18, u19, u20, u21, rfl⟩ hK
    exact rf_K h few gp F hn hk fun u17 u18 u19 u20 u21 => hK _ ⟨_, _, _, _, _, u21, rfl⟩
  · rintro ρ ⟨u16, u17, u18, u19, u20, u21, rfl⟩
    exact rf_L h few gp F hn h1 fun u21 => fin _ _ _ _ _ u21
theorem rf_D {P : D → Bool → Prop} {c0 : Int} {p n rest bad wrong : D} {spoilt shorts : List D} {M : List (List Rat)} {l : List Sl} (F : RfF dim S bad wrong spoilt shorts M) (hp : P (.bl true) false) :
    wSs rfD R (rfR dim ps S cs c0 p n rest bad wrong spoilt shorts M l) (E0 P) := by
  unfold rfR
  rw [rfD]
  simp only [F__law_call]
  walk_at "wp"
  have lM : (spotsL M).length = 21 := by unfold spotsL; rw [List.length_map, F.m21]
  have one := F.m.one
  have pb : plL [bad] = true := plL_all.mpr fun d hd => by rw [List.mem_singleton.mp hd]; exact F.bad.1
  have nok : okSpots (.lst (spotsL M ++ [bad])) = false := by
    obtain ⟨s, M', rfl⟩ : ∃ s M', M = s :: M' := by
      cases M with
      | nil => cases one
      | cons a b => exact ⟨a, b, rfl⟩
    show (!(spotsL (s :: M') ++ [bad]).isEmpty && (spotsL (s :: M') ++ [bad]).all (okTwo (spotD s))) = false
    have : (spotsL (s :: M') ++ [bad]).all (okTwo (spotD s)) = false := List.all_eq_false.mpr ⟨bad, List.mem_append_right _ (List.mem_singleton_self _), by
      show ¬ (okSpot (spotD s) && areRats (((s.map rat).length : Nat) : Int) bad) = true
      rw [List.length_map, F.m.len s (List.mem_cons_self ..), F.bad.2, Bool.and_false]
      exact Bool.noConfusion⟩
    rw [this, Bool.and_false]
  refine ⟨by decide, le_line (by omega), by decide, by decide, by decide, by decide, ⟨_, _, _, _, rfl, .inr (.inr (.inr (.inr (.inl ⟨rfl, _, _, rfl, plL_app (spots_pl M) pb, by decide, .inl ⟨nok, ref_sp ⟨by decide, by decide, ?_⟩⟩⟩))))⟩⟩
  exact ⟨by decide +kernel, by decide +kernel, by rw [show deq (.tup [.str "refused", .lst [.str "BadSpot"]]) (.tup [.str "refused", .lst [.str "BadSpot"]]) = true by decide +kernel]; exact hp⟩
theorem rf_C {P : D → Bool → Prop} {c0 : Int} {p n rest bad wrong : D} {spoilt shorts : List D} {M : List (List Rat)} {u15 u16 u17 u18 u19 u20 u21 u22 : Sl} (gp : GoodPts dim ps) (F : RfF dim S bad wrong spoilt shorts M) (hp : P (.bl true) false) :
    wSs rfC R (rfR dim ps S cs c0 p n rest bad wrong spoilt shorts M [u15, u16, u17, u18, u19, u20, u21, u22]) (E0 P) := by
  unfold rfR
  rw [rfC]
  simp only [F__law_call]
  obtain ⟨a, sp', rfl⟩ : ∃ a l, spoilt = a :: l := by
    have := F.sp5
    cases spoilt with
    | nil => cases this
    | cons a b => exact ⟨a, b, rfl⟩
  walk_at "wp"
  refine ⟨by decide, ?_⟩
  refine for_mem (fun ρ => ∃ u22, ρ = rfR dim ps S cs c0 p n rest bad wrong (a :: sp') shorts M [u15, u16, u17, u18, u19, u20, u21, u22]) ⟨u22, rfl⟩ ?_ ?_
  · rintro d hd ρ K ⟨u22, rfl⟩ hK
    unfold rfR at hK ⊢
    walk_at "wp"
    have nb : isNum ps.length d = false ∧ pl d = true := by
      simp only [List.mem_cons, List.not_mem_nil, or_false] at hd
      rcases hd with rfl | rfl | rfl | rfl | rfl
      · refine ⟨?_, rfl⟩
        show (decide ((0 : Int) ≤ (ps.length : Nat)) && decide (((ps.length : Nat) : Int) < (ps.length : Nat))) = false
        rw [decide_eq_false (show ¬ ((ps.length : Nat) : Int) < (ps.length : Nat) by omega), Bool.and_false]
      · exact ⟨rfl, rfl⟩
      · exact ⟨rfl, rfl⟩
      · exact ⟨rfl, rfl⟩
      · exact ⟨rfl, rfl⟩
    refine ⟨by decide, by decide, ⟨_, _, _, _, rfl, .inr (.inl ⟨rfl, _, _, rfl, dim, ps, _, _, _, rfl, gp, nb.2, (F.sp a (List.mem_cons_self ..)).1, rfl, ?_⟩)⟩⟩
    rw [if_neg (by rw [nb.1]; exact Bool.noConfusion)]
    refine ref_num ⟨by decide, by decide, ?_⟩
    refine ne_ref (due := "BadNumber") (by decide +kernel) ?_
    walk_at "wp"
    exact hK _ ⟨_, rfl⟩
  · rintro ρ ⟨u22, rfl⟩
    exact rf_D F hp
theorem rf_B {P : D → Bool → Prop} {c0 : Int} {p n rest bad wrong : D} {spoilt shorts : List D} {M : List (List Rat)} {u15 u16 u17 u18 u19 u20 u21 u22 : Sl} (h : Comp dim S cs) (few : S.length ≤ 20) (gp : GoodPts dim ps) (F : RfF dim S bad wrong spoilt shorts M) (h1 : 1 ≤ c0) (hp : P (.bl true) false) :
    wSs rfB R (rfR dim ps S cs c0 p n rest bad wrong spoilt shorts M [u15, u16, u17, u18, u19, u20, u21, u22]) (E0 P) := by
  rw [rfB]
  walk_at "wp"
  refine ⟨by decide, ?_⟩
  refine for_mem (fun ρ => ∃ u15 u16 u17 u18 u19 u20 u21, ρ = rfR dim ps S cs c0 p n rest bad wrong spoilt shorts M [u15, u16, u17, u18, u19, u20, u21, u22]) ⟨u15, u16, u17, u18, u19, u20, u21, rfl⟩ ?_ ?_
  · rintro d hd ρ K ⟨u15, u16, u17, u18, u19, u20, u21, rfl⟩ hK
    obtain ⟨name, rfl, hn⟩ : ∃ name, d = .str name ∧ name ∈ five := by
      simp only [List.mem_cons, List.not_mem_nil, or_false] at hd
      rcases hd with rfl | rfl | rfl | rfl | rfl <;> exact ⟨_, rfl, by unfold five; simp⟩
    exact rf_N h few gp F hn h1 fun u16 u17 u18 u19 u20 u21 => hK _ ⟨_, _, _, _, _, _, u21, rfl⟩
  · rintro ρ ⟨u15, u16, u17, u18, u19, u20, u21, rfl⟩
    exact rf_C gp F hp
end
theorem cut_tail {α : Type} {x : α} {l : List α} : cutD (x :: l) (some 1) none = l := cut_drop (n := 1) (l := x :: l) (by rw [List.length_cons]; omega)
theorem w__law_refuses (ds P R) (hl : ds.length = 6) (h : sp__law_refuses ds P R) : wSs ir__law_refuses R (rho0 N__law_refuses ds) (E0 P) := by
  obtain ⟨dim, ps, S, cs, c, rfl, gp, cm, few, h1, h⟩ := h
  rw [r__law_refuses, refuses_cut]
  simp only [F__law_take, F__law_pick]
  have one := cm.one
  have dm := cm.dm
  obtain ⟨s, S', e⟩ : ∃ s S', S = s :: S' := by
    cases S with
    | nil => cases one
    | cons a b => exact ⟨a, b, rfl⟩
  have ls := cm.lens s (by rw [e]; exact List.mem_cons_self ..)
  have sm := ok_sm (comp_ok cm (s := s) (by rw [e]; exact List.mem_cons_self ..))
  obtain ⟨x, r, er⟩ : ∃ x r, s = x :: r := by
    cases s with
    | nil => simp at ls; omega
    | cons a b => exact ⟨a, b, rfl⟩
  have e0 : (spotsL S)[0]? = some (.tup (rat x :: r.map rat)) := by rw [e, er]; rfl
  have i0 : ∀ P : D → Bool → Prop, P (.tup (rat x :: r.map rat)) false → wIx (.lst (spotsL S)) (.int 0) P := fun P p => ix_q0 rfl e0 p
  rw [show ptsD ps = .lst (ps.map ptD) from rfl, show spotsD S = .lst (spotsL S) from rfl]
  walk_at "wp"
  refine i0 _ ?_
  walk_at "wp"
  rw [show (spotsL S).length = S.length from List.length_map ..]
  have m := cm.most
  refine ⟨_, rfl, by omega, fun n n0 n1 => ?_⟩
  walk_at "wp"
  refine i0 _ ?_
  simp only [wSl]
  rw [cut_tail]
  walk_at "wp"
  refine i0 _ ?_
  walk_at "wp"
  refine i0 _ ?_
  rw [show rat x = .tup [.int x.num, .int x.den] from rfl]
  walk_at "wp"
  have sx := sm x (by rw [er]; exact List.mem_cons_self ..)
  have lr : r.length + 1 = dim := by rw [← ls, er]; rfl
  have b2 : Bd 10 2 := bd_of (by decide)
  refine ⟨by decide, le_line (by rw [List.length_map]; omega), b2.mulOk sx.num, b2.mulOk sx.den, by decide, by decide, le_line (by rw [List.length_map]; omega), by decide, .inl ⟨_, rfl, Nat.succ_pos _, show 7 ≤ 1000 by decide, fun bad hb => ?_⟩⟩
  have bo : BadOne dim bad := by
    have rx : rat x = .tup [.int x.num, .int x.den] := rfl
    have pr := rats_pl r
    simp only [List.mem_cons, List.not_mem_nil, or_false] at hb
    rcases hb with rfl | rfl | rfl | rfl | rfl | rfl | rfl
    · exact ⟨pr, rfl⟩
    · exact ⟨plL_app pr rfl, areR_len (by rw [List.length_cons, List.length_append, List.length_map, List.length_singleton]; omega)⟩
    · exact ⟨pr, areR_len (by rw [List.length_map]; omega)⟩
    · exact ⟨rfl, rfl⟩
    · refine ⟨pr, ?_⟩
      show (_ && (isRat (.tup [.int (2 * x.num), .int (2 * x.den)]) && _)) = false
      rw [not_rat2, Bool.false_and, Bool.and_false]
    · exact ⟨rfl, rfl⟩
    · exact ⟨rfl, rfl⟩
  walk_at "wp"
  refine ⟨by decide, by decide, .inl ⟨_, rfl, Nat.succ_pos _, show 6 ≤ 1000 by decide, fun wrong hw => ?_⟩⟩
  have wo : pl wrong = true ∧ okCount wrong = false := by
    simp only [List.mem_cons, List.not_mem_nil, or_false] at hw
    rcases hw with rfl | rfl | rfl | rfl | rfl | rfl <;> exact ⟨rfl, rfl⟩
  walk_at "wp"
  rw [List.length_map]
  obtain ⟨k, rfl⟩ : ∃ k : Nat, n = k := ⟨n.toNat, by omega⟩
  exact rf_A2 cm few (by omega) bo wo fun spoilt shorts M F => rf_B cm few gp F h1 h
end Ny
end
section
set_option Elab.async false
set_option linter.all false
namespace Ny
open PySem Pd Rt
def lwC5 : Sms := (.cons (.ret (.call F__law_equal (.cons (.call F__law_call (.cons (.con (.str "totals")) (.cons (.var 6) (.cons (.var 7) (.cons (.var 8) .nil))))) (.cons (.tup (.cons (.con (.str "answer")) (.cons (.bi .tuple (.cons (.call F__law_sums (.cons (.var 5) (.cons (.var 7) (.cons (.var 8) .nil)))) .nil)) .nil))) .nil)))) .nil)
def lwC4 : Sms := (.cons (.iff (.cmp .eq (.call F__law_take (.cons (.var 1) (.cons (.con (.int 12)) .nil))) (.con (.int 0))) (.cons (.set false 13 (.lst (.cons (.call F__law_some_spot (.cons (.var 1) (.cons (.var 5) .nil))) .nil))) (.cons (.iff (.not (.tru (.call F__law_served (.cons (.var 5) (.cons (.var 6) (.cons (.var 13) (.cons (.sl (.var 8) .no (.yes (.con (.int 1)))) .nil))))))) (.cons (.ret (.con (.bl false))) .nil) .nil) .nil)) .nil) lwC5)
def lwC3 : Sms := (.cons (.iff (.not (.tru (.call F__law_refuses (.cons (.var 1) (.cons (.var 5) (.cons (.var 6) (.cons (.var 7) (.cons (.var 8) (.cons (.ix (.var 8) (.con (.int 0))) .nil))))))))) (.cons (.ret (.con (.bl false))) .nil) .nil) lwC4)
def lwC2 : Sms := (.cons (.set false 11 (.sl (.bin .mul (.var 7) (.con (.int 21))) .no (.yes (.con (.int 21))))) (.cons (.set false 12 (.ix (.call F__law_middle_of (.cons (.var 11) (.cons (.bin .mul (.lst (.cons (.ix (.var 8) (.con (.int 0))) .nil)) (.con (.int 21))) .nil))) (.con (.int 0)))) (.cons (.iff (.not (.tru (.call F__law_equal (.cons (.call F__law_call (.cons (.con (.str "mean_spot")) (.cons (.var 6) (.cons (.var 11) (.cons (.bin .mul (.lst (.cons (.ix (.var 8) (.con (.int 0))) .nil)) (.con (.int 21))) .nil))))) (.cons (.tup (.cons (.con (.str "answer")) (.cons (.var 12) .nil))) .nil))))) (.cons (.ret (.con (.bl false))) .nil) .nil) lwC3)))
def lwC : Sms := (.cons (.iff (.bop false (.cons (.not (.tru (.call F__law_served (.cons (.var 5) (.cons (.var 6) (.cons (.var 7) (.cons (.var 8) .nil))))))) (.cons (.not (.tru (.call F__law_served (.cons (.var 5) (.cons (.var 6) (.cons (.sl (.var 7) .no (.yes (.con (.int 1)))) (.cons (.sl (.var 8) (.yes (.neg (.con (.int 1)))) .no) .nil))))))) .nil))) (.cons (.ret (.con (.bl false))) .nil) .nil) (.cons (.set false 10 (.rev (.var 5))) (.cons (.iff (.not (.tru (.call F__law_served (.cons (.var 10) (.cons (.mk M_Book (.cons (.var 2) (.cons (.var 10) .nil))) (.cons (.rev (.var 7)) (.cons (.rev (.var 8)) .nil))))))) (.cons (.ret (.con (.bl false))) .nil) .nil) lwC2)))
def lwBb : Sms := (.cons (.app 7 (.call F__law_near_spot (.cons (.var 1) (.cons (.var 5) .nil)))) (.cons (.iff (.cmp .eq (.call F__law_take (.cons (.var 1) (.cons (.con (.int 5)) .nil))) (.con (.int 0))) (.cons (.setix 7 (.var 9) (.ixO 7 (.con (.int 0)))) .nil) .nil) (.cons (.app 8 (.call F__law_pick (.cons (.var 1) (.cons (.lst (.cons (.con (.int 1)) (.cons (.con (.int 1)) (.cons (.con (.int 1)) (.cons (.con (.int 2)) (.cons (.con (.int 3)) (.cons (.con (.int 1000)) (.cons (.bin .add (.bin .pow (.con (.int 10)) (.con (.int 60))) (.call F__law_take (.cons (.var 1) (.cons (.con (.int 99)) .nil)))) .nil)))))))) .nil)))) .nil)))
def lwB : Sms := (.cons (.loop (.nm 9) (.r1 (.ife (.cmp .eq (.call F__law_take (.cons (.var 1) (.cons (.con (.int 8)) .nil))) (.con (.int 0))) (.con (.int 20)) (.bin .add (.con (.int 1)) (.call F__law_take (.cons (.var 1) (.cons (.con (.int 6)) .nil)))))) lwBb) (.frz 8 (.frz 7 lwC)))
def ir_law : Sms := (.cons (.set false 2 (.call F__law_dim (.cons (.var 1) (.cons (.con (.int 3)) .nil)))) (.cons (.set false 3 (.ix (.lst (.cons (.con (.int 12)) (.cons (.con (.int 7)) (.cons (.con (.int 5)) .nil)))) (.bin .sub (.var 2) (.con (.int 1))))) (.cons (.set false 4 (.ife (.cmp .eq (.call F__law_take (.cons (.var 1) (.cons (.con (.int 6)) .nil))) (.con (.int 0))) (.var 3) (.bin .add (.con (.int 1)) (.call F__law_take (.cons (.var 1) (.cons (.var 3) .nil)))))) (.cons (.set false 5 (.call F__law_dots (.cons (.var 1) (.cons (.var 2) (.cons (.var 4) (.cons (.call F__law_take (.cons (.var 1) (.cons (.con (.int 2)) .nil))) .nil)))))) (.cons (.set false 6 (.mk M_Book (.cons (.var 2) (.cons (.bi .list (.cons (.var 5) .nil)) .nil)))) (.cons (.set true 7 (.lst .nil)) (.cons (.set true 8 (.lst .nil)) lwB)))))))
def N_law : List Str := ["script", "store", "dim", "most", "count", "points", "book", "spots", "counts", "k", "turned", "more", "mean", "big"]
end Ny
end
section
set_option Elab.async false
set_option linter.all false
set_option maxRecDepth 100000
set_option exponentiation.threshold 5000
namespace Ny
open PySem Pd Rt
local macro_rules | `(tactic| walk_at "wp") => `(tactic| simp only [wSs, wS, wE, wEs, wT, wBp, wTb, wQ, wO, wI, Co.d, List.length_cons, List.length_nil, List.append_nil, List.map_cons, List.map_nil, List.cons_append, List.nil_append, if_true, if_false, Bool.false_eq_true, reduceIte, reduceCtorEq, Bool.not_true, Bool.not_false, true_and, and_true,
  Pd.getV_0, Pd.getV_s, Pd.getL_0, Pd.getL_s, Pd.set_0, Pd.set_s, Pd.asB_b, Pd.asI_i, Pd.asQ_l, Pd.asQ_t, Pd.asLs_l, Pd.add_ii, Pd.add_ss, Pd.add_ll, Pd.add_tt, Pd.sub_ii, Pd.mul_ii, Pd.mul_li, Pd.fdiv_ii, Pd.mod_ii, Pd.pow_ii, Pd.lt_ii, Pd.le_ii, Pd.gt_ii, Pd.ge_ii, Pd.eq_ii, Pd.ne_ii, Pd.isn_n, Pd.isnn_n,
  Pd.truth_b, Pd.truth_i, Pd.truth_l, Pd.truth_t, Pd.len_l, Pd.len_t, Pd.len_s, Pd.abs_i, Pd.min2_ii, Pd.max2_ii, Pd.int_i, Pd.int_b, Pd.tuple_l, Pd.tuple_t, Pd.list_l, Pd.list_t, Pd.all_l, Pd.sum_l, Pd.sum_t, Pd.ix_l0, Pd.ix_t0, Pd.ix_l1, Pd.ix_t1, Pd.ix_t2,
  Pd.tg_nm, Pd.tg_tp, Pd.tgs_nil, Pd.tgs_cons, Pd.setQ_f, Pd.setQ_t, Pd.wipe_n, Pd.wipe_c])
section
variable {dim : Nat} {S : List (List Rat)} {cs : List Int} {ps : List Pt} {R : Exn → Prop} {P : D → Bool → Prop}
def lwR (sc : Sl) (dim : Nat) (ps : List Pt) (u3 u4 : Sl) (S : List (List Rat)) (cs : List Int) (l : List Sl) : Rho :=
  [sc, .val .sto, .val (.int dim), u3, u4, .val (ptsD ps), .val (bookD dim ps), .val (spotsD S), .val (cntD cs)] ++ l
theorem lw_C5 {sc : Sl} {u3 u4 : Sl} {l : List Sl} (h : Comp dim S cs) (few : S.length ≤ 20) (gp : GoodPts dim ps) (hp : P (.bl true) false) : wSs lwC5 R (lwR sc dim ps u3 u4 S cs l) (E0 P) := by
  unfold lwR
  rw [lwC5]
  simp only [F__law_call, F__law_equal, F_eq, F__law_sums]
  walk_at "wp"
  have sv := sv_totals gp h
  refine sv.2 _ _ _ _ ⟨rfl, rfl, h, few⟩ ⟨dim, ps, S, cs, rfl, gp, h, ?_⟩
  exact ⟨by decide, eq_ok (eqd_ans sv.1) hp⟩
theorem cs_cons (h : Comp dim S cs) : ∃ c l, cs = c :: l := by
  have h1 := h.len
  have h2 := h.one
  cases cs with
  | nil => rw [List.length_nil] at h1; omega
  | cons a b => exact ⟨a, b, rfl⟩
theorem cut_one {α : Type} {x : α} {l : List α} : cutD (x :: l) none (some 1) = [x] := cut_take' (n := 1) (l := x :: l) (by rw [List.length_cons]; omega)
theorem lw_C4 {sc : Sl} {u3 u4 u9 u10 u11 u12 u13 : Sl} (h : Comp dim S cs) (few : S.length ≤ 20) (gp : GoodPts dim ps) (hp : P (.bl true) false) : wSs lwC4 R (lwR sc dim ps u3 u4 S cs [u9, u10, u11, u12, u13]) (E0 P) := by
  unfold lwR
  rw [lwC4]
  simp only [F__law_take, F__law_some_spot, F__law_served]
  walk_at "wp"
  refine ⟨_, rfl, by decide, fun r r0 r1 => ?_⟩
  walk_at "wp"
  split
  · refine ⟨dim, ps, rfl, gp, fun s hs => ?_⟩
    walk_at "wp"
    obtain ⟨c, cs', rfl⟩ : ∃ c l, cs = c :: l := cs_cons h
    refine ⟨by decide, ?_⟩
    rw [show cntD (c :: cs') = .lst (D.int c :: cs'.map D.int) from rfl]
    simp only [wSl]
    rw [cut_one]
    refine ⟨dim, ps, [s], [c], rfl, gp, ⟨h.dm, Nat.one_pos, by show 1 ≤ 32; decide, rfl, fun t ht => by rw [List.mem_singleton.mp ht]; exact hs, fun t ht => by rw [List.mem_singleton.mp ht]; exact h.cnt c (List.mem_cons_self ..)⟩, by show 1 ≤ 20; decide, ?_⟩
    walk_at "wp"
    exact lw_C5 h few gp hp
  · exact lw_C5 h few gp hp
theorem lw_C3 {sc : Sl} {u3 u4 u9 u10 u11 u12 u13 : Sl} (h : Comp dim S cs) (few : S.length ≤ 20) (gp : GoodPts dim ps) (hp : P (.bl true) false) : wSs lwC3 R (lwR sc dim ps u3 u4 S cs [u9, u10, u11, u12, u13]) (E0 P) := by
  unfold lwR
  rw [lwC3]
  simp only [F__law_refuses]
  obtain ⟨c, cs', e⟩ : ∃ c l, cs = c :: l := cs_cons h
  have i0 : ∀ P : D → Bool → Prop, P (.int c) false → wIx (cntD cs) (.int 0) P := fun P p => by rw [e]; exact ix_q0 (d := cntD (c :: cs')) rfl rfl p
  walk_at "wp"
  refine i0 _ ⟨dim, ps, S, cs, c, rfl, gp, h, few, (h.cnt c (by rw [e]; exact List.mem_cons_self ..)).1, ?_⟩
  walk_at "wp"
  exact lw_C4 h few gp hp
theorem more_comp {c : Int} (h : Comp dim S cs) (hc : 1 ≤ c ∧ Bd 220 c) : Comp dim (moreS S) (List.replicate 21 c) :=
  ⟨h.dm, by rw [more_len h.one]; decide, by rw [more_len h.one]; decide, by rw [more_len h.one, List.length_replicate], fun s hs => h.spot s (more_mem hs), fun x hx => by rw [List.eq_of_mem_replicate hx]; exact hc⟩
theorem lw_C2 {sc : Sl} {u3 u4 u9 u10 u11 u12 u13 : Sl} (h : Comp dim S cs) (few : S.length ≤ 20) (gp : GoodPts dim ps) (hp : P (.bl true) false) : wSs lwC2 R (lwR sc dim ps u3 u4 S cs [u9, u10, u11, u12, u13]) (E0 P) := by
  unfold lwR
  rw [lwC2]
  simp only [F__law_call, F__law_equal, F_eq, F__law_middle_of]
  obtain ⟨c, cs', e⟩ : ∃ c l, cs = c :: l := cs_cons h
  have i0 : ∀ P : D → Bool → Prop, P (.int c) false → wIx (cntD cs) (.int 0) P := fun P p => by rw [e]; exact ix_q0 (d := cntD (c :: cs')) rfl rfl p
  have cm := more_comp h (h.cnt c (by rw [e]; exact List.mem_cons_self ..))
  rw [show spotsD S = .lst (spotsL S) from rfl]
  walk_at "wp"
  simp only [wSl]
  rw [more_spots h.one]
  walk_at "wp"
  have rep : D.lst (List.replicate (Int.toNat 21) [D.int c]).flatten = cntD (List.replicate 21 c) := rfl
  have ls : (spotsL S).length = S.length := List.length_map ..
  refine ⟨by decide, by decide, le_line (by rw [show Int.toNat 21 = 21 from rfl]; omega), i0 _ ⟨by decide, by decide, by decide, by decide, dim, moreS S, _, by rw [rep]; rfl, cm, ?_⟩⟩
  walk_at "wp"
  refine i0 _ ⟨by decide, by decide, by decide, by decide, ⟨_, _, _, _, rfl, .inr (.inr (.inr (.inr (.inl ⟨rfl, _, _, rfl, spots_pl _, ints_pl (List.replicate 21 c), .inr (.inr ⟨dim, moreS S, List.replicate 21 c, rfl, rfl, cm, by decide, ?_⟩)⟩))))⟩⟩
  walk_at "wp"
  refine ⟨by decide, eq_ok (eqd_ans (eqd_spot (by rw [mean_len]; have := h.dm; omega))) ?_⟩
  walk_at "wp"
  exact lw_C3 h few gp hp
theorem rev_comp (h : Comp dim S cs) : Comp dim S.reverse cs.reverse :=
  ⟨h.dm, by rw [List.length_reverse]; exact h.one, by rw [List.length_reverse]; exact h.most, by rw [List.length_reverse, List.length_reverse]; exact h.len, fun s hs => h.spot s (List.mem_reverse.mp hs), fun c hc => h.cnt c (List.mem_reverse.mp hc)⟩
theorem rev_pts (gp : GoodPts dim ps) : GoodPts dim ps.reverse :=
  ⟨gp.dm, by rw [List.length_reverse]; exact gp.one, by rw [List.length_reverse]; exact gp.most, fun p hp => gp.pts p (List.mem_reverse.mp hp), by rw [List.map_reverse]; exact List.pairwise_reverse.mpr (gp.nd.imp fun h e => h e.symm)⟩
theorem cut_last (h : 0 < cs.length) : ∃ c ∈ cs, cutD (cs.map D.int) (some (-1)) none = [D.int c] := by
  have l : (cutD (cs.map D.int) (some (-1)) none).length = 1 := by
    unfold cutD
    rw [HT.sIx_none, List.length_take, List.length_drop, show HT.sIx (cs.map D.int).length 0 (some (-1)) = (-1 + ((cs.map D.int).length : Int)).toNat from rfl, List.length_map]
    omega
  obtain ⟨x, e⟩ := List.length_eq_one_iff.mp l
  have m : x ∈ cs.map D.int := cut_mem (lo := some (-1)) (hi := none) (by rw [e]; exact List.mem_singleton_self _)
  obtain ⟨c, hc, rfl⟩ := List.mem_map.mp m
  exact ⟨c, hc, e⟩
theorem lw_C {sc : Sl} {u3 u4 u9 u10 u11 u12 u13 : Sl} (h : Comp dim S cs) (few : S.length ≤ 20) (gp : GoodPts dim ps) (hp : P (.bl true) false) : wSs lwC R (lwR sc dim ps u3 u4 S cs [u9, u10, u11, u12, u13]) (E0 P) := by
  unfold lwR
  rw [lwC]
  simp only [F__law_served, M_Book]
  rw [show spotsD S = .lst (spotsL S) from rfl, show cntD cs = .lst (cs.map D.int) from rfl]
  walk_at "wp"
  refine ⟨dim, ps, S, cs, rfl, gp, h, few, ?_⟩
  walk_at "wp"
  simp only [wSl]
  obtain ⟨s, S', es⟩ : ∃ s l, S = s :: l := by
    have h2 := h.one
    cases S with
    | nil => cases h2
    | cons a b => exact ⟨a, b, rfl⟩
  obtain ⟨c, hc, cl⟩ := cut_last (cs := cs) (by rw [← h.len]; exact h.one)
  have c1 : cutD (spotsL S) none (some 1) = spotsL [s] := by rw [es]; exact cut_one
  rw [cl, c1]
  refine ⟨dim, ps, [s], [c], rfl, gp, ⟨h.dm, Nat.one_pos, by show 1 ≤ 32; decide, rfl, fun t ht => by rw [List.mem_singleton.mp ht]; exact h.spot s (by rw [es]; exact List.mem_cons_self ..), fun t ht => by rw [List.mem_singleton.mp ht]; exact h.cnt c hc⟩, by show 1 ≤ 20; decide, ?_⟩
  walk_at "wp"
  rw [show ptsD ps = .lst (ps.map ptD) from rfl]
  walk_at "wp"
  have e1 : (ps.map ptD).reverse = ps.reverse.map ptD := List.map_reverse.symm
  have e2 : (spotsL S).reverse = spotsL S.reverse := List.map_reverse.symm
  have e3 : (cs.map D.int).reverse = cs.reverse.map D.int := List.map_reverse.symm
  rw [e1, e2, e3]
  refine ⟨dim, ps.reverse, _, rfl, rfl, rev_pts gp, dim, ps.reverse, S.reverse, cs.reverse, rfl, rev_pts gp, rev_comp h, by rw [List.length_reverse]; exact few, ?_⟩
  walk_at "wp"
  exact lw_C2 h few gp hp
/-- a company under way -/
structure Part (dim : Nat) (S : List (List Rat)) (cs : List Int) (k : Nat) : Prop where
  l1 : S.length = k
  l2 : cs.length = k
  spot : ∀ s ∈ S, s.length = dim ∧ ∀ x ∈ s, Q 84 700 x
  cnt : ∀ c ∈ cs, 1 ≤ c ∧ Bd 220 c
def lwM (sc : Sl) (dim : Nat) (ps : List Pt) (u3 u4 : Sl) (S : List (List Rat)) (cs : List Int) (u9 : Sl) : Rho :=
  [sc, .val .sto, .val (.int dim), u3, u4, .val (ptsD ps), .val (bookD dim ps), .ml (spotsL S), .ml (cs.map D.int), u9, .un, .un, .un, .un]
theorem lw_step {sc : Sl} {u3 u4 : Sl} {k : Nat} {E : DE} (gp : GoodPts dim ps) (h : Part dim S cs k) (hk : k < 20) (fin : ∀ S cs u9, Part dim S cs (k + 1) → E.nx (lwM sc dim ps u3 u4 S cs u9)) : wSs lwBb R (lwM sc dim ps u3 u4 S cs (.val (.int (k : Nat)))) E := by
  unfold lwM at fin ⊢
  rw [lwBb]
  simp only [F__law_near_spot, F__law_take, F__law_pick]
  walk_at "wp"
  have ls : (spotsL S).length = k := by rw [← h.l1]; exact List.length_map ..
  have lc : (cs.map D.int).length = k := by rw [← h.l2]; exact List.length_map ..
  rw [ls]
  refine ⟨Nat.lt_of_lt_of_le (show k < 1000 by omega) (by decide), dim, ps, rfl, gp, fun s hs => ?_⟩
  walk_at "wp"
  refine ⟨_, rfl, by decide, fun r r0 r1 => ?_⟩
  walk_at "wp"
  have cnt : ∀ S' : List (List Rat), S'.length = k + 1 → (∀ s ∈ S', s.length = dim ∧ ∀ x ∈ s, Q 84 700 x) → (cs.map D.int).length < sizeLine ∧ CPowR 10 60 ∧ sp__law_take [D.sto, D.int 99] (fun d2 x => wBin Bop.add (D.int (10 ^ Int.toNat 60)) d2 fun d x => 0 + 1 + 1 + 1 + 1 + 1 + 1 + 1 ≤ sizeLine ∧
      sp__law_pick [D.sto, D.lst [D.int 1, D.int 1, D.int 1, D.int 2, D.int 3, D.int 1000, d]] (fun d x => E.nx [sc, Sl.val D.sto, Sl.val (D.int ↑dim), u3, u4, Sl.val (ptsD ps), Sl.val (bookD dim ps), Sl.ml (spotsL S'), Sl.ml (List.map D.int cs ++ [d]), Sl.val (D.int ↑k), Sl.un, Sl.un, Sl.un, Sl.un]) R) R := by
    intro S' l1 sp
    refine ⟨Nat.lt_of_lt_of_le (show (cs.map D.int).length < 1000 by omega) (by decide), ⟨by decide, by decide⟩, _, rfl, by decide, fun t t0 t1 => ?_⟩
    refine ⟨by decide, .inl ⟨_, rfl, Nat.succ_pos _, show 7 ≤ 1000 by decide, fun d hd => ?_⟩⟩
    have big : Bd 220 ((10 ^ Int.toNat 60 : Int) + t) := by
      have b1 : Bd 219 (10 ^ Int.toNat 60 : Int) := bd_of (by decide +kernel)
      have b2 : Bd 219 t := (show Bd 10 t from bd_of (by omega)).mono (by decide)
      exact b1.add b2
    have pos : (1 : Int) ≤ 10 ^ Int.toNat 60 := by decide +kernel
    obtain ⟨c, rfl, hc⟩ : ∃ c, d = .int c ∧ 1 ≤ c ∧ Bd 220 c := by
      simp only [List.mem_cons, List.not_mem_nil, or_false] at hd
      rcases hd with rfl | rfl | rfl | rfl | rfl | rfl | rfl
      · exact ⟨_, rfl, by decide, bd_of (by decide)⟩
      · exact ⟨_, rfl, by decide, bd_of (by decide)⟩
      · exact ⟨_, rfl, by decide, bd_of (by decide)⟩
      · exact ⟨_, rfl, by decide, bd_of (by decide)⟩
      · exact ⟨_, rfl, by decide, bd_of (by decide)⟩
      · exact ⟨_, rfl, by decide, bd_of (by decide)⟩
      · exact ⟨_, rfl, by omega, big⟩
    have := fin S' (cs ++ [c]) (.val (.int (k : Nat))) ⟨l1, by rw [List.length_append, List.length_singleton, h.l2], sp, fun x hx => by
      rcases List.mem_append.mp hx with hx | hx
      · exact h.cnt x hx
      · rw [List.mem_singleton.mp hx]; exact hc⟩
    rw [List.map_append] at this
    exact this
  have e1 : spotsL S ++ [spotD s] = spotsL (S ++ [s]) := by
    unfold spotsL; rw [List.map_append]; rfl
  have l1 : (S ++ [s]).length = k + 1 := by rw [List.length_append, List.length_singleton, h.l1]
  have sp1 : ∀ t ∈ S ++ [s], t.length = dim ∧ ∀ x ∈ t, Q 84 700 x := fun t ht => by
    rcases List.mem_append.mp ht with ht | ht
    · exact h.spot t ht
    · rw [List.mem_singleton.mp ht]; exact hs
  rw [e1]
  split
  · obtain ⟨y, ey, my⟩ := at_int (l := spotsL (S ++ [s])) (r := 0) (by decide) (by unfold spotsL; rw [List.length_map, l1]; omega)
    obtain ⟨t, ht, rfl⟩ := List.mem_map.mp my
    refine ⟨_, ey, k, ixn_of (n := k + 1) (by unfold spotsL; rw [List.length_map, l1]) (by omega), ?_⟩
    have e2 : (spotsL (S ++ [s])).set k (spotD t) = spotsL ((S ++ [s]).set k t) := by unfold spotsL; rw [List.map_set]
    rw [e2]
    exact cnt _ (by rw [List.length_set, l1]) fun z hz => by
      rcases List.mem_or_eq_of_mem_set hz with hz | hz
      · exact sp1 z hz
      · rw [hz]; exact sp1 t ht
  · exact cnt _ l1 sp1
theorem lw_B {sc : Sl} {u3 u4 : Sl} (gp : GoodPts dim ps) (hp : P (.bl true) false) : wSs lwB R (lwM sc dim ps u3 u4 [] [] .un) (E0 P) := by
  unfold lwM
  rw [lwB]
  simp only [F__law_take]
  walk_at "wp"
  have loop : ∀ m : Nat, 1 ≤ m → m ≤ 20 → Rg1 (m : Int) ∧ wFor (fun d ρ k => wSs lwBb R (List.set ρ 9 (Sl.val d)) { nx := k, rt := P, bk := fun ρ' => getL ρ' 8 fun ds => getL (List.set ρ' 8 (Sl.val (D.lst ds))) 7 fun ds_1 => wSs lwC R ((List.set ρ' 8 (Sl.val (D.lst ds))).set 7 (Sl.val (D.lst ds_1))) (E0 P), ct := k })
      (rgD 0 (m : Int)) [sc, Sl.val D.sto, Sl.val (D.int ↑dim), u3, u4, Sl.val (ptsD ps), Sl.val (bookD dim ps), Sl.ml (spotsL []), Sl.ml [], Sl.un, Sl.un, Sl.un, Sl.un, Sl.un]
      (fun ρ' => getL ρ' 8 fun ds => getL (List.set ρ' 8 (Sl.val (D.lst ds))) 7 fun ds_1 => wSs lwC R ((List.set ρ' 8 (Sl.val (D.lst ds))).set 7 (Sl.val (D.lst ds_1))) (E0 P)) := by
    intro m m1 m2
    refine ⟨⟨by omega, Int.ofNat_le.mpr (Nat.le_trans m2 (by decide))⟩, ?_⟩
    refine for_rng (n := m) (fun k ρ => ∃ S cs u9, ρ = lwM sc dim ps u3 u4 S cs u9 ∧ Part dim S cs k) ⟨[], [], .un, rfl, rfl, rfl, fun s hs => (by cases hs), fun s hs => (by cases hs)⟩ ?_ ?_
    · rintro k ρ K hk ⟨S, cs, u9, rfl, pt⟩ hK
      exact lw_step gp pt (by omega) fun S cs u9 pt => hK _ ⟨S, cs, u9, rfl, pt⟩
    · rintro ρ ⟨S, cs, u9, rfl, pt⟩
      unfold lwM
      walk_at "wp"
      exact lw_C ⟨gp.dm, by rw [pt.l1]; omega, by rw [pt.l1]; omega, by rw [pt.l1, pt.l2], pt.spot, pt.cnt⟩ (by rw [pt.l1]; exact m2) gp hp
  refine ⟨_, rfl, by decide, fun r r0 r1 => ?_⟩
  walk_at "wp"
  split
  · exact loop 20 (by decide) (by decide)
  · refine ⟨_, rfl, by decide, fun r r0 r1 => ?_⟩
    walk_at "wp"
    obtain ⟨k, rfl⟩ : ∃ k : Nat, r = k := ⟨r.toNat, by omega⟩
    have := loop (1 + k) (by omega) (by omega)
    rw [show (((1 + k : Nat)) : Int) = 1 + (k : Int) by omega] at this
    exact this
theorem w_law {sc : Sl} (hp : P (.bl true) false) : wSs ir_law R [sc, .val .sto, .un, .un, .un, .un, .un, .un, .un, .un, .un, .un, .un, .un] (E0 P) := by
  rw [ir_law]
  simp only [F__law_take, F__law_dim, F__law_dots, M_Book]
  walk_at "wp"
  have go : ∀ (dim count heavy : Nat) (u3 u4 : Sl), (1 ≤ dim ∧ dim ≤ 3) → (1 ≤ count ∧ count ≤ lim dim) → heavy ≤ 1 → sp__law_dots [.sto, .int dim, .int count, .int heavy] (setQ false 5 [sc, .val .sto, .val (.int dim), u3, u4, .un, .un, .un, .un, .un, .un, .un, .un, .un] fun ρ' =>
      getV ρ' 2 fun d => getV ρ' 5 fun d_6 => wBi Bi.list [d_6] fun d_7 x => mkBook [d, d_7] (fun ks vs => 0 ≤ sizeLine ∧ 0 ≤ sizeLine ∧ wSs lwB R (((List.set ρ' 6 (Sl.val (D.obj (Str.ofString "Book") ks vs))).set 7 (Sl.ml [])).set 8 (Sl.ml [])) (E0 P)) R) R := by
    intro dim count heavy u3 u4 dm hc hh
    refine ⟨dim, count, heavy, rfl, dm, hc, hh, fun ps gp => ?_⟩
    walk_at "wp"
    exact ⟨dim, ps, _, rfl, rfl, gp, by decide, by decide, lw_B gp hp⟩
  refine ⟨rfl, fun dim dm => ?_⟩
  obtain ⟨d1, d3⟩ := dm
  have iw : ∀ Q : D → Bool → Prop, Q (.int (lim dim)) false → wIx (.lst [.int 12, .int 7, .int 5]) (.int ((dim : Int) - 1)) Q := fun Q q => by
    rcases (show dim = 1 ∨ dim = 2 ∨ dim = 3 by omega) with rfl | rfl | rfl <;> exact ⟨_, rfl, q⟩
  have l1 : 1 ≤ lim dim := by
    rcases (show dim = 1 ∨ dim = 2 ∨ dim = 3 by omega) with rfl | rfl | rfl <;> decide
  have l2 := lim_le ⟨d1, d3⟩
  walk_at "wp"
  refine ⟨by decide, iw _ ?_⟩
  walk_at "wp"
  refine ⟨_, rfl, by decide, fun r r0 r1 => ?_⟩
  walk_at "wp"
  split
  · refine ⟨_, rfl, by decide, fun t t0 t1 => ?_⟩
    obtain ⟨t, rfl⟩ : ∃ k : Nat, t = k := ⟨t.toNat, by omega⟩
    exact go dim (lim dim) t _ _ ⟨d1, d3⟩ ⟨l1, Nat.le_refl _⟩ (by omega)
  · refine ⟨_, rfl, by omega, fun t t0 t1 => ?_⟩
    walk_at "wp"
    refine ⟨_, rfl, by decide, fun v v0 v1 => ?_⟩
    obtain ⟨t, rfl⟩ : ∃ k : Nat, t = k := ⟨t.toNat, by omega⟩
    obtain ⟨v, rfl⟩ : ∃ k : Nat, v = k := ⟨v.toNat, by omega⟩
    have := go dim (1 + t) v (.val (.int (lim dim))) (.val (.int (1 + (t : Int)))) ⟨d1, d3⟩ (by omega) (by omega)
    rw [show (((1 + t : Nat)) : Int) = 1 + (t : Int) by omega] at this
    exact this
end
end Ny
end
section
set_option Elab.async false
set_option linter.all false
set_option maxRecDepth 100000
set_option maxHeartbeats 1000000
/-! ## {tuple of ints for .. in ..}, its len -/
namespace Pd
open PySem PySem.Spec PyProof.Rows L2
section
variable {P : Program} {w : World} {A : Around} {E : Value → Shared → Prop} {s : Shared} {a : Addr} {L : List (Addr × List Int)} {es : Array (Int × Value)} {ep : Nat} {t : SetTable}
/-- found.add(x), x a tuple of ints -/
theorem setT_add {x : Addr} {k : List Int} {Q : Value → Shared → Prop} (R : SetTR P w s.heap a L es ep t) (hx : IsT P w s.heap k x) (hu : A.in1.units < cLine) (hf : L.length + 1 < 64)
    (hQ : ∀ h' tk L' es' ep' t', Heap.SameBut a s.heap h' → SetTR P w h' a L' es' ep' t' → (k ∈ L.map (·.2) → L' = L) → (k ∉ L.map (·.2) → L'.Perm ((x, k) :: L)) → Q .none { s with heap := h', toks := tk }) :
    wpAny (model P w) A (call (.builtin "set.add") [.ref a, .ref x]) Q E s := by
  obtain ⟨o, ho, hex, hd⟩ := id R.ob
  have ty : s.TypeIs (.ref a) "set" := ⟨o, ho, hex.1⟩
  refine wpAny_call_entry F.slot_set_add ty F.entry_set_add ?_ (F.args_set_add_2 _ _)
  unfold Builtin.«set.add» Builtin.Frozenset.oneOther
  simp only [List.isEmpty_nil, bind_assoc]
  unfold Builtin.Frozenset.addrOf setAdd
  refine wpAny_bind (wpAny_pure ?_)
  try dsimp only
  refine wpAny_bind (wpAny_pure ?_)
  try dsimp only
  refine wpAny_bind (wpAny_holding (wpAny_bind (wpAny_pyHash_tuple hu hx ?_)))
  refine add_at (s := { s with toks := s.toks + (k.length + 1) }) R hx hu hf fun b h' L' es' ep' t' sb R' c1 c2 => ?_
  show wpAny _ _ (ret Value.none) _ _ _
  exact wpAny_pure ⟨_, rfl, hQ h' _ L' es' ep' t' sb R' c1 c2⟩
end
section
variable {X : Cx} {pins : List (Addr × Obj)} {σ : L2.St} {H : Hp} {s : Shared}
theorem setT_full (I : Inv X pins σ H s) {D : Addr} {L : List (Addr × List Int)} (hD : H D = some (SetTO X.prog X.w D L)) (ht : ∀ p ∈ L, SqT X.K H p.1 (p.2.map V.int)) : ∃ es ep t, SetTR X.prog X.w s.heap D L es ep t :=
  SetT0.full (show SetT0 X.prog X.w s.heap D L from (I.hok D _ hD).1) fun p hp => I.isT (ht p hp)
theorem addT_ok {E : Value → Shared → Prop} {D x : Addr} {k : List Int} {L : List (Addr × List Int)} {Q : Value → Shared → Prop} (I : Inv X pins σ H s) (hD : H D = some (SetTO X.prog X.w D L)) (ht : ∀ p ∈ L, SqT X.K H p.1 (p.2.map V.int)) (hx : SqT X.K H x (k.map V.int)) (hu : X.A.units + 64 < cLine) (hf : L.length + 1 < 64)
    (h : ∀ s' L', (k ∈ L.map (·.2) → L' = L) → (k ∉ L.map (·.2) → L'.Perm ((x, k) :: L)) → Inv X pins σ (upd H D (SetTO X.prog X.w D L')) s' → Q .none s') : wpAny (model X.prog X.w) X.A (call (.builtin "set.add") [.ref D, .ref x]) Q E s := by
  obtain ⟨es, ep, t, R⟩ := setT_full I hD ht
  refine setT_add R (I.isT hx) (by show X.A.units + 1 < cLine; omega) hf fun h' tk L' es' ep' t' sb R' c1 c2 => ?_
  have he : ∃ u, h'.get? D = some u := by
    obtain ⟨o, ho, _⟩ := R'.ob
    exact ⟨o, ho⟩
  exact h _ L' c1 c2 (I.write (e := D) (t' := tk) (by rw [hD]; trivial) (.inl rfl) (fun b u hb hu => (sb.2 b hb).trans hu) he (setTO_new R'.t0))
/-- len of it -/
def rLenSetT (K : PySem.W.Frag) (P : Program) (w : World) : List V → Hp → VK → Prop := fun xs H Q => ∃ (D : Addr) (L : List (Addr × List Int)), xs = [.ref D] ∧ H D = some (SetTO P w D L) ∧ (∀ p ∈ L, SqT K H p.1 (p.2.map V.int)) ∧ Q (.int L.length) H
theorem call_lenSetT : CallR X (.builtin "len") (rLenSetT X.K X.prog X.w) := by
  intro pins s σ H xs us Q I r h
  obtain ⟨D, L, rfl, hD, ht, q⟩ := h
  obtain ⟨u, rfl, ru⟩ : ∃ u, us = [u] ∧ RelV (.ref D) u := by
    cases r with
    | cons a b => cases b; exact ⟨_, rfl, a⟩
  cases ru
  obtain ⟨es, ep, t, R⟩ := setT_full I hD ht
  obtain ⟨o, ho, hex, hd⟩ := R.ob
  have few := R.few
  refine call_len_set ho hex hd R.fits (by rw [R.size]; omega) ⟨.int L.length, H, (I.tok _).tok _, ⟨_, by rw [R.size]⟩, q⟩
/-! the comprehension -/
def tScT (K : PySem.W.Frag) (P : Program) (w : World) (wi : TI) (g : TG) (te : TE) (vs : List Nat) : TE := fun σ H Q => wi σ H fun J H1 => ∀ D, H1 D = none → ∃ W : Nat → Nat → Hp → Prop, (∃ m, W 0 m (upd H1 D (SetTO P w D []))) ∧ ∀ i m H, W i m H →
  (J.stop i H ∧ Q (.ref D) H) ∨ (J.go i H ∧ ∃ Nx : Hp → Prop, (∀ H', Nx H' → ∃ m', m' < m ∧ W (i + 1) m' H') ∧ ∀ x H', J.yld i H x H' → g x (wipe σ vs) H' fun σ2 H2 => wipe σ2 vs = wipe σ vs ∧ te σ2 H2 fun y H4 =>
    ∃ (q : Addr) (k : List Int) (L : List (Addr × List Int)), y = .ref q ∧ SqT K H4 q (k.map V.int) ∧ H4 D = some (SetTO P w D L) ∧ (∀ p ∈ L, SqT K H4 p.1 (p.2.map V.int)) ∧ L.length + 1 < 64 ∧ ∀ L', (k ∈ L.map (·.2) → L' = L) → (k ∉ L.map (·.2) → L'.Perm ((q, k) :: L)) → Nx (upd H4 D (SetTO P w D L')))
theorem pe_scT {elt tg iter : Expr} {scope : Scope} {own : List (Str × Nat)} {pos : Pos} {wi : TI} {g : TG} {te : TE} (hc : X.calm = true) (hu : X.A.units + 64 < cLine) (nd : X.N.Nodup) (hi : PI X tg iter wi) (bk : BlkOk X.N X.env.scope scope own)
    (hg : ∀ (s : Shared) (H : Hp) (C : Addr) (cl : List (Str × Addr)) (fp : List Addr), PG (X.blk s H scope (compEnvC scope cl C X.env) fp) tg g) (he : ∀ (s : Shared) (H : Hp) (C : Addr) (cl : List (Str × Addr)) (fp : List Addr), PE (X.blk s H scope (compEnvC scope cl C X.env) fp) elt te)
    (hs : ∀ x, foldedSetIterable iter X.env x = pure x := by intro _; rfl) : PE X (.SetComp elt [⟨tg, iter, [], 0⟩] scope pos) (tScT X.K X.prog X.w wi g te (own.map (·.2))) := by
  refine ⟨fun pins s σ H Q I h => ?_⟩
  rw [PpSet.eval_SetComp]
  have cap : ∀ y ∈ scope.names, y.2 = .free → ∃ c, X.env.cells.lookup y.1 = some c := fun y hy e => (bk.free y hy e).elim (fun k => I.ok.has _ (.inl k)) fun k => I.ok.has _ (.inr k)
  refine wpAny_comprehension_free (use := none) rfl hs (closure_ok cap) bk.kind (fun y hy e => by rw [bk.uniq y hy, e]) (thn (hi.run pins s σ H _ I h) fun xv s1 hx => thn hx fun itv s2 h2 => ?_)
  obtain ⟨it, fp, tn, J, H2, e, I2, T, st2, f2, q⟩ := h2
  subst e
  refine PpSet.newSet_ok (newEnv_comp ?_)
  generalize hL : s2.heap.objs.size = D
  have nD : H2 D = none := I2.hok.fresh (Nat.le_of_eq hL)
  obtain ⟨W, ⟨m0, w0⟩, turn⟩ := q D nD
  generalize e3 : ({ s2 with heap := s2.heap.push { cls := .type "set", dict := none, data := .set #[] 0 (.fresh 0 0 (!X.w.params.followText "set-order")) } } : Shared) = s3
  have h3 : s3.heap = s2.heap.push { cls := .type "set", dict := none, data := .set #[] 0 (.fresh 0 0 (!X.w.params.followText "set-order")) } := by rw [← e3]
  have I3 : Inv X pins σ (upd H2 D (SetTO X.prog X.w D [])) s3 := by
    rw [← e3]
    refine I2.laid (t' := s2.toks) (fun b o z => Heap.get?_push_of_some _ z) (Nat.le_of_eq hL) ?_
    rw [← hL]
    exact setTO_new (setTR_fresh (Heap.get?_push_size _ rfl)).t0
  have low : ∀ b ∈ fp, b < s2.heap.objs.size := fun b hb => by
    obtain ⟨o, z, _⟩ := T.obj _ _ st2 b hb
    exact Heap.lt_size z
  have f3 : ∀ b ∈ fp, FpOk X pins (upd H2 D (SetTO X.prog X.w D [])) b ∧ b < s3.heap.objs.size := fun b hb => by
    have lt := low b hb
    refine ⟨⟨?_, (f2 b hb).2⟩, by rw [h3, Heap.size_push]; exact Nat.lt_succ_of_lt lt⟩
    rw [upd_ne (by rw [← hL]; exact Nat.ne_of_lt lt)]
    exact (f2 b hb).1
  have st3 : tn 0 s3.heap := T.keep _ _ _ st2 fun b _ o z => by rw [h3]; exact Heap.get?_push_of_some _ z
  have I4 := block_start I3 bk nd f3
  have pg := hg s3 (upd H2 D (SetTO X.prog X.w D [])) s3.heap.objs.size (cellsFrom (s3.heap.objs.size + 1) scope.names (cloFrom X.env.cells scope.names [])) fp
  have pe := he s3 (upd H2 D (SetTO X.prog X.w D [])) s3.heap.objs.size (cellsFrom (s3.heap.objs.size + 1) scope.names (cloFrom X.env.cells scope.names [])) fp
  show codeAny _ _ (.compStart (.SetComp elt [⟨tg, iter, [], 0⟩] scope pos) 0 (.ref it) (.ref D) (compEnvC scope (cellsFrom (s3.heap.objs.size + 1) scope.names (cloFrom X.env.cells scope.names [])) s3.heap.objs.size X.env)) (compPost (model X.prog X.w) X.A X.xe none (EP X pins σ Q) (.ref D) s3.heap.objs.size) { s3 with heap := pushCells (s3.heap.push { cls := .type "dict", data := .dict #[] }) scope.names }
  have nfp : ∀ b ∈ fp, (upd H2 D (SetTO X.prog X.w D [])) b = none := fun b hb => (f3 b hb).1.1
  generalize hce : compEnvC scope (cellsFrom (s3.heap.objs.size + 1) scope.names (cloFrom X.env.cells scope.names [])) s3.heap.objs.size X.env = ce at I4 pg pe ⊢
  have cL : ce.locals = s3.heap.objs.size := by subst hce; rfl
  generalize hH3 : upd H2 D (SetTO X.prog X.w D []) = H3 at I3 I4 pg pe w0 nfp f3
  generalize e4 : ({ s3 with heap := pushCells (s3.heap.push { cls := .type "dict", data := .dict #[] }) scope.names } : Shared) = s4 at I4 ⊢
  have st4 : tn 0 s4.heap := T.keep _ _ _ st3 fun b _ o z => by rw [← e4]; exact pushCells_keeps _ _ _ _ (Heap.get?_push_of_some _ z)
  have stat : ∀ {σ' : L2.St} {H' : Hp} {s' : Shared}, Inv (X.blk s3 H3 scope ce fp) [] σ' H' s' → (∀ b ∈ fp, H' b = none) → ∀ b ∈ fp, FpOk (X.blk s3 H3 scope ce fp) [] H' b := fun {σ' H' s'} I' hn b hb =>
    ⟨hn b hb, (I'.ok.exf b hb).1, I'.ok.exfs b hb, .inl hb, fun x c z => (I'.ok.exf b hb).2 x c z, fun p hp => absurd (show p ∈ ([] : List (Addr × Obj)) ++ [] from hp) (by simp)⟩
  have loop : codeAny (model X.prog X.w) X.A (.compLoop (.SetComp elt [⟨tg, iter, [], 0⟩] scope pos) 0 (.ref it) (.ref D) ce) (compPost (model X.prog X.w) X.A X.xe none (EP X pins σ Q) (.ref D) s3.heap.objs.size) s4 := by
    refine PpSet.compLoopS_any (fun n s' => ∃ i H', Inv (X.blk s3 H3 scope ce fp) [] (wipe σ (own.map (·.2))) H' s' ∧ tn i s'.heap ∧ (∀ b ∈ fp, H' b = none) ∧ W i n H') ?_ m0 ⟨0, H3, I4, st4, nfp, w0⟩
    rintro n s5 ⟨i, H5, I5, st5, n5, w5⟩
    rcases turn i n H5 w5 with ⟨stop, qq⟩ | ⟨go, Nx, hNx, step⟩
    · refine thnF (T.done (X.blk s3 H3 scope ce fp) rfl rfl rfl hc i [] s5 _ H5 (fun _ _ => False) I5 (stat I5 n5) st5 stop) fun r s6 ⟨hr, I6⟩ => ?_
      subst hr
      have I7 : Inv X pins σ H5 s6 := I3.call' (ch := fp) I6.os I6.base I6.hok I6.bare fun b hb => ⟨(f3 b hb).1.2.2.2.1, (f3 b hb).1.2.1, (f3 b hb).1.2.2.2.2.1, (f3 b hb).1.2.2.2.2.2⟩
      have nC : H5 s3.heap.objs.size = none := by
        have z : H5 ce.locals = none := I6.free
        rw [cL] at z
        exact z
      obtain ⟨m, hn, _⟩ := I6.loc
      have hn : s6.heap.Ns ce.locals m := hn
      rw [cL] at hn
      refine ⟨m, hn, fun h'' sb => ?_⟩
      obtain ⟨f0, f1, f2', f3', f4, f5⟩ := I3.fpOk (Nat.le_refl _) nC
      exact ⟨.ref D, H5, I7.turned (t' := s6.toks) (fun b o hb z => (sb.2 b hb).trans z) f0 f1 f3' f4 f5, rfl, qq⟩
    · refine thnF (T.item (X.blk s3 H3 scope ce fp) rfl rfl rfl hc i [] s5 _ H5 (fun _ _ => False) I5 (stat I5 n5) st5 go) fun r s6 ⟨u, hr, h6⟩ => ?_
      subst hr
      refine thnF h6 fun _ s7 ⟨x, H7, I7, r7, y7, st7, n7⟩ => ?_
      have I7' := I7.pinned (stat I7 n7) (T.obj _ _ st7)
      refine thnF (pg.run _ s7 _ H7 x u _ I7' r7 (step x H7 y7)) fun _ s8 ⟨σ8, H8, I8, hw8, q8⟩ => ?_
      refine wpAny_tests_nil ?_
      rw [if_pos rfl]
      refine thnF (pe.run _ s8 σ8 H8 _ I8 q8) fun z s10 ⟨yv, H10, I10, r10, qa, k, Ls, ey, sq, hD10, hts, few, nx⟩ => ?_
      subst ey
      cases (show z = Value.ref qa from r10)
      refine addT_ok (X := X.blk s3 H3 scope ce fp) I10 hD10 hts sq hu few fun s11 L' c1 c2 I' => ?_
      obtain ⟨m', hm, w'⟩ := hNx _ (nx L' c1 c2)
      have pin' : ∀ b ∈ fp, ∀ o, s7.heap.get? b = some o → s11.heap.get? b = some o ∧ (upd H10 D (SetTO X.prog X.w D L')) b = none := fun b hb o z =>
        let y := I'.pin (b, o) (List.mem_append_right _ (List.mem_append_right _ (mem_pinsAt hb z)))
        ⟨y.1, y.2.1⟩
      have hl : (wipe σ (own.map (·.2))).length = σ8.length := by rw [← hw8, wipe_length]
      refine ⟨m', hm, i + 1, _, (I'.unpinned (pins := [])).weak hl (fun j v z => ?_), T.keep _ _ _ st7 fun b hb o z => (pin' b hb o z).1, fun b hb => ?_, w'⟩
      · rw [← hw8] at z
        exact (wipe_some z).1
      · obtain ⟨o, z, _⟩ := T.obj _ _ st7 b hb
        exact (pin' b hb o z).2
  exact PpSet.codeAny_compStart_set loop (T.self X.A 0 _ _ _ st4 loop)
end
end Pd
end
section
set_option Elab.async false
set_option linter.all false
set_option maxRecDepth 100000
set_option maxHeartbeats 1000000
/-! ## has_twins -/
namespace Ny
open PySem PySem.Spec PyProof.Rows L2 Pd Rt
def twN : List Str := ["points", "row", "weight", "spare"]
def asSetC : Expr → Option CompP | .SetComp elt [⟨tg, iter, ifs, 0⟩] s p => some ⟨elt, tg, iter, ifs, s, p⟩ | _ => none
theorem asSetC_ok {e : Expr} {c : CompP} (h : asSetC e = some c) : e = .SetComp c.elt [⟨c.tg, c.iter, c.ifs, 0⟩] c.sc c.pos := by
  unfold asSetC at h
  split at h <;> cases h
  rfl
def lenE (e : Expr) (k : Expr → Bool) : Bool := match asCall e with | some (f, [a]) => f == ("len" : Str) && k a | _ => false
theorem lenE_ok {e : Expr} {k : Expr → Bool} (h : lenE e k = true) : ∃ p a q, e = .Call (.Name "len" p) [a] [] q ∧ k a = true := by
  unfold lenE at h
  split at h
  · rename_i f a hc
    obtain ⟨h1, h2⟩ := Bool.a2 h
    obtain ⟨p, q, rfl⟩ := asCall_ok hc
    rw [eq_of_beq h1]
    exact ⟨_, _, _, rfl, h2⟩
  · cases h
def tgB (e : Expr) : Bool := match asTup e with | some [a, b, c] => isNm a "row" && (isNm b "weight" && isNm c "spare") | _ => false
def elB (e : Expr) : Bool := match asBin e with | some (a, o, b) => decide (o = .Add) && (isNm a "row" && (match asTup b with | some [c] => isNm c "weight" | _ => false)) | none => false
def twC (sc : Scope) (e : Expr) : Bool := match asSetC e with
  | some c => blkB twN sc c.sc [("row", 1), ("weight", 2), ("spare", 3)] && (tgB c.tg && (isNm c.iter "points" && (c.ifs.isEmpty && (elB c.elt && (isS c.sc "row" && (isS c.sc "weight" && isS c.sc "spare"))))))
  | none => false
def twB (sc : Scope) (body : List Stmt) : Bool := match body with
  | [st] => (match asRet st with
    | some (some e) => (match asCmp e with | some (a, o, b) => decide (o = .Lt) && (lenE a (twC sc) && (lenE b (fun x => isNm x "points") && (isG sc "len" && isS sc "points"))) | none => false)
    | _ => false)
  | _ => false
def keyP (p : Pt) : List Int := p.row ++ [p.wt]
theorem keys_nd {dim : Nat} {ps : List Pt} (gp : GoodPts dim ps) : (ps.map keyP).Nodup := by
  have h := gp.nd
  rw [List.nodup_iff_pairwise_ne, List.pairwise_map] at h ⊢
  refine h.imp fun {a b} n e => n ?_
  unfold keyP at e
  have e1 := List.append_inj' e rfl
  have e2 : a.wt = b.wt := by simpa using e1.2
  rw [e1.1, e2]
theorem dr_ints {K : PySem.W.Frag} {g : Option Rg} {H : Hp} {a : Addr} {r : List Int} (h : Dr K g H (.ref a) (rowD r)) : SqT K H a (r.map V.int) := by
  cases h with
  | tup s l =>
    rw [DrL.ints l] at s
    exact s
theorem dr_pt {K : PySem.W.Frag} {g : Option Rg} {H : Hp} {v : V} {p : Pt} (h : Dr K g H v (ptD p)) : ∃ a b, v = .ref a ∧ SqT K H a [.ref b, .int p.wt, .str p.col] ∧ SqT K H b (p.row.map V.int) := by
  cases h with
  | tup s l =>
    cases l with
    | cons r1 l =>
      cases l with
      | cons r2 l =>
        cases l with
        | cons r3 l =>
          cases l
          cases r2
          cases r3
          have r1' := r1
          cases r1 with
          | tup s1 l1 => exact ⟨_, _, rfl, s, dr_ints r1'⟩
theorem twins_ok {m : Mo} {x qual : Str} {params : Arguments} {body : List Stmt} {scope : Scope} {dvs : List V} {kws : List (Str × V)} {f : Addr} {fd : FuncData} (F : FunD m.K x qual params body scope dvs kws f fd) (hbi : ∀ x ∈ BI, m.mg x = none) (hS : scB twN ["points"] scope = true) (hB : twB scope body = true) :
    FnOk m.prog m.w m.K m.mg m.base (L2N.CX m.prog m.w) 1 f fd ["points"] (spOf m.K 1 sp_has_twins) := by
  have S := scB_ok hS
  refine F.ok S (fun vs H Q E h => spOf_len h) fun cdv A outer s H vs Q E hr h => ⟨_, pss_self, ?_⟩
  obtain ⟨g, h, ds, P, R, hl, hadr, htrk, hrok, r, hsp, hQ, hE⟩ := h
  obtain ⟨dim, ps, rfl, gp, hP⟩ := hsp
  have gs := gs_def (g := g) (h := h) (H := H) (lv := 0) (R := R) (X := cxOf (L2N.CX m.prog m.w) m.prog m.w m.K m.mg m.base twN qual scope f cdv A outer s H E) S rfl rfl hr rfl (fun _ => rfl) hbi rfl rfl rfl rfl hE
  generalize eX : cxOf (L2N.CX m.prog m.w) m.prog m.w m.K m.mg m.base twN qual scope f cdv A outer s H E = X at *
  have hXN : X.N = twN := by rw [← eX]; rfl
  have hXs : X.env.scope = scope := by rw [← eX]; rfl
  have hmo : moOf X = m := by rw [← eX]; rfl
  clear eX
  subst hmo
  subst hXs
  have en : Ent ⟨X, g, h, H, 0⟩ h H := ⟨fun a o e _ => ⟨e, fun z => z⟩, fun _ z => z, hadr, htrk, htrk, hrok⟩
  have SS : StOk ⟨X, g, h, H, 0⟩ h (start twN vs) (rho0 twN [.tup (ps.map ptD)]) H := start_ok en r
  obtain ⟨st, rfl⟩ : ∃ st, body = [st] := by
    unfold twB at hB
    split at hB
    · exact ⟨_, rfl⟩
    · cases hB
  unfold twB at hB
  dsimp only at hB
  split at hB
  case h_2 => cases hB
  rename_i e0 hr0
  split at hB
  case h_2 => cases hB
  rename_i ea o eb hc0
  obtain ⟨b1, hB⟩ := Bool.a2 hB
  obtain ⟨b2, hB⟩ := Bool.a2 hB
  obtain ⟨b3, hB⟩ := Bool.a2 hB
  obtain ⟨b4, b5⟩ := Bool.a2 hB
  have b1 := of_decide_eq_true b1
  subst b1
  obtain ⟨q0, rfl⟩ := asRet_ok hr0
  obtain ⟨q1, rfl⟩ := asCmp_ok hc0
  obtain ⟨p1, e1, p2, rfl, k2⟩ := lenE_ok b2
  obtain ⟨p3, e2, p4, rfl, k3⟩ := lenE_ok b3
  obtain ⟨p5, rfl⟩ := isNm_ok k3
  unfold twC at k2
  split at k2
  case h_2 => cases k2
  rename_i c hc
  rw [asSetC_ok hc]
  obtain ⟨elt, tg, iter, ifs, csc, cpos⟩ := c
  dsimp only at k2 ⊢
  obtain ⟨c1, k2⟩ := Bool.a2 k2
  obtain ⟨c2, k2⟩ := Bool.a2 k2
  obtain ⟨c3, k2⟩ := Bool.a2 k2
  obtain ⟨c4, k2⟩ := Bool.a2 k2
  obtain ⟨c5, k2⟩ := Bool.a2 k2
  obtain ⟨c6, k2⟩ := Bool.a2 k2
  obtain ⟨c7, c8⟩ := Bool.a2 k2
  obtain rfl : ifs = [] := List.isEmpty_iff.mp c4
  obtain ⟨p6, rfl⟩ := isNm_ok c3
  obtain ⟨t1, t2, t3, t4, t5, rfl⟩ : ∃ t1 t2 t3 t4 t5, tg = .Tuple [.Name "row" t1, .Name "weight" t2, .Name "spare" t3] t4 t5 := by
    unfold tgB at c2
    split at c2
    · rename_i a b c ht
      obtain ⟨z1, z⟩ := Bool.a2 c2
      obtain ⟨z2, z3⟩ := Bool.a2 z
      obtain ⟨_, _, rfl⟩ := asTup_ok ht
      obtain ⟨_, rfl⟩ := isNm_ok z1
      obtain ⟨_, rfl⟩ := isNm_ok z2
      obtain ⟨_, rfl⟩ := isNm_ok z3
      exact ⟨_, _, _, _, _, rfl⟩
    · cases c2
  obtain ⟨u1, u2, u3, u4, u5, rfl⟩ : ∃ u1 u2 u3 u4 u5, elt = .BinOp (.Name "row" u1) .Add (.Tuple [.Name "weight" u2] u3 u4) u5 := by
    unfold elB at c5
    split at c5
    · rename_i a o b hb
      obtain ⟨z1, z⟩ := Bool.a2 c5
      obtain ⟨z2, z3⟩ := Bool.a2 z
      have z1 := of_decide_eq_true z1
      subst z1
      obtain ⟨_, rfl⟩ := asBin_ok hb
      obtain ⟨_, rfl⟩ := isNm_ok z2
      split at z3
      · rename_i c ht
        obtain ⟨_, _, rfl⟩ := asTup_ok ht
        obtain ⟨_, rfl⟩ := isNm_ok z3
        exact ⟨_, _, _, _, _, rfl⟩
      · cases z3
    · cases c5
  have at0 : X.N[0]? = some ("points" : Str) := by rw [hXN]; rfl
  have at1 : X.N[1]? = some ("row" : Str) := by rw [hXN]; rfl
  have at2 : X.N[2]? = some ("weight" : Str) := by rw [hXN]; rfl
  have at3 : X.N[3]? = some ("spare" : Str) := by rw [hXN]; rfl
  have vP : Vis X.env.scope "points" := vis_of b5
  have bo : BlkOk X.N X.env.scope csc [("row", 1), ("weight", 2), ("spare", 3)] := by
    have := blkB_ok (G := ⟨X, g, h, H, 0⟩) (sc := X.env.scope) (s := csc) (own := [("row", 1), ("weight", 2), ("spare", 3)]) gs.sv
    dsimp only at this
    rw [hXN] at this ⊢
    exact this c1
  have loc : ∀ {y : Str} (s : Shared) (Hb : Hp) (C : Addr) (cl : List (Str × Addr)) (fp : List Addr), isS csc y = true → Loc (X.blk s Hb csc (compEnvC csc cl C X.env) fp).env.scope y := fun {y} s Hb C cl fp z => by
    rcases isS_ok z with y | y
    · exact .inl (lookup_relS_keep (by decide) y)
    · exact .inr (lookup_relS_keep (by decide) y)
  have fnb : ∀ {y : Str} (s : Shared) (Hb : Hp) (C : Addr) (cl : List (Str × Addr)) (fp : List Addr), isS csc y = true → (X.blk s Hb csc (compEnvC csc cl C X.env) fp).fn y = true ∨ (X.blk s Hb csc (compEnvC csc cl C X.env) fp).env.scope.names.lookup y = some .local := fun {y} s Hb C cl fp z => by
    rcases isS_ok z with q | q
    · exact .inr (lookup_relS_keep (by decide) q)
    · refine .inl ?_
      show (csc.names.lookup y == some NameKind.cell) = true
      rw [q]; rfl
  have vis : ∀ {y : Str} (s : Shared) (Hb : Hp) (C : Addr) (cl : List (Str × Addr)) (fp : List Addr), isS csc y = true → Vis (X.blk s Hb csc (compEnvC csc cl C X.env) fp).env.scope y := fun s Hb C cl fp z => (loc s Hb C cl fp z).elim .inl fun z => .inr (.inl z)
  have units : X.A.units + 64 < cLine := gs.room.units
  have nd := gs.nd
  have setc := pe_scT (X := X) (own := [("row", 1), ("weight", 2), ("spare", 3)]) (pos := cpos) (elt := .BinOp (.Name "row" u1) .Add (.Tuple [.Name "weight" u2] u3 u4) u5) (tg := .Tuple [.Name "row" t1, .Name "weight" t2, .Name "spare" t3] t4 t5) (iter := .Name "points" p6)
    (g := gTup X.K 3 (gCons (gName 1) (gCons (gName 2) (gCons (gName 3) gNil)))) (te := tOp (rCatA X.K) (tVar 1) (tTup (tCons (tVar 2) tNil))) gs.calm units nd pi_self bo
    (fun s Hb C cl fp => pg_tup (X := X.blk s Hb csc (compEnvC csc cl C X.env) fp) gs.calm (pgs_cons (pg_name (X := X.blk s Hb csc (compEnvC csc cl C X.env) fp) (i := 1) nd at1 (loc s Hb C cl fp c6) (fnb s Hb C cl fp c6)) (pgs_cons (pg_name (X := X.blk s Hb csc (compEnvC csc cl C X.env) fp) (i := 2) nd at2 (loc s Hb C cl fp c7) (fnb s Hb C cl fp c7)) (pgs_cons (pg_name (X := X.blk s Hb csc (compEnvC csc cl C X.env) fp) (i := 3) nd at3 (loc s Hb C cl fp c8) (fnb s Hb C cl fp c8)) pgs_nil))))
    (fun s Hb C cl fp => pe_op (X := X.blk s Hb csc (compEnvC csc cl C X.env) fp) (show OpR (X.blk s Hb csc (compEnvC csc cl C X.env) fp) (binaryOp .Add) (rCatA X.K) from op_catA) (pe_var (X := X.blk s Hb csc (compEnvC csc cl C X.env) fp) (i := 1) at1 (vis s Hb C cl fp c6)) (pe_tup (pa_cons (pe_var (X := X.blk s Hb csc (compEnvC csc cl C X.env) fp) (i := 2) at2 (vis s Hb C cl fp c7)) pa_nil)))
  refine Svs.of (pss_one (ps_ret (pe_cmpR op_lt (pe_callB call_lenSetT (isG_ok b4) (gs.bi _ (by decide)) boot_len (pa_cons setc pa_nil)) (pe_callB call_len (isG_ok b4) (gs.bi _ (by decide)) boot_len (pa_cons (pe_var (i := 0) at0 vP) pa_nil)) (nobehind _ (by decide) (by decide))))) ?_
  obtain ⟨v0, rfl⟩ : ∃ v0, vs = [v0] := List.length_eq_one_iff.mp r.length
  have r0 : Dr X.K g (hid h H) v0 (.tup (ps.map ptD)) := by
    cases r with
    | cons a _ => exact a
  have s0 : (start twN [v0])[0]? = some (some v0) := rfl
  have hlen : (start twN [v0]).length = 4 := rfl
  have fewp : ps.length ≤ 12 := by
    have h1 := gp.most
    have h2 := gp.dm
    have : lim dim ≤ 12 := by
      match dim, h2 with
      | 1, _ => decide
      | 2, _ => decide
      | 3, _ => decide
    omega
  have src : WI ⟨X, g, h, H, 0⟩ (.Tuple [.Name "row" t1, .Name "weight" t2, .Name "spare" t3] t4 t5) (.Name "points" p6) (rho0 twN [.tup (ps.map ptD)]) fun l => l = ps.map ptD :=
    wi_seq (we_var (i := 0) (d := .tup (ps.map ptD)) gs.sv at0 (by rcases vP with z | z | z <;> simp [z]) rfl rfl rfl ⟨_, rfl, rfl⟩)
  have srcs := src h _ H SS
  have big : ∀ J H1, (Ext g H H1 ∧ ∃ items, ItS X.K g h H1 J items ∧ items.length ≤ sizeLine ∧ items = ps.map ptD) → ∀ D, H1 D = none → ∃ W : Nat → Nat → Hp → Prop, (∃ m, W 0 m (upd H1 D (SetTO X.prog X.w D []))) ∧ ∀ i m H', W i m H' →
      (J.stop i H' ∧ ((∀ a o, H1 a = some o → H' a = some o) ∧ ∃ L : List (Addr × List Int), H' D = some (SetTO X.prog X.w D L) ∧ (∀ p ∈ L, SqT X.K H' p.1 (p.2.map V.int)) ∧ L.length = ps.length)) ∨ (J.go i H' ∧ ∃ Nx : Hp → Prop, (∀ H'', Nx H'' → ∃ m', m' < m ∧ W (i + 1) m' H'') ∧ ∀ x H'', J.yld i H' x H'' → gTup X.K 3 (gCons (gName 1) (gCons (gName 2) (gCons (gName 3) gNil))) x (wipe (start twN [v0]) [1, 2, 3]) H'' fun σ2 H2 => wipe σ2 [1, 2, 3] = wipe (start twN [v0]) [1, 2, 3] ∧ tOp (rCatA X.K) (tVar 1) (tTup (tCons (tVar 2) tNil)) σ2 H2 fun y H4 =>
        ∃ (q : Addr) (k : List Int) (L : List (Addr × List Int)), y = .ref q ∧ SqT X.K H4 q (k.map V.int) ∧ H4 D = some (SetTO X.prog X.w D L) ∧ (∀ p ∈ L, SqT X.K H4 p.1 (p.2.map V.int)) ∧ L.length + 1 < 64 ∧ ∀ L', (k ∈ L.map (·.2) → L' = L) → (k ∉ L.map (·.2) → L'.Perm ((q, k) :: L)) → Nx (upd H4 D (SetTO X.prog X.w D L'))) := by
    rintro J H1 ⟨x1, items, its, hz, rfl⟩ D nD
    have noh : ¬ h D := fun z => by
      obtain ⟨o, e⟩ := htrk D z
      by_cases n : adr g D
      · obtain ⟨u, z⟩ := rok_trk (x1.ok hrok) n
        rw [z] at nD; cases nD
      · rw [x1.keep D o n e] at nD; cases nD
    let In : Nat → Hp → Prop := fun i H' => (∀ a o, H1 a = some o → H' a = some o) ∧ ∃ L : List (Addr × List Int), H' D = some (SetTO X.prog X.w D L) ∧ (∀ p ∈ L, SqT X.K H' p.1 (p.2.map V.int)) ∧ L.length = i ∧ ∀ p ∈ L, p.2 ∈ (ps.map keyP).take i
    refine ⟨fun i m H' => m = ps.length - i ∧ i ≤ ps.length ∧ In i H', ⟨ps.length, rfl, Nat.zero_le _, fun a o e => by rw [upd_ne (fun z => by rw [z, nD] at e; cases e)]; exact e, [], upd_same, (fun p hp => by cases hp), rfl, fun p hp => by cases hp⟩, ?_⟩
    rintro i m H' ⟨em, hi, kp, L, eD, tu, ln, sub⟩
    have trk' : ∀ a, h a → ∃ o, H' a = some o := fun a ha => by
      obtain ⟨o, e⟩ := htrk a ha
      by_cases n : adr g a
      · obtain ⟨u, z⟩ := rok_trk (x1.ok hrok) n
        exact ⟨u, kp _ _ z⟩
      · exact ⟨o, kp _ _ (x1.keep a o n e)⟩
    have it := its h H' (fun a o e n => ⟨kp a o e, n⟩) trk' i
    by_cases hlt : i < ps.length
    · have ei : (ps.map ptD)[i]? = some (ptD ps[i]) := by rw [List.getElem?_map, List.getElem?_eq_getElem hlt]; rfl
      obtain ⟨go, yl⟩ := it.1 _ ei
      refine .inr ⟨go, In (i + 1), fun H'' p => ⟨ps.length - (i + 1), by omega, rfl, hlt, p⟩, fun x H'' y => ?_⟩
      obtain ⟨k2, dx⟩ := yl x H'' y
      obtain ⟨a, b, rfl, sa, sb⟩ := dr_pt dx
      have sa := sqT_mono hid_le sa
      have sb := sqT_mono hid_le sb
      have gpi := gp.pts _ (List.getElem_mem hlt)
      have dm := gp.dm
      refine ⟨a, _, rfl, sa, rfl, _, _, rfl, _, _, rfl, _, _, rfl, rfl, rfl, _, rfl, _, rfl, show 1 ≤ sizeLine by decide, fun T nT => ?_⟩
      have up : ∀ c o, H'' c = some o → upd H'' T (.tup [.int ps[i].wt]) c = some o := fun c o e => by rw [upd_ne (fun z => by rw [z, nT] at e; cases e)]; exact e
      have ne : (ps[i].row.map V.int) ≠ [] := fun z => by
        have := congrArg List.length z
        rw [List.length_map, gpi.len] at this
        simp at this
        omega
      refine ⟨b, T, _, _, rfl, rfl, sqT_mono up sb, .inl (.inl upd_same), ?_, fun z => absurd z ne, (fun _ z => by cases z), fun _ _ q nq => ?_⟩
      · rw [List.length_map, gpi.len]
        exact Nat.le_trans (show dim + 1 ≤ 4 by omega) (by decide)
      · have up2 : ∀ c o, upd H'' T (.tup [.int ps[i].wt]) c = some o → upd (upd H'' T (.tup [.int ps[i].wt])) q (.tup (ps[i].row.map V.int ++ [.int ps[i].wt])) c = some o := fun c o e => by rw [upd_ne (fun z => by rw [z, nq] at e; cases e)]; exact e
        have kall : ∀ c o, H' c = some o → upd (upd H'' T (.tup [.int ps[i].wt])) q (.tup (ps[i].row.map V.int ++ [.int ps[i].wt])) c = some o := fun c o e => up2 c o (up c o (k2 c o e))
        have nmem : keyP ps[i] ∉ L.map (·.2) := fun z => by
          obtain ⟨p, hp, e⟩ := List.mem_map.mp z
          have z2 := sub p hp
          rw [e] at z2
          obtain ⟨j, hj, ej⟩ := List.mem_iff_getElem.mp z2
          rw [List.length_take, List.length_map] at hj
          rw [List.getElem_take] at ej
          have nd2 := keys_nd gp
          have hj2 : j < (ps.map keyP).length := by rw [List.length_map]; omega
          have hi2 : i < (ps.map keyP).length := by rw [List.length_map]; omega
          have e3 : (ps.map keyP)[i] = keyP ps[i] := by rw [List.getElem_map]
          have := (List.getElem_inj (h₀ := hj2) (h₁ := hi2) nd2).mp (ej.trans e3.symm)
          omega
        refine ⟨q, keyP ps[i], L, rfl, ?_, kall _ _ eD, fun p hp => sqT_mono kall (tu p hp), by omega, fun L' c1 c2 => ?_⟩
        · refine .inl (.inl ?_)
          unfold keyP
          rw [upd_same, List.map_append]; rfl
        · have pm := c2 nmem
          have neD : ∀ c o, H1 c = some o → c ≠ D := fun c o e z => by rw [z, nD] at e; cases e
          have tq : SqT X.K (upd (upd H'' T (.tup [.int ps[i].wt])) q (.tup (ps[i].row.map V.int ++ [.int ps[i].wt]))) q ((keyP ps[i]).map V.int) := by
            refine .inl (.inl ?_)
            unfold keyP
            rw [upd_same, List.map_append]; rfl
          have keepT : ∀ {c : Addr} {xs : List V}, SqT X.K (upd (upd H'' T (.tup [.int ps[i].wt])) q (.tup (ps[i].row.map V.int ++ [.int ps[i].wt]))) c xs → SqT X.K (upd (upd (upd H'' T (.tup [.int ps[i].wt])) q (.tup (ps[i].row.map V.int ++ [.int ps[i].wt]))) D (SetTO X.prog X.w D L')) c xs := fun {c xs} z => by
            have eD2 := kall _ _ eD
            rcases z with (z | ⟨o, z⟩) | z
            · refine .inl (.inl ?_)
              rw [upd_ne (fun e => by rw [e, eD2] at z; cases z)]; exact z
            · refine .inl (.inr ⟨o, ?_⟩)
              rw [upd_ne (fun e => by rw [e, eD2] at z; cases z)]; exact z
            · exact .inr z
          refine ⟨fun c o e => by rw [upd_ne (neD c o e)]; exact kall _ _ (kp c o e), L', upd_same, fun p hp => ?_, by rw [pm.length_eq, List.length_cons, ln], fun p hp => ?_⟩
          · rcases List.mem_cons.mp (pm.mem_iff.mp hp) with e | e
            · rw [e]; exact keepT tq
            · exact keepT (sqT_mono kall (tu p e))
          · have hi2 : (ps.map keyP)[i]? = some (keyP ps[i]) := by rw [List.getElem?_map, List.getElem?_eq_getElem hlt]; rfl
            rw [List.take_add_one, hi2]
            rcases List.mem_cons.mp (pm.mem_iff.mp hp) with e | e
            · rw [e]; simp
            · exact List.mem_append_left _ (sub p e)
    · have e : i = ps.length := by omega
      refine .inl ⟨it.2 (by rw [List.length_map]; exact e), kp, L, eD, tu, by rw [ln, e]⟩
  refine fun pins s1 I => thn (srcs pins s1 I) fun v s2 q1 => thn q1 fun itv s3 ⟨it, fp, tn, J, H1, e1, I', T, st, f, r1⟩ => ⟨it, fp, tn, J, H1, e1, I', T, st, f, fun D nD => ?_⟩
  obtain ⟨W, w0, turn⟩ := big J H1 r1 D nD
  have x1 : Ext g H H1 := r1.1
  refine ⟨W, w0, fun i m H' w => (turn i m H' w).imp (fun ⟨stop, kp, L, eD, tu, ln⟩ => ⟨stop, ?_⟩) fun z => z⟩
  refine ⟨D, L, rfl, eD, tu, _, s0, ?_⟩
  have k0 : ∀ a o, hid h H a = some o → H' a = some o := fun a o e => by
    obtain ⟨n, e2⟩ := hid_some e
    exact kp _ _ (x1.keep a o (fun z => n (hadr a z)) e2)
  have xH : Ext g H H' := ⟨fun a o n e => kp _ _ (x1.keep a o n e), fun z => rok_mono (fun a o _ e => kp a o e) (x1.ok z)⟩
  cases r0 with
  | tup sq lr =>
    have lx := lr.length
    rw [List.length_map] at lx
    refine ⟨_, _, rfl, .inr ⟨_, sqT_mono k0 sq, rfl⟩, _, _, rfl, rfl, ?_⟩
    refine hQ _ _ ⟨xH, .bl false, false, ?_, (fun z => nomatch z), hP⟩
    rw [lx, ln]
    have : decide (((ps.length : Nat) : Int) < ((ps.length : Nat) : Int)) = false := decide_eq_false (Int.lt_irrefl _)
    show Dr _ g _ (V.bl (decide (((ps.length : Nat) : Int) < ((ps.length : Nat) : Int)))) (Pd.D.bl false)
    rw [this]
    exact .bl false
end Ny
end
section
set_option Elab.async false
set_option linter.all false
set_option maxRecDepth 100000
set_option maxHeartbeats 0
namespace K84
open PySem PySem.Spec PyProof.Rows L2 Pd Ny Rt
structure Cxt where
  w : World
  K : PySem.W.Frag
  mg : Str → Option Value
  h : Heap
  base : Heap
  X : K.In h
  G : h.Ns mainGlobals mg
  S : He.SaysD fa fn K
  E : ex K = true
def Cxt.m (c : Cxt) : Mo := ⟨PySem.Challenge.pw_nearerhop_k84_companies, c.w, c.K, c.mg, c.base⟩
theorem Cxt.glo (c : Cxt) {x : Str} (i : Nat) (h : fa[i]? = some (.glo x) := by rfl) : c.m.mg x = some (.ref (He.ga c.K x)) := He.glo_ok c.X c.G (c.S.fact i h)
theorem Cxt.fre (c : Cxt) {x : Str} (i : Nat) (h : fa[i]? = some (.free x) := by rfl) : c.m.mg x = none := He.free_ok c.X c.G (c.S.fact i h)
theorem Cxt.exc (c : Cxt) {x : Str} (i j : Nat) (h : fa[i]? = some (.exc x) := by rfl) (h2 : fa[j]? = some (.glo x) := by rfl) : c.m.exc x := fun X hX => by
  have e := He.exc_ok (c.S.fact i h)
  have g := c.glo j h2
  have k : X.K = c.K := congrArg Mo.K hX
  have k2 : X.mg = c.mg := congrArg Mo.mg hX
  have g : X.mg x = some (.ref (He.ga X.K x)) := by rw [k, k2]; exact g
  rw [← k] at e
  exact ⟨g, e.1, e.2.1, e.2.2.1, e.2.2.2⟩
theorem Cxt.fld (c : Cxt) {x f : Str} (i j : Nat) (h : fa[i]? = some (.cls x) := by rfl) (h2 : fa[j]? = some (.noat x f) := by rfl) : FldOk c.m.K x f := ⟨He.cls_ok (c.S.fact i h), He.noat_ok (c.S.fact j h2)⟩
theorem Cxt.bi (c : Cxt) : ∀ x ∈ BI, c.m.mg x = none := by
  intro x hx
  simp only [BI, List.mem_cons, List.not_mem_nil, or_false] at hx
  rcases hx with rfl | rfl | rfl | rfl | rfl | rfl | rfl | rfl | rfl | rfl | rfl | rfl | rfl | rfl | rfl | rfl | rfl
  · exact c.fre 123
  · exact c.fre 121
  · exact c.fre 117
  · exact c.fre 126
  · exact c.fre 125
  · exact c.fre 129
  · exact c.fre 118
  · exact c.fre 132
  · exact c.fre 120
  · exact c.fre 130
  · exact c.fre 124
  · exact c.fre 127
  · exact c.fre 131
  · exact c.fre 133
  · exact c.fre 134
  · exact c.fre 128
  · exact c.fre 119
theorem g_MOST_DIM (c : Cxt) : c.m.glob "MOST_DIM" (.int 3) := glob_int (He.int_ok c.X c.G (c.S.fact 48 (f := .int "MOST_DIM" 3) rfl))
theorem g_ENTRY_BOUND (c : Cxt) : c.m.glob "ENTRY_BOUND" (.int 1000000) := glob_int (He.int_ok c.X c.G (c.S.fact 60 (f := .int "ENTRY_BOUND" 1000000) rfl))
theorem g_WEIGHT_BOUND (c : Cxt) : c.m.glob "WEIGHT_BOUND" (.int 1000000000000) := glob_int (He.int_ok c.X c.G (c.S.fact 61 (f := .int "WEIGHT_BOUND" 1000000000000) rfl))
theorem g_SPOT_LIMIT (c : Cxt) : c.m.glob "SPOT_LIMIT" (.int 20) := glob_int (He.int_ok c.X c.G (c.S.fact 81 (f := .int "SPOT_LIMIT" 20) rfl))
theorem g_POINT_LIMITS (c : Cxt) : c.m.glob "POINT_LIMITS" (.tup [.int 0, .int 12, .int 7, .int 5]) := glob_ints (l := [0, 12, 7, 5]) (c.glo 59) (by
  have e := c.E
  unfold ex ex1 at e
  simp only [Bool.and_eq_true] at e
  exact e.1.2.2.2.2.2.2)
theorem e_BadNumber (c : Cxt) : c.m.exc "BadNumber" := c.exc 2 3
theorem e_BadSpot (c : Cxt) : c.m.exc "BadSpot" := c.exc 14 15
theorem e_BadBook (c : Cxt) : c.m.exc "BadBook" := c.exc 8 9
theorem f_Book_dim (c : Cxt) : FldOk c.m.K "Book" "dim" := c.fld 72 135
theorem f_Book_points (c : Cxt) : FldOk c.m.K "Book" "points" := c.fld 72 136
theorem f_Book_many (c : Cxt) : FldOk c.m.K "Book" "many" := c.fld 72 137
theorem f_Book_equal_weights (c : Cxt) : FldOk c.m.K "Book" "equal_weights" := c.fld 72 138
theorem k_is_whole (c : Cxt) : c.m.callee F_is_whole := by
  obtain ⟨fd, F⟩ := c.S.def_ 1 (d := d22) rfl
  exact callee_of (m := c.m) (c := F_is_whole) (lv := 0) (N := N_is_whole) (ps := ["thing"]) (dv := []) (ds := []) F (c.glo 33) (F.bindsN (fun _ _ _ _ _ _ us hl => match us, hl with | [_], _ => by kernel_rfl)) .nil (fun _ _ => .nil) ir_is_whole c.bi rfl rfl (by decide +kernel) (by decide +kernel) (by
    simp only [ir_is_whole, Pd.okSs, Pd.okS, Pd.okE, Pd.okEs, Pd.okI, Pd.okO, true_and, and_true]) w_is_whole
theorem k_is_sequence (c : Cxt) : c.m.callee F_is_sequence := by
  obtain ⟨fd, F⟩ := c.S.def_ 2 (d := d24) rfl
  exact callee_of (m := c.m) (c := F_is_sequence) (lv := 0) (N := N_is_sequence) (ps := ["thing"]) (dv := []) (ds := []) F (c.glo 34) (F.bindsN (fun _ _ _ _ _ _ us hl => match us, hl with | [_], _ => by kernel_rfl)) .nil (fun _ _ => .nil) ir_is_sequence c.bi rfl rfl (by decide +kernel) (by decide +kernel) (by
    simp only [ir_is_sequence, Pd.okSs, Pd.okS, Pd.okE, Pd.okEs, Pd.okI, Pd.okO, true_and, and_true]) w_is_sequence
theorem k_common_divisor (c : Cxt) : c.m.callee F_common_divisor := by
  obtain ⟨fd, F⟩ := c.S.def_ 3 (d := d25) rfl
  exact callee_of (m := c.m) (c := F_common_divisor) (lv := 0) (N := N_common_divisor) (ps := ["one", "two"]) (dv := []) (ds := []) F (c.glo 35) (F.bindsN (fun _ _ _ _ _ _ us hl => match us, hl with | [_, _], _ => by kernel_rfl)) .nil (fun _ _ => .nil) ir_common_divisor c.bi rfl rfl (by decide +kernel) (by decide +kernel) (by
    simp only [ir_common_divisor, Pd.okSs, Pd.okS, Pd.okE, Pd.okEs, Pd.okI, Pd.okO, true_and, and_true]) w_common_divisor
theorem k_is_ratio (c : Cxt) : c.m.callee F_is_ratio := by
  obtain ⟨fd, F⟩ := c.S.def_ 4 (d := d26) rfl
  exact callee_of (m := c.m) (c := F_is_ratio) (lv := 1) (N := N_is_ratio) (ps := ["thing"]) (dv := []) (ds := []) F (c.glo 36) (F.bindsN (fun _ _ _ _ _ _ us hl => match us, hl with | [_], _ => by kernel_rfl)) .nil (fun _ _ => .nil) ir_is_ratio c.bi rfl rfl (by decide +kernel) (by decide +kernel) (by
    simp only [ir_is_ratio, Pd.okSs, Pd.okS, Pd.okE, Pd.okEs, Pd.okI, Pd.okO, true_and, and_true]
    repeat' apply And.intro
    all_goals first | trivial | exact k_common_divisor c | exact k_is_whole c) w_is_ratio
theorem k_check_ratio (c : Cxt) : c.m.callee F_check_ratio := by
  obtain ⟨fd, F⟩ := c.S.def_ 5 (d := d27) rfl
  exact callee_of (m := c.m) (c := F_check_ratio) (lv := 2) (N := N_check_ratio) (ps := ["thing"]) (dv := []) (ds := []) F (c.glo 37) (F.bindsN (fun _ _ _ _ _ _ us hl => match us, hl with | [_], _ => by kernel_rfl)) .nil (fun _ _ => .nil) ir_check_ratio c.bi rfl rfl (by decide +kernel) (by decide +kernel) (by
    simp only [ir_check_ratio, Pd.okSs, Pd.okS, Pd.okE, Pd.okEs, Pd.okI, Pd.okO, true_and, and_true]
    repeat' apply And.intro
    all_goals first | trivial | exact e_BadNumber c | exact k_is_ratio c) w_check_ratio
theorem k_check_ratios (c : Cxt) : c.m.callee F_check_ratios := by
  obtain ⟨fd, F⟩ := c.S.def_ 6 (d := d28) rfl
  exact callee_of (m := c.m) (c := F_check_ratios) (lv := 3) (N := N_check_ratios) (ps := ["thing"]) (dv := []) (ds := []) F (c.glo 38) (F.bindsN (fun _ _ _ _ _ _ us hl => match us, hl with | [_], _ => by kernel_rfl)) .nil (fun _ _ => .nil) ir_check_ratios c.bi rfl rfl (by decide +kernel) (by decide +kernel) (by
    simp only [ir_check_ratios, Pd.okSs, Pd.okS, Pd.okE, Pd.okEs, Pd.okI, Pd.okO, true_and, and_true]
    repeat' apply And.intro
    all_goals first | trivial | exact e_BadNumber c | exact k_check_ratio c | exact k_is_sequence c) w_check_ratios
theorem k_opposite (c : Cxt) : c.m.callee F_opposite := by
  obtain ⟨fd, F⟩ := c.S.def_ 7 (d := d29) rfl
  exact callee_of (m := c.m) (c := F_opposite) (lv := 0) (N := N_opposite) (ps := ["p"]) (dv := []) (ds := []) F (c.glo 39) (F.bindsN (fun _ _ _ _ _ _ us hl => match us, hl with | [_], _ => by kernel_rfl)) .nil (fun _ _ => .nil) ir_opposite c.bi rfl rfl (by decide +kernel) (by decide +kernel) (by
    simp only [ir_opposite, Pd.okSs, Pd.okS, Pd.okE, Pd.okEs, Pd.okI, Pd.okO, true_and, and_true]) w_opposite
theorem k_sum_of (c : Cxt) : c.m.callee F_sum_of := by
  obtain ⟨fd, F⟩ := c.S.def_ 8 (d := d30) rfl
  exact callee_of (m := c.m) (c := F_sum_of) (lv := 1) (N := N_sum_of) (ps := ["p", "q"]) (dv := []) (ds := []) F (c.glo 40) (F.bindsN (fun _ _ _ _ _ _ us hl => match us, hl with | [_, _], _ => by kernel_rfl)) .nil (fun _ _ => .nil) ir_sum_of c.bi rfl rfl (by decide +kernel) (by decide +kernel) (by
    simp only [ir_sum_of, Pd.okSs, Pd.okS, Pd.okE, Pd.okEs, Pd.okI, Pd.okO, true_and, and_true]
    repeat' apply And.intro
    all_goals first | trivial | exact k_common_divisor c) w_sum_of
theorem k_product_of (c : Cxt) : c.m.callee F_product_of := by
  obtain ⟨fd, F⟩ := c.S.def_ 9 (d := d31) rfl
  exact callee_of (m := c.m) (c := F_product_of) (lv := 1) (N := N_product_of) (ps := ["p", "q"]) (dv := []) (ds := []) F (c.glo 41) (F.bindsN (fun _ _ _ _ _ _ us hl => match us, hl with | [_, _], _ => by kernel_rfl)) .nil (fun _ _ => .nil) ir_product_of c.bi rfl rfl (by decide +kernel) (by decide +kernel) (by
    simp only [ir_product_of, Pd.okSs, Pd.okS, Pd.okE, Pd.okEs, Pd.okI, Pd.okO, true_and, and_true]
    repeat' apply And.intro
    all_goals first | trivial | exact k_common_divisor c) w_product_of
theorem k_make_1 (c : Cxt) : c.m.callee F_make_1 := by
  obtain ⟨fd, F⟩ := c.S.def_ 10 (d := d32) rfl
  obtain ⟨ds, rd, hb⟩ := F.binds1 (ps := ["above", "below"]) 1 0 (by intro z; cases z) rfl (fun T kV doc pm an cdv ct us its hl hl2 => match us, its, hl, hl2 with | [_], [_], _, _ => ⟨_, rfl, rfl⟩)
  exact callee_of (m := c.m) (c := F_make_1) (lv := 1) (N := N_make) (ps := ["above", "below"]) (dv := [(.int 1)]) (ds := ds) F (c.glo 42) hb rd (fun _ _ => .cons (.int _) .nil) ir_make c.bi rfl rfl (by decide +kernel) (by decide +kernel) (by
    simp only [ir_make, Pd.okSs, Pd.okS, Pd.okE, Pd.okEs, Pd.okI, Pd.okO, true_and, and_true]
    repeat' apply And.intro
    all_goals first | trivial | exact e_BadNumber c | exact k_common_divisor c | exact k_is_whole c) w_make
theorem k_make (c : Cxt) : c.m.callee F_make := by
  obtain ⟨fd, F⟩ := c.S.def_ 10 (d := d32) rfl
  obtain ⟨ds, rd, hb⟩ := F.binds1 (ps := ["above", "below"]) 2 1 (by intro z; cases z) rfl (fun T kV doc pm an cdv ct us its hl hl2 => match us, its, hl, hl2 with | [_, _], [_], _, _ => ⟨_, rfl, rfl⟩)
  exact callee_of (m := c.m) (c := F_make) (lv := 1) (N := N_make) (ps := ["above", "below"]) (dv := []) (ds := ds) F (c.glo 42) hb rd (fun _ _ => .nil) ir_make c.bi rfl rfl (by decide +kernel) (by decide +kernel) (by
    simp only [ir_make, Pd.okSs, Pd.okS, Pd.okE, Pd.okEs, Pd.okI, Pd.okO, true_and, and_true]
    repeat' apply And.intro
    all_goals first | trivial | exact e_BadNumber c | exact k_common_divisor c | exact k_is_whole c) w_make
theorem k_plus (c : Cxt) : c.m.callee F_plus := by
  obtain ⟨fd, F⟩ := c.S.def_ 11 (d := d33) rfl
  exact callee_of (m := c.m) (c := F_plus) (lv := 3) (N := N_plus) (ps := ["p", "q"]) (dv := []) (ds := []) F (c.glo 43) (F.bindsN (fun _ _ _ _ _ _ us hl => match us, hl with | [_, _], _ => by kernel_rfl)) .nil (fun _ _ => .nil) ir_plus c.bi rfl rfl (by decide +kernel) (by decide +kernel) (by
    simp only [ir_plus, Pd.okSs, Pd.okS, Pd.okE, Pd.okEs, Pd.okI, Pd.okO, true_and, and_true]
    repeat' apply And.intro
    all_goals first | trivial | exact k_check_ratio c | exact k_sum_of c) w_plus
theorem k_minus (c : Cxt) : c.m.callee F_minus := by
  obtain ⟨fd, F⟩ := c.S.def_ 12 (d := d34) rfl
  exact callee_of (m := c.m) (c := F_minus) (lv := 3) (N := N_minus) (ps := ["p", "q"]) (dv := []) (ds := []) F (c.glo 44) (F.bindsN (fun _ _ _ _ _ _ us hl => match us, hl with | [_, _], _ => by kernel_rfl)) .nil (fun _ _ => .nil) ir_minus c.bi rfl rfl (by decide +kernel) (by decide +kernel) (by
    simp only [ir_minus, Pd.okSs, Pd.okS, Pd.okE, Pd.okEs, Pd.okI, Pd.okO, true_and, and_true]
    repeat' apply And.intro
    all_goals first | trivial | exact k_check_ratio c | exact k_opposite c | exact k_sum_of c) w_minus
theorem k_times (c : Cxt) : c.m.callee F_times := by
  obtain ⟨fd, F⟩ := c.S.def_ 13 (d := d35) rfl
  exact callee_of (m := c.m) (c := F_times) (lv := 3) (N := N_times) (ps := ["p", "q"]) (dv := []) (ds := []) F (c.glo 45) (F.bindsN (fun _ _ _ _ _ _ us hl => match us, hl with | [_, _], _ => by kernel_rfl)) .nil (fun _ _ => .nil) ir_times c.bi rfl rfl (by decide +kernel) (by decide +kernel) (by
    simp only [ir_times, Pd.okSs, Pd.okS, Pd.okE, Pd.okEs, Pd.okI, Pd.okO, true_and, and_true]
    repeat' apply And.intro
    all_goals first | trivial | exact k_check_ratio c | exact k_product_of c) w_times
theorem k_over (c : Cxt) : c.m.callee F_over := by
  obtain ⟨fd, F⟩ := c.S.def_ 14 (d := d36) rfl
  exact callee_of (m := c.m) (c := F_over) (lv := 3) (N := N_over) (ps := ["p", "q"]) (dv := []) (ds := []) F (c.glo 46) (F.bindsN (fun _ _ _ _ _ _ us hl => match us, hl with | [_, _], _ => by kernel_rfl)) .nil (fun _ _ => .nil) ir_over c.bi rfl rfl (by decide +kernel) (by decide +kernel) (by
    simp only [ir_over, Pd.okSs, Pd.okS, Pd.okE, Pd.okEs, Pd.okI, Pd.okO, true_and, and_true]
    repeat' apply And.intro
    all_goals first | trivial | exact e_BadNumber c | exact k_check_ratio c | exact k_product_of c) w_over
theorem k_total (c : Cxt) : c.m.callee F_total := by
  obtain ⟨fd, F⟩ := c.S.def_ 15 (d := d37) rfl
  exact callee_of (m := c.m) (c := F_total) (lv := 4) (N := N_total) (ps := ["ratios"]) (dv := []) (ds := []) F (c.glo 47) (F.bindsN (fun _ _ _ _ _ _ us hl => match us, hl with | [_], _ => by kernel_rfl)) .nil (fun _ _ => .nil) ir_total c.bi rfl rfl (by decide +kernel) (by decide +kernel) (by
    simp only [ir_total, Pd.okSs, Pd.okS, Pd.okE, Pd.okEs, Pd.okI, Pd.okO, true_and, and_true]
    repeat' apply And.intro
    all_goals first | trivial | exact k_check_ratios c | exact k_sum_of c) w_total
theorem k_check_dim (c : Cxt) : c.m.callee F_check_dim := by
  obtain ⟨fd, F⟩ := c.S.def_ 16 (d := d40) rfl
  exact callee_of (m := c.m) (c := F_check_dim) (lv := 1) (N := N_check_dim) (ps := ["dim"]) (dv := []) (ds := []) F (c.glo 49) (F.bindsN (fun _ _ _ _ _ _ us hl => match us, hl with | [_], _ => by kernel_rfl)) .nil (fun _ _ => .nil) ir_check_dim c.bi rfl rfl (by decide +kernel) (by decide +kernel) (by
    simp only [ir_check_dim, Pd.okSs, Pd.okS, Pd.okE, Pd.okEs, Pd.okI, Pd.okO, true_and, and_true]
    repeat' apply And.intro
    all_goals first | trivial | exact e_BadNumber c | exact g_MOST_DIM c | exact k_is_whole c) w_check_dim
theorem k_are_integers (c : Cxt) : c.m.callee F_are_integers := by
  obtain ⟨fd, F⟩ := c.S.def_ 17 (d := d41) rfl
  exact callee_of (m := c.m) (c := F_are_integers) (lv := 1) (N := N_are_integers) (ps := ["thing", "size"]) (dv := []) (ds := []) F (c.glo 50) (F.bindsN (fun _ _ _ _ _ _ us hl => match us, hl with | [_, _], _ => by kernel_rfl)) .nil (fun _ _ => .nil) ir_are_integers c.bi rfl rfl (by decide +kernel) (by decide +kernel) (by
    simp only [ir_are_integers, Pd.okSs, Pd.okS, Pd.okE, Pd.okEs, Pd.okI, Pd.okO, true_and, and_true]
    repeat' apply And.intro
    all_goals first | trivial | exact k_is_whole c) w_are_integers
theorem k_are_ratios (c : Cxt) : c.m.callee F_are_ratios := by
  obtain ⟨fd, F⟩ := c.S.def_ 18 (d := d42) rfl
  exact callee_of (m := c.m) (c := F_are_ratios) (lv := 2) (N := N_are_ratios) (ps := ["thing", "size"]) (dv := []) (ds := []) F (c.glo 51) (F.bindsN (fun _ _ _ _ _ _ us hl => match us, hl with | [_, _], _ => by kernel_rfl)) .nil (fun _ _ => .nil) ir_are_ratios c.bi rfl rfl (by decide +kernel) (by decide +kernel) (by
    simp only [ir_are_ratios, Pd.okSs, Pd.okS, Pd.okE, Pd.okEs, Pd.okI, Pd.okO, true_and, and_true]
    repeat' apply And.intro
    all_goals first | trivial | exact k_is_ratio c) w_are_ratios
theorem k_is_row (c : Cxt) : c.m.callee F_is_row := by
  obtain ⟨fd, F⟩ := c.S.def_ 19 (d := d43) rfl
  exact callee_of (m := c.m) (c := F_is_row) (lv := 2) (N := N_is_row) (ps := ["dim", "thing"]) (dv := []) (ds := []) F (c.glo 52) (F.bindsN (fun _ _ _ _ _ _ us hl => match us, hl with | [_, _], _ => by kernel_rfl)) .nil (fun _ _ => .nil) ir_is_row c.bi rfl rfl (by decide +kernel) (by decide +kernel) (by
    simp only [ir_is_row, Pd.okSs, Pd.okS, Pd.okE, Pd.okEs, Pd.okI, Pd.okO, true_and, and_true]
    repeat' apply And.intro
    all_goals first | trivial | exact k_are_integers c | exact k_check_dim c) w_is_row
theorem k_is_spot (c : Cxt) : c.m.callee F_is_spot := by
  obtain ⟨fd, F⟩ := c.S.def_ 20 (d := d44) rfl
  exact callee_of (m := c.m) (c := F_is_spot) (lv := 3) (N := N_is_spot) (ps := ["dim", "thing"]) (dv := []) (ds := []) F (c.glo 53) (F.bindsN (fun _ _ _ _ _ _ us hl => match us, hl with | [_, _], _ => by kernel_rfl)) .nil (fun _ _ => .nil) ir_is_spot c.bi rfl rfl (by decide +kernel) (by decide +kernel) (by
    simp only [ir_is_spot, Pd.okSs, Pd.okS, Pd.okE, Pd.okEs, Pd.okI, Pd.okO, true_and, and_true]
    repeat' apply And.intro
    all_goals first | trivial | exact k_are_ratios c | exact k_check_dim c) w_is_spot
theorem k_check_spot (c : Cxt) : c.m.callee F_check_spot := by
  obtain ⟨fd, F⟩ := c.S.def_ 21 (d := d45) rfl
  exact callee_of (m := c.m) (c := F_check_spot) (lv := 3) (N := N_check_spot) (ps := ["spot"]) (dv := []) (ds := []) F (c.glo 55) (F.bindsN (fun _ _ _ _ _ _ us hl => match us, hl with | [_], _ => by kernel_rfl)) .nil (fun _ _ => .nil) ir_check_spot c.bi rfl rfl (by decide +kernel) (by decide +kernel) (by
    simp only [ir_check_spot, Pd.okSs, Pd.okS, Pd.okE, Pd.okEs, Pd.okI, Pd.okO, true_and, and_true]
    repeat' apply And.intro
    all_goals first | trivial | exact e_BadSpot c | exact g_MOST_DIM c | exact k_are_ratios c) w_check_spot
theorem k_check_two_spots (c : Cxt) : c.m.callee F_check_two_spots := by
  obtain ⟨fd, F⟩ := c.S.def_ 22 (d := d47) rfl
  exact callee_of (m := c.m) (c := F_check_two_spots) (lv := 4) (N := N_check_two_spots) (ps := ["begin", "finish"]) (dv := []) (ds := []) F (c.glo 56) (F.bindsN (fun _ _ _ _ _ _ us hl => match us, hl with | [_, _], _ => by kernel_rfl)) .nil (fun _ _ => .nil) ir_check_two_spots c.bi rfl rfl (by decide +kernel) (by decide +kernel) (by
    simp only [ir_check_two_spots, Pd.okSs, Pd.okS, Pd.okE, Pd.okEs, Pd.okI, Pd.okO, true_and, and_true]
    repeat' apply And.intro
    all_goals first | trivial | exact e_BadSpot c | exact k_are_ratios c | exact k_check_spot c) w_check_two_spots
theorem k_check_counts (c : Cxt) : c.m.callee F_check_counts := by
  obtain ⟨fd, F⟩ := c.S.def_ 23 (d := d48) rfl
  exact callee_of (m := c.m) (c := F_check_counts) (lv := 1) (N := N_check_counts) (ps := ["counts", "size"]) (dv := []) (ds := []) F (c.glo 57) (F.bindsN (fun _ _ _ _ _ _ us hl => match us, hl with | [_, _], _ => by kernel_rfl)) .nil (fun _ _ => .nil) ir_check_counts c.bi rfl rfl (by decide +kernel) (by decide +kernel) (by
    simp only [ir_check_counts, Pd.okSs, Pd.okS, Pd.okE, Pd.okEs, Pd.okI, Pd.okO, true_and, and_true]
    repeat' apply And.intro
    all_goals first | trivial | exact e_BadNumber c | exact k_is_sequence c | exact k_is_whole c) w_check_counts
theorem k_mean_spot (c : Cxt) : c.m.callee F_mean_spot := by
  obtain ⟨fd, F⟩ := c.S.def_ 24 (d := d49) rfl
  exact callee_of (m := c.m) (c := F_mean_spot) (lv := 5) (N := N_mean_spot) (ps := ["spots", "counts"]) (dv := []) (ds := []) F (c.glo 58) (F.bindsN (fun _ _ _ _ _ _ us hl => match us, hl with | [_, _], _ => by kernel_rfl)) .nil (fun _ _ => .nil) ir_mean_spot c.bi rfl rfl (by decide +kernel) (by decide +kernel) (by
    simp only [ir_mean_spot, Pd.okSs, Pd.okS, Pd.okE, Pd.okEs, Pd.okI, Pd.okO, true_and, and_true]
    repeat' apply And.intro
    all_goals first | trivial | exact e_BadSpot c | exact k_check_counts c | exact k_check_two_spots c | exact k_is_sequence c | exact k_product_of c | exact k_sum_of c) w_mean_spot
theorem k_X_TooLarge (c : Cxt) : c.m.exi X_TooLarge := by
  have e := c.E
  unfold ex ex1 at e
  simp only [Bool.and_eq_true] at e
  obtain ⟨fd, F⟩ := c.S.def_ 0 (d := d16_0) rfl
  have oc := oexB_ok e.1.2.1.1
  have of := oexF_ok e.1.2.1.2
  exact exi_of1 (m := c.m) (cn := "TooLarge") (s := "self") (f := "limit") (y := "limit") F (c.glo 27) oc of.init of.fn (of.no "limit" (by decide)) (F.bindsN (fun _ _ _ _ _ _ us hl => match us, hl with | [_, _], _ => by kernel_rfl)) (by decide +kernel) (by decide +kernel) (by decide +kernel) (by decide +kernel)
theorem k_is_whole_54 (c : Cxt) : c.m.callee F_is_whole_54 := by
  obtain ⟨fd, F⟩ := c.S.def_ 25 (d := d54) rfl
  exact callee_of (m := c.m) (c := F_is_whole_54) (lv := 0) (N := N_is_whole_54) (ps := ["thing"]) (dv := []) (ds := []) F (c.glo 62) (F.bindsN (fun _ _ _ _ _ _ us hl => match us, hl with | [_], _ => by kernel_rfl)) .nil (fun _ _ => .nil) ir_is_whole_54 c.bi rfl rfl (by decide +kernel) (by decide +kernel) (by
    simp only [ir_is_whole_54, Pd.okSs, Pd.okS, Pd.okE, Pd.okEs, Pd.okI, Pd.okO, true_and, and_true]) w_is_whole_54
theorem k_is_dim (c : Cxt) : c.m.callee F_is_dim := by
  obtain ⟨fd, F⟩ := c.S.def_ 26 (d := d56) rfl
  exact callee_of (m := c.m) (c := F_is_dim) (lv := 1) (N := N_is_dim) (ps := ["thing"]) (dv := []) (ds := []) F (c.glo 63) (F.bindsN (fun _ _ _ _ _ _ us hl => match us, hl with | [_], _ => by kernel_rfl)) .nil (fun _ _ => .nil) ir_is_dim c.bi rfl rfl (by decide +kernel) (by decide +kernel) (by
    simp only [ir_is_dim, Pd.okSs, Pd.okS, Pd.okE, Pd.okEs, Pd.okI, Pd.okO, true_and, and_true]
    repeat' apply And.intro
    all_goals first | trivial | exact k_is_whole_54 c) w_is_dim
theorem k_is_letter (c : Cxt) : c.m.callee F_is_letter := by
  obtain ⟨fd, F⟩ := c.S.def_ 27 (d := d57) rfl
  exact callee_of (m := c.m) (c := F_is_letter) (lv := 0) (N := N_is_letter) (ps := ["thing"]) (dv := []) (ds := []) F (c.glo 64) (F.bindsN (fun _ _ _ _ _ _ us hl => match us, hl with | [_], _ => by kernel_rfl)) .nil (fun _ _ => .nil) ir_is_letter c.bi rfl rfl (by decide +kernel) (by decide +kernel) (by
    simp only [ir_is_letter, Pd.okSs, Pd.okS, Pd.okE, Pd.okEs, Pd.okI, Pd.okO, true_and, and_true]) w_is_letter
theorem k_is_bounded_row (c : Cxt) : c.m.callee F_is_bounded_row := by
  obtain ⟨fd, F⟩ := c.S.def_ 28 (d := d58) rfl
  exact callee_of (m := c.m) (c := F_is_bounded_row) (lv := 3) (N := N_is_bounded_row) (ps := ["dim", "thing"]) (dv := []) (ds := []) F (c.glo 65) (F.bindsN (fun _ _ _ _ _ _ us hl => match us, hl with | [_, _], _ => by kernel_rfl)) .nil (fun _ _ => .nil) ir_is_bounded_row c.bi rfl rfl (by decide +kernel) (by decide +kernel) (by
    simp only [ir_is_bounded_row, Pd.okSs, Pd.okS, Pd.okE, Pd.okEs, Pd.okI, Pd.okO, true_and, and_true]
    repeat' apply And.intro
    all_goals first | trivial | exact g_ENTRY_BOUND c | exact k_is_row c) w_is_bounded_row
theorem k_is_point (c : Cxt) : c.m.callee F_is_point := by
  obtain ⟨fd, F⟩ := c.S.def_ 29 (d := d59) rfl
  exact callee_of (m := c.m) (c := F_is_point) (lv := 4) (N := N_is_point) (ps := ["dim", "thing"]) (dv := []) (ds := []) F (c.glo 66) (F.bindsN (fun _ _ _ _ _ _ us hl => match us, hl with | [_, _], _ => by kernel_rfl)) .nil (fun _ _ => .nil) ir_is_point c.bi rfl rfl (by decide +kernel) (by decide +kernel) (by
    simp only [ir_is_point, Pd.okSs, Pd.okS, Pd.okE, Pd.okEs, Pd.okI, Pd.okO, true_and, and_true]
    repeat' apply And.intro
    all_goals first | trivial | exact g_WEIGHT_BOUND c | exact k_is_bounded_row c | exact k_is_letter c | exact k_is_whole_54 c) w_is_point
theorem k_has_twins (c : Cxt) : c.m.callee F_has_twins := by
  obtain ⟨fd, F⟩ := c.S.def_ 30 (d := d60) rfl
  exact callee_fn (m := c.m) (c := F_has_twins) (ps := ["points"]) F.kp (c.glo 67) (F.bindsN (fun _ _ _ _ _ _ us hl => match us, hl with | [_], _ => by kernel_rfl)) rfl (twins_ok (m := c.m) F c.bi (by decide +kernel) (by decide +kernel))
theorem k_is_point_number (c : Cxt) : c.m.callee F_is_point_number := by
  obtain ⟨fd, F⟩ := c.S.def_ 31 (d := d61) rfl
  exact callee_of (m := c.m) (c := F_is_point_number) (lv := 1) (N := N_is_point_number) (ps := ["many", "thing"]) (dv := []) (ds := []) F (c.glo 68) (F.bindsN (fun _ _ _ _ _ _ us hl => match us, hl with | [_, _], _ => by kernel_rfl)) .nil (fun _ _ => .nil) ir_is_point_number c.bi rfl rfl (by decide +kernel) (by decide +kernel) (by
    simp only [ir_is_point_number, Pd.okSs, Pd.okS, Pd.okE, Pd.okEs, Pd.okI, Pd.okO, true_and, and_true]
    repeat' apply And.intro
    all_goals first | trivial | exact k_is_whole_54 c) w_is_point_number
theorem k_check_number (c : Cxt) : c.m.callee F_check_number := by
  obtain ⟨fd, F⟩ := c.S.def_ 32 (d := d62) rfl
  exact callee_of (m := c.m) (c := F_check_number) (lv := 2) (N := N_check_number) (ps := ["many", "thing"]) (dv := []) (ds := []) F (c.glo 70) (F.bindsN (fun _ _ _ _ _ _ us hl => match us, hl with | [_, _], _ => by kernel_rfl)) .nil (fun _ _ => .nil) ir_check_number c.bi rfl rfl (by decide +kernel) (by decide +kernel) (by
    simp only [ir_check_number, Pd.okSs, Pd.okS, Pd.okE, Pd.okEs, Pd.okI, Pd.okO, true_and, and_true]
    repeat' apply And.intro
    all_goals first | trivial | exact e_BadNumber c | exact k_is_point_number c) w_check_number
theorem k_check_spot_64 (c : Cxt) : c.m.callee F_check_spot_64 := by
  obtain ⟨fd, F⟩ := c.S.def_ 33 (d := d64) rfl
  exact callee_of (m := c.m) (c := F_check_spot_64) (lv := 4) (N := N_check_spot_64) (ps := ["dim", "thing"]) (dv := []) (ds := []) F (c.glo 71) (F.bindsN (fun _ _ _ _ _ _ us hl => match us, hl with | [_, _], _ => by kernel_rfl)) .nil (fun _ _ => .nil) ir_check_spot_64 c.bi rfl rfl (by decide +kernel) (by decide +kernel) (by
    simp only [ir_check_spot_64, Pd.okSs, Pd.okS, Pd.okE, Pd.okEs, Pd.okI, Pd.okO, true_and, and_true]
    repeat' apply And.intro
    all_goals first | trivial | exact e_BadSpot c | exact k_is_spot c) w_check_spot_64
theorem k_M_Book (c : Cxt) : c.m.mkr M_Book := by
  obtain ⟨fd, F⟩ := c.S.def_ 34 (d := d66_0) rfl
  exact mkr_of (m := c.m) (c := M_Book) (lv := 5) (N := N_Book___init__) (ps := ["self", "dim", "points"]) F (c.glo 74) (He.mkr_ok (c.S.fact 73 (f := .mkr "Book") rfl)) (F.bindsN (fun _ _ _ _ _ _ us hl => match us, hl with | [_, _, _], _ => by kernel_rfl)) ir_Book___init__ c.bi rfl rfl (by decide +kernel) (by decide +kernel) (by
    simp only [ir_Book___init__, Pd.okSs, Pd.okS, Pd.okE, Pd.okEs, Pd.okI, Pd.okO, true_and, and_true]
    repeat' apply And.intro
    all_goals first | trivial | exact e_BadBook c | exact f_Book_dim c | exact f_Book_equal_weights c | exact f_Book_many c | exact f_Book_points c | exact g_POINT_LIMITS c | exact k_X_TooLarge c | exact k_has_twins c | exact k_is_dim c | exact k_is_point c) w_Book___init__
theorem k_Book_row (c : Cxt) : c.m.meth "Book" F_Book_row := by
  obtain ⟨fd, F⟩ := c.S.def_ 35 (d := d66_4) rfl
  exact meth_of (m := c.m) (c := F_Book_row) (lv := 3) (N := N_Book_row) (ps := ["self", "i"]) (dv := []) (ds := []) F (He.cls_ok (c.S.fact 72 (f := .cls "Book") rfl)) (He.meth_ok (c.S.fact 139 (f := .meth "Book" "row") rfl)) (F.bindsN (fun _ _ _ _ _ _ us hl => match us, hl with | [_, _], _ => by kernel_rfl)) .nil (fun _ _ => .nil) ir_Book_row c.bi rfl rfl (by decide +kernel) (by decide +kernel) (by
    simp only [ir_Book_row, Pd.okSs, Pd.okS, Pd.okE, Pd.okEs, Pd.okI, Pd.okO, true_and, and_true]
    repeat' apply And.intro
    all_goals first | trivial | exact f_Book_many c | exact f_Book_points c | exact k_check_number c) w_Book_row
theorem k_level_of (c : Cxt) : c.m.callee F_level_of := by
  obtain ⟨fd, F⟩ := c.S.def_ 36 (d := d68) rfl
  exact callee_of (m := c.m) (c := F_level_of) (lv := 0) (N := N_level_of) (ps := ["point"]) (dv := []) (ds := []) F (c.glo 75) (F.bindsN (fun _ _ _ _ _ _ us hl => match us, hl with | [_], _ => by kernel_rfl)) .nil (fun _ _ => .nil) ir_level_of c.bi rfl rfl (by decide +kernel) (by decide +kernel) (by
    simp only [ir_level_of, Pd.okSs, Pd.okS, Pd.okE, Pd.okEs, Pd.okI, Pd.okO, true_and, and_true]) w_level_of
theorem k_price_of (c : Cxt) : c.m.callee F_price_of := by
  obtain ⟨fd, F⟩ := c.S.def_ 37 (d := d69) rfl
  exact callee_of (m := c.m) (c := F_price_of) (lv := 5) (N := N_price_of) (ps := ["point", "spot"]) (dv := []) (ds := []) F (c.glo 76) (F.bindsN (fun _ _ _ _ _ _ us hl => match us, hl with | [_, _], _ => by kernel_rfl)) .nil (fun _ _ => .nil) ir_price_of c.bi rfl rfl (by decide +kernel) (by decide +kernel) (by
    simp only [ir_price_of, Pd.okSs, Pd.okS, Pd.okE, Pd.okEs, Pd.okI, Pd.okO, true_and, and_true]
    repeat' apply And.intro
    all_goals first | trivial | exact k_make c | exact k_make_1 c | exact k_minus c | exact k_total c) w_price_of
theorem k_scaled_prices (c : Cxt) : c.m.callee F_scaled_prices := by
  obtain ⟨fd, F⟩ := c.S.def_ 38 (d := d70) rfl
  exact callee_of (m := c.m) (c := F_scaled_prices) (lv := 1) (N := N_scaled_prices) (ps := ["book", "spot"]) (dv := []) (ds := []) F (c.glo 77) (F.bindsN (fun _ _ _ _ _ _ us hl => match us, hl with | [_, _], _ => by kernel_rfl)) .nil (fun _ _ => .nil) ir_scaled_prices c.bi rfl rfl (by decide +kernel) (by decide +kernel) (by
    simp only [ir_scaled_prices, Pd.okSs, Pd.okS, Pd.okE, Pd.okEs, Pd.okI, Pd.okO, true_and, and_true]
    repeat' apply And.intro
    all_goals first | trivial | exact f_Book_points c | exact k_level_of c) w_scaled_prices
theorem k_level (c : Cxt) : c.m.callee F_level := by
  obtain ⟨fd, F⟩ := c.S.def_ 39 (d := d71) rfl
  exact callee_of (m := c.m) (c := F_level) (lv := 3) (N := N_level) (ps := ["book", "i"]) (dv := []) (ds := []) F (c.glo 78) (F.bindsN (fun _ _ _ _ _ _ us hl => match us, hl with | [_, _], _ => by kernel_rfl)) .nil (fun _ _ => .nil) ir_level c.bi rfl rfl (by decide +kernel) (by decide +kernel) (by
    simp only [ir_level, Pd.okSs, Pd.okS, Pd.okE, Pd.okEs, Pd.okI, Pd.okO, true_and, and_true]
    repeat' apply And.intro
    all_goals first | trivial | exact f_Book_many c | exact f_Book_points c | exact k_check_number c | exact k_level_of c) w_level
theorem k_price (c : Cxt) : c.m.callee F_price := by
  obtain ⟨fd, F⟩ := c.S.def_ 40 (d := d72) rfl
  exact callee_of (m := c.m) (c := F_price) (lv := 6) (N := N_price) (ps := ["book", "i", "spot"]) (dv := []) (ds := []) F (c.glo 79) (F.bindsN (fun _ _ _ _ _ _ us hl => match us, hl with | [_, _, _], _ => by kernel_rfl)) .nil (fun _ _ => .nil) ir_price c.bi rfl rfl (by decide +kernel) (by decide +kernel) (by
    simp only [ir_price, Pd.okSs, Pd.okS, Pd.okE, Pd.okEs, Pd.okI, Pd.okO, true_and, and_true]
    repeat' apply And.intro
    all_goals first | trivial | exact f_Book_dim c | exact f_Book_many c | exact f_Book_points c | exact k_check_number c | exact k_check_spot_64 c | exact k_price_of c) w_price
theorem k_cheapest (c : Cxt) : c.m.callee F_cheapest := by
  obtain ⟨fd, F⟩ := c.S.def_ 41 (d := d73) rfl
  exact callee_of (m := c.m) (c := F_cheapest) (lv := 5) (N := N_cheapest) (ps := ["book", "spot"]) (dv := []) (ds := []) F (c.glo 80) (F.bindsN (fun _ _ _ _ _ _ us hl => match us, hl with | [_, _], _ => by kernel_rfl)) .nil (fun _ _ => .nil) ir_cheapest c.bi rfl rfl (by decide +kernel) (by decide +kernel) (by
    simp only [ir_cheapest, Pd.okSs, Pd.okS, Pd.okE, Pd.okEs, Pd.okI, Pd.okO, true_and, and_true]
    repeat' apply And.intro
    all_goals first | trivial | exact f_Book_dim c | exact f_Book_many c | exact k_check_spot_64 c | exact k_scaled_prices c) w_cheapest
theorem k_check_number_76 (c : Cxt) : c.m.callee F_check_number_76 := by
  obtain ⟨fd, F⟩ := c.S.def_ 42 (d := d76) rfl
  exact callee_of (m := c.m) (c := F_check_number_76) (lv := 0) (N := N_check_number_76) (ps := ["book", "i"]) (dv := []) (ds := []) F (c.glo 82) (F.bindsN (fun _ _ _ _ _ _ us hl => match us, hl with | [_, _], _ => by kernel_rfl)) .nil (fun _ _ => .nil) ir_check_number_76 c.bi rfl rfl (by decide +kernel) (by decide +kernel) (by
    simp only [ir_check_number_76, Pd.okSs, Pd.okS, Pd.okE, Pd.okEs, Pd.okI, Pd.okO, true_and, and_true]
    repeat' apply And.intro
    all_goals first | trivial | exact e_BadNumber c | exact f_Book_many c) w_check_number_76
theorem k_check_company (c : Cxt) : c.m.callee F_check_company := by
  obtain ⟨fd, F⟩ := c.S.def_ 43 (d := d78) rfl
  exact callee_of (m := c.m) (c := F_check_company) (lv := 4) (N := N_check_company) (ps := ["dim", "spots", "counts"]) (dv := []) (ds := []) F (c.glo 83) (F.bindsN (fun _ _ _ _ _ _ us hl => match us, hl with | [_, _, _], _ => by kernel_rfl)) .nil (fun _ _ => .nil) ir_check_company c.bi rfl rfl (by decide +kernel) (by decide +kernel) (by
    simp only [ir_check_company, Pd.okSs, Pd.okS, Pd.okE, Pd.okEs, Pd.okI, Pd.okO, true_and, and_true]
    repeat' apply And.intro
    all_goals first | trivial | exact e_BadNumber c | exact e_BadSpot c | exact g_SPOT_LIMIT c | exact k_X_TooLarge c | exact k_is_spot c) w_check_company
theorem k_spots_dim (c : Cxt) : c.m.callee F_spots_dim := by
  obtain ⟨fd, F⟩ := c.S.def_ 44 (d := d79) rfl
  exact callee_of (m := c.m) (c := F_spots_dim) (lv := 0) (N := N_spots_dim) (ps := ["spots"]) (dv := []) (ds := []) F (c.glo 84) (F.bindsN (fun _ _ _ _ _ _ us hl => match us, hl with | [_], _ => by kernel_rfl)) .nil (fun _ _ => .nil) ir_spots_dim c.bi rfl rfl (by decide +kernel) (by decide +kernel) (by
    simp only [ir_spots_dim, Pd.okSs, Pd.okS, Pd.okE, Pd.okEs, Pd.okI, Pd.okO, true_and, and_true]
    repeat' apply And.intro
    all_goals first | trivial | exact e_BadSpot c) w_spots_dim
theorem k_count_sums (c : Cxt) : c.m.callee F_count_sums := by
  obtain ⟨fd, F⟩ := c.S.def_ 45 (d := d80) rfl
  exact callee_of (m := c.m) (c := F_count_sums) (lv := 5) (N := N_count_sums) (ps := ["spots", "counts"]) (dv := []) (ds := []) F (c.glo 85) (F.bindsN (fun _ _ _ _ _ _ us hl => match us, hl with | [_, _], _ => by kernel_rfl)) .nil (fun _ _ => .nil) ir_count_sums c.bi rfl rfl (by decide +kernel) (by decide +kernel) (by
    simp only [ir_count_sums, Pd.okSs, Pd.okS, Pd.okE, Pd.okEs, Pd.okI, Pd.okO, true_and, and_true]
    repeat' apply And.intro
    all_goals first | trivial | exact k_times c | exact k_total c) w_count_sums
theorem k_total_from (c : Cxt) : c.m.callee F_total_from := by
  obtain ⟨fd, F⟩ := c.S.def_ 46 (d := d81) rfl
  exact callee_of (m := c.m) (c := F_total_from) (lv := 5) (N := N_total_from) (ps := ["book", "i", "added"]) (dv := []) (ds := []) F (c.glo 86) (F.bindsN (fun _ _ _ _ _ _ us hl => match us, hl with | [_, _, _], _ => by kernel_rfl)) .nil (fun _ _ => .nil) ir_total_from c.bi rfl rfl (by decide +kernel) (by decide +kernel) (by
    simp only [ir_total_from, Pd.okSs, Pd.okS, Pd.okE, Pd.okEs, Pd.okI, Pd.okO, true_and, and_true]
    repeat' apply And.intro
    all_goals first | trivial | exact k_Book_row c | exact k_level c | exact k_minus c | exact k_plus c | exact k_times c | exact k_total c) w_total_from
theorem k_total_price (c : Cxt) : c.m.callee F_total_price := by
  obtain ⟨fd, F⟩ := c.S.def_ 47 (d := d82) rfl
  exact callee_of (m := c.m) (c := F_total_price) (lv := 6) (N := N_total_price) (ps := ["book", "i", "spots", "counts"]) (dv := []) (ds := []) F (c.glo 87) (F.bindsN (fun _ _ _ _ _ _ us hl => match us, hl with | [_, _, _, _], _ => by kernel_rfl)) .nil (fun _ _ => .nil) ir_total_price c.bi rfl rfl (by decide +kernel) (by decide +kernel) (by
    simp only [ir_total_price, Pd.okSs, Pd.okS, Pd.okE, Pd.okEs, Pd.okI, Pd.okO, true_and, and_true]
    repeat' apply And.intro
    all_goals first | trivial | exact f_Book_dim c | exact k_check_company c | exact k_check_number_76 c | exact k_count_sums c | exact k_total_from c) w_total_price
theorem k_totals (c : Cxt) : c.m.callee F_totals := by
  obtain ⟨fd, F⟩ := c.S.def_ 48 (d := d83) rfl
  exact callee_of (m := c.m) (c := F_totals) (lv := 6) (N := N_totals) (ps := ["book", "spots", "counts"]) (dv := []) (ds := []) F (c.glo 88) (F.bindsN (fun _ _ _ _ _ _ us hl => match us, hl with | [_, _, _], _ => by kernel_rfl)) .nil (fun _ _ => .nil) ir_totals c.bi rfl rfl (by decide +kernel) (by decide +kernel) (by
    simp only [ir_totals, Pd.okSs, Pd.okS, Pd.okE, Pd.okEs, Pd.okI, Pd.okO, true_and, and_true]
    repeat' apply And.intro
    all_goals first | trivial | exact f_Book_dim c | exact f_Book_many c | exact k_check_company c | exact k_count_sums c | exact k_total_from c) w_totals
theorem k_spread (c : Cxt) : c.m.callee F_spread := by
  obtain ⟨fd, F⟩ := c.S.def_ 49 (d := d84) rfl
  exact callee_of (m := c.m) (c := F_spread) (lv := 6) (N := N_spread) (ps := ["spots", "counts"]) (dv := []) (ds := []) F (c.glo 89) (F.bindsN (fun _ _ _ _ _ _ us hl => match us, hl with | [_, _], _ => by kernel_rfl)) .nil (fun _ _ => .nil) ir_spread c.bi rfl rfl (by decide +kernel) (by decide +kernel) (by
    simp only [ir_spread, Pd.okSs, Pd.okS, Pd.okE, Pd.okEs, Pd.okI, Pd.okO, true_and, and_true]
    repeat' apply And.intro
    all_goals first | trivial | exact k_check_company c | exact k_count_sums c | exact k_minus c | exact k_over c | exact k_spots_dim c | exact k_times c | exact k_total c) w_spread
theorem k_least_total (c : Cxt) : c.m.callee F_least_total := by
  obtain ⟨fd, F⟩ := c.S.def_ 50 (d := d85) rfl
  exact callee_of (m := c.m) (c := F_least_total) (lv := 6) (N := N_least_total) (ps := ["book", "spots", "counts"]) (dv := []) (ds := []) F (c.glo 90) (F.bindsN (fun _ _ _ _ _ _ us hl => match us, hl with | [_, _, _], _ => by kernel_rfl)) .nil (fun _ _ => .nil) ir_least_total c.bi rfl rfl (by decide +kernel) (by decide +kernel) (by
    simp only [ir_least_total, Pd.okSs, Pd.okS, Pd.okE, Pd.okEs, Pd.okI, Pd.okO, true_and, and_true]
    repeat' apply And.intro
    all_goals first | trivial | exact f_Book_dim c | exact k_cheapest c | exact k_check_company c | exact k_mean_spot c) w_least_total
theorem k_demand (c : Cxt) : c.m.callee F_demand := by
  obtain ⟨fd, F⟩ := c.S.def_ 51 (d := d86) rfl
  exact callee_of (m := c.m) (c := F_demand) (lv := 6) (N := N_demand) (ps := ["book", "spots", "counts"]) (dv := []) (ds := []) F (c.glo 91) (F.bindsN (fun _ _ _ _ _ _ us hl => match us, hl with | [_, _, _], _ => by kernel_rfl)) .nil (fun _ _ => .nil) ir_demand c.bi rfl rfl (by decide +kernel) (by decide +kernel) (by
    simp only [ir_demand, Pd.okSs, Pd.okS, Pd.okE, Pd.okEs, Pd.okI, Pd.okO, true_and, and_true]
    repeat' apply And.intro
    all_goals first | trivial | exact f_Book_dim c | exact f_Book_many c | exact k_cheapest c | exact k_check_company c) w_demand
theorem mg_KN (c : Cxt) : ∀ x ∈ KN, c.m.mg x = some (.ref (He.ga c.K x)) := by
  intro x hx
  simp only [KN, KN1, KN2, KN3, KN4, KN5, List.mem_append, List.mem_cons, List.not_mem_nil, or_false, or_assoc] at hx
  rcases hx with rfl | rfl | rfl | rfl | rfl | rfl | rfl | rfl | rfl | rfl | rfl | rfl | rfl | rfl | rfl | rfl | rfl | rfl
  · exact (c.glo 3)
  · exact (c.glo 5)
  · exact (c.glo 7)
  · exact (c.glo 9)
  · exact (c.glo 11)
  · exact (c.glo 13)
  · exact (c.glo 15)
  · exact (c.glo 17)
  · exact (c.glo 19)
  · exact (c.glo 21)
  · exact (c.glo 23)
  · exact (c.glo 25)
  · exact (c.glo 26)
  · exact (c.glo 27)
  · exact (c.glo 28)
  · exact (c.glo 29)
  · exact (c.glo 30)
  · exact (c.glo 31)
theorem k_kd (c : Cxt) : Nonempty (KdAt c.m msK) := by
  have e := c.E
  unfold ex ex1 at e
  simp only [Bool.and_eq_true] at e
  obtain ⟨fd, F⟩ := c.S.def_ 52 (d := d88) rfl
  have M : KdM c.m msK := kdM_of e.2.1 (by decide +kernel) (mg_KN c) c.bi
  exact ⟨⟨_, fd, kinds_ok (m := c.m) F M (by decide +kernel) (by decide +kernel) (by decide +kernel), (c.glo 92), F.kp, F.bindsN (fun _ _ _ _ _ _ us hl => match us, hl with | [_], _ => by kernel_rfl)⟩⟩
theorem k__law_costs (c : Cxt) : c.m.callee F__law_costs := by
  obtain ⟨fd, F⟩ := c.S.def_ 53 (d := d89) rfl
  exact callee_of (m := c.m) (c := F__law_costs) (lv := 0) (N := N__law_costs) (ps := ["points", "spot"]) (dv := []) (ds := []) F (c.glo 93) (F.bindsN (fun _ _ _ _ _ _ us hl => match us, hl with | [_, _], _ => by kernel_rfl)) .nil (fun _ _ => .nil) ir__law_costs c.bi rfl rfl (by decide +kernel) (by decide +kernel) (by
    simp only [ir__law_costs, Pd.okSs, Pd.okS, Pd.okE, Pd.okEs, Pd.okI, Pd.okO, true_and, and_true]) w__law_costs
theorem k__law_lowest (c : Cxt) : c.m.callee F__law_lowest := by
  obtain ⟨fd, F⟩ := c.S.def_ 54 (d := d90) rfl
  exact callee_of (m := c.m) (c := F__law_lowest) (lv := 0) (N := N__law_lowest) (ps := ["above", "below"]) (dv := []) (ds := []) F (c.glo 94) (F.bindsN (fun _ _ _ _ _ _ us hl => match us, hl with | [_, _], _ => by kernel_rfl)) .nil (fun _ _ => .nil) ir__law_lowest c.bi rfl rfl (by decide +kernel) (by decide +kernel) (by
    simp only [ir__law_lowest, Pd.okSs, Pd.okS, Pd.okE, Pd.okEs, Pd.okI, Pd.okO, true_and, and_true]) w__law_lowest
theorem k__law_plus (c : Cxt) : c.m.callee F__law_plus := by
  obtain ⟨fd, F⟩ := c.S.def_ 55 (d := d91) rfl
  exact callee_of (m := c.m) (c := F__law_plus) (lv := 1) (N := N__law_plus) (ps := ["p", "q"]) (dv := []) (ds := []) F (c.glo 95) (F.bindsN (fun _ _ _ _ _ _ us hl => match us, hl with | [_, _], _ => by kernel_rfl)) .nil (fun _ _ => .nil) ir__law_plus c.bi rfl rfl (by decide +kernel) (by decide +kernel) (by
    simp only [ir__law_plus, Pd.okSs, Pd.okS, Pd.okE, Pd.okEs, Pd.okI, Pd.okO, true_and, and_true]
    repeat' apply And.intro
    all_goals first | trivial | exact k__law_lowest c) w__law_plus
theorem k__law_least (c : Cxt) : c.m.callee F__law_least := by
  obtain ⟨fd, F⟩ := c.S.def_ 56 (d := d92) rfl
  exact callee_of (m := c.m) (c := F__law_least) (lv := 0) (N := N__law_least) (ps := ["costs"]) (dv := []) (ds := []) F (c.glo 96) (F.bindsN (fun _ _ _ _ _ _ us hl => match us, hl with | [_], _ => by kernel_rfl)) .nil (fun _ _ => .nil) ir__law_least c.bi rfl rfl (by decide +kernel) (by decide +kernel) (by
    simp only [ir__law_least, Pd.okSs, Pd.okS, Pd.okE, Pd.okEs, Pd.okI, Pd.okO, true_and, and_true]) w__law_least
theorem k__law_compare (c : Cxt) : c.m.callee F__law_compare := by
  obtain ⟨fd, F⟩ := c.S.def_ 57 (d := d93) rfl
  exact callee_of (m := c.m) (c := F__law_compare) (lv := 0) (N := N__law_compare) (ps := ["p", "q"]) (dv := []) (ds := []) F (c.glo 97) (F.bindsN (fun _ _ _ _ _ _ us hl => match us, hl with | [_, _], _ => by kernel_rfl)) .nil (fun _ _ => .nil) ir__law_compare c.bi rfl rfl (by decide +kernel) (by decide +kernel) (by
    simp only [ir__law_compare, Pd.okSs, Pd.okS, Pd.okE, Pd.okEs, Pd.okI, Pd.okO, true_and, and_true]) w__law_compare
theorem k_eqB (c : Cxt) : c.m.callee F_eqB := by
  obtain ⟨fd, F⟩ := c.S.def_ 58 (d := d94) rfl
  exact callee_no (m := c.m) (c := F_eqB) (ps := ["given", "due"]) F.kp (c.glo 98) (F.bindsN (fun _ _ _ _ _ _ us hl => match us, hl with | [_, _], _ => by kernel_rfl)) rfl (fun _ _ _ h => h) rfl
theorem k_eq_0 (c : Cxt) : c.m.callee (F_eq 0) := by
  obtain ⟨fd, F⟩ := c.S.def_ 58 (d := d94) rfl
  have q : c.m.callee (F_eqP 0) := k_eqB c
  exact callee_of (m := c.m) (c := F_eq 0) (lv := 0) (N := N__law_equal) (ps := ["given", "due"]) (dv := []) (ds := []) F (c.glo 98) (F.bindsN (fun _ _ _ _ _ _ us hl => match us, hl with | [_, _], _ => by kernel_rfl)) .nil (fun _ _ => .nil) (ir_eq (F_eqP 0)) c.bi rfl rfl (by decide +kernel) (by decide +kernel) (by
    simp only [ir_eq, Pd.okSs, Pd.okS, Pd.okE, Pd.okEs, Pd.okI, Pd.okO, true_and, and_true]
    repeat' apply And.intro
    all_goals exact q) (w_eq 0)
theorem k_eq_1 (c : Cxt) : c.m.callee (F_eq 1) := by
  obtain ⟨fd, F⟩ := c.S.def_ 58 (d := d94) rfl
  have q : c.m.callee (F_eqP 1) := k_eq_0 c
  exact callee_of (m := c.m) (c := F_eq 1) (lv := 1) (N := N__law_equal) (ps := ["given", "due"]) (dv := []) (ds := []) F (c.glo 98) (F.bindsN (fun _ _ _ _ _ _ us hl => match us, hl with | [_, _], _ => by kernel_rfl)) .nil (fun _ _ => .nil) (ir_eq (F_eqP 1)) c.bi rfl rfl (by decide +kernel) (by decide +kernel) (by
    simp only [ir_eq, Pd.okSs, Pd.okS, Pd.okE, Pd.okEs, Pd.okI, Pd.okO, true_and, and_true]
    repeat' apply And.intro
    all_goals exact q) (w_eq 1)
theorem k_eq_2 (c : Cxt) : c.m.callee (F_eq 2) := by
  obtain ⟨fd, F⟩ := c.S.def_ 58 (d := d94) rfl
  have q : c.m.callee (F_eqP 2) := k_eq_1 c
  exact callee_of (m := c.m) (c := F_eq 2) (lv := 2) (N := N__law_equal) (ps := ["given", "due"]) (dv := []) (ds := []) F (c.glo 98) (F.bindsN (fun _ _ _ _ _ _ us hl => match us, hl with | [_, _], _ => by kernel_rfl)) .nil (fun _ _ => .nil) (ir_eq (F_eqP 2)) c.bi rfl rfl (by decide +kernel) (by decide +kernel) (by
    simp only [ir_eq, Pd.okSs, Pd.okS, Pd.okE, Pd.okEs, Pd.okI, Pd.okO, true_and, and_true]
    repeat' apply And.intro
    all_goals exact q) (w_eq 2)
theorem k_eq_3 (c : Cxt) : c.m.callee (F_eq 3) := by
  obtain ⟨fd, F⟩ := c.S.def_ 58 (d := d94) rfl
  have q : c.m.callee (F_eqP 3) := k_eq_2 c
  exact callee_of (m := c.m) (c := F_eq 3) (lv := 3) (N := N__law_equal) (ps := ["given", "due"]) (dv := []) (ds := []) F (c.glo 98) (F.bindsN (fun _ _ _ _ _ _ us hl => match us, hl with | [_, _], _ => by kernel_rfl)) .nil (fun _ _ => .nil) (ir_eq (F_eqP 3)) c.bi rfl rfl (by decide +kernel) (by decide +kernel) (by
    simp only [ir_eq, Pd.okSs, Pd.okS, Pd.okE, Pd.okEs, Pd.okI, Pd.okO, true_and, and_true]
    repeat' apply And.intro
    all_goals exact q) (w_eq 3)
theorem k_eq_4 (c : Cxt) : c.m.callee (F_eq 4) := by
  obtain ⟨fd, F⟩ := c.S.def_ 58 (d := d94) rfl
  have q : c.m.callee (F_eqP 4) := k_eq_3 c
  exact callee_of (m := c.m) (c := F_eq 4) (lv := 4) (N := N__law_equal) (ps := ["given", "due"]) (dv := []) (ds := []) F (c.glo 98) (F.bindsN (fun _ _ _ _ _ _ us hl => match us, hl with | [_, _], _ => by kernel_rfl)) .nil (fun _ _ => .nil) (ir_eq (F_eqP 4)) c.bi rfl rfl (by decide +kernel) (by decide +kernel) (by
    simp only [ir_eq, Pd.okSs, Pd.okS, Pd.okE, Pd.okEs, Pd.okI, Pd.okO, true_and, and_true]
    repeat' apply And.intro
    all_goals exact q) (w_eq 4)
theorem k_eq_5 (c : Cxt) : c.m.callee (F_eq 5) := by
  obtain ⟨fd, F⟩ := c.S.def_ 58 (d := d94) rfl
  have q : c.m.callee (F_eqP 5) := k_eq_4 c
  exact callee_of (m := c.m) (c := F_eq 5) (lv := 5) (N := N__law_equal) (ps := ["given", "due"]) (dv := []) (ds := []) F (c.glo 98) (F.bindsN (fun _ _ _ _ _ _ us hl => match us, hl with | [_, _], _ => by kernel_rfl)) .nil (fun _ _ => .nil) (ir_eq (F_eqP 5)) c.bi rfl rfl (by decide +kernel) (by decide +kernel) (by
    simp only [ir_eq, Pd.okSs, Pd.okS, Pd.okE, Pd.okEs, Pd.okI, Pd.okO, true_and, and_true]
    repeat' apply And.intro
    all_goals exact q) (w_eq 5)
theorem k__law_equal (c : Cxt) : c.m.callee F__law_equal := k_eq_5 c
theorem k__law_mix (c : Cxt) : c.m.callee F__law_mix := by
  obtain ⟨fd, F⟩ := c.S.def_ 59 (d := d95) rfl
  exact callee_of (m := c.m) (c := F__law_mix) (lv := 0) (N := N__law_mix) (ps := ["number", "turn"]) (dv := []) (ds := []) F (c.glo 99) (F.bindsN (fun _ _ _ _ _ _ us hl => match us, hl with | [_, _], _ => by kernel_rfl)) .nil (fun _ _ => .nil) ir__law_mix c.bi rfl rfl (by decide +kernel) (by decide +kernel) (by
    simp only [ir__law_mix, Pd.okSs, Pd.okS, Pd.okE, Pd.okEs, Pd.okI, Pd.okO, true_and, and_true]) w__law_mix
theorem k__law_take (c : Cxt) : c.m.callee F__law_take := by
  obtain ⟨fd, F⟩ := c.S.def_ 60 (d := d96) rfl
  exact callee_fn (m := c.m) (c := F__law_take) (ps := ["store", "many"]) F.kp (c.glo 100) (F.bindsN (fun _ _ _ _ _ _ us hl => match us, hl with | [_, _], _ => by kernel_rfl)) rfl (take_ok (m := c.m) F c.bi (k__law_mix c) (by decide +kernel) (by decide +kernel))
theorem k_sto (c : Cxt) : Nonempty (StoAt c.m) := by
  obtain ⟨fd, F⟩ := c.S.def_ 62 (d := d98) rfl
  exact ⟨⟨_, fd, Pd.stor_ok (m := c.m) F c.bi (k__law_mix c) (by decide +kernel) (by decide +kernel), (c.glo 102), F.kp, F.bindsN (fun _ _ _ _ _ _ us hl => match us, hl with | [_], _ => by kernel_rfl)⟩⟩
theorem k__law_pick (c : Cxt) : c.m.callee F__law_pick := by
  obtain ⟨fd, F⟩ := c.S.def_ 61 (d := d97) rfl
  exact callee_of (m := c.m) (c := F__law_pick) (lv := 2) (N := N__law_pick) (ps := ["store", "things"]) (dv := []) (ds := []) F (c.glo 101) (F.bindsN (fun _ _ _ _ _ _ us hl => match us, hl with | [_, _], _ => by kernel_rfl)) .nil (fun _ _ => .nil) ir__law_pick c.bi rfl rfl (by decide +kernel) (by decide +kernel) (by
    simp only [ir__law_pick, Pd.okSs, Pd.okS, Pd.okE, Pd.okEs, Pd.okI, Pd.okO, true_and, and_true]
    repeat' apply And.intro
    all_goals first | trivial | exact k__law_take c) w__law_pick
theorem k__law_dim (c : Cxt) : c.m.callee F__law_dim := by
  obtain ⟨fd, F⟩ := c.S.def_ 63 (d := d99) rfl
  exact callee_of (m := c.m) (c := F__law_dim) (lv := 3) (N := N__law_dim) (ps := ["store", "most"]) (dv := []) (ds := []) F (c.glo 103) (F.bindsN (fun _ _ _ _ _ _ us hl => match us, hl with | [_, _], _ => by kernel_rfl)) .nil (fun _ _ => .nil) ir__law_dim c.bi rfl rfl (by decide +kernel) (by decide +kernel) (by
    simp only [ir__law_dim, Pd.okSs, Pd.okS, Pd.okE, Pd.okEs, Pd.okI, Pd.okO, true_and, and_true]
    repeat' apply And.intro
    all_goals first | trivial | exact k__law_pick c) w__law_dim
theorem k__law_span (c : Cxt) : c.m.callee F__law_span := by
  obtain ⟨fd, F⟩ := c.S.def_ 64 (d := d100) rfl
  exact callee_of (m := c.m) (c := F__law_span) (lv := 2) (N := N__law_span) (ps := ["store", "low", "high"]) (dv := []) (ds := []) F (c.glo 104) (F.bindsN (fun _ _ _ _ _ _ us hl => match us, hl with | [_, _, _], _ => by kernel_rfl)) .nil (fun _ _ => .nil) ir__law_span c.bi rfl rfl (by decide +kernel) (by decide +kernel) (by
    simp only [ir__law_span, Pd.okSs, Pd.okS, Pd.okE, Pd.okEs, Pd.okI, Pd.okO, true_and, and_true]
    repeat' apply And.intro
    all_goals first | trivial | exact k__law_take c) w__law_span
theorem k__law_some (c : Cxt) : c.m.callee F__law_some := by
  obtain ⟨fd, F⟩ := c.S.def_ 65 (d := d101) rfl
  exact callee_of (m := c.m) (c := F__law_some) (lv := 2) (N := N__law_some) (ps := ["store", "many", "count"]) (dv := []) (ds := []) F (c.glo 105) (F.bindsN (fun _ _ _ _ _ _ us hl => match us, hl with | [_, _, _], _ => by kernel_rfl)) .nil (fun _ _ => .nil) ir__law_some c.bi rfl rfl (by decide +kernel) (by decide +kernel) (by
    simp only [ir__law_some, Pd.okSs, Pd.okS, Pd.okE, Pd.okEs, Pd.okI, Pd.okO, true_and, and_true]
    repeat' apply And.intro
    all_goals first | trivial | exact k__law_take c) w__law_some
theorem k__law_dots (c : Cxt) : c.m.callee F__law_dots := by
  obtain ⟨fd, F⟩ := c.S.def_ 66 (d := d102) rfl
  exact callee_of (m := c.m) (c := F__law_dots) (lv := 3) (N := N__law_dots) (ps := ["store", "dim", "count", "heavy"]) (dv := []) (ds := []) F (c.glo 106) (F.bindsN (fun _ _ _ _ _ _ us hl => match us, hl with | [_, _, _, _], _ => by kernel_rfl)) .nil (fun _ _ => .nil) ir__law_dots c.bi rfl rfl (by decide +kernel) (by decide +kernel) (by
    simp only [ir__law_dots, Pd.okSs, Pd.okS, Pd.okE, Pd.okEs, Pd.okI, Pd.okO, true_and, and_true]
    repeat' apply And.intro
    all_goals first | trivial | exact k__law_pick c | exact k__law_some c | exact k__law_span c | exact k__law_take c) w__law_dots
theorem k__law_near_spot (c : Cxt) : c.m.callee F__law_near_spot := by
  obtain ⟨fd, F⟩ := c.S.def_ 67 (d := d103) rfl
  exact callee_of (m := c.m) (c := F__law_near_spot) (lv := 3) (N := N__law_near_spot) (ps := ["store", "points"]) (dv := []) (ds := []) F (c.glo 107) (F.bindsN (fun _ _ _ _ _ _ us hl => match us, hl with | [_, _], _ => by kernel_rfl)) .nil (fun _ _ => .nil) ir__law_near_spot c.bi rfl rfl (by decide +kernel) (by decide +kernel) (by
    simp only [ir__law_near_spot, Pd.okSs, Pd.okS, Pd.okE, Pd.okEs, Pd.okI, Pd.okO, true_and, and_true]
    repeat' apply And.intro
    all_goals first | trivial | exact k__law_lowest c | exact k__law_pick c | exact k__law_span c | exact k__law_take c) w__law_near_spot
theorem k__law_some_spot (c : Cxt) : c.m.callee F__law_some_spot := by
  obtain ⟨fd, F⟩ := c.S.def_ 68 (d := d104) rfl
  exact callee_of (m := c.m) (c := F__law_some_spot) (lv := 3) (N := N__law_some_spot) (ps := ["store", "points"]) (dv := []) (ds := []) F (c.glo 108) (F.bindsN (fun _ _ _ _ _ _ us hl => match us, hl with | [_, _], _ => by kernel_rfl)) .nil (fun _ _ => .nil) ir__law_some_spot c.bi rfl rfl (by decide +kernel) (by decide +kernel) (by
    simp only [ir__law_some_spot, Pd.okSs, Pd.okS, Pd.okE, Pd.okEs, Pd.okI, Pd.okO, true_and, and_true]
    repeat' apply And.intro
    all_goals first | trivial | exact k__law_lowest c | exact k__law_pick c | exact k__law_span c | exact k__law_take c) w__law_some_spot
theorem k__law_call (c : Cxt) : c.m.callee F__law_call := by
  have e := c.E
  unfold ex ex1 at e
  simp only [Bool.and_eq_true] at e
  obtain ⟨fd, F⟩ := c.S.def_ 69 (d := d105) rfl
  obtain ⟨kd⟩ := k_kd c
  have M : HdM c.m msK hsK := hdM_of e.2.2 (by decide +kernel) (by
    intro h hh
    simp only [hsK, List.mem_cons, List.not_mem_nil, or_false] at hh
    rcases hh with rfl | rfl
    · exact (c.glo 27)
    · exact (c.glo 1))
  exact callee_fn (m := c.m) (c := F__law_call) (ps := ["name", "book", "spots", "counts"]) F.kp (c.glo 109) (F.bindsN (fun _ _ _ _ _ _ us hl => match us, hl with | [_, _, _, _], _ => by kernel_rfl)) rfl (catch_ok (m := c.m) (lv := 7) (i := 4) (N := N__law_call) F ir__law_call sp__law_call M kd c.bi (by decide +kernel) (by decide +kernel) (by
    simp only [ir__law_call, Pd.okSs, Pd.okS, Pd.okE, Pd.okEs, Pd.okI, Pd.okO, true_and, and_true]
    repeat' apply And.intro
    all_goals first | trivial | exact k_demand c | exact k_least_total c | exact k_mean_spot c | exact k_spread c | exact k_total_price c | exact k_totals c) w__law_call)
theorem k__law_sums (c : Cxt) : c.m.callee F__law_sums := by
  obtain ⟨fd, F⟩ := c.S.def_ 70 (d := d106) rfl
  exact callee_of (m := c.m) (c := F__law_sums) (lv := 2) (N := N__law_sums) (ps := ["points", "spots", "counts"]) (dv := []) (ds := []) F (c.glo 110) (F.bindsN (fun _ _ _ _ _ _ us hl => match us, hl with | [_, _, _], _ => by kernel_rfl)) .nil (fun _ _ => .nil) ir__law_sums c.bi rfl rfl (by decide +kernel) (by decide +kernel) (by
    simp only [ir__law_sums, Pd.okSs, Pd.okS, Pd.okE, Pd.okEs, Pd.okI, Pd.okO, true_and, and_true]
    repeat' apply And.intro
    all_goals first | trivial | exact k__law_costs c | exact k__law_lowest c | exact k__law_plus c) w__law_sums
theorem k__law_middle_of (c : Cxt) : c.m.callee F__law_middle_of := by
  obtain ⟨fd, F⟩ := c.S.def_ 71 (d := d107) rfl
  exact callee_of (m := c.m) (c := F__law_middle_of) (lv := 2) (N := N__law_middle_of) (ps := ["spots", "counts"]) (dv := []) (ds := []) F (c.glo 111) (F.bindsN (fun _ _ _ _ _ _ us hl => match us, hl with | [_, _], _ => by kernel_rfl)) .nil (fun _ _ => .nil) ir__law_middle_of c.bi rfl rfl (by decide +kernel) (by decide +kernel) (by
    simp only [ir__law_middle_of, Pd.okSs, Pd.okS, Pd.okE, Pd.okEs, Pd.okI, Pd.okO, true_and, and_true]
    repeat' apply And.intro
    all_goals first | trivial | exact k__law_lowest c | exact k__law_plus c) w__law_middle_of
theorem k__law_demand (c : Cxt) : c.m.callee F__law_demand := by
  obtain ⟨fd, F⟩ := c.S.def_ 72 (d := d108) rfl
  exact callee_of (m := c.m) (c := F__law_demand) (lv := 1) (N := N__law_demand) (ps := ["points", "spots", "counts"]) (dv := []) (ds := []) F (c.glo 112) (F.bindsN (fun _ _ _ _ _ _ us hl => match us, hl with | [_, _, _], _ => by kernel_rfl)) .nil (fun _ _ => .nil) ir__law_demand c.bi rfl rfl (by decide +kernel) (by decide +kernel) (by
    simp only [ir__law_demand, Pd.okSs, Pd.okS, Pd.okE, Pd.okEs, Pd.okI, Pd.okO, true_and, and_true]
    repeat' apply And.intro
    all_goals first | trivial | exact k__law_costs c | exact k__law_least c) w__law_demand
theorem k__law_served (c : Cxt) : c.m.callee F__law_served := by
  obtain ⟨fd, F⟩ := c.S.def_ 73 (d := d109) rfl
  exact callee_of (m := c.m) (c := F__law_served) (lv := 8) (N := N__law_served) (ps := ["points", "book", "spots", "counts"]) (dv := []) (ds := []) F (c.glo 113) (F.bindsN (fun _ _ _ _ _ _ us hl => match us, hl with | [_, _, _, _], _ => by kernel_rfl)) .nil (fun _ _ => .nil) ir__law_served c.bi rfl rfl (by decide +kernel) (by decide +kernel) (by
    simp only [ir__law_served, Pd.okSs, Pd.okS, Pd.okE, Pd.okEs, Pd.okI, Pd.okO, true_and, and_true]
    repeat' apply And.intro
    all_goals first | trivial | exact k__law_call c | exact k__law_compare c | exact k__law_costs c | exact k__law_demand c | exact k__law_equal c | exact k__law_least c | exact k__law_lowest c | exact k__law_middle_of c | exact k__law_plus c | exact k__law_sums c | exact k_cheapest c | exact k_price c) w__law_served
theorem k__law_refuses (c : Cxt) : c.m.callee F__law_refuses := by
  obtain ⟨fd, F⟩ := c.S.def_ 74 (d := d110) rfl
  exact callee_of (m := c.m) (c := F__law_refuses) (lv := 8) (N := N__law_refuses) (ps := ["store", "points", "book", "spots", "counts", "some"]) (dv := []) (ds := []) F (c.glo 114) (F.bindsN (fun _ _ _ _ _ _ us hl => match us, hl with | [_, _, _, _, _, _], _ => by kernel_rfl)) .nil (fun _ _ => .nil) ir__law_refuses c.bi rfl rfl (by decide +kernel) (by decide +kernel) (by
    simp only [ir__law_refuses, Pd.okSs, Pd.okS, Pd.okE, Pd.okEs, Pd.okI, Pd.okO, true_and, and_true]
    repeat' apply And.intro
    all_goals first | trivial | exact k__law_call c | exact k__law_equal c | exact k__law_pick c | exact k__law_take c) w__law_refuses
theorem k_law (c : Cxt) : ∃ fd : FuncData, FunD c.K "law" "law" d111.params d111.body d111.scope [] [] (He.ga c.K "law") fd ∧ FnOk c.m.prog c.w c.K c.mg c.base (L2N.CX c.m.prog c.w) 10 (He.ga c.K "law") fd ["script"] (spLaw c.K) := by
  obtain ⟨fd, F⟩ := c.S.def_ 75 (d := d111) rfl
  obtain ⟨sto⟩ := k_sto c
  exact ⟨fd, F, law_ok (m := c.m) (lv := 9) (N := N_law) F sto ir_law c.bi (by decide +kernel) (by decide +kernel) (by
    simp only [ir_law, lwB, lwBb, lwC, lwC2, lwC3, lwC4, lwC5, Pd.okSs, Pd.okS, Pd.okE, Pd.okEs, Pd.okI, Pd.okO, true_and, and_true]
    repeat' apply And.intro
    all_goals first | trivial | exact k_M_Book c | exact k__law_call c | exact k__law_dim c | exact k__law_dots c | exact k__law_equal c | exact k__law_middle_of c | exact k__law_near_spot c | exact k__law_pick c | exact k__law_refuses c | exact k__law_served c | exact k__law_some_spot c | exact k__law_store c | exact k__law_sums c | exact k__law_take c) fun P hp => w_law hp⟩
end K84
end
section
set_option Elab.async false
set_option linter.all false
set_option maxRecDepth 100000
set_option maxHeartbeats 0
namespace K84
open PySem PySem.Spec PyProof.Rows L2 Pd
theorem last {w : World} {mg : Str → Option Value} {f : Addr} {h : Heap} (Y : hk.says w h) (G : h.Ns mainGlobals mg) (hmg : mg ("law" : Str) = some (.ref f)) :
    ∃ (K : PySem.W.Frag) (fd : FuncData) (sp : Sp), K.In h ∧ (∀ (s : Shared) (u : Value), BindsTo s fd ⟨[u], []⟩ [("script", u)]) ∧
      (∀ (H : Hp) (a : Addr) (ns : List Int), ns.length ≤ 63 → Only H → SqL K H a (ns.map V.int) → sp [.ref a] H (fun v _ => v = .bl true) fun _ _ _ => False) ∧
      ∀ base : Heap, K.In base → base.Ns mainGlobals mg → FnOk PySem.Challenge.pw_nearerhop_k84_companies w K mg base AnyCX 10 f fd ["script"] sp := by
  obtain ⟨K, X, S, E⟩ := Y
  have e := hmg.symm.trans (He.glo_ok X G (S.fact 115 (f := .glo "law") rfl))
  cases e
  obtain ⟨fd, F, _⟩ := k_law ⟨w, K, mg, h, h, X, G, S, E⟩
  have b := FunD.bindsA (ps := ["script"]) F fun _ _ _ _ _ _ us hl => match us, hl with | [_], _ => by kernel_rfl
  refine ⟨K, fd, spLaw K, X, fun s u => b s [u] rfl, fun H a ns hl _ hS => ⟨a, ns, rfl, hS, by omega, fun _ => rfl⟩, fun base _ _ => ?_⟩
  obtain ⟨fd', F', q⟩ := k_law ⟨w, K, mg, h, base, X, G, S, E⟩
  have : fd' = fd := Pd.same_fd F' F
  rw [← this]
  exact fn_cx q fun _ _ _ _ _ _ z => ⟨_, _, z⟩
end K84
open PySem PySem.W PySem.Calls PyProof.Rows
theorem PySem.Challenge.cw_nearerhop_k84_companies_holds : PySem.Challenge.rw_nearerhop_k84_companies.Holds := by
  refine K84.close ?_
  refine L2.walk_ofE (l := PySem.Challenge.rw_nearerhop_k84_companies) (n := 63) (k := 10) (x := "script") (CX := Pd.AnyCX) rfl (by decide) K84.law_plain ⟨rfl, by decide, by decide⟩ ?F Pd.anyCX_no
  intro w mg fa h Y G hmg0
  rw [K84.law_name] at hmg0
  exact K84.last Y G hmg0
end
