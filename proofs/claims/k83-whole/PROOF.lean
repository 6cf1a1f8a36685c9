import PyProof.Rows.All
import Wide.All
import OpenK.AllK
import Wide.FinOn
import Wide.Once
import KE.KStateDown
import HandS.ForMost
import HandS.Exc
import HandS.ExcOwn
import HandS.TryOnly
import HandS.TryMany
import HandS.WordsExc
import HandS.ExcInit
import HandS.ExcField
import HandS.Small
import HandS.IsInst
import HandS.Property
import HandS.Defaults
import HandS.Star
import HandS.CallLocal
import HandS.More
import HandS.Conv
import HandS.TupAny
import HandS.NoneIn
import HandS.FStr
import HandS.OwnEq
import HandS.SortInts
import HandS.GenList
import HandS.Nested
import HandS.ExcSuper
import HandS.MethStar
import HandS.SetFor
import HandS.GenCall
import HandS.Set
import HandS.RevTup
import HandS.Style
import HandS.Flow
import HandS.Codes
import HandS.AnyAll
import HandS.RaiseMore
import HandS.MakeKwOnly
import HandS.CallSlots
import KE.KSuper
import KE.KExcSuper
import HandS.Head0
import HandS.Head1
import HandS.Head2
import HandS.HeadEnd
import HandS.HeadHook1
import HandS.HeadHook2
import HandS.HeadHook3
import PyProof.EnumMake
import KE.GoesMore
import PyProof.MaxThree
import KE.KRevSl
import PyProof.ReprRoads
import PyProof.StrBlockL
import PyProof.StrLawsRepr
import PySem.Challenge.RW_twobricks_k83_whole_yards_like_new_ones
set_option Elab.async false
set_option linter.all false
set_option maxRecDepth 100000
set_option maxHeartbeats 4000000
namespace Yk
open PySem PySem.Spec PyProof.Rows L2
/-! ### the text by places -/
def top (i : Nat) : Stmt := PySem.Challenge.pw_twobricks_k83_whole_yards_like_new_ones.main.body.getD i (.Pass ⟨0, 0, 0, 0⟩)
abbrev KF := PySem.W.Frag

abbrev s_is_integer : Stmt := top 22
abbrev s_sides_error : Stmt := top 23
abbrev s_kinds_error : Stmt := top 24
abbrev s_pair_error : Stmt := top 25
abbrev s_box_error : Stmt := top 26
abbrev s_with_side : Stmt := top 27
abbrev s_common : Stmt := top 29
abbrev s_inverse : Stmt := top 30
abbrev s_least_times : Stmt := top 31
abbrev s_rests : Stmt := top 37
abbrev s_bar_along : Stmt := top 38
abbrev s_crossing : Stmt := top 39
abbrev s_paper : Stmt := top 40
abbrev s_is_filled : Stmt := top 42
abbrev s_sides_text : Stmt := top 44
abbrev s_kinds_text : Stmt := top 45
abbrev s_require_axis : Stmt := top 50
abbrev s_require_side : Stmt := top 51
abbrev s_put_side : Stmt := top 52
abbrev s_put_brick : Stmt := top 53
abbrev s_swapped : Stmt := top 54
abbrev s_is_order : Stmt := top 55
abbrev s_turned : Stmt := top 56
abbrev s_stretched : Stmt := top 57
abbrev s_more : Stmt := top 58
abbrev s_is_edit : Stmt := top 61
abbrev s_law_deck : Stmt := top 65
abbrev s_law_draw : Stmt := top 66
abbrev s_law_one : Stmt := top 67
abbrev s_law_mixed : Stmt := top 68
abbrev s_law_divisor : Stmt := top 69
abbrev s_law_odd : Stmt := top 70
abbrev s_law_bent : Stmt := top 71
abbrev s_law_whole : Stmt := top 72
abbrev s_law_sides : Stmt := top 73
abbrev s_law_pair : Stmt := top 74
abbrev s_law_lcm : Stmt := top 75
abbrev s_law_cut_box : Stmt := top 76
abbrev s_law_plain_box : Stmt := top 77
abbrev s_law_with : Stmt := top 78
abbrev s_law_page_after : Stmt := top 79
abbrev s_law_turned_page : Stmt := top 80
abbrev s_law_more_page : Stmt := top 81
abbrev s_law_edit : Stmt := top 82
abbrev s_law_do : Stmt := top 83
abbrev s_law_done : Stmt := top 84
abbrev s_law_shows : Stmt := top 85
abbrev s_law_says : Stmt := top 86
abbrev s_law_is_small : Stmt := top 87
abbrev s_law_due : Stmt := top 88
abbrev s_law_small_edit : Stmt := top 89
abbrev s_law_start : Stmt := top 90
abbrev s_law_worked : Stmt := top 91
abbrev s_law : Stmt := top 92
abbrev s_BadBox_init : Stmt := inClass (top 8) 0
abbrev s_BadKinds_init : Stmt := inClass (top 9) 0
abbrev s_BadOrder_init : Stmt := inClass (top 10) 0
abbrev s_BadSide_init : Stmt := inClass (top 11) 0
abbrev s_NoAxis_init : Stmt := inClass (top 13) 0
abbrev s_NoKind_init : Stmt := inClass (top 14) 0
abbrev s_NoVersion_init : Stmt := inClass (top 15) 0
abbrev s_NotFilled_init : Stmt := inClass (top 16) 0
abbrev s_Rejected_init : Stmt := inClass (top 18) 0
abbrev s_TooLarge_init : Stmt := inClass (top 19) 0
abbrev s_Yard_init : Stmt := inClass (top 62) 1
abbrev s_Yard_stand : Stmt := inClass (top 62) 2
abbrev s_Yard_pair : Stmt := inClass (top 62) 3
abbrev s_Yard_box : Stmt := inClass (top 62) 4
abbrev s_Yard_version : Stmt := inClass (top 62) 5
abbrev s_Yard_news : Stmt := inClass (top 62) 6
abbrev s_Yard_paper : Stmt := inClass (top 62) 7
abbrev s_Yard_judge : Stmt := inClass (top 62) 8
abbrev s_Yard_require_free : Stmt := inClass (top 62) 9
abbrev s_Yard_tell : Stmt := inClass (top 62) 10
abbrev s_Yard_do : Stmt := inClass (top 62) 11
abbrev s_Yard_edit : Stmt := inClass (top 62) 12
abbrev s_Yard_side : Stmt := inClass (top 62) 13
abbrev s_Yard_brick : Stmt := inClass (top 62) 14
abbrev s_Yard_swap : Stmt := inClass (top 62) 15
abbrev s_Yard_turn : Stmt := inClass (top 62) 16
abbrev s_Yard_stretch : Stmt := inClass (top 62) 17
abbrev s_Yard_undo : Stmt := inClass (top 62) 18
abbrev s_Yard_attempt : Stmt := inClass (top 62) 19
abbrev s_Yard_do_all : Stmt := inClass (top 62) 20
abbrev s_Yard_state_at : Stmt := inClass (top 62) 21
abbrev s_Yard_each_version : Stmt := inClass (top 62) 22
abbrev s_Yard_fresh : Stmt := inClass (top 62) 23
abbrev s_Yard_copy : Stmt := inClass (top 62) 24
abbrev s_Yard_getitem : Stmt := inClass (top 62) 25
abbrev s_Yard_setitem : Stmt := inClass (top 62) 26
abbrev s_Yard_iadd : Stmt := inClass (top 62) 27
abbrev s_Yard_len : Stmt := inClass (top 62) 28
abbrev s_Yard_bool : Stmt := inClass (top 62) 29
abbrev s_Yard_iter : Stmt := inClass (top 62) 30
abbrev s_Yard_str : Stmt := inClass (top 62) 31
abbrev s_Yard_eq : Stmt := inClass (top 62) 32
abbrev s_FullYard_init : Stmt := inClass (top 63) 1
abbrev s_FullYard_of : Stmt := inClass (top 63) 2
abbrev s_FullYard_cut : Stmt := inClass (top 63) 3
abbrev s_FullYard_fresh : Stmt := inClass (top 63) 4
abbrev s_FullYard_judge : Stmt := inClass (top 63) 5
/-! ### addresses in the written part -/
def pget (K : KF) (p : Addr) : Addr := match PySem.W.recIn K p "property" with
  | some (.ref g :: _) => g
  | _ => 0
def aG (x : Str) (K : KF) : Addr := He.ga K x
def aM (c x : Str) (K : KF) : Addr := He.ma K (He.ga K c) x
def aP (c x : Str) (K : KF) : Addr := pget K (He.ma K (He.ga K c) x)
/-- a def of the text: where its object is, its names, its statement, its keyword-only defaults, the class that its cell names -/
structure DX where
  ad : KF → Addr
  name : Str
  qual : Str
  st : Stmt
  kwd : List (Str × V) := []
  clo : Option Str := none
abbrev FV : Type := Option (Str × Str × Arguments × FuncBody × Scope × Addr × Addr)
def fnV (K : KF) (a : Addr) : FV := match K.lookup a with
  | some ⟨_, _, .func fd, _⟩ => some (fd.name, fd.qualname, fd.params, fd.body, fd.scope, fd.globals, fd.builtins)
  | _ => none
def DX.val (d : DX) : FV := some (d.name, d.qual, defArgs d.st, .stmts (defBody d.st), defScope d.st, mainGlobals, builtinsNs)
def theFile : Str := PySem.Challenge.pw_twobricks_k83_whole_yards_like_new_ones.main.file
/-- the cell of __class__, the code's file: for defs that say super() -/
def cellB (K : KF) (fd : FuncData) (c : Str) : Bool := match fd.closure with
  | [(n, cc)] => decide (n = "__class__") && ((match K.lookup cc with
    | some ⟨_, _, .cell (some (.ref D)), _⟩ => D == He.ga K c
    | _ => false) && (match fd.code with
    | .ref cda => (match K.lookup cda with
      | some ⟨_, _, .fields vs, _⟩ => (match (vs[2]? : Option Value) with
        | some (.str f _) => decide (f = theFile)
        | _ => false)
      | _ => false)
    | _ => false))
  | _ => false
def DX.ok (K : KF) (d : DX) : Bool := PySem.W.keepIn K (.ref (d.ad K)) && (match K.lookup (d.ad K) with
  | some ⟨_, _, .func fd, _⟩ => PySem.W.codeIn K fd.code d.qual && ((He.dflB K fd.defaults [] && He.kwdB K fd.kwdefaults d.kwd) && (match d.clo with
    | none => fd.closure.isEmpty
    | some c => cellB K fd c))
  | _ => false)

/-- a def that says super(): its object, its cell, its code's file -/
structure SupD (K : KF) (x qual : Str) (params : Arguments) (body : List Stmt) (scope : Scope) (f cc cda D : Addr) (fd : FuncData) : Prop where
  ex : ∃ (oc : Value) (od : Option Addr) (kV doc pm : Value) (an : Option Addr) (ct : Value) (osl : Array (Option Value)),
    fd = PySem.W.ksFn x qual params body scope .none kV doc pm an (.ref cda) ct cc ∧ K.lookup f = some ⟨oc, od, .func fd, osl⟩
  code : PySem.W.codeIn K (.ref cda) qual = true
  file : ∃ (ccl : Value) (cdd : Option Addr) (vs : Array Value) (ccs : Array (Option Value)) (tf : Tok), K.lookup cda = some ⟨ccl, cdd, .fields vs, ccs⟩ ∧ vs[2]? = some (.str theFile tf)
  cell : ∃ (cl : Value) (cld : Option Addr) (csl : Array (Option Value)), K.lookup cc = some ⟨cl, cld, .cell (some (.ref D)), csl⟩
  kp : PySem.W.keepIn K (.ref f) = true
theorem DX.sup_ {K : KF} {d : DX} {cn : Str} (e : fnV K (d.ad K) = d.val) (c : d.ok K = true) (hc : d.clo = some cn) : ∃ cc cda fd, SupD K d.name d.qual (defArgs d.st) (defBody d.st) (defScope d.st) (d.ad K) cc cda (He.ga K cn) fd := by
  obtain ⟨kp, c2⟩ := He.ba c
  unfold fnV at e
  cases q : K.lookup (d.ad K) with
  | none => rw [q] at c2; cases c2
  | some o =>
    obtain ⟨oc, od, dt, osl⟩ := o
    rw [q] at c2 e
    cases dt with
    | func fd =>
      obtain ⟨n1, n2, n3, n4, n5, n6, n7, n8, n9, n10, n11, n12, n13, n14, n15⟩ := fd
      have e2 : (some (n1, n2, n3, n4, n5, n6, n15) : FV) = some (d.name, d.qual, defArgs d.st, .stmts (defBody d.st), defScope d.st, mainGlobals, builtinsNs) := e
      simp only [Option.some.injEq, Prod.mk.injEq] at e2
      obtain ⟨rfl, rfl, rfl, rfl, rfl, rfl, rfl⟩ := e2
      obtain ⟨k1, k2⟩ := He.ba (show (PySem.W.codeIn K n13 d.qual && ((He.dflB K n8 [] && He.kwdB K n9 d.kwd) && (match d.clo with
        | none => n7.isEmpty
        | some c => cellB K _ c))) = true from c2)
      obtain ⟨k3, k4⟩ := He.ba k2
      obtain ⟨k5, k6⟩ := He.ba k3
      rw [hc] at k4
      have hd : n8 = .none := by
        rcases He.dflB_ok k5 with ⟨_, z⟩ | ⟨z, _⟩
        · exact z
        · exact absurd rfl z
      subst hd
      unfold cellB at k4
      dsimp only at k4
      split at k4
      · rename_i n cc
        obtain ⟨j1, j2⟩ := He.ba k4
        obtain ⟨j3, j4⟩ := He.ba j2
        have hn : n = "__class__" := of_decide_eq_true j1
        subst hn
        split at j3
        · rename_i cl cld D csl hcl
          have hD : D = He.ga K cn := beq_iff_eq.mp j3
          subst hD
          split at j4
          · rename_i cda
            split at j4
            · rename_i ccl cdd vs ccs hcd
              split at j4
              · rename_i f tf hvs
                have hf : f = theFile := of_decide_eq_true j4
                subst hf
                exact ⟨cc, cda, _, ⟨⟨oc, od, n9, n10, n11, n12, n14, osl, rfl, q⟩, k1, ⟨ccl, cdd, vs, ccs, tf, hcd, hvs⟩, ⟨cl, cld, csl, hcl⟩, kp⟩⟩
              · cases j4
            · cases j4
          · cases j4
        · cases j3
      · cases k4
    | _ => cases c2

theorem DX.fun_ {K : KF} {d : DX} (e : fnV K (d.ad K) = d.val) (c : d.ok K = true) (hc : d.clo = none) : ∃ fd, FunD K d.name d.qual (defArgs d.st) (defBody d.st) (defScope d.st) [] d.kwd (d.ad K) fd := by
  obtain ⟨kp, c2⟩ := He.ba c
  unfold fnV at e
  cases q : K.lookup (d.ad K) with
  | none => rw [q] at c2; cases c2
  | some o =>
    obtain ⟨oc, od, dt, osl⟩ := o
    rw [q] at c2 e
    cases dt with
    | func fd =>
      obtain ⟨n1, n2, n3, n4, n5, n6, n7, n8, n9, n10, n11, n12, n13, n14, n15⟩ := fd
      have e2 : (some (n1, n2, n3, n4, n5, n6, n15) : FV) = some (d.name, d.qual, defArgs d.st, .stmts (defBody d.st), defScope d.st, mainGlobals, builtinsNs) := e
      simp only [Option.some.injEq, Prod.mk.injEq] at e2
      obtain ⟨rfl, rfl, rfl, rfl, rfl, rfl, rfl⟩ := e2
      obtain ⟨k1, k2⟩ := He.ba (show (PySem.W.codeIn K n13 d.qual && ((He.dflB K n8 [] && He.kwdB K n9 d.kwd) && (match d.clo with
        | none => n7.isEmpty
        | some c => cellB K _ c))) = true from c2)
      obtain ⟨k3, k4⟩ := He.ba k2
      obtain ⟨k5, k6⟩ := He.ba k3
      rw [hc] at k4
      have k7 : n7 = [] := List.isEmpty_iff.mp k4
      subst k7
      exact ⟨_, ⟨oc, od, n8, n9, n10, n11, n12, n13, n14, osl, rfl, q, k1, He.dflB_ok k5, He.kwdB_ok k6⟩, kp⟩
    | _ => cases c2
/-! ### facts as tests of the written part -/
def propB (K : KF) (C : Addr) (f : Str) : Bool := match PySem.W.findIn K (.ref C) f with
  | some (some (.ref p)) => decide (p = He.ma K C f) && (He.eqO (PySem.W.specialIn K (.ref p) "__get__") (some (some (.builtin "property.__get__"))) && (decide (PySem.W.takesIn K (.ref p) = some true) && (match PySem.W.recIn K p "property" with
    | some (.ref _ :: _) => true
    | _ => false)))
  | _ => false
theorem propB_ok {K : KF} {C : Addr} {f : Str} (h : propB K C f = true) : PropOf K C f (He.ma K C f) (pget K (He.ma K C f)) := by
  unfold propB at h
  split at h
  · rename_i p hp
    obtain ⟨h1, h⟩ := He.ba h
    obtain ⟨h2, h⟩ := He.ba h
    obtain ⟨h3, h4⟩ := He.ba h
    have e := of_decide_eq_true h1
    rw [← e]
    refine ⟨hp, He.eqO_ok h2, of_decide_eq_true h3, ?_⟩
    unfold pget
    split at h4
    · rename_i g r hr
      rw [hr]
      exact ⟨r, rfl⟩
    · cases h4
  · cases h
def oexB (K : KF) (C : Addr) : Bool := (match K.lookup C with
  | some ⟨.type "type", _, .cls cd, sl⟩ => (match cd.mro, sl.toList with
    | .ref c0 :: bm, [_, _, _, _, some (.builtin n), _] => decide (c0 = C) && (decide (n = "ValueError.__new__") && (!cd.hasDel && (cd.hasDict && PySem.HandSPX.refsVE bm)))
    | _, _ => false)
  | _ => false) && (He.eqO (PySem.W.findIn K (.ref C) "__setattr__") (some (some (.builtin "object.__setattr__"))) && (decide (PySem.W.subIn K (.ref C) (.type "BaseException") = some true) && (decide (PySem.W.typeIn K (.ref C) = some (.type "type")) && PySem.W.keepIn K (.ref C))))
theorem oexB_ok {K : KF} {C : Addr} (h : oexB K C = true) : OexC K C := by
  obtain ⟨h1, h⟩ := He.ba h
  obtain ⟨h2, h⟩ := He.ba h
  obtain ⟨h3, h⟩ := He.ba h
  obtain ⟨h4, h5⟩ := He.ba h
  refine ⟨?_, He.eqO_ok h2, of_decide_eq_true h3, of_decide_eq_true h4, h5⟩
  split at h1
  · rename_i dd cd sl ho
    split at h1
    · rename_i c0 bm k0 k1 k2 k3 n k5 hm hs
      obtain ⟨a1, h1⟩ := He.ba h1
      obtain ⟨a2, h1⟩ := He.ba h1
      obtain ⟨a3, h1⟩ := He.ba h1
      obtain ⟨a4, a5⟩ := He.ba h1
      obtain ⟨nm, bs, mro, ns, qn, hd, sn, sub, ab, col, del⟩ := cd
      dsimp only at hm a3 a4
      have b1 := of_decide_eq_true a1
      have b2 := of_decide_eq_true a2
      have b3 : del = false := by simpa using a3
      subst hm b1 b2 b3 a4
      have hsl : sl = #[k0, k1, k2, k3, some (.builtin "ValueError.__new__"), k5] := by
        obtain ⟨l⟩ := sl
        simp only at hs
        rw [hs]
      subst hsl
      exact ⟨nm, qn, ns, bs, bm, sn, sub, ab, col, dd, k0, k1, k2, k3, k5, ho, a5⟩
    · cases h1
  · cases h1

def d_is_integer : DX := ⟨aG "is_integer", "is_integer", "is_integer", s_is_integer, [], none⟩
def d_sides_error : DX := ⟨aG "sides_error", "sides_error", "sides_error", s_sides_error, [], none⟩
def d_kinds_error : DX := ⟨aG "kinds_error", "kinds_error", "kinds_error", s_kinds_error, [], none⟩
def d_pair_error : DX := ⟨aG "pair_error", "pair_error", "pair_error", s_pair_error, [], none⟩
def d_box_error : DX := ⟨aG "box_error", "box_error", "box_error", s_box_error, [], none⟩
def d_with_side : DX := ⟨aG "with_side", "with_side", "with_side", s_with_side, [], none⟩
def d_common : DX := ⟨aG "common", "common", "common", s_common, [], none⟩
def d_inverse : DX := ⟨aG "inverse", "inverse", "inverse", s_inverse, [], none⟩
def d_least_times : DX := ⟨aG "least_times", "least_times", "least_times", s_least_times, [], none⟩
def d_rests : DX := ⟨aG "rests", "rests", "rests", s_rests, [], none⟩
def d_bar_along : DX := ⟨aG "bar_along", "bar_along", "bar_along", s_bar_along, [], none⟩
def d_crossing : DX := ⟨aG "crossing", "crossing", "crossing", s_crossing, [], none⟩
def d_paper : DX := ⟨aG "paper", "paper", "paper", s_paper, [], none⟩
def d_is_filled : DX := ⟨aG "is_filled", "is_filled", "is_filled", s_is_filled, [], none⟩
def d_sides_text : DX := ⟨aG "sides_text", "sides_text", "sides_text", s_sides_text, [], none⟩
def d_kinds_text : DX := ⟨aG "kinds_text", "kinds_text", "kinds_text", s_kinds_text, [], none⟩
def d_require_axis : DX := ⟨aG "require_axis", "require_axis", "require_axis", s_require_axis, [], none⟩
def d_require_side : DX := ⟨aG "require_side", "require_side", "require_side", s_require_side, [], none⟩
def d_put_side : DX := ⟨aG "put_side", "put_side", "put_side", s_put_side, [], none⟩
def d_put_brick : DX := ⟨aG "put_brick", "put_brick", "put_brick", s_put_brick, [], none⟩
def d_swapped : DX := ⟨aG "swapped", "swapped", "swapped", s_swapped, [], none⟩
def d_is_order : DX := ⟨aG "is_order", "is_order", "is_order", s_is_order, [], none⟩
def d_turned : DX := ⟨aG "turned", "turned", "turned", s_turned, [], none⟩
def d_stretched : DX := ⟨aG "stretched", "stretched", "stretched", s_stretched, [], none⟩
def d_more : DX := ⟨aG "more", "more", "more", s_more, [], none⟩
def d_law_deck : DX := ⟨aG "_law_deck", "_law_deck", "_law_deck", s_law_deck, [], none⟩
def d_law_draw : DX := ⟨aG "_law_draw", "_law_draw", "_law_draw", s_law_draw, [], none⟩
def d_law_one : DX := ⟨aG "_law_one", "_law_one", "_law_one", s_law_one, [], none⟩
def d_law_mixed : DX := ⟨aG "_law_mixed", "_law_mixed", "_law_mixed", s_law_mixed, [], none⟩
def d_law_divisor : DX := ⟨aG "_law_divisor", "_law_divisor", "_law_divisor", s_law_divisor, [], none⟩
def d_law_odd : DX := ⟨aG "_law_odd", "_law_odd", "_law_odd", s_law_odd, [], none⟩
def d_law_bent : DX := ⟨aG "_law_bent", "_law_bent", "_law_bent", s_law_bent, [], none⟩
def d_law_whole : DX := ⟨aG "_law_whole", "_law_whole", "_law_whole", s_law_whole, [], none⟩
def d_law_sides : DX := ⟨aG "_law_sides", "_law_sides", "_law_sides", s_law_sides, [], none⟩
def d_law_pair : DX := ⟨aG "_law_pair", "_law_pair", "_law_pair", s_law_pair, [], none⟩
def d_law_lcm : DX := ⟨aG "_law_lcm", "_law_lcm", "_law_lcm", s_law_lcm, [], none⟩
def d_law_cut_box : DX := ⟨aG "_law_cut_box", "_law_cut_box", "_law_cut_box", s_law_cut_box, [], none⟩
def d_law_plain_box : DX := ⟨aG "_law_plain_box", "_law_plain_box", "_law_plain_box", s_law_plain_box, [], none⟩
def d_law_with : DX := ⟨aG "_law_with", "_law_with", "_law_with", s_law_with, [], none⟩
def d_law_page_after : DX := ⟨aG "_law_page_after", "_law_page_after", "_law_page_after", s_law_page_after, [], none⟩
def d_law_turned_page : DX := ⟨aG "_law_turned_page", "_law_turned_page", "_law_turned_page", s_law_turned_page, [], none⟩
def d_law_more_page : DX := ⟨aG "_law_more_page", "_law_more_page", "_law_more_page", s_law_more_page, [], none⟩
def d_law_edit : DX := ⟨aG "_law_edit", "_law_edit", "_law_edit", s_law_edit, [], none⟩
def d_law_do : DX := ⟨aG "_law_do", "_law_do", "_law_do", s_law_do, [], none⟩
def d_law_done : DX := ⟨aG "_law_done", "_law_done", "_law_done", s_law_done, [], none⟩
def d_law_shows : DX := ⟨aG "_law_shows", "_law_shows", "_law_shows", s_law_shows, [], none⟩
def d_law_says : DX := ⟨aG "_law_says", "_law_says", "_law_says", s_law_says, [], none⟩
def d_law_is_small : DX := ⟨aG "_law_is_small", "_law_is_small", "_law_is_small", s_law_is_small, [], none⟩
def d_law_due : DX := ⟨aG "_law_due", "_law_due", "_law_due", s_law_due, [], none⟩
def d_law_small_edit : DX := ⟨aG "_law_small_edit", "_law_small_edit", "_law_small_edit", s_law_small_edit, [], none⟩
def d_law_start : DX := ⟨aG "_law_start", "_law_start", "_law_start", s_law_start, [], none⟩
def d_law_worked : DX := ⟨aG "_law_worked", "_law_worked", "_law_worked", s_law_worked, [], none⟩
def d_law : DX := ⟨aG "law", "law", "law", s_law, [], none⟩
def d_BadOrder_init : DX := ⟨aM "BadOrder" "__init__", "__init__", "BadOrder.__init__", s_BadOrder_init, [], some "BadOrder"⟩
def d_BadSide_init : DX := ⟨aM "BadSide" "__init__", "__init__", "BadSide.__init__", s_BadSide_init, [], some "BadSide"⟩
def d_NoAxis_init : DX := ⟨aM "NoAxis" "__init__", "__init__", "NoAxis.__init__", s_NoAxis_init, [], some "NoAxis"⟩
def d_NoKind_init : DX := ⟨aM "NoKind" "__init__", "__init__", "NoKind.__init__", s_NoKind_init, [], some "NoKind"⟩
def d_TooLarge_init : DX := ⟨aM "TooLarge" "__init__", "__init__", "TooLarge.__init__", s_TooLarge_init, [], some "TooLarge"⟩
def d_Yard_init : DX := ⟨aM "Yard" "__init__", "__init__", "Yard.__init__", s_Yard_init, [], none⟩
def d_Yard_stand : DX := ⟨aM "Yard" "stand", "stand", "Yard.stand", s_Yard_stand, [], none⟩
def d_Yard_pair : DX := ⟨aP "Yard" "pair", "pair", "Yard.pair", s_Yard_pair, [], none⟩
def d_Yard_box : DX := ⟨aP "Yard" "box", "box", "Yard.box", s_Yard_box, [], none⟩
def d_Yard_version : DX := ⟨aP "Yard" "version", "version", "Yard.version", s_Yard_version, [], none⟩
def d_Yard_news : DX := ⟨aP "Yard" "news", "news", "Yard.news", s_Yard_news, [], none⟩
def d_Yard_judge : DX := ⟨aM "Yard" "judge", "judge", "Yard.judge", s_Yard_judge, [], none⟩
def d_Yard_require_free : DX := ⟨aM "Yard" "require_free", "require_free", "Yard.require_free", s_Yard_require_free, [], none⟩
def d_Yard_tell : DX := ⟨aM "Yard" "tell", "tell", "Yard.tell", s_Yard_tell, [], none⟩
def d_Yard_do : DX := ⟨aM "Yard" "do", "do", "Yard.do", s_Yard_do, [], none⟩
def d_Yard_edit : DX := ⟨aM "Yard" "edit", "edit", "Yard.edit", s_Yard_edit, [], none⟩
def d_Yard_side : DX := ⟨aM "Yard" "side", "side", "Yard.side", s_Yard_side, [], none⟩
def d_Yard_brick : DX := ⟨aM "Yard" "brick", "brick", "Yard.brick", s_Yard_brick, [], none⟩
def d_Yard_swap : DX := ⟨aM "Yard" "swap", "swap", "Yard.swap", s_Yard_swap, [], none⟩
def d_Yard_turn : DX := ⟨aM "Yard" "turn", "turn", "Yard.turn", s_Yard_turn, [], none⟩
def d_Yard_stretch : DX := ⟨aM "Yard" "stretch", "stretch", "Yard.stretch", s_Yard_stretch, [], none⟩
def d_Yard_undo : DX := ⟨aM "Yard" "undo", "undo", "Yard.undo", s_Yard_undo, [], none⟩
def d_Yard_state_at : DX := ⟨aM "Yard" "state_at", "state_at", "Yard.state_at", s_Yard_state_at, [("version", V.non)], none⟩
def d_Yard_each_version : DX := ⟨aM "Yard" "each_version", "each_version", "Yard.each_version", s_Yard_each_version, [], none⟩
def d_Yard_fresh : DX := ⟨aM "Yard" "fresh", "fresh", "Yard.fresh", s_Yard_fresh, [], none⟩
def d_Yard_copy : DX := ⟨aM "Yard" "copy", "copy", "Yard.copy", s_Yard_copy, [], none⟩
def d_Yard_iadd : DX := ⟨aM "Yard" "__iadd__", "__iadd__", "Yard.__iadd__", s_Yard_iadd, [], none⟩
def d_Yard_len : DX := ⟨aM "Yard" "__len__", "__len__", "Yard.__len__", s_Yard_len, [], none⟩
def d_Yard_bool : DX := ⟨aM "Yard" "__bool__", "__bool__", "Yard.__bool__", s_Yard_bool, [], none⟩
def d_Yard_str : DX := ⟨aM "Yard" "__str__", "__str__", "Yard.__str__", s_Yard_str, [], none⟩
def d_Yard_eq : DX := ⟨aM "Yard" "__eq__", "__eq__", "Yard.__eq__", s_Yard_eq, [], none⟩
def d_FullYard_init : DX := ⟨aM "FullYard" "__init__", "__init__", "FullYard.__init__", s_FullYard_init, [], some "FullYard"⟩
def d_FullYard_fresh : DX := ⟨aM "FullYard" "fresh", "fresh", "FullYard.fresh", s_FullYard_fresh, [], none⟩
def d_FullYard_judge : DX := ⟨aM "FullYard" "judge", "judge", "FullYard.judge", s_FullYard_judge, [], none⟩
def defs : List DX := [d_is_integer, d_sides_error, d_kinds_error, d_pair_error, d_box_error, d_with_side, d_common, d_inverse, d_least_times, d_rests, d_bar_along, d_crossing, d_paper, d_is_filled, d_sides_text, d_kinds_text, d_require_axis, d_require_side, d_put_side, d_put_brick, d_swapped, d_is_order, d_turned, d_stretched, d_more, d_law_deck, d_law_draw, d_law_one, d_law_mixed, d_law_divisor, d_law_odd, d_law_bent, d_law_whole, d_law_sides, d_law_pair, d_law_lcm, d_law_cut_box, d_law_plain_box, d_law_with, d_law_page_after, d_law_turned_page, d_law_more_page, d_law_edit, d_law_do, d_law_done, d_law_shows, d_law_says, d_law_is_small, d_law_due, d_law_small_edit, d_law_start, d_law_worked, d_law, d_BadOrder_init, d_BadSide_init, d_NoAxis_init, d_NoKind_init, d_TooLarge_init, d_Yard_init, d_Yard_stand, d_Yard_pair, d_Yard_box, d_Yard_version, d_Yard_news, d_Yard_judge, d_Yard_require_free, d_Yard_tell, d_Yard_do, d_Yard_edit, d_Yard_side, d_Yard_brick, d_Yard_swap, d_Yard_turn, d_Yard_stretch, d_Yard_undo, d_Yard_state_at, d_Yard_each_version, d_Yard_fresh, d_Yard_copy, d_Yard_iadd, d_Yard_len, d_Yard_bool, d_Yard_str, d_Yard_eq, d_FullYard_init, d_FullYard_fresh, d_FullYard_judge]
def f0 (K : KF) : Bool := He.Fa.ok K (.glo "is_integer")
def f1 (K : KF) : Bool := He.Fa.ok K (.glo "sides_error")
def f2 (K : KF) : Bool := He.Fa.ok K (.glo "kinds_error")
def f3 (K : KF) : Bool := He.Fa.ok K (.glo "pair_error")
def f4 (K : KF) : Bool := He.Fa.ok K (.glo "box_error")
def f5 (K : KF) : Bool := He.Fa.ok K (.glo "with_side")
def f6 (K : KF) : Bool := He.Fa.ok K (.glo "common")
def f7 (K : KF) : Bool := He.Fa.ok K (.glo "inverse")
def f8 (K : KF) : Bool := He.Fa.ok K (.glo "least_times")
def f9 (K : KF) : Bool := He.Fa.ok K (.glo "rests")
def f10 (K : KF) : Bool := He.Fa.ok K (.glo "bar_along")
def f11 (K : KF) : Bool := He.Fa.ok K (.glo "crossing")
def f12 (K : KF) : Bool := He.Fa.ok K (.glo "paper")
def f13 (K : KF) : Bool := He.Fa.ok K (.glo "is_filled")
def f14 (K : KF) : Bool := He.Fa.ok K (.glo "sides_text")
def f15 (K : KF) : Bool := He.Fa.ok K (.glo "kinds_text")
def f16 (K : KF) : Bool := He.Fa.ok K (.glo "require_axis")
def f17 (K : KF) : Bool := He.Fa.ok K (.glo "require_side")
def f18 (K : KF) : Bool := He.Fa.ok K (.glo "put_side")
def f19 (K : KF) : Bool := He.Fa.ok K (.glo "put_brick")
def f20 (K : KF) : Bool := He.Fa.ok K (.glo "swapped")
def f21 (K : KF) : Bool := He.Fa.ok K (.glo "is_order")
def f22 (K : KF) : Bool := He.Fa.ok K (.glo "turned")
def f23 (K : KF) : Bool := He.Fa.ok K (.glo "stretched")
def f24 (K : KF) : Bool := He.Fa.ok K (.glo "more")
def f25 (K : KF) : Bool := He.Fa.ok K (.glo "_law_deck")
def f26 (K : KF) : Bool := He.Fa.ok K (.glo "_law_draw")
def f27 (K : KF) : Bool := He.Fa.ok K (.glo "_law_one")
def f28 (K : KF) : Bool := He.Fa.ok K (.glo "_law_mixed")
def f29 (K : KF) : Bool := He.Fa.ok K (.glo "_law_divisor")
def f30 (K : KF) : Bool := He.Fa.ok K (.glo "_law_odd")
def f31 (K : KF) : Bool := He.Fa.ok K (.glo "_law_bent")
def f32 (K : KF) : Bool := He.Fa.ok K (.glo "_law_whole")
def f33 (K : KF) : Bool := He.Fa.ok K (.glo "_law_sides")
def f34 (K : KF) : Bool := He.Fa.ok K (.glo "_law_pair")
def f35 (K : KF) : Bool := He.Fa.ok K (.glo "_law_lcm")
def f36 (K : KF) : Bool := He.Fa.ok K (.glo "_law_cut_box")
def f37 (K : KF) : Bool := He.Fa.ok K (.glo "_law_plain_box")
def f38 (K : KF) : Bool := He.Fa.ok K (.glo "_law_with")
def f39 (K : KF) : Bool := He.Fa.ok K (.glo "_law_page_after")
def f40 (K : KF) : Bool := He.Fa.ok K (.glo "_law_turned_page")
def f41 (K : KF) : Bool := He.Fa.ok K (.glo "_law_more_page")
def f42 (K : KF) : Bool := He.Fa.ok K (.glo "_law_edit")
def f43 (K : KF) : Bool := He.Fa.ok K (.glo "_law_do")
def f44 (K : KF) : Bool := He.Fa.ok K (.glo "_law_done")
def f45 (K : KF) : Bool := He.Fa.ok K (.glo "_law_shows")
def f46 (K : KF) : Bool := He.Fa.ok K (.glo "_law_says")
def f47 (K : KF) : Bool := He.Fa.ok K (.glo "_law_is_small")
def f48 (K : KF) : Bool := He.Fa.ok K (.glo "_law_due")
def f49 (K : KF) : Bool := He.Fa.ok K (.glo "_law_small_edit")
def f50 (K : KF) : Bool := He.Fa.ok K (.glo "_law_start")
def f51 (K : KF) : Bool := He.Fa.ok K (.glo "_law_worked")
def f52 (K : KF) : Bool := He.Fa.ok K (.glo "law")
def f53 (K : KF) : Bool := He.Fa.ok K (.glo "Yard")
def f54 (K : KF) : Bool := He.Fa.ok K (.glo "FullYard")
def f55 (K : KF) : Bool := He.Fa.ok K (.glo "NoAxis")
def f56 (K : KF) : Bool := He.Fa.ok K (.glo "NoKind")
def f57 (K : KF) : Bool := He.Fa.ok K (.glo "BadSide")
def f58 (K : KF) : Bool := He.Fa.ok K (.glo "BadOrder")
def f59 (K : KF) : Bool := He.Fa.ok K (.glo "TooLarge")
def f60 (K : KF) : Bool := He.Fa.ok K (.glo "NotFilled")
def f61 (K : KF) : Bool := He.Fa.ok K (.glo "NothingToUndo")
def f62 (K : KF) : Bool := He.Fa.ok K (.glo "TooManyEdits")
def f63 (K : KF) : Bool := He.Fa.ok K (.glo "Busy")
def f64 (K : KF) : Bool := He.Fa.ok K (.glo "BadKinds")
def f65 (K : KF) : Bool := He.Fa.ok K (.glo "BadBox")
def f66 (K : KF) : Bool := He.Fa.ok K (.glo "DEEDS")
def f67 (K : KF) : Bool := He.eqO (PySem.W.nsIn K mainGlobals "paper_papers") (some (some (.ref (He.ga K "paper"))))
def f68 (K : KF) : Bool := He.Fa.ok K (.free "len")
def f69 (K : KF) : Bool := He.Fa.ok K (.free "isinstance")
def f70 (K : KF) : Bool := He.Fa.ok K (.free "int")
def f71 (K : KF) : Bool := He.Fa.ok K (.free "bool")
def f72 (K : KF) : Bool := He.Fa.ok K (.free "tuple")
def f73 (K : KF) : Bool := He.Fa.ok K (.free "list")
def f74 (K : KF) : Bool := He.Fa.ok K (.free "enumerate")
def f75 (K : KF) : Bool := He.Fa.ok K (.free "set")
def f76 (K : KF) : Bool := He.Fa.ok K (.free "all")
def f77 (K : KF) : Bool := He.Fa.ok K (.free "max")
def f78 (K : KF) : Bool := He.Fa.ok K (.free "str")
def f79 (K : KF) : Bool := He.Fa.ok K (.free "range")
def f80 (K : KF) : Bool := He.Fa.ok K (.free "sorted")
def f81 (K : KF) : Bool := He.Fa.ok K (.free "abs")
def f82 (K : KF) : Bool := He.Fa.ok K (.free "repr")
def f83 (K : KF) : Bool := He.Fa.ok K (.free "super")
def f84 (K : KF) : Bool := He.Fa.ok K (.int "MAX_DIMS" 4)
def f85 (K : KF) : Bool := He.Fa.ok K (.int "MAX_SIDE" 1000000000000)
def f86 (K : KF) : Bool := He.Fa.ok K (.int "MAX_KINDS" 4)
def f87 (K : KF) : Bool := He.Fa.ok K (.int "HISTORY" 30)
def f88 (K : KF) : Bool := He.Fa.ok K (.str "CUT" "cut")
def f89 (K : KF) : Bool := He.Fa.ok K (.str "SIDES" "sides")
def f90 (K : KF) : Bool := He.Fa.ok K (.str "STEP" "step")
def f91 (K : KF) : Bool := He.Fa.ok K (.str "GAP" "gap")
def f92 (K : KF) : Bool := He.Fa.ok K (.str "FILLED" "filled")
def f93 (K : KF) : Bool := He.Fa.ok K (.str "BARRED" "barred")
def f94 (K : KF) : Bool := He.Fa.ok K (.str "SAME" "same")
def f95 (K : KF) : Bool := He.Fa.ok K (.cls "Yard")
def f96 (K : KF) : Bool := He.Fa.ok K (.noat "Yard" "pages")
def f97 (K : KF) : Bool := He.Fa.ok K (.noat "Yard" "look")
def f98 (K : KF) : Bool := He.Fa.ok K (.noat "Yard" "word")
def f99 (K : KF) : Bool := He.Fa.ok K (.noat "Yard" "is_busy")
def f100 (K : KF) : Bool := He.Fa.ok K (.mkr "Yard")
def f101 (K : KF) : Bool := He.conB K "Yard" "SORT" (.str "yard")
def f102 (K : KF) : Bool := propB K (He.ga K "Yard") "pair"
def f103 (K : KF) : Bool := propB K (He.ga K "Yard") "box"
def f104 (K : KF) : Bool := propB K (He.ga K "Yard") "version"
def f105 (K : KF) : Bool := propB K (He.ga K "Yard") "news"
def f106 (K : KF) : Bool := He.Fa.ok K (.meth "Yard" "__init__")
def f107 (K : KF) : Bool := He.Fa.ok K (.meth "Yard" "stand")
def f108 (K : KF) : Bool := He.Fa.ok K (.meth "Yard" "judge")
def f109 (K : KF) : Bool := He.Fa.ok K (.meth "Yard" "require_free")
def f110 (K : KF) : Bool := He.Fa.ok K (.meth "Yard" "tell")
def f111 (K : KF) : Bool := He.Fa.ok K (.meth "Yard" "do")
def f112 (K : KF) : Bool := He.Fa.ok K (.meth "Yard" "edit")
def f113 (K : KF) : Bool := He.Fa.ok K (.meth "Yard" "side")
def f114 (K : KF) : Bool := He.Fa.ok K (.meth "Yard" "brick")
def f115 (K : KF) : Bool := He.Fa.ok K (.meth "Yard" "swap")
def f116 (K : KF) : Bool := He.Fa.ok K (.meth "Yard" "turn")
def f117 (K : KF) : Bool := He.Fa.ok K (.meth "Yard" "stretch")
def f118 (K : KF) : Bool := He.Fa.ok K (.meth "Yard" "undo")
def f119 (K : KF) : Bool := He.Fa.ok K (.meth "Yard" "state_at")
def f120 (K : KF) : Bool := He.Fa.ok K (.meth "Yard" "each_version")
def f121 (K : KF) : Bool := He.Fa.ok K (.meth "Yard" "fresh")
def f122 (K : KF) : Bool := He.Fa.ok K (.meth "Yard" "copy")
def f123 (K : KF) : Bool := He.Fa.ok K (.meth "Yard" "__iadd__")
def f124 (K : KF) : Bool := He.Fa.ok K (.meth "Yard" "__len__")
def f125 (K : KF) : Bool := He.Fa.ok K (.meth "Yard" "__bool__")
def f126 (K : KF) : Bool := He.Fa.ok K (.meth "Yard" "__str__")
def f127 (K : KF) : Bool := He.Fa.ok K (.meth "Yard" "__eq__")
def f128 (K : KF) : Bool := He.eqO (PySem.W.findIn K (.ref (He.ga K "Yard")) "__ne__") (some (some (.builtin "object.__ne__")))
def f129 (K : KF) : Bool := decide (PySem.W.kitOne K (.ref (He.ga K "Yard")) (.ref (He.ga K "Yard")) = some true)
def f130 (K : KF) : Bool := decide (PySem.W.kitOne K (.ref (He.ga K "Yard")) (.ref (He.ga K "FullYard")) = some false)
def f131 (K : KF) : Bool := decide (PySem.W.kitOne K (.type "tuple") (.ref (He.ga K "Yard")) = some false)
def f132 (K : KF) : Bool := PySem.W.notFirst K (He.ga K "Yard") (.type "tuple")
def f133 (K : KF) : Bool := decide (PySem.W.kitOne K (.type "str") (.ref (He.ga K "Yard")) = some false)
def f134 (K : KF) : Bool := PySem.W.notFirst K (He.ga K "Yard") (.type "str")
def f135 (K : KF) : Bool := decide (PySem.W.kitOne K (.type "NoneType") (.ref (He.ga K "Yard")) = some false)
def f136 (K : KF) : Bool := PySem.W.notFirst K (He.ga K "Yard") (.type "NoneType")
def f137 (K : KF) : Bool := decide (PySem.W.kitOne K (.type "int") (.ref (He.ga K "Yard")) = some false)
def f138 (K : KF) : Bool := PySem.W.notFirst K (He.ga K "Yard") (.type "int")
def f139 (K : KF) : Bool := decide (PySem.W.kitOne K (.type "list") (.ref (He.ga K "Yard")) = some false)
def f140 (K : KF) : Bool := PySem.W.notFirst K (He.ga K "Yard") (.type "list")
def f141 (K : KF) : Bool := PySem.W.notFirst K (He.ga K "Yard") (.ref (He.ga K "Yard"))
def f142 (K : KF) : Bool := He.Fa.ok K (.cls "FullYard")
def f143 (K : KF) : Bool := He.Fa.ok K (.noat "FullYard" "pages")
def f144 (K : KF) : Bool := He.Fa.ok K (.noat "FullYard" "look")
def f145 (K : KF) : Bool := He.Fa.ok K (.noat "FullYard" "word")
def f146 (K : KF) : Bool := He.Fa.ok K (.noat "FullYard" "is_busy")
def f147 (K : KF) : Bool := He.Fa.ok K (.mkr "FullYard")
def f148 (K : KF) : Bool := He.conB K "FullYard" "SORT" (.str "full")
def f149 (K : KF) : Bool := propB K (He.ga K "FullYard") "pair"
def f150 (K : KF) : Bool := propB K (He.ga K "FullYard") "box"
def f151 (K : KF) : Bool := propB K (He.ga K "FullYard") "version"
def f152 (K : KF) : Bool := propB K (He.ga K "FullYard") "news"
def f153 (K : KF) : Bool := He.Fa.ok K (.meth "FullYard" "__init__")
def f154 (K : KF) : Bool := He.Fa.ok K (.meth "FullYard" "stand")
def f155 (K : KF) : Bool := He.Fa.ok K (.meth "FullYard" "judge")
def f156 (K : KF) : Bool := He.Fa.ok K (.meth "FullYard" "require_free")
def f157 (K : KF) : Bool := He.Fa.ok K (.meth "FullYard" "tell")
def f158 (K : KF) : Bool := He.Fa.ok K (.meth "FullYard" "do")
def f159 (K : KF) : Bool := He.Fa.ok K (.meth "FullYard" "edit")
def f160 (K : KF) : Bool := He.Fa.ok K (.meth "FullYard" "side")
def f161 (K : KF) : Bool := He.Fa.ok K (.meth "FullYard" "brick")
def f162 (K : KF) : Bool := He.Fa.ok K (.meth "FullYard" "swap")
def f163 (K : KF) : Bool := He.Fa.ok K (.meth "FullYard" "turn")
def f164 (K : KF) : Bool := He.Fa.ok K (.meth "FullYard" "stretch")
def f165 (K : KF) : Bool := He.Fa.ok K (.meth "FullYard" "undo")
def f166 (K : KF) : Bool := He.Fa.ok K (.meth "FullYard" "state_at")
def f167 (K : KF) : Bool := He.Fa.ok K (.meth "FullYard" "each_version")
def f168 (K : KF) : Bool := He.Fa.ok K (.meth "FullYard" "fresh")
def f169 (K : KF) : Bool := He.Fa.ok K (.meth "FullYard" "copy")
def f170 (K : KF) : Bool := He.Fa.ok K (.meth "FullYard" "__iadd__")
def f171 (K : KF) : Bool := He.Fa.ok K (.meth "FullYard" "__len__")
def f172 (K : KF) : Bool := He.Fa.ok K (.meth "FullYard" "__bool__")
def f173 (K : KF) : Bool := He.Fa.ok K (.meth "FullYard" "__str__")
def f174 (K : KF) : Bool := He.Fa.ok K (.meth "FullYard" "__eq__")
def f175 (K : KF) : Bool := He.eqO (PySem.W.findIn K (.ref (He.ga K "FullYard")) "__ne__") (some (some (.builtin "object.__ne__")))
def f176 (K : KF) : Bool := decide (PySem.W.kitOne K (.ref (He.ga K "FullYard")) (.ref (He.ga K "Yard")) = some true)
def f177 (K : KF) : Bool := decide (PySem.W.kitOne K (.ref (He.ga K "FullYard")) (.ref (He.ga K "FullYard")) = some true)
def f178 (K : KF) : Bool := decide (PySem.W.kitOne K (.type "tuple") (.ref (He.ga K "FullYard")) = some false)
def f179 (K : KF) : Bool := PySem.W.notFirst K (He.ga K "FullYard") (.type "tuple")
def f180 (K : KF) : Bool := decide (PySem.W.kitOne K (.type "str") (.ref (He.ga K "FullYard")) = some false)
def f181 (K : KF) : Bool := PySem.W.notFirst K (He.ga K "FullYard") (.type "str")
def f182 (K : KF) : Bool := decide (PySem.W.kitOne K (.type "NoneType") (.ref (He.ga K "FullYard")) = some false)
def f183 (K : KF) : Bool := PySem.W.notFirst K (He.ga K "FullYard") (.type "NoneType")
def f184 (K : KF) : Bool := decide (PySem.W.kitOne K (.type "int") (.ref (He.ga K "FullYard")) = some false)
def f185 (K : KF) : Bool := PySem.W.notFirst K (He.ga K "FullYard") (.type "int")
def f186 (K : KF) : Bool := decide (PySem.W.kitOne K (.type "list") (.ref (He.ga K "FullYard")) = some false)
def f187 (K : KF) : Bool := PySem.W.notFirst K (He.ga K "FullYard") (.type "list")
def f188 (K : KF) : Bool := PySem.W.notFirst K (He.ga K "FullYard") (.ref (He.ga K "FullYard"))
def f189 (K : KF) : Bool := PySem.W.notFirst K (He.ga K "FullYard") (.ref (He.ga K "Yard"))
def f190 (K : KF) : Bool := decide (PySem.W.subIn K (.ref (He.ga K "FullYard")) (.ref (He.ga K "Yard")) = some true)
def f191 (K : KF) : Bool := decide (PySem.W.mroIn K (He.ga K "FullYard") (.ref (He.ga K "FullYard")) = some true)
def f192 (K : KF) : Bool := decide (He.ga K "FullYard" ≠ He.ga K "Yard")
def f193 (K : KF) : Bool := decide (He.ma K (He.ga K "FullYard") "stand" = He.ma K (He.ga K "Yard") "stand")
def f194 (K : KF) : Bool := decide (He.ma K (He.ga K "FullYard") "copy" = He.ma K (He.ga K "Yard") "copy")
def f195 (K : KF) : Bool := decide (He.ma K (He.ga K "FullYard") "__eq__" = He.ma K (He.ga K "Yard") "__eq__")
def f196 (K : KF) : Bool := decide (He.ma K (He.ga K "FullYard") "__len__" = He.ma K (He.ga K "Yard") "__len__")
def f197 (K : KF) : Bool := decide (He.ma K (He.ga K "FullYard") "__bool__" = He.ma K (He.ga K "Yard") "__bool__")
def f198 (K : KF) : Bool := decide (He.ma K (He.ga K "FullYard") "__str__" = He.ma K (He.ga K "Yard") "__str__")
def f199 (K : KF) : Bool := decide (He.ma K (He.ga K "FullYard") "tell" = He.ma K (He.ga K "Yard") "tell")
def f200 (K : KF) : Bool := decide (He.ma K (He.ga K "FullYard") "require_free" = He.ma K (He.ga K "Yard") "require_free")
def f201 (K : KF) : Bool := decide (He.ma K (He.ga K "FullYard") "pair" = He.ma K (He.ga K "Yard") "pair")
def f202 (K : KF) : Bool := decide (He.ma K (He.ga K "FullYard") "box" = He.ma K (He.ga K "Yard") "box")
def f203 (K : KF) : Bool := decide (He.ma K (He.ga K "FullYard") "version" = He.ma K (He.ga K "Yard") "version")
def f204 (K : KF) : Bool := decide (He.ma K (He.ga K "FullYard") "news" = He.ma K (He.ga K "Yard") "news")
def f205 (K : KF) : Bool := decide (PySem.W.ks_superIn K (He.ga K "FullYard") (He.ga K "FullYard") "__init__" = some (some (.ref (He.ma K (He.ga K "Yard") "__init__"))))
def f206 (K : KF) : Bool := oexB K (He.ga K "NoAxis")
def f207 (K : KF) : Bool := xfB K (He.ga K "NoAxis")
def f208 (K : KF) : Bool := He.eqO (PySem.W.findIn K (.ref (He.ga K "NoAxis")) "given") (some none)
def f209 (K : KF) : Bool := He.eqO (PySem.W.findIn K (.ref (He.ga K "NoAxis")) "__init__") (some (some (.ref (He.ma K (He.ga K "NoAxis") "__init__"))))
def f210 (K : KF) : Bool := decide (PySem.W.typeIn K (.ref (He.ma K (He.ga K "NoAxis") "__init__")) = some (.type "function"))
def f211 (K : KF) : Bool := decide (PySem.W.ks_superIn K (He.ga K "NoAxis") (He.ga K "NoAxis") "__init__" = some (some (.builtin "ValueError.__init__")))
def f212 (K : KF) : Bool := decide (PySem.W.mroIn K (He.ga K "NoAxis") (.ref (He.ga K "NoAxis")) = some true)
def f213 (K : KF) : Bool := oexB K (He.ga K "NoKind")
def f214 (K : KF) : Bool := xfB K (He.ga K "NoKind")
def f215 (K : KF) : Bool := He.eqO (PySem.W.findIn K (.ref (He.ga K "NoKind")) "given") (some none)
def f216 (K : KF) : Bool := He.eqO (PySem.W.findIn K (.ref (He.ga K "NoKind")) "__init__") (some (some (.ref (He.ma K (He.ga K "NoKind") "__init__"))))
def f217 (K : KF) : Bool := decide (PySem.W.typeIn K (.ref (He.ma K (He.ga K "NoKind") "__init__")) = some (.type "function"))
def f218 (K : KF) : Bool := decide (PySem.W.ks_superIn K (He.ga K "NoKind") (He.ga K "NoKind") "__init__" = some (some (.builtin "ValueError.__init__")))
def f219 (K : KF) : Bool := decide (PySem.W.mroIn K (He.ga K "NoKind") (.ref (He.ga K "NoKind")) = some true)
def f220 (K : KF) : Bool := oexB K (He.ga K "BadSide")
def f221 (K : KF) : Bool := xfB K (He.ga K "BadSide")
def f222 (K : KF) : Bool := He.eqO (PySem.W.findIn K (.ref (He.ga K "BadSide")) "given") (some none)
def f223 (K : KF) : Bool := He.eqO (PySem.W.findIn K (.ref (He.ga K "BadSide")) "__init__") (some (some (.ref (He.ma K (He.ga K "BadSide") "__init__"))))
def f224 (K : KF) : Bool := decide (PySem.W.typeIn K (.ref (He.ma K (He.ga K "BadSide") "__init__")) = some (.type "function"))
def f225 (K : KF) : Bool := decide (PySem.W.ks_superIn K (He.ga K "BadSide") (He.ga K "BadSide") "__init__" = some (some (.builtin "ValueError.__init__")))
def f226 (K : KF) : Bool := decide (PySem.W.mroIn K (He.ga K "BadSide") (.ref (He.ga K "BadSide")) = some true)
def f227 (K : KF) : Bool := oexB K (He.ga K "BadOrder")
def f228 (K : KF) : Bool := xfB K (He.ga K "BadOrder")
def f229 (K : KF) : Bool := He.eqO (PySem.W.findIn K (.ref (He.ga K "BadOrder")) "given") (some none)
def f230 (K : KF) : Bool := He.eqO (PySem.W.findIn K (.ref (He.ga K "BadOrder")) "__init__") (some (some (.ref (He.ma K (He.ga K "BadOrder") "__init__"))))
def f231 (K : KF) : Bool := decide (PySem.W.typeIn K (.ref (He.ma K (He.ga K "BadOrder") "__init__")) = some (.type "function"))
def f232 (K : KF) : Bool := decide (PySem.W.ks_superIn K (He.ga K "BadOrder") (He.ga K "BadOrder") "__init__" = some (some (.builtin "ValueError.__init__")))
def f233 (K : KF) : Bool := decide (PySem.W.mroIn K (He.ga K "BadOrder") (.ref (He.ga K "BadOrder")) = some true)
def f234 (K : KF) : Bool := oexB K (He.ga K "TooLarge")
def f235 (K : KF) : Bool := xfB K (He.ga K "TooLarge")
def f236 (K : KF) : Bool := He.eqO (PySem.W.findIn K (.ref (He.ga K "TooLarge")) "axis") (some none)
def f237 (K : KF) : Bool := He.eqO (PySem.W.findIn K (.ref (He.ga K "TooLarge")) "__init__") (some (some (.ref (He.ma K (He.ga K "TooLarge") "__init__"))))
def f238 (K : KF) : Bool := decide (PySem.W.typeIn K (.ref (He.ma K (He.ga K "TooLarge") "__init__")) = some (.type "function"))
def f239 (K : KF) : Bool := decide (PySem.W.ks_superIn K (He.ga K "TooLarge") (He.ga K "TooLarge") "__init__" = some (some (.builtin "ValueError.__init__")))
def f240 (K : KF) : Bool := decide (PySem.W.mroIn K (He.ga K "TooLarge") (.ref (He.ga K "TooLarge")) = some true)
def f241 (K : KF) : Bool := He.Fa.ok K (.exc "NothingToUndo")
def f242 (K : KF) : Bool := He.Fa.ok K (.exm "NoAxis" "NoAxis" true)
def f243 (K : KF) : Bool := He.Fa.ok K (.exm "NoKind" "NoAxis" false)
def f244 (K : KF) : Bool := He.Fa.ok K (.exm "NoKind" "NoKind" true)
def f245 (K : KF) : Bool := He.Fa.ok K (.exm "BadSide" "NoAxis" false)
def f246 (K : KF) : Bool := He.Fa.ok K (.exm "BadSide" "NoKind" false)
def f247 (K : KF) : Bool := He.Fa.ok K (.exm "BadSide" "BadSide" true)
def f248 (K : KF) : Bool := He.Fa.ok K (.exm "BadOrder" "NoAxis" false)
def f249 (K : KF) : Bool := He.Fa.ok K (.exm "BadOrder" "NoKind" false)
def f250 (K : KF) : Bool := He.Fa.ok K (.exm "BadOrder" "BadSide" false)
def f251 (K : KF) : Bool := He.Fa.ok K (.exm "BadOrder" "BadOrder" true)
def f252 (K : KF) : Bool := He.Fa.ok K (.exm "TooLarge" "NoAxis" false)
def f253 (K : KF) : Bool := He.Fa.ok K (.exm "TooLarge" "NoKind" false)
def f254 (K : KF) : Bool := He.Fa.ok K (.exm "TooLarge" "BadSide" false)
def f255 (K : KF) : Bool := He.Fa.ok K (.exm "TooLarge" "BadOrder" false)
def f256 (K : KF) : Bool := He.Fa.ok K (.exm "TooLarge" "TooLarge" true)
def f257 (K : KF) : Bool := He.Fa.ok K (.exm "NothingToUndo" "NoAxis" false)
def f258 (K : KF) : Bool := He.Fa.ok K (.exm "NothingToUndo" "NoKind" false)
def f259 (K : KF) : Bool := He.Fa.ok K (.exm "NothingToUndo" "BadSide" false)
def f260 (K : KF) : Bool := He.Fa.ok K (.exm "NothingToUndo" "BadOrder" false)
def f261 (K : KF) : Bool := He.Fa.ok K (.exm "NothingToUndo" "TooLarge" false)
def f262 (K : KF) : Bool := He.Fa.ok K (.exm "NothingToUndo" "NotFilled" false)
def f263 (K : KF) : Bool := He.Fa.ok K (.exm "NothingToUndo" "NothingToUndo" true)
def f264 (K : KF) : Bool := (match PySem.W.nsIn K (He.ga K "DEEDS") "side" with | some (some (.ref g)) => decide (g = He.ga K "put_side") | _ => false)
def f265 (K : KF) : Bool := (match PySem.W.nsIn K (He.ga K "DEEDS") "brick" with | some (some (.ref g)) => decide (g = He.ga K "put_brick") | _ => false)
def f266 (K : KF) : Bool := (match PySem.W.nsIn K (He.ga K "DEEDS") "swap" with | some (some (.ref g)) => decide (g = He.ga K "swapped") | _ => false)
def f267 (K : KF) : Bool := (match PySem.W.nsIn K (He.ga K "DEEDS") "turn" with | some (some (.ref g)) => decide (g = He.ga K "turned") | _ => false)
def f268 (K : KF) : Bool := (match PySem.W.nsIn K (He.ga K "DEEDS") "stretch" with | some (some (.ref g)) => decide (g = He.ga K "stretched") | _ => false)
def f269 (K : KF) : Bool := (match PySem.W.nsIn K (He.ga K "DEEDS") "more" with | some (some (.ref g)) => decide (g = He.ga K "more") | _ => false)
def f270 (K : KF) : Bool := He.eqO (PySem.W.findIn K (.ref (He.ga K "Yard")) "__class__") (some (some (.builtin "object.__class__")))
def f271 (K : KF) : Bool := decide (PySem.W.mroIn K (He.ga K "Yard") (.type "object") = some true)
def f272 (K : KF) : Bool := He.eqO (PySem.W.findIn K (.ref (He.ga K "FullYard")) "__class__") (some (some (.builtin "object.__class__")))
def f273 (K : KF) : Bool := decide (PySem.W.mroIn K (He.ga K "FullYard") (.type "object") = some true)
def f274 (K : KF) : Bool := He.eqO (PySem.W.specialIn K (.builtin "object.__class__") "__get__") (some (some (.builtin "getset_descriptor.__get__")))
def f275 (K : KF) : Bool := decide (PySem.W.subIn K (.ref (He.ga K "NoAxis")) (.type "ValueError") = some true)
def f276 (K : KF) : Bool := decide (PySem.W.subIn K (.ref (He.ga K "NoKind")) (.type "ValueError") = some true)
def f277 (K : KF) : Bool := decide (PySem.W.subIn K (.ref (He.ga K "BadSide")) (.type "ValueError") = some true)
def f278 (K : KF) : Bool := decide (PySem.W.subIn K (.ref (He.ga K "BadOrder")) (.type "ValueError") = some true)
def f279 (K : KF) : Bool := decide (PySem.W.subIn K (.ref (He.ga K "TooLarge")) (.type "ValueError") = some true)
def f280 (K : KF) : Bool := He.eqO (PySem.W.nsIn K cStatics "thirdparty.any") (some none)
def f281 (K : KF) : Bool := PySem.W.selfFirst K (He.ga K "Yard")
def f282 (K : KF) : Bool := decide (PySem.W.takesIn K (.builtin "object.__class__") = some true)
def facts : List (KF → Bool) := [f0, f1, f2, f3, f4, f5, f6, f7, f8, f9, f10, f11, f12, f13, f14, f15, f16, f17, f18, f19, f20, f21, f22, f23, f24, f25, f26, f27, f28, f29, f30, f31, f32, f33, f34, f35, f36, f37, f38, f39, f40, f41, f42, f43, f44, f45, f46, f47, f48, f49, f50, f51, f52, f53, f54, f55, f56, f57, f58, f59, f60, f61, f62, f63, f64, f65, f66, f67, f68, f69, f70, f71, f72, f73, f74, f75, f76, f77, f78, f79, f80, f81, f82, f83, f84, f85, f86, f87, f88, f89, f90, f91, f92, f93, f94, f95, f96, f97, f98, f99, f100, f101, f102, f103, f104, f105, f106, f107, f108, f109, f110, f111, f112, f113, f114, f115, f116, f117, f118, f119, f120, f121, f122, f123, f124, f125, f126, f127, f128, f129, f130, f131, f132, f133, f134, f135, f136, f137, f138, f139, f140, f141, f142, f143, f144, f145, f146, f147, f148, f149, f150, f151, f152, f153, f154, f155, f156, f157, f158, f159, f160, f161, f162, f163, f164, f165, f166, f167, f168, f169, f170, f171, f172, f173, f174, f175, f176, f177, f178, f179, f180, f181, f182, f183, f184, f185, f186, f187, f188, f189, f190, f191, f192, f193, f194, f195, f196, f197, f198, f199, f200, f201, f202, f203, f204, f205, f206, f207, f208, f209, f210, f211, f212, f213, f214, f215, f216, f217, f218, f219, f220, f221, f222, f223, f224, f225, f226, f227, f228, f229, f230, f231, f232, f233, f234, f235, f236, f237, f238, f239, f240, f241, f242, f243, f244, f245, f246, f247, f248, f249, f250, f251, f252, f253, f254, f255, f256, f257, f258, f259, f260, f261, f262, f263, f264, f265, f266, f267, f268, f269, f270, f271, f272, f273, f274, f275, f276, f277, f278, f279, f280, f281, f282]
def tabs : List He.Tab := [(aG "DEEDS", ["side", "brick", "swap", "turn", "stretch", "more"])]
/-! ### the Hook -/
abbrev AlX : Type := Bool × List FV × List (Option (List (Option (Str × Int))))
def obsX (K : KF) : AlX := (facts.all (fun f => f K) && defs.all (fun d => d.ok K), defs.map (fun d => fnV K (d.ad K)), tabs.map fun t => He.dicW K (t.1 K))
def valX (w : World) : AlX := (true, defs.map DX.val, tabs.map fun t => some (He.keysIn w.params t.2))
/-- the addresses that the module's names reach, in order -/
def lits : List Addr := [0,2,3,4,6,22,23,24,25,35,36,37,43,49,50,51,52,53,54,55,56,57,58,64,70,71,72,73,74,75,76,77,78,79,85,91,92,93,94,95,96,97,98,99,100,106,112,113,114,115,116,117,118,119,120,121,131,132,133,139,145,146,147,148,149,150,151,152,153,154,160,166,167,168,169,170,171,172,173,174,175,181,187,188,189,190,191,192,193,194,195,196,202,208,209,210,211,212,213,214,215,216,217,227,228,229,235,241,242,243,244,245,246,247,248,249,250,256,262,263,264,265,266,267,268,269,270,271,281,282,283,286,287,288,289,290,291,292,293,294,295,296,297,298,299,300,301,302,303,304,305,306,307,308,309,310,311,312,313,314,315,316,317,318,319,320,321,322,323,324,325,326,327,328,329,330,331,332,333,334,335,336,337,338,339,340,341,342,343,344,345,346,347,348,349,350,351,352,353,354,355,356,357,358,359,360,361,362,363,364,365,366,367,368,369,370,371,372,373,374,375,376,377,378,379,380,381,382,383,384,385,386,387,388,389,390,391,392,393,394,395,396,397,398,399,400,401,402,403,404,405,406,407,408,409,410,411,412,413,414,415,416,417,418,419,420,421,422,423,424,425,426,427,428,429,430,431,432,433,434,435,436,437,438,439,440,441,442,443,444,445,446,447,448,449,450,451,452,453,461,462,463,464,465,466,467,468,469,470,471,472,473,474,480,481,482,488,489,490,496,497,498,504,505,506,512,513,514,515,516,517,518,519,520,521,522,523,524,525,526,527,528,529,530,531,532,533,534,535,536,537,538,539,540,541,542,543,544,545,546,547,548,549,550,551,552,553,554,555,556,557,558,559,560,561,562,563,564,565,566,567,568,569,570,571,572,573,574,575,576,577,578,579,580,581,582,583,584,585,586,587,588,589,590,591,592,593,594,595,596,597,598,599,600,601,602,603,604,605,606,607,608,609,610,611,612,613,614,615,616,617,618,619,620,621,622,623,624,625,626,627,628,629,630,631,632,633,634,635,636,637,638,639,640,641,642,643,644,645,646,647,648,649,650,651,652,653,654,655,656,657,658,659,660,661,662,663,664,665,666,667,668,669,670,671,672,673,674,675,676,677,678,679,680,681,682,683,684,685,686,687,688,689,690,691,692,693,694,695,696,702,708,709,710,711,712,713,714,720,721,722,723,724,730,731,732,733,734,735,736,737,738,739,740,741,742,743,744,745,746,747,748,749,752,753,754,755,756,757,758,759,760,761,762,763,764,765,766,767,768,769,770,771,772,773,774,775,776,777,778,779,780,781,782,783,784,785,786,787,788,789,790,791,792,793,794,795,796,797,798,799,800,801,802,803,804,805,806,807,808,809,810,811,812,813,814,815,816,817,818,819,820,821,822,823,824,825,826,827,828,829,830,831,832,833,834,835,836,837,838,839,840,841,842,843,844,845,846,847,848,849,850,851,852,853,854,855,856,857,858,859,860,861,862,863,864,865,866,867,868,869,870,871,872,873,874,875,876,877,878,879,880,881,882,883,884,885,886,887,888,889,890,891,892,893,894,895,896,897,898,899,900,901,902,903,904,905,906,907,908,909,910,911,912,913,914,915,916,917,918,919,920,921,922,923,924,925,926,927,928,929,930,931,932,933]
def obsXG (g : Addr → Option Obj) : AlX := obsX (He.frG g lits)
def hk : PySem.W.Hook where
  α := AlX
  obs := fun s => obsXG s.heap.get?
  val := valX
  says := fun w h => ∃ K : KF, K.In h ∧ obsX K = valX w
  of := fun _ _ e => ⟨_, He.frG_in, e⟩
  keeps := fun _ _ _ ⟨K, hK, c⟩ k => ⟨K, PySem.W.Frag.In.keeps hK k, c⟩
def ob (s : PySem.W.SharedT) : AlX := obsXG (HandSHeadRun.getT s)
theorem ob_eq (s : PySem.W.SharedT) : ob s = hk.obs s.abs := by
  have e : HandSHeadRun.getT s = s.abs.heap.get? := funext (HandSHeadRun.getT_eq s)
  unfold ob
  rw [e] <;> rfl
/-- what the walk leans on -/
structure Tx (w : World) (K : KF) (mg : Str → Option Value) : Prop where
  ns : ∃ h : Heap, K.In h ∧ h.Ns mainGlobals mg
  says : obsX K = valX w
section
variable {w : World} {K : KF} {mg : Str → Option Value}
theorem Tx.both (T : Tx w K mg) : (facts.all (fun f => f K) && defs.all (fun d => d.ok K)) = true := congrArg (fun z : AlX => z.1) T.says
theorem Tx.fact (T : Tx w K mg) (i : Nat) {f : KF → Bool} (h : facts[i]? = some f := by rfl) : f K = true :=
  List.all_eq_true.mp (He.ba T.both).1 f (List.mem_of_getElem? h)
theorem Tx.def_ (T : Tx w K mg) (i : Nat) {d : DX} (h : defs[i]? = some d := by rfl) : fnV K (d.ad K) = d.val ∧ d.ok K = true := by
  have e : defs.map (fun d => fnV K (d.ad K)) = defs.map DX.val := congrArg (fun z : AlX => z.2.1) T.says
  have e2 : (defs.map fun d => fnV K (d.ad K))[i]? = (defs.map DX.val)[i]? := by rw [e]
  rw [List.getElem?_map, List.getElem?_map, h] at e2
  exact ⟨Option.some.inj e2, List.all_eq_true.mp (He.ba T.both).2 d (List.mem_of_getElem? h)⟩
theorem Tx.deeds (T : Tx w K mg) : ∃ es n, KDict K w (He.ga K "DEEDS") es n := by
  have e : tabs.map (fun t => He.dicW K (t.1 K)) = tabs.map fun t => some (He.keysIn w.params t.2) := congrArg (fun z : AlX => z.2.2) T.says
  have e2 : (tabs.map fun t => He.dicW K (t.1 K))[0]? = (tabs.map fun t => some (He.keysIn w.params t.2))[0]? := by rw [e]
  exact He.dicW_ok (Option.some.inj e2)
theorem Tx.glo (T : Tx w K mg) {x : Str} (c : (He.Fa.glo x).ok K = true) : mg x = some (.ref (He.ga K x)) := by
  obtain ⟨h, X, G⟩ := T.ns
  exact He.glo_ok X G c
theorem Tx.glo2 (T : Tx w K mg) {x : Str} {a : Addr} (c : He.eqO (PySem.W.nsIn K mainGlobals x) (some (some (.ref a))) = true) : mg x = some (.ref a) := by
  obtain ⟨h, X, G⟩ := T.ns
  exact PySem.W.mg_of X G (He.eqO_ok c)
theorem Tx.free (T : Tx w K mg) {x : Str} (c : (He.Fa.free x).ok K = true) : mg x = none := by
  obtain ⟨h, X, G⟩ := T.ns
  exact He.free_ok X G c
theorem Tx.int (T : Tx w K mg) {x : Str} {i : Int} (c : (He.Fa.int x i).ok K = true) : ∃ u, mg x = some u ∧ RelV (.int i) u := by
  obtain ⟨h, X, G⟩ := T.ns
  obtain ⟨t, e⟩ := He.int_ok X G c
  exact ⟨_, e, t, rfl⟩
theorem Tx.str (T : Tx w K mg) {x z : Str} (c : (He.Fa.str x z).ok K = true) : ∃ u, mg x = some u ∧ RelV (.str z) u := by
  obtain ⟨h, X, G⟩ := T.ns
  obtain ⟨t, e⟩ := He.str_ok X G c
  exact ⟨_, e, t, rfl⟩
theorem deed_of {x : Str} {a : Addr} (h : (match PySem.W.nsIn K (He.ga K "DEEDS") x with | some (some (.ref g)) => decide (g = a) | _ => false) = true) : ∃ u, PySem.W.nsIn K (He.ga K "DEEDS") x = some (some u) ∧ RelV (.ref a) u := by
  split at h
  · rename_i g hg
    have e := of_decide_eq_true h
    subst e
    exact ⟨_, hg, rfl⟩
  · cases h
theorem Tx.g_is_integer (T : Tx w K mg) : mg "is_integer" = some (.ref (He.ga K "is_integer")) := by
  have hf := T.fact 0
  exact T.glo hf
theorem Tx.g_sides_error (T : Tx w K mg) : mg "sides_error" = some (.ref (He.ga K "sides_error")) := by
  have hf := T.fact 1
  exact T.glo hf
theorem Tx.g_kinds_error (T : Tx w K mg) : mg "kinds_error" = some (.ref (He.ga K "kinds_error")) := by
  have hf := T.fact 2
  exact T.glo hf
theorem Tx.g_pair_error (T : Tx w K mg) : mg "pair_error" = some (.ref (He.ga K "pair_error")) := by
  have hf := T.fact 3
  exact T.glo hf
theorem Tx.g_box_error (T : Tx w K mg) : mg "box_error" = some (.ref (He.ga K "box_error")) := by
  have hf := T.fact 4
  exact T.glo hf
theorem Tx.g_with_side (T : Tx w K mg) : mg "with_side" = some (.ref (He.ga K "with_side")) := by
  have hf := T.fact 5
  exact T.glo hf
theorem Tx.g_common (T : Tx w K mg) : mg "common" = some (.ref (He.ga K "common")) := by
  have hf := T.fact 6
  exact T.glo hf
theorem Tx.g_inverse (T : Tx w K mg) : mg "inverse" = some (.ref (He.ga K "inverse")) := by
  have hf := T.fact 7
  exact T.glo hf
theorem Tx.g_least_times (T : Tx w K mg) : mg "least_times" = some (.ref (He.ga K "least_times")) := by
  have hf := T.fact 8
  exact T.glo hf
theorem Tx.g_rests (T : Tx w K mg) : mg "rests" = some (.ref (He.ga K "rests")) := by
  have hf := T.fact 9
  exact T.glo hf
theorem Tx.g_bar_along (T : Tx w K mg) : mg "bar_along" = some (.ref (He.ga K "bar_along")) := by
  have hf := T.fact 10
  exact T.glo hf
theorem Tx.g_crossing (T : Tx w K mg) : mg "crossing" = some (.ref (He.ga K "crossing")) := by
  have hf := T.fact 11
  exact T.glo hf
theorem Tx.g_paper (T : Tx w K mg) : mg "paper" = some (.ref (He.ga K "paper")) := by
  have hf := T.fact 12
  exact T.glo hf
theorem Tx.g_is_filled (T : Tx w K mg) : mg "is_filled" = some (.ref (He.ga K "is_filled")) := by
  have hf := T.fact 13
  exact T.glo hf
theorem Tx.g_sides_text (T : Tx w K mg) : mg "sides_text" = some (.ref (He.ga K "sides_text")) := by
  have hf := T.fact 14
  exact T.glo hf
theorem Tx.g_kinds_text (T : Tx w K mg) : mg "kinds_text" = some (.ref (He.ga K "kinds_text")) := by
  have hf := T.fact 15
  exact T.glo hf
theorem Tx.g_require_axis (T : Tx w K mg) : mg "require_axis" = some (.ref (He.ga K "require_axis")) := by
  have hf := T.fact 16
  exact T.glo hf
theorem Tx.g_require_side (T : Tx w K mg) : mg "require_side" = some (.ref (He.ga K "require_side")) := by
  have hf := T.fact 17
  exact T.glo hf
theorem Tx.g_put_side (T : Tx w K mg) : mg "put_side" = some (.ref (He.ga K "put_side")) := by
  have hf := T.fact 18
  exact T.glo hf
theorem Tx.g_put_brick (T : Tx w K mg) : mg "put_brick" = some (.ref (He.ga K "put_brick")) := by
  have hf := T.fact 19
  exact T.glo hf
theorem Tx.g_swapped (T : Tx w K mg) : mg "swapped" = some (.ref (He.ga K "swapped")) := by
  have hf := T.fact 20
  exact T.glo hf
theorem Tx.g_is_order (T : Tx w K mg) : mg "is_order" = some (.ref (He.ga K "is_order")) := by
  have hf := T.fact 21
  exact T.glo hf
theorem Tx.g_turned (T : Tx w K mg) : mg "turned" = some (.ref (He.ga K "turned")) := by
  have hf := T.fact 22
  exact T.glo hf
theorem Tx.g_stretched (T : Tx w K mg) : mg "stretched" = some (.ref (He.ga K "stretched")) := by
  have hf := T.fact 23
  exact T.glo hf
theorem Tx.g_more (T : Tx w K mg) : mg "more" = some (.ref (He.ga K "more")) := by
  have hf := T.fact 24
  exact T.glo hf
theorem Tx.g_law_deck (T : Tx w K mg) : mg "_law_deck" = some (.ref (He.ga K "_law_deck")) := by
  have hf := T.fact 25
  exact T.glo hf
theorem Tx.g_law_draw (T : Tx w K mg) : mg "_law_draw" = some (.ref (He.ga K "_law_draw")) := by
  have hf := T.fact 26
  exact T.glo hf
theorem Tx.g_law_one (T : Tx w K mg) : mg "_law_one" = some (.ref (He.ga K "_law_one")) := by
  have hf := T.fact 27
  exact T.glo hf
theorem Tx.g_law_mixed (T : Tx w K mg) : mg "_law_mixed" = some (.ref (He.ga K "_law_mixed")) := by
  have hf := T.fact 28
  exact T.glo hf
theorem Tx.g_law_divisor (T : Tx w K mg) : mg "_law_divisor" = some (.ref (He.ga K "_law_divisor")) := by
  have hf := T.fact 29
  exact T.glo hf
theorem Tx.g_law_odd (T : Tx w K mg) : mg "_law_odd" = some (.ref (He.ga K "_law_odd")) := by
  have hf := T.fact 30
  exact T.glo hf
theorem Tx.g_law_bent (T : Tx w K mg) : mg "_law_bent" = some (.ref (He.ga K "_law_bent")) := by
  have hf := T.fact 31
  exact T.glo hf
theorem Tx.g_law_whole (T : Tx w K mg) : mg "_law_whole" = some (.ref (He.ga K "_law_whole")) := by
  have hf := T.fact 32
  exact T.glo hf
theorem Tx.g_law_sides (T : Tx w K mg) : mg "_law_sides" = some (.ref (He.ga K "_law_sides")) := by
  have hf := T.fact 33
  exact T.glo hf
theorem Tx.g_law_pair (T : Tx w K mg) : mg "_law_pair" = some (.ref (He.ga K "_law_pair")) := by
  have hf := T.fact 34
  exact T.glo hf
theorem Tx.g_law_lcm (T : Tx w K mg) : mg "_law_lcm" = some (.ref (He.ga K "_law_lcm")) := by
  have hf := T.fact 35
  exact T.glo hf
theorem Tx.g_law_cut_box (T : Tx w K mg) : mg "_law_cut_box" = some (.ref (He.ga K "_law_cut_box")) := by
  have hf := T.fact 36
  exact T.glo hf
theorem Tx.g_law_plain_box (T : Tx w K mg) : mg "_law_plain_box" = some (.ref (He.ga K "_law_plain_box")) := by
  have hf := T.fact 37
  exact T.glo hf
theorem Tx.g_law_with (T : Tx w K mg) : mg "_law_with" = some (.ref (He.ga K "_law_with")) := by
  have hf := T.fact 38
  exact T.glo hf
theorem Tx.g_law_page_after (T : Tx w K mg) : mg "_law_page_after" = some (.ref (He.ga K "_law_page_after")) := by
  have hf := T.fact 39
  exact T.glo hf
theorem Tx.g_law_turned_page (T : Tx w K mg) : mg "_law_turned_page" = some (.ref (He.ga K "_law_turned_page")) := by
  have hf := T.fact 40
  exact T.glo hf
theorem Tx.g_law_more_page (T : Tx w K mg) : mg "_law_more_page" = some (.ref (He.ga K "_law_more_page")) := by
  have hf := T.fact 41
  exact T.glo hf
theorem Tx.g_law_edit (T : Tx w K mg) : mg "_law_edit" = some (.ref (He.ga K "_law_edit")) := by
  have hf := T.fact 42
  exact T.glo hf
theorem Tx.g_law_do (T : Tx w K mg) : mg "_law_do" = some (.ref (He.ga K "_law_do")) := by
  have hf := T.fact 43
  exact T.glo hf
theorem Tx.g_law_done (T : Tx w K mg) : mg "_law_done" = some (.ref (He.ga K "_law_done")) := by
  have hf := T.fact 44
  exact T.glo hf
theorem Tx.g_law_shows (T : Tx w K mg) : mg "_law_shows" = some (.ref (He.ga K "_law_shows")) := by
  have hf := T.fact 45
  exact T.glo hf
theorem Tx.g_law_says (T : Tx w K mg) : mg "_law_says" = some (.ref (He.ga K "_law_says")) := by
  have hf := T.fact 46
  exact T.glo hf
theorem Tx.g_law_is_small (T : Tx w K mg) : mg "_law_is_small" = some (.ref (He.ga K "_law_is_small")) := by
  have hf := T.fact 47
  exact T.glo hf
theorem Tx.g_law_due (T : Tx w K mg) : mg "_law_due" = some (.ref (He.ga K "_law_due")) := by
  have hf := T.fact 48
  exact T.glo hf
theorem Tx.g_law_small_edit (T : Tx w K mg) : mg "_law_small_edit" = some (.ref (He.ga K "_law_small_edit")) := by
  have hf := T.fact 49
  exact T.glo hf
theorem Tx.g_law_start (T : Tx w K mg) : mg "_law_start" = some (.ref (He.ga K "_law_start")) := by
  have hf := T.fact 50
  exact T.glo hf
theorem Tx.g_law_worked (T : Tx w K mg) : mg "_law_worked" = some (.ref (He.ga K "_law_worked")) := by
  have hf := T.fact 51
  exact T.glo hf
theorem Tx.g_law (T : Tx w K mg) : mg "law" = some (.ref (He.ga K "law")) := by
  have hf := T.fact 52
  exact T.glo hf
theorem Tx.g_Yard (T : Tx w K mg) : mg "Yard" = some (.ref (He.ga K "Yard")) := by
  have hf := T.fact 53
  exact T.glo hf
theorem Tx.g_FullYard (T : Tx w K mg) : mg "FullYard" = some (.ref (He.ga K "FullYard")) := by
  have hf := T.fact 54
  exact T.glo hf
theorem Tx.g_NoAxis (T : Tx w K mg) : mg "NoAxis" = some (.ref (He.ga K "NoAxis")) := by
  have hf := T.fact 55
  exact T.glo hf
theorem Tx.g_NoKind (T : Tx w K mg) : mg "NoKind" = some (.ref (He.ga K "NoKind")) := by
  have hf := T.fact 56
  exact T.glo hf
theorem Tx.g_BadSide (T : Tx w K mg) : mg "BadSide" = some (.ref (He.ga K "BadSide")) := by
  have hf := T.fact 57
  exact T.glo hf
theorem Tx.g_BadOrder (T : Tx w K mg) : mg "BadOrder" = some (.ref (He.ga K "BadOrder")) := by
  have hf := T.fact 58
  exact T.glo hf
theorem Tx.g_TooLarge (T : Tx w K mg) : mg "TooLarge" = some (.ref (He.ga K "TooLarge")) := by
  have hf := T.fact 59
  exact T.glo hf
theorem Tx.g_NotFilled (T : Tx w K mg) : mg "NotFilled" = some (.ref (He.ga K "NotFilled")) := by
  have hf := T.fact 60
  exact T.glo hf
theorem Tx.g_NothingToUndo (T : Tx w K mg) : mg "NothingToUndo" = some (.ref (He.ga K "NothingToUndo")) := by
  have hf := T.fact 61
  exact T.glo hf
theorem Tx.g_TooManyEdits (T : Tx w K mg) : mg "TooManyEdits" = some (.ref (He.ga K "TooManyEdits")) := by
  have hf := T.fact 62
  exact T.glo hf
theorem Tx.g_Busy (T : Tx w K mg) : mg "Busy" = some (.ref (He.ga K "Busy")) := by
  have hf := T.fact 63
  exact T.glo hf
theorem Tx.g_BadKinds (T : Tx w K mg) : mg "BadKinds" = some (.ref (He.ga K "BadKinds")) := by
  have hf := T.fact 64
  exact T.glo hf
theorem Tx.g_BadBox (T : Tx w K mg) : mg "BadBox" = some (.ref (He.ga K "BadBox")) := by
  have hf := T.fact 65
  exact T.glo hf
theorem Tx.g_DEEDS (T : Tx w K mg) : mg "DEEDS" = some (.ref (He.ga K "DEEDS")) := by
  have hf := T.fact 66
  exact T.glo hf
theorem Tx.g_paper_papers (T : Tx w K mg) : mg "paper_papers" = some (.ref (He.ga K "paper")) := by
  have hf := T.fact 67
  exact T.glo2 hf
theorem Tx.n_len (T : Tx w K mg) : mg "len" = none := by
  have hf := T.fact 68
  exact T.free hf
theorem Tx.n_isinstance (T : Tx w K mg) : mg "isinstance" = none := by
  have hf := T.fact 69
  exact T.free hf
theorem Tx.n_int (T : Tx w K mg) : mg "int" = none := by
  have hf := T.fact 70
  exact T.free hf
theorem Tx.n_bool (T : Tx w K mg) : mg "bool" = none := by
  have hf := T.fact 71
  exact T.free hf
theorem Tx.n_tuple (T : Tx w K mg) : mg "tuple" = none := by
  have hf := T.fact 72
  exact T.free hf
theorem Tx.n_list (T : Tx w K mg) : mg "list" = none := by
  have hf := T.fact 73
  exact T.free hf
theorem Tx.n_enumerate (T : Tx w K mg) : mg "enumerate" = none := by
  have hf := T.fact 74
  exact T.free hf
theorem Tx.n_set (T : Tx w K mg) : mg "set" = none := by
  have hf := T.fact 75
  exact T.free hf
theorem Tx.n_all (T : Tx w K mg) : mg "all" = none := by
  have hf := T.fact 76
  exact T.free hf
theorem Tx.n_max (T : Tx w K mg) : mg "max" = none := by
  have hf := T.fact 77
  exact T.free hf
theorem Tx.n_str (T : Tx w K mg) : mg "str" = none := by
  have hf := T.fact 78
  exact T.free hf
theorem Tx.n_range (T : Tx w K mg) : mg "range" = none := by
  have hf := T.fact 79
  exact T.free hf
theorem Tx.n_sorted (T : Tx w K mg) : mg "sorted" = none := by
  have hf := T.fact 80
  exact T.free hf
theorem Tx.n_abs (T : Tx w K mg) : mg "abs" = none := by
  have hf := T.fact 81
  exact T.free hf
theorem Tx.n_repr (T : Tx w K mg) : mg "repr" = none := by
  have hf := T.fact 82
  exact T.free hf
theorem Tx.n_super (T : Tx w K mg) : mg "super" = none := by
  have hf := T.fact 83
  exact T.free hf
theorem Tx.c_MAX_DIMS (T : Tx w K mg) : ∃ u, mg "MAX_DIMS" = some u ∧ RelV (.int 4) u := by
  have hf := T.fact 84
  exact T.int hf
theorem Tx.c_MAX_SIDE (T : Tx w K mg) : ∃ u, mg "MAX_SIDE" = some u ∧ RelV (.int 1000000000000) u := by
  have hf := T.fact 85
  exact T.int hf
theorem Tx.c_MAX_KINDS (T : Tx w K mg) : ∃ u, mg "MAX_KINDS" = some u ∧ RelV (.int 4) u := by
  have hf := T.fact 86
  exact T.int hf
theorem Tx.c_HISTORY (T : Tx w K mg) : ∃ u, mg "HISTORY" = some u ∧ RelV (.int 30) u := by
  have hf := T.fact 87
  exact T.int hf
theorem Tx.c_CUT (T : Tx w K mg) : ∃ u, mg "CUT" = some u ∧ RelV (.str "cut") u := by
  have hf := T.fact 88
  exact T.str hf
theorem Tx.c_SIDES (T : Tx w K mg) : ∃ u, mg "SIDES" = some u ∧ RelV (.str "sides") u := by
  have hf := T.fact 89
  exact T.str hf
theorem Tx.c_STEP (T : Tx w K mg) : ∃ u, mg "STEP" = some u ∧ RelV (.str "step") u := by
  have hf := T.fact 90
  exact T.str hf
theorem Tx.c_GAP (T : Tx w K mg) : ∃ u, mg "GAP" = some u ∧ RelV (.str "gap") u := by
  have hf := T.fact 91
  exact T.str hf
theorem Tx.c_FILLED (T : Tx w K mg) : ∃ u, mg "FILLED" = some u ∧ RelV (.str "filled") u := by
  have hf := T.fact 92
  exact T.str hf
theorem Tx.c_BARRED (T : Tx w K mg) : ∃ u, mg "BARRED" = some u ∧ RelV (.str "barred") u := by
  have hf := T.fact 93
  exact T.str hf
theorem Tx.c_SAME (T : Tx w K mg) : ∃ u, mg "SAME" = some u ∧ RelV (.str "same") u := by
  have hf := T.fact 94
  exact T.str hf
theorem Tx.cls_Y (T : Tx w K mg) : Cls K (He.ga K "Yard") := by
  have hf := T.fact 95
  exact He.cls_ok hf
theorem Tx.no_Y_pages (T : Tx w K mg) : NoAttr K (He.ga K "Yard") "pages" := by
  have hf := T.fact 96
  exact He.noat_ok hf
theorem Tx.no_Y_look (T : Tx w K mg) : NoAttr K (He.ga K "Yard") "look" := by
  have hf := T.fact 97
  exact He.noat_ok hf
theorem Tx.no_Y_word (T : Tx w K mg) : NoAttr K (He.ga K "Yard") "word" := by
  have hf := T.fact 98
  exact He.noat_ok hf
theorem Tx.no_Y_is_busy (T : Tx w K mg) : NoAttr K (He.ga K "Yard") "is_busy" := by
  have hf := T.fact 99
  exact He.noat_ok hf
theorem Tx.mk_Y (T : Tx w K mg) : Mk K (He.ga K "Yard") (He.ma K (He.ga K "Yard") "__init__") := by
  have hf := T.fact 100
  exact He.mkr_ok hf
theorem Tx.con_Y (T : Tx w K mg) : ∃ u, Con K (He.ga K "Yard") "SORT" (.str "yard") u := by
  have hf := T.fact 101
  exact He.conB_ok hf
theorem Tx.p_Y_pair (T : Tx w K mg) : PropOf K (He.ga K "Yard") "pair" (He.ma K (He.ga K "Yard") "pair") (pget K (He.ma K (He.ga K "Yard") "pair")) := by
  have hf := T.fact 102
  exact propB_ok hf
theorem Tx.p_Y_box (T : Tx w K mg) : PropOf K (He.ga K "Yard") "box" (He.ma K (He.ga K "Yard") "box") (pget K (He.ma K (He.ga K "Yard") "box")) := by
  have hf := T.fact 103
  exact propB_ok hf
theorem Tx.p_Y_version (T : Tx w K mg) : PropOf K (He.ga K "Yard") "version" (He.ma K (He.ga K "Yard") "version") (pget K (He.ma K (He.ga K "Yard") "version")) := by
  have hf := T.fact 104
  exact propB_ok hf
theorem Tx.p_Y_news (T : Tx w K mg) : PropOf K (He.ga K "Yard") "news" (He.ma K (He.ga K "Yard") "news") (pget K (He.ma K (He.ga K "Yard") "news")) := by
  have hf := T.fact 105
  exact propB_ok hf
theorem Tx.m_Y_init (T : Tx w K mg) : Meth K (He.ga K "Yard") "__init__" (He.ma K (He.ga K "Yard") "__init__") := by
  have hf := T.fact 106
  exact He.meth_ok hf
theorem Tx.m_Y_stand (T : Tx w K mg) : Meth K (He.ga K "Yard") "stand" (He.ma K (He.ga K "Yard") "stand") := by
  have hf := T.fact 107
  exact He.meth_ok hf
theorem Tx.m_Y_judge (T : Tx w K mg) : Meth K (He.ga K "Yard") "judge" (He.ma K (He.ga K "Yard") "judge") := by
  have hf := T.fact 108
  exact He.meth_ok hf
theorem Tx.m_Y_require_free (T : Tx w K mg) : Meth K (He.ga K "Yard") "require_free" (He.ma K (He.ga K "Yard") "require_free") := by
  have hf := T.fact 109
  exact He.meth_ok hf
theorem Tx.m_Y_tell (T : Tx w K mg) : Meth K (He.ga K "Yard") "tell" (He.ma K (He.ga K "Yard") "tell") := by
  have hf := T.fact 110
  exact He.meth_ok hf
theorem Tx.m_Y_do (T : Tx w K mg) : Meth K (He.ga K "Yard") "do" (He.ma K (He.ga K "Yard") "do") := by
  have hf := T.fact 111
  exact He.meth_ok hf
theorem Tx.m_Y_edit (T : Tx w K mg) : Meth K (He.ga K "Yard") "edit" (He.ma K (He.ga K "Yard") "edit") := by
  have hf := T.fact 112
  exact He.meth_ok hf
theorem Tx.m_Y_side (T : Tx w K mg) : Meth K (He.ga K "Yard") "side" (He.ma K (He.ga K "Yard") "side") := by
  have hf := T.fact 113
  exact He.meth_ok hf
theorem Tx.m_Y_brick (T : Tx w K mg) : Meth K (He.ga K "Yard") "brick" (He.ma K (He.ga K "Yard") "brick") := by
  have hf := T.fact 114
  exact He.meth_ok hf
theorem Tx.m_Y_swap (T : Tx w K mg) : Meth K (He.ga K "Yard") "swap" (He.ma K (He.ga K "Yard") "swap") := by
  have hf := T.fact 115
  exact He.meth_ok hf
theorem Tx.m_Y_turn (T : Tx w K mg) : Meth K (He.ga K "Yard") "turn" (He.ma K (He.ga K "Yard") "turn") := by
  have hf := T.fact 116
  exact He.meth_ok hf
theorem Tx.m_Y_stretch (T : Tx w K mg) : Meth K (He.ga K "Yard") "stretch" (He.ma K (He.ga K "Yard") "stretch") := by
  have hf := T.fact 117
  exact He.meth_ok hf
theorem Tx.m_Y_undo (T : Tx w K mg) : Meth K (He.ga K "Yard") "undo" (He.ma K (He.ga K "Yard") "undo") := by
  have hf := T.fact 118
  exact He.meth_ok hf
theorem Tx.m_Y_state_at (T : Tx w K mg) : Meth K (He.ga K "Yard") "state_at" (He.ma K (He.ga K "Yard") "state_at") := by
  have hf := T.fact 119
  exact He.meth_ok hf
theorem Tx.m_Y_each_version (T : Tx w K mg) : Meth K (He.ga K "Yard") "each_version" (He.ma K (He.ga K "Yard") "each_version") := by
  have hf := T.fact 120
  exact He.meth_ok hf
theorem Tx.m_Y_fresh (T : Tx w K mg) : Meth K (He.ga K "Yard") "fresh" (He.ma K (He.ga K "Yard") "fresh") := by
  have hf := T.fact 121
  exact He.meth_ok hf
theorem Tx.m_Y_copy (T : Tx w K mg) : Meth K (He.ga K "Yard") "copy" (He.ma K (He.ga K "Yard") "copy") := by
  have hf := T.fact 122
  exact He.meth_ok hf
theorem Tx.m_Y_iadd (T : Tx w K mg) : Meth K (He.ga K "Yard") "__iadd__" (He.ma K (He.ga K "Yard") "__iadd__") := by
  have hf := T.fact 123
  exact He.meth_ok hf
theorem Tx.m_Y_len (T : Tx w K mg) : Meth K (He.ga K "Yard") "__len__" (He.ma K (He.ga K "Yard") "__len__") := by
  have hf := T.fact 124
  exact He.meth_ok hf
theorem Tx.m_Y_bool (T : Tx w K mg) : Meth K (He.ga K "Yard") "__bool__" (He.ma K (He.ga K "Yard") "__bool__") := by
  have hf := T.fact 125
  exact He.meth_ok hf
theorem Tx.m_Y_str (T : Tx w K mg) : Meth K (He.ga K "Yard") "__str__" (He.ma K (He.ga K "Yard") "__str__") := by
  have hf := T.fact 126
  exact He.meth_ok hf
theorem Tx.m_Y_eq (T : Tx w K mg) : Meth K (He.ga K "Yard") "__eq__" (He.ma K (He.ga K "Yard") "__eq__") := by
  have hf := T.fact 127
  exact He.meth_ok hf
theorem Tx.ne_Y (T : Tx w K mg) : PySem.W.findIn K (.ref (He.ga K "Yard")) "__ne__" = some (some (.builtin "object.__ne__")) := by
  have hf := T.fact 128
  exact He.eqO_ok hf
theorem Tx.k_Y_Y (T : Tx w K mg) : PySem.W.kitOne K (.ref (He.ga K "Yard")) (.ref (He.ga K "Yard")) = some true := by
  have hf := T.fact 129
  exact of_decide_eq_true hf
theorem Tx.k_Y_F (T : Tx w K mg) : PySem.W.kitOne K (.ref (He.ga K "Yard")) (.ref (He.ga K "FullYard")) = some false := by
  have hf := T.fact 130
  exact of_decide_eq_true hf
theorem Tx.kt_Y_tuple (T : Tx w K mg) : PySem.W.kitOne K (.type "tuple") (.ref (He.ga K "Yard")) = some false := by
  have hf := T.fact 131
  exact of_decide_eq_true hf
theorem Tx.nf_Y_tuple (T : Tx w K mg) : PySem.W.notFirst K (He.ga K "Yard") (.type "tuple") = true := by
  have hf := T.fact 132
  exact hf
theorem Tx.kt_Y_str (T : Tx w K mg) : PySem.W.kitOne K (.type "str") (.ref (He.ga K "Yard")) = some false := by
  have hf := T.fact 133
  exact of_decide_eq_true hf
theorem Tx.nf_Y_str (T : Tx w K mg) : PySem.W.notFirst K (He.ga K "Yard") (.type "str") = true := by
  have hf := T.fact 134
  exact hf
theorem Tx.kt_Y_NoneType (T : Tx w K mg) : PySem.W.kitOne K (.type "NoneType") (.ref (He.ga K "Yard")) = some false := by
  have hf := T.fact 135
  exact of_decide_eq_true hf
theorem Tx.nf_Y_NoneType (T : Tx w K mg) : PySem.W.notFirst K (He.ga K "Yard") (.type "NoneType") = true := by
  have hf := T.fact 136
  exact hf
theorem Tx.kt_Y_int (T : Tx w K mg) : PySem.W.kitOne K (.type "int") (.ref (He.ga K "Yard")) = some false := by
  have hf := T.fact 137
  exact of_decide_eq_true hf
theorem Tx.nf_Y_int (T : Tx w K mg) : PySem.W.notFirst K (He.ga K "Yard") (.type "int") = true := by
  have hf := T.fact 138
  exact hf
theorem Tx.kt_Y_list (T : Tx w K mg) : PySem.W.kitOne K (.type "list") (.ref (He.ga K "Yard")) = some false := by
  have hf := T.fact 139
  exact of_decide_eq_true hf
theorem Tx.nf_Y_list (T : Tx w K mg) : PySem.W.notFirst K (He.ga K "Yard") (.type "list") = true := by
  have hf := T.fact 140
  exact hf
theorem Tx.nf_Y (T : Tx w K mg) : PySem.W.notFirst K (He.ga K "Yard") (.ref (He.ga K "Yard")) = true := by
  have hf := T.fact 141
  exact hf
theorem Tx.cls_F (T : Tx w K mg) : Cls K (He.ga K "FullYard") := by
  have hf := T.fact 142
  exact He.cls_ok hf
theorem Tx.no_F_pages (T : Tx w K mg) : NoAttr K (He.ga K "FullYard") "pages" := by
  have hf := T.fact 143
  exact He.noat_ok hf
theorem Tx.no_F_look (T : Tx w K mg) : NoAttr K (He.ga K "FullYard") "look" := by
  have hf := T.fact 144
  exact He.noat_ok hf
theorem Tx.no_F_word (T : Tx w K mg) : NoAttr K (He.ga K "FullYard") "word" := by
  have hf := T.fact 145
  exact He.noat_ok hf
theorem Tx.no_F_is_busy (T : Tx w K mg) : NoAttr K (He.ga K "FullYard") "is_busy" := by
  have hf := T.fact 146
  exact He.noat_ok hf
theorem Tx.mk_F (T : Tx w K mg) : Mk K (He.ga K "FullYard") (He.ma K (He.ga K "FullYard") "__init__") := by
  have hf := T.fact 147
  exact He.mkr_ok hf
theorem Tx.con_F (T : Tx w K mg) : ∃ u, Con K (He.ga K "FullYard") "SORT" (.str "full") u := by
  have hf := T.fact 148
  exact He.conB_ok hf
theorem Tx.p_F_pair (T : Tx w K mg) : PropOf K (He.ga K "FullYard") "pair" (He.ma K (He.ga K "FullYard") "pair") (pget K (He.ma K (He.ga K "FullYard") "pair")) := by
  have hf := T.fact 149
  exact propB_ok hf
theorem Tx.p_F_box (T : Tx w K mg) : PropOf K (He.ga K "FullYard") "box" (He.ma K (He.ga K "FullYard") "box") (pget K (He.ma K (He.ga K "FullYard") "box")) := by
  have hf := T.fact 150
  exact propB_ok hf
theorem Tx.p_F_version (T : Tx w K mg) : PropOf K (He.ga K "FullYard") "version" (He.ma K (He.ga K "FullYard") "version") (pget K (He.ma K (He.ga K "FullYard") "version")) := by
  have hf := T.fact 151
  exact propB_ok hf
theorem Tx.p_F_news (T : Tx w K mg) : PropOf K (He.ga K "FullYard") "news" (He.ma K (He.ga K "FullYard") "news") (pget K (He.ma K (He.ga K "FullYard") "news")) := by
  have hf := T.fact 152
  exact propB_ok hf
theorem Tx.m_F_init (T : Tx w K mg) : Meth K (He.ga K "FullYard") "__init__" (He.ma K (He.ga K "FullYard") "__init__") := by
  have hf := T.fact 153
  exact He.meth_ok hf
theorem Tx.m_F_stand (T : Tx w K mg) : Meth K (He.ga K "FullYard") "stand" (He.ma K (He.ga K "FullYard") "stand") := by
  have hf := T.fact 154
  exact He.meth_ok hf
theorem Tx.m_F_judge (T : Tx w K mg) : Meth K (He.ga K "FullYard") "judge" (He.ma K (He.ga K "FullYard") "judge") := by
  have hf := T.fact 155
  exact He.meth_ok hf
theorem Tx.m_F_require_free (T : Tx w K mg) : Meth K (He.ga K "FullYard") "require_free" (He.ma K (He.ga K "FullYard") "require_free") := by
  have hf := T.fact 156
  exact He.meth_ok hf
theorem Tx.m_F_tell (T : Tx w K mg) : Meth K (He.ga K "FullYard") "tell" (He.ma K (He.ga K "FullYard") "tell") := by
  have hf := T.fact 157
  exact He.meth_ok hf
theorem Tx.m_F_do (T : Tx w K mg) : Meth K (He.ga K "FullYard") "do" (He.ma K (He.ga K "FullYard") "do") := by
  have hf := T.fact 158
  exact He.meth_ok hf
theorem Tx.m_F_edit (T : Tx w K mg) : Meth K (He.ga K "FullYard") "edit" (He.ma K (He.ga K "FullYard") "edit") := by
  have hf := T.fact 159
  exact He.meth_ok hf
theorem Tx.m_F_side (T : Tx w K mg) : Meth K (He.ga K "FullYard") "side" (He.ma K (He.ga K "FullYard") "side") := by
  have hf := T.fact 160
  exact He.meth_ok hf
theorem Tx.m_F_brick (T : Tx w K mg) : Meth K (He.ga K "FullYard") "brick" (He.ma K (He.ga K "FullYard") "brick") := by
  have hf := T.fact 161
  exact He.meth_ok hf
theorem Tx.m_F_swap (T : Tx w K mg) : Meth K (He.ga K "FullYard") "swap" (He.ma K (He.ga K "FullYard") "swap") := by
  have hf := T.fact 162
  exact He.meth_ok hf
theorem Tx.m_F_turn (T : Tx w K mg) : Meth K (He.ga K "FullYard") "turn" (He.ma K (He.ga K "FullYard") "turn") := by
  have hf := T.fact 163
  exact He.meth_ok hf
theorem Tx.m_F_stretch (T : Tx w K mg) : Meth K (He.ga K "FullYard") "stretch" (He.ma K (He.ga K "FullYard") "stretch") := by
  have hf := T.fact 164
  exact He.meth_ok hf
theorem Tx.m_F_undo (T : Tx w K mg) : Meth K (He.ga K "FullYard") "undo" (He.ma K (He.ga K "FullYard") "undo") := by
  have hf := T.fact 165
  exact He.meth_ok hf
theorem Tx.m_F_state_at (T : Tx w K mg) : Meth K (He.ga K "FullYard") "state_at" (He.ma K (He.ga K "FullYard") "state_at") := by
  have hf := T.fact 166
  exact He.meth_ok hf
theorem Tx.m_F_each_version (T : Tx w K mg) : Meth K (He.ga K "FullYard") "each_version" (He.ma K (He.ga K "FullYard") "each_version") := by
  have hf := T.fact 167
  exact He.meth_ok hf
theorem Tx.m_F_fresh (T : Tx w K mg) : Meth K (He.ga K "FullYard") "fresh" (He.ma K (He.ga K "FullYard") "fresh") := by
  have hf := T.fact 168
  exact He.meth_ok hf
theorem Tx.m_F_copy (T : Tx w K mg) : Meth K (He.ga K "FullYard") "copy" (He.ma K (He.ga K "FullYard") "copy") := by
  have hf := T.fact 169
  exact He.meth_ok hf
theorem Tx.m_F_iadd (T : Tx w K mg) : Meth K (He.ga K "FullYard") "__iadd__" (He.ma K (He.ga K "FullYard") "__iadd__") := by
  have hf := T.fact 170
  exact He.meth_ok hf
theorem Tx.m_F_len (T : Tx w K mg) : Meth K (He.ga K "FullYard") "__len__" (He.ma K (He.ga K "FullYard") "__len__") := by
  have hf := T.fact 171
  exact He.meth_ok hf
theorem Tx.m_F_bool (T : Tx w K mg) : Meth K (He.ga K "FullYard") "__bool__" (He.ma K (He.ga K "FullYard") "__bool__") := by
  have hf := T.fact 172
  exact He.meth_ok hf
theorem Tx.m_F_str (T : Tx w K mg) : Meth K (He.ga K "FullYard") "__str__" (He.ma K (He.ga K "FullYard") "__str__") := by
  have hf := T.fact 173
  exact He.meth_ok hf
theorem Tx.m_F_eq (T : Tx w K mg) : Meth K (He.ga K "FullYard") "__eq__" (He.ma K (He.ga K "FullYard") "__eq__") := by
  have hf := T.fact 174
  exact He.meth_ok hf
theorem Tx.ne_F (T : Tx w K mg) : PySem.W.findIn K (.ref (He.ga K "FullYard")) "__ne__" = some (some (.builtin "object.__ne__")) := by
  have hf := T.fact 175
  exact He.eqO_ok hf
theorem Tx.k_F_Y (T : Tx w K mg) : PySem.W.kitOne K (.ref (He.ga K "FullYard")) (.ref (He.ga K "Yard")) = some true := by
  have hf := T.fact 176
  exact of_decide_eq_true hf
theorem Tx.k_F_F (T : Tx w K mg) : PySem.W.kitOne K (.ref (He.ga K "FullYard")) (.ref (He.ga K "FullYard")) = some true := by
  have hf := T.fact 177
  exact of_decide_eq_true hf
theorem Tx.kt_F_tuple (T : Tx w K mg) : PySem.W.kitOne K (.type "tuple") (.ref (He.ga K "FullYard")) = some false := by
  have hf := T.fact 178
  exact of_decide_eq_true hf
theorem Tx.nf_F_tuple (T : Tx w K mg) : PySem.W.notFirst K (He.ga K "FullYard") (.type "tuple") = true := by
  have hf := T.fact 179
  exact hf
theorem Tx.kt_F_str (T : Tx w K mg) : PySem.W.kitOne K (.type "str") (.ref (He.ga K "FullYard")) = some false := by
  have hf := T.fact 180
  exact of_decide_eq_true hf
theorem Tx.nf_F_str (T : Tx w K mg) : PySem.W.notFirst K (He.ga K "FullYard") (.type "str") = true := by
  have hf := T.fact 181
  exact hf
theorem Tx.kt_F_NoneType (T : Tx w K mg) : PySem.W.kitOne K (.type "NoneType") (.ref (He.ga K "FullYard")) = some false := by
  have hf := T.fact 182
  exact of_decide_eq_true hf
theorem Tx.nf_F_NoneType (T : Tx w K mg) : PySem.W.notFirst K (He.ga K "FullYard") (.type "NoneType") = true := by
  have hf := T.fact 183
  exact hf
theorem Tx.kt_F_int (T : Tx w K mg) : PySem.W.kitOne K (.type "int") (.ref (He.ga K "FullYard")) = some false := by
  have hf := T.fact 184
  exact of_decide_eq_true hf
theorem Tx.nf_F_int (T : Tx w K mg) : PySem.W.notFirst K (He.ga K "FullYard") (.type "int") = true := by
  have hf := T.fact 185
  exact hf
theorem Tx.kt_F_list (T : Tx w K mg) : PySem.W.kitOne K (.type "list") (.ref (He.ga K "FullYard")) = some false := by
  have hf := T.fact 186
  exact of_decide_eq_true hf
theorem Tx.nf_F_list (T : Tx w K mg) : PySem.W.notFirst K (He.ga K "FullYard") (.type "list") = true := by
  have hf := T.fact 187
  exact hf
theorem Tx.nf_F (T : Tx w K mg) : PySem.W.notFirst K (He.ga K "FullYard") (.ref (He.ga K "FullYard")) = true := by
  have hf := T.fact 188
  exact hf
theorem Tx.nf_F_Y (T : Tx w K mg) : PySem.W.notFirst K (He.ga K "FullYard") (.ref (He.ga K "Yard")) = true := by
  have hf := T.fact 189
  exact hf
theorem Tx.sub_F_Y (T : Tx w K mg) : PySem.W.subIn K (.ref (He.ga K "FullYard")) (.ref (He.ga K "Yard")) = some true := by
  have hf := T.fact 190
  exact of_decide_eq_true hf
theorem Tx.mro_F_Y (T : Tx w K mg) : PySem.W.mroIn K (He.ga K "FullYard") (.ref (He.ga K "FullYard")) = some true := by
  have hf := T.fact 191
  exact of_decide_eq_true hf
theorem Tx.ne_cls (T : Tx w K mg) : He.ga K "FullYard" ≠ He.ga K "Yard" := by
  have hf := T.fact 192
  exact of_decide_eq_true hf
theorem Tx.same_stand (T : Tx w K mg) : He.ma K (He.ga K "FullYard") "stand" = He.ma K (He.ga K "Yard") "stand" := by
  have hf := T.fact 193
  exact of_decide_eq_true hf
theorem Tx.same_copy (T : Tx w K mg) : He.ma K (He.ga K "FullYard") "copy" = He.ma K (He.ga K "Yard") "copy" := by
  have hf := T.fact 194
  exact of_decide_eq_true hf
theorem Tx.same_eq (T : Tx w K mg) : He.ma K (He.ga K "FullYard") "__eq__" = He.ma K (He.ga K "Yard") "__eq__" := by
  have hf := T.fact 195
  exact of_decide_eq_true hf
theorem Tx.same_len (T : Tx w K mg) : He.ma K (He.ga K "FullYard") "__len__" = He.ma K (He.ga K "Yard") "__len__" := by
  have hf := T.fact 196
  exact of_decide_eq_true hf
theorem Tx.same_bool (T : Tx w K mg) : He.ma K (He.ga K "FullYard") "__bool__" = He.ma K (He.ga K "Yard") "__bool__" := by
  have hf := T.fact 197
  exact of_decide_eq_true hf
theorem Tx.same_str (T : Tx w K mg) : He.ma K (He.ga K "FullYard") "__str__" = He.ma K (He.ga K "Yard") "__str__" := by
  have hf := T.fact 198
  exact of_decide_eq_true hf
theorem Tx.same_tell (T : Tx w K mg) : He.ma K (He.ga K "FullYard") "tell" = He.ma K (He.ga K "Yard") "tell" := by
  have hf := T.fact 199
  exact of_decide_eq_true hf
theorem Tx.same_require_free (T : Tx w K mg) : He.ma K (He.ga K "FullYard") "require_free" = He.ma K (He.ga K "Yard") "require_free" := by
  have hf := T.fact 200
  exact of_decide_eq_true hf
theorem Tx.samep_pair (T : Tx w K mg) : He.ma K (He.ga K "FullYard") "pair" = He.ma K (He.ga K "Yard") "pair" := by
  have hf := T.fact 201
  exact of_decide_eq_true hf
theorem Tx.samep_box (T : Tx w K mg) : He.ma K (He.ga K "FullYard") "box" = He.ma K (He.ga K "Yard") "box" := by
  have hf := T.fact 202
  exact of_decide_eq_true hf
theorem Tx.samep_version (T : Tx w K mg) : He.ma K (He.ga K "FullYard") "version" = He.ma K (He.ga K "Yard") "version" := by
  have hf := T.fact 203
  exact of_decide_eq_true hf
theorem Tx.samep_news (T : Tx w K mg) : He.ma K (He.ga K "FullYard") "news" = He.ma K (He.ga K "Yard") "news" := by
  have hf := T.fact 204
  exact of_decide_eq_true hf
theorem Tx.superinit (T : Tx w K mg) : PySem.W.ks_superIn K (He.ga K "FullYard") (He.ga K "FullYard") "__init__" = some (some (.ref (He.ma K (He.ga K "Yard") "__init__"))) := by
  have hf := T.fact 205
  exact of_decide_eq_true hf
theorem Tx.oex_NoAxis (T : Tx w K mg) : OexC K (He.ga K "NoAxis") := by
  have hf := T.fact 206
  exact oexB_ok hf
theorem Tx.xf_NoAxis (T : Tx w K mg) : XfC K (He.ga K "NoAxis") := by
  have hf := T.fact 207
  exact xfB_ok hf
theorem Tx.nof_NoAxis (T : Tx w K mg) : PySem.W.findIn K (.ref (He.ga K "NoAxis")) "given" = some none := by
  have hf := T.fact 208
  exact He.eqO_ok hf
theorem Tx.ini_NoAxis (T : Tx w K mg) : PySem.W.findIn K (.ref (He.ga K "NoAxis")) "__init__" = some (some (.ref (He.ma K (He.ga K "NoAxis") "__init__"))) := by
  have hf := T.fact 209
  exact He.eqO_ok hf
theorem Tx.ty_NoAxis (T : Tx w K mg) : PySem.W.typeIn K (.ref (He.ma K (He.ga K "NoAxis") "__init__")) = some (.type "function") := by
  have hf := T.fact 210
  exact of_decide_eq_true hf
theorem Tx.su_NoAxis (T : Tx w K mg) : PySem.W.ks_superIn K (He.ga K "NoAxis") (He.ga K "NoAxis") "__init__" = some (some (.builtin "ValueError.__init__")) := by
  have hf := T.fact 211
  exact of_decide_eq_true hf
theorem Tx.mr_NoAxis (T : Tx w K mg) : PySem.W.mroIn K (He.ga K "NoAxis") (.ref (He.ga K "NoAxis")) = some true := by
  have hf := T.fact 212
  exact of_decide_eq_true hf
theorem Tx.oex_NoKind (T : Tx w K mg) : OexC K (He.ga K "NoKind") := by
  have hf := T.fact 213
  exact oexB_ok hf
theorem Tx.xf_NoKind (T : Tx w K mg) : XfC K (He.ga K "NoKind") := by
  have hf := T.fact 214
  exact xfB_ok hf
theorem Tx.nof_NoKind (T : Tx w K mg) : PySem.W.findIn K (.ref (He.ga K "NoKind")) "given" = some none := by
  have hf := T.fact 215
  exact He.eqO_ok hf
theorem Tx.ini_NoKind (T : Tx w K mg) : PySem.W.findIn K (.ref (He.ga K "NoKind")) "__init__" = some (some (.ref (He.ma K (He.ga K "NoKind") "__init__"))) := by
  have hf := T.fact 216
  exact He.eqO_ok hf
theorem Tx.ty_NoKind (T : Tx w K mg) : PySem.W.typeIn K (.ref (He.ma K (He.ga K "NoKind") "__init__")) = some (.type "function") := by
  have hf := T.fact 217
  exact of_decide_eq_true hf
theorem Tx.su_NoKind (T : Tx w K mg) : PySem.W.ks_superIn K (He.ga K "NoKind") (He.ga K "NoKind") "__init__" = some (some (.builtin "ValueError.__init__")) := by
  have hf := T.fact 218
  exact of_decide_eq_true hf
theorem Tx.mr_NoKind (T : Tx w K mg) : PySem.W.mroIn K (He.ga K "NoKind") (.ref (He.ga K "NoKind")) = some true := by
  have hf := T.fact 219
  exact of_decide_eq_true hf
theorem Tx.oex_BadSide (T : Tx w K mg) : OexC K (He.ga K "BadSide") := by
  have hf := T.fact 220
  exact oexB_ok hf
theorem Tx.xf_BadSide (T : Tx w K mg) : XfC K (He.ga K "BadSide") := by
  have hf := T.fact 221
  exact xfB_ok hf
theorem Tx.nof_BadSide (T : Tx w K mg) : PySem.W.findIn K (.ref (He.ga K "BadSide")) "given" = some none := by
  have hf := T.fact 222
  exact He.eqO_ok hf
theorem Tx.ini_BadSide (T : Tx w K mg) : PySem.W.findIn K (.ref (He.ga K "BadSide")) "__init__" = some (some (.ref (He.ma K (He.ga K "BadSide") "__init__"))) := by
  have hf := T.fact 223
  exact He.eqO_ok hf
theorem Tx.ty_BadSide (T : Tx w K mg) : PySem.W.typeIn K (.ref (He.ma K (He.ga K "BadSide") "__init__")) = some (.type "function") := by
  have hf := T.fact 224
  exact of_decide_eq_true hf
theorem Tx.su_BadSide (T : Tx w K mg) : PySem.W.ks_superIn K (He.ga K "BadSide") (He.ga K "BadSide") "__init__" = some (some (.builtin "ValueError.__init__")) := by
  have hf := T.fact 225
  exact of_decide_eq_true hf
theorem Tx.mr_BadSide (T : Tx w K mg) : PySem.W.mroIn K (He.ga K "BadSide") (.ref (He.ga K "BadSide")) = some true := by
  have hf := T.fact 226
  exact of_decide_eq_true hf
theorem Tx.oex_BadOrder (T : Tx w K mg) : OexC K (He.ga K "BadOrder") := by
  have hf := T.fact 227
  exact oexB_ok hf
theorem Tx.xf_BadOrder (T : Tx w K mg) : XfC K (He.ga K "BadOrder") := by
  have hf := T.fact 228
  exact xfB_ok hf
theorem Tx.nof_BadOrder (T : Tx w K mg) : PySem.W.findIn K (.ref (He.ga K "BadOrder")) "given" = some none := by
  have hf := T.fact 229
  exact He.eqO_ok hf
theorem Tx.ini_BadOrder (T : Tx w K mg) : PySem.W.findIn K (.ref (He.ga K "BadOrder")) "__init__" = some (some (.ref (He.ma K (He.ga K "BadOrder") "__init__"))) := by
  have hf := T.fact 230
  exact He.eqO_ok hf
theorem Tx.ty_BadOrder (T : Tx w K mg) : PySem.W.typeIn K (.ref (He.ma K (He.ga K "BadOrder") "__init__")) = some (.type "function") := by
  have hf := T.fact 231
  exact of_decide_eq_true hf
theorem Tx.su_BadOrder (T : Tx w K mg) : PySem.W.ks_superIn K (He.ga K "BadOrder") (He.ga K "BadOrder") "__init__" = some (some (.builtin "ValueError.__init__")) := by
  have hf := T.fact 232
  exact of_decide_eq_true hf
theorem Tx.mr_BadOrder (T : Tx w K mg) : PySem.W.mroIn K (He.ga K "BadOrder") (.ref (He.ga K "BadOrder")) = some true := by
  have hf := T.fact 233
  exact of_decide_eq_true hf
theorem Tx.oex_TooLarge (T : Tx w K mg) : OexC K (He.ga K "TooLarge") := by
  have hf := T.fact 234
  exact oexB_ok hf
theorem Tx.xf_TooLarge (T : Tx w K mg) : XfC K (He.ga K "TooLarge") := by
  have hf := T.fact 235
  exact xfB_ok hf
theorem Tx.nof_TooLarge (T : Tx w K mg) : PySem.W.findIn K (.ref (He.ga K "TooLarge")) "axis" = some none := by
  have hf := T.fact 236
  exact He.eqO_ok hf
theorem Tx.ini_TooLarge (T : Tx w K mg) : PySem.W.findIn K (.ref (He.ga K "TooLarge")) "__init__" = some (some (.ref (He.ma K (He.ga K "TooLarge") "__init__"))) := by
  have hf := T.fact 237
  exact He.eqO_ok hf
theorem Tx.ty_TooLarge (T : Tx w K mg) : PySem.W.typeIn K (.ref (He.ma K (He.ga K "TooLarge") "__init__")) = some (.type "function") := by
  have hf := T.fact 238
  exact of_decide_eq_true hf
theorem Tx.su_TooLarge (T : Tx w K mg) : PySem.W.ks_superIn K (He.ga K "TooLarge") (He.ga K "TooLarge") "__init__" = some (some (.builtin "ValueError.__init__")) := by
  have hf := T.fact 239
  exact of_decide_eq_true hf
theorem Tx.mr_TooLarge (T : Tx w K mg) : PySem.W.mroIn K (He.ga K "TooLarge") (.ref (He.ga K "TooLarge")) = some true := by
  have hf := T.fact 240
  exact of_decide_eq_true hf
theorem Tx.exc_U (T : Tx w K mg) : PySem.W.excIn K (He.ga K "NothingToUndo") He.veBase "ValueError.__new__" = true ∧ PySem.W.keepIn K (.ref (He.ga K "NothingToUndo")) = true ∧ PySem.W.subIn K (.ref (He.ga K "NothingToUndo")) (.type "BaseException") = some true ∧ PySem.W.typeIn K (.ref (He.ga K "NothingToUndo")) = some (.type "type") := by
  have hf := T.fact 241
  exact He.exc_ok hf
theorem Tx.xm_NoAxis_NoAxis (T : Tx w K mg) : PySem.W.exmOne K (.ref (He.ga K "NoAxis")) (.ref (He.ga K "NoAxis")) = some true := by
  have hf := T.fact 242
  exact He.exm_ok hf
theorem Tx.xm_NoKind_NoAxis (T : Tx w K mg) : PySem.W.exmOne K (.ref (He.ga K "NoKind")) (.ref (He.ga K "NoAxis")) = some false := by
  have hf := T.fact 243
  exact He.exm_ok hf
theorem Tx.xm_NoKind_NoKind (T : Tx w K mg) : PySem.W.exmOne K (.ref (He.ga K "NoKind")) (.ref (He.ga K "NoKind")) = some true := by
  have hf := T.fact 244
  exact He.exm_ok hf
theorem Tx.xm_BadSide_NoAxis (T : Tx w K mg) : PySem.W.exmOne K (.ref (He.ga K "BadSide")) (.ref (He.ga K "NoAxis")) = some false := by
  have hf := T.fact 245
  exact He.exm_ok hf
theorem Tx.xm_BadSide_NoKind (T : Tx w K mg) : PySem.W.exmOne K (.ref (He.ga K "BadSide")) (.ref (He.ga K "NoKind")) = some false := by
  have hf := T.fact 246
  exact He.exm_ok hf
theorem Tx.xm_BadSide_BadSide (T : Tx w K mg) : PySem.W.exmOne K (.ref (He.ga K "BadSide")) (.ref (He.ga K "BadSide")) = some true := by
  have hf := T.fact 247
  exact He.exm_ok hf
theorem Tx.xm_BadOrder_NoAxis (T : Tx w K mg) : PySem.W.exmOne K (.ref (He.ga K "BadOrder")) (.ref (He.ga K "NoAxis")) = some false := by
  have hf := T.fact 248
  exact He.exm_ok hf
theorem Tx.xm_BadOrder_NoKind (T : Tx w K mg) : PySem.W.exmOne K (.ref (He.ga K "BadOrder")) (.ref (He.ga K "NoKind")) = some false := by
  have hf := T.fact 249
  exact He.exm_ok hf
theorem Tx.xm_BadOrder_BadSide (T : Tx w K mg) : PySem.W.exmOne K (.ref (He.ga K "BadOrder")) (.ref (He.ga K "BadSide")) = some false := by
  have hf := T.fact 250
  exact He.exm_ok hf
theorem Tx.xm_BadOrder_BadOrder (T : Tx w K mg) : PySem.W.exmOne K (.ref (He.ga K "BadOrder")) (.ref (He.ga K "BadOrder")) = some true := by
  have hf := T.fact 251
  exact He.exm_ok hf
theorem Tx.xm_TooLarge_NoAxis (T : Tx w K mg) : PySem.W.exmOne K (.ref (He.ga K "TooLarge")) (.ref (He.ga K "NoAxis")) = some false := by
  have hf := T.fact 252
  exact He.exm_ok hf
theorem Tx.xm_TooLarge_NoKind (T : Tx w K mg) : PySem.W.exmOne K (.ref (He.ga K "TooLarge")) (.ref (He.ga K "NoKind")) = some false := by
  have hf := T.fact 253
  exact He.exm_ok hf
theorem Tx.xm_TooLarge_BadSide (T : Tx w K mg) : PySem.W.exmOne K (.ref (He.ga K "TooLarge")) (.ref (He.ga K "BadSide")) = some false := by
  have hf := T.fact 254
  exact He.exm_ok hf
theorem Tx.xm_TooLarge_BadOrder (T : Tx w K mg) : PySem.W.exmOne K (.ref (He.ga K "TooLarge")) (.ref (He.ga K "BadOrder")) = some false := by
  have hf := T.fact 255
  exact He.exm_ok hf
theorem Tx.xm_TooLarge_TooLarge (T : Tx w K mg) : PySem.W.exmOne K (.ref (He.ga K "TooLarge")) (.ref (He.ga K "TooLarge")) = some true := by
  have hf := T.fact 256
  exact He.exm_ok hf
theorem Tx.xm_NothingToUndo_NoAxis (T : Tx w K mg) : PySem.W.exmOne K (.ref (He.ga K "NothingToUndo")) (.ref (He.ga K "NoAxis")) = some false := by
  have hf := T.fact 257
  exact He.exm_ok hf
theorem Tx.xm_NothingToUndo_NoKind (T : Tx w K mg) : PySem.W.exmOne K (.ref (He.ga K "NothingToUndo")) (.ref (He.ga K "NoKind")) = some false := by
  have hf := T.fact 258
  exact He.exm_ok hf
theorem Tx.xm_NothingToUndo_BadSide (T : Tx w K mg) : PySem.W.exmOne K (.ref (He.ga K "NothingToUndo")) (.ref (He.ga K "BadSide")) = some false := by
  have hf := T.fact 259
  exact He.exm_ok hf
theorem Tx.xm_NothingToUndo_BadOrder (T : Tx w K mg) : PySem.W.exmOne K (.ref (He.ga K "NothingToUndo")) (.ref (He.ga K "BadOrder")) = some false := by
  have hf := T.fact 260
  exact He.exm_ok hf
theorem Tx.xm_NothingToUndo_TooLarge (T : Tx w K mg) : PySem.W.exmOne K (.ref (He.ga K "NothingToUndo")) (.ref (He.ga K "TooLarge")) = some false := by
  have hf := T.fact 261
  exact He.exm_ok hf
theorem Tx.xm_NothingToUndo_NotFilled (T : Tx w K mg) : PySem.W.exmOne K (.ref (He.ga K "NothingToUndo")) (.ref (He.ga K "NotFilled")) = some false := by
  have hf := T.fact 262
  exact He.exm_ok hf
theorem Tx.xm_NothingToUndo_NothingToUndo (T : Tx w K mg) : PySem.W.exmOne K (.ref (He.ga K "NothingToUndo")) (.ref (He.ga K "NothingToUndo")) = some true := by
  have hf := T.fact 263
  exact He.exm_ok hf
theorem Tx.deed_side (T : Tx w K mg) : ∃ u, PySem.W.nsIn K (He.ga K "DEEDS") "side" = some (some u) ∧ RelV (.ref (He.ga K "put_side")) u := by
  have hf := T.fact 264
  exact deed_of hf
theorem Tx.deed_brick (T : Tx w K mg) : ∃ u, PySem.W.nsIn K (He.ga K "DEEDS") "brick" = some (some u) ∧ RelV (.ref (He.ga K "put_brick")) u := by
  have hf := T.fact 265
  exact deed_of hf
theorem Tx.deed_swap (T : Tx w K mg) : ∃ u, PySem.W.nsIn K (He.ga K "DEEDS") "swap" = some (some u) ∧ RelV (.ref (He.ga K "swapped")) u := by
  have hf := T.fact 266
  exact deed_of hf
theorem Tx.deed_turn (T : Tx w K mg) : ∃ u, PySem.W.nsIn K (He.ga K "DEEDS") "turn" = some (some u) ∧ RelV (.ref (He.ga K "turned")) u := by
  have hf := T.fact 267
  exact deed_of hf
theorem Tx.deed_stretch (T : Tx w K mg) : ∃ u, PySem.W.nsIn K (He.ga K "DEEDS") "stretch" = some (some u) ∧ RelV (.ref (He.ga K "stretched")) u := by
  have hf := T.fact 268
  exact deed_of hf
theorem Tx.deed_more (T : Tx w K mg) : ∃ u, PySem.W.nsIn K (He.ga K "DEEDS") "more" = some (some u) ∧ RelV (.ref (He.ga K "more")) u := by
  have hf := T.fact 269
  exact deed_of hf
theorem Tx.cl_Y (T : Tx w K mg) : PySem.W.findIn K (.ref (He.ga K "Yard")) "__class__" = some (some (.builtin "object.__class__")) := by
  have hf := T.fact 270
  exact He.eqO_ok hf
theorem Tx.ob_Y (T : Tx w K mg) : PySem.W.mroIn K (He.ga K "Yard") (.type "object") = some true := by
  have hf := T.fact 271
  exact of_decide_eq_true hf
theorem Tx.cl_F (T : Tx w K mg) : PySem.W.findIn K (.ref (He.ga K "FullYard")) "__class__" = some (some (.builtin "object.__class__")) := by
  have hf := T.fact 272
  exact He.eqO_ok hf
theorem Tx.ob_F (T : Tx w K mg) : PySem.W.mroIn K (He.ga K "FullYard") (.type "object") = some true := by
  have hf := T.fact 273
  exact of_decide_eq_true hf
theorem Tx.sp_cls (T : Tx w K mg) : PySem.W.specialIn K (.builtin "object.__class__") "__get__" = some (some (.builtin "getset_descriptor.__get__")) := by
  have hf := T.fact 274
  exact He.eqO_ok hf
theorem Tx.ve_NoAxis (T : Tx w K mg) : PySem.W.subIn K (.ref (He.ga K "NoAxis")) (.type "ValueError") = some true := by
  have hf := T.fact 275
  exact of_decide_eq_true hf
theorem Tx.ve_NoKind (T : Tx w K mg) : PySem.W.subIn K (.ref (He.ga K "NoKind")) (.type "ValueError") = some true := by
  have hf := T.fact 276
  exact of_decide_eq_true hf
theorem Tx.ve_BadSide (T : Tx w K mg) : PySem.W.subIn K (.ref (He.ga K "BadSide")) (.type "ValueError") = some true := by
  have hf := T.fact 277
  exact of_decide_eq_true hf
theorem Tx.ve_BadOrder (T : Tx w K mg) : PySem.W.subIn K (.ref (He.ga K "BadOrder")) (.type "ValueError") = some true := by
  have hf := T.fact 278
  exact of_decide_eq_true hf
theorem Tx.ve_TooLarge (T : Tx w K mg) : PySem.W.subIn K (.ref (He.ga K "TooLarge")) (.type "ValueError") = some true := by
  have hf := T.fact 279
  exact of_decide_eq_true hf
theorem Tx.opq (T : Tx w K mg) : PySem.W.nsIn K cStatics "thirdparty.any" = some none := by
  have hf := T.fact 280
  exact He.eqO_ok hf
theorem Tx.sf_Y (T : Tx w K mg) : PySem.W.selfFirst K (He.ga K "Yard") = true := by
  have hf := T.fact 281
  exact hf
theorem Tx.tk_cls (T : Tx w K mg) : PySem.W.takesIn K (.builtin "object.__class__") = some true := by
  have hf := T.fact 282
  exact of_decide_eq_true hf
theorem Tx.d_is_integer (T : Tx w K mg) : ∃ fd, FunD K d_is_integer.name d_is_integer.qual (defArgs d_is_integer.st) (defBody d_is_integer.st) (defScope d_is_integer.st) [] d_is_integer.kwd (d_is_integer.ad K) fd := (T.def_ 0).elim fun a b => DX.fun_ a b rfl
theorem Tx.d_sides_error (T : Tx w K mg) : ∃ fd, FunD K d_sides_error.name d_sides_error.qual (defArgs d_sides_error.st) (defBody d_sides_error.st) (defScope d_sides_error.st) [] d_sides_error.kwd (d_sides_error.ad K) fd := (T.def_ 1).elim fun a b => DX.fun_ a b rfl
theorem Tx.d_kinds_error (T : Tx w K mg) : ∃ fd, FunD K d_kinds_error.name d_kinds_error.qual (defArgs d_kinds_error.st) (defBody d_kinds_error.st) (defScope d_kinds_error.st) [] d_kinds_error.kwd (d_kinds_error.ad K) fd := (T.def_ 2).elim fun a b => DX.fun_ a b rfl
theorem Tx.d_pair_error (T : Tx w K mg) : ∃ fd, FunD K d_pair_error.name d_pair_error.qual (defArgs d_pair_error.st) (defBody d_pair_error.st) (defScope d_pair_error.st) [] d_pair_error.kwd (d_pair_error.ad K) fd := (T.def_ 3).elim fun a b => DX.fun_ a b rfl
theorem Tx.d_box_error (T : Tx w K mg) : ∃ fd, FunD K d_box_error.name d_box_error.qual (defArgs d_box_error.st) (defBody d_box_error.st) (defScope d_box_error.st) [] d_box_error.kwd (d_box_error.ad K) fd := (T.def_ 4).elim fun a b => DX.fun_ a b rfl
theorem Tx.d_with_side (T : Tx w K mg) : ∃ fd, FunD K d_with_side.name d_with_side.qual (defArgs d_with_side.st) (defBody d_with_side.st) (defScope d_with_side.st) [] d_with_side.kwd (d_with_side.ad K) fd := (T.def_ 5).elim fun a b => DX.fun_ a b rfl
theorem Tx.d_common (T : Tx w K mg) : ∃ fd, FunD K d_common.name d_common.qual (defArgs d_common.st) (defBody d_common.st) (defScope d_common.st) [] d_common.kwd (d_common.ad K) fd := (T.def_ 6).elim fun a b => DX.fun_ a b rfl
theorem Tx.d_inverse (T : Tx w K mg) : ∃ fd, FunD K d_inverse.name d_inverse.qual (defArgs d_inverse.st) (defBody d_inverse.st) (defScope d_inverse.st) [] d_inverse.kwd (d_inverse.ad K) fd := (T.def_ 7).elim fun a b => DX.fun_ a b rfl
theorem Tx.d_least_times (T : Tx w K mg) : ∃ fd, FunD K d_least_times.name d_least_times.qual (defArgs d_least_times.st) (defBody d_least_times.st) (defScope d_least_times.st) [] d_least_times.kwd (d_least_times.ad K) fd := (T.def_ 8).elim fun a b => DX.fun_ a b rfl
theorem Tx.d_rests (T : Tx w K mg) : ∃ fd, FunD K d_rests.name d_rests.qual (defArgs d_rests.st) (defBody d_rests.st) (defScope d_rests.st) [] d_rests.kwd (d_rests.ad K) fd := (T.def_ 9).elim fun a b => DX.fun_ a b rfl
theorem Tx.d_bar_along (T : Tx w K mg) : ∃ fd, FunD K d_bar_along.name d_bar_along.qual (defArgs d_bar_along.st) (defBody d_bar_along.st) (defScope d_bar_along.st) [] d_bar_along.kwd (d_bar_along.ad K) fd := (T.def_ 10).elim fun a b => DX.fun_ a b rfl
theorem Tx.d_crossing (T : Tx w K mg) : ∃ fd, FunD K d_crossing.name d_crossing.qual (defArgs d_crossing.st) (defBody d_crossing.st) (defScope d_crossing.st) [] d_crossing.kwd (d_crossing.ad K) fd := (T.def_ 11).elim fun a b => DX.fun_ a b rfl
theorem Tx.d_paper (T : Tx w K mg) : ∃ fd, FunD K d_paper.name d_paper.qual (defArgs d_paper.st) (defBody d_paper.st) (defScope d_paper.st) [] d_paper.kwd (d_paper.ad K) fd := (T.def_ 12).elim fun a b => DX.fun_ a b rfl
theorem Tx.d_is_filled (T : Tx w K mg) : ∃ fd, FunD K d_is_filled.name d_is_filled.qual (defArgs d_is_filled.st) (defBody d_is_filled.st) (defScope d_is_filled.st) [] d_is_filled.kwd (d_is_filled.ad K) fd := (T.def_ 13).elim fun a b => DX.fun_ a b rfl
theorem Tx.d_sides_text (T : Tx w K mg) : ∃ fd, FunD K d_sides_text.name d_sides_text.qual (defArgs d_sides_text.st) (defBody d_sides_text.st) (defScope d_sides_text.st) [] d_sides_text.kwd (d_sides_text.ad K) fd := (T.def_ 14).elim fun a b => DX.fun_ a b rfl
theorem Tx.d_kinds_text (T : Tx w K mg) : ∃ fd, FunD K d_kinds_text.name d_kinds_text.qual (defArgs d_kinds_text.st) (defBody d_kinds_text.st) (defScope d_kinds_text.st) [] d_kinds_text.kwd (d_kinds_text.ad K) fd := (T.def_ 15).elim fun a b => DX.fun_ a b rfl
theorem Tx.d_require_axis (T : Tx w K mg) : ∃ fd, FunD K d_require_axis.name d_require_axis.qual (defArgs d_require_axis.st) (defBody d_require_axis.st) (defScope d_require_axis.st) [] d_require_axis.kwd (d_require_axis.ad K) fd := (T.def_ 16).elim fun a b => DX.fun_ a b rfl
theorem Tx.d_require_side (T : Tx w K mg) : ∃ fd, FunD K d_require_side.name d_require_side.qual (defArgs d_require_side.st) (defBody d_require_side.st) (defScope d_require_side.st) [] d_require_side.kwd (d_require_side.ad K) fd := (T.def_ 17).elim fun a b => DX.fun_ a b rfl
theorem Tx.d_put_side (T : Tx w K mg) : ∃ fd, FunD K d_put_side.name d_put_side.qual (defArgs d_put_side.st) (defBody d_put_side.st) (defScope d_put_side.st) [] d_put_side.kwd (d_put_side.ad K) fd := (T.def_ 18).elim fun a b => DX.fun_ a b rfl
theorem Tx.d_put_brick (T : Tx w K mg) : ∃ fd, FunD K d_put_brick.name d_put_brick.qual (defArgs d_put_brick.st) (defBody d_put_brick.st) (defScope d_put_brick.st) [] d_put_brick.kwd (d_put_brick.ad K) fd := (T.def_ 19).elim fun a b => DX.fun_ a b rfl
theorem Tx.d_swapped (T : Tx w K mg) : ∃ fd, FunD K d_swapped.name d_swapped.qual (defArgs d_swapped.st) (defBody d_swapped.st) (defScope d_swapped.st) [] d_swapped.kwd (d_swapped.ad K) fd := (T.def_ 20).elim fun a b => DX.fun_ a b rfl
theorem Tx.d_is_order (T : Tx w K mg) : ∃ fd, FunD K d_is_order.name d_is_order.qual (defArgs d_is_order.st) (defBody d_is_order.st) (defScope d_is_order.st) [] d_is_order.kwd (d_is_order.ad K) fd := (T.def_ 21).elim fun a b => DX.fun_ a b rfl
theorem Tx.d_turned (T : Tx w K mg) : ∃ fd, FunD K d_turned.name d_turned.qual (defArgs d_turned.st) (defBody d_turned.st) (defScope d_turned.st) [] d_turned.kwd (d_turned.ad K) fd := (T.def_ 22).elim fun a b => DX.fun_ a b rfl
theorem Tx.d_stretched (T : Tx w K mg) : ∃ fd, FunD K d_stretched.name d_stretched.qual (defArgs d_stretched.st) (defBody d_stretched.st) (defScope d_stretched.st) [] d_stretched.kwd (d_stretched.ad K) fd := (T.def_ 23).elim fun a b => DX.fun_ a b rfl
theorem Tx.d_more (T : Tx w K mg) : ∃ fd, FunD K d_more.name d_more.qual (defArgs d_more.st) (defBody d_more.st) (defScope d_more.st) [] d_more.kwd (d_more.ad K) fd := (T.def_ 24).elim fun a b => DX.fun_ a b rfl
theorem Tx.d_law_deck (T : Tx w K mg) : ∃ fd, FunD K d_law_deck.name d_law_deck.qual (defArgs d_law_deck.st) (defBody d_law_deck.st) (defScope d_law_deck.st) [] d_law_deck.kwd (d_law_deck.ad K) fd := (T.def_ 25).elim fun a b => DX.fun_ a b rfl
theorem Tx.d_law_draw (T : Tx w K mg) : ∃ fd, FunD K d_law_draw.name d_law_draw.qual (defArgs d_law_draw.st) (defBody d_law_draw.st) (defScope d_law_draw.st) [] d_law_draw.kwd (d_law_draw.ad K) fd := (T.def_ 26).elim fun a b => DX.fun_ a b rfl
theorem Tx.d_law_one (T : Tx w K mg) : ∃ fd, FunD K d_law_one.name d_law_one.qual (defArgs d_law_one.st) (defBody d_law_one.st) (defScope d_law_one.st) [] d_law_one.kwd (d_law_one.ad K) fd := (T.def_ 27).elim fun a b => DX.fun_ a b rfl
theorem Tx.d_law_mixed (T : Tx w K mg) : ∃ fd, FunD K d_law_mixed.name d_law_mixed.qual (defArgs d_law_mixed.st) (defBody d_law_mixed.st) (defScope d_law_mixed.st) [] d_law_mixed.kwd (d_law_mixed.ad K) fd := (T.def_ 28).elim fun a b => DX.fun_ a b rfl
theorem Tx.d_law_divisor (T : Tx w K mg) : ∃ fd, FunD K d_law_divisor.name d_law_divisor.qual (defArgs d_law_divisor.st) (defBody d_law_divisor.st) (defScope d_law_divisor.st) [] d_law_divisor.kwd (d_law_divisor.ad K) fd := (T.def_ 29).elim fun a b => DX.fun_ a b rfl
theorem Tx.d_law_odd (T : Tx w K mg) : ∃ fd, FunD K d_law_odd.name d_law_odd.qual (defArgs d_law_odd.st) (defBody d_law_odd.st) (defScope d_law_odd.st) [] d_law_odd.kwd (d_law_odd.ad K) fd := (T.def_ 30).elim fun a b => DX.fun_ a b rfl
theorem Tx.d_law_bent (T : Tx w K mg) : ∃ fd, FunD K d_law_bent.name d_law_bent.qual (defArgs d_law_bent.st) (defBody d_law_bent.st) (defScope d_law_bent.st) [] d_law_bent.kwd (d_law_bent.ad K) fd := (T.def_ 31).elim fun a b => DX.fun_ a b rfl
theorem Tx.d_law_whole (T : Tx w K mg) : ∃ fd, FunD K d_law_whole.name d_law_whole.qual (defArgs d_law_whole.st) (defBody d_law_whole.st) (defScope d_law_whole.st) [] d_law_whole.kwd (d_law_whole.ad K) fd := (T.def_ 32).elim fun a b => DX.fun_ a b rfl
theorem Tx.d_law_sides (T : Tx w K mg) : ∃ fd, FunD K d_law_sides.name d_law_sides.qual (defArgs d_law_sides.st) (defBody d_law_sides.st) (defScope d_law_sides.st) [] d_law_sides.kwd (d_law_sides.ad K) fd := (T.def_ 33).elim fun a b => DX.fun_ a b rfl
theorem Tx.d_law_pair (T : Tx w K mg) : ∃ fd, FunD K d_law_pair.name d_law_pair.qual (defArgs d_law_pair.st) (defBody d_law_pair.st) (defScope d_law_pair.st) [] d_law_pair.kwd (d_law_pair.ad K) fd := (T.def_ 34).elim fun a b => DX.fun_ a b rfl
theorem Tx.d_law_lcm (T : Tx w K mg) : ∃ fd, FunD K d_law_lcm.name d_law_lcm.qual (defArgs d_law_lcm.st) (defBody d_law_lcm.st) (defScope d_law_lcm.st) [] d_law_lcm.kwd (d_law_lcm.ad K) fd := (T.def_ 35).elim fun a b => DX.fun_ a b rfl
theorem Tx.d_law_cut_box (T : Tx w K mg) : ∃ fd, FunD K d_law_cut_box.name d_law_cut_box.qual (defArgs d_law_cut_box.st) (defBody d_law_cut_box.st) (defScope d_law_cut_box.st) [] d_law_cut_box.kwd (d_law_cut_box.ad K) fd := (T.def_ 36).elim fun a b => DX.fun_ a b rfl
theorem Tx.d_law_plain_box (T : Tx w K mg) : ∃ fd, FunD K d_law_plain_box.name d_law_plain_box.qual (defArgs d_law_plain_box.st) (defBody d_law_plain_box.st) (defScope d_law_plain_box.st) [] d_law_plain_box.kwd (d_law_plain_box.ad K) fd := (T.def_ 37).elim fun a b => DX.fun_ a b rfl
theorem Tx.d_law_with (T : Tx w K mg) : ∃ fd, FunD K d_law_with.name d_law_with.qual (defArgs d_law_with.st) (defBody d_law_with.st) (defScope d_law_with.st) [] d_law_with.kwd (d_law_with.ad K) fd := (T.def_ 38).elim fun a b => DX.fun_ a b rfl
theorem Tx.d_law_page_after (T : Tx w K mg) : ∃ fd, FunD K d_law_page_after.name d_law_page_after.qual (defArgs d_law_page_after.st) (defBody d_law_page_after.st) (defScope d_law_page_after.st) [] d_law_page_after.kwd (d_law_page_after.ad K) fd := (T.def_ 39).elim fun a b => DX.fun_ a b rfl
theorem Tx.d_law_turned_page (T : Tx w K mg) : ∃ fd, FunD K d_law_turned_page.name d_law_turned_page.qual (defArgs d_law_turned_page.st) (defBody d_law_turned_page.st) (defScope d_law_turned_page.st) [] d_law_turned_page.kwd (d_law_turned_page.ad K) fd := (T.def_ 40).elim fun a b => DX.fun_ a b rfl
theorem Tx.d_law_more_page (T : Tx w K mg) : ∃ fd, FunD K d_law_more_page.name d_law_more_page.qual (defArgs d_law_more_page.st) (defBody d_law_more_page.st) (defScope d_law_more_page.st) [] d_law_more_page.kwd (d_law_more_page.ad K) fd := (T.def_ 41).elim fun a b => DX.fun_ a b rfl
theorem Tx.d_law_edit (T : Tx w K mg) : ∃ fd, FunD K d_law_edit.name d_law_edit.qual (defArgs d_law_edit.st) (defBody d_law_edit.st) (defScope d_law_edit.st) [] d_law_edit.kwd (d_law_edit.ad K) fd := (T.def_ 42).elim fun a b => DX.fun_ a b rfl
theorem Tx.d_law_do (T : Tx w K mg) : ∃ fd, FunD K d_law_do.name d_law_do.qual (defArgs d_law_do.st) (defBody d_law_do.st) (defScope d_law_do.st) [] d_law_do.kwd (d_law_do.ad K) fd := (T.def_ 43).elim fun a b => DX.fun_ a b rfl
theorem Tx.d_law_done (T : Tx w K mg) : ∃ fd, FunD K d_law_done.name d_law_done.qual (defArgs d_law_done.st) (defBody d_law_done.st) (defScope d_law_done.st) [] d_law_done.kwd (d_law_done.ad K) fd := (T.def_ 44).elim fun a b => DX.fun_ a b rfl
theorem Tx.d_law_shows (T : Tx w K mg) : ∃ fd, FunD K d_law_shows.name d_law_shows.qual (defArgs d_law_shows.st) (defBody d_law_shows.st) (defScope d_law_shows.st) [] d_law_shows.kwd (d_law_shows.ad K) fd := (T.def_ 45).elim fun a b => DX.fun_ a b rfl
theorem Tx.d_law_says (T : Tx w K mg) : ∃ fd, FunD K d_law_says.name d_law_says.qual (defArgs d_law_says.st) (defBody d_law_says.st) (defScope d_law_says.st) [] d_law_says.kwd (d_law_says.ad K) fd := (T.def_ 46).elim fun a b => DX.fun_ a b rfl
theorem Tx.d_law_is_small (T : Tx w K mg) : ∃ fd, FunD K d_law_is_small.name d_law_is_small.qual (defArgs d_law_is_small.st) (defBody d_law_is_small.st) (defScope d_law_is_small.st) [] d_law_is_small.kwd (d_law_is_small.ad K) fd := (T.def_ 47).elim fun a b => DX.fun_ a b rfl
theorem Tx.d_law_due (T : Tx w K mg) : ∃ fd, FunD K d_law_due.name d_law_due.qual (defArgs d_law_due.st) (defBody d_law_due.st) (defScope d_law_due.st) [] d_law_due.kwd (d_law_due.ad K) fd := (T.def_ 48).elim fun a b => DX.fun_ a b rfl
theorem Tx.d_law_small_edit (T : Tx w K mg) : ∃ fd, FunD K d_law_small_edit.name d_law_small_edit.qual (defArgs d_law_small_edit.st) (defBody d_law_small_edit.st) (defScope d_law_small_edit.st) [] d_law_small_edit.kwd (d_law_small_edit.ad K) fd := (T.def_ 49).elim fun a b => DX.fun_ a b rfl
theorem Tx.d_law_start (T : Tx w K mg) : ∃ fd, FunD K d_law_start.name d_law_start.qual (defArgs d_law_start.st) (defBody d_law_start.st) (defScope d_law_start.st) [] d_law_start.kwd (d_law_start.ad K) fd := (T.def_ 50).elim fun a b => DX.fun_ a b rfl
theorem Tx.d_law_worked (T : Tx w K mg) : ∃ fd, FunD K d_law_worked.name d_law_worked.qual (defArgs d_law_worked.st) (defBody d_law_worked.st) (defScope d_law_worked.st) [] d_law_worked.kwd (d_law_worked.ad K) fd := (T.def_ 51).elim fun a b => DX.fun_ a b rfl
theorem Tx.d_law (T : Tx w K mg) : ∃ fd, FunD K d_law.name d_law.qual (defArgs d_law.st) (defBody d_law.st) (defScope d_law.st) [] d_law.kwd (d_law.ad K) fd := (T.def_ 52).elim fun a b => DX.fun_ a b rfl
theorem Tx.d_BadOrder_init (T : Tx w K mg) : ∃ cc cda fd, SupD K d_BadOrder_init.name d_BadOrder_init.qual (defArgs d_BadOrder_init.st) (defBody d_BadOrder_init.st) (defScope d_BadOrder_init.st) (d_BadOrder_init.ad K) cc cda (He.ga K "BadOrder") fd := (T.def_ 53).elim fun a b => DX.sup_ a b rfl
theorem Tx.d_BadSide_init (T : Tx w K mg) : ∃ cc cda fd, SupD K d_BadSide_init.name d_BadSide_init.qual (defArgs d_BadSide_init.st) (defBody d_BadSide_init.st) (defScope d_BadSide_init.st) (d_BadSide_init.ad K) cc cda (He.ga K "BadSide") fd := (T.def_ 54).elim fun a b => DX.sup_ a b rfl
theorem Tx.d_NoAxis_init (T : Tx w K mg) : ∃ cc cda fd, SupD K d_NoAxis_init.name d_NoAxis_init.qual (defArgs d_NoAxis_init.st) (defBody d_NoAxis_init.st) (defScope d_NoAxis_init.st) (d_NoAxis_init.ad K) cc cda (He.ga K "NoAxis") fd := (T.def_ 55).elim fun a b => DX.sup_ a b rfl
theorem Tx.d_NoKind_init (T : Tx w K mg) : ∃ cc cda fd, SupD K d_NoKind_init.name d_NoKind_init.qual (defArgs d_NoKind_init.st) (defBody d_NoKind_init.st) (defScope d_NoKind_init.st) (d_NoKind_init.ad K) cc cda (He.ga K "NoKind") fd := (T.def_ 56).elim fun a b => DX.sup_ a b rfl
theorem Tx.d_TooLarge_init (T : Tx w K mg) : ∃ cc cda fd, SupD K d_TooLarge_init.name d_TooLarge_init.qual (defArgs d_TooLarge_init.st) (defBody d_TooLarge_init.st) (defScope d_TooLarge_init.st) (d_TooLarge_init.ad K) cc cda (He.ga K "TooLarge") fd := (T.def_ 57).elim fun a b => DX.sup_ a b rfl
theorem Tx.d_Yard_init (T : Tx w K mg) : ∃ fd, FunD K d_Yard_init.name d_Yard_init.qual (defArgs d_Yard_init.st) (defBody d_Yard_init.st) (defScope d_Yard_init.st) [] d_Yard_init.kwd (d_Yard_init.ad K) fd := (T.def_ 58).elim fun a b => DX.fun_ a b rfl
theorem Tx.d_Yard_stand (T : Tx w K mg) : ∃ fd, FunD K d_Yard_stand.name d_Yard_stand.qual (defArgs d_Yard_stand.st) (defBody d_Yard_stand.st) (defScope d_Yard_stand.st) [] d_Yard_stand.kwd (d_Yard_stand.ad K) fd := (T.def_ 59).elim fun a b => DX.fun_ a b rfl
theorem Tx.d_Yard_pair (T : Tx w K mg) : ∃ fd, FunD K d_Yard_pair.name d_Yard_pair.qual (defArgs d_Yard_pair.st) (defBody d_Yard_pair.st) (defScope d_Yard_pair.st) [] d_Yard_pair.kwd (d_Yard_pair.ad K) fd := (T.def_ 60).elim fun a b => DX.fun_ a b rfl
theorem Tx.d_Yard_box (T : Tx w K mg) : ∃ fd, FunD K d_Yard_box.name d_Yard_box.qual (defArgs d_Yard_box.st) (defBody d_Yard_box.st) (defScope d_Yard_box.st) [] d_Yard_box.kwd (d_Yard_box.ad K) fd := (T.def_ 61).elim fun a b => DX.fun_ a b rfl
theorem Tx.d_Yard_version (T : Tx w K mg) : ∃ fd, FunD K d_Yard_version.name d_Yard_version.qual (defArgs d_Yard_version.st) (defBody d_Yard_version.st) (defScope d_Yard_version.st) [] d_Yard_version.kwd (d_Yard_version.ad K) fd := (T.def_ 62).elim fun a b => DX.fun_ a b rfl
theorem Tx.d_Yard_news (T : Tx w K mg) : ∃ fd, FunD K d_Yard_news.name d_Yard_news.qual (defArgs d_Yard_news.st) (defBody d_Yard_news.st) (defScope d_Yard_news.st) [] d_Yard_news.kwd (d_Yard_news.ad K) fd := (T.def_ 63).elim fun a b => DX.fun_ a b rfl
theorem Tx.d_Yard_judge (T : Tx w K mg) : ∃ fd, FunD K d_Yard_judge.name d_Yard_judge.qual (defArgs d_Yard_judge.st) (defBody d_Yard_judge.st) (defScope d_Yard_judge.st) [] d_Yard_judge.kwd (d_Yard_judge.ad K) fd := (T.def_ 64).elim fun a b => DX.fun_ a b rfl
theorem Tx.d_Yard_require_free (T : Tx w K mg) : ∃ fd, FunD K d_Yard_require_free.name d_Yard_require_free.qual (defArgs d_Yard_require_free.st) (defBody d_Yard_require_free.st) (defScope d_Yard_require_free.st) [] d_Yard_require_free.kwd (d_Yard_require_free.ad K) fd := (T.def_ 65).elim fun a b => DX.fun_ a b rfl
theorem Tx.d_Yard_tell (T : Tx w K mg) : ∃ fd, FunD K d_Yard_tell.name d_Yard_tell.qual (defArgs d_Yard_tell.st) (defBody d_Yard_tell.st) (defScope d_Yard_tell.st) [] d_Yard_tell.kwd (d_Yard_tell.ad K) fd := (T.def_ 66).elim fun a b => DX.fun_ a b rfl
theorem Tx.d_Yard_do (T : Tx w K mg) : ∃ fd, FunD K d_Yard_do.name d_Yard_do.qual (defArgs d_Yard_do.st) (defBody d_Yard_do.st) (defScope d_Yard_do.st) [] d_Yard_do.kwd (d_Yard_do.ad K) fd := (T.def_ 67).elim fun a b => DX.fun_ a b rfl
theorem Tx.d_Yard_edit (T : Tx w K mg) : ∃ fd, FunD K d_Yard_edit.name d_Yard_edit.qual (defArgs d_Yard_edit.st) (defBody d_Yard_edit.st) (defScope d_Yard_edit.st) [] d_Yard_edit.kwd (d_Yard_edit.ad K) fd := (T.def_ 68).elim fun a b => DX.fun_ a b rfl
theorem Tx.d_Yard_side (T : Tx w K mg) : ∃ fd, FunD K d_Yard_side.name d_Yard_side.qual (defArgs d_Yard_side.st) (defBody d_Yard_side.st) (defScope d_Yard_side.st) [] d_Yard_side.kwd (d_Yard_side.ad K) fd := (T.def_ 69).elim fun a b => DX.fun_ a b rfl
theorem Tx.d_Yard_brick (T : Tx w K mg) : ∃ fd, FunD K d_Yard_brick.name d_Yard_brick.qual (defArgs d_Yard_brick.st) (defBody d_Yard_brick.st) (defScope d_Yard_brick.st) [] d_Yard_brick.kwd (d_Yard_brick.ad K) fd := (T.def_ 70).elim fun a b => DX.fun_ a b rfl
theorem Tx.d_Yard_swap (T : Tx w K mg) : ∃ fd, FunD K d_Yard_swap.name d_Yard_swap.qual (defArgs d_Yard_swap.st) (defBody d_Yard_swap.st) (defScope d_Yard_swap.st) [] d_Yard_swap.kwd (d_Yard_swap.ad K) fd := (T.def_ 71).elim fun a b => DX.fun_ a b rfl
theorem Tx.d_Yard_turn (T : Tx w K mg) : ∃ fd, FunD K d_Yard_turn.name d_Yard_turn.qual (defArgs d_Yard_turn.st) (defBody d_Yard_turn.st) (defScope d_Yard_turn.st) [] d_Yard_turn.kwd (d_Yard_turn.ad K) fd := (T.def_ 72).elim fun a b => DX.fun_ a b rfl
theorem Tx.d_Yard_stretch (T : Tx w K mg) : ∃ fd, FunD K d_Yard_stretch.name d_Yard_stretch.qual (defArgs d_Yard_stretch.st) (defBody d_Yard_stretch.st) (defScope d_Yard_stretch.st) [] d_Yard_stretch.kwd (d_Yard_stretch.ad K) fd := (T.def_ 73).elim fun a b => DX.fun_ a b rfl
theorem Tx.d_Yard_undo (T : Tx w K mg) : ∃ fd, FunD K d_Yard_undo.name d_Yard_undo.qual (defArgs d_Yard_undo.st) (defBody d_Yard_undo.st) (defScope d_Yard_undo.st) [] d_Yard_undo.kwd (d_Yard_undo.ad K) fd := (T.def_ 74).elim fun a b => DX.fun_ a b rfl
theorem Tx.d_Yard_state_at (T : Tx w K mg) : ∃ fd, FunD K d_Yard_state_at.name d_Yard_state_at.qual (defArgs d_Yard_state_at.st) (defBody d_Yard_state_at.st) (defScope d_Yard_state_at.st) [] d_Yard_state_at.kwd (d_Yard_state_at.ad K) fd := (T.def_ 75).elim fun a b => DX.fun_ a b rfl
theorem Tx.d_Yard_each_version (T : Tx w K mg) : ∃ fd, FunD K d_Yard_each_version.name d_Yard_each_version.qual (defArgs d_Yard_each_version.st) (defBody d_Yard_each_version.st) (defScope d_Yard_each_version.st) [] d_Yard_each_version.kwd (d_Yard_each_version.ad K) fd := (T.def_ 76).elim fun a b => DX.fun_ a b rfl
theorem Tx.d_Yard_fresh (T : Tx w K mg) : ∃ fd, FunD K d_Yard_fresh.name d_Yard_fresh.qual (defArgs d_Yard_fresh.st) (defBody d_Yard_fresh.st) (defScope d_Yard_fresh.st) [] d_Yard_fresh.kwd (d_Yard_fresh.ad K) fd := (T.def_ 77).elim fun a b => DX.fun_ a b rfl
theorem Tx.d_Yard_copy (T : Tx w K mg) : ∃ fd, FunD K d_Yard_copy.name d_Yard_copy.qual (defArgs d_Yard_copy.st) (defBody d_Yard_copy.st) (defScope d_Yard_copy.st) [] d_Yard_copy.kwd (d_Yard_copy.ad K) fd := (T.def_ 78).elim fun a b => DX.fun_ a b rfl
theorem Tx.d_Yard_iadd (T : Tx w K mg) : ∃ fd, FunD K d_Yard_iadd.name d_Yard_iadd.qual (defArgs d_Yard_iadd.st) (defBody d_Yard_iadd.st) (defScope d_Yard_iadd.st) [] d_Yard_iadd.kwd (d_Yard_iadd.ad K) fd := (T.def_ 79).elim fun a b => DX.fun_ a b rfl
theorem Tx.d_Yard_len (T : Tx w K mg) : ∃ fd, FunD K d_Yard_len.name d_Yard_len.qual (defArgs d_Yard_len.st) (defBody d_Yard_len.st) (defScope d_Yard_len.st) [] d_Yard_len.kwd (d_Yard_len.ad K) fd := (T.def_ 80).elim fun a b => DX.fun_ a b rfl
theorem Tx.d_Yard_bool (T : Tx w K mg) : ∃ fd, FunD K d_Yard_bool.name d_Yard_bool.qual (defArgs d_Yard_bool.st) (defBody d_Yard_bool.st) (defScope d_Yard_bool.st) [] d_Yard_bool.kwd (d_Yard_bool.ad K) fd := (T.def_ 81).elim fun a b => DX.fun_ a b rfl
theorem Tx.d_Yard_str (T : Tx w K mg) : ∃ fd, FunD K d_Yard_str.name d_Yard_str.qual (defArgs d_Yard_str.st) (defBody d_Yard_str.st) (defScope d_Yard_str.st) [] d_Yard_str.kwd (d_Yard_str.ad K) fd := (T.def_ 82).elim fun a b => DX.fun_ a b rfl
theorem Tx.d_Yard_eq (T : Tx w K mg) : ∃ fd, FunD K d_Yard_eq.name d_Yard_eq.qual (defArgs d_Yard_eq.st) (defBody d_Yard_eq.st) (defScope d_Yard_eq.st) [] d_Yard_eq.kwd (d_Yard_eq.ad K) fd := (T.def_ 83).elim fun a b => DX.fun_ a b rfl
theorem Tx.d_FullYard_init (T : Tx w K mg) : ∃ cc cda fd, SupD K d_FullYard_init.name d_FullYard_init.qual (defArgs d_FullYard_init.st) (defBody d_FullYard_init.st) (defScope d_FullYard_init.st) (d_FullYard_init.ad K) cc cda (He.ga K "FullYard") fd := (T.def_ 84).elim fun a b => DX.sup_ a b rfl
theorem Tx.d_FullYard_fresh (T : Tx w K mg) : ∃ fd, FunD K d_FullYard_fresh.name d_FullYard_fresh.qual (defArgs d_FullYard_fresh.st) (defBody d_FullYard_fresh.st) (defScope d_FullYard_fresh.st) [] d_FullYard_fresh.kwd (d_FullYard_fresh.ad K) fd := (T.def_ 85).elim fun a b => DX.fun_ a b rfl
theorem Tx.d_FullYard_judge (T : Tx w K mg) : ∃ fd, FunD K d_FullYard_judge.name d_FullYard_judge.qual (defArgs d_FullYard_judge.st) (defBody d_FullYard_judge.st) (defScope d_FullYard_judge.st) [] d_FullYard_judge.kwd (d_FullYard_judge.ad K) fd := (T.def_ 86).elim fun a b => DX.fun_ a b rfl
end
def loose0 : List PySem.Str := ["MAX_DIMS", "MAX_SIDE", "MAX_KINDS", "HISTORY", "BATCH", "BrickError", "BadBatch", "BadBox", "BadKinds", "BadOrder", "BadSide", "Busy", "NoAxis", "NoKind", "NoVersion", "NotFilled", "NothingToUndo", "Rejected", "TooLarge", "TooManyEdits", "is_integer", "sides_error", "kinds_error", "pair_error", "box_error", "with_side", "common", "inverse", "least_times", "CUT"]
def loose1 : List PySem.Str := ["SIDES", "STEP", "GAP", "rests", "bar_along", "crossing", "paper", "paper_papers", "is_filled", "sides_text", "kinds_text", "FILLED", "BARRED", "SAME", "require_axis", "require_side", "put_side", "put_brick", "swapped", "is_order", "turned", "stretched", "more", "DEEDS", "SIZES", "is_edit", "Yard", "FullYard", "_law_deck", "_law_draw"]
def loose2 : List PySem.Str := ["_law_one", "_law_mixed", "_law_divisor", "_law_odd", "_law_bent", "_law_whole", "_law_sides", "_law_pair", "_law_lcm", "_law_cut_box", "_law_plain_box", "_law_with", "_law_page_after", "_law_turned_page", "_law_more_page", "_law_edit", "_law_do", "_law_done", "_law_shows", "_law_says", "_law_is_small", "_law_due", "_law_small_edit", "_law_start", "_law_worked"]
def loose : List PySem.Str := loose0 ++ loose1 ++ loose2
abbrev R : PySem.W.OpenRow := PySem.W.OpenLaw.row PySem.Challenge.rw_twobricks_k83_whole_yards_like_new_ones
end Yk
set_option Elab.async false
set_option linter.all false
set_option maxRecDepth 100000
set_option maxHeartbeats 0
namespace Yk
open PySem PySem.W PySem.Calls PySem.Spec PyProof.Rows L2 HandSHeadRun
noncomputable abbrev EF (w : World) (os : OsState) : Option SharedT := endF (stepQ (denQ tabQ) R.prog w) 20000 R.prog w os
theorem ob0 (w : World) (os : OsState) : (EF (w.withFollow "special-get-raises" false) os).map ob = some (hk.val (w.withFollow "special-get-raises" false)) := by
  kernel_rfl
theorem ob1 (w : World) (os : OsState) : (EF (w.withFollow "special-get-raises" true) os).map ob = some (hk.val (w.withFollow "special-get-raises" true)) := by
  kernel_rfl
abbrev Q : Program := PySem.W.view R.prog [92]
theorem lo0 (w : World) (os : OsState) : (EF (w.withFollow "special-get-raises" false) os).map (fun s => (looksF R.prog (boot_heap (w.withFollow "special-get-raises" false).params) s.abs, seenQ Q loose (importedModules R.prog.main.body) (fun s => xlAt Q [] s && recOk R.toRowW.records s) s.abs)) = some (true, openGood Q loose) := by
  kernel_rfl
theorem lo1 (w : World) (os : OsState) : (EF (w.withFollow "special-get-raises" true) os).map (fun s => (looksF R.prog (boot_heap (w.withFollow "special-get-raises" true).params) s.abs, seenQ Q loose (importedModules R.prog.main.body) (fun s => xlAt Q [] s && recOk R.toRowW.records s) s.abs)) = some (true, openGood Q loose) := by
  kernel_rfl
theorem join3 {A B C D : Type} {X : Option A} {f : A → B} {g : A → C} {h : A → D} {b : B} {c : C} {d : D} (h1 : X.map (fun s => (f s, g s)) = some (b, c)) (h2 : X.map h = some d) : X.map (fun s => (f s, g s, h s)) = some (b, c, d) := by
  cases X with
  | none => cases h1
  | some s =>
    have e1 := Option.some.inj h1
    have e2 := Option.some.inj h2
    simp only [Prod.mk.injEq] at e1
    show some (f s, g s, h s) = _
    rw [e1.1, e1.2, ← e2]
theorem run (w : World) : RunEq R Q hk ob 20000 loose w := by
  refine PySem.W.byRow2 "special-get-raises" (P := fun w => RunEq R Q hk ob 20000 loose w) ?_ ?_ w
  · intro w os
    exact join3 (lo0 w os) (ob0 w os)
  · intro w os
    exact join3 (lo1 w os) (ob1 w os)
end Yk
set_option Elab.async false
set_option linter.all false
set_option maxRecDepth 100000
set_option maxHeartbeats 4000000
/-! words: defs, methods, properties by their promises; heaps that grow -/
namespace Yk
open PySem PySem.Spec PyProof.Rows L2
/-! ### a def of the module, its promise by positional values -/
structure Df (P : Program) (w : World) (K : KF) (mg : Str → Option Value) (base : Heap) (CX : CXT) (k : Nat) (x : Str) (sp : Sp) : Prop where
  fn : FnR P w K mg base CX k (He.ga K x) sp
  kp : PySem.W.keepIn K (.ref (He.ga K x)) = true
  gm : mg x = some (.ref (He.ga K x))
/-- a method of the class at C -/
structure Mf (P : Program) (w : World) (K : KF) (mg : Str → Option Value) (base : Heap) (CX : CXT) (k : Nat) (C : Addr) (m : Str) (sp : Sp) : Prop where
  fn : FnR P w K mg base CX k (He.ma K C m) sp
  me : Meth K C m (He.ma K C m)
/-- a property of the class at C -/
structure Pf (P : Program) (w : World) (K : KF) (mg : Str → Option Value) (base : Heap) (k : Nat) (C : Addr) (m : Str) (sp : Sp) : Prop where
  ex : ∃ fd, FnOk P w K mg base CX0 k (pget K (He.ma K C m)) fd ["self"] sp ∧ Binds K fd ["self"] []
  pr : PropOf K C m (He.ma K C m) (pget K (He.ma K C m))
abbrev tDf (sp : Sp) (E : XK) (t : TA) : TE := fun σ H Q => t σ H fun vs H1 => sp vs H1 Q E
section
variable {P : Program} {w : World} {K : KF} {mg : Str → Option Value} {base : Heap} {k : Nat} {sp : Sp} {st : Stmt} {N ps : List Str}
/-- how a def without defaults binds -/
abbrev BindsS (x qual : Str) (st : Stmt) (ps : List Str) : Prop := ∀ (kV doc pm : Value) (an : Option Addr) (cdv ct : Value) (us : List Value), us.length = ps.length →
  bindArgs (PySem.W.fnOf x qual (defArgs st) (defBody st) (defScope st) .none kV doc pm an cdv ct) ⟨us, []⟩ = pure (ps.zip us)
/-- what is shown of a body -/
abbrev BodyS (CX : CXT) (P : Program) (w : World) (K : KF) (mg : Str → Option Value) (base : Heap) (k : Nat) (qual : Str) (st : Stmt) (f : Addr) (N : List Str) (sp : Sp) : Prop :=
  ∀ (cdv : Value) (A : Around) (outer : List Env) (s : Shared) (H : Hp) (vs : List V) (Q : VK) (E : XK), Room k (A.deeper (envOfC qual (defScope st) s.heap.objs.size f cdv)) → sp vs H Q E →
    ∃ t, PSs (cxOf CX P w K mg base N qual (defScope st) f cdv A outer s H E) (defBody st) t ∧ t { nx := fun _ H' => Q .non H', rt := Q } (start N vs) H
theorem fnr_of {CX : CXT} {x qual : Str} {f : Addr} (F : ∃ fd, FunD K x qual (defArgs st) (defBody st) (defScope st) [] [] f fd) (S : FnScope N ps (defScope st)) (hb : BindsS x qual st ps)
    (len : ∀ vs H Q E, sp vs H Q E → vs.length = ps.length) (hbody : BodyS CX P w K mg base k qual st f N sp) : FnR P w K mg base CX (k + 1) f sp := by
  obtain ⟨fd, F⟩ := F
  have G : FnOk P w K mg base CX (k + 1) f fd ps sp := F.ok S len hbody
  exact (G.raw (F.bindsN hb) .nil).imp fun vs H Q E h => by rw [List.append_nil]; exact h
theorem df_of {CX : CXT} {x : Str} (F : ∃ fd, FunD K x x (defArgs st) (defBody st) (defScope st) [] [] (He.ga K x) fd) (gm : mg x = some (.ref (He.ga K x))) (S : FnScope N ps (defScope st)) (hb : BindsS x x st ps)
    (len : ∀ vs H Q E, sp vs H Q E → vs.length = ps.length) (hbody : BodyS CX P w K mg base k x st (He.ga K x) N sp) : Df P w K mg base CX (k + 1) x sp :=
  ⟨fnr_of F S hb len hbody, F.elim fun _ F => F.kp, gm⟩
theorem mf_of {CX : CXT} {C : Addr} {m qual : Str} (F : ∃ fd, FunD K m qual (defArgs st) (defBody st) (defScope st) [] [] (He.ma K C m) fd) (me : Meth K C m (He.ma K C m)) (S : FnScope N ps (defScope st)) (hb : BindsS m qual st ps)
    (len : ∀ vs H Q E, sp vs H Q E → vs.length = ps.length) (hbody : BodyS CX P w K mg base k qual st (He.ma K C m) N sp) : Mf P w K mg base CX (k + 1) C m sp :=
  ⟨fnr_of F S hb len hbody, me⟩
theorem pf_of {C : Addr} {m qual : Str} (F : ∃ fd, FunD K m qual (defArgs st) (defBody st) (defScope st) [] [] (pget K (He.ma K C m)) fd) (pr : PropOf K C m (He.ma K C m) (pget K (He.ma K C m))) (S : FnScope N ["self"] (defScope st)) (hb : BindsS m qual st ["self"])
    (len : ∀ vs H Q E, sp vs H Q E → vs.length = (["self"] : List Str).length) (hbody : BodyS CX0 P w K mg base k qual st (pget K (He.ma K C m)) N sp) : Pf P w K mg base (k + 1) C m sp := by
  obtain ⟨fd, F⟩ := F
  exact ⟨⟨fd, F.ok S len hbody, F.bindsN hb⟩, pr⟩
theorem Df.imp {CX : CXT} {x : Str} {sp' : Sp} (D : Df P w K mg base CX k x sp) (h : ∀ vs H Q E, sp' vs H Q E → sp vs H Q E) : Df P w K mg base CX k x sp' := ⟨D.fn.imp h, D.kp, D.gm⟩
end
section
variable {X : Cx} {CX : CXT} {k j : Nat} {x m : Str} {sp : Sp} {E : XK} {e o : Expr} {es : List Expr} {t : TA} {ta : TE} {p pos apos : Pos} {C : Addr}
/-- f(e, ..) -/
theorem pe_df (D : Df X.prog X.w X.K X.mg X.base CX k x sp) (hr : Room j X.A) (hk : k ≤ j) (hx : Passes CX X E) (ha : PA X (e :: es) t) (hg : Gl X x := by rfl)
    (hdb : (x == ("__debug__" : Str)) = false := by decide) (he : starEach (e :: es) X.env = (false, eval e X.env) :: starEach es X.env := by rfl) (hpl : (backTo pos (starEach es X.env)).any (·.1) = false := by rfl) :
    PE X (.Call (.Name x p) (e :: es) [] pos) (tDf sp E t) := by
  refine ⟨fun pins s σ H Q I h => ?_⟩
  refine wpAny_Call_Name_kw (ld_glob I hg D.gm ?_ hdb)
  refine PySem.W.callWith_K (h₀ := X.base) I.ok.mod.kin D.kp (thn (ha.run pos pins s σ H _ I h) fun us s1 ⟨vs, H1, I1, r, q⟩ => ⟨I1.kIn, ?_⟩) he hpl
  exact wpAny_call (run_fnR D.fn (hr.mono hk) hx I1 r q)
/-- the same, the wish about exceptions by the slots -/
abbrev tDfS (sp : Sp) (E : L2.St → XK) (t : TA) : TE := fun σ H Q => t σ H fun vs H1 => sp vs H1 Q (E σ)
theorem runS {f : Addr} {E : L2.St → XK} {pins : List (Addr × Obj)} {σ : L2.St} {H : Hp} {s : Shared} {Q : VK} {us : List Value} {vs : List V} (F : FnR X.prog X.w X.K X.mg X.base CX k f sp) (hr : Room k X.A) (hx : PassesAt CX X σ (E σ))
    (I : Inv X pins σ H s) (r : Vals vs us) (h : sp vs H Q (E σ)) : wpAny (model X.prog X.w) X.A (call (.ref f) us) (EP X pins σ Q) X.xe s := by
  refine wpAny_call (codeAny_mono (F X.A X.stack s H us vs Q (E σ) hr I.env0 r h) fun r s' hq => ?_)
  cases r with
  | error e => exact hx pins H s e s' I hq
  | ok fl =>
    cases fl with
    | ret u => exact I.after hq
    | next => exact False.elim hq
    | brk => exact False.elim hq
    | cont => exact False.elim hq
theorem pe_dfS {E : L2.St → XK} (D : Df X.prog X.w X.K X.mg X.base CX k x sp) (hr : Room j X.A) (hk : k ≤ j) (hx : ∀ σ, PassesAt CX X σ (E σ)) (ha : PA X (e :: es) t) (hg : Gl X x := by rfl)
    (hdb : (x == ("__debug__" : Str)) = false := by decide) (he : starEach (e :: es) X.env = (false, eval e X.env) :: starEach es X.env := by rfl) (hpl : (backTo pos (starEach es X.env)).any (·.1) = false := by rfl) :
    PE X (.Call (.Name x p) (e :: es) [] pos) (tDfS sp E t) := by
  refine ⟨fun pins s σ H Q I h => ?_⟩
  refine wpAny_Call_Name_kw (ld_glob I hg D.gm ?_ hdb)
  refine PySem.W.callWith_K (h₀ := X.base) I.ok.mod.kin D.kp (thn (ha.run pos pins s σ H _ I h) fun us s1 ⟨vs, H1, I1, r, q⟩ => ⟨I1.kIn, ?_⟩) he hpl
  exact runS D.fn (hr.mono hk) (hx σ) I1 r q
/-- o.m(e, ..) -/
theorem pe_mf {pl : Sem Bool} (he : PE X o ta) (c : Cls X.K C) (M : Mf X.prog X.w X.K X.mg X.base CX k C m sp) (hr : Room j X.A) (hk : k ≤ j) (hx : Passes CX X E) (ha : PA X (e :: es) t)
    (hst : starEach (e :: es) X.env = (false, eval e X.env) :: starEach es X.env := by rfl) (hpl : (backTo pos (starEach es X.env)).any (·.1) = false := by rfl)
    (ht : eval (.Call (.Attribute o m apos) (e :: es) [] pos) X.env = (do
      let ov ← eval o X.env
      standAt apos.atName
      let (f, first) ← holding [ov] (getMethod ov m pl)
      callWith pos f first (backTo pos (starEach (e :: es) X.env)) (backToKw pos (keywordEach [] X.env))) := by rfl) :
    PE X (.Call (.Attribute o m apos) (e :: es) [] pos) (tMethR C m sp E ta t) := pe_methR he c M.me M.fn (hr.mono hk) hx ha hst hpl ht
/-- o.m() -/
abbrev tMf0 (C : Addr) (m : Str) (sp : Sp) (E : XK) (ta : TE) : TE := fun σ H Q => ta σ H fun x H1 => ∃ a dx fs, x = .ref a ∧ H1 a = some (.ins C dx fs) ∧ fs.lookup m = none ∧ sp [x] H1 Q E
theorem pe_mf0 {pl : Sem Bool} (he : PE X o ta) (c : Cls X.K C) (M : Mf X.prog X.w X.K X.mg X.base CX k C m sp) (hr : Room j X.A) (hk : k ≤ j) (hx : Passes CX X E)
    (ht : eval (.Call (.Attribute o m apos) [] [] pos) X.env = (do
      let ov ← eval o X.env
      standAt apos.atName
      let (f, first) ← holding [ov] (getMethod ov m pl)
      callWith pos f first (backTo pos (starEach [] X.env)) (backToKw pos (keywordEach [] X.env))) := by rfl) :
    PE X (.Call (.Attribute o m apos) [] [] pos) (tMf0 C m sp E ta) := by
  refine ⟨fun pins s σ H Q I h => ?_⟩
  refine PySem.W.methodCall_KW (pl := pl) (thn (he.run pins s σ H _ I h) fun u s1 ⟨y, H1, I1, rx, a, dx, fs, ex, ea, l, q⟩ => ?_) ht
  subst ex
  obtain rfl : u = Value.ref a := rx
  refine getmeth_ok I1 ea c M.me l ?_
  exact PySem.W.callWith_K0 (first := [.ref a]) I1.kIn M.me.kp (wpAny_call (run_fnR (us := [.ref a]) (vs := [.ref a]) M.fn (hr.mono hk) hx I1 (.cons rfl .nil) q))
/-- o.f, a property -/
theorem pe_pf (he : PE X e ta) (c : Cls X.K C) (D : Pf X.prog X.w X.K X.mg X.base k C m sp) (hr : Room j X.A) (hk : k + 1 ≤ j) (hab : attributeBase e m X.env (eval e X.env) = eval e X.env := by rfl) :
    PE X (.Attribute e m pos) (tProp C sp [] E0 ta) := by
  obtain ⟨fd, F, b⟩ := D.ex
  exact pe_prop he c D.pr F (hr.mono hk) b .nil pass0 hab
end
/-! ### heaps that grow: what is tracked stays, but for the addresses of M; tuples stay; lists stay lists, dicts dicts -/
structure St' (M : List Addr) (H H' : Hp) : Prop where
  kp : ∀ b o, H b = some o → b ∉ M → H' b = some o
  tp : ∀ b xs, H b = some (.tup xs) → H' b = some (.tup xs)
  lv : ∀ b o, H b = some o → ∃ o', H' b = some o'
  ll : ∀ b xs, H b = some (.lst xs) → ∃ ys, H' b = some (.lst ys)
  dd : ∀ b xs, H b = some (.dK xs) → ∃ ys, H' b = some (.dK ys)
theorem St'.refl {M : List Addr} {H : Hp} : St' M H H := ⟨fun _ _ h _ => h, fun _ _ h => h, fun _ o h => ⟨o, h⟩, fun _ o h => ⟨o, h⟩, fun _ o h => ⟨o, h⟩⟩
theorem St'.trans {M : List Addr} {H H1 H2 : Hp} (a : St' M H H1) (b : St' M H1 H2) : St' M H H2 :=
  ⟨fun c o h n => b.kp c o (a.kp c o h n) n, fun c xs h => b.tp c xs (a.tp c xs h), fun c o h => (a.lv c o h).elim fun o' h' => b.lv c o' h', fun c o h => (a.ll c o h).elim fun o' h' => b.ll c o' h', fun c o h => (a.dd c o h).elim fun o' h' => b.dd c o' h'⟩
theorem St'.mono {M M' : List Addr} {H H' : Hp} (a : St' M H H') (h : ∀ m ∈ M, m ∈ M') : St' M' H H' := ⟨fun c o e n => a.kp c o e fun z => n (h c z), a.tp, a.lv, a.ll, a.dd⟩
theorem St'.w0 {M : List Addr} {H H' : Hp} (a : St' [] H H') : St' M H H' := a.mono (fun m h => by cases h)
/-- an object at a place that was free at first -/
theorem St'.own {M : List Addr} {H H1 : Hp} (a : St' M H H1) {p : Addr} {o : HO} (hp : H p = none) : St' M H (upd H1 p o) := by
  have n : ∀ b u, H b = some u → b ≠ p := fun b u e z => by rw [z, hp] at e; cases e
  refine ⟨fun b u e m => ?_, fun b xs e => ?_, fun b u e => ?_, fun b u e => ?_, fun b u e => ?_⟩
  · rw [upd_ne (n b u e)]; exact a.kp b u e m
  · rw [upd_ne (n b _ e)]; exact a.tp b xs e
  · rw [upd_ne (n b u e)]; exact a.lv b u e
  · rw [upd_ne (n b _ e)]; exact a.ll b u e
  · rw [upd_ne (n b _ e)]; exact a.dd b u e
theorem St'.free {M : List Addr} {H H' : Hp} (a : St' M H H') {p : Addr} (h : H' p = none) : H p = none := by
  cases q : H p with
  | none => rfl
  | some o =>
    obtain ⟨o', h'⟩ := a.lv p o q
    rw [h] at h'
    cases h'
/-- a new object, seen from an earlier heap -/
theorem St'.new {M : List Addr} {H H1 : Hp} (a : St' M H H1) {p : Addr} {o : HO} (hp : H1 p = none) : St' M H (upd H1 p o) := a.own (a.free hp)
/-- a list of M is changed -/
theorem St'.putL {M : List Addr} {H H1 : Hp} (a : St' M H H1) {p : Addr} {xs ys : List V} (hm : p ∈ M) (h0 : H1 p = some (.lst xs)) : St' M H (upd H1 p (.lst ys)) := by
  refine ⟨fun b u e m => ?_, fun b xs e => ?_, fun b u e => ?_, fun b u e => ?_, fun b u e => ?_⟩
  · rw [upd_ne fun z => m (by rw [z]; exact hm)]; exact a.kp b u e m
  · have h1 := a.tp b xs e
    rw [upd_ne fun z => by rw [z, h0] at h1; cases h1]
    exact h1
  · by_cases z : b = p
    · exact ⟨_, by rw [z, upd_same]⟩
    · rw [upd_ne z]; exact a.lv b u e
  · by_cases z : b = p
    · exact ⟨_, by rw [z, upd_same]⟩
    · rw [upd_ne z]; exact a.ll b u e
  · obtain ⟨v, h1⟩ := a.dd b u e
    rw [upd_ne fun z => by rw [z, h0] at h1; cases h1]
    exact ⟨v, h1⟩
/-- an instance of M is changed -/
theorem St'.putI {M : List Addr} {H H1 : Hp} (a : St' M H H1) {p C dx : Addr} {fs gs : List (Str × V)} (hm : p ∈ M) (h0 : H1 p = some (.ins C dx fs)) : St' M H (upd H1 p (.ins C dx gs)) := by
  have ne : ∀ b o, H1 b = some o → (∀ C dx fs, o ≠ .ins C dx fs) → b ≠ p := fun b o h1 k z => by
    rw [z, h0] at h1
    exact k _ _ _ (Option.some.inj h1).symm
  refine ⟨fun b u e m => ?_, fun b xs e => ?_, fun b u e => ?_, fun b u e => ?_, fun b u e => ?_⟩
  · rw [upd_ne fun z => m (by rw [z]; exact hm)]; exact a.kp b u e m
  · have h1 := a.tp b xs e
    rw [upd_ne (ne _ _ h1 fun _ _ _ z => by cases z)]
    exact h1
  · by_cases z : b = p
    · exact ⟨_, by rw [z, upd_same]⟩
    · rw [upd_ne z]; exact a.lv b u e
  · obtain ⟨v, h1⟩ := a.ll b u e
    rw [upd_ne (ne _ _ h1 fun _ _ _ z => by cases z)]
    exact ⟨v, h1⟩
  · obtain ⟨v, h1⟩ := a.dd b u e
    rw [upd_ne (ne _ _ h1 fun _ _ _ z => by cases z)]
    exact ⟨v, h1⟩
end Yk
set_option Elab.async false
set_option linter.all false
set_option maxRecDepth 100000
set_option maxHeartbeats 4000000
/-! words: len, bool, str, ==, != of own instances -/
namespace Yk
open PySem PySem.Spec PyProof.Rows L2
section
variable {X : Cx} {CX : CXT} {n : Nat} {f C : Addr} {sp : Sp} {E : XK}
theorem run_below {A : Around} {pins : List (Addr × Obj)} {σ : L2.St} {H : Hp} {s : Shared} {Q : VK} {us : List Value} {vs : List V} (F : FnR X.prog X.w X.K X.mg X.base CX n f sp) (sb : L2.Sub X n A) (hx : Passes CX X E)
    (I : Inv X pins σ H s) (r : Vals vs us) (h : sp vs H Q E) : wpAny (model X.prog X.w) A (call (.ref f) us) (EP X pins σ Q) X.xe s := by
  have e0 : Env0 X.prog X.w X.K X.mg X.base A X.stack s H := by
    have e := I.env0
    exact ⟨by rw [sb.fr]; exact e.frames, e.mod, e.bs, e.bsz, e.funs, e.frf, e.hok, e.bare⟩
  refine wpAny_call (codeAny_mono (F A X.stack s H us vs Q E sb.room e0 r h) fun r s' hq => ?_)
  cases r with
  | error e => exact hx pins σ H s e s' I hq
  | ok fl =>
    cases fl with
    | ret w => exact I.after hq
    | next => exact False.elim hq
    | brk => exact False.elim hq
    | cont => exact False.elim hq
/-- a built-in that asks an instance's own method of no argument -/
abbrev rOwn (C : Addr) (sp : Sp) (E : XK) (W : V → Prop) : List V → Hp → VK → Prop := fun xs H Q => ∃ a dx fs, xs = [.ref a] ∧ H a = some (.ins C dx fs) ∧ sp [.ref a] H (fun v H' => W v ∧ Q v H') E
theorem call_len_own (M : Mf X.prog X.w X.K X.mg X.base CX n C "__len__" sp) (hr : Room (n + 2) X.A) (hx : Passes CX X E) :
    CallR X (.builtin "len") (rOwn C sp E fun v => ∃ k : Nat, v = .int k ∧ k < 1000) := by
  intro pins s σ H xs us Q I r h
  obtain ⟨a, dx, fs, rfl, ha, q⟩ := h
  obtain rfl := Vals.ref1 r
  obtain ⟨mA, O, _⟩ := ins_get I.hok ha
  obtain ⟨od, J, _⟩ := O.look
  obtain ⟨m, hF⟩ := I.fr
  refine PySem.W.len_K hF I.ok.mod.kin J M.me.at_ M.me.fn (thn (run_below M.fn (A := X.A.in1) ⟨hr.in1.mono (by omega), rfl⟩ hx I (vs := [.ref a]) (us := [.ref a]) (.cons rfl .nil) q) fun u s' z => ?_)
  obtain ⟨v, H', I', rv, ⟨k, e, hk⟩, q'⟩ := z
  subst e
  obtain ⟨t, rfl⟩ := rv
  exact ⟨⟨by omega, by omega⟩, .int k, H', I'.tok _, ⟨_, rfl⟩, q'⟩
theorem call_str_own (M : Mf X.prog X.w X.K X.mg X.base CX n C "__str__" sp) (hr : Room (n + 2) X.A) (hx : Passes CX X E) :
    CallR X (.type "str") (rOwn C sp E fun v => ∃ k, v = .str k) := by
  intro pins s σ H xs us Q I r h
  obtain ⟨a, dx, fs, rfl, ha, q⟩ := h
  obtain rfl := Vals.ref1 r
  obtain ⟨mA, O, _⟩ := ins_get I.hok ha
  obtain ⟨od, J, _⟩ := O.look
  refine PySem.W.kso_call hr.in1.in1.units0 I.kIn J M.me.at_ M.me.fn (thn (run_below M.fn (A := X.A.in1.in1) ⟨hr.in1.in1.mono (by omega), rfl⟩ hx I (vs := [.ref a]) (us := [.ref a]) (.cons rfl .nil) q) fun u s' z => ?_)
  obtain ⟨v, H', I', rv, ⟨k, e⟩, q'⟩ := z
  subst e
  obtain ⟨t, rfl⟩ := rv
  exact ⟨.str k, H', I', ⟨_, rfl⟩, q'⟩
open Builtin in
theorem call_bool_own (M : Mf X.prog X.w X.K X.mg X.base CX n C "__bool__" sp) (hr : Room (n + 2) X.A) (hx : Passes CX X E) :
    CallR X (.type "bool") (rOwn C sp E fun v => ∃ k, v = .bl k) := by
  intro pins s σ H xs us Q I r h
  obtain ⟨a, dx, fs, rfl, ha, q⟩ := h
  obtain rfl := Vals.ref1 r
  obtain ⟨mA, O, _⟩ := ins_get I.hok ha
  obtain ⟨od, J, _⟩ := O.look
  obtain ⟨m, hF⟩ := I.fr
  have key : wpAny (model X.prog X.w) X.A.in1.in1 (truthy (.ref a)) (fun b s' => EP X pins σ Q (.bool b) s') X.xe s := by
    refine PySem.W.truthy_K hF I.ok.mod.kin J M.me.at_ M.me.fn (thn (run_below M.fn (A := X.A.in1.in1) ⟨hr.in1.in1.mono (by omega), rfl⟩ hx I (vs := [.ref a]) (us := [.ref a]) (.cons rfl .nil) q) fun u s' z => ?_)
    obtain ⟨v, H', I', rv, ⟨k, e⟩, q'⟩ := z
    subst e
    cases rv
    exact ⟨.bl k, H', I', rfl, q'⟩
  refine callType_codes (T := "bool") (Bi := Builtin.«object.__init__») (Q₁ := fun r s₁ => ∃ b, r = .bool b ∧ EP X pins σ Q r s₁) PySem.F.called_bool (PySem.F.typeCall_bool_1 _) PySem.F.entry_object_init ?_ ?_
  · refine codeAny_of_tree ?_
    show wpAny _ X.A.in1.in1 (do checkBuiltinCall "bool.__new__" ⟨[.type "bool", .ref a], []⟩; again (.builtin "bool.__new__" ⟨[.type "bool", .ref a], []⟩)) _ _ s
    refine wpAny_bind (wpAny_of_eq (PySem.F.newCall_bool_1 _) (wpAny_pure ⟨plainId_quiet (by decide +kernel) _, codeAny_builtin PySem.F.entry_bool_new ?_⟩))
    rw [Around.under_plainId (by decide +kernel) _]
    have f1 := F.conv_sub_bool
    unfold Builtin.«bool.__new__»
    obtain ⟨hp, g, d, tk, os⟩ := s
    repeat (any_goals (first | assumption | (with_reducible refine wpAny_mono key (fun b s' z => ?_) fun _ _ x => x) | wp_step))
    exact ⟨b, rfl, z⟩
  · rintro obj s₁ ⟨b, rfl, hq⟩
    exact ⟨PySem.typeIs_bool _ _, PySem.F.args_object_init_2 _ _, object_init_meets PySem.F.called_bool.init.lookup PySem.F.called_bool.made (by decide) X.prog X.w X.A.in1 _ s₁ ⟨PySem.typeIs_bool _ _, rfl, hq⟩⟩

/-! ### == and != by an own __eq__ -/
/-- the types of what is compared -/
inductive TyE (K : KF) (H : Hp) : V → Value → Prop where
  | non : TyE K H .non (.type "NoneType")
  | int (i : Int) : TyE K H (.int i) (.type "int")
  | str (x : Str) : TyE K H (.str x) (.type "str")
  | lst {a : Addr} {xs : List V} (e : H a = some (.lst xs)) : TyE K H (.ref a) (.type "list")
  | tup {a : Addr} {xs : List V} (e : H a = some (.tup xs)) : TyE K H (.ref a) (.type "tuple")
  | ins {a C dx : Addr} {fs : List (Str × V)} (e : H a = some (.ins C dx fs)) : TyE K H (.ref a) (.ref C)
theorem tyE_looks {pins : List (Addr × Obj)} {σ : L2.St} {H : Hp} {s : Shared} {x : V} {u t : Value} (I : Inv X pins σ H s) (rx : RelV x u) (ty : TyE X.K H x t) : PySem.W.Looks (model X.prog X.w) s.heap (typeOf u) t := by
  cases ty with
  | non => cases (show u = Value.none from rx); exact PySem.W.Looks.of_pure rfl
  | int i => obtain ⟨t, q⟩ := (show ∃ t, u = Value.int i t from rx); cases q; exact PySem.W.Looks.of_pure rfl
  | str y => obtain ⟨t, q⟩ := (show ∃ t, u = Value.str y t from rx); cases q; exact PySem.W.Looks.of_pure rfl
  | @lst a xs ea =>
    cases (show u = Value.ref a from rx)
    obtain ⟨_, _, n, _, h1⟩ := (show ObjOk X.prog X.w H s.heap a (.lst xs) from I.hok a _ ea)
    exact (PySem.W.Looks.ld h1).andThen .now
  | @tup a xs ea =>
    cases (show u = Value.ref a from rx)
    obtain ⟨_, _, _, o, h1, h2, _⟩ := (show ObjOk X.prog X.w H s.heap a (.tup xs) from I.hok a _ ea)
    exact h2 ▸ (PySem.W.Looks.ld h1).andThen .now
  | @ins a C dx fs ea =>
    cases (show u = Value.ref a from rx)
    obtain ⟨mA, O, _⟩ := ins_get I.hok ea
    obtain ⟨od, J, _⟩ := O.look
    exact J.type
/-- o == y -/
def rEqO (K : KF) (C : Addr) (sp : Sp) (E : XK) : R2 := fun x y H Q => ∃ a dx fs t, x = .ref a ∧ H a = some (.ins C dx fs) ∧ TyE K H y t ∧ PySem.W.notFirst K C t = true ∧ sp [.ref a, y] H (fun v H' => (∃ k, v = .bl k) ∧ Q v H') E
theorem op_eqO (M : Mf X.prog X.w X.K X.mg X.base CX n C "__eq__" sp) (hr : Room (n + 2) X.A) (hx : Passes CX X E) : OpR X (compareOp .Eq) (rEqO X.K C sp E) := by
  intro pins s σ H x y v u Q I rx ry h
  obtain ⟨a, dx, fs, t, rfl, ha, ty, nf, q⟩ := h
  obtain rfl : v = Value.ref a := rx
  obtain ⟨mA, O, _⟩ := ins_get I.hok ha
  obtain ⟨od, J, _⟩ := O.look
  obtain ⟨m, hF⟩ := I.fr
  show wpAny (model X.prog X.w) X.A (richCompare .Eq (.ref a) u) _ _ s
  refine PySem.W.cmp_K (op := .Eq) (tb := t) hr.units0 hF I.ok.mod.kin J (tyE_looks I ry ty) nf M.me.at_ M.me.fn ?_
  refine thn (run_below M.fn (A := X.A) ⟨hr.mono (by omega), rfl⟩ hx I (vs := [.ref a, y]) (us := [.ref a, u]) (.cons rfl (.cons ry .nil)) q) fun z s' d => ?_
  obtain ⟨v, H', I', rv, ⟨k, e⟩, q'⟩ := d
  subst e
  cases rv
  exact ⟨.bl k, H', I', rfl, q'⟩
/-- the right side's class is a subclass of the left side's: it is asked first -/
def rEqR (K : KF) (C D : Addr) (sp : Sp) (E : XK) : R2 := fun x y H Q => ∃ a b dx fs dy gs, x = .ref a ∧ y = .ref b ∧ H a = some (.ins C dx fs) ∧ H b = some (.ins D dy gs) ∧ sp [.ref b, .ref a] H (fun v H' => (∃ k, v = .bl k) ∧ Q v H') E
theorem op_eqR {D : Addr} (M : Mf X.prog X.w X.K X.mg X.base CX n D "__eq__" sp) (hn : D ≠ C) (hs : PySem.W.subIn X.K (.ref D) (.ref C) = some true) (hr : Room (n + 2) X.A) (hx : Passes CX X E) : OpR X (compareOp .Eq) (rEqR X.K C D sp E) := by
  intro pins s σ H x y v u Q I rx ry h
  obtain ⟨a, b, dx, fs, dy, gs, rfl, rfl, ha, hb, q⟩ := h
  obtain rfl : v = Value.ref a := rx
  obtain rfl : u = Value.ref b := ry
  obtain ⟨mA, O, _⟩ := ins_get I.hok ha
  obtain ⟨od, J, _⟩ := O.look
  obtain ⟨mB, O2, _⟩ := ins_get I.hok hb
  obtain ⟨od2, J2, _⟩ := O2.look
  have one : wpAny (model X.prog X.w) X.A (tryCompare (.ref b) (cmpInfo .Eq).2.2 (.ref a)) (fun r s' => ∃ v, r = some v ∧ EP X pins σ Q v s') X.xe s := by
    unfold tryCompare
    refine wpAny_bind (PySem.W.ifBound_K I.kIn J2 M.me.at_ M.me.fn (thn (run_below M.fn (A := X.A) ⟨hr.mono (by omega), rfl⟩ hx I (vs := [.ref b, .ref a]) (us := [.ref b, .ref a]) (.cons rfl (.cons rfl .nil)) q) fun z s' d => ?_))
    obtain ⟨v, H', I', rv, ⟨k, e⟩, q'⟩ := d
    subst e
    cases rv
    exact wpAny_pure ⟨_, rfl, .bl k, H', I', rfl, q'⟩
  show wpAny (model X.prog X.w) X.A (richCompare .Eq (.ref a) (.ref b)) _ _ s
  unfold richCompare
  simp only [oneThing_ref]
  refine wpAny_holding (wpAny_bind (wpAny_cRoomFor hr.units0 ?_))
  refine wpAny_bind (J.type.here (wpAny_bind (J2.type.here ?_)))
  rw [if_pos (by simp only [bne_iff_ne, ne_eq, Value.ref.injEq]; exact fun z => hn z.symm)]
  refine wpAny_bind ((PySem.W.looks_subIn I.kIn hs).here ?_)
  simp only [if_true]
  refine wpAny_bind (thn one fun r s' z => ?_)
  obtain ⟨v, rfl, hq⟩ := z
  first | exact wpAny_pure hq | exact wpAny_bind (wpAny_rule (wpAny_pure hq))
theorem ne_bind (self : Value) : bindSpecial (.builtin "object.__ne__") self = pure (.builtin "object.__ne__", [self]) := PySem.F.cmp_object.ne.bind self
/-- o != y by object.__ne__ and the own __eq__ -/
def rNeO (K : KF) (C : Addr) (sp : Sp) (E : XK) : R2 := fun x y H Q => ∃ a dx fs t, x = .ref a ∧ H a = some (.ins C dx fs) ∧ TyE K H y t ∧ PySem.W.notFirst K C t = true ∧ sp [.ref a, y] H (fun v H' => ∃ k, v = .bl k ∧ Q (.bl (!k)) H') E
theorem op_neO (M : Mf X.prog X.w X.K X.mg X.base CX n C "__eq__" sp) (ne : PySem.W.findIn X.K (.ref C) "__ne__" = some (some (.builtin "object.__ne__"))) (ob : PySem.W.mroIn X.K C (.type "object") = some true) (hr : Room (n + 2) X.A) (hx : Passes CX X E) :
    OpR X (compareOp .NotEq) (rNeO X.K C sp E) := by
  intro pins s σ H x y v u Q I rx ry h
  obtain ⟨a, dx, fs, t, rfl, ha, ty, nf, q⟩ := h
  obtain rfl : v = Value.ref a := rx
  obtain ⟨mA, O, _⟩ := ins_get I.hok ha
  obtain ⟨od, J, _⟩ := O.look
  obtain ⟨m, hF⟩ := I.fr
  have X1 := I.kIn
  have body : wpAny (model X.prog X.w) X.A.in1 (Builtin.«object.__ne__» ⟨[.ref a, u], []⟩) (fun fin s' => match fin with | .done f => wants (fun w s' => EP X pins σ Q w s' ∧ ∃ b, w = Value.bool b) X.xe (.ok f) s' | .again c' => c'.quiet = true ∧ codeAny (model X.prog X.w) X.A c' (wants (fun w s' => EP X pins σ Q w s' ∧ ∃ b, w = Value.bool b) X.xe) s') X.xe s := by
    unfold Builtin.«object.__ne__»
    obtain ⟨hp, g, d, tk, os⟩ := s
    repeat (any_goals (first
      | (refine wpAny_bind (m := callSpecialIfBound? (.ref a) (Str.ofString "__eq__") [u]) (PySem.W.ifBound_K X1 J M.me.at_ M.me.fn (thn (run_below M.fn (A := X.A.in1) ⟨hr.in1.mono (by omega), rfl⟩ hx I (vs := [.ref a, y]) (us := [.ref a, u]) (.cons rfl (.cons ry .nil)) q) fun z s' d => ?_)))
      | (with_reducible refine wpAny_cRoomFor hr.in1.units0 ?_)
      | wp_step))
    obtain ⟨v, H', I', rv, k, e, q'⟩ := d
    subst e
    cases rv
    refine wpAny_bind (wpAny_truthy_bool ?_)
    exact wpAny_pure ⟨⟨.bl (!k), H', I', rfl, q'⟩, _, rfl⟩
  have sub : PySem.W.Looks (model X.prog X.w) s.heap (isInstance (.ref a) (.type "object")) true := J.type.andThen (PySem.W.looks_mroIn X1 ob)
  have call1 : wpAny (model X.prog X.w) X.A (call (.builtin "object.__ne__") [.ref a, u]) (fun w s' => EP X pins σ Q w s' ∧ ∃ b, w = Value.bool b) X.xe s := by
    refine wpAny_call (codeAny_call_builtin PySem.F.cmp_object.ne.plain PySem.F.cmpEntry_ne ?_)
    simp only [checkBuiltinCall, PySem.F.cmpKind_ne, PySem.F.cmpSplit_ne]
    refine wpAny_bind (sub.here ?_)
    have ha := PySem.F.cmpArgs_ne (.ref a) u
    cases hsig : Manifest.signature? "object.__ne__" with
    | none => exact wpAny_pure body
    | some sig =>
      simp only [argsOk, hsig] at ha
      have h2 : Bind.checkArgs "object.__ne__" sig ⟨[.ref a, u], []⟩ = pure () := ha
      show wpAny _ _ (Bind.checkArgs "object.__ne__" sig ⟨[.ref a, u], []⟩) _ _ _
      rw [h2]; exact wpAny_pure body
  have one : wpAny (model X.prog X.w) X.A (tryCompare (.ref a) (cmpInfo .NotEq).2.1 u) (fun r s' => ∃ v, r = some v ∧ EP X pins σ Q v s') X.xe s := by
    unfold tryCompare
    refine wpAny_bind ?_
    simp only [callSpecialIfBound?, bindSpecialIfBound?]
    refine wpAny_holding (wpAny_bind (wpAny_bind (wpAny_bind (J.type.here ((PySem.W.looks_findIn X1 ne).here ?_)))))
    refine wpAny_bind (wpAny_askSetting (wpAny_ite ?_))
    have fin : wpAny (model X.prog X.w) X.A (call (.builtin "object.__ne__") ([.ref a] ++ [u]) >>= fun v => pure (some v)) (fun v s' => ∃ w, v = some w ∧ EP X pins σ Q w s' ∧ ∃ b, w = Value.bool b) X.xe s := by
      refine wpAny_bind (thn call1 fun v s' h' => ?_)
      exact wpAny_pure ⟨v, rfl, h'⟩
    have last : ∀ v s', (∃ w, v = some w ∧ EP X pins σ Q w s' ∧ ∃ b, w = Value.bool b) → wpAny (model X.prog X.w) X.A (match v with | some .notImplemented => pure none | none => pure none | some w => pure (some w)) (fun r s' => ∃ v, r = some v ∧ EP X pins σ Q v s') X.xe s' := by
      rintro v s' ⟨w, rfl, z, b, rfl⟩
      exact wpAny_pure ⟨_, rfl, z⟩
    split
    · refine wpAny_bind (wpAny_of_eq (ne_bind _) (wpAny_pure (thn fin last)))
    · refine wpAny_tryCatch (wpAny_bind (wpAny_of_eq (ne_bind _) (wpAny_pure (thn fin last))))
  show wpAny (model X.prog X.w) X.A (richCompare .NotEq (.ref a) u) _ _ s
  unfold richCompare
  simp only [oneThing_ref]
  refine wpAny_holding (wpAny_bind (wpAny_cRoomFor hr.units0 ?_))
  refine wpAny_bind (J.type.here (wpAny_bind ((tyE_looks I ry ty).here ?_)))
  split
  · rename_i q
    have e : PySem.W.subIn X.K t (.ref C) = some false := by
      rcases Bool.or_eq_true_iff.mp nf with e | e
      · rw [beq_iff_eq.mp e] at q; simp at q
      · exact beq_iff_eq.mp e
    refine wpAny_bind ((PySem.W.looks_subIn X1 e).here ?_)
    simp only [Bool.false_eq_true, if_false]
    refine wpAny_bind (thn one fun r s' z => ?_)
    obtain ⟨v, rfl, hq⟩ := z
    exact wpAny_pure hq
  · refine wpAny_bind (wpAny_pure ?_)
    simp only [Bool.false_eq_true, if_false]
    refine wpAny_bind (thn one fun r s' z => ?_)
    obtain ⟨v, rfl, hq⟩ := z
    exact wpAny_pure hq
end
end Yk
set_option Elab.async false
set_option linter.all false
set_option maxRecDepth 100000
set_option maxHeartbeats 4000000
/-! words: super().__init__(..) -/
namespace Yk
open PySem PySem.Spec PyProof.Rows L2 NdefX
abbrev supNF (x qual : Str) (st : Stmt) (cc cda : Addr) : NF := ⟨x, qual, defArgs st, defBody st, defScope st, [("__class__", cc)], cda⟩
section
variable {CX : CXT} {P : Program} {w : World} {K : KF} {mg : Str → Option Value} {base : Heap} {k : Nat} {x qual : Str} {st : Stmt} {f cc cda D : Addr} {fd : FuncData} {N ps : List Str} {sp : Sp}
theorem lk0 {α : Type} {k : Str} {v : α} {r : List (Str × α)} : List.lookup k ((k, v) :: r) = some v := by
  have e : (k == k) = true := beq_self_eq_true k
  simp only [List.lookup, e]
/-- a def that says super(): its body, as the code that runs -/
theorem sup_run (F : SupD K x qual (defArgs st) (defBody st) (defScope st) f cc cda D fd) (S : NScope N ps ["__class__"] (defScope st)) (len : ∀ vs H Q E, sp vs H Q E → vs.length = ps.length)
    (hbody : ∀ (A : Around) (outer : List Env) (s s1 : Shared) (H : Hp) (vs : List V) (Q : VK) (E : XK), Room k (A.deeper (envF (supNF x qual st cc cda) f s.heap.objs.size)) → sp vs H Q E →
      Inv (ncx CX P w K mg base N (supNF x qual st cc cda) f A outer s H E) [] (startF N vs [some (.ref D)]) H s1 →
      _root_.PySem.wpAt (model P w) (A.deeper (envF (supNF x qual st cc cda) f s.heap.objs.size)) (.func (defBody st) (envF (supNF x qual st cc cda) f s.heap.objs.size)) (execs (defBody st) (envF (supNF x qual st cc cda) f s.heap.objs.size))
        (SP (ncx CX P w K mg base N (supNF x qual st cc cda) f A outer s H E) [] { nx := fun _ H' => Q .non H', rt := Q }) (ncx CX P w K mg base N (supNF x qual st cc cda) f A outer s H E).xe s1) :
    FnOk P w K mg base CX (k + 1) f fd ps sp := by
  obtain ⟨oc, od, kV, doc, pm, an, ct, osl, rfl, lk⟩ := F.ex
  refine ⟨len, fun A outer s H args us vs Q E hr e0 hb r hsp => ?_⟩
  have hl := len _ _ _ _ hsp
  have KX : K.In s.heap := e0.mod.kin.keeps fun b o e => (e0.bs b o e).1
  have lim : s.heap.NoLimit := e0.mod.nolimit.keeps fun b o e => (e0.bs b o e).1
  obtain ⟨cl, cld, csl, hcell⟩ := F.cell
  have one : ∀ (y : Str) (c : Addr), List.lookup y [(("__class__" : Str), cc)] = some c → c = cc := fun y c e => by
    simp only [List.lookup] at e
    split at e
    · exact (Option.some.inj e).symm
    · cases e
  have C : CellsAt (supNF x qual st cc cda).cl ["__class__"] [some (V.ref D)] s.heap H := {
    len := rfl
    all := fun y c e => by
      have e' := one y c e
      subst e'
      exact ⟨(e0.bs _ _ (e0.mod.kin _ _ hcell)).2, ⟨_, ⟨_, KX _ _ hcell, rfl⟩⟩⟩
    inj := fun y z c e1 e2 => by
      have a1 : y = "__class__" := by
        simp only [supNF, List.lookup] at e1
        split at e1
        · rename_i q; exact beq_iff_eq.mp q
        · cases e1
      have a2 : z = "__class__" := by
        simp only [supNF, List.lookup] at e2
        split at e2
        · rename_i q; exact beq_iff_eq.mp q
        · cases e2
      rw [a1, a2]
    has := fun i y hi => by
      cases i with
      | zero =>
        have hy : y = "__class__" := (Option.some.inj hi).symm
        subst hy
        refine ⟨cc, lk0, fun v hv => ?_⟩
        have hv' : v = V.ref D := by
          have z : some (some (V.ref D)) = some (some v) := hv
          cases z
          rfl
        subst hv'
        exact ⟨.ref D, rfl, ⟨_, KX _ _ hcell, rfl⟩⟩
      | succ i => simp at hi }
  refine PySem.ks_codeAny_call_defAt (fd := PySem.W.ksFn x qual (defArgs st) (defBody st) (defScope st) .none kV doc pm an (.ref cda) ct cc) (body := defBody st) (binds := ps.zip us) hr.depth (KX _ _ lk) rfl lim (PySem.W.codeRec_of KX F.code) rfl hb S.nocell
    (fun ⟨n, _⟩ hy => S.par n (List.of_mem_zip hy).1) (fun h₁ hns kp => ?_) S.co S.gen S.kind
  have I : Inv (ncx CX P w K mg base N (supNF x qual st cc cda) f A outer s H E) [] (startF N vs [some (.ref D)]) H { s with heap := h₁, toks := s.toks + (ps.zip us).length } := inv_startN S hr.hd e0 hl r C hns kp
  refine PySem.wpAt_mono (hbody A outer s _ H vs Q E (hr.deeper _) hsp I) (fun fl s' hs => ?_) fun e s' hs => hs
  have fin : ∀ {σ' : L2.St} {H' : Hp} {v : V} {u : Value}, Inv (ncx CX P w K mg base N (supNF x qual st cc cda) f A outer s H E) [] σ' H' s' → L2.RelV v u → Q v H' → CE outer P w H s Q u s' :=
    fun {σ' H' v u} J rv q => ⟨v, H', J.os, J.bare, J.base, J.hok, rv, q⟩
  cases fl with
  | ret u =>
    obtain ⟨v, σ', H', J, rv, q⟩ := hs
    exact fin J rv q
  | next =>
    obtain ⟨σ', H', J, q⟩ := hs
    exact fin (v := V.non) (u := Value.none) J rfl q
  | brk =>
    obtain ⟨_, _, _, q⟩ := hs
    exact False.elim q
  | cont =>
    obtain ⟨_, _, _, q⟩ := hs
    exact False.elim q

/-- super() in such a body -/
theorem sup_super {X : Cx} {σ : L2.St} {H : Hp} {s : Shared} {ar : Arg} {i : Nat} {C a : Addr} {ox : Obj} {odx : Option Obj} {cdD : ClassData} {p0 p1 : Pos} {attr : Str} {whole : Sem Value} {Q : Value → Shared → Prop} {body : List Stmt}
    (F : SupD X.K x qual (defArgs st) (defBody st) (defScope st) f cc cda D fd) (hP : (X.prog.main.file : Str) = theFile) (htop : (X.prog.main.scope.names.lookup ("super" : Str)).isSome = false) (hm : X.mg "super" = none)
    (hks : X.env.kindOf "super" = some .globalImplicit) (hkc : X.env.kindOf "__class__" = some .free) (hfu : X.env.func = some f) (hco : X.env.code = .ref cda) (hcl : X.env.cells.lookup ("__class__" : Str) = some cc) (hat : (attr == ("__class__" : Str)) = false)
    (hp : ((defArgs st).posonlyargs ++ (defArgs st).args).head? = some ar) (hN : X.N[i]? = some ar.arg) (hv : σ[i]? = some (some (.ref a))) (hk : X.env.kindOf ar.arg = some .local)
    (I : Inv X [] σ H s) (J : PySem.W.InstAt s.heap a ox C odx) (hD : PySem.W.clsIn X.K D = some cdD) (hsub : PySem.W.mroIn X.K C (.ref D) = some true)
    (hq : ∀ h', h'.get? s.heap.objs.size = some (PySem.W.ks_superObj D a C) → (∀ y o, s.heap.get? y = some o → h'.get? y = some o) → Q (.ref s.heap.objs.size) { s with heap := h' }) :
    _root_.PySem.wpAt (model X.prog X.w) X.A (.func body X.env) (attributeBase (.Call (.Name "super" p0) [] [] p1) attr X.env whole) Q X.xe s := by
  obtain ⟨oc, od, kV, doc, pm, an, ct, osl, rfl, lk⟩ := F.ex
  obtain ⟨cl, cld, csl, hcell⟩ := F.cell
  obtain ⟨ccl, cdd, vs, ccs, tf, hcd, hvs⟩ := F.file
  have KX := I.kIn
  obtain ⟨oD, hD1, hD2⟩ : ∃ oD, s.heap.get? D = some oD ∧ oD.data = .cls cdD := by
    unfold PySem.W.clsIn at hD
    split at hD
    · rename_i c d cd' sl ho
      cases hD
      exact ⟨_, KX _ _ ho, rfl⟩
    · cases hD
  obtain ⟨m, hn, hl⟩ := I.loc
  obtain ⟨u, ru, hu⟩ := hl i ar.arg (.ref a) hN hv (.inl hk)
  have hma : m ar.arg = some (.ref a) := by
    cases ru
    rcases hu with ⟨_, z⟩ | ⟨z, _⟩
    · exact z
    · rw [hk] at z
      rcases z with z | z <;> cases z
  refine ks_wpAt_super_base (env := X.env) hks hkc hat hfu (KX _ _ lk) rfl hp hco (KX _ _ hcd) rfl hvs (by rw [hP]; exact beq_self_eq_true _) htop ?_
  obtain ⟨mb, h1, h2⟩ := I.mod.blt
  refine PySem.W.ks_loadName_global I.ok.kind hks (Calls.loadGlobal_builtin (by rw [I.ok.glob]; exact I.mod.glob.keeps I.bk) hm (by rw [I.ok.blt]; exact h1.keeps I.bk) ((h2 "super" (by decide)).trans (by decide +kernel)) ⟨rfl, ?_⟩)
  refine wpAny_loadName_free I.ok.kind hkc hcl ⟨_, KX _ _ hcell, rfl⟩ ?_
  refine wpAny_loadName_local I.ok.kind hk hn hma ?_
  obtain ⟨hh, g, d, t, os⟩ := s
  refine ks_wpAny_isType_cls hD1 hD2 ⟨rfl, ?_⟩
  refine ks_wpAny_call_super hD1 hD2 J.at_ J.cls (fun c e => ?_) (PySem.W.looks_mroIn KX hsub) (fun h' e k => hq h' e k)
  have := J.no
  unfold PySem.W.notCls at this
  rw [e] at this
  exact Bool.noConfusion this

open PySem.W in
/-- super().__init__(e, ..) of an exception over ValueError -/
theorem sup_exc {X : Cx} {σ : L2.St} {H : Hp} {s : Shared} {ar : Arg} {i : Nat} {C a : Addr} {p0 p1 p2 p3 p4 : Pos} {e : Expr} {es : List Expr} {ta : TA} {pl : Sem Bool} {Q : Hp → Prop} {body rest : List Stmt} {Q' : Flow → Shared → Prop}
    (F : SupD X.K x qual (defArgs st) (defBody st) (defScope st) f cc cda D fd) (hP : (X.prog.main.file : Str) = theFile) (htop : (X.prog.main.scope.names.lookup ("super" : Str)).isSome = false) (hm : X.mg "super" = none)
    (hks : X.env.kindOf "super" = some .globalImplicit) (hkc : X.env.kindOf "__class__" = some .free) (hfu : X.env.func = some f) (hco : X.env.code = .ref cda) (hcl : X.env.cells.lookup ("__class__" : Str) = some cc)
    (hp : ((defArgs st).posonlyargs ++ (defArgs st).args).head? = some ar) (hN : X.N[i]? = some ar.arg) (hv : σ[i]? = some (some (.ref a))) (hk : X.env.kindOf ar.arg = some .local)
    (I : Inv X [] σ H s) (T : OexC X.K C) (ea : H a = some (exo a C none)) (hD : (PySem.W.clsIn X.K D).isSome = true) (hsub : PySem.W.mroIn X.K C (.ref D) = some true) (ho : nsIn X.K cStatics "thirdparty.any" = some none)
    (hsu : ks_superIn X.K C D "__init__" = some (some (.builtin "ValueError.__init__"))) (hVE : subIn X.K (.ref C) (.type "ValueError") = some true)
    (ha : PA X (e :: es) ta) (ht : ta σ H fun vs H1 => vs.length ≤ 1000 ∧ H1 a = some (exo a C none) ∧ Q H1)
    (hrest : ∀ s1 H1, Inv X [] σ H1 s1 → Q H1 → wpAny (model X.prog X.w) X.A (execs rest X.env) Q' X.xe s1)
    (hi : interactive X.env = false := by rfl) (hs : swapsWith (.Call (.Attribute (.Call (.Name "super" p0) [] [] p1) "__init__" p2) (e :: es) [] p3) none p4.line X.env = pure false := by rfl)
    (he : eval (.Call (.Attribute (.Call (.Name "super" p0) [] [] p1) "__init__" p2) (e :: es) [] p3) X.env = (do
      let ov ← attributeBase (.Call (.Name "super" p0) [] [] p1) "__init__" X.env (eval (.Call (.Name "super" p0) [] [] p1) X.env)
      standAt p2.atName
      let (f, first) ← holding [ov] (getMethod ov "__init__" pl)
      callWith p3 f first (backTo p3 (starEach (e :: es) X.env)) []) := by rfl)
    (hst : starEach (e :: es) X.env = (false, eval e X.env) :: starEach es X.env := by rfl) (hpl : (backTo p3 (starEach es X.env)).any (·.1) = false := by rfl) :
    _root_.PySem.wpAt (model X.prog X.w) X.A (.func body X.env) (execs (.Expr (.Call (.Attribute (.Call (.Name "super" p0) [] [] p1) "__init__" p2) (e :: es) [] p3) p4 :: rest) X.env) Q' X.xe s := by
  obtain ⟨nm, qn, N', bs, bm, sn, sub, ab, col, dd, k0, k1, k2, k3, k5, hC, hbm⟩ := T.cls
  have hcl' : PySem.W.clsIn X.K C = some { name := nm, bases := bs, mro := .ref C :: bm, ns := N', qualname := qn, hasDict := true, slotNames := sn, subclasses := sub, abstract := ab, collection := col, hasDel := false } := by unfold PySem.W.clsIn; rw [hC] <;> rfl
  obtain ⟨t1, hoa⟩ := exo_at I.hok ea
  obtain ⟨cdD, hD'⟩ := Option.isSome_iff_exists.mp hD
  have J : InstAt s.heap a ({ cls := .ref C, dict := none, data := .fields #[.ref t1, .none, .none, .none, .bool false, .none] } : Obj) C none := ⟨hoa, rfl, rfl, trivial⟩
  refine ks_wpAt_execs_cons (ks_wpAt_Expr_any (ks_wpAt_MethodCall (pl := pl) ?_ he) hi hs)
  refine sup_super F hP htop hm hks hkc hfu hco hcl (by decide) hp hN hv hk I J hD' hsub fun h' hso kp => ?_
  have I1 : Inv X [] σ H { s with heap := h' } := I.kept kp
  have J1 : InstAt h' a ({ cls := .ref C, dict := none, data := .fields #[.ref t1, .none, .none, .none, .bool false, .none] } : Obj) C none := ⟨kp _ _ hoa, rfl, rfl, trivial⟩
  obtain ⟨hh, g, d, t, os⟩ := s
  have X1 : X.K.In h' := I1.kIn
  have hal : alongIn X.K "__init__" (((.ref C :: bm : List Value).dropWhile (· != .ref D)).drop 1) = some (some (.builtin "ValueError.__init__")) := by
    have z := hsu
    unfold ks_superIn at z
    rw [hcl'] at z
    exact z
  have hI : Looks (model X.prog X.w) h' (isInstance (.ref a) (.type "ValueError")) true := J1.type.andThen (looks_subIn X1 hVE)
  refine kxs_getMethod (name := "__init__") kxs_ValueError hso (looks_opaque X1 ho) (l₀ := .ref C :: bm) (fun A Q E s k q => wpAny_bind ((looks_clsIn X1 hcl') A _ E s k (wpAny_pure q))) rfl X1 hal hI (ks_ne X1 J1 hcl') (by decide) ?_
  have kp2 : ∀ b o, h'.get? b = some o → (h'.push (kxs_mw "ValueError.__init__" a)).get? b = some o := fun b o z => Heap.get?_push_of_some _ z
  have hu : (h'.push (kxs_mw "ValueError.__init__" a)).get? h'.objs.size = some (kxs_mw "ValueError.__init__" a) := Heap.get?_push_at rfl rfl
  have I2 : Inv X [] σ H ⟨h'.push (kxs_mw "ValueError.__init__" a), g, d, t + 1, os⟩ := (I1.tok (t + 1)).kept kp2
  have I3 : Inv X [(h'.objs.size, kxs_mw "ValueError.__init__" a)] σ H ⟨h'.push (kxs_mw "ValueError.__init__" a), g, d, t + 1, os⟩ := I2.pins_of fun p hp => by
    have z' : p = (h'.objs.size, kxs_mw "ValueError.__init__" a) := by simpa using hp
    subst z'
    exact ⟨hu, I1.hok.fresh (Nat.le_refl _), Nat.ne_of_gt I1.lt, I1.nofs (Nat.le_refl _), fun v z => by cases z⟩
  have argsB : wpAny (model X.prog X.w) X.A (spliced (backTo p3 (starEach (e :: es) X.env))) (fun us s1 => KxsAt "ValueError.__init__" h'.objs.size a s1.heap ∧ wpAny (model X.prog X.w) X.A (call (.ref h'.objs.size) us) (fun _ s2 => _root_.PySem.wpAt (model X.prog X.w) X.A (.func body X.env) (execs rest X.env) Q' X.xe s2) X.xe s1) X.xe ⟨h'.push (kxs_mw "ValueError.__init__" a), g, d, t + 1, os⟩ := by
    refine thn (ha.run p3 _ _ σ H _ I3 ht) fun us s1 ⟨vs, H1, I4, r1, hz, ea1, q⟩ => ?_
    have hu1 := (I4.pin (h'.objs.size, kxs_mw "ValueError.__init__" a) (by simp)).1
    refine ⟨hu1, ?_⟩
    obtain ⟨t2, hoe⟩ := exo_at I4.hok ea1
    have I5 : Inv X [] σ H1 s1 := I4.pins_of fun p hp => by cases hp
    obtain ⟨h1, g1, d1, t1', os1⟩ := s1
    have hlen : us.length ≤ sizeLine := by rw [← Paired.length r1, sizeLine_eq]; omega
    refine wpAny_call (codeAny_of_tree ?_)
    show wpAny _ X.A.in1 (callAny (.ref h'.objs.size) ⟨us, []⟩) _ _ _
    simp only [callAny]
    refine wpAny_bind (wpAny_load hu1 ?_)
    simp only [kxs_mw, show (Value.type "method-wrapper" == Value.type "method" || Value.type "method-wrapper" == Value.type "builtin_function_or_method" || Value.type "method-wrapper" == Value.type "method-wrapper") = true by decide, if_true]
    refine KFB.if_so (by decide) ?_
    refine wpAny_bind (check_bound_init PySem.F.excBase_ValueError.toExcCallFacts (I5.kIn _ _ hC) hoe rfl ?_)
    refine wpAny_bind (wpAny_pure (wpAny_pure ?_))
    refine ⟨plainId_quiet PySem.F.excBase_ValueError.init.plain _, codeAny_builtin PySem.F.excBase_ValueError.initEntry ?_⟩
    refine exc_init_tree (cls := .ref C) (t0 := t2) (dv := none) (c2 := .none) (c3 := .none) (b4 := .bool false) hoe hlen fun h2 k hx _ => ?_
    have J5 := I5.write (t' := t1') (x := a) (e := a) (o := exo a C none) (by rw [ea1]; exact True.intro) (.inl rfl) k ⟨_, hx⟩ (exo_ok hx)
    have eu : upd H1 a (exo a C none) = H1 := by
      funext b
      by_cases hb : b = a
      · rw [hb, upd_same, ea1]
      · rw [upd_ne hb]
    rw [eu] at J5
    exact wpAt_of_wpAny (hrest _ H1 J5 q)
  rw [hst] at argsB ⊢
  refine kxs_callWith (i := "ValueError.__init__") (x := a) (by show (false || (backTo p3 (starEach es X.env)).any (·.1)) = false; rw [hpl]; rfl) ?_
  exact Calls.evalArgs_plain argsB

open PySem.W in
/-- super().__init__(e, ..) that finds a def of the text -/
theorem sup_def {X : Cx} {CX' : CXT} {σ : L2.St} {H : Hp} {s : Shared} {ar : Arg} {i j n : Nat} {C a g0 dx : Addr} {fs : List (Str × V)} {sp' : Sp} {E : XK} {p0 p1 p2 p3 p4 : Pos} {e : Expr} {es : List Expr} {ta : TA} {pl : Sem Bool} {Q : Hp → Prop} {body rest : List Stmt} {Q' : Flow → Shared → Prop}
    (F : SupD X.K x qual (defArgs st) (defBody st) (defScope st) f cc cda D fd) (hP : (X.prog.main.file : Str) = theFile) (htop : (X.prog.main.scope.names.lookup ("super" : Str)).isSome = false) (hm : X.mg "super" = none)
    (hks : X.env.kindOf "super" = some .globalImplicit) (hkc : X.env.kindOf "__class__" = some .free) (hfu : X.env.func = some f) (hco : X.env.code = .ref cda) (hcl : X.env.cells.lookup ("__class__" : Str) = some cc)
    (hp : ((defArgs st).posonlyargs ++ (defArgs st).args).head? = some ar) (hN : X.N[i]? = some ar.arg) (hv : σ[i]? = some (some (.ref a))) (hk : X.env.kindOf ar.arg = some .local)
    (I : Inv X [] σ H s) (ea : H a = some (.ins C dx fs)) (hD : (PySem.W.clsIn X.K D).isSome = true) (hsub : PySem.W.mroIn X.K C (.ref D) = some true) (ho : nsIn X.K cStatics "thirdparty.any" = some none)
    (hsu : ks_superIn X.K C D "__init__" = some (some (.ref g0))) (hg : isFn X.K (.ref g0) = true) (hgf : fnIn X.K g0 = true) (M : FnR X.prog X.w X.K X.mg X.base CX' n g0 sp') (hr : Room j X.A) (hj : n ≤ j) (hx : Passes CX' X E)
    (ha : PA X (e :: es) ta) (ht : ta σ H fun vs H1 => sp' (.ref a :: vs) H1 (fun _ H2 => Q H2) E)
    (hrest : ∀ s1 H1, Inv X [] σ H1 s1 → Q H1 → wpAny (model X.prog X.w) X.A (execs rest X.env) Q' X.xe s1)
    (hi : interactive X.env = false := by rfl) (hs : swapsWith (.Call (.Attribute (.Call (.Name "super" p0) [] [] p1) "__init__" p2) (e :: es) [] p3) none p4.line X.env = pure false := by rfl)
    (he : eval (.Call (.Attribute (.Call (.Name "super" p0) [] [] p1) "__init__" p2) (e :: es) [] p3) X.env = (do
      let ov ← attributeBase (.Call (.Name "super" p0) [] [] p1) "__init__" X.env (eval (.Call (.Name "super" p0) [] [] p1) X.env)
      standAt p2.atName
      let (f, first) ← holding [ov] (getMethod ov "__init__" pl)
      callWith p3 f first (backTo p3 (starEach (e :: es) X.env)) []) := by rfl)
    (hst : starEach (e :: es) X.env = (false, eval e X.env) :: starEach es X.env := by rfl) (hpl : (backTo p3 (starEach es X.env)).any (·.1) = false := by rfl) :
    _root_.PySem.wpAt (model X.prog X.w) X.A (.func body X.env) (execs (.Expr (.Call (.Attribute (.Call (.Name "super" p0) [] [] p1) "__init__" p2) (e :: es) [] p3) p4 :: rest) X.env) Q' X.xe s := by
  obtain ⟨mA, O, _⟩ := ins_get I.hok ea
  obtain ⟨od, J, _⟩ := O.look
  obtain ⟨cdD, hD'⟩ := Option.isSome_iff_exists.mp hD
  cases hc : clsIn X.K C with
  | none => unfold ks_superIn at hsu; rw [hc] at hsu; cases hsu
  | some cd =>
  unfold ks_superIn at hsu
  rw [hc] at hsu
  refine ks_wpAt_execs_cons (ks_wpAt_Expr_any (ks_wpAt_MethodCall (pl := pl) ?_ he) hi hs)
  refine sup_super F hP htop hm hks hkc hfu hco hcl (by decide) hp hN hv hk I J hD' hsub fun h' hso kp => ?_
  have I1 : Inv X [] σ H { s with heap := h' } := I.kept kp
  have J1 : InstAt h' a (instObj C dx) C (some od) := ⟨kp _ _ J.at_, J.cls, J.no, by
    have z := J.dict
    exact kp _ _ z⟩
  obtain ⟨hh, g, d, t, os⟩ := s
  have X1 : X.K.In h' := I1.kIn
  obtain ⟨of, hof, hofc⟩ : ∃ of, h'.get? g0 = some of ∧ of.cls = .type "function" := by
    have ht' : (X.K.lookup g0).map (·.cls) = some (.type "function") := beq_iff_eq.mp hg
    cases z : X.K.lookup g0 with
    | none => rw [z] at ht'; cases ht'
    | some of => rw [z] at ht'; exact ⟨of, X1 _ _ z, Option.some.inj ht'⟩
  refine ks_wpAny_getMethod_super (name := "__init__") hso (looks_opaque X1 ho) (l₀ := cd.mro) (fun A Q E s k q => wpAny_bind ((looks_clsIn X1 hc) A _ E s k (wpAny_pure q))) rfl X1 hsu hof hofc (ks_ne X1 J1 hc) (by decide) ?_
  have kp2 : ∀ b o, h'.get? b = some o → (h'.push (methodObj (.ref g0) (.ref a))).get? b = some o := fun b o z => Heap.get?_push_of_some _ z
  have hu : (h'.push (methodObj (.ref g0) (.ref a))).get? h'.objs.size = some (methodObj (.ref g0) (.ref a)) := Heap.get?_push_at rfl rfl
  have I2 : Inv X [] σ H ⟨h'.push (methodObj (.ref g0) (.ref a)), g, d, t + 1, os⟩ := (I1.tok (t + 1)).kept kp2
  have I3 : Inv X [(h'.objs.size, methodObj (.ref g0) (.ref a))] σ H ⟨h'.push (methodObj (.ref g0) (.ref a)), g, d, t + 1, os⟩ := I2.pins_of fun p hp => by
    have z' : p = (h'.objs.size, methodObj (.ref g0) (.ref a)) := by simpa using hp
    subst z'
    exact ⟨hu, I1.hok.fresh (Nat.le_refl _), Nat.ne_of_gt I1.lt, I1.nofs (Nat.le_refl _), fun v z => by cases z⟩
  refine thn (?_ : wpAny (model X.prog X.w) X.A (callWith p3 (.ref h'.objs.size) [] (backTo p3 (starEach (e :: es) X.env)) []) (fun _ s2 => _root_.PySem.wpAt (model X.prog X.w) X.A (.func body X.env) (execs rest X.env) Q' X.xe s2) X.xe ⟨h'.push (methodObj (.ref g0) (.ref a)), g, d, t + 1, os⟩) fun _ _ z => z
  refine _root_.PySem.W.callWith_of (P := MethP X.K h'.objs.size g0 (.ref a)) (args := backTo p3 (starEach (e :: es) X.env)) (keywords := []) (by rw [hst]; show ((false || (backTo p3 (starEach es X.env)).any (·.1)) || false) = false; rw [hpl]; rfl) (keeps_M hgf) ?_
  have argsB : wpAny (model X.prog X.w) X.A (spliced (backTo p3 (starEach (e :: es) X.env))) (fun us s1 => MethP X.K h'.objs.size g0 (.ref a) s1.heap ∧ wpAny (model X.prog X.w) X.A (call (.ref h'.objs.size) us) (fun _ s2 => _root_.PySem.wpAt (model X.prog X.w) X.A (.func body X.env) (execs rest X.env) Q' X.xe s2) X.xe s1) X.xe ⟨h'.push (methodObj (.ref g0) (.ref a)), g, d, t + 1, os⟩ := by
    refine thn (ha.run p3 _ _ σ H _ I3 ht) fun us s1 ⟨vs, H1, I4, r1, q⟩ => ?_
    have hu1 := (I4.pin (h'.objs.size, methodObj (.ref g0) (.ref a)) (by simp)).1
    refine ⟨⟨hu1, I4.kIn⟩, ?_⟩
    have I5 : Inv X [] σ H1 s1 := I4.pins_of fun p hp => by cases hp
    refine wpAny_call (ks_codeAny_call_bound hu1 ?_)
    refine codeAny_mono (run_fnR (us := .ref a :: us) (vs := .ref a :: vs) M (hr.mono hj) hx I5 (.cons rfl r1) q) fun r s2 hq => ?_
    cases r with
    | error er => exact hq
    | ok fl =>
      cases fl with
      | ret v =>
        obtain ⟨v', H2, I6, _, q2⟩ := hq
        exact wpAt_of_wpAny (hrest _ H2 I6 q2)
      | next => exact False.elim hq
      | brk => exact False.elim hq
      | cont => exact False.elim hq
  rw [hst] at argsB ⊢
  exact Calls.evalArgs_plain argsB
end
end Yk
set_option Elab.async false
set_option linter.all false
set_option maxRecDepth 100000
set_option maxHeartbeats 4000000
/-! the exceptions' inits, raise of them -/
namespace Yk
open PySem PySem.Spec PyProof.Rows L2 NdefX
/-- X.__init__(self, v): a new exception gets its one field -/
def spX (fl : Str) (C : Addr) : Sp := fun vs H Q _ => ∃ (a : Addr) (v : V), vs = [.ref a, v] ∧ H a = some (exo a C none) ∧ ∀ d, H d = none → d ≠ a → Q .non (upd (upd H d (exd d [(fl, v)])) a (exo a C (some d)))
section
variable {P : Program} {w : World} {K : KF} {mg : Str → Option Value} {base : Heap} {qual fl pn : Str} {st : Stmt} {f cc cda C : Addr} {fd : FuncData}
theorem xinit_ok {p0 p1 p2 p3 p4 q1 q2 q3 q4 q5 : Pos} {a1 : Arg} (F : SupD K "__init__" qual (defArgs st) (defBody st) (defScope st) f cc cda C fd)
    (hb : defBody st = [.Expr (.Call (.Attribute (.Call (.Name "super" p0) [] [] p1) "__init__" p2) [.Name pn q1] [] p3) p4, .Assign [.Attribute (.Name "self" q2) fl q3] (.Name pn q4) q5])
    (hpa : ((defArgs st).posonlyargs ++ (defArgs st).args).head? = some a1) (h1 : a1.arg = "self") (S : NScope ["self", pn, "__class__"] ["self", pn] ["__class__"] (defScope st)) (hs : (defScope st).names.lookup ("super" : Str) = some .globalImplicit)
    (hP : (P.main.file : Str) = theFile) (htop : (P.main.scope.names.lookup ("super" : Str)).isSome = false) (hm : mg "super" = none) (T : OexC K C) (ho : PySem.W.nsIn K cStatics "thirdparty.any" = some none) (hno : PySem.W.findIn K (.ref C) fl = some none)
    (hsu : PySem.W.ks_superIn K C C "__init__" = some (some (.builtin "ValueError.__init__"))) (hVE : PySem.W.subIn K (.ref C) (.type "ValueError") = some true) (hcC : PySem.W.mroIn K C (.ref C) = some true) (hd : (pn == ("__debug__" : Str)) = false) (hcd : (pn == ("__classdict__" : Str)) = false) {pl : Env → Sem Bool}
    (he : ∀ env : Env, eval (.Call (.Attribute (.Call (.Name "super" p0) [] [] p1) "__init__" p2) [.Name pn q1] [] p3) env = (do
      let ov ← attributeBase (.Call (.Name "super" p0) [] [] p1) "__init__" env (eval (.Call (.Name "super" p0) [] [] p1) env)
      standAt p2.atName
      let (f, first) ← holding [ov] (getMethod ov "__init__" (pl env))
      callWith p3 f first (backTo p3 (starEach [.Name pn q1] env)) [])) :
    FnOk P w K mg base CX0 1 f fd ["self", pn] (spX fl C) := by
  obtain ⟨nm, qn, N', bs, bm, sn, sub, ab, col, dd, k0, k1, k2, k3, k5, hC, hbm⟩ := T.cls
  have hclI : (PySem.W.clsIn K C).isSome = true := by
    unfold PySem.W.clsIn
    rw [hC] <;> rfl
  refine sup_run F S (fun vs H Q E h => ?_) fun A outer s s1 H vs Q E hr h I => ?_
  · obtain ⟨a, v, rfl, _⟩ := h
    rfl
  · obtain ⟨a, v, rfl, ea, q⟩ := h
    rw [hb]
    have k1 : (defScope st).names.lookup ("self" : Str) = some .local := S.par "self" (by simp)
    have k2 : (defScope st).names.lookup pn = some .local := S.par pn (by simp)
    have v0 : Vis (ncx CX0 P w K mg base ["self", pn, "__class__"] (supNF "__init__" qual st cc cda) f A outer s H E).env.scope "self" := Or.inl k1
    have v1 : Vis (ncx CX0 P w K mg base ["self", pn, "__class__"] (supNF "__init__" qual st cc cda) f A outer s H E).env.scope pn := Or.inl k2
    refine sup_exc (X := ncx CX0 P w K mg base ["self", pn, "__class__"] (supNF "__init__" qual st cc cda) f A outer s H E) (i := 0) (hi := I.quiet) (he := he _) (Q := fun H1 => H1 = H) F hP htop hm hs (S.frk "__class__" (by simp)) rfl rfl lk0 hpa (by rw [h1] <;> rfl) rfl (by rw [h1]; exact k1) I T ea hclI hcC ho hsu hVE
      (pa_cons (pv 1 rfl v1 hd hcd) pa_nil) ⟨v, rfl, (by simp), ea, rfl⟩ (fun s2 H1 I2 e => ?_)
    · subst e
      refine (pss_one (ps_ost (pv 0 rfl v0) (pv 1 rfl v1 hd hcd))).run [] s2 _ _ _ I2 ?_
      exact ⟨v, rfl, .ref a, rfl, a, C, rfl, T, hno, .inl ⟨ea, fun dx hdx ne => q dx hdx ne⟩⟩
theorem pa_up {X : Cx} {es : List Expr} {ta : TA} (ha : PA X es ta) : PA X es (fun σ H Q => ∃ R, ta σ H R ∧ ∀ vs H1, R vs H1 → Q vs H1) := ⟨fun pos pins s σ H Q I ⟨R, h, k⟩ => thn (ha.run pos pins s σ H R I h) fun us s1 ⟨vs, H1, I1, r1, q⟩ => ⟨vs, H1, I1, r1, k _ _ q⟩⟩
/-- X(e): the exception made -/
def tXm (fl : Str) (C : Addr) (ta : TA) : L2.St → Hp → XK → Prop := fun σ H Q => ta σ H fun vs H1 => ∃ v, vs = [v] ∧ ∀ d, H1 d = none → Q (.ref C) (some d) (upd H1 d (.xd [(fl, v)]))
theorem pmk_xm {X : Cx} {x : Str} {p pos : Pos} {fI C : Addr} {e : Expr} {es : List Expr} {ta : TA} {k : Nat} {ps : List Str} {fd : FuncData} {fl : Str} (T : OexC X.K C) (iC : PySem.W.findIn X.K (.ref C) "__init__" = some (some (.ref fI))) (tI : PySem.W.typeIn X.K (.ref fI) = some (.type "function"))
    (F1 : FnOk X.prog X.w X.K X.mg X.base CX0 k fI fd ps (spX fl C)) (hr : Room (k + 1) X.A) (hb : Binds X.K fd ps []) (hm : X.mg x = some (.ref C)) (ha : PA X (e :: es) ta) (hg : Gl X x := by rfl)
    (hdb : (x == ("__debug__" : Str)) = false := by decide) (he : starEach (e :: es) X.env = (false, eval e X.env) :: starEach es X.env := by rfl) (hpl : (backTo pos (starEach es X.env)).any (·.1) = false := by rfl) :
    PMk X (.Call (.Name x p) (e :: es) [] pos) (tXm fl C ta) := by
  intro pins s σ H Q I h
  refine pmk_oex T iC tI F1 hr hb .nil pass0 hg hm (pa_up ha) hdb he hpl pins s σ H Q I ⟨_, h, fun vs H1 hv => ?_⟩
  obtain ⟨v, rfl, q⟩ := hv
  refine ⟨(by simp), fun a ha' => ⟨a, v, rfl, upd_same, fun d hd hda => ⟨rfl, d, [(fl, v)], upd_same, ?_, ?_, ?_⟩⟩⟩
  · rw [upd_ne hda, upd_same]
  · rw [← hd, upd_ne hda]
  · have hd1 : H1 d = none := by rw [← hd, upd_ne hda]
    have e : upd (del (upd (upd (upd H1 a (exo a C none)) d (exd d [(fl, v)])) a (exo a C (some d))) a) d (.xd [(fl, v)]) = upd H1 d (.xd [(fl, v)]) := by
      funext b
      by_cases hb : b = d
      · rw [hb, upd_same, upd_same]
      · rw [upd_ne hb, upd_ne hb]
        by_cases hba : b = a
        · rw [hba, del_same, ha']
        · rw [del_ne hba, upd_ne hba, upd_ne hb, upd_ne hba]
    rw [e]
    exact q d hd1
/-- raise X(e) -/
theorem ps_rx {X : Cx} {W : WX} {x : Str} {p pos pos' : Pos} {fI C : Addr} {e : Expr} {es : List Expr} {ta : TA} {k : Nat} {ps : List Str} {fd : FuncData} {fl : Str} (tk : L2.Takes X W) (T : OexC X.K C) (iC : PySem.W.findIn X.K (.ref C) "__init__" = some (some (.ref fI))) (tI : PySem.W.typeIn X.K (.ref fI) = some (.type "function"))
    (F1 : FnOk X.prog X.w X.K X.mg X.base CX0 k fI fd ps (spX fl C)) (hr : Room (k + 1) X.A) (hb : Binds X.K fd ps []) (hm : X.mg x = some (.ref C)) (ha : PA X (e :: es) ta) (hc : X.calm = true := by rfl) (hg : Gl X x := by rfl)
    (hdb : (x == ("__debug__" : Str)) = false := by decide) (he : starEach (e :: es) X.env = (false, eval e X.env) :: starEach es X.env := by rfl) (hpl : (backTo pos (starEach es X.env)).any (·.1) = false := by rfl) :
    PS X (.Raise (some (.Call (.Name x p) (e :: es) [] pos)) none pos') (fun _ σ H => tXm fl C ta σ H fun cls d H' => W cls d σ H') :=
  ps_raise hc tk (pmk_xm T iC tI F1 hr hb hm ha hg hdb he hpl)
end
/-- an exception of the text with one field: what a raise asks of it -/
structure Xo (P : Program) (w : World) (K : KF) (mg : Str → Option Value) (base : Heap) (x fl : Str) : Prop where
  oex : OexC K (He.ga K x)
  gm : mg x = some (.ref (He.ga K x))
  ex : ∃ fI fd, PySem.W.findIn K (.ref (He.ga K x)) "__init__" = some (some (.ref fI)) ∧ PySem.W.typeIn K (.ref fI) = some (.type "function") ∧ FnOk P w K mg base CX0 1 fI fd ["self", fl] (spX fl (He.ga K x)) ∧ Binds K fd ["self", fl] []
theorem ps_rxo {X : Cx} {W : WX} {x : Str} {p pos pos' : Pos} {e : Expr} {es : List Expr} {ta : TA} {j : Nat} {fl : Str} (tk : L2.Takes X W) (D : Xo X.prog X.w X.K X.mg X.base x fl) (hr : Room j X.A) (ha : PA X (e :: es) ta) (hj : 2 ≤ j := by decide) (hc : X.calm = true := by rfl) (hg : Gl X x := by rfl)
    (hdb : (x == ("__debug__" : Str)) = false := by decide) (he : starEach (e :: es) X.env = (false, eval e X.env) :: starEach es X.env := by rfl) (hpl : (backTo pos (starEach es X.env)).any (·.1) = false := by rfl) :
    PS X (.Raise (some (.Call (.Name x p) (e :: es) [] pos)) none pos') (fun _ σ H => tXm fl (He.ga X.K x) ta σ H fun cls d H' => W cls d σ H') := by
  obtain ⟨fI, fd, h1, h2, h3, h4⟩ := D.ex
  exact ps_rx tk D.oex h1 h2 h3 (hr.mono hj) h4 D.gm ha hc hg hdb he hpl
section
variable {w : World} {K : KF} {mg : Str → Option Value} {base : Heap}
theorem Tx.xo_BadOrder (T : Tx w K mg) : Xo R.prog w K mg base "BadOrder" "given" := by
  obtain ⟨cc, cda, fd, F⟩ := T.d_BadOrder_init
  have G : FnOk R.prog w K mg base CX0 1 _ fd ["self", "given"] (spX "given" (He.ga K "BadOrder")) := xinit_ok (st := s_BadOrder_init) F rfl rfl rfl (nscope_by (by decide +kernel)) (by decide +kernel) (by decide +kernel) (by decide +kernel) T.n_super T.oex_BadOrder T.opq T.nof_BadOrder T.su_BadOrder T.ve_BadOrder T.mr_BadOrder (by decide) (by decide) (fun _ => rfl)
  refine ⟨T.oex_BadOrder, T.g_BadOrder, _, fd, T.ini_BadOrder, T.ty_BadOrder, G, ?_⟩
  obtain ⟨oc, od, kV, doc, pm, an, ct, osl, rfl, lk⟩ := F.ex
  exact .all fun us hl => match us, hl with | [_, _], _ => rfl
theorem Tx.xo_BadSide (T : Tx w K mg) : Xo R.prog w K mg base "BadSide" "given" := by
  obtain ⟨cc, cda, fd, F⟩ := T.d_BadSide_init
  have G : FnOk R.prog w K mg base CX0 1 _ fd ["self", "given"] (spX "given" (He.ga K "BadSide")) := xinit_ok (st := s_BadSide_init) F rfl rfl rfl (nscope_by (by decide +kernel)) (by decide +kernel) (by decide +kernel) (by decide +kernel) T.n_super T.oex_BadSide T.opq T.nof_BadSide T.su_BadSide T.ve_BadSide T.mr_BadSide (by decide) (by decide) (fun _ => rfl)
  refine ⟨T.oex_BadSide, T.g_BadSide, _, fd, T.ini_BadSide, T.ty_BadSide, G, ?_⟩
  obtain ⟨oc, od, kV, doc, pm, an, ct, osl, rfl, lk⟩ := F.ex
  exact .all fun us hl => match us, hl with | [_, _], _ => rfl
theorem Tx.xo_NoAxis (T : Tx w K mg) : Xo R.prog w K mg base "NoAxis" "given" := by
  obtain ⟨cc, cda, fd, F⟩ := T.d_NoAxis_init
  have G : FnOk R.prog w K mg base CX0 1 _ fd ["self", "given"] (spX "given" (He.ga K "NoAxis")) := xinit_ok (st := s_NoAxis_init) F rfl rfl rfl (nscope_by (by decide +kernel)) (by decide +kernel) (by decide +kernel) (by decide +kernel) T.n_super T.oex_NoAxis T.opq T.nof_NoAxis T.su_NoAxis T.ve_NoAxis T.mr_NoAxis (by decide) (by decide) (fun _ => rfl)
  refine ⟨T.oex_NoAxis, T.g_NoAxis, _, fd, T.ini_NoAxis, T.ty_NoAxis, G, ?_⟩
  obtain ⟨oc, od, kV, doc, pm, an, ct, osl, rfl, lk⟩ := F.ex
  exact .all fun us hl => match us, hl with | [_, _], _ => rfl
theorem Tx.xo_NoKind (T : Tx w K mg) : Xo R.prog w K mg base "NoKind" "given" := by
  obtain ⟨cc, cda, fd, F⟩ := T.d_NoKind_init
  have G : FnOk R.prog w K mg base CX0 1 _ fd ["self", "given"] (spX "given" (He.ga K "NoKind")) := xinit_ok (st := s_NoKind_init) F rfl rfl rfl (nscope_by (by decide +kernel)) (by decide +kernel) (by decide +kernel) (by decide +kernel) T.n_super T.oex_NoKind T.opq T.nof_NoKind T.su_NoKind T.ve_NoKind T.mr_NoKind (by decide) (by decide) (fun _ => rfl)
  refine ⟨T.oex_NoKind, T.g_NoKind, _, fd, T.ini_NoKind, T.ty_NoKind, G, ?_⟩
  obtain ⟨oc, od, kV, doc, pm, an, ct, osl, rfl, lk⟩ := F.ex
  exact .all fun us hl => match us, hl with | [_, _], _ => rfl
theorem Tx.xo_TooLarge (T : Tx w K mg) : Xo R.prog w K mg base "TooLarge" "axis" := by
  obtain ⟨cc, cda, fd, F⟩ := T.d_TooLarge_init
  have G : FnOk R.prog w K mg base CX0 1 _ fd ["self", "axis"] (spX "axis" (He.ga K "TooLarge")) := xinit_ok (st := s_TooLarge_init) F rfl rfl rfl (nscope_by (by decide +kernel)) (by decide +kernel) (by decide +kernel) (by decide +kernel) T.n_super T.oex_TooLarge T.opq T.nof_TooLarge T.su_TooLarge T.ve_TooLarge T.mr_TooLarge (by decide) (by decide) (fun _ => rfl)
  refine ⟨T.oex_TooLarge, T.g_TooLarge, _, fd, T.ini_TooLarge, T.ty_TooLarge, G, ?_⟩
  obtain ⟨oc, od, kV, doc, pm, an, ct, osl, rfl, lk⟩ := F.ex
  exact .all fun us hl => match us, hl with | [_, _], _ => rfl
end
end Yk
set_option Elab.async false
set_option linter.all false
set_option maxRecDepth 100000
set_option maxHeartbeats 4000000
/-! words: enumerate(tuple), len(set(tuple)) .. -/
namespace Yk
open PySem PySem.Spec PyProof.Rows L2
theorem meets_enum_T (l : Addr) (items : Array Value) :
    Meets (Builtin.«enumerate.__new__» ⟨[.type "enumerate", .ref l], []⟩) (fun _ R s => s.heap.IsTuple l items ∧
      R (.ok (.ret (.ref (s.heap.push { cls := .type "tuple_iterator", data := .fields #[.ref l, .int 0 0] }).objs.size)))
        { s with heap := (s.heap.push { cls := .type "tuple_iterator", data := .fields #[.ref l, .int 0 0] }).push { cls := .type "enumerate", data := .fields #[.none, .bool false, .ref s.heap.objs.size, rawInt 0, .none, .none] } }) :=
  .of_wp fun prog w A R s h => by
    obtain ⟨hp, g, d, tk, os⟩ := s; obtain ⟨hl, h⟩ := h
    have hsub := sub_enumerate
    have hL : Heap.IsTuple (Shared.heap ⟨hp, g, d, tk, os⟩) l items := hl
    obtain ⟨⟨c, dct, dt, sl⟩, hl1, hc, n, hd⟩ := hl
    replace hc : c = .type "tuple" := hc
    replace hd : dt = .seq items n := hd
    subst hc hd
    wp_walk using AutoSeq1.wpAny_loadPart' hl1
    refine wpAny_stack_any fun st => wpAny_pure ?_
    split
    · rename_i c _ _ _ _ _
      cases (c == Value.type "enumerate")
      · wp_walk using AutoSeq1.wpAny_loadPart' hl1, wpAny_pyIter_tuple hL
        exact ⟨_, rfl, h⟩
      · wp_walk using AutoSeq1.wpAny_loadPart' hl1, wpAny_pyIter_tuple hL
        exact ⟨_, rfl, h⟩
    · wp_walk using AutoSeq1.wpAny_loadPart' hl1, wpAny_pyIter_tuple hL
      exact ⟨_, rfl, h⟩
section
variable {prog : Program} {w : World} {A : Around} {E : Value → Shared → Prop} {s : Shared}
theorem call_enum_T {l : Addr} {items : Array Value} {Q : Value → Shared → Prop} (hL : s.heap.IsTuple l items)
    (h : ∀ h', IsEnum h' (s.heap.objs.size + 1) s.heap.objs.size 0 .none → h'.IsTupleIter s.heap.objs.size l 0 → h'.objs.size = s.heap.objs.size + 2 →
      (∀ b o, s.heap.get? b = some o → h'.get? b = some o) → Q (.ref (s.heap.objs.size + 1)) { s with heap := h' }) :
    wpAny (model prog w) A (call (.type "enumerate") [.ref l]) Q E s := by
  refine callType_new F.called_enumerate (by decide) (F.typeCall_enumerate_1 _) (F.newCall_enumerate_1 _) (fun obj => F.args_object_init_2 obj _) F.entry_enumerate_new
    (meets_enum_T l items) ⟨hL, ?_⟩
  have hz : (s.heap.push { cls := .type "tuple_iterator", data := .fields #[.ref l, .int 0 0] }).objs.size = s.heap.objs.size + 1 := Heap.size_push ..
  show _ ∧ _
  rw [hz]
  have he : IsEnum ((s.heap.push { cls := .type "tuple_iterator", data := .fields #[.ref l, .int 0 0] }).push
      { cls := .type "enumerate", data := .fields #[.none, .bool false, .ref s.heap.objs.size, rawInt 0, .none, .none] }) (s.heap.objs.size + 1) s.heap.objs.size 0 .none := by
    have := Heap.get?_push_size (s.heap.push { cls := .type "tuple_iterator", data := .fields #[.ref l, .int 0 0] })
      (o := { cls := .type "enumerate", data := .fields #[.none, .bool false, .ref s.heap.objs.size, rawInt 0, .none, .none] }) rfl
    rw [hz] at this; exact this
  refine ⟨⟨_, he, rfl⟩, h _ he ?_ (by rw [Heap.size_push, hz]) fun b o x => Heap.get?_push_of_some _ (Heap.get?_push_of_some _ x)⟩
  exact ⟨_, Heap.get?_push_of_some _ (Heap.get?_push_size _ rfl), rfl, rfl⟩
end
/-- the tuple at a, each item in a new pair -/
def Iet (K : KF) (a : Addr) : It :=
  ⟨fun i H => ∃ (xs : List V) (x : V), SqT K H a xs ∧ xs[i]? = some x, fun i H v H' => ∃ T x, v = .ref T ∧ H T = none ∧ H' = upd H T (.tup [.int (i : Nat), x]) ∧ ∀ xs, SqT K H a xs → xs[i]? = some x, fun i H => ∃ xs : List V, SqT K H a xs ∧ xs.length = i⟩
theorem tup_inj {h : Heap} {t : Addr} {a b : Array Value} (x : h.IsTuple t a) (y : h.IsTuple t b) : a = b := by
  obtain ⟨o, h1, _, n, h2⟩ := x
  obtain ⟨o', h1', _, n', h2'⟩ := y
  rw [h1] at h1'
  cases h1'
  rw [h2] at h2'
  cases h2'
  rfl
theorem turn_enumT {P : Program} {w : World} {K : KF} {elts : List Expr} {kk : Nat} {tpos : Pos} (a e it : Addr) (its : Array Value) (hai : a ≠ it) :
    Turn P w K (.Tuple elts kk tpos) (Iet K a) [e, it] e (fun i h => (∃ old, IsEnum h e it ((i : Nat) : Int) old) ∧ h.IsTupleIter it a i ∧ e ≠ it) where
  mem := by simp
  obj := fun i h st b hb => by
    obtain ⟨⟨old, he⟩, ⟨o, ho, hc, hd⟩, _⟩ := st
    have e' : b = e ∨ b = it := by simpa using hb
    rcases e' with z | z
    · rw [z]; exact ⟨_, he, fun v q => nomatch q⟩
    · rw [z]; exact ⟨o, ho, fun v q => by rw [hd] at q; cases q⟩
  keep := fun i h h' st k => let ⟨⟨old, he⟩, hi, hne⟩ := st; ⟨⟨old, k e (by simp) _ he⟩, hi.at fun o q => k it (by simp) o q, hne⟩
  item := by
    intro X hP hw hK hc i pins s σ H E I hf st hg
    subst hP hw hK
    obtain ⟨⟨old, he⟩, hit, hne⟩ := st
    obtain ⟨xs, x, hq, hx⟩ := hg
    obtain ⟨its, rv, p, hz⟩ := I.tuple hq
    obtain ⟨u, hu, ru⟩ := rv.get hx
    have hel : e < s.heap.objs.size := Heap.lt_size he
    have hil : it < s.heap.objs.size := by obtain ⟨_, q, _⟩ := hit; exact Heap.lt_size q
    have hae : e ∉ [it, a] := fun z => by
      rcases List.mem_cons.mp z with z | z
      · exact hne z
      · have z' := List.mem_singleton.mp z
        obtain ⟨o, h1, h2, _⟩ := p
        rw [← z', he] at h1
        cases h1
        exact absurd h2 (by simp)
    have D := Draws.tuple (prog := X.prog) (w := X.w) (A := X.A.in1) (I.ok.hd hc) it a hai its.toArray
    refine wpAny_pyNext_enum_itemD D he ⟨hit, p⟩ (by rw [List.size_toArray, ← rv.length]; exact (List.getElem?_eq_some_iff.mp hx).1) hne hae fun x' h' tk hx' ho hst' hT hsz hk => ?_
    have ex : x' = u := by
      have z : its[i]? = some x' := by simpa using hx'
      rw [hu] at z
      exact (Option.some.inj z).symm
    subst ex
    refine ⟨_, rfl, wpAny_letOwnedTupleGo_enum (s := { s with heap := h', toks := tk + 1 }) ho fun h'' he' sb => ?_⟩
    have hT2 : h''.get? s.heap.objs.size = some { cls := .type "tuple", data := .seq #[.int i tk, x'] } := (sb.2 _ (Nat.ne_of_gt hel)).trans hT
    have new : ObjOk X.prog X.w (upd H s.heap.objs.size (.tup [.int (i : Nat), x])) h'' s.heap.objs.size (.tup [.int (i : Nat), x]) :=
      ⟨by show 2 ≤ sizeLine; decide, [.int i tk, x'], .cons ⟨_, rfl⟩ (.cons ru .nil), ⟨_, hT2, rfl, _, rfl⟩⟩
    have I1 : Inv X pins σ (upd H s.heap.objs.size (.tup [.int (i : Nat), x])) { s with heap := h'', toks := tk + 1 } :=
      I.turnedNew (ch := [e, it]) (fun b ob hb q => (sb.2 b (fun z => hb (by simp [z]))).trans (hk b ob (fun z => hb (by simp [z])) (fun z => hb (by simp [z])) q)) hf (Nat.le_refl _) new
    refine ⟨.ref s.heap.objs.size, _, I1, rfl, ⟨_, x, rfl, I.hok.fresh (Nat.le_refl _), rfl, fun ys hy => by rw [I.tuple_inj hy hq]; exact hx⟩, ⟨⟨x', ?_⟩, hst'.1.at fun o q => (sb.2 it (Ne.symm hne)).trans q, hne⟩, fun b hb => ?_⟩
    · have e1 : ((i + 1 : Nat) : Int) = (i : Int) + 1 := by omega
      rw [e1]; exact he'
    · have hb' : b < s.heap.objs.size := by
        have e' : b = e ∨ b = it := by simpa using hb
        rcases e' with z | z
        · rw [z]; exact hel
        · rw [z]; exact hil
      rw [upd_ne (Nat.ne_of_lt hb')]
      exact (hf b hb).1
  done := by
    intro X hP hw hK hc i pins s σ H E I hf st hg
    subst hP hw hK
    obtain ⟨⟨old, he⟩, hit, hne⟩ := st
    obtain ⟨xs, hq, hx⟩ := hg
    obtain ⟨its, rv, p, hz⟩ := I.tuple hq
    obtain ⟨f0, f1, f2, f3, f4, f5⟩ := hf it (by simp)
    have hl := rv.length
    have hi : i = its.toArray.size := by rw [List.size_toArray, ← hl, hx]
    subst hi
    exact wpAny_pyNext_enum_endD (Draws.tuple (prog := X.prog) (w := X.w) (A := X.A.in1) (I.ok.hd hc) it a hai its.toArray) he ⟨hit, p⟩ fun h' eb => ⟨rfl, I.turned (t' := s.toks) (fun b o hb q => eb b o hb q) f0 f1 f3 f4 f5⟩
  self := fun A i s Q E st h => let ⟨⟨_, he⟩, _⟩ := st; wpAny_pyIter_enum he h
def iEnumT (K : KF) (ta : TA) : TI := fun σ H R => ta σ H fun vs H1 => ∃ a xs, vs = [.ref a] ∧ SqT K H1 a xs ∧ R (Iet K a) H1
theorem pi_enumT {X : Cx} {e : Expr} {ta : TA} {p pos tpos : Pos} {elts : List Expr} {kk : Nat} (hm : X.mg "enumerate" = none) (ha : PA X [e] ta) (hg : Gl X "enumerate" := by rfl) (hs : starEach [e] X.env = [(false, eval e X.env)] := by rfl) :
    PI X (.Tuple elts kk tpos) (.Call (.Name "enumerate" p) [e] [] pos) (iEnumT X.K ta) := by
  refine ⟨fun pins s σ H R I h => ?_⟩
  refine Call_ (ld_blt I hg hm boot_enumerate (PyProof.Rows.callWith_type1 (thn (ha.run pos pins s σ H _ I h) fun us s1 ⟨vs, H1, I1, r1, q1⟩ => ?_) hs rfl))
  obtain ⟨a, xs, ex, hq, q⟩ := q1
  subst ex
  obtain rfl := Vals.ref1 r1
  obtain ⟨its, rv, p', hz⟩ := I1.tuple hq
  refine call_enum_T p' fun h' he hit hsz hk => wpAny_pyIter_enum he ?_
  have I2 : Inv X pins σ H1 { s1 with heap := h' } := I1.kept (t' := s1.toks) hk
  have hal : a ≠ s1.heap.objs.size := by
    obtain ⟨o, h1, _⟩ := p'
    exact Nat.ne_of_lt (Heap.lt_size h1)
  refine ⟨s1.heap.objs.size + 1, [s1.heap.objs.size + 1, s1.heap.objs.size], _, _, H1, rfl, I2, turn_enumT a (s1.heap.objs.size + 1) s1.heap.objs.size its.toArray hal, ⟨⟨.none, he⟩, hit, Nat.succ_ne_self _⟩, fun b hb => ?_, q⟩
  have e' : b = s1.heap.objs.size + 1 ∨ b = s1.heap.objs.size := by simpa using hb
  have hle : s1.heap.objs.size ≤ b := by
    rcases e' with z | z
    · rw [z]; exact Nat.le_add_right _ _
    · rw [z]; exact Nat.le_refl _
  exact I1.fpOk hle (I1.hok.fresh hle)
/-- the loop: the pair is new, at T -/
theorem for_enumT {K : KF} {a : Addr} {xs : List V} {g : TG} {tb : TS} {D : Ends} {σ : L2.St} {H : Hp} (Pv : Nat → L2.St → Hp → Prop) (h0 : Pv 0 σ H) (hl : ∀ i σ H, i ≤ xs.length → Pv i σ H → SqT K H a xs)
    (hs : ∀ i x T σ H, xs[i]? = some x → H T = none → Pv i σ H → g (.ref T) σ (upd H T (.tup [.int (i : Nat), x])) fun σ2 H2 => tb { D with nx := Pv (i + 1), ct := Pv (i + 1), bk := D.nx } σ2 H2) (hd : ∀ σ H, Pv xs.length σ H → D.nx σ H) :
    ∃ W : Nat → Nat → L2.St → Hp → Prop, (∃ m, W 0 m σ H) ∧ ∀ i m σ H, W i m σ H →
      ((Iet K a).stop i H ∧ D.nx σ H) ∨ ((Iet K a).go i H ∧ ∃ N : L2.St → Hp → Prop, (∀ σ' H', N σ' H' → ∃ m', m' < m ∧ W (i + 1) m' σ' H') ∧ ∀ x H', (Iet K a).yld i H x H' → g x σ H' fun σ2 H2 => tb { D with nx := N, ct := N, bk := D.nx } σ2 H2) := by
  refine ⟨fun i m σ H => m = xs.length - i ∧ i ≤ xs.length ∧ Pv i σ H, ⟨xs.length, by simp, Nat.zero_le _, h0⟩, ?_⟩
  rintro i m σ H ⟨rfl, hi, p⟩
  have q := hl i σ H hi p
  by_cases hlt : i < xs.length
  · refine .inr ⟨⟨xs, xs[i], q, by simp [hlt]⟩, Pv (i + 1), fun σ' H' p' => ⟨xs.length - (i + 1), by omega, rfl, hlt, p'⟩, fun x H' y => ?_⟩
    obtain ⟨T, x', e, hT, eH, y⟩ := y
    subst e eH
    exact hs i x' T σ H (y xs q) hT p
  · have e : i = xs.length := by omega
    subst e
    exact .inl ⟨⟨xs, q, rfl⟩, hd σ H p⟩
/-- the same in a comprehension -/
theorem lc_enumT {K : KF} {a : Addr} {xs : List V} {g : TG} {tt : TT} {te : TE} {vs : List Nat} {σ : L2.St} {H1 : Hp} {D : Addr} {Qd : Hp → Prop} (Pv : Nat → Hp → Prop) (h0 : Pv 0 (upd H1 D (.lst []))) (hl : ∀ i H, i ≤ xs.length → Pv i H → SqT K H a xs)
    (hs : ∀ i x T H, xs[i]? = some x → H T = none → Pv i H → g (.ref T) (wipe σ vs) (upd H T (.tup [.int (i : Nat), x])) fun σ2 H2 => wipe σ2 vs = wipe σ vs ∧ tt σ2 H2 fun b H3 =>
      if b = true then te σ2 H3 fun y H4 => ∃ acc, H4 D = some (.lst acc) ∧ acc.length < sizeLine ∧ Pv (i + 1) (upd H4 D (.lst (acc ++ [y]))) else Pv (i + 1) H3) (hd : ∀ H, Pv xs.length H → Qd H) :
    ∃ W : Nat → Nat → Hp → Prop, (∃ m, W 0 m (upd H1 D (.lst []))) ∧ ∀ i m H, W i m H →
      ((Iet K a).stop i H ∧ Qd H) ∨ ((Iet K a).go i H ∧ ∃ Nx : Hp → Prop, (∀ H', Nx H' → ∃ m', m' < m ∧ W (i + 1) m' H') ∧ ∀ x H', (Iet K a).yld i H x H' → g x (wipe σ vs) H' fun σ2 H2 => wipe σ2 vs = wipe σ vs ∧ tt σ2 H2 fun b H3 =>
        if b = true then te σ2 H3 fun y H4 => ∃ acc, H4 D = some (.lst acc) ∧ acc.length < sizeLine ∧ Nx (upd H4 D (.lst (acc ++ [y]))) else Nx H3) := by
  refine ⟨fun i m H => m = xs.length - i ∧ i ≤ xs.length ∧ Pv i H, ⟨xs.length, by simp, Nat.zero_le _, h0⟩, ?_⟩
  rintro i m H ⟨rfl, hi, p⟩
  have q := hl i H hi p
  by_cases hlt : i < xs.length
  · refine .inr ⟨⟨xs, xs[i], q, by simp [hlt]⟩, Pv (i + 1), fun H' p' => ⟨xs.length - (i + 1), by omega, rfl, hlt, p'⟩, fun x H' y => ?_⟩
    obtain ⟨T, x', e, hT, eH, y⟩ := y
    subst e eH
    exact hs i x' T H (y xs q) hT p
  · have e : i = xs.length := by omega
    subst e
    exact .inl ⟨⟨xs, q, rfl⟩, hd H p⟩
end Yk
set_option Elab.async false
set_option linter.all false
set_option maxRecDepth 100000
set_option maxHeartbeats 4000000
/-! words: max, sorted, len(set), [::-1] of tuples; raise X() -/
namespace Yk
open PySem PySem.Spec PyProof.Rows L2
section
variable {prog : Program} {w : World} {A : Around} {E : Value → Shared → Prop} {s : Shared}
theorem iter_intTup {l : Addr} {xs : Array (Int × Tok)} {Q : Value → Shared → Prop} (hl : s.heap.IsTuple l (intItems xs))
    (h : ∀ s₂ : Shared, s₂ = { s with heap := s.heap.push { cls := .type "tuple_iterator", data := .fields #[.ref l, .int 0 0] } } →
      (s₂.heap.IsTupleIter s.heap.objs.size l 0 ∧ s₂.heap.IsTuple l (intItems xs)) → (∀ b ∈ [s.heap.objs.size, l], b < s₂.heap.objs.size) → l ≠ s.heap.objs.size → Q (.ref s.heap.objs.size) s₂) :
    wpAny (model prog w) A (pyIter (.ref l)) Q E s := by
  have hlt : l < s.heap.objs.size := by obtain ⟨_, e, _⟩ := hl; exact Heap.lt_size e
  refine wpAny_pyIter_tuple hl (h _ rfl ⟨⟨_, Heap.get?_push_size _ rfl, rfl, rfl⟩, hl.push _⟩ (fun b hb => ?_) (Nat.ne_of_lt hlt))
  show b < (s.heap.push _).objs.size
  rw [Heap.size_push]
  rcases List.mem_cons.mp hb with rfl | hb
  · exact Nat.lt_succ_self _
  · rcases List.mem_cons.mp hb with rfl | hb
    · exact Nat.lt_succ_of_lt hlt
    · cases hb
theorem max_rawT {l : Addr} {its : List Value} {ns : List Int} {Q : Value → Shared → Prop} (hh : A.handled = none) (hl : s.heap.IsTuple l its.toArray) (hi : IntsAre its ns) (hne : 0 < ns.length)
    (h : ∀ h' tk M t', (∀ b o, s.heap.get? b = some o → h'.get? b = some o) → M ∈ ns → (∀ a, a ∈ ns → a ≤ M) → Q (.int M t') { s with heap := h', toks := tk }) : wpAny (model prog w) A (call (.builtin "max") [.ref l]) Q E s := by
  obtain ⟨xs, e⟩ := hi.allInts.items
  have hn : numsOf (intItems xs).toList = ns := by rw [← e]; exact hi.numsOf
  rw [nums_intItems] at hn
  subst hn
  rw [e] at hl
  have hsz : 0 < xs.size := by simpa using hne
  refine call_max_walk (iter_intTup hl fun s₂ e₂ st hfp hlI => ?_)
  subst e₂
  refine ⟨_, _, _, _, _, _, _, rfl, Walks.tuple (A := A.in1) hh _ l hlI (intItems xs), st, hfp, by simpa [intItems] using hsz, CmpOf.ints_gt (numAt xs) (fun _ _ => intItems_at), fun v h' tk hP hk => ?_⟩
  have hv : (intItems xs)[argBest (fun i j => decide (numAt xs i > numAt xs j)) (xs.size - 1)]? = some v := by simpa [intItems] using hP
  have hold : ∀ b o, s.heap.get? b = some o → h'.get? b = some o := fun b o z => by
    refine hk b o (fun hm => ?_) (Heap.get?_push_of_some _ z)
    rcases List.mem_cons.mp hm with e1 | hm
    · exact absurd (e1 ▸ Heap.lt_size z) (Nat.lt_irrefl _)
    · cases hm
  obtain ⟨t, rfl⟩ := intItems_at hv
  obtain ⟨h1, h2⟩ := argBest_gt (numAt xs) (xs.size - 1)
  refine h h' tk _ t hold ?_ fun a ha => ?_
  · rw [numAt_eq]; exact PySem.getD_mem (by rw [List.length_map, Array.length_toList]; omega)
  · obtain ⟨j, hj, rfl⟩ := mem_getD ha
    rw [List.length_map, Array.length_toList] at hj
    rw [← numAt_eq]; exact h2 j (by omega)
theorem collect_tup {l : Addr} {vs : List Value} {Q : List Value → Shared → Prop} (hl : s.heap.IsTuple l vs.toArray)
    (h : Q vs { s with heap := (s.heap.push (seqObj "list" #[] 0)).update s.heap.objs.size (Obj.mapSeq (· ++ vs.toArray)) }) (hsz : vs.length ≤ sizeLine) :
    wpAny (model prog w) A (collect (.ref l)) Q E s := by
  obtain ⟨o, ho, hc, n, hd⟩ := id hl
  unfold collect
  refine wpAny_bind (wpAny_runValue (codeAny_builtin entry_proto_collect' ?_))
  show wpAny _ _ (do again (.builtin "list.__iadd__" ⟨[← newList [], .ref l], []⟩)) _ _ s
  refine wpAny_bind (wpAny_newList (wpAny_pure ⟨Code.quiet_builtin _ (by decide +kernel), codeAny_builtin entry_list_iadd' ?_⟩))
  show wpAny _ _ (Builtin.List.listExtendWith (.ref s.heap.objs.size) (.ref l) (.ref s.heap.objs.size)) _ _ { s with heap := s.heap.push (seqObj "list" #[] 0) }
  unfold Builtin.List.listExtendWith
  have ho' : (s.heap.push (seqObj "list" #[] 0)).get? l = some o := Heap.get?_push_of_some _ ho
  refine wpAny_bind (wpAny_typeOf (T := "tuple") ⟨o, ho', hc⟩ ?_)
  rw [if_pos (by rw [show (Value.type "tuple" == Value.type "tuple") = true from rfl]; simp)]
  refine wpAny_bind (listItems_at ho' hd ?_)
  refine wpAny_bind (listItems_at (xs := #[]) (n := 0) (Heap.get?_push_size _ rfl) rfl ?_)
  rw [if_neg (by simp)]
  refine wpAny_bind (listUpdate_at (xs := #[]) (n := 0) (Heap.get?_push_size _ rfl) rfl ?_ (Nat.zero_le _) (by show (#[] ++ vs.toArray).size ≤ sizeLine + 1; simp only [Array.size_append, List.size_toArray, List.length_nil]; omega))
  refine wpAny_pure ?_
  show wpAny (model prog w) A (do
      let o ← load s.heap.objs.size
      match o.data with
      | .seq xs _ => pure xs.toList
      | _ => unsupported "internal:collect") Q E { s with heap := (s.heap.push (seqObj "list" #[] 0)).update s.heap.objs.size (Obj.mapSeq (· ++ vs.toArray)) }
  refine wpAny_bind (wpAny_load (get?_update_seq (Heap.get?_push_size _ rfl) _) ?_)
  show wpAny _ _ (pure ((#[] : Array Value) ++ vs.toArray).toList) Q E _
  rw [show ((#[] : Array Value) ++ vs.toArray).toList = vs by simp]
  exact wpAny_pure h
theorem sorted_intsT {l : Addr} {vs : List Value} {ns : List Int} {Q : Value → Shared → Prop} (hl : s.heap.IsTuple l vs.toArray) (hI : IntsAre vs ns) (h64 : vs.length < 64)
    (h : ∀ (out : Array Value) (ns' : List Int), IntsAre out.toList ns' → ns'.Perm ns → ns'.Pairwise (· ≤ ·) → Q (.ref (s.heap.objs.size + 1)) { s with heap := sortedAll s.heap vs out }) :
    wpAny (model prog w) A (call (.builtin "sorted") [.ref l]) Q E s := by
  refine Calls.call_function_entry kind_sorted plain_sorted entry_sorted (args_sorted1 _) ?_
  unfold Builtin.«sorted»
  refine wpAny_bind (m := checkCount "sorted" 1 1 _) (wpAny_pure ?_)
  refine wpAny_bind (collect_tup hl ?_ (by rw [sizeLine_eq]; omega))
  refine wpAny_bind (wpAny_newList ?_ (by rw [sizeLine_eq]; omega))
  have hsz : ((s.heap.push (seqObj "list" #[] 0)).update s.heap.objs.size (Obj.mapSeq (· ++ vs.toArray))).objs.size = s.heap.objs.size + 1 := by
    rw [Heap.size_update, size_push']
  have hoL : (((s.heap.push (seqObj "list" #[] 0)).update s.heap.objs.size (Obj.mapSeq (· ++ vs.toArray))).push (seqObj "list" vs.toArray 0)).get? (s.heap.objs.size + 1) = some (seqObj "list" vs.toArray 0) := by
    rw [← hsz]; exact Heap.get?_push_size _ rfl
  show wpAny _ _ _ _ _ { s with heap := ((s.heap.push (seqObj "list" #[] 0)).update s.heap.objs.size (Obj.mapSeq (· ++ vs.toArray))).push (seqObj "list" vs.toArray 0) }
  rw [hsz]
  refine wpAny_bind (wpAny_holding (wpAny_call_entry slot_list_sort ⟨_, hoL, rfl⟩ entry_list_sort (list_sort_tree hoL hI h64 fun out ns' a1 a2 a3 => ⟨_, rfl, ?_⟩) (args_list_sort _)))
  exact wpAny_pure ⟨_, rfl, h out ns' a1 a2 a3⟩
end
section
variable {X : Cx}
theorem call_max3 (hc : X.calm = true) : CallR X (.builtin "max") (fun xs H Q => ∃ i j k : Int, xs = [.int i, .int j, .int k] ∧ Q (.int (if j > i then (if k > j then k else j) else (if k > i then k else i))) H) := by
  intro pins s σ H xs us Q I r h
  obtain ⟨i, j, k, rfl, q⟩ := h
  cases r with
  | cons r1 r =>
  cases r with
  | cons r2 r =>
  cases r with
  | cons r3 r =>
  cases r
  obtain ⟨t, rfl⟩ := r1
  obtain ⟨t', rfl⟩ := r2
  obtain ⟨t'', rfl⟩ := r3
  refine max_three_ints (I.ok.hd hc) fun h' tk kp => ⟨_, H, I.kept kp, ?_, q⟩
  split
  · split <;> exact ⟨_, rfl⟩
  · split <;> exact ⟨_, rfl⟩
/-- max of a tuple of ints -/
theorem call_maxT (hc : X.calm = true) : CallR X (.builtin "max") (fun xs H Q => ∃ (a : Addr) (ns : List Int), xs = [.ref a] ∧ SqT X.K H a (ns.map V.int) ∧ 0 < ns.length ∧ ∀ m, m ∈ ns → (∀ x, x ∈ ns → x ≤ m) → Q (.int m) H) := by
  intro pins s σ H vs us Q I r h
  obtain ⟨a, ns, rfl, hs, hne, q⟩ := h
  obtain ⟨its, rv, hl, _⟩ := I.tuple hs
  rw [Vals.ref1 r]
  exact max_rawT (I.ok.hd hc) hl rv.ints hne fun h' tk m t' hk h1 h2 => ⟨.int _, H, I.kept hk, ⟨_, rfl⟩, q m h1 h2⟩
/-- sorted of a tuple of ints -/
theorem call_sortedT : CallR X (.builtin "sorted") (fun xs H Q => ∃ (a : Addr) (ns : List Int), xs = [.ref a] ∧ SqT X.K H a (ns.map V.int) ∧ ns.length < 64 ∧ ∀ (ns' : List Int) (p : Addr), ns'.Perm ns → ns'.Pairwise (· ≤ ·) → H p = none → Q (.ref p) (upd H p (.lst (ns'.map V.int)))) := by
  intro pins s σ H vs us Q I r h
  obtain ⟨a, ns, rfl, hs, h64, q⟩ := h
  obtain ⟨its, rv, hl, _⟩ := I.tuple hs
  rw [Vals.ref1 r]
  have hi := rv.ints
  refine sorted_intsT hl hi (by rw [hi.length]; exact h64) fun out ns' h1 h2 h3 => ?_
  obtain ⟨ep, he'⟩ := PyProof.Rows.sortedAll_at s.heap its out
  have hlen : (ns'.map V.int).length ≤ sizeLine := by rw [List.length_map, h2.length_eq]; exact small64 h64
  exact ⟨.ref _, upd H (s.heap.objs.size + 1) (.lst (ns'.map V.int)), I.laid (t' := s.toks) (fun _ _ => PyProof.Rows.sortedAll_old) (Nat.le_succ _) ⟨hlen, out.toList, ep, vals_of_ints h1, he'⟩, rfl, q ns' _ h2 h3 (I.hok.fresh (Nat.le_succ _))⟩
/-- raise X(), X an exception without __init__ -/
theorem pmk_own0 {C : Addr} {bmB : List Value} {B newId initId : String} {x : Str} {p pos : Pos} (F : ExcBaseFacts B newId initId bmB) (q : PySem.W.excIn X.K C bmB newId = true) (gC : X.mg x = some (.ref C))
    (kC : PySem.W.keepIn X.K (.ref C) = true) (r : Raises X (.ref C)) (hg : Gl X x := by rfl) (hdb : (x == ("__debug__" : Str)) = false := by decide) :
    PMk X (.Call (.Name x p) [] [] pos) (fun σ H Q => Q (.ref C) none H) := by
  intro pins s σ H Q I h
  refine wpAny_Call_Name_kw (ld_glob I hg gC ?_ hdb)
  refine PySem.W.callWith_K0 I.kIn kC ?_
  show wpAny _ _ (call (.ref C) []) _ _ _
  obtain ⟨bm, N, nm, qn, bs, hdct, sn, sub, ab, col, dd, k0, k1, k2, k3, k5, mN, hC, hN, hni, T⟩ := exc_obj I.kIn q
  refine wpAny_call_exc_subT F T hC hN hni (fun h' e hm => ?_) (by simp)
  exact mk_of I hm r h (I.hok.gone hm.new)

/-! ### len(set(t)) -/
theorem mem_erase_of {a b : Int} : ∀ {l : List Int}, a ∈ l → a ≠ b → a ∈ l.erase b
  | x :: l, h, hn => by
    rw [List.erase_cons]
    rcases List.mem_cons.mp h with e | h
    · subst e
      rw [if_neg (by simpa using hn)]
      exact List.mem_cons_self ..
    · split
      · exact h
      · exact List.mem_cons_of_mem _ (mem_erase_of h hn)
theorem perm_of_sub : ∀ {k l : List Int}, k.Nodup → (∀ x ∈ k, x ∈ l) → l.length ≤ k.length → l.Perm k
  | [], l, _, _, h => by
    have e : l = [] := List.length_eq_zero_iff.mp (Nat.le_zero.mp h)
    rw [e]
  | a :: k, l, nd, hs, h => by
    have ha : a ∈ l := hs a (List.mem_cons_self ..)
    have h1 : (l.erase a).Perm k := perm_of_sub (List.nodup_cons.mp nd).2 (fun x hx => mem_erase_of (hs x (List.mem_cons_of_mem _ hx)) fun e => (List.nodup_cons.mp nd).1 (e ▸ hx)) (by
      rw [List.length_erase_of_mem ha]
      simp only [List.length_cons] at h
      omega)
    exact (List.perm_cons_erase ha).trans (h1.cons a)
theorem sub_len : ∀ {k l : List Int}, k.Nodup → (∀ x ∈ k, x ∈ l) → k.length ≤ l.length
  | [], _, _, _ => Nat.zero_le _
  | a :: k, l, nd, hs => by
    have ha : a ∈ l := hs a (List.mem_cons_self ..)
    have h1 : k.length ≤ (l.erase a).length := sub_len (List.nodup_cons.mp nd).2 fun x hx => mem_erase_of (hs x (List.mem_cons_of_mem _ hx)) fun e => (List.nodup_cons.mp nd).1 (e ▸ hx)
    rw [List.length_erase_of_mem ha] at h1
    have h2 : 0 < l.length := List.length_pos_of_mem ha
    simp only [List.length_cons]
    omega
def tLenSetT (K : KF) (ta : TE) : TE := fun σ H Q => ta σ H fun x H1 => ∃ (l : Addr) (ns : List Int), x = .ref l ∧ SqT K H1 l (ns.map V.int) ∧ ns.length ≤ 100 ∧ ∀ c : Nat, c ≤ ns.length → (c = ns.length ↔ ns.Nodup) → Q (.int c) H1
theorem pe_lenSetT {a : Expr} {ta : TE} {p p2 q pos : Pos} (hm : X.mg "len" = none) (hm2 : X.mg "set" = none) (ha : PE X a ta) (hg : Gl X "len" := by rfl) (hg2 : Gl X "set" := by rfl) (hc : X.calm = true := by rfl)
    (na : starEach [a] X.env = (false, eval a X.env) :: starEach [] X.env := by rfl) : PE X (.Call (.Name "len" p) [.Call (.Name "set" p2) [a] [] q] [] pos) (tLenSetT X.K ta) := by
  refine ⟨fun pins s σ H Q I h => ?_⟩
  refine Call_ (ld_blt I hg hm boot_len ?_)
  refine PyProof.Rows.callWith_builtin1 (PyProof.Rows.args_cons ?_ rfl) rfl rfl
  refine Call_ (ld_blt I hg2 hm2 boot_set ?_)
  refine PyProof.Rows.callWith_type1 (PyProof.Rows.args_cons (thn (ha.run pins s σ H _ I h) fun v s1 ⟨x, H1, I1, r1, q1⟩ => PyProof.Rows.args_nil ?_) na) na rfl
  obtain ⟨l, ns, rfl, hq, hl, q1⟩ := q1
  cases r1
  obtain ⟨its, r, pl, hz⟩ := I1.tuple hq
  refine L2.call_set_tupI ns (I1.ok.hd hc) pl (by simpa using r.ints) (by unfold scanBound; omega) fun h' tk c hS hcl hk => ?_
  refine PyProof.Rows.args_nil ?_
  obtain ⟨o, es, ep, t, ho, hex, hd, _, hnd, hmem, hsb, hf, hn, _⟩ := hS
  have I2 : Inv X pins σ H1 { s1 with heap := h', toks := tk } := I1.kept hk
  have hc1 : (es.toList.map keyOf).length = c := by rw [List.length_map, Array.length_toList, hn]
  have hsub : ∀ x ∈ es.toList.map keyOf, x ∈ ns := fun x hx => by simpa using (hmem x).mpr hx
  have hsub2 : ∀ x ∈ ns, x ∈ es.toList.map keyOf := fun x hx => (hmem x).mp (by simpa using hx)
  refine call_len_set ho hex hd hf (by rw [hn] <;> omega) ⟨.int c, H1, I2.tok _, ⟨_, by rw [hn]⟩, q1 c hcl ⟨fun e => ?_, fun nd => ?_⟩⟩
  · exact (perm_of_sub hnd hsub (by rw [hc1, e] <;> exact Nat.le_refl _)).nodup_iff.mpr hnd
  · exact Nat.le_antisymm hcl (by rw [← hc1]; exact sub_len nd hsub2)
/-! ### t[::-1] -/
theorem rev_pick (xs : Array Value) : ((List.range xs.size).filterMap fun (m : Nat) => xs[(((xs.size : Int) - 1) + (m : Int) * -1).toNat]?).toArray = xs.toList.reverse.toArray := by
  congr 1
  have e : ∀ m ∈ List.range xs.size, xs[(((xs.size : Int) - 1) + (m : Int) * -1).toNat]? = xs.toList.reverse[m]? := fun m hm => by
    have hlt : m < xs.size := List.mem_range.mp hm
    have e1 : (((xs.size : Int) - 1) + (m : Int) * -1).toNat = xs.size - 1 - m := by omega
    rw [e1, List.getElem?_reverse (by rw [Array.length_toList]; exact hlt), Array.length_toList, Array.getElem?_toList]
  have cong : ∀ (l : List Nat) (f g : Nat → Option Value), (∀ m ∈ l, f m = g m) → l.filterMap f = l.filterMap g := by
    intro l f g
    induction l with
    | nil => intro _; rfl
    | cons a l ih =>
      intro h
      rw [List.filterMap_cons, List.filterMap_cons, h a (List.mem_cons_self ..), ih fun m hm => h m (List.mem_cons_of_mem _ hm)]
  rw [cong _ _ _ e]
  have key : ∀ (l : List Value) (n : Nat), n = l.length → (List.range n).filterMap (fun m => l[m]?) = l := by
    intro l n hn
    subst hn
    have := PySem.W.krv_all l.toArray
    simpa using this
  exact key _ _ (by simp)

theorem applied_rev {prog : Program} {w : World} {A : Around} {E : Value → Shared → Prop} {s : Shared} {sl : Addr} {vs : Value} {n : Nat} {Q : Int × Int × Nat → Shared → Prop} (hs : s.heap.IsSliceOf sl .none .none vs) (ps : IsPart vs (some (-1)))
    (h : Q ((n : Int) - 1, -1, n) s) : wpAny (model prog w) A (Builtin.Slice.sliceApplied (.ref sl) (pure (n : Int))) Q E s := by
  obtain ⟨os, hos, hcs, hds⟩ := id hs
  unfold Builtin.Slice.sliceApplied Builtin.Slice.sliceFields
  refine wpAny_bind (wpAny_bind (wpAny_field hos hds (x := .none) rfl (wpAny_bind (wpAny_field hos hds (x := .none) rfl (wpAny_bind (wpAny_field hos hds (x := vs) rfl (wpAny_pure ?_)))))))
  refine wpAny_bind (HT.slicePart_ ps ?_)
  show wpAny _ _ (if ((-1 : Int) == 0) = true then _ else _) _ _ s
  rw [if_neg (by decide)]
  refine wpAny_bind (HT.slicePart_ .none (wpAny_bind (HT.slicePart_ .none (wpAny_bind (wpAny_pure ?_)))))
  have e : Builtin.Slice.sliceAdjust none none (-1) (n : Int) = ((n : Int) - 1, -1) := by
    unfold Builtin.Slice.sliceAdjust
    rfl
  show wpAny _ _ (match Builtin.Slice.sliceAdjust none none (-1) (n : Int) with | (lo, hi) => pure (lo, (-1 : Int), Builtin.Slice.slicePlaces lo hi (-1))) _ _ s
  rw [e]
  have e2 : Builtin.Slice.slicePlaces ((n : Int) - 1) (-1) (-1) = n := by
    unfold Builtin.Slice.slicePlaces
    rw [if_neg (by decide)]
    split
    · rw [show (- -1 : Int) = 1 by decide, Int.ediv_one]
      omega
    · omega
  show wpAny _ _ (pure ((n : Int) - 1, (-1 : Int), Builtin.Slice.slicePlaces ((n : Int) - 1) (-1) (-1))) _ _ s
  rw [e2]
  exact wpAny_pure h
theorem getItem_rev {prog : Program} {w : World} {A : Around} {E : Value → Shared → Prop} {s : Shared} {t sl : Addr} {items : Array Value} {vs : Value} {Q : Value → Shared → Prop} (ht : IsTup s.heap t items) (hs : s.heap.IsSliceOf sl .none .none vs) (ps : IsPart vs (some (-1)))
    (h : Q (.ref s.heap.objs.size) { s with heap := s.heap.push { cls := .type "tuple", data := .seq items.toList.reverse.toArray } })
    (hsz : items.size ≤ sizeLine) : wpAny (model prog w) A (getItem (.ref t) (.ref sl)) Q E s := by
  have htake : sizeOk (.seq items.toList.reverse.toArray) := by
    show items.toList.reverse.toArray.size ≤ sizeLine
    rw [List.size_toArray, List.length_reverse, Array.length_toList]
    exact hsz
  obtain ⟨os, hos, hcs, hds⟩ := id hs
  have hTs : s.TypeIs (.ref sl) "slice" := ⟨os, hos, hcs⟩
  unfold getItem
  try with_reducible refine wpAny_holding ?_
  first | refine wpAny_bind (wpAny_pure ?_) | skip
  refine wpAny_bind (wpAny_sequenceKey ht.typeIs (by decide) ?_)
  refine wpAny_bind (wpAny_callSpecial?_slot (name := Str.ofString "__getitem__") ht.typeIs PyProof.Rows.slot_tuple_getitem
    (wpAny_call_entry PyProof.Rows.slot_tuple_getitem ht.typeIs entry_tuple_getitem ?_ (args_tuple_getitem _ _)))
  show wpAny _ _ (Builtin.Tuple.tupleItemsOf (.ref t) >>= _) _ _ s
  refine wpAny_bind (PyProof.Rows.tupleItemsOf_ ht ?_)
  refine wpAny_bind (wpAny_typeOf hTs ?_)
  rw [if_pos (by decide)]
  refine wpAny_bind (applied_rev hs ps ?_)
  have hno : ¬ ((((items.size : Int) - 1) == 0 && (-1 : Int) == 1 && items.size == items.size) = true) := by
    intro q
    rw [Bool.and_eq_true, Bool.and_eq_true] at q
    exact absurd q.1.2 (by decide)
  show wpAny _ _ (if (((items.size : Int) - 1) == 0 && (-1 : Int) == 1 && items.size == items.size) = true then _ else _) _ _ s
  rw [if_neg hno, rev_pick]
  first
    | exact wpAny_bind (m := Builtin.Tuple.tupleExact _) (wpAny_newObj_type (wpAny_pure ⟨_, rfl, wpAny_pure h⟩) htake)
    | exact wpAny_bind (m := Builtin.Tuple.tupleExact _) (wpAny_newObj_type (wpAny_bind (wpAny_pure (wpAny_pure ⟨_, rfl, wpAny_pure h⟩))) htake)
def tRevT (K : KF) (te : TE) : TE := fun σ H Q => te σ H fun x H1 => ∃ a xs, x = .ref a ∧ SqT K H1 a xs ∧ ∀ p, H1 p = none → Q (.ref p) (upd H1 p (.tup xs.reverse))
theorem pe_revT {e : Expr} {te : TE} {k : Nat} {p1 p2 p3 pos : Pos} (he : PE X e te) : PE X (.Subscript e (.Slice none none (some (.UnaryOp .USub (.Constant (.int 1) k p1) p2)) p3) pos) (tRevT X.K te) := by
  refine ⟨fun pins s σ H Q I h => ?_⟩
  refine Subscript_ (thn (he.run pins s σ H _ I h) fun v s1 ⟨x, H1, I1, r1, q1⟩ => ?_)
  obtain ⟨a, xs, ex, hx, q⟩ := q1
  subst ex
  cases r1
  have hst : PO X (some (.UnaryOp .USub (.Constant (.int 1) k p1) p2)) (tPart (tUn (rU fun i => .int (-i)) (tC (.int 1)))) := po_some (pe_un un_neg pe_int)
  refine wpAny_Slice (thn (po_none.run pins s1 σ H1 (fun o H2 => o = none ∧ H2 = H1) I1 ⟨rfl, rfl⟩) fun vl s2 ⟨l, H2, I2, pl, el, e2⟩ => ?_)
  subst el e2
  refine thn (po_none.run pins s2 σ H2 (fun o H3 => o = none ∧ H3 = H2) I2 ⟨rfl, rfl⟩) fun vu s3 ⟨u, H3, I3, pu, eu, e3⟩ => ?_
  subst eu e3
  refine thn (hst.run pins s3 σ H3 (fun o H4 => o = some (-1) ∧ H4 = H3) I3 ⟨1, rfl, -1, rfl, rfl, rfl⟩) fun vs s4 ⟨o, H4, I4, ps, eo, e4⟩ => ?_
  subst eo e4
  cases pl
  cases pu
  have I5 : Inv X pins σ H4 { s4 with heap := s4.heap.push { cls := .type "slice", data := .fields #[.none, .none, vs] } } := I4.kept (t' := s4.toks) fun b ob q => Heap.get?_push_of_some _ q
  obtain ⟨its, r, ht, hz⟩ := I5.tuple hx
  have hlen := r.length
  show wpAny (model X.prog X.w) X.A (subscriptTail e (.Slice none none (some (.UnaryOp .USub (.Constant (.int 1) k p1) p2)) p3) (.ref a) (.ref s4.heap.objs.size)) (EP X pins σ Q) X.xe { s4 with heap := s4.heap.push { cls := .type "slice", data := .fields #[.none, .none, vs] } }
  refine tail_any (ops := [.ref a, .ref s4.heap.objs.size]) ht.typeIs (PyProof.Rows.slot_tuple_getitem.lookup) ?_ (by with_unfolding_all rfl)
  refine getItem_rev ht (Heap.IsSliceOf.new _ .none .none vs) ps ?_ (by rw [List.size_toArray]; omega)
  refine ⟨.ref _, _, I5.laid (t' := s4.toks) (o := .tup xs.reverse) (fun b ob q => Heap.get?_push_of_some _ q) (Nat.le_refl _) ?_, rfl, q _ (I5.hok.fresh (Nat.le_refl _))⟩
  exact ⟨by rw [List.length_reverse]; exact hz, _, r.reverse, IsTup.new _ _⟩
end
end Yk
set_option Elab.async false
set_option linter.all false
set_option maxRecDepth 100000
set_option maxHeartbeats 4000000
/-! words: attributes as targets of a tuple; a def held by a slot; a def with a star; DEEDS; o.m(k=v) -/
namespace Yk
open PySem PySem.Spec PyProof.Rows L2 StX
section
variable {X : Cx} {CX : CXT} {k j i : Nat} {x m : Str} {sp : Sp} {E : XK} {e o : Expr} {es : List Expr} {t : TA} {ta te : TE} {p pos apos : Pos} {C : Addr}
/-- self.f, self.g = .. -/
def gAttr (K : KF) (to : TE) (f : Str) : TG := fun v σ H Q => to σ H fun x H1 => ∃ a C dx fs, x = .ref a ∧ H1 a = some (.ins C dx fs) ∧ Cls K C ∧ NoAttr K C f ∧ fs.length < 1000 ∧ Q σ (upd H1 a (.ins C dx (putF f v fs)))
theorem pg_attr {f : Str} (ho : PE X o ta) : PG X (.Attribute o f pos) (gAttr X.K ta f) := by
  refine ⟨fun pins s σ H v u Q I r h => ?_⟩
  rw [assign_Attribute]
  refine wpAny_bind (wpAny_holding (thn (ho.run pins s σ H _ I h) fun ov s1 ⟨x, H1, I1, r1, a, C, dx, fs, ex, ea, c, n, hl, q⟩ => ?_))
  subst ex
  obtain rfl : ov = Value.ref a := r1
  refine wpAny_bind (wpAny_standAt (wpAny_bind (wpAny_holding (setattr_ok I1 ea c n hl r fun s2 I2 => ?_))))
  exact wpAny_release ⟨σ, _, I2, q⟩
/-- x(e, *y), the slot i holding one of several defs -/
def tDeed (S : Addr → Sp → Prop) (i : Nat) (E : XK) (t : TA) : TE := fun σ H Q => ∃ f sp, σ[i]? = some (some (.ref f)) ∧ S f sp ∧ t σ H fun vs H1 => sp vs H1 Q E
theorem pe_deed {S : Addr → Sp → Prop} (A : ∀ f sp, S f sp → FnR X.prog X.w X.K X.mg X.base CX k f sp ∧ PySem.W.keepIn X.K (.ref f) = true) (hr : Room j X.A) (hk : k ≤ j) (hx : Passes CX X E) (ha : PA X (e :: es) t)
    (hN : X.N[i]? = some x := by rfl) (hv : Vis X.env.scope x := by exact Or.inl rfl) (hdb : (x == ("__debug__" : Str)) = false := by decide) (hcd : (x == ("__classdict__" : Str)) = false := by decide)
    (he : starEach (e :: es) X.env = (false, eval e X.env) :: starEach es X.env := by rfl) (hst : (backTo pos (starEach es X.env)).any (·.1) = true := by rfl) : PE X (.Call (.Name x p) (e :: es) [] pos) (tDeed S i E t) := by
  refine ⟨fun pins s σ H Q I h => ?_⟩
  obtain ⟨f, sp, hs, hS, ht⟩ := h
  obtain ⟨F, kp⟩ := A f sp hS
  refine wpAny_Call_Name_kw (thn ((pe_var (pos := p) hN hv hdb hcd).run pins s σ H (fun v H1 => v = .ref f ∧ H1 = H) I ⟨.ref f, hs, rfl, rfl⟩) fun u s1 ⟨v, H1, I1, r1, q1⟩ => ?_)
  obtain ⟨rfl, rfl⟩ := q1
  cases r1
  refine PySem.W.callWith_S2 (h₀ := X.base) I.ok.mod.kin kp (thn (ha.run pos pins s1 σ _ _ I1 ht) fun us s2 ⟨vs, H2, I2, r, q⟩ => ⟨I2.kIn, ?_⟩) he hst
  exact wpAny_call (run_fnR F (hr.mono hk) hx I2 r q)
/-- o.m(k = e): a method whose one parameter is given by its name -/
def tKwM (C : Addr) (m : Str) (sp : Sp) (E : XK) (ta te : TE) : TE := fun σ H Q => ta σ H fun x H1 => ∃ a dx fs, x = .ref a ∧ H1 a = some (.ins C dx fs) ∧ fs.lookup m = none ∧ te σ H1 fun y H2 => sp [.ref a, y] H2 Q E
theorem pe_kwm {pl : Sem Bool} {nm : Str} {kpos : Pos} {f : Addr} {fd : FuncData} {ps : List Str} (he : PE X o ta) (c : Cls X.K C) (M : Meth X.K C m f) (F : FnOk X.prog X.w X.K X.mg X.base CX k f fd ps sp)
    (hb : KBn X.K fd ps 1 [nm] (fun us ws => us ++ ws) (fun vs zs => vs ++ zs)) (hr : Room j X.A) (hk : k ≤ j) (hx : Passes CX X E) (hv : PE X e te) (hps : ps.length = 2)
    (hall : (backToKw pos (keywordEach [⟨some nm, e, kpos⟩] X.env)).all (·.1.isSome) = true := by rfl) (hks : (backToKw pos (keywordEach [⟨some nm, e, kpos⟩] X.env)).filterMap (·.1) = [nm] := by rfl)
    (hpl : ((backTo pos (starEach [] X.env)).any (·.1) || (backToKw pos (keywordEach [⟨some nm, e, kpos⟩] X.env)).any (·.1.isNone)) = false := by rfl)
    (ht : eval (.Call (.Attribute o m apos) [] [⟨some nm, e, kpos⟩] pos) X.env = (do
      let ov ← eval o X.env
      standAt apos.atName
      let (f, first) ← holding [ov] (getMethod ov m pl)
      callWith pos f first (backTo pos (starEach [] X.env)) (backToKw pos (keywordEach [⟨some nm, e, kpos⟩] X.env))) := by rfl) :
    PE X (.Call (.Attribute o m apos) [] [⟨some nm, e, kpos⟩] pos) (tKwM C m sp E ta te) := by
  refine ⟨fun pins s σ H Q I h => ?_⟩
  refine PySem.W.methodCall_KW (pl := pl) (thn (he.run pins s σ H _ I h) fun u s1 ⟨y, H1, I1, rx, a, dx, fs, ex, ea, l, q⟩ => ?_) ht
  subst ex
  obtain rfl : u = Value.ref a := rx
  refine getmeth_ok I1 ea c M l ?_
  refine PySem.W.callWith_KW0 (first := [.ref a]) (h₀ := X.base) I.ok.mod.kin M.kp hall ?_ hpl
  refine thn ((pk_cons (nm := some nm) (kpos := kpos) hv pk_nil).run pos pins s1 σ H1 (fun zs H2 => sp (.ref a :: zs) H2 Q E) I1 q) fun ws s2 ⟨zs, H2, I2, rz, q2⟩ => ⟨I2.kIn, ?_⟩
  rw [hks]
  have hl := F.len _ _ _ _ q2
  rw [hps] at hl
  exact run_fnN (n := 1) (ks := [nm]) (g := fun us ws => us ++ ws) (gV := fun vs zs => vs ++ zs) (us := [.ref a]) (vs := [.ref a]) F (hr.mono hk) hb hx I2 (.cons rfl .nil) rz rfl (by simpa using hl) q2
end
end Yk
set_option Elab.async false
set_option linter.all false
set_option maxRecDepth 100000
set_option maxHeartbeats 4000000
/-! words: try with clauses, some with a name -/
namespace Yk
open PySem PySem.Spec PyProof.Rows L2
/-- a clause: its class, the slot of its name (none: it has none), its suite's reading -/
structure Cl where
  c : Value
  i : Option Nat
  ts : Addr → Value → Option Addr → TS
def Cl.off (k : Cl) (σ : L2.St) : L2.St := match k.i with
  | some i => σ.set i none
  | none => σ
def Cl.on (k : Cl) (a : Addr) (σ : L2.St) : L2.St := match k.i with
  | some i => σ.set i (some (.ref a))
  | none => σ
def Cl.ends (k : Cl) (D : Ends) : Ends := { nx := fun σ H => D.nx (k.off σ) H, rt := D.rt, bk := fun σ H => D.bk (k.off σ) H, ct := fun σ H => D.ct (k.off σ) H }
def wMix (K : KF) (Wo : WX) (D : Ends) : List Cl → WX
  | [] => Wo
  | k :: r => fun cls d σ H => ∃ b, PySem.W.exmOne K cls k.c = some b ∧ (b = true → ∀ a, H a = none → k.ts a cls d (k.ends D) (k.on a σ) H) ∧ (b = false → wMix K Wo D r cls d σ H)
inductive ClOk (X : Cx) : List ExceptHandler → List Cl → Prop
  | nil : ClOk X [] []
  | bare {x : Str} {c : Value} {ts : Addr → Value → Option Addr → TS} {b : Stmt} {bs : List Stmt} {q1 q2 : Pos} {hs : List ExceptHandler} {l : List Cl} (nm : Names X x c)
      (su : ∀ (a : Addr) (oe : Obj) (cls : Value) (d : Option Addr) (pl : List (Addr × Obj)), Zc cls d oe → (∃ vs, oe.data = .fields vs) → PSs (X.suite a ((a, oe) :: pl)) (b :: bs) (ts a cls d)) (r : ClOk X hs l) :
      ClOk X (.ExceptHandler (some (.Name x q1)) none (b :: bs) q2 :: hs) (⟨c, none, ts⟩ :: l)
  | named {x n : Str} {i : Nat} {c : Value} {ts : Addr → Value → Option Addr → TS} {b : Stmt} {bs : List Stmt} {q1 q2 : Pos} {hs : List ExceptHandler} {l : List Cl} (nm : Names X x c) (nd : X.N.Nodup) (at_ : X.N[i]? = some n) (loc : X.env.kindOf n = some .local)
      (su : ∀ (a : Addr) (oe : Obj) (cls : Value) (d : Option Addr) (pl : List (Addr × Obj)), Zc cls d oe → (∃ vs, oe.data = .fields vs) → PSs (X.suite a ((a, oe) :: pl)) (b :: bs) (ts a cls d)) (r : ClOk X hs l) :
      ClOk X (.ExceptHandler (some (.Name x q1)) (some n) (b :: bs) q2 :: hs) (⟨c, some i, ts⟩ :: l)
section
variable {X : Cx} {body : List Stmt} {hd : ExceptHandler} {hds : List ExceptHandler} {l : List Cl} {pos : Pos} {tb : WX → TS} {Wo : WX}
theorem ps_try_mix (hstk : X.stack = X.env :: X.outer) (hfrm : X.env.frame = some X.env.locals) (tk : L2.Takes X Wo)
    (run : ∀ (W : WX) (pl : List (Addr × Obj)) (xe : Value → Shared → Prop), L2.Takes (X.tr pl xe) W → PassesOwn (model X.prog X.w) X.A X.env xe → PSs (X.tr pl xe) body (tb W))
    (cl : ClOk X (hd :: hds) l) : PS X (.Try body (hd :: hds) [] [] pos) (fun D σ H => tb (wMix X.K Wo D l) D σ H) := by
  constructor
  intro pins s σ H D I hw
  have okX := I.ok
  have frA : X.A.frames = some (X.env :: X.outer) := okX.frames.trans (congrArg some hstk)
  refine wpAny_Try_except (wpAny_mono ((run (wMix X.K Wo D l) (X.pn ++ pins) (fun e s₁ => wpAny (model X.prog X.w) X.A (noteFrame e X.env) (fun _ s₂ => wpAny (model X.prog X.w) X.A (setFlight e none) (fun _ s₃ =>
    wpAny (model X.prog X.w) X.A (handleBy e X.env (hd :: hds)) (SP X pins D) X.xe s₃) X.xe s₂) X.xe s₁) (fun u s' caught => ?_) PassesOwn.looking).run [] s σ H D (I.toTry _) hw) (fun f s1 ended => ?_) (fun e s1 z => z))
  · obtain ⟨a, B, sI, pinsB, σB, HB, cls, d, rfl, JB, nb, up, sky, na, os, ag, wish⟩ := caught
    have JI : Inv X pins σB HB sI := JB.ofTry okX
    have skyX : Sky B (X.env :: X.outer) a (Zc cls d) X.env.locals s'.heap := hstk ▸ sky
    show wpAny (model X.prog X.w) X.A (noteFrame (.ref a) X.env) _ _ _
    refine Sky.land Zc.steady frA hfrm skyX fun hL flL upL => ?_
    have JL : Inv X pins σB HB { s' with heap := hL } := JI.landed nb flL.1 (up.trans upL) os ag
    obtain ⟨oeL, vsL, heL, hzL, hdL⟩ := flL.there
    have notFrame : a ∉ frs (X.env :: X.outer) := fun hm => by
      obtain ⟨_, o', e', hnf⟩ := flL.2.2.1.mem hm
      rw [heL] at e'
      cases e'
      exact hnf _ hdL
    have nLoc : a ≠ X.env.locals := fun z => notFrame (List.mem_filterMap.mpr ⟨X.env, List.mem_cons_self, by rw [hfrm, z]⟩)
    have nOut : a ∉ X.fs := fun hm => by
      obtain ⟨e, he, q⟩ := List.mem_filterMap.mp hm
      exact notFrame (List.mem_filterMap.mpr ⟨e, List.mem_cons_of_mem _ he, q⟩)
    have SL := JL.suite heL hdL na nLoc nOut
    have LT : PySem.W.Looks (model X.prog X.w) hL (typeOf (.ref a)) cls := fun A Q E s k q => wpAny_typeOf_ref (k _ _ heL) (by rw [hzL.1]; exact q)
    have name : ∀ {x : Str} {c : Value} {np : Pos} {Q : Value → Shared → Prop} {E : Value → Shared → Prop}, Names X x c → Q c { s' with heap := hL } → wpAny (model X.prog X.w) (X.A.mark (some (.ref a))) (eval (.Name x np) X.env) Q E { s' with heap := hL } := fun {x c np Q E} nm q => by
      obtain ⟨hg, hdbg, hm | ⟨hm, hv, hnn⟩⟩ := nm
      · exact ld_glob (X := X.suite a ((a, oeL) :: (X.pn ++ pins))) SL hg hm q hdbg
      · exact ld_blt (X := X.suite a ((a, oeL) :: (X.pn ++ pins))) SL hg hm hv q hnn hdbg
    have all : ∀ {hs' : List ExceptHandler} {l' : List Cl}, ClOk X hs' l' → wMix X.K Wo D l' cls d σB HB → wpAny (model X.prog X.w) X.A (handleBy (.ref a) X.env hs') (SP X pins D) X.xe { s' with heap := hL } := by
      intro hs' l' ok'
      induction ok' with
      | nil =>
        intro wi
        refine wpAny_handleBy_nil ?_
        obtain ⟨k1, k2, k3, oe, vs, T, oT, ts', he, hz, hdt, h1, hr⟩ := id flL
        unfold PySem.passOn
        refine wpAny_bind (wpAny_field he hdt h1 ?_)
        rw [if_neg (show ¬ ((Value.ref T == Value.none) = true) from by simp)]
        have out : wpAny (model X.prog X.w) X.A (setFlight (.ref a) X.env.frame) (fun _ s4 => wpAny (model X.prog X.w) X.A (throw (.ref a) : Sem Flow) (SP X pins D) X.xe s4) X.xe { s' with heap := hL } := by
          rw [hfrm]
          refine HandSPX.setFlight_upZ flL fun h4 hh4 up4 => wpAny_throw (tk _ _ ⟨a, B, sI, pins, σB, HB, cls, d, rfl, JI, nb, (up.trans upL).trans up4, .inr (.inr (hstk.symm ▸ hh4)), na, os, ag, wi⟩)
        first
          | exact wpAny_bind (wpAny_pure (wpAny_bind out))
          | exact wpAny_bind out
      | @bare x c ts b bs q1 q2 hs2 l2 nm su r ih =>
        intro wi
        obtain ⟨yes, hb1, hyes, hno⟩ := wi
        refine wpAny_handleBy_cons (codeAny_handlers_test ?_) (by intro q; cases q)
        refine name nm ((PySem.W.exm_one (M := model X.prog X.w) JL.kIn LT hb1).here ?_)
        cases yes with
        | false =>
          show wpAny _ X.A (handleBy (.ref a) X.env hs2) _ _ _
          exact ih (hno rfl)
        | true =>
          refine codeAny_handlers_suite (HandSPX.lands_againZ flL fun h4 fl4 up4 => ?_)
          have J4 : Inv X pins σB HB { s' with heap := h4 } := JI.landed nb fl4.1 ((up.trans upL).trans up4) os ag
          obtain ⟨oe4, vs4, he4, hz4, hd4⟩ := fl4.there
          have S4 := J4.suite he4 hd4 na nLoc nOut
          refine wpAny_mono ((su a oe4 cls d (X.pn ++ pins) hz4 ⟨_, hd4⟩).run [] _ _ HB _ S4 (hyes rfl a na)) (fun f s6 fin => ?_) (fun _ _ z => False.elim z)
          cases f with
          | ret u =>
            obtain ⟨v6, σ6, H6, S6, r6, q6⟩ := fin
            exact ⟨_, _, _, S6.unsuite okX, r6, q6⟩
          | next => exact let ⟨_, _, S6, q6⟩ := fin; ⟨_, _, S6.unsuite okX, q6⟩
          | brk => exact let ⟨_, _, S6, q6⟩ := fin; ⟨_, _, S6.unsuite okX, q6⟩
          | cont => exact let ⟨_, _, S6, q6⟩ := fin; ⟨_, _, S6.unsuite okX, q6⟩
      | @named x n i c ts b bs q1 q2 hs2 l2 nm nd at_ loc su r ih =>
        intro wi
        obtain ⟨yes, hb1, hyes, hno⟩ := wi
        refine wpAny_handleBy_cons (codeAny_handlers_test ?_) (by intro q; cases q)
        refine name nm ((PySem.W.exm_one (M := model X.prog X.w) JL.kIn LT hb1).here ?_)
        cases yes with
        | false =>
          show wpAny _ X.A (handleBy (.ref a) X.env hs2) _ _ _
          exact ih (hno rfl)
        | true =>
          refine codeAny_handlers_suite_as (HandSPX.lands_againZ flL fun h4 fl4 up4 => ?_)
          have J4 : Inv X pins σB HB { s' with heap := h4 } := JI.landed nb fl4.1 ((up.trans upL).trans up4) os ag
          obtain ⟨oe4, vs4, he4, hz4, hd4⟩ := fl4.there
          have S4 := J4.suite he4 hd4 na nLoc nOut
          refine store_ok (X := X.suite a ((a, oe4) :: (X.pn ++ pins))) (v := .ref a) S4 nd at_ (.inl loc) rfl (fun s5 S5 => ?_) (.inr loc)
          refine wpAny_mono ((su a oe4 cls d (X.pn ++ pins) hz4 ⟨_, hd4⟩).run [] s5 _ HB _ S5 (hyes rfl a na)) (fun f s6 fin => ?_) (fun _ _ z => False.elim z)
          have goes : ∀ {σ6 : L2.St} {H6 : Hp} {Q : Shared → Prop}, Inv (X.suite a ((a, oe4) :: (X.pn ++ pins))) [] σ6 H6 s6 → (∀ s7, Inv X pins (σ6.set i none) H6 s7 → Q s7) →
              wpAny (model X.prog X.w) X.A (do bindName X.env n .none; unbindBehindTheSuite X.env n q2) (fun _ s7 => Q s7) X.xe s6 := fun S6 hq => gone_ok (S6.unsuite okX) nd at_ loc hq
          cases f with
          | ret u =>
            obtain ⟨v6, σ6, H6, S6, r6, q6⟩ := fin
            exact goes S6 fun s7 J7 => ⟨_, _, _, J7, r6, q6⟩
          | next =>
            obtain ⟨σ6, H6, S6, q6⟩ := fin
            exact goes S6 fun s7 J7 => ⟨_, _, J7, q6⟩
          | brk =>
            obtain ⟨σ6, H6, S6, q6⟩ := fin
            exact goes S6 fun s7 J7 => ⟨_, _, J7, q6⟩
          | cont =>
            obtain ⟨σ6, H6, S6, q6⟩ := fin
            exact goes S6 fun s7 J7 => ⟨_, _, J7, q6⟩
    exact all cl wish
  · cases f with
    | ret u =>
      obtain ⟨v, σB, HB, JB, r, q⟩ := ended
      exact ⟨v, σB, HB, JB.ofTry okX, r, q⟩
    | next => exact let ⟨σB, HB, JB, q⟩ := ended; wpAny_execs_nil ⟨σB, HB, JB.ofTry okX, q⟩
    | brk => exact let ⟨σB, HB, JB, q⟩ := ended; ⟨σB, HB, JB.ofTry okX, q⟩
    | cont => exact let ⟨σB, HB, JB, q⟩ := ended; ⟨σB, HB, JB.ofTry okX, q⟩
end
end Yk
set_option Elab.async false
set_option linter.all false
set_option maxRecDepth 100000
set_option maxHeartbeats 4000000
/-! words: repr of data, under no other repr; defs that say it -/
namespace Yk
open PySem PySem.Spec PyProof.Rows L2
section
variable {X : Cx}
theorem call_reprD (hg : X.A.guards = some []) (hu : X.A.units + 64 < cLine) : CallR X (.builtin "repr") (fun xs H Q => ∃ a d, xs = [.ref a] ∧ Dp X.K H (.ref a) d ∧ d.showable = true ∧ d.hasDict = false ∧ d.depth ≤ 60 ∧ d.shown.length ≤ sizeLine ∧ Q (.str d.shown) H) := by
  intro pins s σ H xs us Q I r h
  obtain ⟨a, d, rfl, hd, sh, nd, dp, ln, q⟩ := h
  obtain rfl := Vals.ref1 r
  obtain ⟨as, r1⟩ := Dp.reads I d _ _ hd (rfl : RelV (.ref a) (.ref a))
  exact repr_of_reads' r1 sh (fun z => by rw [nd] at z; cases z) hg (by omega) (fun _ _ e => e) (fun h' u tk hk => ⟨.str d.shown, H, I.kept hk, ⟨_, rfl⟩, q⟩) ln
end
/-- a promise that is kept where no repr is under way -/
def FnG (P : Program) (w : World) (K : KF) (mg : Str → Option Value) (base : Heap) (CX : CXT) (k : Nat) (f : Addr) (sp : Sp) : Prop :=
  ∀ (A : Around) (outer : List Env) (s : Shared) (H : Hp) (us : List Value) (vs : List V) (Q : VK) (E : XK), A.guards = some [] → Room k A → Env0 P w K mg base A outer s H → Vals vs us → sp vs H Q E →
    codeAny (model P w) A (.call (.ref f) ⟨us, []⟩) (CR CX outer P w H s Q E) s
section
variable {P : Program} {w : World} {K : KF} {mg : Str → Option Value} {base : Heap} {k : Nat} {sp : Sp} {st : Stmt} {N ps : List Str}
theorem fng_of {CX : CXT} {x qual : Str} {f : Addr} (F : ∃ fd, FunD K x qual (defArgs st) (defBody st) (defScope st) [] [] f fd) (S : FnScope N ps (defScope st)) (hb : BindsS x qual st ps)
    (len : ∀ vs H Q E, sp vs H Q E → vs.length = ps.length)
    (hbody : ∀ (cdv : Value) (A : Around) (outer : List Env) (s : Shared) (H : Hp) (vs : List V) (Q : VK) (E : XK), A.guards = some [] → Room k (A.deeper (envOfC qual (defScope st) s.heap.objs.size f cdv)) → sp vs H Q E →
      ∃ t, PSs (cxOf CX P w K mg base N qual (defScope st) f cdv A outer s H E) (defBody st) t ∧ t { nx := fun _ H' => Q .non H', rt := Q } (start N vs) H) : FnG P w K mg base CX (k + 1) f sp := by
  obtain ⟨fd, F⟩ := F
  have bN := F.bindsN hb
  obtain ⟨oc, od, dV, kV, doc, pm, an, cdv, ct, osl, rfl, lk, hcd, _, _⟩ := F.ex
  intro A outer s H us vs Q E hg hr e0 r hsp
  have hl := len _ _ _ _ hsp
  have KX : K.In s.heap := e0.mod.kin.keeps fun b o e => (e0.bs b o e).1
  have lim : s.heap.NoLimit := e0.mod.nolimit.keeps fun b o e => (e0.bs b o e).1
  have hkind : ∀ y ∈ ps.zip us, (defScope st).names.lookup y.1 = some .local ∨ ((defScope st).names.lookup y.1 = some .cell ∧ ((cellsFrom (s.heap.objs.size + 1) (defScope st).names []).lookup y.1).isSome = true) := fun ⟨n, v⟩ hy => by
    rcases S.par n (List.of_mem_zip hy).1 with q | q
    · exact .inl q
    · exact .inr ⟨q, PySem.W.cellsFrom_some _ _ _ (.inl q)⟩
  have hus : us.length = ps.length := r.length.symm.trans hl
  have bt := bN s us KX (by rw [List.append_nil]; exact hus)
  rw [List.append_nil] at bt
  refine codeAny_call_function hr.depth (KX _ _ lk) rfl S.co S.gen rfl (PySem.W.codeRec_of KX hcd) (bt _ _ _ _ ?_)
  refine wpAny_newFunctionEnv_cells S.kind hkind fun env he s1 x => ?_
  subst he
  obtain ⟨t, ht, hq⟩ := hbody cdv A outer s H vs Q E hg (hr.deeper _) hsp
  have I : Inv (cxOf CX P w K mg base N qual (defScope st) f cdv A outer s H E) [] (start N vs) H s1 := inv_start S hr.hd e0 hl r x
  refine ⟨lim.keeps x.toInCall.keep, codeAny_func (wpAny_mono (ht.run [] s1 (start N vs) H _ I hq) (fun fl s' hs => ?_) fun e s' hs => hs)⟩
  have out : ∀ {σ' : L2.St} {H' : Hp} {v : V} {u : Value}, Inv (cxOf CX P w K mg base N qual (defScope st) f cdv A outer s H E) [] σ' H' s' → RelV v u → Q v H' → CE outer P w H s Q u s' :=
    fun J rv q => ⟨_, _, J.os, J.bare, J.base, J.hok, rv, q⟩
  cases fl with
  | ret u =>
    obtain ⟨_, _, _, J, rv, q⟩ := hs
    exact out J rv q
  | next =>
    obtain ⟨_, _, J, q⟩ := hs
    exact out (v := V.non) (u := Value.none) J rfl q
  | brk =>
    obtain ⟨_, _, _, q⟩ := hs
    cases q
  | cont =>
    obtain ⟨_, _, _, q⟩ := hs
    cases q
end
section
variable {X : Cx} {CX : CXT} {k j : Nat} {x : Str} {sp : Sp} {E : XK} {e : Expr} {es : List Expr} {t : TA} {p pos : Pos}
theorem run_fng {pins : List (Addr × Obj)} {σ : L2.St} {H : Hp} {s : Shared} {Q : VK} {us : List Value} {vs : List V} {f : Addr} (F : FnG X.prog X.w X.K X.mg X.base CX k f sp) (hg : X.A.guards = some []) (hr : Room k X.A) (hx : Passes CX X E)
    (I : Inv X pins σ H s) (r : Vals vs us) (h : sp vs H Q E) : wpAny (model X.prog X.w) X.A (call (.ref f) us) (EP X pins σ Q) X.xe s := by
  refine wpAny_call (codeAny_mono (F X.A X.stack s H us vs Q E hg hr I.env0 r h) fun r s' hq => ?_)
  cases r with
  | error e => exact hx pins σ H s e s' I hq
  | ok fl =>
    cases fl with
    | ret w => exact I.after hq
    | next => exact False.elim hq
    | brk => exact False.elim hq
    | cont => exact False.elim hq
theorem pe_dg (F : FnG X.prog X.w X.K X.mg X.base CX k (He.ga X.K x) sp) (kp : PySem.W.keepIn X.K (.ref (He.ga X.K x)) = true) (gm : X.mg x = some (.ref (He.ga X.K x))) (hgu : X.A.guards = some []) (hr : Room j X.A) (hk : k ≤ j) (hx : Passes CX X E) (ha : PA X (e :: es) t) (hg : Gl X x := by rfl)
    (hdb : (x == ("__debug__" : Str)) = false := by decide) (he : starEach (e :: es) X.env = (false, eval e X.env) :: starEach es X.env := by rfl) (hpl : (backTo pos (starEach es X.env)).any (·.1) = false := by rfl) :
    PE X (.Call (.Name x p) (e :: es) [] pos) (tDf sp E t) := by
  refine ⟨fun pins s σ H Q I h => ?_⟩
  refine wpAny_Call_Name_kw (ld_glob I hg gm ?_ hdb)
  refine PySem.W.callWith_K (h₀ := X.base) I.ok.mod.kin kp (thn (ha.run pos pins s σ H _ I h) fun us s1 ⟨vs, H1, I1, r, q⟩ => ⟨I1.kIn, ?_⟩) he hpl
  exact run_fng F hgu (hr.mono hk) hx I1 r q
end
/-! ### the end, for such a def -/
theorem law_callG {P : Program} {w : World} {K : KF} {mg mb : Str → Option Value} {k : Nat} {fa a : Addr} {sp : Sp} {s₁ : Shared} {vs : List Value} {ns : List Int}
    (KX : K.In s₁.heap) (hns : s₁.heap.Ns mainGlobals mg) (hb : s₁.heap.Ns builtinsNs mb) (hbb : ∀ x : Str, x ≠ "__name__" → mb x = bootBuiltins x) (hlim : s₁.heap.NoLimit) (hg : s₁.gens = #[])
    (ha : s₁.heap.get? a = some { cls := .type "list", data := .seq vs.toArray }) (hi : IntsAre vs ns) (hl : ns.length ≤ sizeLine) (hr : Room k callerA)
    (F : ∀ base : Heap, K.In base → base.Ns mainGlobals mg → FnG P w K mg base CX0 k fa sp)
    (hsp : ∀ H : Hp, Only H → SqL K H a (ns.map V.int) → sp [.ref a] H (fun v _ => v = .bl true) E0) :
    codeAny (model P w) callerA (.call (.ref fa) ⟨[.ref a], []⟩) (fun r s' => r = .ok (.ret (.bool true)) ∧ OldK s₁.heap s'.heap ∧ s'.os = s₁.os ∧ AllBare s'.gens) s₁ := by
  have rv := vals_ints hi
  have lenV := hi.length
  have main : ∀ H : Hp, Only H → SqL K H a (ns.map V.int) → HOk P w H s₁.heap → (∀ b, H b ≠ none → b = a) → (H a ≠ none → K.lookup a = none) →
      codeAny (model P w) callerA (.call (.ref fa) ⟨[.ref a], []⟩) (fun r s' => r = .ok (.ret (.bool true)) ∧ OldK s₁.heap s'.heap ∧ s'.os = s₁.os ∧ AllBare s'.gens) s₁ := by
    intro H only seq ok one clear
    have noDict : ∀ {b : Addr} {o : Obj} {es : Array DictEntry} {ep : Nat}, s₁.heap.get? b = some o → o.data = .dict es ep → H b = none := fun {b o es ep} e d => by
      refine Classical.byContradiction fun q => ?_
      obtain rfl : b = a := one b q
      rw [ha] at e
      cases e
      have d' : Data.seq vs.toArray _ = Data.dict es ep := d
      cases d'
    have under : ∀ {b : Addr} {m : Str → Option Value}, s₁.heap.Ns b m → (hidT s₁.heap H).Ns b m := fun ⟨o, es, ep, e, d, r⟩ => ⟨o, es, ep, hidT_get e (noDict e d), d, r⟩
    have kin : K.In (hidT s₁.heap H) := fun b o e => hidT_get (KX b o e) (by
      refine Classical.byContradiction fun q => ?_
      obtain rfl : b = a := one b q
      rw [clear q] at e
      cases e)
    obtain ⟨mc, c1, c2⟩ := hlim
    have mod : Mod K mg (hidT s₁.heap H) := ⟨kin, under hns, ⟨mb, under hb, hbb⟩, ⟨mc, under c1, c2⟩⟩
    have e0 : Env0 P w K mg (hidT s₁.heap H) callerA [] s₁ H := ⟨rfl, mod, fun b o e => of_hidT e, Nat.le_of_eq (hidT_size _ _), trivial, fun b z => absurd z List.not_mem_nil, ok, .of_eq hg⟩
    refine codeAny_mono (F _ kin (under hns) callerA [] s₁ H [.ref a] [.ref a] _ _ rfl hr e0 (.cons rfl .nil) (hsp H only seq)) fun r s' h => ?_
    cases r with
    | error e => exact False.elim h
    | ok fl =>
      cases fl with
      | next => exact False.elim h
      | brk => exact False.elim h
      | cont => exact False.elim h
      | ret u =>
        obtain ⟨v, H', os, bare, un, ok', r', q⟩ := h
        obtain rfl : v = .bl true := q
        obtain rfl : u = Value.bool true := r'
        refine ⟨rfl, OldK.of_keep fun b o e => ?_, os, bare⟩
        cases q : H b with
        | none => exact un.keep b o e q (fun z => absurd z List.not_mem_nil) (by simp)
        | some u =>
          rcases only b with z | ⟨ob, xs, z⟩
          · rw [q] at z; cases z
          · have e1 := (ok b _ z).1
            have e2 := (ok' b _ (un.frzs b ob _ z)).1
            rw [e] at e1
            cases e1
            exact e2
  cases hk : K.lookup a with
  | some o =>
    have e := KX a o hk
    rw [ha] at e
    cases e
    exact main (fun _ => none) (fun _ => .inl rfl) (.inr ⟨_, vs.toArray, _, hk, rfl, rfl, rfl, by rw [List.size_toArray, lenV]; exact hl, by simpa using rv⟩) (fun b u z => by have z' : (none : Option HO) = some u := z; cases z') (fun b z => absurd rfl z) fun z => absurd rfl z
  | none =>
    have self : ∀ {b : Addr} {u : HO}, (if b = a then some (HO.frz { cls := .type "list", data := .seq vs.toArray } (.lst (ns.map V.int))) else none) = some u → b = a ∧ u = HO.frz { cls := .type "list", data := .seq vs.toArray } (.lst (ns.map V.int)) := fun {b u} z => by
      by_cases hb : b = a
      · rw [if_pos hb] at z
        exact ⟨hb, (Option.some.inj z).symm⟩
      · rw [if_neg hb] at z
        cases z
    refine main (fun b => if b = a then some (.frz { cls := .type "list", data := .seq vs.toArray } (.lst (ns.map V.int))) else none) (fun b => ?_) (.inl (.inr ⟨{ cls := .type "list", data := .seq vs.toArray }, if_pos rfl⟩)) (fun b u z => ?_) (fun b z => ?_) fun _ => hk
    · by_cases hb : b = a
      · exact .inr ⟨_, _, if_pos hb⟩
      · exact .inl (if_neg hb)
    · obtain ⟨rfl, rfl⟩ := self z
      exact ⟨ha, by rw [List.length_map]; exact hl, vs, _, rv, ha⟩
    · by_cases hb : b = a
      · exact hb
      · exact absurd (if_neg hb) z
theorem walk_ofG {l : PySem.W.OpenLaw} {n k : Nat} {q : Program} {loose : List Str} {XP : (Str → Option Value) → Heap → Prop} {YP : World → Heap → Prop} {d : DefRec}
    (hn : l.most = some n) (hn2 : n ≤ sizeLine) (hdf : d.params.defaults = []) (hr : Room k callerA)
    (F : ∀ (w : World) (mg : Str → Option Value) (fa : Addr) (h : Heap), YP w h → h.Ns mainGlobals mg → mg d.name = some (.ref fa) →
      ∃ (K : KF) (sp : Sp), K.In h ∧ (∀ (H : Hp) (a : Addr) (ns : List Int), ns.length ≤ n → Only H → SqL K H a (ns.map V.int) → sp [.ref a] H (fun v _ => v = .bl true) E0) ∧
        ∀ base : Heap, K.In base → base.Ns mainGlobals mg → FnG l.prog w K mg base CX0 k fa sp) :
    PySem.W.WalkO q loose XP YP l.row.toRowW d [] (fun f vs => PySem.call f vs) := by
  refine Att.attach_call hn hdf fun w s₀ s₁ mg mb fa o pm cd doc a vs ns G Y ho hd hcd hmg hobj hints hlen hg => ?_
  obtain ⟨K, sp, KX, hsp, hF⟩ := F w mg fa _ Y G.T.g hmg
  exact law_callG KX G.T.g G.T.b G.T.builtins G.T.nolimit hg hobj hints (Nat.le_trans hlen hn2) hr hF fun H hO hS => hsp H a ns hlen hO hS
end Yk
set_option Elab.async false
set_option linter.all false
set_option maxRecDepth 100000
set_option maxHeartbeats 4000000
/-! words: for in a generator's body -/
namespace Yk
open PySem PySem.Spec PyProof.Rows L2 GenW
section
variable {M : Model} {A : Around} {R : GenEnd} {Y : Protocol} {n : Nat} {s₀ : Shared} {c : Code} {fs : List Frame} {s : Shared} {env : Env}
  {K : Flow → Sem PySem.Fin} {J : Value → Sem PySem.Fin} {gd : Bool → Bool} {lv : List Value → List Value}
abbrev backK (env : Env) (K : Flow → Sem PySem.Fin) (J : Value → Sem PySem.Fin) (gd : Bool → Bool) (lv : List Value → List Value) : Result → Sem PySem.Fin :=
  fun r => ((match r with | .ok f => (.pure f : Sem Flow) | .error e => .raise e).onRaise (cameBack env)).wrap K J gd lv
theorem seg_For {target iter : Expr} {body orelse : List Stmt} {pos : Pos}
    (h : wpAny M (A.over c fs) (eval iter env) (fun x s₁ => wpAny M (A.over c fs) (pyIter x) (fun it s₂ => ∀ p, Seg M A R Y n s₀ (.forLoop target it body orelse env) (M.den (.forLoop target it body orelse env))
      (.ret (backK env K J gd lv) none (gd false) (lv []) c p [] :: fs) s₂) (fun x s' => Seg M A R Y n s₀ c (J x) fs s') s₁) (fun x s' => Seg M A R Y n s₀ c (J x) fs s') s)
    (hs : ∀ x, foldedSetIterable iter env x = pure x) : Seg M A R Y n s₀ c ((exec (.For target iter body orelse pos) env).wrap K J gd lv) fs s := by
  rw [exec_For]
  show Seg M A R Y n s₀ c (.at pos fun _ => ((eval iter env >>= fun v => (foldedSetIterable iter env v >>= fun x => (standAt iter.pos >>= fun _ => (holding [x] (pyIter x) >>= fun it => runOwn (.forLoop target it body orelse env) env))))).wrap K J gd lv) fs s
  refine seg_at ?_
  rw [Sem.bind_eq_wrap', Sem.wrap_wrap]
  refine seg_wrap (wpAny_mono h (fun v s' h' => ?_) fun _ _ x => x)
  rw [hs]
  show Seg M A R Y n s₀ c (.at iter.pos fun _ => ((holding [v] (pyIter v) >>= fun it => runOwn (.forLoop target it body orelse env) env)).wrap K J gd lv) fs s'
  refine seg_at ?_
  rw [Sem.bind_eq_wrap', Sem.wrap_wrap]
  refine seg_wrap (wpAny_holding (wpAny_mono h' (fun it s2 h2 => ?_) fun _ _ x => x))
  exact seg_call h2
end
section
variable {prog : Program} {w : World} {A : Around} {R : GenEnd} {Y : Protocol} {n : Nat} {s₀ : Shared} {fs : List Frame} {s : Shared} {env : Env}
theorem seg_forLoop {target : Expr} {it : Value} {body : List Stmt} {EE : Value → Shared → Prop}
    (hE : ∀ x s', EE x s' → Seg (model prog w) A R Y n s₀ (.forLoop target it body [] env) ((do noteFrame x env; theTreesLotGoes x : Sem Unit).wrap (fun _ => .raise x) .raise id id) fs s')
    (h : wpAny (model prog w) (A.over (.forLoop target it body [] env) fs) (pyNext it) (fun r s1 => match r with
        | none => Seg (model prog w) A R Y n s₀ (.block [] env) (.pure (.done .next)) fs s1
        | some v => wpAny (model prog w) (A.over (.forLoop target it body [] env) fs) (letOwnedTupleGo target it v) (fun _ s2 =>
            wpAny (model prog w) (A.over (.forLoop target it body [] env) fs) (assign target env v) (fun _ s3 =>
              Seg (model prog w) A R Y n s₀ (.forLoop target it body [] env) ((execs body env).wrap (fun f => match f with
                | .next | .cont => .pure (.again (.forLoop target it body [] env))
                | .brk => .pure (.done .next)
                | .ret v => .pure (.done (.ret v))) (fun e => (do noteFrame e env; theTreesLotGoes e : Sem Unit).wrap (fun _ => .raise e) .raise id id) id id) fs s3) EE s2) EE s1) EE s) :
    Seg (model prog w) A R Y n s₀ (.forLoop target it body [] env) ((model prog w).den (.forLoop target it body [] env)) fs s := by
  show Seg _ A R Y n s₀ _ ((forTurn target it body [] env).onRaise (fun x => do noteFrame x env; theTreesLotGoes x)) fs s
  have hE' : ∀ x s', EE x s' → Seg (model prog w) A R Y n s₀ (.forLoop target it body [] env) (((do noteFrame x env; theTreesLotGoes x : Sem Unit)).bind fun _ => .raise x) fs s' := fun x s' hx => by
    rw [Sem.bind_eq_wrap]
    exact hE x s' hx
  unfold forTurn
  rw [Sem.onRaise_eq_wrap, Sem.bind_eq_wrap', Sem.wrap_wrap]
  refine seg_wrap (wpAny_standAt ?_)
  rw [Sem.bind_eq_wrap', Sem.wrap_wrap]
  refine seg_wrap (wpAny_onRaise (wpAny_mono h (fun r s1 h1 => ?_) fun x s' hx => wpAny_standAt (hE' x s' hx)))
  cases r with
  | none => exact seg_again (c' := .block [] env) rfl h1
  | some v =>
    show Seg _ A R Y n s₀ _ (Sem.wrap _ _ _ _ (letOwnedTupleGo target it v >>= fun _ => assign target env v >>= fun _ => execs body env >>= _)) fs s1
    rw [Sem.bind_eq_wrap', Sem.wrap_wrap]
    refine seg_wrap (wpAny_mono h1 (fun _ s2 h2 => ?_) fun x s' hx => hE' x s' hx)
    rw [Sem.bind_eq_wrap', Sem.wrap_wrap]
    refine seg_wrap (wpAny_mono h2 (fun _ s3 h3 => ?_) fun x s' hx => hE' x s' hx)
    rw [Sem.bind_eq_wrap', Sem.wrap_wrap]
    rw [Sem.wrap_congr (execs body env) _ _ (K' := fun f => match f with
            | .next | .cont => .pure (.again (.forLoop target it body [] env))
            | .brk => .pure (.done .next)
            | .ret v => .pure (.done (.ret v))) (H' := (fun e => (do noteFrame e env; theTreesLotGoes e : Sem Unit).wrap (fun _ => .raise e) .raise id id))
        (fun f => by cases f <;> rfl)
        (fun e => by first | exact Sem.bind_eq_wrap _ _ | (show (do noteFrame e env; theTreesLotGoes e : Sem Unit).bind (fun _ => .raise e) = _; rw [Sem.bind_eq_wrap]))]
    exact h3
end
/-- for, in a generator's body -/
def tGFor (wi : TI) (g : TG) (tb : TGn) : TGn := fun D ys σ H => wi σ H fun J H1 => ∃ W : Nat → Nat → List V → L2.St → Hp → Prop, (∃ m, W 0 m ys σ H1) ∧ ∀ i m ys σ H, W i m ys σ H →
  (J.stop i H ∧ D.nx ys σ H) ∨ (J.go i H ∧ ∃ N : List V → L2.St → Hp → Prop, (∀ ys' σ' H', N ys' σ' H' → ∃ m', m' < m ∧ W (i + 1) m' ys' σ' H') ∧ ∀ x H', J.yld i H x H' → g x σ H' fun σ2 H2 => tb { D with nx := N, ct := N, bk := D.nx } ys σ2 H2)
theorem gi_less {X : Cx} {S : Addr} {ip pl : List (Addr × Obj)} {ys : List V} {σ : L2.St} {H : Hp} {s : Shared} (h : GI X S (ip ++ pl) ys σ H s) : GI X S ip ys σ H s := by
  obtain ⟨acc, c, r, I⟩ := h
  exact ⟨acc, c, r, Inv.unpinned (pins := (S, lstObj acc c) :: ip) (pl := pl) I⟩
theorem gs_for {X : Cx} {tg iter : Expr} {body : List Stmt} {wi : TI} {g : TG} {tb : TGn} {pos : Pos} (hp : PassesOwn (model X.prog X.w) X.A X.env X.xe) (hc : X.calm = true) (hi : PI X tg iter wi) (hg : PG X tg g) (hb : GSs X body tb)
    (hs : ∀ x, foldedSetIterable iter X.env x = pure x := by intro _; rfl) : GS X (.For tg iter body [] pos) (tGFor wi g tb) := by
  refine ⟨fun A S ip R n ys s₀ c fs K J gd lv s σ H D gc hn k hI ht => ?_⟩
  obtain ⟨acc0, c0, r0, I0⟩ := hI
  refine seg_For ?_ hs
  rw [gc.over]
  refine wpAny_mono (hi.run _ s σ H _ I0 ht) (fun v s1 h1 => wpAny_mono h1 (fun itv s2 h2 p => ?_) fun x s' hx => k.exc n s₀ x s' hx) fun x s' hx => k.exc n s₀ x s' hx
  obtain ⟨it, fp, tn, Jt, H2, e, I2, T, st2, f2, W, ⟨m0, w0⟩, turn⟩ := h2
  subst e
  have hS : ∀ b ∈ fp, S ≠ b := fun b hb => (f2 b hb).2.2.2.2.2 (S, lstObj acc0 c0) (List.mem_append_right _ List.mem_cons_self)
  have stat : ∀ {H' : Hp} {acc : Array Value} {c : Nat}, (∀ b ∈ fp, H' b = none) → ∀ b ∈ fp, FpOk X ((S, lstObj acc c) :: ip) H' b := fun {H' acc c} hn b hb => by
    obtain ⟨_, a1, a2, a3, a4, a5⟩ := f2 b hb
    refine ⟨hn b hb, a1, a2, a3, a4, fun p hp => ?_⟩
    rcases List.mem_append.mp hp with z | z
    · exact a5 p (List.mem_append_left _ z)
    · rcases List.mem_cons.mp z with z | z
      · rw [z]; exact hS b hb
      · exact a5 p (List.mem_append_right _ (List.mem_cons_of_mem _ z))
  have gl := fun (kk : Result → Sem PySem.Fin) => gc_loop (k := kk) (c' := .forLoop tg (.ref it) body [] X.env) (l := lv []) (kp := []) (p := p) gc rfl rfl
  have loop : ∀ (m i n : Nat) (ys : List V) (s₀ s : Shared) (σ : L2.St) (H : Hp), n + ys.length = sizeLine → W i m ys σ H → GI X S ip ys σ H s → tn i s.heap → (∀ b ∈ fp, H b = none) →
      Seg (model X.prog X.w) A R (GY X S) n s₀ (.forLoop tg (.ref it) body [] X.env) ((model X.prog X.w).den (.forLoop tg (.ref it) body [] X.env))
        (.ret (backK X.env K J gd lv) none (gd false) (lv []) c p [] :: fs) s := by
    intro m
    induction m using Nat.strongRecOn with
    | ind m ih =>
      intro i n ys s₀ s σ H hn w hI st fr
      have ee : ∀ (n : Nat) (s₀ : Shared) (x : Value) (s' : Shared), X.xe x s' → Seg (model X.prog X.w) A R (GY X S) n s₀ (.forLoop tg (.ref it) body [] X.env)
          ((do noteFrame x X.env; theTreesLotGoes x : Sem Unit).wrap (fun _ => .raise x) .raise id id)
          (.ret (backK X.env K J gd lv) none (gd false) (lv []) c p [] :: fs) s' := fun n s₀ x s' hx => by
        refine seg_wrap ?_
        rw [(gl _).over]
        refine wpAny_bind (wpAny_mono (hp x s' hx) (fun _ s'' hcb => wpAny_theTreesLotGoes ?_) fun y s'' hcb => ?_)
        · exact seg_leaf (.error x) (seg_cameBack gc k hcb)
        · exact seg_leaf (.error y) (seg_cameBack gc k hcb)
      obtain ⟨acc, cc, r, I⟩ := hI
      refine seg_forLoop (EE := X.xe) (fun x s' hx => ee n s₀ x s' hx) ?_
      rw [(gl _).over]
      rcases turn i m ys σ H w with ⟨stop, qn⟩ | ⟨go, N, hN, step⟩
      · refine wpAny_mono (T.done X rfl rfl rfl hc i _ s σ H X.xe I (stat fr) st stop) (fun r' s4 h4 => ?_) fun _ _ x => x
        obtain ⟨hr, I4⟩ := h4
        subst hr
        exact seg_leaf (.ok .next) (k.ok n ys s₀ s4 .next hn ⟨σ, H, ⟨acc, cc, r, I4⟩, qn⟩)
      · refine wpAny_mono (T.item X rfl rfl rfl hc i _ s σ H X.xe I (stat fr) st go) (fun r' s4 h4 => ?_) fun _ _ x => x
        obtain ⟨u, hr, h4⟩ := h4
        subst hr
        refine wpAny_mono h4 (fun _ s5 h5 => ?_) fun _ _ x => x
        obtain ⟨x, H5, I5, r5, y5, st5, fr5⟩ := h5
        have I5' : Inv X ((S, lstObj acc cc) :: (ip ++ pinsAt fp s5.heap)) σ H5 s5 := I5.pinned (stat fr5) (T.obj _ _ st5)
        refine wpAny_mono (hg.run _ s5 σ H5 x u _ I5' r5 (step x H5 y5)) (fun _ s6 h6 => ?_) fun _ _ x => x
        obtain ⟨σ6, H6, I6, q6⟩ := h6
        have gb := gl (backK X.env K J gd lv)
        have gb' : GC X S (ip ++ pinsAt fp s5.heap) A (.forLoop tg (.ref it) body [] X.env) (.ret (backK X.env K J gd lv) none (gd false) (lv []) c p [] :: fs) id :=
          ⟨gb.pn, fun p hp => (List.mem_append.mp hp).elim (gb.ip p) fun z => fun e => hS _ (of_pinsAt z).1 e.symm, gb.apart, gb.over, gb.split, gb.guard, gb.gd⟩
        have again : ∀ {n' : Nat} {ys' : List V} {s₀' s7 : Shared} {σ7 : L2.St} {H7 : Hp}, n' + ys'.length = sizeLine → GI X S (ip ++ pinsAt fp s5.heap) ys' σ7 H7 s7 → N ys' σ7 H7 →
            Seg (model X.prog X.w) A R (GY X S) n' s₀' (.forLoop tg (.ref it) body [] X.env) (.pure (.again (.forLoop tg (.ref it) body [] X.env))) (.ret (backK X.env K J gd lv) none (gd false) (lv []) c p [] :: fs) s7 := fun {n' ys' s₀' s7 σ7 H7} hn' I7 n7 => by
          obtain ⟨m', hm, w7⟩ := hN ys' σ7 H7 n7
          have I7' := gi_less I7
          obtain ⟨acc7, c7, r7, I7⟩ := I7
          refine seg_again rfl (ih m' hm (i + 1) n' ys' s₀' s7 σ7 H7 hn' w7 I7' (T.keep _ _ _ st5 fun b hb o e => (I7.pin (b, o) (List.mem_append_right _ (List.mem_cons_of_mem _ (List.mem_append_right _ (mem_pinsAt hb e))))).1) fun b hb => ?_)
          obtain ⟨o, e, d⟩ := T.obj _ _ st5 b hb
          exact (I7.pin (b, o) (List.mem_append_right _ (List.mem_cons_of_mem _ (List.mem_append_right _ (mem_pinsAt hb e))))).2.1
        refine hb.run A S (ip ++ pinsAt fp s5.heap) R n ys s₀ _ _ _ _ id id s6 σ6 H6 { D with nx := N, ct := N, bk := D.nx } gb' hn ⟨fun n' ys' s₀' s7 f hn' hs => ?_, fun n' s₀' x s7 hx => ee n' s₀' x s7 hx⟩ ⟨acc, cc, r, I6⟩ q6
        cases f with
        | next =>
          obtain ⟨σ7, H7, I7, n7⟩ := hs
          exact again hn' I7 n7
        | cont =>
          obtain ⟨σ7, H7, I7, n7⟩ := hs
          exact again hn' I7 n7
        | brk =>
          obtain ⟨σ7, H7, I7, q7⟩ := hs
          exact seg_leaf (.ok .next) (k.ok n' ys' s₀' s7 .next hn' ⟨σ7, H7, gi_less I7, q7⟩)
        | ret v =>
          obtain ⟨x7, σ7, H7, I7, rr, q7⟩ := hs
          exact seg_leaf (.ok (.ret v)) (k.ok n' ys' s₀' s7 (.ret v) hn' ⟨x7, σ7, H7, gi_less I7, rr, q7⟩)
  exact loop m0 0 n ys s₀ s2 σ H2 hn w0 ⟨acc0, c0, r0, I2⟩ st2 fun b hb => (f2 b hb).1
end Yk
set_option Elab.async false
set_option linter.all false
set_option maxRecDepth 100000
set_option maxHeartbeats 4000000
/-! words: x += e by an own __iadd__ -/
namespace Yk
open PySem PySem.Spec PyProof.Rows L2
section
variable {X : Cx} {CX : CXT} {n : Nat} {C : Addr} {sp : Sp} {E : XK}
def ipO (C : Addr) (sp : Sp) (E : XK) : TIp := fun x y H Q => ∃ a dx fs, x = .ref a ∧ H a = some (.ins C dx fs) ∧ sp [.ref a, y] H (fun v H' => (∃ b, v = .ref b) ∧ Q v H') E
theorem ip_own (M : Mf X.prog X.w X.K X.mg X.base CX n C "__iadd__" sp) (sf : PySem.W.selfFirst X.K C = true) (hr : Room n X.A) (hx : Passes CX X E) : PIp X .Add (ipO C sp E) := by
  intro pins s σ H x y v u Q I rx ry h
  obtain ⟨a, dx, fs, rfl, ha, q⟩ := h
  obtain rfl : v = Value.ref a := rx
  obtain ⟨mA, O, _⟩ := ins_get I.hok ha
  obtain ⟨od, J, _⟩ := O.look
  obtain ⟨m, hF⟩ := I.fr
  have hs : PySem.W.findIn X.K (.ref C) (dunderI (Operator.Add).info.2) = some (some (.ref (He.ma X.K C "__iadd__"))) := by
    rw [show dunderI (Operator.Add).info.2 = ("__iadd__" : Str) by decide +kernel]
    exact M.me.at_
  refine PySem.W.ksp_inplace hF I.ok.mod.kin J sf hs M.me.fn (thn (run_below M.fn (A := X.A) ⟨hr, rfl⟩ hx I (vs := [.ref a, y]) (us := [.ref a, u]) (.cons rfl (.cons ry .nil)) q) fun z s' d => ?_)
  obtain ⟨v, H', I', rv, ⟨b, e⟩, q'⟩ := d
  subst e
  cases rv
  exact ⟨.ref b, H', I', rfl, q'⟩
end
end Yk
set_option Elab.async false
set_option linter.all false
set_option maxRecDepth 100000
set_option maxHeartbeats 4000000
/-! data: pages, odd values; the program's small defs -/
namespace Yk
open PySem PySem.Spec PyProof.Rows L2
/-! ### the parts of a tuple that a list of whole numbers makes -/
abbrev ivs (xs : List Int) : List V := xs.map V.int
/-- a value whose type is known -/
inductive TyV (H : Hp) : V → Prop where
  | non : TyV H .non
  | bl (b : Bool) : TyV H (.bl b)
  | int (i : Int) : TyV H (.int i)
  | str (x : Str) : TyV H (.str x)
  | tup {a : Addr} {xs : List V} (e : H a = some (.tup xs)) : TyV H (.ref a)
  | lst {a : Addr} {xs : List V} (e : H a = some (.lst xs)) : TyV H (.ref a)
  | dct {a : Addr} {xs : List (Key × V)} (e : H a = some (.dK xs)) : TyV H (.ref a)
theorem TyV.st {M : List Addr} {H H' : Hp} {v : V} (h : TyV H v) (s : St' M H H') : TyV H' v := by
  cases h with
  | non => exact .non
  | bl b => exact .bl b
  | int i => exact .int i
  | str x => exact .str x
  | tup e => exact .tup (s.tp _ _ e)
  | lst e => exact (s.ll _ _ e).elim fun _ z => .lst z
  | dct e => exact (s.dd _ _ e).elim fun _ z => .dct z
def isI : V → Bool
  | .int _ => true
  | .bl _ => true
  | _ => false
def isB : V → Bool
  | .bl _ => true
  | _ => false
def isTp (H : Hp) : V → Bool
  | .ref a => (match H a with
    | some (.tup _) => true
    | _ => false)
  | _ => false
def isLs (H : Hp) : V → Bool
  | .ref a => (match H a with
    | some (.lst _) => true
    | _ => false)
  | _ => false
theorem isTp_t {H : Hp} {a : Addr} {xs : List V} (e : H a = some (.tup xs)) : isTp H (.ref a) = true := by
  show (match H a with | some (.tup _) => true | _ => false) = true
  rw [e]
theorem isTp_fL {H : Hp} {a : Addr} {xs : List V} (e : H a = some (.lst xs)) : isTp H (.ref a) = false := by
  show (match H a with | some (.tup _) => true | _ => false) = false
  rw [e]
theorem isTp_fD {H : Hp} {a : Addr} {xs : List (Key × V)} (e : H a = some (.dK xs)) : isTp H (.ref a) = false := by
  show (match H a with | some (.tup _) => true | _ => false) = false
  rw [e]
theorem isLs_t {H : Hp} {a : Addr} {xs : List V} (e : H a = some (.lst xs)) : isLs H (.ref a) = true := by
  show (match H a with | some (.lst _) => true | _ => false) = true
  rw [e]
theorem isLs_fT {H : Hp} {a : Addr} {xs : List V} (e : H a = some (.tup xs)) : isLs H (.ref a) = false := by
  show (match H a with | some (.lst _) => true | _ => false) = false
  rw [e]
theorem isLs_fD {H : Hp} {a : Addr} {xs : List (Key × V)} (e : H a = some (.dK xs)) : isLs H (.ref a) = false := by
  show (match H a with | some (.lst _) => true | _ => false) = false
  rw [e]
/-- a whole number, no truth value, from lo to hi -/
def inR (v : V) (lo hi : Int) : Bool := match v with
  | .int i => decide (lo ≤ i) && decide (i ≤ hi)
  | _ => false
section
variable {K : KF} {H : Hp} {v : V} {Q : VK}
theorem isi_int (h : TyV H v) (q : Q (.bl (isI v)) H) : rIsi K [v, .ty "int"] H Q := by
  cases h with
  | non => exact ⟨_, _, _, _, false, rfl, .ty "int", .base .non, kit_ty (by decide +kernel), q⟩
  | bl b => exact ⟨_, _, _, _, true, rfl, .ty "int", .base (.bl b), kit_ty (by decide +kernel), q⟩
  | int i => exact ⟨_, _, _, _, true, rfl, .ty "int", .base (.int i), kit_ty (by decide +kernel), q⟩
  | str x => exact ⟨_, _, _, _, false, rfl, .ty "int", .base (.str x), kit_ty (by decide +kernel), q⟩
  | tup e => exact ⟨_, _, _, _, false, rfl, .ty "int", .base (.tup e), kit_ty (by decide +kernel), q⟩
  | lst e => exact ⟨_, _, _, _, false, rfl, .ty "int", .base (.lst e), kit_ty (by decide +kernel), q⟩
  | dct e => exact ⟨_, _, _, _, false, rfl, .ty "int", .base (.dK e), kit_ty (by decide +kernel), q⟩
theorem isi_bool (h : TyV H v) (q : Q (.bl (isB v)) H) : rIsi K [v, .ty "bool"] H Q := by
  cases h with
  | non => exact ⟨_, _, _, _, false, rfl, .ty "bool", .base .non, kit_ty (by decide +kernel), q⟩
  | bl b => exact ⟨_, _, _, _, true, rfl, .ty "bool", .base (.bl b), kit_ty (by decide +kernel), q⟩
  | int i => exact ⟨_, _, _, _, false, rfl, .ty "bool", .base (.int i), kit_ty (by decide +kernel), q⟩
  | str x => exact ⟨_, _, _, _, false, rfl, .ty "bool", .base (.str x), kit_ty (by decide +kernel), q⟩
  | tup e => exact ⟨_, _, _, _, false, rfl, .ty "bool", .base (.tup e), kit_ty (by decide +kernel), q⟩
  | lst e => exact ⟨_, _, _, _, false, rfl, .ty "bool", .base (.lst e), kit_ty (by decide +kernel), q⟩
  | dct e => exact ⟨_, _, _, _, false, rfl, .ty "bool", .base (.dK e), kit_ty (by decide +kernel), q⟩
theorem isi_tup (h : TyV H v) (q : Q (.bl (isTp H v)) H) : rIsi K [v, .ty "tuple"] H Q := by
  cases h with
  | non => exact ⟨_, _, _, _, false, rfl, .ty "tuple", .base .non, kit_ty (by decide +kernel), q⟩
  | bl b => exact ⟨_, _, _, _, false, rfl, .ty "tuple", .base (.bl b), kit_ty (by decide +kernel), q⟩
  | int i => exact ⟨_, _, _, _, false, rfl, .ty "tuple", .base (.int i), kit_ty (by decide +kernel), q⟩
  | str x => exact ⟨_, _, _, _, false, rfl, .ty "tuple", .base (.str x), kit_ty (by decide +kernel), q⟩
  | tup e =>
    rw [isTp_t e] at q
    exact ⟨_, _, _, _, true, rfl, .ty "tuple", .base (.tup e), kit_ty (by decide +kernel), q⟩
  | lst e =>
    rw [isTp_fL e] at q
    exact ⟨_, _, _, _, false, rfl, .ty "tuple", .base (.lst e), kit_ty (by decide +kernel), q⟩
  | dct e =>
    rw [isTp_fD e] at q
    exact ⟨_, _, _, _, false, rfl, .ty "tuple", .base (.dK e), kit_ty (by decide +kernel), q⟩
theorem isi_list (h : TyV H v) (q : Q (.bl (isLs H v)) H) : rIsi K [v, .ty "list"] H Q := by
  cases h with
  | non => exact ⟨_, _, _, _, false, rfl, .ty "list", .base .non, kit_ty (by decide +kernel), q⟩
  | bl b => exact ⟨_, _, _, _, false, rfl, .ty "list", .base (.bl b), kit_ty (by decide +kernel), q⟩
  | int i => exact ⟨_, _, _, _, false, rfl, .ty "list", .base (.int i), kit_ty (by decide +kernel), q⟩
  | str x => exact ⟨_, _, _, _, false, rfl, .ty "list", .base (.str x), kit_ty (by decide +kernel), q⟩
  | tup e =>
    rw [isLs_fT e] at q
    exact ⟨_, _, _, _, false, rfl, .ty "list", .base (.tup e), kit_ty (by decide +kernel), q⟩
  | lst e =>
    rw [isLs_t e] at q
    exact ⟨_, _, _, _, true, rfl, .ty "list", .base (.lst e), kit_ty (by decide +kernel), q⟩
  | dct e =>
    rw [isLs_fD e] at q
    exact ⟨_, _, _, _, false, rfl, .ty "list", .base (.dK e), kit_ty (by decide +kernel), q⟩
end
theorem pe_gk {X : Cx} {x : Str} {v : V} {pos : Pos} (h : ∃ u, X.mg x = some u ∧ RelV v u) (hg : Gl X x := by rfl) (hd : (x == ("__debug__" : Str)) = false := by decide) : PE X (.Name x pos) (tC v) :=
  h.elim fun _ z => pe_glob hg z.1 z.2 hd
theorem ivs_get {xs : List Int} {i : Nat} {x : V} (h : (ivs xs)[i]? = some x) : ∃ z, xs[i]? = some z ∧ x = .int z := by
  rw [List.getElem?_map] at h
  cases e : xs[i]? with
  | none => rw [e] at h; cases h
  | some z => rw [e] at h; exact ⟨z, rfl, (Option.some.inj h).symm⟩
theorem inR_true {i lo hi : Int} (h1 : lo ≤ i) (h2 : i ≤ hi) : inR (.int i) lo hi = true := by
  unfold inR
  simp [h1, h2]
theorem inR_iff {v : V} {lo hi : Int} : inR v lo hi = true ↔ ∃ i, v = .int i ∧ lo ≤ i ∧ i ≤ hi := by
  constructor
  · intro h
    cases v with
    | int i =>
      unfold inR at h
      simp at h
      exact ⟨i, rfl, h⟩
    | _ => cases h
  · rintro ⟨i, rfl, h1, h2⟩
    exact inR_true h1 h2
/-! ### is_integer -/
def spIsInt : Sp := fun vs H Q _ => ∃ (v : V) (lo hi : Int), vs = [v, .int lo, .int hi] ∧ TyV H v ∧ Q (.bl (inR v lo hi)) H
section
variable {w : World} {K : KF} {mg : Str → Option Value} {base : Heap}
theorem sc_is_integer : FnScope ["value", "low", "high"] ["value", "low", "high"] (defScope s_is_integer) := ⟨rfl, rfl, rfl, by decide +kernel, rfl, by decide +kernel, by decide +kernel⟩
theorem ok_is_integer (T : Tx w K mg) : Df R.prog w K mg base CX0 1 "is_integer" spIsInt := by
  refine df_of T.d_is_integer T.g_is_integer sc_is_integer (fun _ _ _ _ _ _ us hl => match us, hl with | [_, _, _], _ => rfl)
    (fun vs H Q E h => by repeat (first | (obtain ⟨rfl, _⟩ := h; rfl) | (obtain ⟨_, h⟩ := h))) (fun cdv A outer s H vs Q E hr h => ?_)
  have nd := sc_is_integer.nd
  refine ⟨_, (pss_one (ps_ret (pe_and (pe_callB call_isi rfl T.n_isinstance (by decide +kernel) (pa_cons (pv 0) (pa_cons (pe_bltn (v := .ty "int") rfl T.n_int (by decide +kernel) rfl) pa_nil))) (pe_and (pe_not (pe_callB call_isi rfl T.n_isinstance (by decide +kernel) (pa_cons (pv 0) (pa_cons (pe_bltn (v := .ty "bool") rfl T.n_bool (by decide +kernel) rfl) pa_nil)))) (pe_one (pe_chain op_le op_le (pv 1) (pv 0) (pv 2))))))), ?_⟩
  obtain ⟨v, lo, hi, rfl, ty, q⟩ := h
  simp only [tRet, tAndV, tOrV, tNotV, tCB, tCons, tNil, tC, tVar, tChain, rI0, tIfS, tTest, tOp, tUn, rU, rI, tPar3, tBM, tBM0, tM1, gSub, tXm, tCon, tProp, tMethR, rEq, rNe, rIxT, rIxL, decide_true, decide_false, tAnd, tOr, tNot, tB, tSeq, tAsg, gName, tDrop, tNext, tTup, tLst, tIf, tDf, tFld, tMf0, tPart, tSl, tNoPart, tPar, gTup, gLst, gCons, gNil, L2.start, List.map_cons, List.map_nil, List.length_cons, List.length_nil, Nat.zero_add, Nat.sub_self, Nat.reduceAdd, Nat.reduceSub, List.replicate_zero, List.replicate_succ, List.append_nil, List.nil_append, List.cons_append, List.getElem?_cons_zero, List.getElem?_cons_succ, List.set_cons_zero, List.set_cons_succ, Option.some.injEq, exists_and_left, exists_eq_left', exists_eq_left, V.int.injEq, V.bl.injEq, V.str.injEq, V.ref.injEq, List.cons.injEq, and_true, true_and, if_true, if_false, Bool.false_eq_true, reduceCtorEq, Bool.not_true, Bool.not_false, cxOf]
  refine isi_int ty ?_
  cases ty with
  | int i =>
    simp only [isI, tRet, tAndV, tOrV, tNotV, tCB, tCons, tNil, tC, tVar, tChain, rI0, tIfS, tTest, tOp, tUn, rU, rI, tPar3, tBM, tBM0, tM1, gSub, tXm, tCon, tProp, tMethR, rEq, rNe, rIxT, rIxL, decide_true, decide_false, tAnd, tOr, tNot, tB, tSeq, tAsg, gName, tDrop, tNext, tTup, tLst, tIf, tDf, tFld, tMf0, tPart, tSl, tNoPart, tPar, gTup, gLst, gCons, gNil, L2.start, List.map_cons, List.map_nil, List.length_cons, List.length_nil, Nat.zero_add, Nat.sub_self, Nat.reduceAdd, Nat.reduceSub, List.replicate_zero, List.replicate_succ, List.append_nil, List.nil_append, List.cons_append, List.getElem?_cons_zero, List.getElem?_cons_succ, List.set_cons_zero, List.set_cons_succ, Option.some.injEq, exists_and_left, exists_eq_left', exists_eq_left, V.int.injEq, V.bl.injEq, V.str.injEq, V.ref.injEq, List.cons.injEq, and_true, true_and, if_true, if_false, Bool.false_eq_true, reduceCtorEq, Bool.not_true, Bool.not_false, cxOf]
    refine isi_bool (.int i) ?_
    simp only [isB, tRet, tAndV, tOrV, tNotV, tCB, tCons, tNil, tC, tVar, tChain, rI0, tIfS, tTest, tOp, tUn, rU, rI, tPar3, tBM, tBM0, tM1, gSub, tXm, tCon, tProp, tMethR, rEq, rNe, rIxT, rIxL, decide_true, decide_false, tAnd, tOr, tNot, tB, tSeq, tAsg, gName, tDrop, tNext, tTup, tLst, tIf, tDf, tFld, tMf0, tPart, tSl, tNoPart, tPar, gTup, gLst, gCons, gNil, L2.start, List.map_cons, List.map_nil, List.length_cons, List.length_nil, Nat.zero_add, Nat.sub_self, Nat.reduceAdd, Nat.reduceSub, List.replicate_zero, List.replicate_succ, List.append_nil, List.nil_append, List.cons_append, List.getElem?_cons_zero, List.getElem?_cons_succ, List.set_cons_zero, List.set_cons_succ, Option.some.injEq, exists_and_left, exists_eq_left', exists_eq_left, V.int.injEq, V.bl.injEq, V.str.injEq, V.ref.injEq, List.cons.injEq, and_true, true_and, if_true, if_false, Bool.false_eq_true, reduceCtorEq, Bool.not_true, Bool.not_false, cxOf]
    unfold inR at q
    dsimp only at q
    by_cases c : lo ≤ i
    · rw [if_pos (decide_eq_true c)]
      rw [decide_eq_true c] at q
      simpa using q
    · rw [if_neg (by simpa using c)]
      rw [decide_eq_false c] at q
      simpa using q
  | bl b =>
    simp only [isI, V.bl.injEq, exists_eq_left', if_true]
    refine isi_bool (.bl b) ?_
    simp only [isB, V.bl.injEq, exists_eq_left', Bool.not_true, if_false, Bool.false_eq_true]
    exact q
  | _ =>
    simp only [isI, V.bl.injEq, exists_eq_left', if_false, Bool.false_eq_true]
    exact q
theorem sc_sides_error : FnScope ["value", "axis", "side"] ["value"] (defScope s_sides_error) := ⟨rfl, rfl, rfl, by decide +kernel, rfl, by decide +kernel, by decide +kernel⟩
def spOkT : Sp := fun vs H Q _ => ∃ (a : Addr) (xs : List Int), vs = [.ref a] ∧ H a = some (.tup (ivs xs)) ∧ 1 ≤ xs.length ∧ xs.length ≤ 4 ∧ (∀ x ∈ xs, 1 ≤ x ∧ x ≤ 1000000000000) ∧ ∀ H', St' [] H H' → Q .non H'
theorem ok_sides_error (T : Tx w K mg) (D_is_integer : Df R.prog w K mg base CX0 1 "is_integer" spIsInt) : Df R.prog w K mg base CX0 2 "sides_error" spOkT := by
  refine df_of T.d_sides_error T.g_sides_error sc_sides_error (fun _ _ _ _ _ _ us hl => match us, hl with | [_], _ => rfl)
    (fun vs H Q E h => by repeat (first | (obtain ⟨rfl, _⟩ := h; rfl) | (obtain ⟨_, h⟩ := h))) (fun cdv A outer s H vs Q E hr h => ?_)
  have nd := sc_sides_error.nd
  refine ⟨_, (pss_cons (ps_if (PW.pt (pw_or (pt_not (pt_val (pe_callB call_isi rfl T.n_isinstance (by decide +kernel) (pa_cons (pv 0) (pa_cons (pe_bltn (v := .ty "tuple") rfl T.n_tuple (by decide +kernel) rfl) pa_nil))))) (pw_or1 (pt_not (pt_chain op_le op_le pe_int (pe_callB call_len_seq rfl T.n_len PySem.boot_len (pa_cons (pv 0) pa_nil)) (pe_gk T.c_MAX_DIMS)))))) (pss_one (ps_ret (pe_tup (pa_cons pe_non (pa_cons pe_str pa_nil))))) pss_nil)
          (pss_cons (ps_for (passes_of rfl) rfl (pi_enumT T.n_enumerate (pa_cons (pv 0) pa_nil)) (pg_tup rfl (pgs_cons (pg_name (i := 1) nd rfl (by first | exact Or.inl rfl | exact Or.inr rfl)) (pgs_cons (pg_name (i := 2) nd rfl (by first | exact Or.inl rfl | exact Or.inr rfl)) pgs_nil))) (pss_one (ps_if (pt_not (pt_val (pe_df D_is_integer hr (by decide) pass0 (pa_cons (pv 2) (pa_cons pe_int (pa_cons (pe_gk T.c_MAX_SIDE) pa_nil)))))) (pss_one (ps_ret (pe_tup (pa_cons (pv 1) (pa_cons pe_str pa_nil))))) pss_nil)))
          (pss_one (ps_ret pe_non)))), ?_⟩
  obtain ⟨a, xs, rfl, ha, n1, n4, hx, q⟩ := h
  simp only [tRet, tAndV, tOrV, tNotV, tCB, tCons, tNil, tC, tVar, tChain, rI0, tIfS, tTest, tOp, tUn, rU, rI, tPar3, tBM, tBM0, tM1, gSub, tXm, tCon, tProp, tMethR, rEq, rNe, rIxT, rIxL, decide_true, decide_false, tAnd, tOr, tNot, tB, tSeq, tAsg, gName, tDrop, tNext, tTup, tLst, tIf, tDf, tFld, tMf0, tPart, tSl, tNoPart, tPar, gTup, gLst, gCons, gNil, L2.start, List.map_cons, List.map_nil, List.length_cons, List.length_nil, Nat.zero_add, Nat.sub_self, Nat.reduceAdd, Nat.reduceSub, List.replicate_zero, List.replicate_succ, List.append_nil, List.nil_append, List.cons_append, List.getElem?_cons_zero, List.getElem?_cons_succ, List.set_cons_zero, List.set_cons_succ, Option.some.injEq, exists_and_left, exists_eq_left', exists_eq_left, V.int.injEq, V.bl.injEq, V.str.injEq, V.ref.injEq, List.cons.injEq, and_true, true_and, if_true, if_false, Bool.false_eq_true, reduceCtorEq, Bool.not_true, Bool.not_false, cxOf]
  refine isi_tup (.tup ha) ?_
  rw [isTp_t ha]
  simp only [tRet, tAndV, tOrV, tNotV, tCB, tCons, tNil, tC, tVar, tChain, rI0, tIfS, tTest, tOp, tUn, rU, rI, tPar3, tBM, tBM0, tM1, gSub, tXm, tCon, tProp, tMethR, rEq, rNe, rIxT, rIxL, decide_true, decide_false, tAnd, tOr, tNot, tB, tSeq, tAsg, gName, tDrop, tNext, tTup, tLst, tIf, tDf, tFld, tMf0, tPart, tSl, tNoPart, tPar, gTup, gLst, gCons, gNil, L2.start, List.map_cons, List.map_nil, List.length_cons, List.length_nil, Nat.zero_add, Nat.sub_self, Nat.reduceAdd, Nat.reduceSub, List.replicate_zero, List.replicate_succ, List.append_nil, List.nil_append, List.cons_append, List.getElem?_cons_zero, List.getElem?_cons_succ, List.set_cons_zero, List.set_cons_succ, Option.some.injEq, exists_and_left, exists_eq_left', exists_eq_left, V.int.injEq, V.bl.injEq, V.str.injEq, V.ref.injEq, List.cons.injEq, and_true, true_and, if_true, if_false, Bool.false_eq_true, reduceCtorEq, Bool.not_true, Bool.not_false, cxOf]
  refine ⟨ivs xs, .inr (SqT.of ha), ?_⟩
  rw [if_pos (by simp; omega), if_neg (by simp; omega)]
  refine ⟨_, rfl, a, ivs xs, rfl, SqT.of ha, for_enumT (xs := ivs xs) (fun i σ H' => (∃ u v, σ = [some (.ref a), u, v]) ∧ St' [] H H') ⟨⟨_, _, rfl⟩, .refl⟩ (fun i σ H' _ p => SqT.of (p.2.tp _ _ ha)) ?_ ?_⟩
  · rintro i x T' σ H' hi hT ⟨⟨u, v, rfl⟩, s1⟩
    obtain ⟨z, hz, rfl⟩ := ivs_get hi
    have hzx := hx z (List.mem_of_getElem? hz)
    simp only [tRet, tAndV, tOrV, tNotV, tCB, tCons, tNil, tC, tVar, tChain, rI0, tIfS, tTest, tOp, tUn, rU, rI, tPar3, tBM, tBM0, tM1, gSub, tXm, tCon, tProp, tMethR, rEq, rNe, rIxT, rIxL, decide_true, decide_false, tAnd, tOr, tNot, tB, tSeq, tAsg, gName, tDrop, tNext, tTup, tLst, tIf, tDf, tFld, tMf0, tPart, tSl, tNoPart, tPar, gTup, gLst, gCons, gNil, L2.start, List.map_cons, List.map_nil, List.length_cons, List.length_nil, Nat.zero_add, Nat.sub_self, Nat.reduceAdd, Nat.reduceSub, List.replicate_zero, List.replicate_succ, List.append_nil, List.nil_append, List.cons_append, List.getElem?_cons_zero, List.getElem?_cons_succ, List.set_cons_zero, List.set_cons_succ, Option.some.injEq, exists_and_left, exists_eq_left', exists_eq_left, V.int.injEq, V.bl.injEq, V.str.injEq, V.ref.injEq, List.cons.injEq, and_true, true_and, if_true, if_false, Bool.false_eq_true, reduceCtorEq, Bool.not_true, Bool.not_false, cxOf]
    refine ⟨_, SqT.of upd_same, rfl, _, _, rfl, _, _, rfl, rfl, _, _, _, rfl, .int _, ?_⟩
    rw [inR_true hzx.1 hzx.2]
    refine ⟨true, rfl, ?_⟩
    exact ⟨⟨_, rfl⟩, s1.new hT⟩
  · rintro σ H' ⟨⟨u, v, rfl⟩, s1⟩
    exact q _ s1
end
end Yk
set_option Elab.async false
set_option linter.all false
set_option maxRecDepth 100000
set_option maxHeartbeats 4000000
/-! words: lists beside an empty list, beside a list of the same items -/
namespace Yk
open PySem PySem.Spec PyProof.Rows L2
/-- xs != [] -/
def rNeE : R2 := fun x y H Q => ∃ a b xs, x = .ref a ∧ y = .ref b ∧ H a = some (.lst xs) ∧ H b = some (.lst []) ∧ Q (.bl (!xs.isEmpty)) H
/-- two lists of the same items -/
def rNeS : R2 := fun x y H Q => ∃ a b xs, x = .ref a ∧ y = .ref b ∧ H a = some (.lst xs) ∧ H b = some (.lst xs) ∧ (∀ v ∈ xs, TyV H v) ∧ Q (.bl false) H
section
variable {X : Cx}
theorem eqAt_rel {A : Around} {s : Shared} {H : Hp} {v : V} {u u' : Value} (ty : TyV H v) (r : RelV v u) (r' : RelV v u') : SeqAt.EqAt A s u u' true := by
  cases ty with
  | non =>
    cases (show u = Value.none from r)
    cases (show u' = Value.none from r')
    exact .same _
  | bl b =>
    cases (show u = Value.bool b from r)
    cases (show u' = Value.bool b from r')
    exact .same _
  | int i =>
    obtain ⟨t, rfl⟩ := (show ∃ t, u = Value.int i t from r)
    obtain ⟨t', rfl⟩ := (show ∃ t, u' = Value.int i t from r')
    have h := SeqAt.EqAt.int_int (A := A) (s := s) i t i t'
    rwa [beq_self_eq_true] at h
  | str x =>
    obtain ⟨t, rfl⟩ := (show ∃ t, u = Value.str x t from r)
    obtain ⟨t', rfl⟩ := (show ∃ t, u' = Value.str x t from r')
    have h := SeqAt.EqAt.str_str (A := A) (s := s) x t x t'
    rwa [beq_self_eq_true] at h
  | @tup a xs e =>
    cases (show u = Value.ref a from r)
    cases (show u' = Value.ref a from r')
    exact .same _
  | @lst a xs e =>
    cases (show u = Value.ref a from r)
    cases (show u' = Value.ref a from r')
    exact .same _
  | @dct a xs e =>
    cases (show u = Value.ref a from r)
    cases (show u' = Value.ref a from r')
    exact .same _
theorem op_neE (hu : X.A.units + 64 < cLine) : OpR X (compareOp .NotEq) rNeE := by
  intro pins s σ H x y v u Q I rx ry h
  obtain ⟨a, b, xs, rfl, rfl, ha, hb, q⟩ := h
  obtain rfl : v = Value.ref a := rx
  obtain rfl : u = Value.ref b := ry
  obtain ⟨is, rv, pl, hz⟩ := I.list (SqL.of ha)
  obtain ⟨js, rv2, pl2, hz2⟩ := I.list (SqL.of hb)
  have e2 : js = [] := by cases rv2; rfl
  subst e2
  have hu' : X.A.units < cLine := by omega
  cases xs with
  | nil =>
    have e1 : is = [] := by cases rv; rfl
    subst e1
    have key := SeqAt.RcNeAt.lists (A := X.A) (s := s) (e := fun _ => true) pl.isList pl2.isList rfl hu' (fun j h1 _ => absurd h1 (by simp))
    exact key X.prog X.w X.xe _ ⟨.bl false, H, I, rfl, q⟩
  | cons z zs =>
    refine SeqAt.RcNeAt.lists_lengths pl.isList pl2.isList ?_ hu' X.prog X.w X.xe _ ⟨.bl true, H, I, rfl, q⟩
    have := rv.length
    cases is with
    | nil => simp at this
    | cons i is => simp
theorem op_neS (hu : X.A.units + 64 < cLine) : OpR X (compareOp .NotEq) rNeS := by
  intro pins s σ H x y v u Q I rx ry h
  obtain ⟨a, b, xs, rfl, rfl, ha, hb, ty, q⟩ := h
  obtain rfl : v = Value.ref a := rx
  obtain rfl : u = Value.ref b := ry
  obtain ⟨is, rv, pl, hz⟩ := I.list (SqL.of ha)
  obtain ⟨js, rv2, pl2, hz2⟩ := I.list (SqL.of hb)
  have hu' : X.A.units < cLine := by omega
  have l1 := rv.length
  have l2 := rv2.length
  have ee : ∀ j (h1 : j < is.toArray.size) (h2 : j < js.toArray.size), SeqAt.EqAt X.A.in1 s is.toArray[j] js.toArray[j] ((fun _ => true) j) := by
    intro j h1 h2
    have jl : j < xs.length := by simp at h1; omega
    obtain ⟨u1, hu1, r1⟩ := rv.get (List.getElem?_eq_getElem jl)
    obtain ⟨u2, hu2, r2⟩ := rv2.get (List.getElem?_eq_getElem jl)
    have e1 : is.toArray[j] = u1 := by
      have := (List.getElem?_eq_some_iff.mp hu1).2
      simpa using this
    have e2 : js.toArray[j] = u2 := by
      have := (List.getElem?_eq_some_iff.mp hu2).2
      simpa using this
    rw [e1, e2]
    exact eqAt_rel (ty _ (List.getElem_mem jl)) r1 r2
  have key := SeqAt.RcNeAt.lists (A := X.A) (s := s) (e := fun _ => true) pl.isList pl2.isList (by simp; omega) hu' ee
  refine key X.prog X.w X.xe _ ?_
  rw [show (!(List.range is.toArray.size).all fun _ => true) = false by simp]
  exact ⟨.bl false, H, I, rfl, q⟩
end
end Yk
set_option Elab.async false
set_option linter.all false
set_option maxRecDepth 100000
set_option maxHeartbeats 4000000
/-! the program's small defs: forms -/
namespace Yk
open PySem PySem.Spec PyProof.Rows L2
/-- a row of sides: one to four, each from 1 to m -/
structure Sd (xs : List Int) (m : Int) : Prop where
  n1 : 1 ≤ xs.length
  n4 : xs.length ≤ 4
  all : ∀ x ∈ xs, 1 ≤ x ∧ x ≤ m
theorem Sd.mono {xs : List Int} {m n : Int} (h : Sd xs m) (hm : m ≤ n) : Sd xs n := ⟨h.n1, h.n4, fun x hx => ⟨(h.all x hx).1, Int.le_trans (h.all x hx).2 hm⟩⟩
abbrev big : Int := 1000000000000
/-- a tuple of two rows -/
def PairAt (H : Hp) (a : Addr) (x0 x1 : List Int) : Prop := ∃ a0 a1, H a = some (.tup [.ref a0, .ref a1]) ∧ H a0 = some (.tup (ivs x0)) ∧ H a1 = some (.tup (ivs x1))
theorem PairAt.st {M : List Addr} {H H' : Hp} {a : Addr} {x0 x1 : List Int} (h : PairAt H a x0 x1) (s : St' M H H') : PairAt H' a x0 x1 := by
  obtain ⟨a0, a1, h1, h2, h3⟩ := h
  exact ⟨a0, a1, s.tp _ _ h1, s.tp _ _ h2, s.tp _ _ h3⟩
/-! ### slices and sums of tuples: a new tuple or the old one -/
theorem sl_at {K : KF} {H : Hp} {a : Addr} {xs : List V} {lo hi : Option Int} {Q : VK} (ha : H a = some (.tup xs)) (q : ∀ p H', St' [] H H' → H' p = some (.tup (cutV xs lo hi)) → Q (.ref p) H') : rSlA K (.ref a) lo hi H Q := by
  refine ⟨a, xs, rfl, SqT.of ha, fun hw => q a H .refl ?_, fun _ p hp => q p _ (St'.refl.new hp) upd_same⟩
  rw [ha]
  unfold cutV
  rw [hw.1, hw.2, List.drop_zero, Nat.sub_zero, List.take_length]
theorem cat_at {K : KF} {H : Hp} {a b : Addr} {xs ys : List V} {Q : VK} (ha : H a = some (.tup xs)) (hb : H b = some (.tup ys)) (hl : xs.length + ys.length ≤ 1000) (q : ∀ p H', St' [] H H' → H' p = some (.tup (xs ++ ys)) → Q (.ref p) H') : rCatA K (.ref a) (.ref b) H Q := by
  refine ⟨a, b, xs, ys, rfl, rfl, SqT.of ha, SqT.of hb, Nat.le_trans hl (by decide), fun e => q b H .refl ?_, fun _ e => q a H .refl ?_, fun _ _ p hp => q p _ (St'.refl.new hp) upd_same⟩
  · rw [hb, e] <;> rfl
  · rw [ha, e, List.append_nil]
theorem cut_to (xs : List V) (i : Nat) (hi : i ≤ xs.length) : cutV xs none (some (i : Int)) = xs.take i := by
  unfold cutV
  rw [HT.sIx_none, HT.sIx_nat, List.drop_zero, Nat.sub_zero, Nat.min_eq_left hi]
theorem cut_from (xs : List V) (i : Nat) (hi : i ≤ xs.length) : cutV xs (some (i : Int)) none = xs.drop i := by
  unfold cutV
  rw [HT.sIx_none, HT.sIx_nat, Nat.min_eq_left hi, List.take_of_length_le (by rw [List.length_drop]; exact Nat.le_refl _)]
theorem set_parts {α : Type} : ∀ (xs : List α) (i : Nat) (v : α), i < xs.length → xs.take i ++ [v] ++ xs.drop (i + 1) = xs.set i v
  | [], i, v, h => absurd h (Nat.not_lt_zero _)
  | x :: xs, 0, v, _ => rfl
  | x :: xs, i + 1, v, h => by
    show x :: (xs.take i ++ [v] ++ xs.drop (i + 1)) = x :: xs.set i v
    rw [set_parts xs i v (Nat.lt_of_succ_lt_succ h)]
section
variable {w : World} {K : KF} {mg : Str → Option Value} {base : Heap}
theorem sc_kinds_error : FnScope ["value", "kind", "sides"] ["value"] (defScope s_kinds_error) := ⟨rfl, rfl, rfl, by decide +kernel, rfl, by decide +kernel, by decide +kernel⟩
def spPairOk : Sp := fun vs H Q _ => ∃ (a : Addr) (x0 x1 : List Int), vs = [.ref a] ∧ PairAt H a x0 x1 ∧ Sd x0 big ∧ Sd x1 big ∧ x1.length = x0.length ∧ ∀ H', St' [] H H' → Q .non H'
theorem ok_kinds_error (T : Tx w K mg) (D_sides_error : Df R.prog w K mg base CX0 2 "sides_error" spOkT) : Df R.prog w K mg base CX0 3 "kinds_error" spPairOk := by
  refine df_of T.d_kinds_error T.g_kinds_error sc_kinds_error (fun _ _ _ _ _ _ us hl => match us, hl with | [_], _ => rfl)
    (fun vs H Q E h => by repeat (first | (obtain ⟨rfl, _⟩ := h; rfl) | (obtain ⟨_, h⟩ := h))) (fun cdv A outer s H vs Q E hr h => ?_)
  have nd := sc_kinds_error.nd
  refine ⟨_, (pss_cons (ps_if (PW.pt (pw_or (pt_not (pt_val (pe_callB call_isi rfl T.n_isinstance (by decide +kernel) (pa_cons (pv 0) (pa_cons (pe_bltn (v := .ty "tuple") rfl T.n_tuple (by decide +kernel) rfl) pa_nil))))) (pw_or1 (pt_not (pt_chain op_le op_le pe_int (pe_callB call_len_seq rfl T.n_len PySem.boot_len (pa_cons (pv 0) pa_nil)) (pe_gk T.c_MAX_KINDS)))))) (pss_one (ps_ret (pe_tup (pa_cons pe_non (pa_cons pe_str pa_nil))))) pss_nil)
          (pss_cons (ps_for (passes_of rfl) rfl (pi_enumT T.n_enumerate (pa_cons (pv 0) pa_nil)) (pg_tup rfl (pgs_cons (pg_name (i := 1) nd rfl (by first | exact Or.inl rfl | exact Or.inr rfl)) (pgs_cons (pg_name (i := 2) nd rfl (by first | exact Or.inl rfl | exact Or.inr rfl)) pgs_nil))) (pss_cons (ps_if (pt_cmpR op_notN (pe_df D_sides_error hr (by decide) pass0 (pa_cons (pv 2) pa_nil)) pe_non (nomark _)) (pss_one (ps_ret (pe_tup (pa_cons (pv 1) (pa_cons pe_str pa_nil))))) pss_nil)
          (pss_one (ps_if (pt_cmpR op_ne (pe_callB call_len_seq rfl T.n_len PySem.boot_len (pa_cons (pv 2) pa_nil)) (pe_callB call_len_seq rfl T.n_len PySem.boot_len (pa_cons (pe_ix ix_tup (pv 0) pe_int (fun _ _ => rfl)) pa_nil)) (nomark _)) (pss_one (ps_ret (pe_tup (pa_cons (pv 1) (pa_cons pe_str pa_nil))))) pss_nil))))
          (pss_one (ps_ret pe_non)))), ?_⟩
  obtain ⟨a, x0, x1, rfl, ⟨a0, a1, ha, h0, h1⟩, s0, s1, el, q⟩ := h
  simp only [tRet, tAndV, tOrV, tNotV, tCB, tCons, tNil, tC, tVar, tChain, rI0, tIfS, tTest, tOp, tUn, rU, rI, tPar3, tBM, tBM0, tM1, gSub, tXm, tCon, tProp, tMethR, rEq, rNe, rIxT, rIxL, decide_true, decide_false, tAnd, tOr, tNot, tB, tSeq, tAsg, gName, tDrop, tNext, tTup, tLst, tIf, tDf, tFld, tMf0, tPart, tSl, tNoPart, tPar, gTup, gLst, gCons, gNil, L2.start, List.map_cons, List.map_nil, List.length_cons, List.length_nil, Nat.zero_add, Nat.sub_self, Nat.reduceAdd, Nat.reduceSub, List.replicate_zero, List.replicate_succ, List.append_nil, List.nil_append, List.cons_append, List.getElem?_cons_zero, List.getElem?_cons_succ, List.set_cons_zero, List.set_cons_succ, Option.some.injEq, exists_and_left, exists_eq_left', exists_eq_left, V.int.injEq, V.bl.injEq, V.str.injEq, V.ref.injEq, List.cons.injEq, and_true, true_and, if_true, if_false, Bool.false_eq_true, reduceCtorEq, Bool.not_true, Bool.not_false, cxOf]
  refine isi_tup (.tup ha) ?_
  rw [isTp_t ha]
  simp only [tRet, tAndV, tOrV, tNotV, tCB, tCons, tNil, tC, tVar, tChain, rI0, tIfS, tTest, tOp, tUn, rU, rI, tPar3, tBM, tBM0, tM1, gSub, tXm, tCon, tProp, tMethR, rEq, rNe, rIxT, rIxL, decide_true, decide_false, tAnd, tOr, tNot, tB, tSeq, tAsg, gName, tDrop, tNext, tTup, tLst, tIf, tDf, tFld, tMf0, tPart, tSl, tNoPart, tPar, gTup, gLst, gCons, gNil, L2.start, List.map_cons, List.map_nil, List.length_cons, List.length_nil, Nat.zero_add, Nat.sub_self, Nat.reduceAdd, Nat.reduceSub, List.replicate_zero, List.replicate_succ, List.append_nil, List.nil_append, List.cons_append, List.getElem?_cons_zero, List.getElem?_cons_succ, List.set_cons_zero, List.set_cons_succ, Option.some.injEq, exists_and_left, exists_eq_left', exists_eq_left, V.int.injEq, V.bl.injEq, V.str.injEq, V.ref.injEq, List.cons.injEq, and_true, true_and, if_true, if_false, Bool.false_eq_true, reduceCtorEq, Bool.not_true, Bool.not_false, cxOf]
  refine ⟨_, .inr (SqT.of ha), ?_⟩
  rw [if_pos (by simp), if_neg (by simp)]
  refine ⟨_, rfl, a, _, rfl, SqT.of ha, for_enumT (xs := [.ref a0, .ref a1]) (fun i σ H' => (∃ u v, σ = [some (.ref a), u, v]) ∧ St' [] H H') ⟨⟨_, _, rfl⟩, .refl⟩ (fun i σ H' _ p => SqT.of (p.2.tp _ _ ha)) ?_ ?_⟩
  · rintro i x T' σ H' hi hT ⟨⟨u, v, rfl⟩, st⟩
    have st1 := st.new (p := T') (o := .tup [.int (i : Nat), x]) hT
    obtain ⟨ax, xs, rfl, hax, sd, ln⟩ : ∃ ax xs, x = .ref ax ∧ H ax = some (.tup (ivs xs)) ∧ Sd xs big ∧ xs.length = x0.length := by
      match i, hi with
      | 0, hi => cases hi; exact ⟨a0, x0, rfl, h0, s0, rfl⟩
      | 1, hi => cases hi; exact ⟨a1, x1, rfl, h1, s1, el⟩
    simp only [tRet, tAndV, tOrV, tNotV, tCB, tCons, tNil, tC, tVar, tChain, rI0, tIfS, tTest, tOp, tUn, rU, rI, tPar3, tBM, tBM0, tM1, gSub, tXm, tCon, tProp, tMethR, rEq, rNe, rIxT, rIxL, decide_true, decide_false, tAnd, tOr, tNot, tB, tSeq, tAsg, gName, tDrop, tNext, tTup, tLst, tIf, tDf, tFld, tMf0, tPart, tSl, tNoPart, tPar, gTup, gLst, gCons, gNil, L2.start, List.map_cons, List.map_nil, List.length_cons, List.length_nil, Nat.zero_add, Nat.sub_self, Nat.reduceAdd, Nat.reduceSub, List.replicate_zero, List.replicate_succ, List.append_nil, List.nil_append, List.cons_append, List.getElem?_cons_zero, List.getElem?_cons_succ, List.set_cons_zero, List.set_cons_succ, Option.some.injEq, exists_and_left, exists_eq_left', exists_eq_left, V.int.injEq, V.bl.injEq, V.str.injEq, V.ref.injEq, List.cons.injEq, and_true, true_and, if_true, if_false, Bool.false_eq_true, reduceCtorEq, Bool.not_true, Bool.not_false, cxOf]
    refine ⟨_, SqT.of upd_same, rfl, _, _, rfl, _, _, rfl, rfl, ax, xs, rfl, st1.tp _ _ hax, sd.n1, sd.n4, sd.all, fun H2 s2 => ?_⟩
    have st2 := st1.trans s2
    simp only [tRet, tAndV, tOrV, tNotV, tCB, tCons, tNil, tC, tVar, tChain, rI0, tIfS, tTest, tOp, tUn, rU, rI, tPar3, tBM, tBM0, tM1, gSub, tXm, tCon, tProp, tMethR, rEq, rNe, rIxT, rIxL, decide_true, decide_false, tAnd, tOr, tNot, tB, tSeq, tAsg, gName, tDrop, tNext, tTup, tLst, tIf, tDf, tFld, tMf0, tPart, tSl, tNoPart, tPar, gTup, gLst, gCons, gNil, L2.start, List.map_cons, List.map_nil, List.length_cons, List.length_nil, Nat.zero_add, Nat.sub_self, Nat.reduceAdd, Nat.reduceSub, List.replicate_zero, List.replicate_succ, List.append_nil, List.nil_append, List.cons_append, List.getElem?_cons_zero, List.getElem?_cons_succ, List.set_cons_zero, List.set_cons_succ, Option.some.injEq, exists_and_left, exists_eq_left', exists_eq_left, V.int.injEq, V.bl.injEq, V.str.injEq, V.ref.injEq, List.cons.injEq, and_true, true_and, if_true, if_false, Bool.false_eq_true, reduceCtorEq, Bool.not_true, Bool.not_false, cxOf]
    refine ⟨_, .inr (SqT.of (st2.tp _ _ hax)), _, SqT.of (st2.tp _ _ ha), _, rfl, ?_⟩
    refine ⟨_, rfl, _, .inr (SqT.of (st2.tp _ _ h0)), rfl, ?_⟩
    rw [if_neg (by simp [ln])]
    exact ⟨⟨_, rfl⟩, st2⟩
  · rintro σ H' ⟨⟨u, v, rfl⟩, st⟩
    exact q _ st
theorem sc_pair_error : FnScope ["value", "error"] ["value"] (defScope s_pair_error) := ⟨rfl, rfl, rfl, by decide +kernel, rfl, by decide +kernel, by decide +kernel⟩
theorem ok_pair_error (T : Tx w K mg) (D_kinds_error : Df R.prog w K mg base CX0 3 "kinds_error" spPairOk) : Df R.prog w K mg base CX0 4 "pair_error" spPairOk := by
  refine df_of T.d_pair_error T.g_pair_error sc_pair_error (fun _ _ _ _ _ _ us hl => match us, hl with | [_], _ => rfl)
    (fun vs H Q E h => by repeat (first | (obtain ⟨rfl, _⟩ := h; rfl) | (obtain ⟨_, h⟩ := h))) (fun cdv A outer s H vs Q E hr h => ?_)
  have nd := sc_pair_error.nd
  refine ⟨_, (pss_cons (ps_set (i := 1) nd rfl (by first | exact Or.inl rfl | exact Or.inr rfl) (pe_df D_kinds_error hr (by decide) pass0 (pa_cons (pv 0) pa_nil)))
          (pss_cons (ps_if (PW.pt (pw_and (pt_cmpR op_isN (pv 1) pe_non (nomark _)) (pw_and1 (pt_cmpR op_ne (pe_callB call_len_seq rfl T.n_len PySem.boot_len (pa_cons (pv 0) pa_nil)) pe_int (nomark _))))) (pss_one (ps_ret (pe_tup (pa_cons pe_non (pa_cons pe_str pa_nil))))) pss_nil)
          (pss_one (ps_ret (pv 1))))), ?_⟩
  obtain ⟨a, x0, x1, rfl, ha, s0, s1, el, q⟩ := h
  simp only [tRet, tAndV, tOrV, tNotV, tCB, tCons, tNil, tC, tVar, tChain, rI0, tIfS, tTest, tOp, tUn, rU, rI, tPar3, tBM, tBM0, tM1, gSub, tXm, tCon, tProp, tMethR, rEq, rNe, rIxT, rIxL, decide_true, decide_false, tAnd, tOr, tNot, tB, tSeq, tAsg, gName, tDrop, tNext, tTup, tLst, tIf, tDf, tFld, tMf0, tPart, tSl, tNoPart, tPar, gTup, gLst, gCons, gNil, L2.start, List.map_cons, List.map_nil, List.length_cons, List.length_nil, Nat.zero_add, Nat.sub_self, Nat.reduceAdd, Nat.reduceSub, List.replicate_zero, List.replicate_succ, List.append_nil, List.nil_append, List.cons_append, List.getElem?_cons_zero, List.getElem?_cons_succ, List.set_cons_zero, List.set_cons_succ, Option.some.injEq, exists_and_left, exists_eq_left', exists_eq_left, V.int.injEq, V.bl.injEq, V.str.injEq, V.ref.injEq, List.cons.injEq, and_true, true_and, if_true, if_false, Bool.false_eq_true, reduceCtorEq, Bool.not_true, Bool.not_false, cxOf]
  refine ⟨a, x0, x1, rfl, ha, s0, s1, el, fun H1 st => ?_⟩
  obtain ⟨a0, a1, h1, _⟩ := ha.st st
  simp only [tRet, tAndV, tOrV, tNotV, tCB, tCons, tNil, tC, tVar, tChain, rI0, tIfS, tTest, tOp, tUn, rU, rI, tPar3, tBM, tBM0, tM1, gSub, tXm, tCon, tProp, tMethR, rEq, rNe, rIxT, rIxL, decide_true, decide_false, tAnd, tOr, tNot, tB, tSeq, tAsg, gName, tDrop, tNext, tTup, tLst, tIf, tDf, tFld, tMf0, tPart, tSl, tNoPart, tPar, gTup, gLst, gCons, gNil, L2.start, List.map_cons, List.map_nil, List.length_cons, List.length_nil, Nat.zero_add, Nat.sub_self, Nat.reduceAdd, Nat.reduceSub, List.replicate_zero, List.replicate_succ, List.append_nil, List.nil_append, List.cons_append, List.getElem?_cons_zero, List.getElem?_cons_succ, List.set_cons_zero, List.set_cons_succ, Option.some.injEq, exists_and_left, exists_eq_left', exists_eq_left, V.int.injEq, V.bl.injEq, V.str.injEq, V.ref.injEq, List.cons.injEq, and_true, true_and, if_true, if_false, Bool.false_eq_true, reduceCtorEq, Bool.not_true, Bool.not_false, cxOf]
  refine ⟨_, .inr (SqT.of h1), rfl, ?_⟩
  rw [if_neg (by simp)]
  exact q _ st
theorem sc_box_error : FnScope ["kinds", "value", "error"] ["kinds", "value"] (defScope s_box_error) := ⟨rfl, rfl, rfl, by decide +kernel, rfl, by decide +kernel, by decide +kernel⟩
def spBoxOk : Sp := fun vs H Q _ => ∃ (a b : Addr) (x0 x1 xb : List Int), vs = [.ref a, .ref b] ∧ PairAt H a x0 x1 ∧ H b = some (.tup (ivs xb)) ∧ Sd xb big ∧ xb.length = x0.length ∧ ∀ H', St' [] H H' → Q .non H'
theorem ok_box_error (T : Tx w K mg) (D_sides_error : Df R.prog w K mg base CX0 2 "sides_error" spOkT) : Df R.prog w K mg base CX0 4 "box_error" spBoxOk := by
  refine df_of T.d_box_error T.g_box_error sc_box_error (fun _ _ _ _ _ _ us hl => match us, hl with | [_, _], _ => rfl)
    (fun vs H Q E h => by repeat (first | (obtain ⟨rfl, _⟩ := h; rfl) | (obtain ⟨_, h⟩ := h))) (fun cdv A outer s H vs Q E hr h => ?_)
  have nd := sc_box_error.nd
  refine ⟨_, (pss_cons (ps_set (i := 2) nd rfl (by first | exact Or.inl rfl | exact Or.inr rfl) (pe_df D_sides_error hr (by decide) pass0 (pa_cons (pv 1) pa_nil)))
          (pss_cons (ps_if (PW.pt (pw_and (pt_cmpR op_isN (pv 2) pe_non (nomark _)) (pw_and1 (pt_cmpR op_ne (pe_callB call_len_seq rfl T.n_len PySem.boot_len (pa_cons (pv 1) pa_nil)) (pe_callB call_len_seq rfl T.n_len PySem.boot_len (pa_cons (pe_ix ix_tup (pv 0) pe_int (fun _ _ => rfl)) pa_nil)) (nomark _))))) (pss_one (ps_ret (pe_tup (pa_cons pe_non (pa_cons pe_str pa_nil))))) pss_nil)
          (pss_one (ps_ret (pv 2))))), ?_⟩
  obtain ⟨a, b, x0, x1, xb, rfl, ha, hb, sb, el, q⟩ := h
  simp only [tRet, tAndV, tOrV, tNotV, tCB, tCons, tNil, tC, tVar, tChain, rI0, tIfS, tTest, tOp, tUn, rU, rI, tPar3, tBM, tBM0, tM1, gSub, tXm, tCon, tProp, tMethR, rEq, rNe, rIxT, rIxL, decide_true, decide_false, tAnd, tOr, tNot, tB, tSeq, tAsg, gName, tDrop, tNext, tTup, tLst, tIf, tDf, tFld, tMf0, tPart, tSl, tNoPart, tPar, gTup, gLst, gCons, gNil, L2.start, List.map_cons, List.map_nil, List.length_cons, List.length_nil, Nat.zero_add, Nat.sub_self, Nat.reduceAdd, Nat.reduceSub, List.replicate_zero, List.replicate_succ, List.append_nil, List.nil_append, List.cons_append, List.getElem?_cons_zero, List.getElem?_cons_succ, List.set_cons_zero, List.set_cons_succ, Option.some.injEq, exists_and_left, exists_eq_left', exists_eq_left, V.int.injEq, V.bl.injEq, V.str.injEq, V.ref.injEq, List.cons.injEq, and_true, true_and, if_true, if_false, Bool.false_eq_true, reduceCtorEq, Bool.not_true, Bool.not_false, cxOf]
  refine ⟨b, xb, rfl, hb, sb.n1, sb.n4, sb.all, fun H1 st => ?_⟩
  obtain ⟨a0, a1, h1, h2, h3⟩ := ha.st st
  simp only [tRet, tAndV, tOrV, tNotV, tCB, tCons, tNil, tC, tVar, tChain, rI0, tIfS, tTest, tOp, tUn, rU, rI, tPar3, tBM, tBM0, tM1, gSub, tXm, tCon, tProp, tMethR, rEq, rNe, rIxT, rIxL, decide_true, decide_false, tAnd, tOr, tNot, tB, tSeq, tAsg, gName, tDrop, tNext, tTup, tLst, tIf, tDf, tFld, tMf0, tPart, tSl, tNoPart, tPar, gTup, gLst, gCons, gNil, L2.start, List.map_cons, List.map_nil, List.length_cons, List.length_nil, Nat.zero_add, Nat.sub_self, Nat.reduceAdd, Nat.reduceSub, List.replicate_zero, List.replicate_succ, List.append_nil, List.nil_append, List.cons_append, List.getElem?_cons_zero, List.getElem?_cons_succ, List.set_cons_zero, List.set_cons_succ, Option.some.injEq, exists_and_left, exists_eq_left', exists_eq_left, V.int.injEq, V.bl.injEq, V.str.injEq, V.ref.injEq, List.cons.injEq, and_true, true_and, if_true, if_false, Bool.false_eq_true, reduceCtorEq, Bool.not_true, Bool.not_false, cxOf]
  refine ⟨_, .inr (SqT.of (st.tp _ _ hb)), _, SqT.of h1, _, rfl, _, rfl, _, .inr (SqT.of h2), rfl, ?_⟩
  rw [if_neg (by simp [el])]
  exact q _ st
theorem sc_with_side : FnScope ["sides", "axis", "side"] ["sides", "axis", "side"] (defScope s_with_side) := ⟨rfl, rfl, rfl, by decide +kernel, rfl, by decide +kernel, by decide +kernel⟩
/-- what _law_with and with_side give: the row with one side changed -/
def spWith : Sp := fun vs H Q _ => ∃ (a : Addr) (xs : List Int) (i : Nat) (v : Int), vs = [.ref a, .int i, .int v] ∧ H a = some (.tup (ivs xs)) ∧ i < xs.length ∧ xs.length ≤ 4 ∧ ∀ p H', St' [] H H' → H' p = some (.tup (ivs (xs.set i v))) → Q (.ref p) H'
theorem ok_with_side (T : Tx w K mg) : Df R.prog w K mg base CX0 1 "with_side" spWith := by
  refine df_of T.d_with_side T.g_with_side sc_with_side (fun _ _ _ _ _ _ us hl => match us, hl with | [_, _, _], _ => rfl)
    (fun vs H Q E h => by repeat (first | (obtain ⟨rfl, _⟩ := h; rfl) | (obtain ⟨_, h⟩ := h))) (fun cdv A outer s H vs Q E hr h => ?_)
  have nd := sc_with_side.nd
  refine ⟨_, (pss_one (ps_ret (pe_op op_catA (pe_op op_catA (pe_slice sl_tupA (pv 0) po_none (po_some (pv 1))) (pe_tup (pa_cons (pv 2) pa_nil))) (pe_slice sl_tupA (pv 0) (po_some (pe_op op_add (pv 1) pe_int)) po_none)))), ?_⟩
  obtain ⟨a, xs, i, v, rfl, ha, hi, n4, q⟩ := h
  simp only [tRet, tAndV, tOrV, tNotV, tCB, tCons, tNil, tC, tVar, tChain, rI0, tIfS, tTest, tOp, tUn, rU, rI, tPar3, tBM, tBM0, tM1, gSub, tXm, tCon, tProp, tMethR, rEq, rNe, rIxT, rIxL, decide_true, decide_false, tAnd, tOr, tNot, tB, tSeq, tAsg, gName, tDrop, tNext, tTup, tLst, tIf, tDf, tFld, tMf0, tPart, tSl, tNoPart, tPar, gTup, gLst, gCons, gNil, L2.start, List.map_cons, List.map_nil, List.length_cons, List.length_nil, Nat.zero_add, Nat.sub_self, Nat.reduceAdd, Nat.reduceSub, List.replicate_zero, List.replicate_succ, List.append_nil, List.nil_append, List.cons_append, List.getElem?_cons_zero, List.getElem?_cons_succ, List.set_cons_zero, List.set_cons_succ, Option.some.injEq, exists_and_left, exists_eq_left', exists_eq_left, V.int.injEq, V.bl.injEq, V.str.injEq, V.ref.injEq, List.cons.injEq, and_true, true_and, if_true, if_false, Bool.false_eq_true, reduceCtorEq, Bool.not_true, Bool.not_false, cxOf]
  refine sl_at ha fun p H1 s1 h1 => ?_
  rw [cut_to _ _ (by simp; omega)] at h1
  refine ⟨by decide, fun p2 n2 => ?_⟩
  have s2 := s1.new (p := p2) (o := .tup [.int v]) n2
  refine cat_at ((St'.refl (M := []) |>.new n2).tp _ _ h1) upd_same (by simp; omega) fun p3 H3 s3 h3 => ?_
  have s4 := s2.trans s3
  refine sl_at (s4.tp _ _ ha) fun p5 H5 s5 h5 => ?_
  rw [show ((i : Int) + 1) = ((i + 1 : Nat) : Int) from rfl, cut_from _ _ (by simp; omega)] at h5
  refine cat_at (s5.tp _ _ h3) h5 (by simp; omega) fun p6 H6 s6 h6 => ?_
  refine q p6 H6 (s4.trans (s5.trans s6)) ?_
  have e : ivs (xs.set i v) = (ivs xs).set i (.int v) := List.map_set ..
  rw [h6, e, ← set_parts (ivs xs) i (.int v) (by simp; exact hi)]
end
end Yk
set_option Elab.async false
set_option linter.all false
set_option maxRecDepth 100000
set_option maxHeartbeats 4000000
/-! the program's sums and papers -/
namespace Yk
open PySem PySem.Spec PyProof.Rows L2
/-! ### what they compute -/
theorem gcd_step {a b : Int} (ha : 0 ≤ a) (hb : 0 < b) : Int.gcd b (a % b) = Int.gcd a b := by
  obtain ⟨m, rfl⟩ := Int.eq_ofNat_of_zero_le ha
  obtain ⟨n, rfl⟩ := Int.eq_ofNat_of_zero_le (Int.le_of_lt hb)
  show Nat.gcd n (((m : Int) % (n : Int)).natAbs) = Nat.gcd m n
  rw [← Int.natCast_emod]
  show Nat.gcd n (m % n) = Nat.gcd m n
  rw [Nat.gcd_comm m n, Nat.gcd_rec n m, Nat.gcd_comm]
def invW (l r n t : Int) : Int := if h : 0 < l then invW (r - r / l * l) l (t - r / l * n) n else t
termination_by l.toNat
decreasing_by
  have h1 : r - r / l * l = r % l := by
    have := Int.emod_def r l
    rw [Int.mul_comm] at this
    omega
  have h2 := Int.emod_lt_of_pos r h
  have h3 := Int.emod_nonneg r (Int.ne_of_gt h)
  omega
def invF (a b : Int) : Int := invW (a % b) b 1 0 % b
def ltF (a b s : Int) : Option Int := if s % (Int.gcd a b : Int) = 0 then some (s / (Int.gcd a b : Int) * invF (a / (Int.gcd a b : Int)) (b / (Int.gcd a b : Int)) % (b / (Int.gcd a b : Int))) else none
def ltV (a b s : Int) : V := match ltF a b s with
  | some t => .int t
  | none => .non
def barN (a b s : Int) : Bool := match ltF a b s with
  | some t => !decide (a * t - s > 0)
  | none => false
section
variable {w : World} {K : KF} {mg : Str → Option Value} {base : Heap}
theorem sc_common : FnScope ["one", "other"] ["one", "other"] (defScope s_common) := ⟨rfl, rfl, rfl, by decide +kernel, rfl, by decide +kernel, by decide +kernel⟩
def spGcd : Sp := fun vs H Q _ => ∃ a b : Int, vs = [.int a, .int b] ∧ 0 ≤ a ∧ 0 ≤ b ∧ Q (.int (Int.gcd a b : Int)) H
theorem ok_common (T : Tx w K mg) : Df R.prog w K mg base CX0 1 "common" spGcd := by
  refine df_of T.d_common T.g_common sc_common (fun _ _ _ _ _ _ us hl => match us, hl with | [_, _], _ => rfl)
    (fun vs H Q E h => by repeat (first | (obtain ⟨rfl, _⟩ := h; rfl) | (obtain ⟨_, h⟩ := h))) (fun cdv A outer s H vs Q E hr h => ?_)
  have nd := sc_common.nd
  refine ⟨_, (pss_cons (ps_while (passes_of rfl) (pt_cmpR op_gt (pv 1) pe_int (nomark _)) (pss_one (ps_par (i := 0) (j := 1) rfl nd rfl rfl (by decide) rfl rfl (pa_cons (pv 1) (pa_cons (pe_op op_mod (pv 0) (pv 1)) pa_nil)) (by rfl))))
          (pss_one (ps_ret (pv 0)))), ?_⟩
  obtain ⟨a, b, rfl, ha, hb, q⟩ := h
  refine while_by (fun σ H' => ∃ x y : Int, σ = [some (.int x), some (.int y)] ∧ 0 ≤ x ∧ 0 ≤ y ∧ Int.gcd x y = Int.gcd a b ∧ H' = H) (fun σ _ => match σ with
    | [_, some (.int y)] => y.toNat
    | _ => 0) ⟨a, b, rfl, ha, hb, rfl, rfl⟩ ?_ ?_
  · rintro σ H' ⟨x, y, rfl, hx, hy, e, rfl⟩
    simp only [tRet, tAndV, tOrV, tNotV, tCB, tCons, tNil, tC, tVar, tChain, rI0, tIfS, tTest, tOp, tUn, rU, rI, tPar3, tBM, tBM0, tM1, gSub, tXm, tCon, tProp, tMethR, rEq, rNe, rIxT, rIxL, decide_true, decide_false, tAnd, tOr, tNot, tB, tSeq, tAsg, gName, tDrop, tNext, tTup, tLst, tIf, tDf, tFld, tMf0, tPart, tSl, tNoPart, tPar, gTup, gLst, gCons, gNil, L2.start, List.map_cons, List.map_nil, List.length_cons, List.length_nil, Nat.zero_add, Nat.sub_self, Nat.reduceAdd, Nat.reduceSub, List.replicate_zero, List.replicate_succ, List.append_nil, List.nil_append, List.cons_append, List.getElem?_cons_zero, List.getElem?_cons_succ, List.set_cons_zero, List.set_cons_succ, Option.some.injEq, exists_and_left, exists_eq_left', exists_eq_left, V.int.injEq, V.bl.injEq, V.str.injEq, V.ref.injEq, List.cons.injEq, and_true, true_and, if_true, if_false, Bool.false_eq_true, reduceCtorEq, Bool.not_true, Bool.not_false, cxOf]
    split
    · rename_i c
      have c' : 0 < y := by simpa using c
      refine ⟨c', _, _, ⟨rfl, rfl⟩, ⟨y, x % y, ⟨rfl, rfl⟩, hy, Int.emod_nonneg _ (Int.ne_of_gt c'), ?_⟩, ?_⟩
      · rw [gcd_step hx c', e]
      · have := Int.emod_lt_of_pos x c'
        show (x % y).toNat < y.toNat
        omega
    · rename_i c
      have c' : y = 0 := by
        have : ¬ 0 < y := by simpa using c
        omega
      subst c'
      rw [← e] at q
      have e2 : (Int.gcd x 0 : Int) = x := by
        rw [Int.gcd_zero_right]
        omega
      rw [e2] at q
      exact q
  · intro σ H Q Q' hq h
    obtain ⟨v, e, i, j, h1, h2, k, hk, z⟩ := h
    exact ⟨v, e, i, j, h1, h2, k, hk, hq _ _ z⟩
theorem sc_inverse : FnScope ["one", "other", "left", "right", "now", "later", "times"] ["one", "other"] (defScope s_inverse) := ⟨rfl, rfl, rfl, by decide +kernel, rfl, by decide +kernel, by decide +kernel⟩
def spInv : Sp := fun vs H Q _ => ∃ a b : Int, vs = [.int a, .int b] ∧ 0 ≤ a ∧ 1 ≤ b ∧ b ≤ 100000 ∧ ∀ H', St' [] H H' → Q (.int (invF a b)) H'
theorem ok_inverse (T : Tx w K mg) : Df R.prog w K mg base CX0 1 "inverse" spInv := by
  refine df_of T.d_inverse T.g_inverse sc_inverse (fun _ _ _ _ _ _ us hl => match us, hl with | [_, _], _ => rfl)
    (fun vs H Q E h => by repeat (first | (obtain ⟨rfl, _⟩ := h; rfl) | (obtain ⟨_, h⟩ := h))) (fun cdv A outer s H vs Q E hr h => ?_)
  have nd := sc_inverse.nd
  refine ⟨_, (pss_cons (ps_asg (pe_tup (pa_cons (pe_op op_mod (pv 0) (pv 1)) (pa_cons (pv 1) (pa_cons pe_int (pa_cons pe_int pa_nil))))) (pg_tup rfl (pgs_cons (pg_name (i := 2) nd rfl (by first | exact Or.inl rfl | exact Or.inr rfl)) (pgs_cons (pg_name (i := 3) nd rfl (by first | exact Or.inl rfl | exact Or.inr rfl)) (pgs_cons (pg_name (i := 4) nd rfl (by first | exact Or.inl rfl | exact Or.inr rfl)) (pgs_cons (pg_name (i := 5) nd rfl (by first | exact Or.inl rfl | exact Or.inr rfl)) pgs_nil))))))
          (pss_cons (ps_while (passes_of rfl) (pt_cmpR op_gt (pv 2) pe_int (nomark _)) (pss_cons (ps_set (i := 6) nd rfl (by first | exact Or.inl rfl | exact Or.inr rfl) (pe_op op_fdiv (pv 3) (pv 2)))
          (pss_cons (ps_par (i := 2) (j := 3) rfl nd rfl rfl (by decide) rfl rfl (pa_cons (pe_op op_sub (pv 3) (pe_op op_mul (pv 6) (pv 2))) (pa_cons (pv 2) pa_nil)) (by rfl))
          (pss_one (ps_par (i := 4) (j := 5) rfl nd rfl rfl (by decide) rfl rfl (pa_cons (pe_op op_sub (pv 5) (pe_op op_mul (pv 6) (pv 4))) (pa_cons (pv 4) pa_nil)) (by rfl))))))
          (pss_one (ps_ret (pe_op op_mod (pv 5) (pv 1)))))), ?_⟩
  obtain ⟨a, b, rfl, ha, hb, hb2, q⟩ := h
  simp only [tRet, tAndV, tOrV, tNotV, tCB, tCons, tNil, tC, tVar, tChain, rI0, tIfS, tTest, tOp, tUn, rU, rI, tPar3, tBM, tBM0, tM1, gSub, tXm, tCon, tProp, tMethR, rEq, rNe, rIxT, rIxL, decide_true, decide_false, tAnd, tOr, tNot, tB, tSeq, tAsg, gName, tDrop, tNext, tTup, tLst, tIf, tDf, tFld, tMf0, tPart, tSl, tNoPart, tPar, gTup, gLst, gCons, gNil, L2.start, List.map_cons, List.map_nil, List.length_cons, List.length_nil, Nat.zero_add, Nat.sub_self, Nat.reduceAdd, Nat.reduceSub, List.replicate_zero, List.replicate_succ, List.append_nil, List.nil_append, List.cons_append, List.getElem?_cons_zero, List.getElem?_cons_succ, List.set_cons_zero, List.set_cons_succ, Option.some.injEq, exists_and_left, exists_eq_left', exists_eq_left, V.int.injEq, V.bl.injEq, V.str.injEq, V.ref.injEq, List.cons.injEq, and_true, true_and, if_true, if_false, Bool.false_eq_true, reduceCtorEq, Bool.not_true, Bool.not_false, cxOf]
  refine ⟨by omega, by decide, fun p hp => ⟨_, SqT.of upd_same, rfl, _, _, rfl, _, _, rfl, _, _, rfl, _, _, rfl, rfl, ?_⟩⟩
  refine while_by (fun σ H' => ∃ (l r n t : Int) (u : Option V), σ = [some (.int a), some (.int b), some (.int l), some (.int r), some (.int n), some (.int t), u] ∧ 0 ≤ l ∧ l ≤ 100000 ∧ 0 ≤ r ∧ r ≤ 100000 ∧ invW l r n t = invW (a % b) b 1 0 ∧ St' [] H H') (fun σ _ => match σ with
    | [_, _, some (.int l), _, _, _, _] => l.toNat
    | _ => 0) ?_ ?_ ?_
  · have h1 := Int.emod_lt_of_pos a (show 0 < b by omega)
    exact ⟨_, _, _, _, _, rfl, Int.emod_nonneg _ (by omega), by omega, by omega, hb2, rfl, St'.refl.new hp⟩
  · rintro σ H' ⟨l, r, n, t, u, rfl, hl, hl2, hr1, hr2, e, st⟩
    simp only [tRet, tAndV, tOrV, tNotV, tCB, tCons, tNil, tC, tVar, tChain, rI0, tIfS, tTest, tOp, tUn, rU, rI, tPar3, tBM, tBM0, tM1, gSub, tXm, tCon, tProp, tMethR, rEq, rNe, rIxT, rIxL, decide_true, decide_false, tAnd, tOr, tNot, tB, tSeq, tAsg, gName, tDrop, tNext, tTup, tLst, tIf, tDf, tFld, tMf0, tPart, tSl, tNoPart, tPar, gTup, gLst, gCons, gNil, L2.start, List.map_cons, List.map_nil, List.length_cons, List.length_nil, Nat.zero_add, Nat.sub_self, Nat.reduceAdd, Nat.reduceSub, List.replicate_zero, List.replicate_succ, List.append_nil, List.nil_append, List.cons_append, List.getElem?_cons_zero, List.getElem?_cons_succ, List.set_cons_zero, List.set_cons_succ, Option.some.injEq, exists_and_left, exists_eq_left', exists_eq_left, V.int.injEq, V.bl.injEq, V.str.injEq, V.ref.injEq, List.cons.injEq, and_true, true_and, if_true, if_false, Bool.false_eq_true, reduceCtorEq, Bool.not_true, Bool.not_false, cxOf]
    split
    · rename_i c
      have c' : 0 < l := by simpa using c
      have e1 : r - r / l * l = r % l := by
        have := Int.emod_def r l
        rw [Int.mul_comm] at this
        omega
      have h2 := Int.emod_lt_of_pos r c'
      have h3 := Int.emod_nonneg r (Int.ne_of_gt c')
      have h4 : r / l ≤ r := Int.ediv_le_self _ hr1
      have h5 : 0 ≤ r / l := Int.ediv_nonneg hr1 hl
      refine ⟨⟨c', by omega⟩, .inl ⟨by omega, by omega⟩, _, _, ⟨rfl, rfl⟩, .inl ⟨by omega, by omega⟩, _, _, ⟨rfl, rfl⟩, ⟨_, _, _, _, _, ⟨rfl, rfl, rfl, rfl, rfl⟩, by omega, by omega, by omega, by omega, ?_, st⟩, ?_⟩
      · rw [← e]
        conv => rhs; rw [invW]
        rw [dif_pos c']
      · show (r - r / l * l).toNat < l.toNat
        omega
    · rename_i c
      have c' : ¬ 0 < l := by simpa using c
      have e2 : invF a b = t % b := by
        unfold invF
        rw [← e, invW, dif_neg c']
      rw [← e2]
      exact ⟨by omega, q _ st⟩
  · intro σ H Q Q' hq h
    obtain ⟨v, e, i, j, h1, h2, k, hk, z⟩ := h
    exact ⟨v, e, i, j, h1, h2, k, hk, hq _ _ z⟩
theorem sc_least_times : FnScope ["one", "other", "side", "part"] ["one", "other", "side"] (defScope s_least_times) := ⟨rfl, rfl, rfl, by decide +kernel, rfl, by decide +kernel, by decide +kernel⟩
def spLt : Sp := fun vs H Q _ => ∃ a b s : Int, vs = [.int a, .int b, .int s] ∧ 1 ≤ a ∧ a ≤ 100000 ∧ 1 ≤ b ∧ b ≤ 100000 ∧ 1 ≤ s ∧ s ≤ 100000 ∧ ∀ H', St' [] H H' → Q (ltV a b s) H'
theorem ok_least_times (T : Tx w K mg) (D_common : Df R.prog w K mg base CX0 1 "common" spGcd) (D_inverse : Df R.prog w K mg base CX0 1 "inverse" spInv) : Df R.prog w K mg base CX0 2 "least_times" spLt := by
  refine df_of T.d_least_times T.g_least_times sc_least_times (fun _ _ _ _ _ _ us hl => match us, hl with | [_, _, _], _ => rfl)
    (fun vs H Q E h => by repeat (first | (obtain ⟨rfl, _⟩ := h; rfl) | (obtain ⟨_, h⟩ := h))) (fun cdv A outer s H vs Q E hr h => ?_)
  have nd := sc_least_times.nd
  refine ⟨_, (pss_cons (ps_set (i := 3) nd rfl (by first | exact Or.inl rfl | exact Or.inr rfl) (pe_df D_common hr (by decide) pass0 (pa_cons (pv 0) (pa_cons (pv 1) pa_nil))))
          (pss_cons (ps_if (pt_cmpR op_ne (pe_op op_mod (pv 2) (pv 3)) pe_int (nomark _)) (pss_one (ps_ret pe_non)) pss_nil)
          (pss_one (ps_ret (pe_op op_mod (pe_op op_mul (pe_op op_fdiv (pv 2) (pv 3)) (pe_df D_inverse hr (by decide) pass0 (pa_cons (pe_op op_fdiv (pv 0) (pv 3)) (pa_cons (pe_op op_fdiv (pv 1) (pv 3)) pa_nil)))) (pe_op op_fdiv (pv 1) (pv 3))))))), ?_⟩
  obtain ⟨a, b, s', rfl, a1, a2, b1, b2, s1, s2, q⟩ := h
  have g1 : (Int.gcd a b : Int) ∣ a := Int.gcd_dvd_left ..
  have g2 : (Int.gcd a b : Int) ∣ b := Int.gcd_dvd_right ..
  have g0 : 1 ≤ (Int.gcd a b : Int) := by
    have := Int.gcd_pos_of_ne_zero_left b (show a ≠ 0 by omega)
    omega
  have g3 : (Int.gcd a b : Int) ≤ b := Int.le_of_dvd (by omega) g2
  unfold ltV ltF at q
  generalize hg : (Int.gcd a b : Int) = g at *
  have h1 : 0 ≤ a / g := Int.ediv_nonneg (by omega) (by omega)
  have h2 : b / g ≤ b := Int.ediv_le_self _ (by omega)
  have h3 : 1 ≤ b / g := by
    obtain ⟨c, rfl⟩ := g2
    rw [Int.mul_ediv_cancel_left _ (by omega)]
    by_cases z : 1 ≤ c
    · exact z
    · have : g * c ≤ g * 0 := Int.mul_le_mul_of_nonneg_left (by omega) (by omega)
      omega
  have h4 : s' / g ≤ s' := Int.ediv_le_self _ (by omega)
  have h5 : 0 ≤ s' / g := Int.ediv_nonneg (by omega) (by omega)
  have g4 : g ≤ 100000 := by omega
  have gd : 0 < g := by omega
  simp only [tRet, tAndV, tOrV, tNotV, tCB, tCons, tNil, tC, tVar, tChain, rI0, tIfS, tTest, tOp, tUn, rU, rI, tPar3, tBM, tBM0, tM1, gSub, tXm, tCon, tProp, tMethR, rEq, rNe, rIxT, rIxL, decide_true, decide_false, tAnd, tOr, tNot, tB, tSeq, tAsg, gName, tDrop, tNext, tTup, tLst, tIf, tDf, tFld, tMf0, tPart, tSl, tNoPart, tPar, gTup, gLst, gCons, gNil, L2.start, List.map_cons, List.map_nil, List.length_cons, List.length_nil, Nat.zero_add, Nat.sub_self, Nat.reduceAdd, Nat.reduceSub, List.replicate_zero, List.replicate_succ, List.append_nil, List.nil_append, List.cons_append, List.getElem?_cons_zero, List.getElem?_cons_succ, List.set_cons_zero, List.set_cons_succ, Option.some.injEq, exists_and_left, exists_eq_left', exists_eq_left, V.int.injEq, V.bl.injEq, V.str.injEq, V.ref.injEq, List.cons.injEq, and_true, true_and, if_true, if_false, Bool.false_eq_true, reduceCtorEq, Bool.not_true, Bool.not_false, cxOf]
  refine ⟨a, b, rfl, by omega, by omega, g, by rw [hg], gd, rfl, ?_⟩
  by_cases c : s' % g = 0
  · rw [if_pos c] at q
    rw [if_neg (by simp [c])]
    refine ⟨g, by rw [hg], ⟨gd, by omega⟩, g, by rw [hg], ⟨gd, by omega⟩, g, by rw [hg], ⟨gd, by omega⟩, a / g, b / g, rfl, h1, h3, by omega, fun H1 st => ?_⟩
    have i1 : invF (a / g) (b / g) < b / g := Int.emod_lt_of_pos _ (by omega)
    have i2 : 0 ≤ invF (a / g) (b / g) := Int.emod_nonneg _ (by omega)
    exact ⟨_, rfl, .inl ⟨by omega, by omega⟩, g, by rw [hg], ⟨gd, by omega⟩, by omega, q _ st⟩
  · rw [if_neg c] at q
    rw [if_pos (by simp [c])]
    exact q _ .refl
end
end Yk
set_option Elab.async false
set_option linter.all false
set_option maxRecDepth 100000
set_option maxHeartbeats 4000000
/-! the program's papers -/
namespace Yk
open PySem PySem.Spec PyProof.Rows L2
section
variable {w : World} {K : KF} {mg : Str → Option Value} {base : Heap}
theorem atIv {xs : List Int} {i : Nat} {x : Int} (h : xs[i]? = some x) : atI (ivs xs) (i : Int) = some (.int x) := atI_nat (by rw [List.getElem?_map, h]; rfl)
/-- the axes from i on where a side does not divide -/
def rsN : Nat → List Int → List Int → List Int
  | i, b :: bs, s :: ss => if s % b = 0 then rsN (i + 1) bs ss else (i : Int) :: rsN (i + 1) bs ss
  | _, _, _ => []
theorem rsN_len : ∀ (br bx : List Int) (i : Nat), (rsN i br bx).length ≤ bx.length
  | [], bx, i => by simp [rsN]
  | b :: br, [], i => by simp [rsN]
  | b :: br, s :: bx, i => by
    have := rsN_len br bx (i + 1)
    unfold rsN
    split
    · simp; omega
    · simp; omega
abbrev rsL (br bx : List Int) : List Int := rsN 0 br bx
def spRests : Sp := fun vs H Q _ => ∃ (a b : Addr) (br bx : List Int), vs = [.ref a, .ref b] ∧ H a = some (.tup (ivs br)) ∧ H b = some (.tup (ivs bx)) ∧ br.length = bx.length ∧ br.length ≤ 4 ∧ (∀ x ∈ br, 1 ≤ x) ∧ ∀ p H', St' [] H H' → H p = none → H' p = some (.lst (ivs (rsL br bx))) → Q (.ref p) H'
theorem sc_rests : FnScope ["brick", "box", "axis", "side"] ["brick", "box"] (defScope s_rests) := ⟨rfl, rfl, rfl, by decide +kernel, rfl, by decide +kernel, by decide +kernel⟩
theorem ok_rests (T : Tx w K mg) : Df R.prog w K mg base CX0 1 "rests" spRests := by
  refine df_of T.d_rests T.g_rests sc_rests (fun _ _ _ _ _ _ us hl => match us, hl with | [_, _], _ => rfl)
    (fun vs H Q E h => by repeat (first | (obtain ⟨rfl, _⟩ := h; rfl) | (obtain ⟨_, h⟩ := h))) (fun cdv A outer s H vs Q E hr h => ?_)
  have nd := sc_rests.nd
  refine ⟨_, (pss_one (ps_ret (pe_lc (own := [("axis", 2), ("side", 3)]) (g := (gTup K 2 (gCons (gName 2) (gCons (gName 3) gNil)))) rfl nd (pi_enumT T.n_enumerate (pa_cons (pv 1) pa_nil)) (blkOk_by (own := [("axis", 2), ("side", 3)]) (N := ["brick", "box", "axis", "side"]) (sc := defScope s_rests) (by decide +kernel)) (fun _ _ _ _ _ => (pg_tup rfl (pgs_cons (pg_name (i := 2) nd rfl (by first | exact Or.inl rfl | exact Or.inr rfl)) (pgs_cons (pg_name (i := 3) nd rfl (by first | exact Or.inl rfl | exact Or.inr rfl)) pgs_nil)))) (fun _ _ _ _ _ => pts_one (pt_cmpR op_ne (pe_op op_mod (pv 3) (pe_ix (show IxR _ (rIxT K) from ix_tup) (pv 0) (pv 2) (fun _ _ => rfl))) pe_int (nomark _))) (fun _ _ _ _ _ => (pv 2))))), ?_⟩
  obtain ⟨a, b, br, bx, rfl, ha, hb, el, n4, hp, q⟩ := h
  simp only [tRet, tAndV, tOrV, tNotV, tCB, tCons, tNil, tC, tVar, tChain, rI0, tIfS, tTest, tOp, tUn, rU, rI, tPar3, tBM, tBM0, tM1, gSub, tXm, tCon, tProp, tMethR, rEq, rNe, rIxT, rIxL, decide_true, decide_false, tAnd, tOr, tNot, tB, tSeq, tAsg, gName, tDrop, tNext, tTup, tLst, tIf, tDf, tFld, tMf0, tPart, tSl, tNoPart, tPar, gTup, gLst, gCons, gNil, L2.start, List.map_cons, List.map_nil, List.length_cons, List.length_nil, Nat.zero_add, Nat.sub_self, Nat.reduceAdd, Nat.reduceSub, List.replicate_zero, List.replicate_succ, List.append_nil, List.nil_append, List.cons_append, List.getElem?_cons_zero, List.getElem?_cons_succ, List.set_cons_zero, List.set_cons_succ, Option.some.injEq, exists_and_left, exists_eq_left', exists_eq_left, V.int.injEq, V.bl.injEq, V.str.injEq, V.ref.injEq, List.cons.injEq, and_true, true_and, if_true, if_false, Bool.false_eq_true, reduceCtorEq, Bool.not_true, Bool.not_false, cxOf]
  refine ⟨_, rfl, b, ivs bx, rfl, SqT.of hb, fun D hD => lc_enumT (xs := ivs bx) (fun i H' => ∃ acc, H' D = some (.lst (ivs acc)) ∧ acc ++ rsN i (br.drop i) (bx.drop i) = rsL br bx ∧ acc.length ≤ i ∧ St' [] H H') ⟨[], upd_same, rfl, Nat.le_refl _, St'.refl.new hD⟩ (fun i H' _ p => by obtain ⟨acc, _, _, _, st⟩ := p; exact SqT.of (st.tp _ _ hb)) ?_ ?_⟩
  · rintro i x T' H' hi hT ⟨acc, hacc, e, ln, st⟩
    obtain ⟨z, hz, rfl⟩ := ivs_get hi
    have st1 := st.new (p := T') (o := .tup [.int (i : Nat), .int z]) hT
    simp only [wipe, tRet, tAndV, tOrV, tNotV, tCB, tCons, tNil, tC, tVar, tChain, rI0, tIfS, tTest, tOp, tUn, rU, rI, tPar3, tBM, tBM0, tM1, gSub, tXm, tCon, tProp, tMethR, rEq, rNe, rIxT, rIxL, decide_true, decide_false, tAnd, tOr, tNot, tB, tSeq, tAsg, gName, tDrop, tNext, tTup, tLst, tIf, tDf, tFld, tMf0, tPart, tSl, tNoPart, tPar, gTup, gLst, gCons, gNil, L2.start, List.map_cons, List.map_nil, List.length_cons, List.length_nil, Nat.zero_add, Nat.sub_self, Nat.reduceAdd, Nat.reduceSub, List.replicate_zero, List.replicate_succ, List.append_nil, List.nil_append, List.cons_append, List.getElem?_cons_zero, List.getElem?_cons_succ, List.set_cons_zero, List.set_cons_succ, Option.some.injEq, exists_and_left, exists_eq_left', exists_eq_left, V.int.injEq, V.bl.injEq, V.str.injEq, V.ref.injEq, List.cons.injEq, and_true, true_and, if_true, if_false, Bool.false_eq_true, reduceCtorEq, Bool.not_true, Bool.not_false, cxOf]
    have iz : i < bx.length := (List.getElem?_eq_some_iff.mp hz).1
    have ib : i < br.length := by omega
    have eb : bx.drop i = z :: bx.drop (i + 1) := by rw [List.drop_eq_getElem_cons iz, (List.getElem?_eq_some_iff.mp hz).2]
    have er : br.drop i = br[i] :: br.drop (i + 1) := List.drop_eq_getElem_cons ib
    have b1 : 1 ≤ br[i] := hp _ (List.getElem_mem ib)
    have hDT : D ≠ T' := fun z => by rw [← z, hacc] at hT; cases hT
    refine ⟨_, SqT.of upd_same, rfl, _, _, rfl, _, _, rfl, rfl, _, _, rfl, SqT.of (st1.tp _ _ ha), .int br[i], atI_nat (by simp [ib]), z, rfl, _, rfl, by omega, rfl, ?_⟩
    rw [eb, er, rsN] at e
    by_cases c : z % br[i] = 0
    · rw [if_pos c] at e
      rw [if_neg (by simp [c])]
      exact ⟨acc, by rw [upd_ne hDT]; exact hacc, e, by omega, st1⟩
    · rw [if_neg c] at e
      rw [if_pos (by simp [c])]
      refine ⟨_, by rw [upd_ne hDT]; exact hacc, by simp [sizeLine]; omega, acc ++ [(i : Int)], ?_, by rw [List.append_assoc]; exact e, by simp; omega, st1.own hD⟩
      rw [upd_same]
      simp [ivs]
  · rintro H' ⟨acc, hacc, e, ln, st⟩
    refine q D H' st hD ?_
    have e' : acc = rsL br bx := by
      rw [← e, List.drop_of_length_le (by simp; omega)]
      simp [rsN]
    rw [← e']
    exact hacc
def hasHd (H : Hp) (a : Addr) (hd : Str) : Prop := ∃ r, H a = some (.tup (.str hd :: r))
def spBar : Sp := fun vs H Q _ => ∃ (p b : Addr) (x0 x1 xb : List Int) (i : Nat) (x y s : Int), vs = [.ref p, .ref b, .int i] ∧ PairAt H p x0 x1 ∧ H b = some (.tup (ivs xb)) ∧ x0[i]? = some x ∧ x1[i]? = some y ∧ xb[i]? = some s ∧ 1 ≤ x ∧ x ≤ 100000 ∧ 1 ≤ y ∧ y ≤ 100000 ∧ 1 ≤ s ∧ s ≤ 100000 ∧
  (barN x y s = true → ∀ H', St' [] H H' → Q .non H') ∧ (barN x y s = false → ∀ p H' hd, St' [] H H' → hasHd H' p hd → hd ≠ "cut" → Q (.ref p) H')
theorem sc_bar_along : FnScope ["pair", "box", "axis", "one", "other", "side", "times", "more"] ["pair", "box", "axis"] (defScope s_bar_along) := ⟨rfl, rfl, rfl, by decide +kernel, rfl, by decide +kernel, by decide +kernel⟩
theorem ok_bar_along (T : Tx w K mg) (D_least_times : Df R.prog w K mg base CX0 2 "least_times" spLt) : Df R.prog w K mg base CX0 3 "bar_along" spBar := by
  refine df_of T.d_bar_along T.g_bar_along sc_bar_along (fun _ _ _ _ _ _ us hl => match us, hl with | [_, _, _], _ => rfl)
    (fun vs H Q E h => by repeat (first | (obtain ⟨rfl, _⟩ := h; rfl) | (obtain ⟨_, h⟩ := h))) (fun cdv A outer s H vs Q E hr h => ?_)
  have nd := sc_bar_along.nd
  refine ⟨_, (pss_cons (ps_par3 (i := 3) (j := 4) (l := 5) rfl nd rfl rfl rfl (by decide) (by decide) (by decide) rfl rfl rfl (pa_cons (pe_ix ix_tup (pe_ix ix_tup (pv 0) pe_int (fun _ _ => rfl)) (pv 2) (fun _ _ => rfl)) (pa_cons (pe_ix ix_tup (pe_ix ix_tup (pv 0) pe_int (fun _ _ => rfl)) (pv 2) (fun _ _ => rfl)) (pa_cons (pe_ix ix_tup (pv 1) (pv 2) (fun _ _ => rfl)) pa_nil))) (by rfl))
          (pss_cons (ps_set (i := 6) nd rfl (by first | exact Or.inl rfl | exact Or.inr rfl) (pe_df D_least_times hr (by decide) pass0 (pa_cons (pv 3) (pa_cons (pv 4) (pa_cons (pv 5) pa_nil)))))
          (pss_cons (ps_if (pt_cmpR op_isN (pv 6) pe_non (nomark _)) (pss_one (ps_ret (pe_tup (pa_cons (pe_gk T.c_STEP) (pa_cons (pv 2) pa_nil))))) pss_nil)
          (pss_cons (ps_set (i := 7) nd rfl (by first | exact Or.inl rfl | exact Or.inr rfl) (pe_op op_sub (pe_op op_mul (pv 3) (pv 6)) (pv 5)))
          (pss_one (ps_ret (pe_ifExp (pt_cmpR op_gt (pv 7) pe_int (nomark _)) (pe_tup (pa_cons (pe_gk T.c_GAP) (pa_cons (pv 2) (pa_cons (pv 6) (pa_cons (pe_op op_fdiv (pv 7) (pv 4)) pa_nil))))) pe_non))))))), ?_⟩
  obtain ⟨p, b, x0, x1, xb, i, x, y, s', rfl, hp, hb, ex, ey, es, x1', x2', y1, y2, s1, s2, q1, q2⟩ := h
  obtain ⟨a0, a1, ha, h0, h1⟩ := hp
  simp only [tRet, tAndV, tOrV, tNotV, tCB, tCons, tNil, tC, tVar, tChain, rI0, tIfS, tTest, tOp, tUn, rU, rI, tPar3, tBM, tBM0, tM1, gSub, tXm, tCon, tProp, tMethR, rEq, rNe, rIxT, rIxL, decide_true, decide_false, tAnd, tOr, tNot, tB, tSeq, tAsg, gName, tDrop, tNext, tTup, tLst, tIf, tDf, tFld, tMf0, tPart, tSl, tNoPart, tPar, gTup, gLst, gCons, gNil, L2.start, List.map_cons, List.map_nil, List.length_cons, List.length_nil, Nat.zero_add, Nat.sub_self, Nat.reduceAdd, Nat.reduceSub, List.replicate_zero, List.replicate_succ, List.append_nil, List.nil_append, List.cons_append, List.getElem?_cons_zero, List.getElem?_cons_succ, List.set_cons_zero, List.set_cons_succ, Option.some.injEq, exists_and_left, exists_eq_left', exists_eq_left, V.int.injEq, V.bl.injEq, V.str.injEq, V.ref.injEq, List.cons.injEq, and_true, true_and, if_true, if_false, Bool.false_eq_true, reduceCtorEq, Bool.not_true, Bool.not_false, cxOf]
  repeat (first | (refine ⟨_, SqT.of (by first | assumption | exact St'.tp (H := H) (by assumption) _ _ (by assumption)), ?_⟩) | (refine ⟨_, .inr (SqT.of (by first | assumption | exact St'.tp (H := H) (by assumption) _ _ (by assumption))), ?_⟩) | (refine ⟨_, rfl, ?_⟩) | (refine ⟨_, atIv (by assumption), ?_⟩) | (refine ⟨_, _, ⟨rfl, rfl⟩, ?_⟩) | (refine ⟨rfl, ?_⟩) | simp only [tRet, tAndV, tOrV, tNotV, tCB, tCons, tNil, tC, tVar, tChain, rI0, tIfS, tTest, tOp, tUn, rU, rI, tPar3, tBM, tBM0, tM1, gSub, tXm, tCon, tProp, tMethR, rEq, rNe, rIxT, rIxL, decide_true, decide_false, tAnd, tOr, tNot, tB, tSeq, tAsg, gName, tDrop, tNext, tTup, tLst, tIf, tDf, tFld, tMf0, tPart, tSl, tNoPart, tPar, gTup, gLst, gCons, gNil, L2.start, List.map_cons, List.map_nil, List.length_cons, List.length_nil, Nat.zero_add, Nat.sub_self, Nat.reduceAdd, Nat.reduceSub, List.replicate_zero, List.replicate_succ, List.append_nil, List.nil_append, List.cons_append, List.getElem?_cons_zero, List.getElem?_cons_succ, List.set_cons_zero, List.set_cons_succ, Option.some.injEq, exists_and_left, exists_eq_left', exists_eq_left, V.int.injEq, V.bl.injEq, V.str.injEq, V.ref.injEq, List.cons.injEq, and_true, true_and, if_true, if_false, Bool.false_eq_true, reduceCtorEq, Bool.not_true, Bool.not_false, cxOf])
  have big2 : CMul x s' → True := fun _ => trivial
  refine ⟨_, _, _, ⟨rfl, rfl, rfl⟩, x, y, s', rfl, x1', x2', y1, y2, s1, s2, fun H1 st => ?_⟩
  unfold barN at q1 q2
  unfold ltV
  cases c : ltF x y s' with
  | none =>
    rw [c] at q2
    rw [if_pos (by simp)]
    exact ⟨by decide, fun r hr2 => q2 rfl r _ "step" (st.new hr2) ⟨_, upd_same⟩ (by decide)⟩
  | some t =>
    rw [c] at q1 q2
    have tb : 0 ≤ t ∧ t < 2 ^ 64 := by
      unfold ltF at c
      have g2 : (Int.gcd x y : Int) ∣ y := Int.gcd_dvd_right ..
      have g0 : 1 ≤ (Int.gcd x y : Int) := by
        have := Int.gcd_pos_of_ne_zero_left y (show x ≠ 0 by omega)
        omega
      split at c
      · have h2 : y / (Int.gcd x y : Int) ≤ y := Int.ediv_le_self _ (by omega)
        have h3 : 0 < y / (Int.gcd x y : Int) := Int.ediv_pos_of_pos_of_dvd (by omega) (by omega) g2
        have e := Option.some.inj c
        have k1 := Int.emod_nonneg (s' / (Int.gcd x y : Int) * invF (x / (Int.gcd x y : Int)) (y / (Int.gcd x y : Int))) (Int.ne_of_gt h3)
        have k2 := Int.emod_lt_of_pos (s' / (Int.gcd x y : Int) * invF (x / (Int.gcd x y : Int)) (y / (Int.gcd x y : Int))) h3
        omega
      · cases c
    rw [if_neg (by simp)]
    repeat (first | (refine ⟨_, SqT.of (by first | assumption | exact St'.tp (H := H) (by assumption) _ _ (by assumption)), ?_⟩) | (refine ⟨_, .inr (SqT.of (by first | assumption | exact St'.tp (H := H) (by assumption) _ _ (by assumption))), ?_⟩) | (refine ⟨_, rfl, ?_⟩) | (refine ⟨_, atIv (by assumption), ?_⟩) | (refine ⟨_, _, ⟨rfl, rfl⟩, ?_⟩) | (refine ⟨rfl, ?_⟩) | simp only [tRet, tAndV, tOrV, tNotV, tCB, tCons, tNil, tC, tVar, tChain, rI0, tIfS, tTest, tOp, tUn, rU, rI, tPar3, tBM, tBM0, tM1, gSub, tXm, tCon, tProp, tMethR, rEq, rNe, rIxT, rIxL, decide_true, decide_false, tAnd, tOr, tNot, tB, tSeq, tAsg, gName, tDrop, tNext, tTup, tLst, tIf, tDf, tFld, tMf0, tPart, tSl, tNoPart, tPar, gTup, gLst, gCons, gNil, L2.start, List.map_cons, List.map_nil, List.length_cons, List.length_nil, Nat.zero_add, Nat.sub_self, Nat.reduceAdd, Nat.reduceSub, List.replicate_zero, List.replicate_succ, List.append_nil, List.nil_append, List.cons_append, List.getElem?_cons_zero, List.getElem?_cons_succ, List.set_cons_zero, List.set_cons_succ, Option.some.injEq, exists_and_left, exists_eq_left', exists_eq_left, V.int.injEq, V.bl.injEq, V.str.injEq, V.ref.injEq, List.cons.injEq, and_true, true_and, if_true, if_false, Bool.false_eq_true, reduceCtorEq, Bool.not_true, Bool.not_false, cxOf])
    refine ⟨.inl ⟨by omega, by omega⟩, ?_⟩
    by_cases d : 0 < x * t - s'
    · rw [if_pos (decide_eq_true d)]
      repeat (first | (refine ⟨_, SqT.of (by first | assumption | exact St'.tp (H := H) (by assumption) _ _ (by assumption)), ?_⟩) | (refine ⟨_, .inr (SqT.of (by first | assumption | exact St'.tp (H := H) (by assumption) _ _ (by assumption))), ?_⟩) | (refine ⟨_, rfl, ?_⟩) | (refine ⟨_, atIv (by assumption), ?_⟩) | (refine ⟨_, _, ⟨rfl, rfl⟩, ?_⟩) | (refine ⟨rfl, ?_⟩) | simp only [tRet, tAndV, tOrV, tNotV, tCB, tCons, tNil, tC, tVar, tChain, rI0, tIfS, tTest, tOp, tUn, rU, rI, tPar3, tBM, tBM0, tM1, gSub, tXm, tCon, tProp, tMethR, rEq, rNe, rIxT, rIxL, decide_true, decide_false, tAnd, tOr, tNot, tB, tSeq, tAsg, gName, tDrop, tNext, tTup, tLst, tIf, tDf, tFld, tMf0, tPart, tSl, tNoPart, tPar, gTup, gLst, gCons, gNil, L2.start, List.map_cons, List.map_nil, List.length_cons, List.length_nil, Nat.zero_add, Nat.sub_self, Nat.reduceAdd, Nat.reduceSub, List.replicate_zero, List.replicate_succ, List.append_nil, List.nil_append, List.cons_append, List.getElem?_cons_zero, List.getElem?_cons_succ, List.set_cons_zero, List.set_cons_succ, Option.some.injEq, exists_and_left, exists_eq_left', exists_eq_left, V.int.injEq, V.bl.injEq, V.str.injEq, V.ref.injEq, List.cons.injEq, and_true, true_and, if_true, if_false, Bool.false_eq_true, reduceCtorEq, Bool.not_true, Bool.not_false, cxOf])
      exact ⟨⟨by omega, by omega⟩, by decide, fun r hr2 => q2 (by simp; omega) r _ "gap" (st.new hr2) ⟨_, upd_same⟩ (by decide)⟩
    · rw [if_neg (by simpa using d)]
      exact q1 (by simp; omega) _ st
def crossE (x0 x1 xb : List Int) : Bool := (rsL x0 xb).all fun i => (rsL x1 xb).all fun j => decide (i = j)
/-- a crossing's item -/
def SdAt (H : Hp) (v : V) : Prop := ∃ (a : Addr) (i j : Int), v = .ref a ∧ H a = some (.tup [.str "sides", .int i, .int j])
def spCross : Sp := fun vs H Q _ => ∃ (p b : Addr) (x0 x1 xb : List Int), vs = [.ref p, .ref b] ∧ PairAt H p x0 x1 ∧ H b = some (.tup (ivs xb)) ∧ x0.length = xb.length ∧ x1.length = xb.length ∧ xb.length ≤ 4 ∧ (∀ x ∈ x0, 1 ≤ x) ∧ (∀ x ∈ x1, 1 ≤ x) ∧
  (crossE x0 x1 xb = true → ∀ p H', St' [] H H' → H' p = some (.lst []) → Q (.ref p) H') ∧ (crossE x0 x1 xb = false → ∀ p H' v r, St' [] H H' → H' p = some (.lst (v :: r)) → (∀ z ∈ v :: r, SdAt H' z) → Q (.ref p) H')
theorem sc_crossing : FnScope ["pair", "box", "found", "i", "j"] ["pair", "box"] (defScope s_crossing) := ⟨rfl, rfl, rfl, by decide +kernel, rfl, by decide +kernel, by decide +kernel⟩
theorem ok_crossing (T : Tx w K mg) (D_rests : Df R.prog w K mg base CX0 1 "rests" spRests) : Df R.prog w K mg base CX0 2 "crossing" spCross := by
  refine df_of T.d_crossing T.g_crossing sc_crossing (fun _ _ _ _ _ _ us hl => match us, hl with | [_, _], _ => rfl)
    (fun vs H Q E h => by repeat (first | (obtain ⟨rfl, _⟩ := h; rfl) | (obtain ⟨_, h⟩ := h))) (fun cdv A outer s H vs Q E hr h => ?_)
  have nd := sc_crossing.nd
  refine ⟨_, (pss_cons (ps_set (i := 2) nd rfl (by first | exact Or.inl rfl | exact Or.inr rfl) (pe_lst pa_nil))
          (pss_cons (ps_for (passes_of rfl) rfl (pi_list (pe_df D_rests hr (by decide) pass0 (pa_cons (pe_ix ix_tup (pv 0) pe_int (fun _ _ => rfl)) (pa_cons (pv 1) pa_nil)))) (pg_name (i := 3) nd rfl (by first | exact Or.inl rfl | exact Or.inr rfl)) (pss_one (ps_expr (pe_bm PySem.F.plainAttrs_list PySem.F.slot_list_extend PySem.F.type_list_extend mt_extend (pv 2) (pa_cons (pe_lc (own := [("j", 4)]) (g := (gName 4)) rfl nd (pi_list (pe_df D_rests hr (by decide) pass0 (pa_cons (pe_ix ix_tup (pv 0) pe_int (fun _ _ => rfl)) (pa_cons (pv 1) pa_nil)))) (blkOk_by (own := [("j", 4)]) (N := ["pair", "box", "found", "i", "j"]) (sc := defScope s_crossing) (by decide +kernel)) (fun _ _ _ _ _ => (pg_name (i := 4) nd rfl (by first | exact Or.inl rfl | exact Or.inr rfl))) (fun _ _ _ _ _ => pts_one (pt_cmpR op_ne (pv 3) (pv 4) (nomark _))) (fun _ _ _ _ _ => (pe_tup (pa_cons (pe_gk T.c_SIDES) (pa_cons (pv 3) (pa_cons (pv 4) pa_nil)))))) pa_nil)))))
          (pss_one (ps_ret (pv 2))))), ?_⟩
  obtain ⟨p, b, x0, x1, xb, rfl, hp, hb, e0, e1, n4, p0, p1, q1, q2⟩ := h
  obtain ⟨a0, a1, ha, h0, h1⟩ := hp
  simp only [tRet, tAndV, tOrV, tNotV, tCB, tCons, tNil, tC, tVar, tChain, rI0, tIfS, tTest, tOp, tUn, rU, rI, tPar3, tBM, tBM0, tM1, gSub, tXm, tCon, tProp, tMethR, rEq, rNe, rIxT, rIxL, decide_true, decide_false, tAnd, tOr, tNot, tB, tSeq, tAsg, gName, tDrop, tNext, tTup, tLst, tIf, tDf, tFld, tMf0, tPart, tSl, tNoPart, tPar, gTup, gLst, gCons, gNil, L2.start, List.map_cons, List.map_nil, List.length_cons, List.length_nil, Nat.zero_add, Nat.sub_self, Nat.reduceAdd, Nat.reduceSub, List.replicate_zero, List.replicate_succ, List.append_nil, List.nil_append, List.cons_append, List.getElem?_cons_zero, List.getElem?_cons_succ, List.set_cons_zero, List.set_cons_succ, Option.some.injEq, exists_and_left, exists_eq_left', exists_eq_left, V.int.injEq, V.bl.injEq, V.str.injEq, V.ref.injEq, List.cons.injEq, and_true, true_and, if_true, if_false, Bool.false_eq_true, reduceCtorEq, Bool.not_true, Bool.not_false, cxOf]
  refine ⟨by decide, fun D hD => ?_⟩
  have st0 : St' [] H (upd H D (.lst [])) := St'.refl.new hD
  have g0 := st0.tp _ _ ha
  refine ⟨_, rfl, _, _, _, _, rfl, rfl, SqT.of g0, rfl, _, rfl, ?_⟩
  refine ⟨a0, b, x0, xb, rfl, st0.tp _ _ h0, st0.tp _ _ hb, e0, by omega, p0, fun L0 H1 st1 n0 hL0 => ?_⟩
  have hD1 : H1 D = some (.lst []) := st1.kp _ _ upd_same (by simp)
  have st2 : St' [] H H1 := st0.trans st1
  refine ⟨L0, rfl, ⟨_, SqL.of hL0⟩, ?_⟩
  refine for_list (xs := ivs (rsL x0 xb)) (fun i σ H' => (∃ u v, σ = [some (.ref p), some (.ref b), some (.ref D), u, v]) ∧ ∃ L, H' D = some (.lst L) ∧ L.length ≤ 4 * i ∧ (∀ v ∈ L, SdAt H' v) ∧ (L = [] ↔ ((rsL x0 xb).take i).all (fun i => (rsL x1 xb).all fun j => decide (i = j)) = true) ∧ St' [] H H' ∧ St' [D] H1 H') ⟨⟨_, _, rfl⟩, [], hD1, Nat.zero_le _, by simp, by simp, st2, .refl⟩ (fun i σ H' _ h => by obtain ⟨_, L, _, _, _, _, _, z⟩ := h; exact SqL.of (z.kp _ _ hL0 (by simp; exact fun e => by rw [e, upd_same] at n0; cases n0))) ?_ ?_
  · rintro i x σ H' hi ⟨⟨u, v, rfl⟩, L, hL, ln, hds, iff, s1, s2⟩
    obtain ⟨z, hz, rfl⟩ := ivs_get hi
    have iz := (List.getElem?_eq_some_iff.mp hz).1
    have lz : (rsL x0 xb).length ≤ xb.length := rsN_len x0 xb 0
    simp only [tRet, tAndV, tOrV, tNotV, tCB, tCons, tNil, tC, tVar, tChain, rI0, tIfS, tTest, tOp, tUn, rU, rI, tPar3, tBM, tBM0, tM1, gSub, tXm, tCon, tProp, tMethR, rEq, rNe, rIxT, rIxL, decide_true, decide_false, tAnd, tOr, tNot, tB, tSeq, tAsg, gName, tDrop, tNext, tTup, tLst, tIf, tDf, tFld, tMf0, tPart, tSl, tNoPart, tPar, gTup, gLst, gCons, gNil, L2.start, List.map_cons, List.map_nil, List.length_cons, List.length_nil, Nat.zero_add, Nat.sub_self, Nat.reduceAdd, Nat.reduceSub, List.replicate_zero, List.replicate_succ, List.append_nil, List.nil_append, List.cons_append, List.getElem?_cons_zero, List.getElem?_cons_succ, List.set_cons_zero, List.set_cons_succ, Option.some.injEq, exists_and_left, exists_eq_left', exists_eq_left, V.int.injEq, V.bl.injEq, V.str.injEq, V.ref.injEq, List.cons.injEq, and_true, true_and, if_true, if_false, Bool.false_eq_true, reduceCtorEq, Bool.not_true, Bool.not_false, cxOf]
    refine ⟨.inl ⟨rfl, _, SqL.of hL⟩, _, rfl, _, _, _, _, rfl, rfl, SqT.of (s1.tp _ _ ha), rfl, _, rfl, ?_⟩
    refine ⟨a1, b, x1, xb, rfl, s1.tp _ _ h1, s1.tp _ _ hb, e1, by omega, p1, fun L1 H2 st3 n1 hL1 => ?_⟩
    refine ⟨L1, rfl, ⟨_, SqL.of hL1⟩, fun D2 nD2 => ?_⟩
    refine lc_list (xs := ivs (rsL x1 xb)) (fun j H3 => ∃ M, H3 D2 = some (.lst M) ∧ M.length ≤ j ∧ (∀ v ∈ M, SdAt H3 v) ∧ (M = [] ↔ ((rsL x1 xb).take j).all (fun j => decide (z = j)) = true) ∧ St' [] H2 H3) ⟨[], upd_same, Nat.zero_le _, by simp, by simp, St'.refl.new nD2⟩ (fun j H' _ h => by obtain ⟨M, _, _, _, _, z⟩ := h; exact SqL.of (z.kp _ _ hL1 (by simp))) ?_ ?_
    · rintro j x H3 hj ⟨M, hM, lm, hdm, ifm, s3⟩
      obtain ⟨y, hy, rfl⟩ := ivs_get hj
      have tk : (rsL x1 xb).take (j + 1) = (rsL x1 xb).take j ++ [y] := by rw [List.take_add_one, hy]; rfl
      simp only [wipe, tRet, tAndV, tOrV, tNotV, tCB, tCons, tNil, tC, tVar, tChain, rI0, tIfS, tTest, tOp, tUn, rU, rI, tPar3, tBM, tBM0, tM1, gSub, tXm, tCon, tProp, tMethR, rEq, rNe, rIxT, rIxL, decide_true, decide_false, tAnd, tOr, tNot, tB, tSeq, tAsg, gName, tDrop, tNext, tTup, tLst, tIf, tDf, tFld, tMf0, tPart, tSl, tNoPart, tPar, gTup, gLst, gCons, gNil, L2.start, List.map_cons, List.map_nil, List.length_cons, List.length_nil, Nat.zero_add, Nat.sub_self, Nat.reduceAdd, Nat.reduceSub, List.replicate_zero, List.replicate_succ, List.append_nil, List.nil_append, List.cons_append, List.getElem?_cons_zero, List.getElem?_cons_succ, List.set_cons_zero, List.set_cons_succ, Option.some.injEq, exists_and_left, exists_eq_left', exists_eq_left, V.int.injEq, V.bl.injEq, V.str.injEq, V.ref.injEq, List.cons.injEq, and_true, true_and, if_true, if_false, Bool.false_eq_true, reduceCtorEq, Bool.not_true, Bool.not_false, cxOf]
      refine ⟨rfl, ?_⟩
      by_cases c : z = y
      · rw [if_neg (by simp [c])]
        exact ⟨M, hM, by omega, hdm, by rw [tk, List.all_append, ifm]; simp [c], s3⟩
      · rw [if_pos (by simp [c])]
        refine ⟨by decide, fun q nq => ?_⟩
        have hDq : D2 ≠ q := fun e => by rw [← e, hM] at nq; cases nq
        have s4 := s3.new (p := q) (o := .tup [.str "sides", .int z, .int y]) nq
        have s5 := (St'.refl (M := []) |>.new (p := q) (o := .tup [.str "sides", .int z, .int y]) nq)
        have s6 : St' [D2] H3 (upd (upd H3 q (.tup [.str "sides", .int z, .int y])) D2 (.lst (M ++ [.ref q]))) := s5.w0.putL (by simp) (s5.kp _ _ hM (by simp))
        refine ⟨M, by rw [upd_ne hDq]; exact hM, ?_, M ++ [.ref q], upd_same, by simp; omega, ?_, ?_, s4.own nD2⟩
        · have : (rsL x1 xb).length ≤ xb.length := rsN_len x1 xb 0
          have := (List.getElem?_eq_some_iff.mp hy).1
          simp [sizeLine]; omega
        · intro v hv
          rcases List.mem_append.mp hv with hv | hv
          · obtain ⟨a, i1, j1, e, hr⟩ := hdm v hv
            exact ⟨a, i1, j1, e, s6.tp _ _ hr⟩
          · exact ⟨q, z, y, List.mem_singleton.mp hv, by rw [upd_ne (Ne.symm hDq), upd_same]⟩
        · rw [tk, List.all_append]
          simp [c]
    · rintro H3 ⟨M, hM, lm, hdm, ifm, s3⟩
      have hL3 : H3 D = some (.lst L) := s3.kp _ _ (st3.kp _ _ hL (by simp)) (by simp)
      have l1 : (rsL x1 xb).length ≤ xb.length := rsN_len x1 xb 0
      have s4 : St' [] H H3 := s1.trans (st3.trans s3)
      have s5 : St' [D] H1 H3 := s2.trans (st3.trans s3).w0
      have s6 : St' [D] H3 (upd H3 D (.lst (L ++ M))) := St'.refl.putL (by simp) hL3
      have s7 : St' [] H' H3 := st3.trans s3
      refine ⟨D, D2, L, M, rfl, rfl, hL3, hM, by simp [sizeLine] at lm ⊢; omega, ⟨_, rfl⟩, L ++ M, upd_same, by simp at lm ⊢; omega, ?_, ?_, s4.own hD, s5.putL (by simp) hL3⟩
      · intro v hv
        rcases List.mem_append.mp hv with hv | hv
        · obtain ⟨a, i1, j1, e, hr⟩ := hds v hv
          exact ⟨a, i1, j1, e, s6.tp _ _ (s7.tp _ _ hr)⟩
        · obtain ⟨a, i1, j1, e, hr⟩ := hdm v hv
          exact ⟨a, i1, j1, e, s6.tp _ _ hr⟩
      · have tk : (rsL x0 xb).take (i + 1) = (rsL x0 xb).take i ++ [z] := by rw [List.take_add_one, hz]; rfl
        rw [List.length_map, List.take_length] at ifm
        rw [tk, List.all_append, List.append_eq_nil_iff, iff, ifm]
        simp
  · rintro σ H' ⟨⟨u, v, rfl⟩, L, hL, ln, hds, iff, s1, s2⟩
    rw [List.length_map, List.take_length] at iff
    simp only [tRet, tAndV, tOrV, tNotV, tCB, tCons, tNil, tC, tVar, tChain, rI0, tIfS, tTest, tOp, tUn, rU, rI, tPar3, tBM, tBM0, tM1, gSub, tXm, tCon, tProp, tMethR, rEq, rNe, rIxT, rIxL, decide_true, decide_false, tAnd, tOr, tNot, tB, tSeq, tAsg, gName, tDrop, tNext, tTup, tLst, tIf, tDf, tFld, tMf0, tPart, tSl, tNoPart, tPar, gTup, gLst, gCons, gNil, L2.start, List.map_cons, List.map_nil, List.length_cons, List.length_nil, Nat.zero_add, Nat.sub_self, Nat.reduceAdd, Nat.reduceSub, List.replicate_zero, List.replicate_succ, List.append_nil, List.nil_append, List.cons_append, List.getElem?_cons_zero, List.getElem?_cons_succ, List.set_cons_zero, List.set_cons_succ, Option.some.injEq, exists_and_left, exists_eq_left', exists_eq_left, V.int.injEq, V.bl.injEq, V.str.injEq, V.ref.injEq, List.cons.injEq, and_true, true_and, if_true, if_false, Bool.false_eq_true, reduceCtorEq, Bool.not_true, Bool.not_false, cxOf]
    by_cases c : crossE x0 x1 xb = true
    · have e : L = [] := iff.mpr c
      subst e
      exact q1 c D H' s1 hL
    · have c' : crossE x0 x1 xb = false := by simpa using c
      cases L with
      | nil => exact absurd (iff.mp rfl) c
      | cons v r =>
        exact q2 c' D H' v r s1 hL hds
end
end Yk
set_option Elab.async false
set_option linter.all false
set_option maxRecDepth 100000
set_option maxHeartbeats 4000000
/-! paper, is_filled -/
namespace Yk
open PySem PySem.Spec PyProof.Rows L2
/-! ### data without dicts, of small depth -/
def Pl (n : Nat) (d : PyData) : Prop := d.canLay0 = true ∧ d.depth ≤ n
theorem Pl.mono {m n : Nat} {d : PyData} (h : Pl m d) (hm : m ≤ n) : Pl n d := ⟨h.1, Nat.le_trans h.2 hm⟩
theorem Pl.all {n : Nat} : ∀ {ds : List PyData}, (∀ d ∈ ds, Pl n d) → PyData.canLayAll0 ds = true ∧ PyData.depthAll ds ≤ n
  | [], _ => by simp [PyData.canLayAll0, PyData.depthAll]
  | d :: ds, h => by
    have h1 := h d (by simp)
    have h2 := Pl.all (ds := ds) fun x hx => h x (by simp [hx])
    have h3 := h1.2
    simp [PyData.canLayAll0, PyData.depthAll, h1.1, h2.1]
    omega
theorem Pl.lst {n : Nat} {ds : List PyData} (h : ∀ d ∈ ds, Pl n d) : Pl (n + 1) (.list ds) := by
  have z := Pl.all h
  exact ⟨by simp only [PyData.canLay0]; exact z.1, by simp only [PyData.depth]; omega⟩
theorem Pl.tup {n : Nat} {ds : List PyData} (h : ∀ d ∈ ds, Pl n d) : Pl (n + 1) (.tuple ds) := by
  have z := Pl.all h
  exact ⟨by simp only [PyData.canLay0]; exact z.1, by simp only [PyData.depth]; omega⟩
theorem Pl.int {n : Nat} (i : Int) : Pl n (.int i) := ⟨by simp [PyData.canLay0], by simp [PyData.depth]⟩
theorem Pl.str {n : Nat} (x : Str) (h : PyData.strOk x = true := by decide +kernel) : Pl n (.str x) := ⟨by simp only [PyData.canLay0]; exact h, by simp [PyData.depth]⟩
theorem Pl.bl {n : Nat} (x : Bool) : Pl n (.bool x) := ⟨by simp [PyData.canLay0], by simp [PyData.depth]⟩
theorem Pl.non {n : Nat} : Pl n .none := ⟨by simp [PyData.canLay0], by simp [PyData.depth]⟩
theorem Pl.sh {n : Nat} {d : PyData} (h : Pl n d) (hn : n ≤ 64 := by decide) : SeqAt.shaped d = true := by
  show (d.canLay0 && decide (d.depth ≤ 64)) = true
  rw [Bool.and_eq_true]
  exact ⟨h.1, decide_eq_true (Nat.le_trans h.2 hn)⟩
abbrev dInts (xs : List Int) : PyData := .tuple (xs.map PyData.int)
theorem dpa_ints {K : KF} {H : Hp} : ∀ xs : List Int, DpAll K H (ivs xs) (xs.map PyData.int)
  | [] => .nil
  | x :: xs => .cons (.int x) (dpa_ints xs)
theorem pl_ints {n : Nat} (xs : List Int) : ∀ d ∈ xs.map PyData.int, Pl n d := by
  intro d h
  obtain ⟨x, _, rfl⟩ := List.mem_map.mp h
  exact .int x
theorem dp_ints {K : KF} {H : Hp} {a : Addr} {xs : List Int} (h : H a = some (.tup (ivs xs))) : Dp K H (.ref a) (dInts xs) := .tup (SqT.of h) (dpa_ints xs)
theorem dp_intsL {K : KF} {H : Hp} {a : Addr} {xs : List Int} (h : H a = some (.lst (ivs xs))) : Dp K H (.ref a) (.list (xs.map PyData.int)) := .lst (SqL.of h) (dpa_ints xs)
theorem dp_nilL {K : KF} {H : Hp} {a : Addr} (h : H a = some (.lst [])) : Dp K H (.ref a) (.list []) := .lst (SqL.of h) .nil
theorem eqv_nil (ds : List PyData) : PyData.eqv (.list ds) (.list []) = decide (ds = []) := by
  cases ds <;> simp [PyData.eqv, PyData.eqvAll]
/-! ### three rows: a pair and a box -/
structure Ok3 (x0 x1 xb : List Int) (m : Int) : Prop where
  s0 : Sd x0 m
  s1 : Sd x1 m
  sb : Sd xb m
  l1 : x1.length = x0.length
  lb : xb.length = x0.length
def barAt (x0 x1 xb : List Int) (i : Int) : Bool := match x0[i.toNat]?, x1[i.toNat]?, xb[i.toNat]? with
  | some x, some y, some s => barN x y s
  | _, _, _ => false
def paperB (x0 x1 xb : List Int) : Bool := match rsL x0 xb with
  | [] => true
  | i :: _ => decide (rsL x1 xb = []) || (crossE x0 x1 xb && barAt x0 x1 xb i)
theorem rsN_mem : ∀ (br bx : List Int) (i : Nat) (z : Int), z ∈ rsN i br bx → ∃ k : Nat, z = (k : Int) ∧ i ≤ k ∧ k < i + br.length ∧ k < i + bx.length
  | [], bx, i, z, h => by simp [rsN] at h
  | b :: br, [], i, z, h => by simp [rsN] at h
  | b :: br, s :: bx, i, z, h => by
    unfold rsN at h
    have go : z ∈ rsN (i + 1) br bx → ∃ k : Nat, z = (k : Int) ∧ i ≤ k ∧ k < i + (b :: br).length ∧ k < i + (s :: bx).length := fun h => by
      obtain ⟨k, e, h1, h2, h3⟩ := rsN_mem br bx (i + 1) z h
      exact ⟨k, e, by omega, by simp; omega, by simp; omega⟩
    split at h
    · exact go h
    · rcases List.mem_cons.mp h with h | h
      · exact ⟨i, h, Nat.le_refl _, by simp, by simp⟩
      · exact go h
section
variable {w : World} {K : KF} {mg : Str → Option Value} {base : Heap}
theorem dpa_sds {H : Hp} : ∀ {L : List V}, (∀ z ∈ L, SdAt H z) → ∃ ds, DpAll K H L ds ∧ ds.length = L.length ∧ ∀ d ∈ ds, Pl 1 d
  | [], _ => ⟨[], .nil, rfl, by simp⟩
  | v :: L, h => by
    obtain ⟨ds, h1, h2, h3⟩ := dpa_sds (L := L) fun z hz => h z (by simp [hz])
    obtain ⟨a, i, j, rfl, ha⟩ := h v (by simp)
    refine ⟨.tuple [.str "sides", .int i, .int j] :: ds, .cons (.tup (SqT.of ha) (.cons (.str _) (.cons (.int _) (.cons (.int _) .nil)))) h1, by simp [h2], ?_⟩
    intro d hd
    rcases List.mem_cons.mp hd with rfl | hd
    · refine Pl.tup ?_
      intro d hd
      simp at hd
      rcases hd with rfl | rfl | rfl
      · exact .str _
      · exact .int _
      · exact .int _
    · exact h3 d hd
theorem sc_paper : FnScope ["pair", "box", "kind", "brick", "crossed", "axis", "bar"] ["pair", "box"] (defScope s_paper) := ⟨rfl, rfl, rfl, by decide +kernel, rfl, by decide +kernel, by decide +kernel⟩
def spPaper : Sp := fun vs H Q _ => ∃ (p b : Addr) (x0 x1 xb : List Int), vs = [.ref p, .ref b] ∧ PairAt H p x0 x1 ∧ H b = some (.tup (ivs xb)) ∧ Ok3 x0 x1 xb 100000 ∧ ∀ q H' hd, St' [] H H' → hasHd H' q hd → (hd = "cut" ↔ paperB x0 x1 xb = true) → Q (.ref q) H'
theorem ok_paper (T : Tx w K mg) (D_rests : Df R.prog w K mg base CX0 1 "rests" spRests) (D_crossing : Df R.prog w K mg base CX0 2 "crossing" spCross) (D_bar_along : Df R.prog w K mg base CX0 3 "bar_along" spBar) (D_least_times : Df R.prog w K mg base CX0 2 "least_times" spLt) : Df R.prog w K mg base CX0 4 "paper" spPaper := by
  refine df_of T.d_paper T.g_paper sc_paper (fun _ _ _ _ _ _ us hl => match us, hl with | [_, _], _ => rfl)
    (fun vs H Q E h => by repeat (first | (obtain ⟨rfl, _⟩ := h; rfl) | (obtain ⟨_, h⟩ := h))) (fun cdv A outer s H vs Q E hr h => ?_)
  have nd := sc_paper.nd
  refine ⟨_, (pss_cons (ps_for (passes_of rfl) rfl (pi_enumT T.n_enumerate (pa_cons (pv 0) pa_nil)) (pg_tup rfl (pgs_cons (pg_name (i := 2) nd rfl (by first | exact Or.inl rfl | exact Or.inr rfl)) (pgs_cons (pg_name (i := 3) nd rfl (by first | exact Or.inl rfl | exact Or.inr rfl)) pgs_nil))) (pss_one (ps_if (pt_cmpR (op_eqD hr.units) (pe_df D_rests hr (by decide) pass0 (pa_cons (pv 3) (pa_cons (pv 1) pa_nil))) (pe_lst pa_nil) (nomark _)) (pss_one (ps_ret (pe_tup (pa_cons (pe_gk T.c_CUT) (pa_cons (pv 2) (pa_cons pe_int (pa_cons (pe_ix ix_tup (pv 1) pe_int (fun _ _ => rfl)) pa_nil))))))) pss_nil)))
          (pss_cons (ps_set (i := 4) nd rfl (by first | exact Or.inl rfl | exact Or.inr rfl) (pe_df D_crossing hr (by decide) pass0 (pa_cons (pv 0) (pa_cons (pv 1) pa_nil))))
          (pss_cons (ps_if (pt_cmpR (op_neD hr.units) (pv 4) (pe_lst pa_nil) (nomark _)) (pss_one (ps_ret (pe_ix ix_list (pv 4) pe_int (fun _ _ => rfl)))) pss_nil)
          (pss_cons (ps_set (i := 5) nd rfl (by first | exact Or.inl rfl | exact Or.inr rfl) (pe_ix ix_list (pe_df D_rests hr (by decide) pass0 (pa_cons (pe_ix ix_tup (pv 0) pe_int (fun _ _ => rfl)) (pa_cons (pv 1) pa_nil))) pe_int (fun _ _ => rfl)))
          (pss_cons (ps_set (i := 6) nd rfl (by first | exact Or.inl rfl | exact Or.inr rfl) (pe_df D_bar_along hr (by decide) pass0 (pa_cons (pv 0) (pa_cons (pv 1) (pa_cons (pv 5) pa_nil)))))
          (pss_cons (ps_if (pt_cmpR op_notN (pv 6) pe_non (nomark _)) (pss_one (ps_ret (pv 6))) pss_nil)
          (pss_one (ps_ret (pe_tup (pa_cons (pe_gk T.c_CUT) (pa_cons pe_int (pa_cons (pv 5) (pa_cons (pe_op op_mul (pe_ix ix_tup (pe_ix ix_tup (pv 0) pe_int (fun _ _ => rfl)) (pv 5) (fun _ _ => rfl)) (pe_df D_least_times hr (by decide) pass0 (pa_cons (pe_ix ix_tup (pe_ix ix_tup (pv 0) pe_int (fun _ _ => rfl)) (pv 5) (fun _ _ => rfl)) (pa_cons (pe_ix ix_tup (pe_ix ix_tup (pv 0) pe_int (fun _ _ => rfl)) (pv 5) (fun _ _ => rfl)) (pa_cons (pe_ix ix_tup (pv 1) (pv 5) (fun _ _ => rfl)) pa_nil))))) pa_nil))))))))))))), ?_⟩
  obtain ⟨p, b, x0, x1, xb, rfl, hp, hb, ok, q⟩ := h
  obtain ⟨a0, a1, ha, h0, h1⟩ := hp
  refine ⟨_, rfl, p, [.ref a0, .ref a1], rfl, SqT.of ha, for_enumT (xs := [.ref a0, .ref a1]) (fun i σ H' => (∃ u v, σ = [some (.ref p), some (.ref b), u, v, none, none, none]) ∧ (0 < i → rsL x0 xb ≠ []) ∧ (1 < i → rsL x1 xb ≠ []) ∧ St' [] H H') ⟨⟨_, _, rfl⟩, by simp, by simp, .refl⟩ (fun i σ H' _ p => SqT.of (p.2.2.2.tp _ _ ha)) ?_ ?_⟩
  · rintro i x T' σ H' hi hT ⟨⟨u, v, rfl⟩, z0, z1, st⟩
    have st1 := st.new (p := T') (o := .tup [.int (i : Nat), x]) hT
    obtain ⟨ax, xs, rfl, hax, sd, ln, hcut⟩ : ∃ ax xs, x = .ref ax ∧ H ax = some (.tup (ivs xs)) ∧ Sd xs 100000 ∧ xs.length = x0.length ∧ ((rsL xs xb = [] → paperB x0 x1 xb = true) ∧ (rsL xs xb ≠ [] → (0 < i + 1 → rsL x0 xb ≠ []) ∧ (1 < i + 1 → rsL x1 xb ≠ []))) := by
      match i, hi with
      | 0, hi =>
        cases hi
        refine ⟨a0, x0, rfl, h0, ok.s0, rfl, fun e => ?_, fun e => ⟨fun _ => e, by simp⟩⟩
        unfold paperB
        rw [e]
      | 1, hi =>
        cases hi
        refine ⟨a1, x1, rfl, h1, ok.s1, ok.l1, fun e => ?_, fun e => ⟨fun _ => z0 (by decide), fun _ => e⟩⟩
        unfold paperB
        rw [e]
        split
        · rfl
        · simp
    simp only [tRet, tAndV, tOrV, tNotV, tCB, tCons, tNil, tC, tVar, tChain, rI0, tIfS, tTest, tOp, tUn, rU, rI, tPar3, tBM, tBM0, tM1, gSub, tXm, tCon, tProp, tMethR, rEq, rNe, rIxT, rIxL, decide_true, decide_false, tAnd, tOr, tNot, tB, tSeq, tAsg, gName, tDrop, tNext, tTup, tLst, tIf, tDf, tFld, tMf0, tPart, tSl, tNoPart, tPar, gTup, gLst, gCons, gNil, L2.start, List.map_cons, List.map_nil, List.length_cons, List.length_nil, Nat.zero_add, Nat.sub_self, Nat.reduceAdd, Nat.reduceSub, List.replicate_zero, List.replicate_succ, List.append_nil, List.nil_append, List.cons_append, List.getElem?_cons_zero, List.getElem?_cons_succ, List.set_cons_zero, List.set_cons_succ, Option.some.injEq, exists_and_left, exists_eq_left', exists_eq_left, V.int.injEq, V.bl.injEq, V.str.injEq, V.ref.injEq, List.cons.injEq, and_true, true_and, if_true, if_false, Bool.false_eq_true, reduceCtorEq, Bool.not_true, Bool.not_false, cxOf]
    refine ⟨_, SqT.of upd_same, rfl, _, _, rfl, _, _, rfl, rfl, ax, b, xs, xb, rfl, st1.tp _ _ hax, st1.tp _ _ hb, by rw [ln, ok.lb], by rw [ln]; exact ok.s0.n4, fun x hx => (sd.all x hx).1, fun L0 H2 s2 n2 hL => ?_⟩
    have st2 := st1.trans s2
    refine ⟨by decide, fun q2 nq2 => ?_⟩
    have s3 := (St'.refl (M := []) |>.new (p := q2) (o := .lst []) nq2)
    have st3 := st2.trans s3
    refine ⟨_, _, dp_intsL (s3.kp _ _ hL (by simp)), dp_nilL upd_same, (Pl.lst (n := 1) (pl_ints _)).sh, (Pl.lst (n := 1) (by simp)).sh, ?_⟩
    rw [eqv_nil]
    by_cases c : rsL xs xb = []
    · obtain ⟨b0, rb, eb⟩ : ∃ b0 rb, xb = b0 :: rb := by
        have := ok.sb.n1
        cases xb with
        | nil => simp at this
        | cons b0 rb => exact ⟨b0, rb, rfl⟩
      refine ⟨_, rfl, ?_⟩
      rw [if_pos (by simp [c])]
      have hb3 := st3.tp _ _ hb
      refine ⟨_, SqT.of hb3, _, atIv (i := 0) (by rw [eb]; rfl), by decide, fun r nr => ?_⟩
      exact q r _ "cut" (st3.new nr) ⟨_, upd_same⟩ ⟨fun _ => hcut.1 c, fun _ => rfl⟩
    · refine ⟨_, rfl, ?_⟩
      rw [if_neg (by simp [c])]
      have z := hcut.2 c
      exact ⟨⟨_, rfl⟩, z.1, z.2, st3⟩
  · rintro σ H1 ⟨⟨u, v, rfl⟩, z0, z1, st⟩
    have z0 := z0 (by simp)
    have z1 := z1 (by simp)
    obtain ⟨i0, r0, e0⟩ : ∃ i r, rsL x0 xb = i :: r := by
      cases e : rsL x0 xb with
      | nil => exact absurd e z0
      | cons i r => exact ⟨i, r, rfl⟩
    obtain ⟨k, rfl, _, k1, k2⟩ := rsN_mem x0 xb 0 i0 (by show i0 ∈ rsL x0 xb; rw [e0]; simp)
    have pb : paperB x0 x1 xb = (crossE x0 x1 xb && barAt x0 x1 xb k) := by
      unfold paperB
      rw [e0]
      simp [z1]
    have k3 : k < x0.length := by omega
    have k4 : k < xb.length := by omega
    have k5 : k < x1.length := by rw [ok.l1]; exact k3
    have lx := ok.l1
    have lb := ok.lb
    have n4 := ok.sb.n4
    simp only [tRet, tAndV, tOrV, tNotV, tCB, tCons, tNil, tC, tVar, tChain, rI0, tIfS, tTest, tOp, tUn, rU, rI, tPar3, tBM, tBM0, tM1, gSub, tXm, tCon, tProp, tMethR, rEq, rNe, rIxT, rIxL, decide_true, decide_false, tAnd, tOr, tNot, tB, tSeq, tAsg, gName, tDrop, tNext, tTup, tLst, tIf, tDf, tFld, tMf0, tPart, tSl, tNoPart, tPar, gTup, gLst, gCons, gNil, L2.start, List.map_cons, List.map_nil, List.length_cons, List.length_nil, Nat.zero_add, Nat.sub_self, Nat.reduceAdd, Nat.reduceSub, List.replicate_zero, List.replicate_succ, List.append_nil, List.nil_append, List.cons_append, List.getElem?_cons_zero, List.getElem?_cons_succ, List.set_cons_zero, List.set_cons_succ, Option.some.injEq, exists_and_left, exists_eq_left', exists_eq_left, V.int.injEq, V.bl.injEq, V.str.injEq, V.ref.injEq, List.cons.injEq, and_true, true_and, if_true, if_false, Bool.false_eq_true, reduceCtorEq, Bool.not_true, Bool.not_false, cxOf]
    refine ⟨p, b, x0, x1, xb, rfl, ⟨a0, a1, st.tp _ _ ha, st.tp _ _ h0, st.tp _ _ h1⟩, st.tp _ _ hb, by omega, by omega, by omega, fun x hx => (ok.s0.all x hx).1, fun x hx => (ok.s1.all x hx).1, ?_, ?_⟩
    · intro c L H2 s2 hL
      have st2 := st.trans s2
      simp only [tRet, tAndV, tOrV, tNotV, tCB, tCons, tNil, tC, tVar, tChain, rI0, tIfS, tTest, tOp, tUn, rU, rI, tPar3, tBM, tBM0, tM1, gSub, tXm, tCon, tProp, tMethR, rEq, rNe, rIxT, rIxL, decide_true, decide_false, tAnd, tOr, tNot, tB, tSeq, tAsg, gName, tDrop, tNext, tTup, tLst, tIf, tDf, tFld, tMf0, tPart, tSl, tNoPart, tPar, gTup, gLst, gCons, gNil, L2.start, List.map_cons, List.map_nil, List.length_cons, List.length_nil, Nat.zero_add, Nat.sub_self, Nat.reduceAdd, Nat.reduceSub, List.replicate_zero, List.replicate_succ, List.append_nil, List.nil_append, List.cons_append, List.getElem?_cons_zero, List.getElem?_cons_succ, List.set_cons_zero, List.set_cons_succ, Option.some.injEq, exists_and_left, exists_eq_left', exists_eq_left, V.int.injEq, V.bl.injEq, V.str.injEq, V.ref.injEq, List.cons.injEq, and_true, true_and, if_true, if_false, Bool.false_eq_true, reduceCtorEq, Bool.not_true, Bool.not_false, cxOf]
      refine ⟨by decide, fun q2 nq2 => ?_⟩
      have s3 := (St'.refl (M := []) |>.new (p := q2) (o := .lst []) nq2)
      have st3 := st2.trans s3
      refine ⟨_, _, dp_nilL (s3.kp _ _ hL (by simp)), dp_nilL upd_same, (Pl.lst (n := 1) (by simp)).sh, (Pl.lst (n := 1) (by simp)).sh, ?_⟩
      rw [eqv_nil]
      refine ⟨_, rfl, ?_⟩
      rw [if_neg (by simp)]
      refine ⟨_, SqT.of (st3.tp _ _ ha), _, rfl, a0, b, x0, xb, rfl, st3.tp _ _ h0, st3.tp _ _ hb, by omega, by omega, fun x hx => (ok.s0.all x hx).1, fun L0 H4 s4 n4 hL0 => ?_⟩
      have st4 := st3.trans s4
      refine ⟨L0, rfl, _, SqL.of hL0, _, atIv (i := 0) (by rw [e0]; rfl), ?_⟩
      have hbar : barAt x0 x1 xb k = barN x0[k] x1[k] xb[k] := by
        unfold barAt
        rw [show ((k : Int)).toNat = k from rfl]
        simp [k3, k4, k5]
      refine ⟨p, b, x0, x1, xb, k, x0[k], x1[k], xb[k], rfl, ⟨a0, a1, st4.tp _ _ ha, st4.tp _ _ h0, st4.tp _ _ h1⟩, st4.tp _ _ hb, by simp [k3], by simp [k5], by simp [k4], (ok.s0.all _ (List.getElem_mem k3)).1, (ok.s0.all _ (List.getElem_mem k3)).2, (ok.s1.all _ (List.getElem_mem k5)).1, (ok.s1.all _ (List.getElem_mem k5)).2, (ok.sb.all _ (List.getElem_mem k4)).1, (ok.sb.all _ (List.getElem_mem k4)).2, ?_, ?_⟩
      · intro d H5 s5
        have st5 := st4.trans s5
        have hx0 : x0[k]? = some x0[k] := by simp [k3]
        have hx1 : x1[k]? = some x1[k] := by simp [k5]
        have hxb : xb[k]? = some xb[k] := by simp [k4]
        have h0' := st5.tp _ _ h0
        have h1' := st5.tp _ _ h1
        have ha' := st5.tp _ _ ha
        have hb' := st5.tp _ _ hb
        rw [if_neg (by simp)]
        repeat (first | (refine ⟨_, SqT.of (by first | assumption | exact St'.tp (H := H) (by assumption) _ _ (by assumption)), ?_⟩) | (refine ⟨_, .inr (SqT.of (by first | assumption | exact St'.tp (H := H) (by assumption) _ _ (by assumption))), ?_⟩) | (refine ⟨_, rfl, ?_⟩) | (refine ⟨_, atIv (by assumption), ?_⟩) | (refine ⟨_, _, ⟨rfl, rfl⟩, ?_⟩) | (refine ⟨rfl, ?_⟩) | simp only [tRet, tAndV, tOrV, tNotV, tCB, tCons, tNil, tC, tVar, tChain, rI0, tIfS, tTest, tOp, tUn, rU, rI, tPar3, tBM, tBM0, tM1, gSub, tXm, tCon, tProp, tMethR, rEq, rNe, rIxT, rIxL, decide_true, decide_false, tAnd, tOr, tNot, tB, tSeq, tAsg, gName, tDrop, tNext, tTup, tLst, tIf, tDf, tFld, tMf0, tPart, tSl, tNoPart, tPar, gTup, gLst, gCons, gNil, L2.start, List.map_cons, List.map_nil, List.length_cons, List.length_nil, Nat.zero_add, Nat.sub_self, Nat.reduceAdd, Nat.reduceSub, List.replicate_zero, List.replicate_succ, List.append_nil, List.nil_append, List.cons_append, List.getElem?_cons_zero, List.getElem?_cons_succ, List.set_cons_zero, List.set_cons_succ, Option.some.injEq, exists_and_left, exists_eq_left', exists_eq_left, V.int.injEq, V.bl.injEq, V.str.injEq, V.ref.injEq, List.cons.injEq, and_true, true_and, if_true, if_false, Bool.false_eq_true, reduceCtorEq, Bool.not_true, Bool.not_false, cxOf])
        refine ⟨_, _, _, rfl, (ok.s0.all _ (List.getElem_mem k3)).1, (ok.s0.all _ (List.getElem_mem k3)).2, (ok.s1.all _ (List.getElem_mem k5)).1, (ok.s1.all _ (List.getElem_mem k5)).2, (ok.sb.all _ (List.getElem_mem k4)).1, (ok.sb.all _ (List.getElem_mem k4)).2, fun H6 s6 => ?_⟩
        have st6 := st5.trans s6
        have m0 := ok.s0.all _ (List.getElem_mem k3)
        unfold ltV
        unfold barN at d
        cases lt : ltF x0[k] x1[k] xb[k] with
        | none => rw [lt] at d; cases d
        | some t =>
          refine ⟨t, rfl, .inl ⟨by omega, by omega⟩, by decide, fun r nr => ?_⟩
          refine q r _ "cut" (st6.new nr) ⟨_, upd_same⟩ ⟨fun _ => ?_, fun _ => rfl⟩
          rw [pb, c, hbar]
          unfold barN
          rw [lt] at d ⊢
          exact d
      · intro d q5 H5 hd s5 h5 hne
        have st5 := st4.trans s5
        refine q q5 H5 hd st5 h5 ⟨fun e => absurd e hne, fun e => ?_⟩
        rw [pb, c, hbar, d] at e
        cases e
    · intro c L H2 v r s2 hL hs
      have st2 := st.trans s2
      obtain ⟨a, i1, j1, rfl, hav⟩ := hs v (by simp)
      simp only [tRet, tAndV, tOrV, tNotV, tCB, tCons, tNil, tC, tVar, tChain, rI0, tIfS, tTest, tOp, tUn, rU, rI, tPar3, tBM, tBM0, tM1, gSub, tXm, tCon, tProp, tMethR, rEq, rNe, rIxT, rIxL, decide_true, decide_false, tAnd, tOr, tNot, tB, tSeq, tAsg, gName, tDrop, tNext, tTup, tLst, tIf, tDf, tFld, tMf0, tPart, tSl, tNoPart, tPar, gTup, gLst, gCons, gNil, L2.start, List.map_cons, List.map_nil, List.length_cons, List.length_nil, Nat.zero_add, Nat.sub_self, Nat.reduceAdd, Nat.reduceSub, List.replicate_zero, List.replicate_succ, List.append_nil, List.nil_append, List.cons_append, List.getElem?_cons_zero, List.getElem?_cons_succ, List.set_cons_zero, List.set_cons_succ, Option.some.injEq, exists_and_left, exists_eq_left', exists_eq_left, V.int.injEq, V.bl.injEq, V.str.injEq, V.ref.injEq, List.cons.injEq, and_true, true_and, if_true, if_false, Bool.false_eq_true, reduceCtorEq, Bool.not_true, Bool.not_false, cxOf]
      refine ⟨by decide, fun q2 nq2 => ?_⟩
      have s3 := (St'.refl (M := []) |>.new (p := q2) (o := .lst []) nq2)
      have st3 := st2.trans s3
      obtain ⟨ds, e1', e2, e3⟩ := dpa_sds (K := K) (H := upd H2 q2 (.lst [])) (L := .ref a :: r) fun z hz => by
        obtain ⟨a, i, j, e, h⟩ := hs z hz
        exact ⟨a, i, j, e, s3.tp _ _ h⟩
      refine ⟨.list ds, _, .lst (SqL.of (s3.kp _ _ hL (by simp))) e1', dp_nilL upd_same, (Pl.lst (n := 1) e3).sh, (Pl.lst (n := 1) (by simp)).sh, ?_⟩
      rw [eqv_nil]
      refine ⟨_, rfl, ?_⟩
      rw [if_pos (by cases ds with | nil => simp at e2 | cons => simp)]
      refine ⟨_, SqL.of (s3.kp _ _ hL (by simp)), _, atI_nat (j := 0) rfl, ?_⟩
      refine q a _ "sides" st3 ⟨_, s3.tp _ _ hav⟩ ⟨fun e => absurd e (by decide), fun e => ?_⟩
      rw [pb, c] at e
      cases e
theorem gm_paper_papers (T : Tx w K mg) : mg "paper_papers" = some (.ref (He.ga K "paper")) := T.g_paper_papers
end
end Yk
set_option Elab.async false
set_option linter.all false
set_option maxRecDepth 100000
set_option maxHeartbeats 4000000
/-! is_filled, texts -/
namespace Yk
open PySem PySem.Spec PyProof.Rows L2
abbrev itoS (i : Int) : Str := Str.ofString (toString i)
def sidesT (xs : List Int) : Str := Txt.join "x" (xs.map itoS)
def kindsT (x0 x1 : List Int) : Str := Txt.join " " [sidesT x0, sidesT x1]
theorem ito_len {i : Int} (h0 : 0 ≤ i) (h1 : i < 10 ^ 6) : (itoS i).length ≤ 6 := toString_length_le h0 (by decide) h1
theorem ito_log {i : Int} (h0 : 0 ≤ i) (h1 : i ≤ 1000000000000000000) : i.natAbs.log2 < 1920 := by
  by_cases z : i.natAbs = 0
  · rw [z]; decide
  · rw [Nat.log2_lt z]
    have h : i.natAbs ≤ 1000000000000000000 := by omega
    exact Nat.lt_of_le_of_lt h (by decide)
theorem sum_le {n : Nat} : ∀ {xs : List Nat}, (∀ x ∈ xs, x ≤ n) → xs.sum ≤ xs.length * n
  | [], _ => by simp
  | x :: xs, h => by
    have h1 := h x (by simp)
    have h2 := sum_le (xs := xs) fun y hy => h y (by simp [hy])
    simp [Nat.succ_mul]
    omega
theorem sidesT_len {xs : List Int} {m : Int} (h : Sd xs m) (hm : m < 10 ^ 6) : (sidesT xs).length ≤ 28 := by
  unfold sidesT
  rw [TL.join_eq]
  have h1 := StrLaws.join_length_le "x" (xs.map itoS)
  have h2 : ((xs.map itoS).map (·.length)).sum ≤ ((xs.map itoS).map (·.length)).length * 6 := sum_le fun y hy => by
    obtain ⟨t, ht, rfl⟩ := List.mem_map.mp hy
    obtain ⟨i, hi, rfl⟩ := List.mem_map.mp ht
    have := h.all i hi
    exact ito_len (by omega) (by omega)
  have h3 : ("x" : Str).length = 1 := by decide
  have h4 := h.n4
  simp only [List.length_map, h3] at h1 h2
  omega
theorem kindsT_len {x0 x1 : List Int} (h0 : (sidesT x0).length ≤ 28) (h1 : (sidesT x1).length ≤ 28) : (kindsT x0 x1).length ≤ 60 := by
  unfold kindsT
  rw [TL.join_eq]
  have z := StrLaws.join_length_le " " [sidesT x0, sidesT x1]
  have h3 : (" " : Str).length = 1 := by decide
  simp at z
  omega
theorem Df.alias {P : Program} {w : World} {K : KF} {mg : Str → Option Value} {base : Heap} {CX : CXT} {k : Nat} {x y : Str} {sp : Sp} (D : Df P w K mg base CX k x sp) (e : He.ga K y = He.ga K x) (g : mg y = some (.ref (He.ga K x))) : Df P w K mg base CX k y sp := by
  refine ⟨?_, ?_, ?_⟩
  · rw [e]; exact D.fn
  · rw [e]; exact D.kp
  · rw [e]; exact g
section
variable {w : World} {K : KF} {mg : Str → Option Value} {base : Heap}
theorem ga_papers (T : Tx w K mg) : He.ga K "paper_papers" = He.ga K "paper" := by
  have hf : He.eqO (PySem.W.nsIn K mainGlobals "paper_papers") (some (some (.ref (He.ga K "paper")))) = true := T.fact 67
  have e := He.eqO_ok hf
  rw [show He.ga K "paper_papers" = (match PySem.W.nsIn K mainGlobals "paper_papers" with
    | some (some (.ref a)) => a
    | _ => 0) from rfl, e]
theorem ok_paper_papers (T : Tx w K mg) (D : Df R.prog w K mg base CX0 4 "paper" spPaper) : Df R.prog w K mg base CX0 4 "paper_papers" spPaper := D.alias (ga_papers T) T.g_paper_papers
theorem sc_is_filled : FnScope ["pair", "box"] ["pair", "box"] (defScope s_is_filled) := ⟨rfl, rfl, rfl, by decide +kernel, rfl, by decide +kernel, by decide +kernel⟩
def spFilled : Sp := fun vs H Q _ => ∃ (p b : Addr) (x0 x1 xb : List Int), vs = [.ref p, .ref b] ∧ PairAt H p x0 x1 ∧ H b = some (.tup (ivs xb)) ∧ Ok3 x0 x1 xb 100000 ∧ ∀ H', St' [] H H' → Q (.bl (paperB x0 x1 xb)) H'
theorem ok_is_filled (T : Tx w K mg) (D_paper_papers : Df R.prog w K mg base CX0 4 "paper_papers" spPaper) : Df R.prog w K mg base CX0 5 "is_filled" spFilled := by
  refine df_of T.d_is_filled T.g_is_filled sc_is_filled (fun _ _ _ _ _ _ us hl => match us, hl with | [_, _], _ => rfl)
    (fun vs H Q E h => by repeat (first | (obtain ⟨rfl, _⟩ := h; rfl) | (obtain ⟨_, h⟩ := h))) (fun cdv A outer s H vs Q E hr h => ?_)
  have nd := sc_is_filled.nd
  refine ⟨_, (pss_one (ps_ret (pe_cmpR op_eq (pe_ix ix_tup (pe_df D_paper_papers hr (by decide) pass0 (pa_cons (pv 0) (pa_cons (pv 1) pa_nil))) pe_int (fun _ _ => rfl)) (pe_gk T.c_CUT) (nomark _)))), ?_⟩
  obtain ⟨p, b, x0, x1, xb, rfl, hp, hb, ok, q⟩ := h
  simp only [tRet, tAndV, tOrV, tNotV, tCB, tCons, tNil, tC, tVar, tChain, rI0, tIfS, tTest, tOp, tUn, rU, rI, tPar3, tBM, tBM0, tM1, gSub, tXm, tCon, tProp, tMethR, rEq, rNe, rIxT, rIxL, decide_true, decide_false, tAnd, tOr, tNot, tB, tSeq, tAsg, gName, tDrop, tNext, tTup, tLst, tIf, tDf, tFld, tMf0, tPart, tSl, tNoPart, tPar, gTup, gLst, gCons, gNil, L2.start, List.map_cons, List.map_nil, List.length_cons, List.length_nil, Nat.zero_add, Nat.sub_self, Nat.reduceAdd, Nat.reduceSub, List.replicate_zero, List.replicate_succ, List.append_nil, List.nil_append, List.cons_append, List.getElem?_cons_zero, List.getElem?_cons_succ, List.set_cons_zero, List.set_cons_succ, Option.some.injEq, exists_and_left, exists_eq_left', exists_eq_left, V.int.injEq, V.bl.injEq, V.str.injEq, V.ref.injEq, List.cons.injEq, and_true, true_and, if_true, if_false, Bool.false_eq_true, reduceCtorEq, Bool.not_true, Bool.not_false, cxOf]
  refine ⟨p, b, x0, x1, xb, rfl, hp, hb, ok, fun r H' hd st ⟨rest, hr⟩ e => ?_⟩
  have q' := q H' st
  refine ⟨r, rfl, _, SqT.of hr, _, atI_nat (j := 0) rfl, ?_⟩
  by_cases c : hd = "cut"
  · rw [e.mp c] at q'
    refine ⟨rfl, ?_⟩
    simpa [c] using q'
  · have c' : paperB x0 x1 xb = false := by
      cases z : paperB x0 x1 xb with
      | false => rfl
      | true => exact absurd (e.mpr z) c
    rw [c'] at q'
    refine ⟨rfl, ?_⟩
    simpa [c] using q'
theorem sc_sides_text : FnScope ["sides", "side"] ["sides"] (defScope s_sides_text) := ⟨rfl, rfl, rfl, by decide +kernel, rfl, by decide +kernel, by decide +kernel⟩
def spSidesT : Sp := fun vs H Q _ => ∃ (a : Addr) (xs : List Int), vs = [.ref a] ∧ H a = some (.tup (ivs xs)) ∧ Sd xs 100000 ∧ ∀ H', St' [] H H' → Q (.str (sidesT xs)) H'
theorem ok_sides_text (T : Tx w K mg) : Df R.prog w K mg base CX0 1 "sides_text" spSidesT := by
  refine df_of T.d_sides_text T.g_sides_text sc_sides_text (fun _ _ _ _ _ _ us hl => match us, hl with | [_], _ => rfl)
    (fun vs H Q E h => by repeat (first | (obtain ⟨rfl, _⟩ := h; rfl) | (obtain ⟨_, h⟩ := h))) (fun cdv A outer s H vs Q E hr h => ?_)
  have nd := sc_sides_text.nd
  refine ⟨_, (pss_one (ps_ret (pe_join pe_str (pe_lc (own := [("side", 1)]) (g := (gName 1)) (tt := tYes) rfl nd (pi_tup (pv 0)) (blkOk_by (own := [("side", 1)]) (N := ["sides", "side"]) (sc := defScope s_sides_text) (by decide +kernel)) (fun _ _ _ _ _ => (pg_name (i := 1) nd rfl (by first | exact Or.inl rfl | exact Or.inr rfl))) (fun _ _ _ _ _ => pts_nil) (fun _ _ _ _ _ => (pe_callTy call_str_int rfl T.n_str (by decide +kernel) (pa_cons (pv 1) pa_nil))))))), ?_⟩
  obtain ⟨a, xs, rfl, ha, sd, q⟩ := h
  simp only [tRet, tAndV, tOrV, tNotV, tCB, tCons, tNil, tC, tVar, tChain, rI0, tIfS, tTest, tOp, tUn, rU, rI, tPar3, tBM, tBM0, tM1, gSub, tXm, tCon, tProp, tMethR, rEq, rNe, rIxT, rIxL, decide_true, decide_false, tAnd, tOr, tNot, tB, tSeq, tAsg, gName, tDrop, tNext, tTup, tLst, tIf, tDf, tFld, tMf0, tPart, tSl, tNoPart, tPar, gTup, gLst, gCons, gNil, L2.start, List.map_cons, List.map_nil, List.length_cons, List.length_nil, Nat.zero_add, Nat.sub_self, Nat.reduceAdd, Nat.reduceSub, List.replicate_zero, List.replicate_succ, List.append_nil, List.nil_append, List.cons_append, List.getElem?_cons_zero, List.getElem?_cons_succ, List.set_cons_zero, List.set_cons_succ, Option.some.injEq, exists_and_left, exists_eq_left', exists_eq_left, V.int.injEq, V.bl.injEq, V.str.injEq, V.ref.injEq, List.cons.injEq, and_true, true_and, if_true, if_false, Bool.false_eq_true, reduceCtorEq, Bool.not_true, Bool.not_false, cxOf]
  refine ⟨⟨_, rfl⟩, _, rfl, a, rfl, ⟨_, SqT.of ha⟩, fun D hD => lc_tup (xs := ivs xs) (fun i H' => H' D = some (.lst ((xs.take i).map fun x => .str (itoS x))) ∧ St' [] H H') ⟨upd_same, St'.refl.new hD⟩ (fun i H' _ p => SqT.of (p.2.tp _ _ ha)) ?_ ?_⟩
  · rintro i x H' hi ⟨hacc, st⟩
    obtain ⟨z, hz, rfl⟩ := ivs_get hi
    have b := sd.all z (List.mem_of_getElem? hz)
    have n4 := sd.n4
    simp only [wipe, tYes, tCB, tRet, tAndV, tOrV, tNotV, tCB, tCons, tNil, tC, tVar, tChain, rI0, tIfS, tTest, tOp, tUn, rU, rI, tPar3, tBM, tBM0, tM1, gSub, tXm, tCon, tProp, tMethR, rEq, rNe, rIxT, rIxL, decide_true, decide_false, tAnd, tOr, tNot, tB, tSeq, tAsg, gName, tDrop, tNext, tTup, tLst, tIf, tDf, tFld, tMf0, tPart, tSl, tNoPart, tPar, gTup, gLst, gCons, gNil, L2.start, List.map_cons, List.map_nil, List.length_cons, List.length_nil, Nat.zero_add, Nat.sub_self, Nat.reduceAdd, Nat.reduceSub, List.replicate_zero, List.replicate_succ, List.append_nil, List.nil_append, List.cons_append, List.getElem?_cons_zero, List.getElem?_cons_succ, List.set_cons_zero, List.set_cons_succ, Option.some.injEq, exists_and_left, exists_eq_left', exists_eq_left, V.int.injEq, V.bl.injEq, V.str.injEq, V.ref.injEq, List.cons.injEq, and_true, true_and, if_true, if_false, Bool.false_eq_true, reduceCtorEq, Bool.not_true, Bool.not_false, cxOf]
    refine ⟨ito_log (by omega) (by omega), _, hacc, by simp [sizeLine]; omega, ?_, st.own hD⟩
    rw [upd_same, List.take_add_one, hz]
    simp
    rfl
  · rintro H' ⟨hacc, st⟩
    simp only [List.length_map, List.take_length] at hacc
    refine ⟨D, rfl, xs.map itoS, .inl (SqL.of (by rw [hacc]; simp [Function.comp_def])), ?_, q H' st⟩
    have h2 : ((xs.map itoS).map (·.length)).sum ≤ ((xs.map itoS).map (·.length)).length * 6 := sum_le fun y hy => by
      obtain ⟨t, ht, rfl⟩ := List.mem_map.mp hy
      obtain ⟨i, hi, rfl⟩ := List.mem_map.mp ht
      have := sd.all i hi
      exact ito_len (by omega) (by omega)
    have h3 : ("x" : Str).length = 1 := by decide
    have h4 := sd.n4
    simp only [List.length_map, h3] at h2 ⊢
    omega
theorem sc_kinds_text : FnScope ["kinds", "sides"] ["kinds"] (defScope s_kinds_text) := ⟨rfl, rfl, rfl, by decide +kernel, rfl, by decide +kernel, by decide +kernel⟩
def spKindsT : Sp := fun vs H Q _ => ∃ (a : Addr) (x0 x1 : List Int), vs = [.ref a] ∧ PairAt H a x0 x1 ∧ Sd x0 100000 ∧ Sd x1 100000 ∧ ∀ H', St' [] H H' → Q (.str (kindsT x0 x1)) H'
theorem ok_kinds_text (T : Tx w K mg) (D_sides_text : Df R.prog w K mg base CX0 1 "sides_text" spSidesT) : Df R.prog w K mg base CX0 2 "kinds_text" spKindsT := by
  refine df_of T.d_kinds_text T.g_kinds_text sc_kinds_text (fun _ _ _ _ _ _ us hl => match us, hl with | [_], _ => rfl)
    (fun vs H Q E h => by repeat (first | (obtain ⟨rfl, _⟩ := h; rfl) | (obtain ⟨_, h⟩ := h))) (fun cdv A outer s H vs Q E hr h => ?_)
  have nd := sc_kinds_text.nd
  refine ⟨_, (pss_one (ps_ret (pe_join pe_str (pe_lc (own := [("sides", 1)]) (g := (gName 1)) (tt := tYes) rfl nd (pi_tup (pv 0)) (blkOk_by (own := [("sides", 1)]) (N := ["kinds", "sides"]) (sc := defScope s_kinds_text) (by decide +kernel)) (fun _ _ _ _ _ => (pg_name (i := 1) nd rfl (by first | exact Or.inl rfl | exact Or.inr rfl))) (fun _ _ _ _ _ => pts_nil) (fun _ _ _ _ _ => (pe_df D_sides_text hr (by decide) pass0 (pa_cons (pv 1) pa_nil))))))), ?_⟩
  obtain ⟨a, x0, x1, rfl, ⟨a0, a1, ha, h0, h1⟩, s0, s1, q⟩ := h
  simp only [tRet, tAndV, tOrV, tNotV, tCB, tCons, tNil, tC, tVar, tChain, rI0, tIfS, tTest, tOp, tUn, rU, rI, tPar3, tBM, tBM0, tM1, gSub, tXm, tCon, tProp, tMethR, rEq, rNe, rIxT, rIxL, decide_true, decide_false, tAnd, tOr, tNot, tB, tSeq, tAsg, gName, tDrop, tNext, tTup, tLst, tIf, tDf, tFld, tMf0, tPart, tSl, tNoPart, tPar, gTup, gLst, gCons, gNil, L2.start, List.map_cons, List.map_nil, List.length_cons, List.length_nil, Nat.zero_add, Nat.sub_self, Nat.reduceAdd, Nat.reduceSub, List.replicate_zero, List.replicate_succ, List.append_nil, List.nil_append, List.cons_append, List.getElem?_cons_zero, List.getElem?_cons_succ, List.set_cons_zero, List.set_cons_succ, Option.some.injEq, exists_and_left, exists_eq_left', exists_eq_left, V.int.injEq, V.bl.injEq, V.str.injEq, V.ref.injEq, List.cons.injEq, and_true, true_and, if_true, if_false, Bool.false_eq_true, reduceCtorEq, Bool.not_true, Bool.not_false, cxOf]
  refine ⟨⟨_, rfl⟩, _, rfl, a, rfl, ⟨_, SqT.of ha⟩, fun D hD => lc_tup (xs := [.ref a0, .ref a1]) (fun i H' => H' D = some (.lst (([x0, x1].take i).map fun x => .str (sidesT x))) ∧ St' [] H H') ⟨upd_same, St'.refl.new hD⟩ (fun i H' _ p => SqT.of (p.2.tp _ _ ha)) ?_ ?_⟩
  · rintro i x H' hi ⟨hacc, st⟩
    obtain ⟨ax, xs, rfl, hax, sd, tk⟩ : ∃ ax xs, x = .ref ax ∧ H ax = some (.tup (ivs xs)) ∧ Sd xs 100000 ∧ [x0, x1].take (i + 1) = [x0, x1].take i ++ [xs] := by
      match i, hi with
      | 0, hi => cases hi; exact ⟨a0, x0, rfl, h0, s0, rfl⟩
      | 1, hi => cases hi; exact ⟨a1, x1, rfl, h1, s1, rfl⟩
    simp only [wipe, tYes, tRet, tAndV, tOrV, tNotV, tCB, tCons, tNil, tC, tVar, tChain, rI0, tIfS, tTest, tOp, tUn, rU, rI, tPar3, tBM, tBM0, tM1, gSub, tXm, tCon, tProp, tMethR, rEq, rNe, rIxT, rIxL, decide_true, decide_false, tAnd, tOr, tNot, tB, tSeq, tAsg, gName, tDrop, tNext, tTup, tLst, tIf, tDf, tFld, tMf0, tPart, tSl, tNoPart, tPar, gTup, gLst, gCons, gNil, L2.start, List.map_cons, List.map_nil, List.length_cons, List.length_nil, Nat.zero_add, Nat.sub_self, Nat.reduceAdd, Nat.reduceSub, List.replicate_zero, List.replicate_succ, List.append_nil, List.nil_append, List.cons_append, List.getElem?_cons_zero, List.getElem?_cons_succ, List.set_cons_zero, List.set_cons_succ, Option.some.injEq, exists_and_left, exists_eq_left', exists_eq_left, V.int.injEq, V.bl.injEq, V.str.injEq, V.ref.injEq, List.cons.injEq, and_true, true_and, if_true, if_false, Bool.false_eq_true, reduceCtorEq, Bool.not_true, Bool.not_false, cxOf]
    refine ⟨ax, xs, rfl, st.tp _ _ hax, sd, fun H2 s2 => ?_⟩
    refine ⟨_, s2.kp _ _ hacc (by simp), by simp [sizeLine]; omega, ?_, (st.trans s2).own hD⟩
    rw [upd_same, tk]
    simp
  · rintro H' ⟨hacc, st⟩
    have l0 := sidesT_len s0 (by decide)
    have l1 := sidesT_len s1 (by decide)
    refine ⟨D, rfl, [sidesT x0, sidesT x1], .inl (SqL.of (by rw [hacc]; rfl)), ?_, q H' st⟩
    have h3 : (" " : Str).length = 1 := by decide
    simp
    omega
end
end Yk
set_option Elab.async false
set_option linter.all false
set_option maxRecDepth 100000
set_option maxHeartbeats 4000000
/-! deeds -/
namespace Yk
open PySem PySem.Spec PyProof.Rows L2
/-! ### what they compute -/
structure Pg where
  p0 : List Int
  p1 : List Int
  bx : List Int
structure Pg.Ok (g : Pg) (m : Int) : Prop where
  o3 : Ok3 g.p0 g.p1 g.bx m
def PgAt (H : Hp) (v : V) (g : Pg) : Prop := ∃ a ap ab, v = .ref a ∧ H a = some (.tup [.ref ap, .ref ab]) ∧ PairAt H ap g.p0 g.p1 ∧ H ab = some (.tup (ivs g.bx))
theorem PgAt.st {M : List Addr} {H H' : Hp} {v : V} {g : Pg} (h : PgAt H v g) (s : St' M H H') : PgAt H' v g := by
  obtain ⟨a, ap, ab, e, h1, h2, h3⟩ := h
  exact ⟨a, ap, ab, e, s.tp _ _ h1, h2.st s, s.tp _ _ h3⟩
inductive Out where
  | ok (g : Pg)
  | bad (x fl : Str) (v : V)
def Fin' (K : KF) (H : Hp) (o : Out) (Q : VK) (E : XK) : Prop := match o with
  | .ok g => ∀ v H', St' [] H H' → PgAt H' v g → Q v H'
  | .bad x fl v => ∀ d H', St' [] H H' → H' d = some (.xd [(fl, v)]) → E (.ref (He.ga K x)) (some d) H'
theorem Fin'.st {K : KF} {H H1 : Hp} {o : Out} {Q : VK} {E : XK} (h : Fin' K H o Q E) (s : St' [] H H1) : Fin' K H1 o Q E := by
  cases o with
  | ok g => exact fun v H' s' => h v H' (s.trans s')
  | bad x fl v => exact fun d H' s' => h d H' (s.trans s')
def toI : V → Int
  | .int i => i
  | _ => 0
abbrev toN (v : V) : Nat := (toI v).toNat
abbrev lst1 (xs : List Int) : Int := (xs.length : Int) - 1
def putSide (g : Pg) (a n : V) : Out := if inR a 0 (lst1 g.bx) then (if inR n 1 big then .ok { g with bx := g.bx.set (toN a) (toI n) } else .bad "BadSide" "given" n) else .bad "NoAxis" "given" a
def putBrick (g : Pg) (k a n : V) : Out := if inR k 0 1 then (if inR a 0 (lst1 g.bx) then (if inR n 1 big then .ok (if toI k = 0 then { g with p0 := g.p0.set (toN a) (toI n) } else { g with p1 := g.p1.set (toN a) (toI n) }) else .bad "BadSide" "given" n) else .bad "NoAxis" "given" a) else .bad "NoKind" "given" k
def swapP (g : Pg) : Out := .ok ⟨g.p1, g.p0, g.bx⟩
theorem inR_int {v : V} {lo hi : Int} (h : inR v lo hi = true) : v = .int (toI v) ∧ lo ≤ toI v ∧ toI v ≤ hi := by
  obtain ⟨i, rfl, h1, h2⟩ := inR_iff.mp h
  exact ⟨rfl, h1, h2⟩
/-- an axis that is in range -/
theorem inR_ax {v : V} {xs : List Int} (h : inR v 0 (lst1 xs) = true) : v = .int ((toN v : Nat) : Int) ∧ toN v < xs.length := by
  obtain ⟨e, h1, h2⟩ := inR_int h
  have e2 : ((toN v : Nat) : Int) = toI v := Int.toNat_of_nonneg h1
  rw [e2]
  exact ⟨e, by have h3 : toI v ≤ (xs.length : Int) - 1 := h2; omega⟩
section
variable {w : World} {K : KF} {mg : Str → Option Value} {base : Heap}
abbrev DfX (w : World) (K : KF) (mg : Str → Option Value) (base : Heap) (k : Nat) (x : Str) (sp : Sp) : Prop := Df R.prog w K mg base (L2.CX R.prog w) k x sp
theorem sc_require_axis : FnScope ["box", "axis"] ["box", "axis"] (defScope s_require_axis) := ⟨rfl, rfl, rfl, by decide +kernel, rfl, by decide +kernel, by decide +kernel⟩
def spReqAxis (K : KF) : Sp := fun vs H Q E => ∃ (b : Addr) (bx : List Int) (v : V), vs = [.ref b, v] ∧ H b = some (.tup (ivs bx)) ∧ TyV H v ∧ (inR v 0 (lst1 bx) = true → Q .non H) ∧ (inR v 0 (lst1 bx) = false → ∀ d H', St' [] H H' → H' d = some (.xd [("given", v)]) → E (.ref (He.ga K "NoAxis")) (some d) H')
theorem ok_require_axis (T : Tx w K mg) (D_is_integer : Df R.prog w K mg base CX0 1 "is_integer" spIsInt) : DfX w K mg base 3 "require_axis" (spReqAxis K) := by
  refine df_of T.d_require_axis T.g_require_axis sc_require_axis (fun _ _ _ _ _ _ us hl => match us, hl with | [_, _], _ => rfl)
    (fun vs H Q E h => by repeat (first | (obtain ⟨rfl, _⟩ := h; rfl) | (obtain ⟨_, h⟩ := h))) (fun cdv A outer s H vs Q E hr h => ?_)
  have nd := sc_require_axis.nd
  refine ⟨_, (pss_one (ps_if (pt_not (pt_val (pe_df D_is_integer hr (by decide) pass0 (pa_cons (pv 1) (pa_cons pe_int (pa_cons (pe_op op_sub (pe_callB call_len_seq rfl T.n_len PySem.boot_len (pa_cons (pv 0) pa_nil)) pe_int) pa_nil)))))) (pss_one (ps_rxo (takes_of rfl rfl rfl rfl) T.xo_NoAxis hr (pa_cons (pv 1) pa_nil))) pss_nil)), ?_⟩
  obtain ⟨b, bx, v, rfl, hb, ty, q1, q2⟩ := h
  simp only [tRet, tAndV, tOrV, tNotV, tCB, tCons, tNil, tC, tVar, tChain, rI0, tIfS, tTest, tOp, tUn, rU, rI, tPar3, tBM, tBM0, tM1, gSub, tXm, tCon, tProp, tMethR, rEq, rNe, rIxT, rIxL, decide_true, decide_false, tAnd, tOr, tNot, tB, tSeq, tAsg, gName, tDrop, tNext, tTup, tLst, tIf, tDf, tFld, tMf0, tPart, tSl, tNoPart, tPar, gTup, gLst, gCons, gNil, L2.start, List.map_cons, List.map_nil, List.length_cons, List.length_nil, Nat.zero_add, Nat.sub_self, Nat.reduceAdd, Nat.reduceSub, List.replicate_zero, List.replicate_succ, List.append_nil, List.nil_append, List.cons_append, List.getElem?_cons_zero, List.getElem?_cons_succ, List.set_cons_zero, List.set_cons_succ, Option.some.injEq, exists_and_left, exists_eq_left', exists_eq_left, V.int.injEq, V.bl.injEq, V.str.injEq, V.ref.injEq, List.cons.injEq, and_true, true_and, if_true, if_false, Bool.false_eq_true, reduceCtorEq, Bool.not_true, Bool.not_false, cxOf]
  repeat (first | (refine ⟨_, SqT.of (by first | assumption | exact St'.tp (H := H) (by assumption) _ _ (by assumption)), ?_⟩) | (refine ⟨_, .inr (SqT.of (by first | assumption | exact St'.tp (H := H) (by assumption) _ _ (by assumption))), ?_⟩) | (refine ⟨_, rfl, ?_⟩) | (refine ⟨_, atIv (by assumption), ?_⟩) | (refine ⟨_, _, ⟨rfl, rfl⟩, ?_⟩) | (refine ⟨rfl, ?_⟩) | simp only [tRet, tAndV, tOrV, tNotV, tCB, tCons, tNil, tC, tVar, tChain, rI0, tIfS, tTest, tOp, tUn, rU, rI, tPar3, tBM, tBM0, tM1, gSub, tXm, tCon, tProp, tMethR, rEq, rNe, rIxT, rIxL, decide_true, decide_false, tAnd, tOr, tNot, tB, tSeq, tAsg, gName, tDrop, tNext, tTup, tLst, tIf, tDf, tFld, tMf0, tPart, tSl, tNoPart, tPar, gTup, gLst, gCons, gNil, L2.start, List.map_cons, List.map_nil, List.length_cons, List.length_nil, Nat.zero_add, Nat.sub_self, Nat.reduceAdd, Nat.reduceSub, List.replicate_zero, List.replicate_succ, List.append_nil, List.nil_append, List.cons_append, List.getElem?_cons_zero, List.getElem?_cons_succ, List.set_cons_zero, List.set_cons_succ, Option.some.injEq, exists_and_left, exists_eq_left', exists_eq_left, V.int.injEq, V.bl.injEq, V.str.injEq, V.ref.injEq, List.cons.injEq, and_true, true_and, if_true, if_false, Bool.false_eq_true, reduceCtorEq, Bool.not_true, Bool.not_false, cxOf])
  rw [List.length_map]
  refine ⟨v, 0, lst1 bx, rfl, ty, ?_⟩
  cases c : inR v 0 (lst1 bx) with
  | true =>
    rw [c] at q1
    repeat (first | (refine ⟨_, SqT.of (by first | assumption | exact St'.tp (H := H) (by assumption) _ _ (by assumption)), ?_⟩) | (refine ⟨_, .inr (SqT.of (by first | assumption | exact St'.tp (H := H) (by assumption) _ _ (by assumption))), ?_⟩) | (refine ⟨_, rfl, ?_⟩) | (refine ⟨_, atIv (by assumption), ?_⟩) | (refine ⟨_, _, ⟨rfl, rfl⟩, ?_⟩) | (refine ⟨rfl, ?_⟩) | simp only [tRet, tAndV, tOrV, tNotV, tCB, tCons, tNil, tC, tVar, tChain, rI0, tIfS, tTest, tOp, tUn, rU, rI, tPar3, tBM, tBM0, tM1, gSub, tXm, tCon, tProp, tMethR, rEq, rNe, rIxT, rIxL, decide_true, decide_false, tAnd, tOr, tNot, tB, tSeq, tAsg, gName, tDrop, tNext, tTup, tLst, tIf, tDf, tFld, tMf0, tPart, tSl, tNoPart, tPar, gTup, gLst, gCons, gNil, L2.start, List.map_cons, List.map_nil, List.length_cons, List.length_nil, Nat.zero_add, Nat.sub_self, Nat.reduceAdd, Nat.reduceSub, List.replicate_zero, List.replicate_succ, List.append_nil, List.nil_append, List.cons_append, List.getElem?_cons_zero, List.getElem?_cons_succ, List.set_cons_zero, List.set_cons_succ, Option.some.injEq, exists_and_left, exists_eq_left', exists_eq_left, V.int.injEq, V.bl.injEq, V.str.injEq, V.ref.injEq, List.cons.injEq, and_true, true_and, if_true, if_false, Bool.false_eq_true, reduceCtorEq, Bool.not_true, Bool.not_false, cxOf])
    exact q1 rfl
  | false =>
    rw [c] at q2
    repeat (first | (refine ⟨_, SqT.of (by first | assumption | exact St'.tp (H := H) (by assumption) _ _ (by assumption)), ?_⟩) | (refine ⟨_, .inr (SqT.of (by first | assumption | exact St'.tp (H := H) (by assumption) _ _ (by assumption))), ?_⟩) | (refine ⟨_, rfl, ?_⟩) | (refine ⟨_, atIv (by assumption), ?_⟩) | (refine ⟨_, _, ⟨rfl, rfl⟩, ?_⟩) | (refine ⟨rfl, ?_⟩) | simp only [tRet, tAndV, tOrV, tNotV, tCB, tCons, tNil, tC, tVar, tChain, rI0, tIfS, tTest, tOp, tUn, rU, rI, tPar3, tBM, tBM0, tM1, gSub, tXm, tCon, tProp, tMethR, rEq, rNe, rIxT, rIxL, decide_true, decide_false, tAnd, tOr, tNot, tB, tSeq, tAsg, gName, tDrop, tNext, tTup, tLst, tIf, tDf, tFld, tMf0, tPart, tSl, tNoPart, tPar, gTup, gLst, gCons, gNil, L2.start, List.map_cons, List.map_nil, List.length_cons, List.length_nil, Nat.zero_add, Nat.sub_self, Nat.reduceAdd, Nat.reduceSub, List.replicate_zero, List.replicate_succ, List.append_nil, List.nil_append, List.cons_append, List.getElem?_cons_zero, List.getElem?_cons_succ, List.set_cons_zero, List.set_cons_succ, Option.some.injEq, exists_and_left, exists_eq_left', exists_eq_left, V.int.injEq, V.bl.injEq, V.str.injEq, V.ref.injEq, List.cons.injEq, and_true, true_and, if_true, if_false, Bool.false_eq_true, reduceCtorEq, Bool.not_true, Bool.not_false, cxOf])
    exact fun d nd => q2 rfl d _ (St'.refl.new nd) upd_same
theorem sc_require_side : FnScope ["number"] ["number"] (defScope s_require_side) := ⟨rfl, rfl, rfl, by decide +kernel, rfl, by decide +kernel, by decide +kernel⟩
def spReqSide (K : KF) : Sp := fun vs H Q E => ∃ (v : V), vs = [v] ∧ TyV H v ∧ (inR v 1 big = true → Q .non H) ∧ (inR v 1 big = false → ∀ d H', St' [] H H' → H' d = some (.xd [("given", v)]) → E (.ref (He.ga K "BadSide")) (some d) H')
theorem ok_require_side (T : Tx w K mg) (D_is_integer : Df R.prog w K mg base CX0 1 "is_integer" spIsInt) : DfX w K mg base 3 "require_side" (spReqSide K) := by
  refine df_of T.d_require_side T.g_require_side sc_require_side (fun _ _ _ _ _ _ us hl => match us, hl with | [_], _ => rfl)
    (fun vs H Q E h => by repeat (first | (obtain ⟨rfl, _⟩ := h; rfl) | (obtain ⟨_, h⟩ := h))) (fun cdv A outer s H vs Q E hr h => ?_)
  have nd := sc_require_side.nd
  refine ⟨_, (pss_one (ps_if (pt_not (pt_val (pe_df D_is_integer hr (by decide) pass0 (pa_cons (pv 0) (pa_cons pe_int (pa_cons (pe_gk T.c_MAX_SIDE) pa_nil)))))) (pss_one (ps_rxo (takes_of rfl rfl rfl rfl) T.xo_BadSide hr (pa_cons (pv 0) pa_nil))) pss_nil)), ?_⟩
  obtain ⟨v, rfl, ty, q1, q2⟩ := h
  simp only [tRet, tAndV, tOrV, tNotV, tCB, tCons, tNil, tC, tVar, tChain, rI0, tIfS, tTest, tOp, tUn, rU, rI, tPar3, tBM, tBM0, tM1, gSub, tXm, tCon, tProp, tMethR, rEq, rNe, rIxT, rIxL, decide_true, decide_false, tAnd, tOr, tNot, tB, tSeq, tAsg, gName, tDrop, tNext, tTup, tLst, tIf, tDf, tFld, tMf0, tPart, tSl, tNoPart, tPar, gTup, gLst, gCons, gNil, L2.start, List.map_cons, List.map_nil, List.length_cons, List.length_nil, Nat.zero_add, Nat.sub_self, Nat.reduceAdd, Nat.reduceSub, List.replicate_zero, List.replicate_succ, List.append_nil, List.nil_append, List.cons_append, List.getElem?_cons_zero, List.getElem?_cons_succ, List.set_cons_zero, List.set_cons_succ, Option.some.injEq, exists_and_left, exists_eq_left', exists_eq_left, V.int.injEq, V.bl.injEq, V.str.injEq, V.ref.injEq, List.cons.injEq, and_true, true_and, if_true, if_false, Bool.false_eq_true, reduceCtorEq, Bool.not_true, Bool.not_false, cxOf]
  repeat (first | (refine ⟨_, SqT.of (by first | assumption | exact St'.tp (H := H) (by assumption) _ _ (by assumption)), ?_⟩) | (refine ⟨_, .inr (SqT.of (by first | assumption | exact St'.tp (H := H) (by assumption) _ _ (by assumption))), ?_⟩) | (refine ⟨_, rfl, ?_⟩) | (refine ⟨_, atIv (by assumption), ?_⟩) | (refine ⟨_, _, ⟨rfl, rfl⟩, ?_⟩) | (refine ⟨rfl, ?_⟩) | simp only [tRet, tAndV, tOrV, tNotV, tCB, tCons, tNil, tC, tVar, tChain, rI0, tIfS, tTest, tOp, tUn, rU, rI, tPar3, tBM, tBM0, tM1, gSub, tXm, tCon, tProp, tMethR, rEq, rNe, rIxT, rIxL, decide_true, decide_false, tAnd, tOr, tNot, tB, tSeq, tAsg, gName, tDrop, tNext, tTup, tLst, tIf, tDf, tFld, tMf0, tPart, tSl, tNoPart, tPar, gTup, gLst, gCons, gNil, L2.start, List.map_cons, List.map_nil, List.length_cons, List.length_nil, Nat.zero_add, Nat.sub_self, Nat.reduceAdd, Nat.reduceSub, List.replicate_zero, List.replicate_succ, List.append_nil, List.nil_append, List.cons_append, List.getElem?_cons_zero, List.getElem?_cons_succ, List.set_cons_zero, List.set_cons_succ, Option.some.injEq, exists_and_left, exists_eq_left', exists_eq_left, V.int.injEq, V.bl.injEq, V.str.injEq, V.ref.injEq, List.cons.injEq, and_true, true_and, if_true, if_false, Bool.false_eq_true, reduceCtorEq, Bool.not_true, Bool.not_false, cxOf])
  refine ⟨v, 1, big, rfl, ty, ?_⟩
  cases c : inR v 1 big with
  | true =>
    rw [c] at q1
    repeat (first | (refine ⟨_, SqT.of (by first | assumption | exact St'.tp (H := H) (by assumption) _ _ (by assumption)), ?_⟩) | (refine ⟨_, .inr (SqT.of (by first | assumption | exact St'.tp (H := H) (by assumption) _ _ (by assumption))), ?_⟩) | (refine ⟨_, rfl, ?_⟩) | (refine ⟨_, atIv (by assumption), ?_⟩) | (refine ⟨_, _, ⟨rfl, rfl⟩, ?_⟩) | (refine ⟨rfl, ?_⟩) | simp only [tRet, tAndV, tOrV, tNotV, tCB, tCons, tNil, tC, tVar, tChain, rI0, tIfS, tTest, tOp, tUn, rU, rI, tPar3, tBM, tBM0, tM1, gSub, tXm, tCon, tProp, tMethR, rEq, rNe, rIxT, rIxL, decide_true, decide_false, tAnd, tOr, tNot, tB, tSeq, tAsg, gName, tDrop, tNext, tTup, tLst, tIf, tDf, tFld, tMf0, tPart, tSl, tNoPart, tPar, gTup, gLst, gCons, gNil, L2.start, List.map_cons, List.map_nil, List.length_cons, List.length_nil, Nat.zero_add, Nat.sub_self, Nat.reduceAdd, Nat.reduceSub, List.replicate_zero, List.replicate_succ, List.append_nil, List.nil_append, List.cons_append, List.getElem?_cons_zero, List.getElem?_cons_succ, List.set_cons_zero, List.set_cons_succ, Option.some.injEq, exists_and_left, exists_eq_left', exists_eq_left, V.int.injEq, V.bl.injEq, V.str.injEq, V.ref.injEq, List.cons.injEq, and_true, true_and, if_true, if_false, Bool.false_eq_true, reduceCtorEq, Bool.not_true, Bool.not_false, cxOf])
    exact q1 rfl
  | false =>
    rw [c] at q2
    repeat (first | (refine ⟨_, SqT.of (by first | assumption | exact St'.tp (H := H) (by assumption) _ _ (by assumption)), ?_⟩) | (refine ⟨_, .inr (SqT.of (by first | assumption | exact St'.tp (H := H) (by assumption) _ _ (by assumption))), ?_⟩) | (refine ⟨_, rfl, ?_⟩) | (refine ⟨_, atIv (by assumption), ?_⟩) | (refine ⟨_, _, ⟨rfl, rfl⟩, ?_⟩) | (refine ⟨rfl, ?_⟩) | simp only [tRet, tAndV, tOrV, tNotV, tCB, tCons, tNil, tC, tVar, tChain, rI0, tIfS, tTest, tOp, tUn, rU, rI, tPar3, tBM, tBM0, tM1, gSub, tXm, tCon, tProp, tMethR, rEq, rNe, rIxT, rIxL, decide_true, decide_false, tAnd, tOr, tNot, tB, tSeq, tAsg, gName, tDrop, tNext, tTup, tLst, tIf, tDf, tFld, tMf0, tPart, tSl, tNoPart, tPar, gTup, gLst, gCons, gNil, L2.start, List.map_cons, List.map_nil, List.length_cons, List.length_nil, Nat.zero_add, Nat.sub_self, Nat.reduceAdd, Nat.reduceSub, List.replicate_zero, List.replicate_succ, List.append_nil, List.nil_append, List.cons_append, List.getElem?_cons_zero, List.getElem?_cons_succ, List.set_cons_zero, List.set_cons_succ, Option.some.injEq, exists_and_left, exists_eq_left', exists_eq_left, V.int.injEq, V.bl.injEq, V.str.injEq, V.ref.injEq, List.cons.injEq, and_true, true_and, if_true, if_false, Bool.false_eq_true, reduceCtorEq, Bool.not_true, Bool.not_false, cxOf])
    exact fun d nd => q2 rfl d _ (St'.refl.new nd) upd_same
theorem sc_put_side : FnScope ["page", "axis", "number", "pair", "box"] ["page", "axis", "number"] (defScope s_put_side) := ⟨rfl, rfl, rfl, by decide +kernel, rfl, by decide +kernel, by decide +kernel⟩
def spPutSide (K : KF) : Sp := fun vs H Q E => ∃ (p a n : V) (g : Pg), vs = [p, a, n] ∧ PgAt H p g ∧ g.Ok big ∧ TyV H a ∧ TyV H n ∧ Fin' K H (putSide g a n) Q E
theorem ok_put_side (T : Tx w K mg) (D_require_axis : DfX w K mg base 3 "require_axis" (spReqAxis K)) (D_require_side : DfX w K mg base 3 "require_side" (spReqSide K)) (D_with_side : Df R.prog w K mg base CX0 1 "with_side" spWith) : DfX w K mg base 4 "put_side" (spPutSide K) := by
  refine df_of T.d_put_side T.g_put_side sc_put_side (fun _ _ _ _ _ _ us hl => match us, hl with | [_, _, _], _ => rfl)
    (fun vs H Q E h => by repeat (first | (obtain ⟨rfl, _⟩ := h; rfl) | (obtain ⟨_, h⟩ := h))) (fun cdv A outer s H vs Q E hr h => ?_)
  have nd := sc_put_side.nd
  refine ⟨_, (pss_cons (ps_asg (pv 0) (pg_tup rfl (pgs_cons (pg_name (i := 3) nd rfl (by first | exact Or.inl rfl | exact Or.inr rfl)) (pgs_cons (pg_name (i := 4) nd rfl (by first | exact Or.inl rfl | exact Or.inr rfl)) pgs_nil))))
          (pss_cons (ps_expr (pe_df D_require_axis hr (by decide) (passes_call (takes_of rfl rfl rfl rfl) (fun _ _ _ _ h => h)) (pa_cons (pv 4) (pa_cons (pv 1) pa_nil))))
          (pss_cons (ps_expr (pe_df D_require_side hr (by decide) (passes_call (takes_of rfl rfl rfl rfl) (fun _ _ _ _ h => h)) (pa_cons (pv 2) pa_nil)))
          (pss_one (ps_ret (pe_tup (pa_cons (pv 3) (pa_cons (pe_df D_with_side hr (by decide) pass0 (pa_cons (pv 4) (pa_cons (pv 1) (pa_cons (pv 2) pa_nil)))) pa_nil)))))))), ?_⟩
  obtain ⟨p, a, n, g, rfl, ⟨pa, ap, ab, rfl, hpa, hap, hab⟩, ok, ta, tn, q⟩ := h
  simp only [tRet, tAndV, tOrV, tNotV, tCB, tCons, tNil, tC, tVar, tChain, rI0, tIfS, tTest, tOp, tUn, rU, rI, tPar3, tBM, tBM0, tM1, gSub, tXm, tCon, tProp, tMethR, rEq, rNe, rIxT, rIxL, decide_true, decide_false, tAnd, tOr, tNot, tB, tSeq, tAsg, gName, tDrop, tNext, tTup, tLst, tIf, tDf, tFld, tMf0, tPart, tSl, tNoPart, tPar, gTup, gLst, gCons, gNil, L2.start, List.map_cons, List.map_nil, List.length_cons, List.length_nil, Nat.zero_add, Nat.sub_self, Nat.reduceAdd, Nat.reduceSub, List.replicate_zero, List.replicate_succ, List.append_nil, List.nil_append, List.cons_append, List.getElem?_cons_zero, List.getElem?_cons_succ, List.set_cons_zero, List.set_cons_succ, Option.some.injEq, exists_and_left, exists_eq_left', exists_eq_left, V.int.injEq, V.bl.injEq, V.str.injEq, V.ref.injEq, List.cons.injEq, and_true, true_and, if_true, if_false, Bool.false_eq_true, reduceCtorEq, Bool.not_true, Bool.not_false, cxOf]
  repeat (first | (refine ⟨_, SqT.of (by first | assumption | exact St'.tp (H := H) (by assumption) _ _ (by assumption)), ?_⟩) | (refine ⟨_, .inr (SqT.of (by first | assumption | exact St'.tp (H := H) (by assumption) _ _ (by assumption))), ?_⟩) | (refine ⟨_, rfl, ?_⟩) | (refine ⟨_, atIv (by assumption), ?_⟩) | (refine ⟨_, _, ⟨rfl, rfl⟩, ?_⟩) | (refine ⟨rfl, ?_⟩) | simp only [tRet, tAndV, tOrV, tNotV, tCB, tCons, tNil, tC, tVar, tChain, rI0, tIfS, tTest, tOp, tUn, rU, rI, tPar3, tBM, tBM0, tM1, gSub, tXm, tCon, tProp, tMethR, rEq, rNe, rIxT, rIxL, decide_true, decide_false, tAnd, tOr, tNot, tB, tSeq, tAsg, gName, tDrop, tNext, tTup, tLst, tIf, tDf, tFld, tMf0, tPart, tSl, tNoPart, tPar, gTup, gLst, gCons, gNil, L2.start, List.map_cons, List.map_nil, List.length_cons, List.length_nil, Nat.zero_add, Nat.sub_self, Nat.reduceAdd, Nat.reduceSub, List.replicate_zero, List.replicate_succ, List.append_nil, List.nil_append, List.cons_append, List.getElem?_cons_zero, List.getElem?_cons_succ, List.set_cons_zero, List.set_cons_succ, Option.some.injEq, exists_and_left, exists_eq_left', exists_eq_left, V.int.injEq, V.bl.injEq, V.str.injEq, V.ref.injEq, List.cons.injEq, and_true, true_and, if_true, if_false, Bool.false_eq_true, reduceCtorEq, Bool.not_true, Bool.not_false, cxOf])
  refine ⟨ab, g.bx, a, rfl, hab, ta, fun c1 => ?_, fun c1 d H' st hd => ?_⟩
  · obtain ⟨ea, la⟩ := inR_ax c1
    repeat (first | (refine ⟨_, SqT.of (by first | assumption | exact St'.tp (H := H) (by assumption) _ _ (by assumption)), ?_⟩) | (refine ⟨_, .inr (SqT.of (by first | assumption | exact St'.tp (H := H) (by assumption) _ _ (by assumption))), ?_⟩) | (refine ⟨_, rfl, ?_⟩) | (refine ⟨_, atIv (by assumption), ?_⟩) | (refine ⟨_, _, ⟨rfl, rfl⟩, ?_⟩) | (refine ⟨rfl, ?_⟩) | simp only [tRet, tAndV, tOrV, tNotV, tCB, tCons, tNil, tC, tVar, tChain, rI0, tIfS, tTest, tOp, tUn, rU, rI, tPar3, tBM, tBM0, tM1, gSub, tXm, tCon, tProp, tMethR, rEq, rNe, rIxT, rIxL, decide_true, decide_false, tAnd, tOr, tNot, tB, tSeq, tAsg, gName, tDrop, tNext, tTup, tLst, tIf, tDf, tFld, tMf0, tPart, tSl, tNoPart, tPar, gTup, gLst, gCons, gNil, L2.start, List.map_cons, List.map_nil, List.length_cons, List.length_nil, Nat.zero_add, Nat.sub_self, Nat.reduceAdd, Nat.reduceSub, List.replicate_zero, List.replicate_succ, List.append_nil, List.nil_append, List.cons_append, List.getElem?_cons_zero, List.getElem?_cons_succ, List.set_cons_zero, List.set_cons_succ, Option.some.injEq, exists_and_left, exists_eq_left', exists_eq_left, V.int.injEq, V.bl.injEq, V.str.injEq, V.ref.injEq, List.cons.injEq, and_true, true_and, if_true, if_false, Bool.false_eq_true, reduceCtorEq, Bool.not_true, Bool.not_false, cxOf])
    refine ⟨tn, fun c2 => ?_, fun c2 d H' st hd => ?_⟩
    · obtain ⟨en, n1, n2⟩ := inR_int c2
      unfold putSide at q
      rw [if_pos c1, if_pos c2] at q
      rw [ea, en]
      repeat (first | (refine ⟨_, SqT.of (by first | assumption | exact St'.tp (H := H) (by assumption) _ _ (by assumption)), ?_⟩) | (refine ⟨_, .inr (SqT.of (by first | assumption | exact St'.tp (H := H) (by assumption) _ _ (by assumption))), ?_⟩) | (refine ⟨_, rfl, ?_⟩) | (refine ⟨_, atIv (by assumption), ?_⟩) | (refine ⟨_, _, ⟨rfl, rfl⟩, ?_⟩) | (refine ⟨rfl, ?_⟩) | simp only [tRet, tAndV, tOrV, tNotV, tCB, tCons, tNil, tC, tVar, tChain, rI0, tIfS, tTest, tOp, tUn, rU, rI, tPar3, tBM, tBM0, tM1, gSub, tXm, tCon, tProp, tMethR, rEq, rNe, rIxT, rIxL, decide_true, decide_false, tAnd, tOr, tNot, tB, tSeq, tAsg, gName, tDrop, tNext, tTup, tLst, tIf, tDf, tFld, tMf0, tPart, tSl, tNoPart, tPar, gTup, gLst, gCons, gNil, L2.start, List.map_cons, List.map_nil, List.length_cons, List.length_nil, Nat.zero_add, Nat.sub_self, Nat.reduceAdd, Nat.reduceSub, List.replicate_zero, List.replicate_succ, List.append_nil, List.nil_append, List.cons_append, List.getElem?_cons_zero, List.getElem?_cons_succ, List.set_cons_zero, List.set_cons_succ, Option.some.injEq, exists_and_left, exists_eq_left', exists_eq_left, V.int.injEq, V.bl.injEq, V.str.injEq, V.ref.injEq, List.cons.injEq, and_true, true_and, if_true, if_false, Bool.false_eq_true, reduceCtorEq, Bool.not_true, Bool.not_false, cxOf])
      refine ⟨ab, g.bx, toN a, toI n, rfl, hab, la, ok.o3.sb.n4, fun p2 H2 s2 h2 => ⟨by decide, fun p3 n3 => ?_⟩⟩
      have s3 := s2.new (p := p3) (o := .tup [.ref ap, .ref p2]) n3
      exact q _ _ s3 ⟨p3, ap, p2, rfl, upd_same, hap.st s3, (St'.refl (M := []) |>.new n3).tp _ _ h2⟩
    · unfold putSide at q
      rw [if_pos c1, if_neg (by rw [c2]; simp)] at q
      exact q d H' st hd
  · unfold putSide at q
    rw [if_neg (by rw [c1]; simp)] at q
    exact q d H' st hd
theorem sc_put_brick : FnScope ["page", "kind", "axis", "number", "pair", "box", "changed"] ["page", "kind", "axis", "number"] (defScope s_put_brick) := ⟨rfl, rfl, rfl, by decide +kernel, rfl, by decide +kernel, by decide +kernel⟩
def spPutBrick (K : KF) : Sp := fun vs H Q E => ∃ (p k a n : V) (g : Pg), vs = [p, k, a, n] ∧ PgAt H p g ∧ g.Ok big ∧ TyV H k ∧ TyV H a ∧ TyV H n ∧ Fin' K H (putBrick g k a n) Q E
theorem ok_put_brick (T : Tx w K mg) (D_is_integer : Df R.prog w K mg base CX0 1 "is_integer" spIsInt) (D_require_axis : DfX w K mg base 3 "require_axis" (spReqAxis K)) (D_require_side : DfX w K mg base 3 "require_side" (spReqSide K)) (D_with_side : Df R.prog w K mg base CX0 1 "with_side" spWith) : DfX w K mg base 4 "put_brick" (spPutBrick K) := by
  refine df_of T.d_put_brick T.g_put_brick sc_put_brick (fun _ _ _ _ _ _ us hl => match us, hl with | [_, _, _, _], _ => rfl)
    (fun vs H Q E h => by repeat (first | (obtain ⟨rfl, _⟩ := h; rfl) | (obtain ⟨_, h⟩ := h))) (fun cdv A outer s H vs Q E hr h => ?_)
  have nd := sc_put_brick.nd
  refine ⟨_, (pss_cons (ps_asg (pv 0) (pg_tup rfl (pgs_cons (pg_name (i := 4) nd rfl (by first | exact Or.inl rfl | exact Or.inr rfl)) (pgs_cons (pg_name (i := 5) nd rfl (by first | exact Or.inl rfl | exact Or.inr rfl)) pgs_nil))))
          (pss_cons (ps_if (pt_not (pt_val (pe_df D_is_integer hr (by decide) pass0 (pa_cons (pv 1) (pa_cons pe_int (pa_cons pe_int pa_nil)))))) (pss_one (ps_rxo (takes_of rfl rfl rfl rfl) T.xo_NoKind hr (pa_cons (pv 1) pa_nil))) pss_nil)
          (pss_cons (ps_expr (pe_df D_require_axis hr (by decide) (passes_call (takes_of rfl rfl rfl rfl) (fun _ _ _ _ h => h)) (pa_cons (pv 5) (pa_cons (pv 2) pa_nil))))
          (pss_cons (ps_expr (pe_df D_require_side hr (by decide) (passes_call (takes_of rfl rfl rfl rfl) (fun _ _ _ _ h => h)) (pa_cons (pv 3) pa_nil)))
          (pss_cons (ps_set (i := 6) nd rfl (by first | exact Or.inl rfl | exact Or.inr rfl) (pe_df D_with_side hr (by decide) pass0 (pa_cons (pe_ix ix_tup (pv 4) (pv 1) (fun _ _ => rfl)) (pa_cons (pv 2) (pa_cons (pv 3) pa_nil)))))
          (pss_one (ps_ret (pe_tup (pa_cons (pe_ifExp (pt_cmpR op_eq (pv 1) pe_int (nomark _)) (pe_tup (pa_cons (pv 6) (pa_cons (pe_ix ix_tup (pv 4) pe_int (fun _ _ => rfl)) pa_nil))) (pe_tup (pa_cons (pe_ix ix_tup (pv 4) pe_int (fun _ _ => rfl)) (pa_cons (pv 6) pa_nil)))) (pa_cons (pv 5) pa_nil)))))))))), ?_⟩
  obtain ⟨p, k, a, n, g, rfl, ⟨pa, ap, ab, rfl, hpa, ⟨a0, a1, hap, h0, h1⟩, hab⟩, ok, tk, ta, tn, q⟩ := h
  simp only [tRet, tAndV, tOrV, tNotV, tCB, tCons, tNil, tC, tVar, tChain, rI0, tIfS, tTest, tOp, tUn, rU, rI, tPar3, tBM, tBM0, tM1, gSub, tXm, tCon, tProp, tMethR, rEq, rNe, rIxT, rIxL, decide_true, decide_false, tAnd, tOr, tNot, tB, tSeq, tAsg, gName, tDrop, tNext, tTup, tLst, tIf, tDf, tFld, tMf0, tPart, tSl, tNoPart, tPar, gTup, gLst, gCons, gNil, L2.start, List.map_cons, List.map_nil, List.length_cons, List.length_nil, Nat.zero_add, Nat.sub_self, Nat.reduceAdd, Nat.reduceSub, List.replicate_zero, List.replicate_succ, List.append_nil, List.nil_append, List.cons_append, List.getElem?_cons_zero, List.getElem?_cons_succ, List.set_cons_zero, List.set_cons_succ, Option.some.injEq, exists_and_left, exists_eq_left', exists_eq_left, V.int.injEq, V.bl.injEq, V.str.injEq, V.ref.injEq, List.cons.injEq, and_true, true_and, if_true, if_false, Bool.false_eq_true, reduceCtorEq, Bool.not_true, Bool.not_false, cxOf]
  repeat (first | (refine ⟨_, SqT.of (by first | assumption | exact St'.tp (H := H) (by assumption) _ _ (by assumption)), ?_⟩) | (refine ⟨_, .inr (SqT.of (by first | assumption | exact St'.tp (H := H) (by assumption) _ _ (by assumption))), ?_⟩) | (refine ⟨_, rfl, ?_⟩) | (refine ⟨_, atIv (by assumption), ?_⟩) | (refine ⟨_, _, ⟨rfl, rfl⟩, ?_⟩) | (refine ⟨rfl, ?_⟩) | simp only [tRet, tAndV, tOrV, tNotV, tCB, tCons, tNil, tC, tVar, tChain, rI0, tIfS, tTest, tOp, tUn, rU, rI, tPar3, tBM, tBM0, tM1, gSub, tXm, tCon, tProp, tMethR, rEq, rNe, rIxT, rIxL, decide_true, decide_false, tAnd, tOr, tNot, tB, tSeq, tAsg, gName, tDrop, tNext, tTup, tLst, tIf, tDf, tFld, tMf0, tPart, tSl, tNoPart, tPar, gTup, gLst, gCons, gNil, L2.start, List.map_cons, List.map_nil, List.length_cons, List.length_nil, Nat.zero_add, Nat.sub_self, Nat.reduceAdd, Nat.reduceSub, List.replicate_zero, List.replicate_succ, List.append_nil, List.nil_append, List.cons_append, List.getElem?_cons_zero, List.getElem?_cons_succ, List.set_cons_zero, List.set_cons_succ, Option.some.injEq, exists_and_left, exists_eq_left', exists_eq_left, V.int.injEq, V.bl.injEq, V.str.injEq, V.ref.injEq, List.cons.injEq, and_true, true_and, if_true, if_false, Bool.false_eq_true, reduceCtorEq, Bool.not_true, Bool.not_false, cxOf])
  refine ⟨k, 0, 1, rfl, tk, ?_⟩
  unfold putBrick at q
  cases c0 : inR k 0 1 with
  | false =>
    rw [if_neg (by rw [c0]; simp)] at q
    repeat (first | (refine ⟨_, SqT.of (by first | assumption | exact St'.tp (H := H) (by assumption) _ _ (by assumption)), ?_⟩) | (refine ⟨_, .inr (SqT.of (by first | assumption | exact St'.tp (H := H) (by assumption) _ _ (by assumption))), ?_⟩) | (refine ⟨_, rfl, ?_⟩) | (refine ⟨_, atIv (by assumption), ?_⟩) | (refine ⟨_, _, ⟨rfl, rfl⟩, ?_⟩) | (refine ⟨rfl, ?_⟩) | simp only [tRet, tAndV, tOrV, tNotV, tCB, tCons, tNil, tC, tVar, tChain, rI0, tIfS, tTest, tOp, tUn, rU, rI, tPar3, tBM, tBM0, tM1, gSub, tXm, tCon, tProp, tMethR, rEq, rNe, rIxT, rIxL, decide_true, decide_false, tAnd, tOr, tNot, tB, tSeq, tAsg, gName, tDrop, tNext, tTup, tLst, tIf, tDf, tFld, tMf0, tPart, tSl, tNoPart, tPar, gTup, gLst, gCons, gNil, L2.start, List.map_cons, List.map_nil, List.length_cons, List.length_nil, Nat.zero_add, Nat.sub_self, Nat.reduceAdd, Nat.reduceSub, List.replicate_zero, List.replicate_succ, List.append_nil, List.nil_append, List.cons_append, List.getElem?_cons_zero, List.getElem?_cons_succ, List.set_cons_zero, List.set_cons_succ, Option.some.injEq, exists_and_left, exists_eq_left', exists_eq_left, V.int.injEq, V.bl.injEq, V.str.injEq, V.ref.injEq, List.cons.injEq, and_true, true_and, if_true, if_false, Bool.false_eq_true, reduceCtorEq, Bool.not_true, Bool.not_false, cxOf])
    exact fun d nd => q d _ (St'.refl.new nd) upd_same
  | true =>
    rw [if_pos c0] at q
    repeat (first | (refine ⟨_, SqT.of (by first | assumption | exact St'.tp (H := H) (by assumption) _ _ (by assumption)), ?_⟩) | (refine ⟨_, .inr (SqT.of (by first | assumption | exact St'.tp (H := H) (by assumption) _ _ (by assumption))), ?_⟩) | (refine ⟨_, rfl, ?_⟩) | (refine ⟨_, atIv (by assumption), ?_⟩) | (refine ⟨_, _, ⟨rfl, rfl⟩, ?_⟩) | (refine ⟨rfl, ?_⟩) | simp only [tRet, tAndV, tOrV, tNotV, tCB, tCons, tNil, tC, tVar, tChain, rI0, tIfS, tTest, tOp, tUn, rU, rI, tPar3, tBM, tBM0, tM1, gSub, tXm, tCon, tProp, tMethR, rEq, rNe, rIxT, rIxL, decide_true, decide_false, tAnd, tOr, tNot, tB, tSeq, tAsg, gName, tDrop, tNext, tTup, tLst, tIf, tDf, tFld, tMf0, tPart, tSl, tNoPart, tPar, gTup, gLst, gCons, gNil, L2.start, List.map_cons, List.map_nil, List.length_cons, List.length_nil, Nat.zero_add, Nat.sub_self, Nat.reduceAdd, Nat.reduceSub, List.replicate_zero, List.replicate_succ, List.append_nil, List.nil_append, List.cons_append, List.getElem?_cons_zero, List.getElem?_cons_succ, List.set_cons_zero, List.set_cons_succ, Option.some.injEq, exists_and_left, exists_eq_left', exists_eq_left, V.int.injEq, V.bl.injEq, V.str.injEq, V.ref.injEq, List.cons.injEq, and_true, true_and, if_true, if_false, Bool.false_eq_true, reduceCtorEq, Bool.not_true, Bool.not_false, cxOf])
    refine ⟨ab, g.bx, a, rfl, hab, ta, fun c1 => ?_, fun c1 d H' st hd => ?_⟩
    · obtain ⟨ea, la⟩ := inR_ax c1
      rw [if_pos c1] at q
      repeat (first | (refine ⟨_, SqT.of (by first | assumption | exact St'.tp (H := H) (by assumption) _ _ (by assumption)), ?_⟩) | (refine ⟨_, .inr (SqT.of (by first | assumption | exact St'.tp (H := H) (by assumption) _ _ (by assumption))), ?_⟩) | (refine ⟨_, rfl, ?_⟩) | (refine ⟨_, atIv (by assumption), ?_⟩) | (refine ⟨_, _, ⟨rfl, rfl⟩, ?_⟩) | (refine ⟨rfl, ?_⟩) | simp only [tRet, tAndV, tOrV, tNotV, tCB, tCons, tNil, tC, tVar, tChain, rI0, tIfS, tTest, tOp, tUn, rU, rI, tPar3, tBM, tBM0, tM1, gSub, tXm, tCon, tProp, tMethR, rEq, rNe, rIxT, rIxL, decide_true, decide_false, tAnd, tOr, tNot, tB, tSeq, tAsg, gName, tDrop, tNext, tTup, tLst, tIf, tDf, tFld, tMf0, tPart, tSl, tNoPart, tPar, gTup, gLst, gCons, gNil, L2.start, List.map_cons, List.map_nil, List.length_cons, List.length_nil, Nat.zero_add, Nat.sub_self, Nat.reduceAdd, Nat.reduceSub, List.replicate_zero, List.replicate_succ, List.append_nil, List.nil_append, List.cons_append, List.getElem?_cons_zero, List.getElem?_cons_succ, List.set_cons_zero, List.set_cons_succ, Option.some.injEq, exists_and_left, exists_eq_left', exists_eq_left, V.int.injEq, V.bl.injEq, V.str.injEq, V.ref.injEq, List.cons.injEq, and_true, true_and, if_true, if_false, Bool.false_eq_true, reduceCtorEq, Bool.not_true, Bool.not_false, cxOf])
      refine ⟨tn, fun c2 => ?_, fun c2 d H' st hd => ?_⟩
      · obtain ⟨en, n1, n2⟩ := inR_int c2
        rw [if_pos c2] at q
        obtain ⟨ek, k1, k2⟩ := inR_int c0
        rw [ea, en, ek]
        repeat (first | (refine ⟨_, SqT.of (by first | assumption | exact St'.tp (H := H) (by assumption) _ _ (by assumption)), ?_⟩) | (refine ⟨_, .inr (SqT.of (by first | assumption | exact St'.tp (H := H) (by assumption) _ _ (by assumption))), ?_⟩) | (refine ⟨_, rfl, ?_⟩) | (refine ⟨_, atIv (by assumption), ?_⟩) | (refine ⟨_, _, ⟨rfl, rfl⟩, ?_⟩) | (refine ⟨rfl, ?_⟩) | simp only [tRet, tAndV, tOrV, tNotV, tCB, tCons, tNil, tC, tVar, tChain, rI0, tIfS, tTest, tOp, tUn, rU, rI, tPar3, tBM, tBM0, tM1, gSub, tXm, tCon, tProp, tMethR, rEq, rNe, rIxT, rIxL, decide_true, decide_false, tAnd, tOr, tNot, tB, tSeq, tAsg, gName, tDrop, tNext, tTup, tLst, tIf, tDf, tFld, tMf0, tPart, tSl, tNoPart, tPar, gTup, gLst, gCons, gNil, L2.start, List.map_cons, List.map_nil, List.length_cons, List.length_nil, Nat.zero_add, Nat.sub_self, Nat.reduceAdd, Nat.reduceSub, List.replicate_zero, List.replicate_succ, List.append_nil, List.nil_append, List.cons_append, List.getElem?_cons_zero, List.getElem?_cons_succ, List.set_cons_zero, List.set_cons_succ, Option.some.injEq, exists_and_left, exists_eq_left', exists_eq_left, V.int.injEq, V.bl.injEq, V.str.injEq, V.ref.injEq, List.cons.injEq, and_true, true_and, if_true, if_false, Bool.false_eq_true, reduceCtorEq, Bool.not_true, Bool.not_false, cxOf])
        have l0 := ok.o3.lb
        have l1 := ok.o3.l1
        have n40 := ok.o3.s0.n4
        rcases (show toI k = 0 ∨ toI k = 1 by omega) with z | z
        · rw [if_pos z] at q
          rw [z]
          refine ⟨.ref a0, rfl, a0, g.p0, toN a, toI n, rfl, h0, by omega, n40, fun p2 H2 s2 h2 => ?_⟩
          refine ⟨rfl, ?_⟩
          rw [if_pos (by simp)]
          refine ⟨_, SqT.of (s2.tp _ _ hap), _, rfl, by decide, fun p3 n3 => ⟨by decide, fun p4 n4 => ?_⟩⟩
          have s3 := s2.new (p := p3) (o := .tup [.ref p2, .ref a1]) n3
          have s4 := St'.refl (M := []) |>.new (p := p4) (o := .tup [.ref p3, .ref ab]) n4
          have s5 := s3.trans s4
          exact q _ _ s5 ⟨p4, p3, ab, rfl, upd_same, ⟨p2, a1, s4.tp _ _ upd_same, s4.tp _ _ ((St'.refl (M := []) |>.new n3).tp _ _ h2), s5.tp _ _ h1⟩, s5.tp _ _ hab⟩
        · rw [if_neg (by omega)] at q
          rw [z]
          refine ⟨.ref a1, rfl, a1, g.p1, toN a, toI n, rfl, h1, by omega, by omega, fun p2 H2 s2 h2 => ?_⟩
          refine ⟨rfl, ?_⟩
          rw [if_neg (by simp)]
          refine ⟨_, SqT.of (s2.tp _ _ hap), _, rfl, by decide, fun p3 n3 => ⟨by decide, fun p4 n4 => ?_⟩⟩
          have s3 := s2.new (p := p3) (o := .tup [.ref a0, .ref p2]) n3
          have s4 := St'.refl (M := []) |>.new (p := p4) (o := .tup [.ref p3, .ref ab]) n4
          have s5 := s3.trans s4
          exact q _ _ s5 ⟨p4, p3, ab, rfl, upd_same, ⟨a0, p2, s4.tp _ _ upd_same, s5.tp _ _ h0, s4.tp _ _ ((St'.refl (M := []) |>.new n3).tp _ _ h2)⟩, s5.tp _ _ hab⟩
      · rw [if_neg (by rw [c2]; simp)] at q
        exact q d H' st hd
    · rw [if_neg (by rw [c1]; simp)] at q
      exact q d H' st hd
theorem sc_swapped : FnScope ["page", "pair", "box"] ["page"] (defScope s_swapped) := ⟨rfl, rfl, rfl, by decide +kernel, rfl, by decide +kernel, by decide +kernel⟩
def spSwapped (K : KF) : Sp := fun vs H Q E => ∃ (p : V) (g : Pg), vs = [p] ∧ PgAt H p g ∧ Fin' K H (swapP g) Q E
theorem ok_swapped (T : Tx w K mg) : DfX w K mg base 1 "swapped" (spSwapped K) := by
  refine df_of T.d_swapped T.g_swapped sc_swapped (fun _ _ _ _ _ _ us hl => match us, hl with | [_], _ => rfl)
    (fun vs H Q E h => by repeat (first | (obtain ⟨rfl, _⟩ := h; rfl) | (obtain ⟨_, h⟩ := h))) (fun cdv A outer s H vs Q E hr h => ?_)
  have nd := sc_swapped.nd
  refine ⟨_, (pss_cons (ps_asg (pv 0) (pg_tup rfl (pgs_cons (pg_name (i := 1) nd rfl (by first | exact Or.inl rfl | exact Or.inr rfl)) (pgs_cons (pg_name (i := 2) nd rfl (by first | exact Or.inl rfl | exact Or.inr rfl)) pgs_nil))))
          (pss_one (ps_ret (pe_tup (pa_cons (pe_tup (pa_cons (pe_ix ix_tup (pv 1) pe_int (fun _ _ => rfl)) (pa_cons (pe_ix ix_tup (pv 1) pe_int (fun _ _ => rfl)) pa_nil))) (pa_cons (pv 2) pa_nil)))))), ?_⟩
  obtain ⟨p, g, rfl, ⟨pa, ap, ab, rfl, hpa, ⟨a0, a1, hap, h0, h1⟩, hab⟩, q⟩ := h
  simp only [tRet, tAndV, tOrV, tNotV, tCB, tCons, tNil, tC, tVar, tChain, rI0, tIfS, tTest, tOp, tUn, rU, rI, tPar3, tBM, tBM0, tM1, gSub, tXm, tCon, tProp, tMethR, rEq, rNe, rIxT, rIxL, decide_true, decide_false, tAnd, tOr, tNot, tB, tSeq, tAsg, gName, tDrop, tNext, tTup, tLst, tIf, tDf, tFld, tMf0, tPart, tSl, tNoPart, tPar, gTup, gLst, gCons, gNil, L2.start, List.map_cons, List.map_nil, List.length_cons, List.length_nil, Nat.zero_add, Nat.sub_self, Nat.reduceAdd, Nat.reduceSub, List.replicate_zero, List.replicate_succ, List.append_nil, List.nil_append, List.cons_append, List.getElem?_cons_zero, List.getElem?_cons_succ, List.set_cons_zero, List.set_cons_succ, Option.some.injEq, exists_and_left, exists_eq_left', exists_eq_left, V.int.injEq, V.bl.injEq, V.str.injEq, V.ref.injEq, List.cons.injEq, and_true, true_and, if_true, if_false, Bool.false_eq_true, reduceCtorEq, Bool.not_true, Bool.not_false, cxOf]
  repeat (first | (refine ⟨_, SqT.of (by first | assumption | exact St'.tp (H := H) (by assumption) _ _ (by assumption)), ?_⟩) | (refine ⟨_, .inr (SqT.of (by first | assumption | exact St'.tp (H := H) (by assumption) _ _ (by assumption))), ?_⟩) | (refine ⟨_, rfl, ?_⟩) | (refine ⟨_, atIv (by assumption), ?_⟩) | (refine ⟨_, _, ⟨rfl, rfl⟩, ?_⟩) | (refine ⟨rfl, ?_⟩) | simp only [tRet, tAndV, tOrV, tNotV, tCB, tCons, tNil, tC, tVar, tChain, rI0, tIfS, tTest, tOp, tUn, rU, rI, tPar3, tBM, tBM0, tM1, gSub, tXm, tCon, tProp, tMethR, rEq, rNe, rIxT, rIxL, decide_true, decide_false, tAnd, tOr, tNot, tB, tSeq, tAsg, gName, tDrop, tNext, tTup, tLst, tIf, tDf, tFld, tMf0, tPart, tSl, tNoPart, tPar, gTup, gLst, gCons, gNil, L2.start, List.map_cons, List.map_nil, List.length_cons, List.length_nil, Nat.zero_add, Nat.sub_self, Nat.reduceAdd, Nat.reduceSub, List.replicate_zero, List.replicate_succ, List.append_nil, List.nil_append, List.cons_append, List.getElem?_cons_zero, List.getElem?_cons_succ, List.set_cons_zero, List.set_cons_succ, Option.some.injEq, exists_and_left, exists_eq_left', exists_eq_left, V.int.injEq, V.bl.injEq, V.str.injEq, V.ref.injEq, List.cons.injEq, and_true, true_and, if_true, if_false, Bool.false_eq_true, reduceCtorEq, Bool.not_true, Bool.not_false, cxOf])
  refine ⟨by decide, fun p2 n2 => ⟨by decide, fun p3 n3 => ?_⟩⟩
  have s2 := St'.refl (M := []) |>.new (p := p2) (o := .tup [.ref a1, .ref a0]) n2
  have s4 := St'.refl (M := []) |>.new (p := p3) (o := .tup [.ref p2, .ref ab]) n3
  have s3 := s2.trans s4
  exact q _ _ s3 ⟨p3, p2, ab, rfl, upd_same, ⟨a1, a0, s4.tp _ _ upd_same, s3.tp _ _ h1, s3.tp _ _ h0⟩, s3.tp _ _ hab⟩
end
end Yk
set_option Elab.async false
set_option linter.all false
set_option maxRecDepth 100000
set_option maxHeartbeats 4000000
/-! more deeds -/
namespace Yk
open PySem PySem.Spec PyProof.Rows L2
abbrev rLenS (K : KF) : List V → Hp → VK → Prop := fun xs H Q => ∃ p ys, xs = [.ref p] ∧ (SqL K H p ys ∨ SqT K H p ys) ∧ Q (.int ys.length) H
abbrev rTupS (K : KF) : List V → Hp → VK → Prop := fun xs H Q => ∃ p ys, xs = [.ref p] ∧ ((SqL K H p ys ∧ ∀ l, H l = none → Q (.ref l) (upd H l (.tup ys))) ∨ (SqT K H p ys ∧ Q (.ref p) H))
/-- new rows -/
def RowsAt (H : Hp) : List V → List (List Int) → Prop
  | [], [] => True
  | v :: vs, r :: rs => (∃ q, v = .ref q ∧ H q = some (.tup (ivs r))) ∧ RowsAt H vs rs
  | _, _ => False
theorem RowsAt.st {M : List Addr} {H H' : Hp} (s : St' M H H') : ∀ {L : List V} {R : List (List Int)}, RowsAt H L R → RowsAt H' L R
  | [], [], _ => trivial
  | v :: vs, r :: rs, h => by
    obtain ⟨⟨q, e, hq⟩, h2⟩ := h
    exact ⟨⟨q, e, s.tp _ _ hq⟩, RowsAt.st s h2⟩
theorem RowsAt.snoc {H : Hp} {q : Addr} {r : List Int} (hq : H q = some (.tup (ivs r))) : ∀ {L : List V} {R : List (List Int)}, RowsAt H L R → RowsAt H (L ++ [.ref q]) (R ++ [r])
  | [], [], _ => ⟨⟨q, rfl, hq⟩, trivial⟩
  | v :: vs, r' :: rs, h => ⟨h.1, RowsAt.snoc hq h.2⟩
theorem RowsAt.three {H : Hp} {L : List V} {x y z : List Int} (h : RowsAt H L [x, y, z]) : ∃ q0 q1 q2, L = [.ref q0, .ref q1, .ref q2] ∧ H q0 = some (.tup (ivs x)) ∧ H q1 = some (.tup (ivs y)) ∧ H q2 = some (.tup (ivs z)) := by
  match L, h with
  | [a, b, c], h =>
    obtain ⟨⟨q0, rfl, h0⟩, ⟨q1, rfl, h1⟩, ⟨q2, rfl, h2⟩, _⟩ := h
    exact ⟨q0, q1, q2, rfl, h0, h1, h2⟩
/-- a value that may be an order: a tuple's items are known -/
inductive OdV (H : Hp) : V → Option (List V) → Prop where
  | tup {a : Addr} {xs : List V} (e : H a = some (.tup xs)) (h : ∀ x ∈ xs, TyV H x) (n : xs.length ≤ 60) : OdV H (.ref a) (some xs)
  | oth {v : V} (ty : TyV H v) (n : isTp H v = false) : OdV H v none
theorem OdV.st {M : List Addr} {H H' : Hp} {v : V} {o : Option (List V)} (h : OdV H v o) (s : St' M H H') : OdV H' v o := by
  cases h with
  | tup e h n => exact .tup (s.tp _ _ e) (fun x hx => (h x hx).st s) n
  | oth ty n =>
    refine .oth (ty.st s) ?_
    cases ty with
    | tup e => rw [isTp_t e] at n; cases n
    | lst e => obtain ⟨ys, h⟩ := s.ll _ _ e; exact isTp_fL h
    | dct e => obtain ⟨ys, h⟩ := s.dd _ _ e; exact isTp_fD h
    | _ => rfl
theorem OdV.ty {H : Hp} {v : V} {o : Option (List V)} (h : OdV H v o) : TyV H v := by
  cases h with
  | tup e => exact .tup e
  | oth ty => exact ty
def permB (xs : List V) (n : Nat) : Bool := decide (xs.length = n) && (xs.all fun x => inR x 0 ((n : Int) - 1)) && decide ((xs.map toI).Nodup)
def isOrdB (o : Option (List V)) (n : Nat) : Bool := match o with
  | some xs => permB xs n
  | none => false
theorem isOrdB_some {xs : List V} {n : Nat} : isOrdB (some xs) n = permB xs n := rfl
def turnRow (xs : List V) (r : List Int) : List Int := xs.map fun x => r.getD (toN x) 0
def turnP (g : Pg) (v : V) (o : Option (List V)) : Out := match o with
  | some xs => if permB xs g.bx.length then .ok ⟨turnRow xs g.p0, turnRow xs g.p1, turnRow xs g.bx⟩ else .bad "BadOrder" "given" v
  | none => .bad "BadOrder" "given" v
def max3 (i j k : Int) : Int := if j > i then (if k > j then k else j) else (if k > i then k else i)
def setR (r : List Int) (a n : V) : List Int := r.set (toN a) (r.getD (toN a) 0 * toI n)
def stretchP (g : Pg) (a n : V) : Out := if inR a 0 (lst1 g.bx) then (if inR n 1 big then (if max3 (g.p0.getD (toN a) 0) (g.p1.getD (toN a) 0) (g.bx.getD (toN a) 0) * toI n > big then .bad "TooLarge" "axis" a else .ok ⟨setR g.p0 a n, setR g.p1 a n, setR g.bx a n⟩) else .bad "BadSide" "given" n) else .bad "NoAxis" "given" a
def greatN (n : Int) : Nat → List Int → Option Nat
  | _, [] => none
  | i, b :: r => if b + n > big then some i else greatN n (i + 1) r
def moreP (g : Pg) (n : V) : Out := if inR n 1 big then (match greatN (toI n) 0 g.bx with
  | some i => .bad "TooLarge" "axis" (.int i)
  | none => .ok { g with bx := g.bx.map (· + toI n) }) else .bad "BadSide" "given" n
section
variable {w : World} {K : KF} {mg : Str → Option Value} {base : Heap}
theorem sc_is_order : FnScope ["box", "value", "axis"] ["box", "value"] (defScope s_is_order) := ⟨rfl, rfl, rfl, by decide +kernel, rfl, by decide +kernel, by decide +kernel⟩
def spIsOrder : Sp := fun vs H Q _ => ∃ (b : Addr) (bx : List Int) (v : V) (o : Option (List V)), vs = [.ref b, v] ∧ H b = some (.tup (ivs bx)) ∧ OdV H v o ∧ ∀ H', St' [] H H' → Q (.bl (isOrdB o bx.length)) H'
theorem ok_is_order (T : Tx w K mg) (D_is_integer : Df R.prog w K mg base CX0 1 "is_integer" spIsInt) : Df R.prog w K mg base CX0 2 "is_order" spIsOrder := by
  refine df_of T.d_is_order T.g_is_order sc_is_order (fun _ _ _ _ _ _ us hl => match us, hl with | [_, _], _ => rfl)
    (fun vs H Q E h => by repeat (first | (obtain ⟨rfl, _⟩ := h; rfl) | (obtain ⟨_, h⟩ := h))) (fun cdv A outer s H vs Q E hr h => ?_)
  have nd := sc_is_order.nd
  refine ⟨_, (pss_cons (ps_if (PW.pt (pw_or (pt_not (pt_val (pe_callB call_isi rfl T.n_isinstance (by decide +kernel) (pa_cons (pv 1) (pa_cons (pe_bltn (v := .ty "tuple") rfl T.n_tuple (by decide +kernel) rfl) pa_nil))))) (pw_or1 (pt_cmpR op_ne (pe_callB call_len_seq rfl T.n_len PySem.boot_len (pa_cons (pv 1) pa_nil)) (pe_callB call_len_seq rfl T.n_len PySem.boot_len (pa_cons (pv 0) pa_nil)) (nomark _))))) (pss_one (ps_ret pe_bl)) pss_nil)
          (pss_one (ps_ret (pe_and (pe_callB (cr_all rfl) rfl T.n_all (by decide +kernel) (pa_cons (pe_lc (own := [("axis", 2)]) (g := (gName 2)) (tt := tYes) rfl nd (pi_tup (pv 1)) (blkOk_by (own := [("axis", 2)]) (N := ["box", "value", "axis"]) (sc := defScope s_is_order) (by decide +kernel)) (fun _ _ _ _ _ => (pg_name (i := 2) nd rfl (by first | exact Or.inl rfl | exact Or.inr rfl))) (fun _ _ _ _ _ => pts_nil) (fun _ _ _ _ _ => (pe_df D_is_integer hr (by decide) pass0 (pa_cons (pv 2) (pa_cons pe_int (pa_cons (pe_op op_sub (pe_callB (show CallR _ _ (rLenS K) from call_len_seq) rfl T.n_len PySem.boot_len (pa_cons (pv 0) pa_nil)) pe_int) pa_nil)))))) pa_nil)) (pe_one (pe_cmpR op_eq (pe_lenSetT T.n_len T.n_set (pv 1)) (pe_callB call_len_seq rfl T.n_len PySem.boot_len (pa_cons (pv 0) pa_nil)) (nomark _))))))), ?_⟩
  obtain ⟨b, bx, v, o, rfl, hb, od, q⟩ := h
  simp only [tRet, tAndV, tOrV, tNotV, tCB, tCons, tNil, tC, tVar, tChain, rI0, tIfS, tTest, tOp, tUn, rU, rI, tPar3, tBM, tBM0, tM1, gSub, tXm, tCon, tProp, tMethR, rEq, rNe, rIxT, rIxL, decide_true, decide_false, tAnd, tOr, tNot, tB, tSeq, tAsg, gName, tDrop, tNext, tTup, tLst, tIf, tDf, tFld, tMf0, tPart, tSl, tNoPart, tPar, gTup, gLst, gCons, gNil, L2.start, List.map_cons, List.map_nil, List.length_cons, List.length_nil, Nat.zero_add, Nat.sub_self, Nat.reduceAdd, Nat.reduceSub, List.replicate_zero, List.replicate_succ, List.append_nil, List.nil_append, List.cons_append, List.getElem?_cons_zero, List.getElem?_cons_succ, List.set_cons_zero, List.set_cons_succ, Option.some.injEq, exists_and_left, exists_eq_left', exists_eq_left, V.int.injEq, V.bl.injEq, V.str.injEq, V.ref.injEq, List.cons.injEq, and_true, true_and, if_true, if_false, Bool.false_eq_true, reduceCtorEq, Bool.not_true, Bool.not_false, cxOf]
  repeat (first | (refine ⟨_, SqT.of (by first | assumption | exact St'.tp (H := H) (by assumption) _ _ (by assumption)), ?_⟩) | (refine ⟨_, .inr (SqT.of (by first | assumption | exact St'.tp (H := H) (by assumption) _ _ (by assumption))), ?_⟩) | (refine ⟨_, rfl, ?_⟩) | (refine ⟨_, atIv (by assumption), ?_⟩) | (refine ⟨_, _, ⟨rfl, rfl⟩, ?_⟩) | (refine ⟨rfl, ?_⟩) | simp only [tRet, tAndV, tOrV, tNotV, tCB, tCons, tNil, tC, tVar, tChain, rI0, tIfS, tTest, tOp, tUn, rU, rI, tPar3, tBM, tBM0, tM1, gSub, tXm, tCon, tProp, tMethR, rEq, rNe, rIxT, rIxL, decide_true, decide_false, tAnd, tOr, tNot, tB, tSeq, tAsg, gName, tDrop, tNext, tTup, tLst, tIf, tDf, tFld, tMf0, tPart, tSl, tNoPart, tPar, gTup, gLst, gCons, gNil, L2.start, List.map_cons, List.map_nil, List.length_cons, List.length_nil, Nat.zero_add, Nat.sub_self, Nat.reduceAdd, Nat.reduceSub, List.replicate_zero, List.replicate_succ, List.append_nil, List.nil_append, List.cons_append, List.getElem?_cons_zero, List.getElem?_cons_succ, List.set_cons_zero, List.set_cons_succ, Option.some.injEq, exists_and_left, exists_eq_left', exists_eq_left, V.int.injEq, V.bl.injEq, V.str.injEq, V.ref.injEq, List.cons.injEq, and_true, true_and, if_true, if_false, Bool.false_eq_true, reduceCtorEq, Bool.not_true, Bool.not_false, cxOf])
  cases od with
  | @oth v ty nt =>
    refine isi_tup ty ?_
    rw [nt]
    repeat (first | (refine ⟨_, SqT.of (by first | assumption | exact St'.tp (H := H) (by assumption) _ _ (by assumption)), ?_⟩) | (refine ⟨_, .inr (SqT.of (by first | assumption | exact St'.tp (H := H) (by assumption) _ _ (by assumption))), ?_⟩) | (refine ⟨_, rfl, ?_⟩) | (refine ⟨_, atIv (by assumption), ?_⟩) | (refine ⟨_, _, ⟨rfl, rfl⟩, ?_⟩) | (refine ⟨rfl, ?_⟩) | simp only [tRet, tAndV, tOrV, tNotV, tCB, tCons, tNil, tC, tVar, tChain, rI0, tIfS, tTest, tOp, tUn, rU, rI, tPar3, tBM, tBM0, tM1, gSub, tXm, tCon, tProp, tMethR, rEq, rNe, rIxT, rIxL, decide_true, decide_false, tAnd, tOr, tNot, tB, tSeq, tAsg, gName, tDrop, tNext, tTup, tLst, tIf, tDf, tFld, tMf0, tPart, tSl, tNoPart, tPar, gTup, gLst, gCons, gNil, L2.start, List.map_cons, List.map_nil, List.length_cons, List.length_nil, Nat.zero_add, Nat.sub_self, Nat.reduceAdd, Nat.reduceSub, List.replicate_zero, List.replicate_succ, List.append_nil, List.nil_append, List.cons_append, List.getElem?_cons_zero, List.getElem?_cons_succ, List.set_cons_zero, List.set_cons_succ, Option.some.injEq, exists_and_left, exists_eq_left', exists_eq_left, V.int.injEq, V.bl.injEq, V.str.injEq, V.ref.injEq, List.cons.injEq, and_true, true_and, if_true, if_false, Bool.false_eq_true, reduceCtorEq, Bool.not_true, Bool.not_false, cxOf])
    exact q _ .refl
  | @tup a xs e h n =>
    refine isi_tup (.tup e) ?_
    rw [isTp_t e]
    repeat (first | (refine ⟨_, SqT.of (by first | assumption | exact St'.tp (H := H) (by assumption) _ _ (by assumption)), ?_⟩) | (refine ⟨_, .inr (SqT.of (by first | assumption | exact St'.tp (H := H) (by assumption) _ _ (by assumption))), ?_⟩) | (refine ⟨_, rfl, ?_⟩) | (refine ⟨_, atIv (by assumption), ?_⟩) | (refine ⟨_, _, ⟨rfl, rfl⟩, ?_⟩) | (refine ⟨rfl, ?_⟩) | simp only [tRet, tAndV, tOrV, tNotV, tCB, tCons, tNil, tC, tVar, tChain, rI0, tIfS, tTest, tOp, tUn, rU, rI, tPar3, tBM, tBM0, tM1, gSub, tXm, tCon, tProp, tMethR, rEq, rNe, rIxT, rIxL, decide_true, decide_false, tAnd, tOr, tNot, tB, tSeq, tAsg, gName, tDrop, tNext, tTup, tLst, tIf, tDf, tFld, tMf0, tPart, tSl, tNoPart, tPar, gTup, gLst, gCons, gNil, L2.start, List.map_cons, List.map_nil, List.length_cons, List.length_nil, Nat.zero_add, Nat.sub_self, Nat.reduceAdd, Nat.reduceSub, List.replicate_zero, List.replicate_succ, List.append_nil, List.nil_append, List.cons_append, List.getElem?_cons_zero, List.getElem?_cons_succ, List.set_cons_zero, List.set_cons_succ, Option.some.injEq, exists_and_left, exists_eq_left', exists_eq_left, V.int.injEq, V.bl.injEq, V.str.injEq, V.ref.injEq, List.cons.injEq, and_true, true_and, if_true, if_false, Bool.false_eq_true, reduceCtorEq, Bool.not_true, Bool.not_false, cxOf])
    by_cases c : xs.length = bx.length
    · rw [if_neg (by simp [c])]
      refine ⟨_, rfl, a, rfl, ⟨_, SqT.of e⟩, fun D hD => lc_tup (xs := xs) (fun i H' => H' D = some (.lst ((xs.take i).map fun x => .bl (inR x 0 (lst1 bx)))) ∧ St' [] H H') ⟨upd_same, St'.refl.new hD⟩ (fun i H' _ p => SqT.of (p.2.tp _ _ e)) ?_ ?_⟩
      · rintro i x H' hi ⟨hacc, st⟩
        have hx := h x (List.mem_of_getElem? hi)
        have hb' := st.tp _ _ hb
        simp only [wipe, tYes, tCB, tRet, tAndV, tOrV, tNotV, tCB, tCons, tNil, tC, tVar, tChain, rI0, tIfS, tTest, tOp, tUn, rU, rI, tPar3, tBM, tBM0, tM1, gSub, tXm, tCon, tProp, tMethR, rEq, rNe, rIxT, rIxL, decide_true, decide_false, tAnd, tOr, tNot, tB, tSeq, tAsg, gName, tDrop, tNext, tTup, tLst, tIf, tDf, tFld, tMf0, tPart, tSl, tNoPart, tPar, gTup, gLst, gCons, gNil, L2.start, List.map_cons, List.map_nil, List.length_cons, List.length_nil, Nat.zero_add, Nat.sub_self, Nat.reduceAdd, Nat.reduceSub, List.replicate_zero, List.replicate_succ, List.append_nil, List.nil_append, List.cons_append, List.getElem?_cons_zero, List.getElem?_cons_succ, List.set_cons_zero, List.set_cons_succ, Option.some.injEq, exists_and_left, exists_eq_left', exists_eq_left, V.int.injEq, V.bl.injEq, V.str.injEq, V.ref.injEq, List.cons.injEq, and_true, true_and, if_true, if_false, Bool.false_eq_true, reduceCtorEq, Bool.not_true, Bool.not_false, cxOf]
        refine ⟨b, _, rfl, .inr (SqT.of hb'), _, rfl, x, 0, lst1 bx, by rw [List.length_map], hx.st st, ?_⟩
        refine ⟨_, hacc, by simp [sizeLine]; omega, ?_, st.own hD⟩
        rw [upd_same, List.take_add_one, hi]
        simp
      · rintro H' ⟨hacc, st⟩
        rw [List.take_length] at hacc
        refine ⟨D, xs.map fun x => inR x 0 (lst1 bx), rfl, SqL.of (by rw [hacc]; simp [Function.comp_def]), ?_⟩
        have q' := q H' st
        rw [isOrdB_some] at q'
        unfold permB at q'
        rw [decide_eq_true c, Bool.true_and] at q'
        have e1 : (xs.map fun x => inR x 0 (lst1 bx)).all id = xs.all fun x => inR x 0 ((bx.length : Int) - 1) := by simp [List.all_map, Function.comp_def, lst1]
        rw [e1]
        refine ⟨_, rfl, ?_⟩
        cases c2 : xs.all fun x => inR x 0 ((bx.length : Int) - 1) with
        | false =>
          rw [c2] at q'
          rw [if_neg (by simp)]
          exact q'
        | true =>
          rw [c2] at q'
          rw [if_pos rfl]
          have e2 : xs = ivs (xs.map toI) := by
            have e3 : (xs.map fun x => V.int (toI x)) = xs.map id := List.map_congr_left fun x hx => (inR_int (List.all_eq_true.mp c2 x hx)).1.symm
            rw [List.map_id] at e3
            show xs = (xs.map toI).map V.int
            rw [List.map_map]
            exact e3.symm
          refine ⟨_, rfl, a, xs.map toI, rfl, SqT.of (by have e4 := st.tp _ _ e; rw [e2] at e4; exact e4), by simp; omega, fun k hk hk2 => ?_⟩
          refine ⟨_, .inr (SqT.of (st.tp _ _ hb)), rfl, ?_⟩
          rw [Bool.true_and] at q'
          have e3 : decide (V.int (k : Int) = V.int ((ivs bx).length : Int)) = decide ((xs.map toI).Nodup) := by
            rw [decide_eq_decide, ← hk2, V.int.injEq]
            simp
            omega
          rw [e3]
          exact q'
    · rw [if_pos (by simp; omega)]
      have q' := q H .refl
      rw [isOrdB_some] at q'
      unfold permB at q'
      rw [decide_eq_false c] at q'
      exact q'
theorem sc_turned : FnScope ["page", "order", "pair", "box", "first", "second", "third", "sides", "axis"] ["page", "order"] (defScope s_turned) := ⟨rfl, rfl, rfl, by decide +kernel, rfl, by decide +kernel, by decide +kernel⟩
def spTurned (K : KF) : Sp := fun vs H Q E => ∃ (p v : V) (g : Pg) (o : Option (List V)), vs = [p, v] ∧ PgAt H p g ∧ g.Ok big ∧ OdV H v o ∧ Fin' K H (turnP g v o) Q E
theorem ok_turned (T : Tx w K mg) (D_is_order : Df R.prog w K mg base CX0 2 "is_order" spIsOrder) : DfX w K mg base 3 "turned" (spTurned K) := by
  refine df_of T.d_turned T.g_turned sc_turned (fun _ _ _ _ _ _ us hl => match us, hl with | [_, _], _ => rfl)
    (fun vs H Q E h => by repeat (first | (obtain ⟨rfl, _⟩ := h; rfl) | (obtain ⟨_, h⟩ := h))) (fun cdv A outer s H vs Q E hr h => ?_)
  have nd := sc_turned.nd
  refine ⟨_, (pss_cons (ps_asg (pv 0) (pg_tup rfl (pgs_cons (pg_name (i := 2) nd rfl (by first | exact Or.inl rfl | exact Or.inr rfl)) (pgs_cons (pg_name (i := 3) nd rfl (by first | exact Or.inl rfl | exact Or.inr rfl)) pgs_nil))))
          (pss_cons (ps_if (pt_not (pt_val (pe_df D_is_order hr (by decide) pass0 (pa_cons (pv 3) (pa_cons (pv 1) pa_nil))))) (pss_one (ps_rxo (takes_of rfl rfl rfl rfl) T.xo_BadOrder hr (pa_cons (pv 1) pa_nil))) pss_nil)
          (pss_cons (ps_asg (pe_lc (own := [("sides", 7)]) (g := (gName 7)) (tt := tYes) rfl nd (pi_tup (pe_tup (pa_cons (pe_ix ix_tup (pv 2) pe_int (fun _ _ => rfl)) (pa_cons (pe_ix ix_tup (pv 2) pe_int (fun _ _ => rfl)) (pa_cons (pv 3) pa_nil))))) (blkOk_by (own := [("sides", 7)]) (N := ["page", "order", "pair", "box", "first", "second", "third", "sides", "axis"]) (sc := defScope s_turned) (by decide +kernel)) (fun _ _ _ _ _ => (pg_name (i := 7) nd rfl (by first | exact Or.inl rfl | exact Or.inr rfl))) (fun _ _ _ _ _ => pts_nil) (fun _ _ _ _ _ => (pe_callTy (show CallR _ _ (rTupS K) from call_tuple_of) rfl T.n_tuple (by decide +kernel) (pa_cons (pe_lc (own := [("axis", 8)]) (g := (gName 8)) (tt := tYes) (wi := iTup K (tVar 1)) (te := tOp (rIxT K) (tVar 7) (tVar 8)) rfl nd (show PI _ _ _ (iTup K _) from pi_tup (pv 1)) (by refine blkOk_by ?_; rfl) (fun _ _ _ _ _ => (pg_name (i := 8) nd rfl (by first | exact Or.inl rfl | exact Or.inr rfl))) (fun _ _ _ _ _ => pts_nil) (fun _ _ _ _ _ => (pe_ix (show IxR _ (rIxT K) from ix_tup) (pv 7) (pv 8) (fun _ _ => rfl)))) pa_nil)))) (pg_lst rfl (pgs_cons (pg_name (i := 4) nd rfl (by first | exact Or.inl rfl | exact Or.inr rfl)) (pgs_cons (pg_name (i := 5) nd rfl (by first | exact Or.inl rfl | exact Or.inr rfl)) (pgs_cons (pg_name (i := 6) nd rfl (by first | exact Or.inl rfl | exact Or.inr rfl)) pgs_nil)))))
          (pss_one (ps_ret (pe_tup (pa_cons (pe_tup (pa_cons (pv 4) (pa_cons (pv 5) pa_nil))) (pa_cons (pv 6) pa_nil)))))))), ?_⟩
  obtain ⟨p, v, g, o, rfl, ⟨pa, ap, ab, rfl, hpa, ⟨a0, a1, hap, h0, h1⟩, hab⟩, ok, od, q⟩ := h
  simp only [tRet, tAndV, tOrV, tNotV, tCB, tCons, tNil, tC, tVar, tChain, rI0, tIfS, tTest, tOp, tUn, rU, rI, tPar3, tBM, tBM0, tM1, gSub, tXm, tCon, tProp, tMethR, rEq, rNe, rIxT, rIxL, decide_true, decide_false, tAnd, tOr, tNot, tB, tSeq, tAsg, gName, tDrop, tNext, tTup, tLst, tIf, tDf, tFld, tMf0, tPart, tSl, tNoPart, tPar, gTup, gLst, gCons, gNil, L2.start, List.map_cons, List.map_nil, List.length_cons, List.length_nil, Nat.zero_add, Nat.sub_self, Nat.reduceAdd, Nat.reduceSub, List.replicate_zero, List.replicate_succ, List.append_nil, List.nil_append, List.cons_append, List.getElem?_cons_zero, List.getElem?_cons_succ, List.set_cons_zero, List.set_cons_succ, Option.some.injEq, exists_and_left, exists_eq_left', exists_eq_left, V.int.injEq, V.bl.injEq, V.str.injEq, V.ref.injEq, List.cons.injEq, and_true, true_and, if_true, if_false, Bool.false_eq_true, reduceCtorEq, Bool.not_true, Bool.not_false, cxOf]
  repeat (first | (refine ⟨_, SqT.of (by first | assumption | exact St'.tp (H := H) (by assumption) _ _ (by assumption)), ?_⟩) | (refine ⟨_, .inr (SqT.of (by first | assumption | exact St'.tp (H := H) (by assumption) _ _ (by assumption))), ?_⟩) | (refine ⟨_, rfl, ?_⟩) | (refine ⟨_, atIv (by assumption), ?_⟩) | (refine ⟨_, _, ⟨rfl, rfl⟩, ?_⟩) | (refine ⟨rfl, ?_⟩) | simp only [tRet, tAndV, tOrV, tNotV, tCB, tCons, tNil, tC, tVar, tChain, rI0, tIfS, tTest, tOp, tUn, rU, rI, tPar3, tBM, tBM0, tM1, gSub, tXm, tCon, tProp, tMethR, rEq, rNe, rIxT, rIxL, decide_true, decide_false, tAnd, tOr, tNot, tB, tSeq, tAsg, gName, tDrop, tNext, tTup, tLst, tIf, tDf, tFld, tMf0, tPart, tSl, tNoPart, tPar, gTup, gLst, gCons, gNil, L2.start, List.map_cons, List.map_nil, List.length_cons, List.length_nil, Nat.zero_add, Nat.sub_self, Nat.reduceAdd, Nat.reduceSub, List.replicate_zero, List.replicate_succ, List.append_nil, List.nil_append, List.cons_append, List.getElem?_cons_zero, List.getElem?_cons_succ, List.set_cons_zero, List.set_cons_succ, Option.some.injEq, exists_and_left, exists_eq_left', exists_eq_left, V.int.injEq, V.bl.injEq, V.str.injEq, V.ref.injEq, List.cons.injEq, and_true, true_and, if_true, if_false, Bool.false_eq_true, reduceCtorEq, Bool.not_true, Bool.not_false, cxOf])
  refine ⟨ab, g.bx, v, o, rfl, hab, od, fun H1 st => ?_⟩
  cases od with
  | @oth _ ty nt =>
    repeat (first | (refine ⟨_, SqT.of (by first | assumption | exact St'.tp (H := H) (by assumption) _ _ (by assumption)), ?_⟩) | (refine ⟨_, .inr (SqT.of (by first | assumption | exact St'.tp (H := H) (by assumption) _ _ (by assumption))), ?_⟩) | (refine ⟨_, rfl, ?_⟩) | (refine ⟨_, atIv (by assumption), ?_⟩) | (refine ⟨_, _, ⟨rfl, rfl⟩, ?_⟩) | (refine ⟨rfl, ?_⟩) | simp only [tRet, tAndV, tOrV, tNotV, tCB, tCons, tNil, tC, tVar, tChain, rI0, tIfS, tTest, tOp, tUn, rU, rI, tPar3, tBM, tBM0, tM1, gSub, tXm, tCon, tProp, tMethR, rEq, rNe, rIxT, rIxL, decide_true, decide_false, tAnd, tOr, tNot, tB, tSeq, tAsg, gName, tDrop, tNext, tTup, tLst, tIf, tDf, tFld, tMf0, tPart, tSl, tNoPart, tPar, gTup, gLst, gCons, gNil, L2.start, List.map_cons, List.map_nil, List.length_cons, List.length_nil, Nat.zero_add, Nat.sub_self, Nat.reduceAdd, Nat.reduceSub, List.replicate_zero, List.replicate_succ, List.append_nil, List.nil_append, List.cons_append, List.getElem?_cons_zero, List.getElem?_cons_succ, List.set_cons_zero, List.set_cons_succ, Option.some.injEq, exists_and_left, exists_eq_left', exists_eq_left, V.int.injEq, V.bl.injEq, V.str.injEq, V.ref.injEq, List.cons.injEq, and_true, true_and, if_true, if_false, Bool.false_eq_true, reduceCtorEq, Bool.not_true, Bool.not_false, cxOf])
    exact fun d nd => q d _ (st.new nd) upd_same
  | @tup a xs e h n =>
    unfold turnP at q
    dsimp only at q
    cases c : permB xs g.bx.length with
    | false =>
      rw [if_neg (by rw [c]; simp)] at q
      rw [isOrdB_some, c]
      repeat (first | (refine ⟨_, SqT.of (by first | assumption | exact St'.tp (H := H) (by assumption) _ _ (by assumption)), ?_⟩) | (refine ⟨_, .inr (SqT.of (by first | assumption | exact St'.tp (H := H) (by assumption) _ _ (by assumption))), ?_⟩) | (refine ⟨_, rfl, ?_⟩) | (refine ⟨_, atIv (by assumption), ?_⟩) | (refine ⟨_, _, ⟨rfl, rfl⟩, ?_⟩) | (refine ⟨rfl, ?_⟩) | simp only [tRet, tAndV, tOrV, tNotV, tCB, tCons, tNil, tC, tVar, tChain, rI0, tIfS, tTest, tOp, tUn, rU, rI, tPar3, tBM, tBM0, tM1, gSub, tXm, tCon, tProp, tMethR, rEq, rNe, rIxT, rIxL, decide_true, decide_false, tAnd, tOr, tNot, tB, tSeq, tAsg, gName, tDrop, tNext, tTup, tLst, tIf, tDf, tFld, tMf0, tPart, tSl, tNoPart, tPar, gTup, gLst, gCons, gNil, L2.start, List.map_cons, List.map_nil, List.length_cons, List.length_nil, Nat.zero_add, Nat.sub_self, Nat.reduceAdd, Nat.reduceSub, List.replicate_zero, List.replicate_succ, List.append_nil, List.nil_append, List.cons_append, List.getElem?_cons_zero, List.getElem?_cons_succ, List.set_cons_zero, List.set_cons_succ, Option.some.injEq, exists_and_left, exists_eq_left', exists_eq_left, V.int.injEq, V.bl.injEq, V.str.injEq, V.ref.injEq, List.cons.injEq, and_true, true_and, if_true, if_false, Bool.false_eq_true, reduceCtorEq, Bool.not_true, Bool.not_false, cxOf])
      exact fun d nd => q d _ (st.new nd) upd_same
    | true =>
      rw [if_pos c] at q
      rw [isOrdB_some, c]
      refine ⟨true, rfl, ?_⟩
      rw [if_neg (by simp)]
      unfold permB at c
      simp only [Bool.and_eq_true, decide_eq_true_eq] at c
      obtain ⟨⟨c1, c2⟩, c3⟩ := c
      have hap1 := st.tp _ _ hap
      refine ⟨_, rfl, _, _, _, _, rfl, rfl, SqT.of hap1, rfl, _, rfl, _, _, _, _, rfl, rfl, SqT.of hap1, rfl, _, rfl, (by show 3 ≤ sizeLine; decide), fun p np => ⟨p, rfl, ⟨_, SqT.of upd_same⟩, fun D nD => ?_⟩⟩
      have st1 := st.new (p := p) (o := .tup [.ref a0, .ref a1, .ref ab]) np
      generalize hH2 : upd H1 p (.tup [.ref a0, .ref a1, .ref ab]) = H2 at *
      have hp2 : H2 p = some (.tup [.ref a0, .ref a1, .ref ab]) := by rw [← hH2, upd_same]
      refine lc_tup (xs := [.ref a0, .ref a1, .ref ab]) (fun i H' => ∃ L, H' D = some (.lst L) ∧ RowsAt H' L (([g.p0, g.p1, g.bx].take i).map (turnRow xs)) ∧ L.length = i ∧ St' [] H2 H') ⟨[], upd_same, trivial, rfl, St'.refl.new nD⟩ (fun i H' _ p => by obtain ⟨L, _, _, _, z⟩ := p; exact SqT.of (z.tp _ _ hp2)) ?_ ?_
      · rintro i x H' hi ⟨L, hL, hR, hn, s2⟩
        have st2 := st1.trans s2
        obtain ⟨ar, r, rfl, hr, lr, tk⟩ : ∃ ar r, x = .ref ar ∧ H ar = some (.tup (ivs r)) ∧ r.length = g.bx.length ∧ [g.p0, g.p1, g.bx].take (i + 1) = [g.p0, g.p1, g.bx].take i ++ [r] := by
          have e1 := ok.o3.l1
          have e2 := ok.o3.lb
          match i, hi with
          | 0, hi => cases hi; exact ⟨a0, _, rfl, h0, by omega, rfl⟩
          | 1, hi => cases hi; exact ⟨a1, _, rfl, h1, by omega, rfl⟩
          | 2, hi => cases hi; exact ⟨ab, _, rfl, hab, rfl, rfl⟩
        simp only [wipe, tYes, tCB, tRet, tAndV, tOrV, tNotV, tCB, tCons, tNil, tC, tVar, tChain, rI0, tIfS, tTest, tOp, tUn, rU, rI, tPar3, tBM, tBM0, tM1, gSub, tXm, tCon, tProp, tMethR, rEq, rNe, rIxT, rIxL, decide_true, decide_false, tAnd, tOr, tNot, tB, tSeq, tAsg, gName, tDrop, tNext, tTup, tLst, tIf, tDf, tFld, tMf0, tPart, tSl, tNoPart, tPar, gTup, gLst, gCons, gNil, L2.start, List.map_cons, List.map_nil, List.length_cons, List.length_nil, Nat.zero_add, Nat.sub_self, Nat.reduceAdd, Nat.reduceSub, List.replicate_zero, List.replicate_succ, List.append_nil, List.nil_append, List.cons_append, List.getElem?_cons_zero, List.getElem?_cons_succ, List.set_cons_zero, List.set_cons_succ, Option.some.injEq, exists_and_left, exists_eq_left', exists_eq_left, V.int.injEq, V.bl.injEq, V.str.injEq, V.ref.injEq, List.cons.injEq, and_true, true_and, if_true, if_false, Bool.false_eq_true, reduceCtorEq, Bool.not_true, Bool.not_false, cxOf]
        refine ⟨_, rfl, a, rfl, ⟨_, SqT.of (st2.tp _ _ e)⟩, fun D2 nD2 => ?_⟩
        refine lc_tup (xs := xs) (fun j H3 => H3 D2 = some (.lst (ivs (turnRow (xs.take j) r))) ∧ St' [] H' H3) ⟨upd_same, St'.refl.new nD2⟩ (fun j H3 _ p => SqT.of (p.2.tp _ _ (st2.tp _ _ e))) ?_ ?_
        · rintro j x H3 hj ⟨hD2, s3⟩
          have hx := inR_int (List.all_eq_true.mp c2 x (List.mem_of_getElem? hj))
          have ex : x = .int ((toN x : Nat) : Int) := by rw [Int.toNat_of_nonneg hx.2.1]; exact hx.1
          have ez : ((toN x : Nat) : Int) = toI x := Int.toNat_of_nonneg hx.2.1
          have lx : toN x < r.length := by omega
          have st3 := st2.trans s3
          simp only [wipe, tRet, tAndV, tOrV, tNotV, tCB, tCons, tNil, tC, tVar, tChain, rI0, tIfS, tTest, tOp, tUn, rU, rI, tPar3, tBM, tBM0, tM1, gSub, tXm, tCon, tProp, tMethR, rEq, rNe, rIxT, rIxL, decide_true, decide_false, tAnd, tOr, tNot, tB, tSeq, tAsg, gName, tDrop, tNext, tTup, tLst, tIf, tDf, tFld, tMf0, tPart, tSl, tNoPart, tPar, gTup, gLst, gCons, gNil, L2.start, List.map_cons, List.map_nil, List.length_cons, List.length_nil, Nat.zero_add, Nat.sub_self, Nat.reduceAdd, Nat.reduceSub, List.replicate_zero, List.replicate_succ, List.append_nil, List.nil_append, List.cons_append, List.getElem?_cons_zero, List.getElem?_cons_succ, List.set_cons_zero, List.set_cons_succ, Option.some.injEq, exists_and_left, exists_eq_left', exists_eq_left, V.int.injEq, V.bl.injEq, V.str.injEq, V.ref.injEq, List.cons.injEq, and_true, true_and, if_true, if_false, Bool.false_eq_true, reduceCtorEq, Bool.not_true, Bool.not_false, cxOf]
          refine ⟨_, _, ex, SqT.of (st3.tp _ _ hr), _, atIv (List.getElem?_eq_getElem lx), ?_⟩
          have jl := (List.getElem?_eq_some_iff.mp hj).1
          refine ⟨_, hD2, Nat.lt_of_le_of_lt (m := 60) (by have z := List.length_take_le j xs; simp only [turnRow, List.length_map]; omega) (by decide), ?_, s3.own nD2⟩
          rw [upd_same, List.take_add_one, hj]
          simp [turnRow, ivs, List.getD_eq_getElem?_getD, lx]
        · rintro H3 ⟨hD2, s3⟩
          rw [List.take_length] at hD2
          refine ⟨D2, _, rfl, .inl ⟨SqL.of hD2, fun l nl => ?_⟩⟩
          have hL3 : H3 D = some (.lst L) := s3.kp _ _ hL (by simp)
          have nDl : D ≠ l := fun z => by rw [← z, hL3] at nl; cases nl
          have s4 := s3.new (p := l) (o := .tup (ivs (turnRow xs r))) nl
          refine ⟨L, by rw [upd_ne nDl]; exact hL3, Nat.lt_of_le_of_lt (m := 3) (by have il := (List.getElem?_eq_some_iff.mp hi).1; rw [hn]; exact Nat.le_of_lt il) (by decide), L ++ [.ref l], upd_same, ?_, by simp [hn], (s2.trans s4).own nD⟩
          rw [tk, List.map_append]
          have s5 : St' [D] (upd H3 l (.tup (ivs (turnRow xs r)))) (upd (upd H3 l (.tup (ivs (turnRow xs r)))) D (.lst (L ++ [.ref l]))) := St'.refl.putL (by simp) (by rw [upd_ne nDl]; exact hL3)
          exact RowsAt.snoc (s5.tp _ _ upd_same) (RowsAt.st s5 (RowsAt.st s4 hR))
      · rintro H' ⟨L, hL, hR, hn, s2⟩
        have st2 := st1.trans s2
        obtain ⟨q0, q1, q2, rfl, r0, r1, r2⟩ : ∃ q0 q1 q2, L = [.ref q0, .ref q1, .ref q2] ∧ H' q0 = some (.tup (ivs (turnRow xs g.p0))) ∧ H' q1 = some (.tup (ivs (turnRow xs g.p1))) ∧ H' q2 = some (.tup (ivs (turnRow xs g.bx))) := RowsAt.three hR
        simp only [tRet, tAndV, tOrV, tNotV, tCB, tCons, tNil, tC, tVar, tChain, rI0, tIfS, tTest, tOp, tUn, rU, rI, tPar3, tBM, tBM0, tM1, gSub, tXm, tCon, tProp, tMethR, rEq, rNe, rIxT, rIxL, decide_true, decide_false, tAnd, tOr, tNot, tB, tSeq, tAsg, gName, tDrop, tNext, tTup, tLst, tIf, tDf, tFld, tMf0, tPart, tSl, tNoPart, tPar, gTup, gLst, gCons, gNil, L2.start, List.map_cons, List.map_nil, List.length_cons, List.length_nil, Nat.zero_add, Nat.sub_self, Nat.reduceAdd, Nat.reduceSub, List.replicate_zero, List.replicate_succ, List.append_nil, List.nil_append, List.cons_append, List.getElem?_cons_zero, List.getElem?_cons_succ, List.set_cons_zero, List.set_cons_succ, Option.some.injEq, exists_and_left, exists_eq_left', exists_eq_left, V.int.injEq, V.bl.injEq, V.str.injEq, V.ref.injEq, List.cons.injEq, and_true, true_and, if_true, if_false, Bool.false_eq_true, reduceCtorEq, Bool.not_true, Bool.not_false, cxOf]
        refine ⟨_, SqL.of hL, rfl, ?_⟩
        repeat (first | (refine ⟨_, SqT.of (by first | assumption | exact St'.tp (H := H) (by assumption) _ _ (by assumption)), ?_⟩) | (refine ⟨_, .inr (SqT.of (by first | assumption | exact St'.tp (H := H) (by assumption) _ _ (by assumption))), ?_⟩) | (refine ⟨_, rfl, ?_⟩) | (refine ⟨_, atIv (by assumption), ?_⟩) | (refine ⟨_, _, ⟨rfl, rfl⟩, ?_⟩) | (refine ⟨rfl, ?_⟩) | simp only [tRet, tAndV, tOrV, tNotV, tCB, tCons, tNil, tC, tVar, tChain, rI0, tIfS, tTest, tOp, tUn, rU, rI, tPar3, tBM, tBM0, tM1, gSub, tXm, tCon, tProp, tMethR, rEq, rNe, rIxT, rIxL, decide_true, decide_false, tAnd, tOr, tNot, tB, tSeq, tAsg, gName, tDrop, tNext, tTup, tLst, tIf, tDf, tFld, tMf0, tPart, tSl, tNoPart, tPar, gTup, gLst, gCons, gNil, L2.start, List.map_cons, List.map_nil, List.length_cons, List.length_nil, Nat.zero_add, Nat.sub_self, Nat.reduceAdd, Nat.reduceSub, List.replicate_zero, List.replicate_succ, List.append_nil, List.nil_append, List.cons_append, List.getElem?_cons_zero, List.getElem?_cons_succ, List.set_cons_zero, List.set_cons_succ, Option.some.injEq, exists_and_left, exists_eq_left', exists_eq_left, V.int.injEq, V.bl.injEq, V.str.injEq, V.ref.injEq, List.cons.injEq, and_true, true_and, if_true, if_false, Bool.false_eq_true, reduceCtorEq, Bool.not_true, Bool.not_false, cxOf])
        refine ⟨by decide, fun p3 n3 => ⟨by decide, fun p4 n4 => ?_⟩⟩
        have s3 := St'.refl (M := []) |>.new (p := p3) (o := .tup [.ref q0, .ref q1]) n3
        have s4 := St'.refl (M := []) |>.new (p := p4) (o := .tup [.ref p3, .ref q2]) n4
        have s5 := s3.trans s4
        exact q _ _ (st2.trans s5) ⟨p4, p3, q2, rfl, upd_same, ⟨q0, q1, s4.tp _ _ upd_same, s5.tp _ _ r0, s5.tp _ _ r1⟩, s5.tp _ _ r2⟩
end
end Yk
set_option Elab.async false
set_option linter.all false
set_option maxRecDepth 100000
set_option maxHeartbeats 4000000
/-! more deeds -/
namespace Yk
open PySem PySem.Spec PyProof.Rows L2
theorem getD_some {xs : List Int} {i : Nat} (h : i < xs.length) : xs[i]? = some (xs.getD i 0) := by simp [List.getD_eq_getElem?_getD, h]
section
variable {w : World} {K : KF} {mg : Str → Option Value} {base : Heap}
theorem sc_stretched : FnScope ["page", "axis", "number", "pair", "box", "first", "second", "third", "sides"] ["page", "axis", "number"] (defScope s_stretched) := ⟨rfl, rfl, rfl, by decide +kernel, rfl, by decide +kernel, by decide +kernel⟩
def spStretched (K : KF) : Sp := fun vs H Q E => ∃ (p a n : V) (g : Pg), vs = [p, a, n] ∧ PgAt H p g ∧ g.Ok big ∧ TyV H a ∧ TyV H n ∧ Fin' K H (stretchP g a n) Q E
theorem ok_stretched (T : Tx w K mg) (D_require_axis : DfX w K mg base 3 "require_axis" (spReqAxis K)) (D_require_side : DfX w K mg base 3 "require_side" (spReqSide K)) (D_with_side : Df R.prog w K mg base CX0 1 "with_side" spWith) : DfX w K mg base 4 "stretched" (spStretched K) := by
  refine df_of T.d_stretched T.g_stretched sc_stretched (fun _ _ _ _ _ _ us hl => match us, hl with | [_, _, _], _ => rfl)
    (fun vs H Q E h => by repeat (first | (obtain ⟨rfl, _⟩ := h; rfl) | (obtain ⟨_, h⟩ := h))) (fun cdv A outer s H vs Q E hr h => ?_)
  have nd := sc_stretched.nd
  refine ⟨_, (pss_cons (ps_asg (pv 0) (pg_tup rfl (pgs_cons (pg_name (i := 3) nd rfl (by first | exact Or.inl rfl | exact Or.inr rfl)) (pgs_cons (pg_name (i := 4) nd rfl (by first | exact Or.inl rfl | exact Or.inr rfl)) pgs_nil))))
          (pss_cons (ps_expr (pe_df D_require_axis hr (by decide) (passes_call (takes_of rfl rfl rfl rfl) (fun _ _ _ _ h => h)) (pa_cons (pv 4) (pa_cons (pv 1) pa_nil))))
          (pss_cons (ps_expr (pe_df D_require_side hr (by decide) (passes_call (takes_of rfl rfl rfl rfl) (fun _ _ _ _ h => h)) (pa_cons (pv 2) pa_nil)))
          (pss_cons (ps_if (pt_cmpR op_gt (pe_op op_mul (pe_callB (call_max3 rfl) rfl T.n_max (by decide +kernel) (pa_cons (pe_ix ix_tup (pe_ix ix_tup (pv 3) pe_int (fun _ _ => rfl)) (pv 1) (fun _ _ => rfl)) (pa_cons (pe_ix ix_tup (pe_ix ix_tup (pv 3) pe_int (fun _ _ => rfl)) (pv 1) (fun _ _ => rfl)) (pa_cons (pe_ix ix_tup (pv 4) (pv 1) (fun _ _ => rfl)) pa_nil)))) (pv 2)) (pe_gk T.c_MAX_SIDE) (nomark _)) (pss_one (ps_rxo (takes_of rfl rfl rfl rfl) T.xo_TooLarge hr (pa_cons (pv 1) pa_nil))) pss_nil)
          (pss_cons (ps_asg (pe_lc (own := [("sides", 8)]) (g := (gName 8)) (tt := tYes) rfl nd (pi_tup (pe_tup (pa_cons (pe_ix ix_tup (pv 3) pe_int (fun _ _ => rfl)) (pa_cons (pe_ix ix_tup (pv 3) pe_int (fun _ _ => rfl)) (pa_cons (pv 4) pa_nil))))) (blkOk_by (own := [("sides", 8)]) (N := ["page", "axis", "number", "pair", "box", "first", "second", "third", "sides"]) (sc := defScope s_stretched) (by decide +kernel)) (fun _ _ _ _ _ => (pg_name (i := 8) nd rfl (by first | exact Or.inl rfl | exact Or.inr rfl))) (fun _ _ _ _ _ => pts_nil) (fun _ _ _ _ _ => (pe_df D_with_side hr (by decide) pass0 (pa_cons (pv 8) (pa_cons (pv 1) (pa_cons (pe_op op_mul (pe_ix (show IxR _ (rIxT K) from ix_tup) (pv 8) (pv 1) (fun _ _ => rfl)) (pv 2)) pa_nil)))))) (pg_lst rfl (pgs_cons (pg_name (i := 5) nd rfl (by first | exact Or.inl rfl | exact Or.inr rfl)) (pgs_cons (pg_name (i := 6) nd rfl (by first | exact Or.inl rfl | exact Or.inr rfl)) (pgs_cons (pg_name (i := 7) nd rfl (by first | exact Or.inl rfl | exact Or.inr rfl)) pgs_nil)))))
          (pss_one (ps_ret (pe_tup (pa_cons (pe_tup (pa_cons (pv 5) (pa_cons (pv 6) pa_nil))) (pa_cons (pv 7) pa_nil)))))))))), ?_⟩
  obtain ⟨p, a, n, g, rfl, ⟨pa, ap, ab, rfl, hpa, ⟨a0, a1, hap, h0, h1⟩, hab⟩, ok, ta, tn, q⟩ := h
  simp only [tRet, tAndV, tOrV, tNotV, tCB, tCons, tNil, tC, tVar, tChain, rI0, tIfS, tTest, tOp, tUn, rU, rI, tPar3, tBM, tBM0, tM1, gSub, tXm, tCon, tProp, tMethR, rEq, rNe, rIxT, rIxL, decide_true, decide_false, tAnd, tOr, tNot, tB, tSeq, tAsg, gName, tDrop, tNext, tTup, tLst, tIf, tDf, tFld, tMf0, tPart, tSl, tNoPart, tPar, gTup, gLst, gCons, gNil, L2.start, List.map_cons, List.map_nil, List.length_cons, List.length_nil, Nat.zero_add, Nat.sub_self, Nat.reduceAdd, Nat.reduceSub, List.replicate_zero, List.replicate_succ, List.append_nil, List.nil_append, List.cons_append, List.getElem?_cons_zero, List.getElem?_cons_succ, List.set_cons_zero, List.set_cons_succ, Option.some.injEq, exists_and_left, exists_eq_left', exists_eq_left, V.int.injEq, V.bl.injEq, V.str.injEq, V.ref.injEq, List.cons.injEq, and_true, true_and, if_true, if_false, Bool.false_eq_true, reduceCtorEq, Bool.not_true, Bool.not_false, cxOf]
  repeat (first | (refine ⟨_, SqT.of (by first | assumption | exact St'.tp (H := H) (by assumption) _ _ (by assumption)), ?_⟩) | (refine ⟨_, .inr (SqT.of (by first | assumption | exact St'.tp (H := H) (by assumption) _ _ (by assumption))), ?_⟩) | (refine ⟨_, rfl, ?_⟩) | (refine ⟨_, atIv (by assumption), ?_⟩) | (refine ⟨_, _, ⟨rfl, rfl⟩, ?_⟩) | (refine ⟨rfl, ?_⟩) | simp only [tRet, tAndV, tOrV, tNotV, tCB, tCons, tNil, tC, tVar, tChain, rI0, tIfS, tTest, tOp, tUn, rU, rI, tPar3, tBM, tBM0, tM1, gSub, tXm, tCon, tProp, tMethR, rEq, rNe, rIxT, rIxL, decide_true, decide_false, tAnd, tOr, tNot, tB, tSeq, tAsg, gName, tDrop, tNext, tTup, tLst, tIf, tDf, tFld, tMf0, tPart, tSl, tNoPart, tPar, gTup, gLst, gCons, gNil, L2.start, List.map_cons, List.map_nil, List.length_cons, List.length_nil, Nat.zero_add, Nat.sub_self, Nat.reduceAdd, Nat.reduceSub, List.replicate_zero, List.replicate_succ, List.append_nil, List.nil_append, List.cons_append, List.getElem?_cons_zero, List.getElem?_cons_succ, List.set_cons_zero, List.set_cons_succ, Option.some.injEq, exists_and_left, exists_eq_left', exists_eq_left, V.int.injEq, V.bl.injEq, V.str.injEq, V.ref.injEq, List.cons.injEq, and_true, true_and, if_true, if_false, Bool.false_eq_true, reduceCtorEq, Bool.not_true, Bool.not_false, cxOf])
  have e1 := ok.o3.l1
  have e2 := ok.o3.lb
  refine ⟨ab, g.bx, a, rfl, hab, ta, fun c1 => ?_, fun c1 d H' st hd => ?_⟩
  · obtain ⟨ea, la⟩ := inR_ax c1
    refine ⟨n, rfl, tn, fun c2 => ?_, fun c2 d H' st hd => ?_⟩
    · obtain ⟨en, n1, n2⟩ := inR_int c2
      unfold stretchP at q
      rw [if_pos c1, if_pos c2] at q
      have x0 : g.p0[toN a]? = some (g.p0.getD (toN a) 0) := getD_some (by omega)
      have x1 : g.p1[toN a]? = some (g.p1.getD (toN a) 0) := getD_some (by omega)
      have xb : g.bx[toN a]? = some (g.bx.getD (toN a) 0) := getD_some la
      have b0 := ok.o3.s0.all _ (List.mem_of_getElem? x0)
      have b1 := ok.o3.s1.all _ (List.mem_of_getElem? x1)
      have bb := ok.o3.sb.all _ (List.mem_of_getElem? xb)
      rw [ea, en]
      repeat (first | (refine ⟨_, SqT.of (by first | assumption | exact St'.tp (H := H) (by assumption) _ _ (by assumption)), ?_⟩) | (refine ⟨_, .inr (SqT.of (by first | assumption | exact St'.tp (H := H) (by assumption) _ _ (by assumption))), ?_⟩) | (refine ⟨_, rfl, ?_⟩) | (refine ⟨_, atIv (by assumption), ?_⟩) | (refine ⟨_, _, ⟨rfl, rfl⟩, ?_⟩) | (refine ⟨rfl, ?_⟩) | simp only [tRet, tAndV, tOrV, tNotV, tCB, tCons, tNil, tC, tVar, tChain, rI0, tIfS, tTest, tOp, tUn, rU, rI, tPar3, tBM, tBM0, tM1, gSub, tXm, tCon, tProp, tMethR, rEq, rNe, rIxT, rIxL, decide_true, decide_false, tAnd, tOr, tNot, tB, tSeq, tAsg, gName, tDrop, tNext, tTup, tLst, tIf, tDf, tFld, tMf0, tPart, tSl, tNoPart, tPar, gTup, gLst, gCons, gNil, L2.start, List.map_cons, List.map_nil, List.length_cons, List.length_nil, Nat.zero_add, Nat.sub_self, Nat.reduceAdd, Nat.reduceSub, List.replicate_zero, List.replicate_succ, List.append_nil, List.nil_append, List.cons_append, List.getElem?_cons_zero, List.getElem?_cons_succ, List.set_cons_zero, List.set_cons_succ, Option.some.injEq, exists_and_left, exists_eq_left', exists_eq_left, V.int.injEq, V.bl.injEq, V.str.injEq, V.ref.injEq, List.cons.injEq, and_true, true_and, if_true, if_false, Bool.false_eq_true, reduceCtorEq, Bool.not_true, Bool.not_false, cxOf])
      have hbig : (big : Int) = 1000000000000 := rfl
      have bm : (if g.p1.getD (toN a) 0 > g.p0.getD (toN a) 0 then if g.bx.getD (toN a) 0 > g.p1.getD (toN a) 0 then g.bx.getD (toN a) 0 else g.p1.getD (toN a) 0 else if g.bx.getD (toN a) 0 > g.p0.getD (toN a) 0 then g.bx.getD (toN a) 0 else g.p0.getD (toN a) 0) = max3 (g.p0.getD (toN a) 0) (g.p1.getD (toN a) 0) (g.bx.getD (toN a) 0) := rfl
      refine ⟨_, _, _, ⟨rfl, rfl, rfl⟩, ?_⟩
      rw [bm]
      have b3 : max3 (g.p0.getD (toN a) 0) (g.p1.getD (toN a) 0) (g.bx.getD (toN a) 0) ≤ big ∧ 1 ≤ max3 (g.p0.getD (toN a) 0) (g.p1.getD (toN a) 0) (g.bx.getD (toN a) 0) := by
        unfold max3
        split <;> split <;> omega
      refine ⟨.inl ⟨by omega, by omega⟩, ?_⟩
      by_cases c3 : max3 (g.p0.getD (toN a) 0) (g.p1.getD (toN a) 0) (g.bx.getD (toN a) 0) * toI n > big
      · rw [if_pos c3] at q
        rw [if_pos (decide_eq_true c3)]
        rw [ea] at q
        exact fun d nd => q d _ (St'.refl.new nd) upd_same
      · rw [if_neg c3] at q
        rw [if_neg (by simpa using c3)]
        refine ⟨_, rfl, _, _, _, _, rfl, rfl, SqT.of hap, rfl, _, rfl, _, _, _, _, rfl, rfl, SqT.of hap, rfl, _, rfl, (by show 3 ≤ sizeLine; decide), fun p np => ⟨p, rfl, ⟨_, SqT.of upd_same⟩, fun D nD => ?_⟩⟩
        have st1 := (St'.refl (M := []) (H := H)).new (p := p) (o := .tup [.ref a0, .ref a1, .ref ab]) np
        generalize hH2 : upd H p (.tup [.ref a0, .ref a1, .ref ab]) = H2 at *
        have hp2 : H2 p = some (.tup [.ref a0, .ref a1, .ref ab]) := by rw [← hH2, upd_same]
        refine lc_tup (xs := [.ref a0, .ref a1, .ref ab]) (fun i H' => ∃ L, H' D = some (.lst L) ∧ RowsAt H' L (([g.p0, g.p1, g.bx].take i).map fun r => setR r a n) ∧ L.length = i ∧ St' [] H2 H') ⟨[], upd_same, trivial, rfl, St'.refl.new nD⟩ (fun i H' _ p => by obtain ⟨L, _, _, _, z⟩ := p; exact SqT.of (z.tp _ _ hp2)) ?_ ?_
        · rintro i x H' hi ⟨L, hL, hR, hn, s2⟩
          have st2 := st1.trans s2
          obtain ⟨ar, r, rfl, hr, lr, n4, br, tk⟩ : ∃ ar r, x = .ref ar ∧ H ar = some (.tup (ivs r)) ∧ toN a < r.length ∧ r.length ≤ 4 ∧ (1 ≤ r.getD (toN a) 0 ∧ r.getD (toN a) 0 ≤ big) ∧ [g.p0, g.p1, g.bx].take (i + 1) = [g.p0, g.p1, g.bx].take i ++ [r] := by
            match i, hi with
            | 0, hi => cases hi; exact ⟨a0, _, rfl, h0, by omega, ok.o3.s0.n4, b0, rfl⟩
            | 1, hi => cases hi; exact ⟨a1, _, rfl, h1, by omega, ok.o3.s1.n4, b1, rfl⟩
            | 2, hi => cases hi; exact ⟨ab, _, rfl, hab, la, ok.o3.sb.n4, bb, rfl⟩
          simp only [wipe, tYes, tCB, tRet, tAndV, tOrV, tNotV, tCB, tCons, tNil, tC, tVar, tChain, rI0, tIfS, tTest, tOp, tUn, rU, rI, tPar3, tBM, tBM0, tM1, gSub, tXm, tCon, tProp, tMethR, rEq, rNe, rIxT, rIxL, decide_true, decide_false, tAnd, tOr, tNot, tB, tSeq, tAsg, gName, tDrop, tNext, tTup, tLst, tIf, tDf, tFld, tMf0, tPart, tSl, tNoPart, tPar, gTup, gLst, gCons, gNil, L2.start, List.map_cons, List.map_nil, List.length_cons, List.length_nil, Nat.zero_add, Nat.sub_self, Nat.reduceAdd, Nat.reduceSub, List.replicate_zero, List.replicate_succ, List.append_nil, List.nil_append, List.cons_append, List.getElem?_cons_zero, List.getElem?_cons_succ, List.set_cons_zero, List.set_cons_succ, Option.some.injEq, exists_and_left, exists_eq_left', exists_eq_left, V.int.injEq, V.bl.injEq, V.str.injEq, V.ref.injEq, List.cons.injEq, and_true, true_and, if_true, if_false, Bool.false_eq_true, reduceCtorEq, Bool.not_true, Bool.not_false, cxOf]
          refine ⟨_, SqT.of (st2.tp _ _ hr), _, atIv (getD_some lr), _, rfl, .inl ⟨by omega, by omega⟩, ?_⟩
          refine ⟨ar, r, toN a, _, rfl, st2.tp _ _ hr, lr, n4, fun l H3 s3 hl => ?_⟩
          have hL3 := s3.kp _ _ hL (by simp)
          refine ⟨L, hL3, Nat.lt_of_le_of_lt (m := 3) (by have il := (List.getElem?_eq_some_iff.mp hi).1; rw [hn]; exact Nat.le_of_lt il) (by decide), L ++ [.ref l], upd_same, ?_, by simp [hn], (s2.trans s3).own nD⟩
          rw [tk, List.map_append]
          have s5 : St' [D] H3 (upd H3 D (.lst (L ++ [.ref l]))) := St'.refl.putL (by simp) hL3
          exact RowsAt.snoc (s5.tp _ _ hl) (RowsAt.st s5 (RowsAt.st s3 hR))
        · rintro H' ⟨L, hL, hR, hn, s2⟩
          have st2 := st1.trans s2
          obtain ⟨q0, q1, q2, rfl, r0, r1, r2⟩ : ∃ q0 q1 q2, L = [.ref q0, .ref q1, .ref q2] ∧ H' q0 = some (.tup (ivs (setR g.p0 a n))) ∧ H' q1 = some (.tup (ivs (setR g.p1 a n))) ∧ H' q2 = some (.tup (ivs (setR g.bx a n))) := RowsAt.three hR
          simp only [tRet, tAndV, tOrV, tNotV, tCB, tCons, tNil, tC, tVar, tChain, rI0, tIfS, tTest, tOp, tUn, rU, rI, tPar3, tBM, tBM0, tM1, gSub, tXm, tCon, tProp, tMethR, rEq, rNe, rIxT, rIxL, decide_true, decide_false, tAnd, tOr, tNot, tB, tSeq, tAsg, gName, tDrop, tNext, tTup, tLst, tIf, tDf, tFld, tMf0, tPart, tSl, tNoPart, tPar, gTup, gLst, gCons, gNil, L2.start, List.map_cons, List.map_nil, List.length_cons, List.length_nil, Nat.zero_add, Nat.sub_self, Nat.reduceAdd, Nat.reduceSub, List.replicate_zero, List.replicate_succ, List.append_nil, List.nil_append, List.cons_append, List.getElem?_cons_zero, List.getElem?_cons_succ, List.set_cons_zero, List.set_cons_succ, Option.some.injEq, exists_and_left, exists_eq_left', exists_eq_left, V.int.injEq, V.bl.injEq, V.str.injEq, V.ref.injEq, List.cons.injEq, and_true, true_and, if_true, if_false, Bool.false_eq_true, reduceCtorEq, Bool.not_true, Bool.not_false, cxOf]
          refine ⟨_, SqL.of hL, rfl, ?_⟩
          repeat (first | (refine ⟨_, SqT.of (by first | assumption | exact St'.tp (H := H) (by assumption) _ _ (by assumption)), ?_⟩) | (refine ⟨_, .inr (SqT.of (by first | assumption | exact St'.tp (H := H) (by assumption) _ _ (by assumption))), ?_⟩) | (refine ⟨_, rfl, ?_⟩) | (refine ⟨_, atIv (by assumption), ?_⟩) | (refine ⟨_, _, ⟨rfl, rfl⟩, ?_⟩) | (refine ⟨rfl, ?_⟩) | simp only [tRet, tAndV, tOrV, tNotV, tCB, tCons, tNil, tC, tVar, tChain, rI0, tIfS, tTest, tOp, tUn, rU, rI, tPar3, tBM, tBM0, tM1, gSub, tXm, tCon, tProp, tMethR, rEq, rNe, rIxT, rIxL, decide_true, decide_false, tAnd, tOr, tNot, tB, tSeq, tAsg, gName, tDrop, tNext, tTup, tLst, tIf, tDf, tFld, tMf0, tPart, tSl, tNoPart, tPar, gTup, gLst, gCons, gNil, L2.start, List.map_cons, List.map_nil, List.length_cons, List.length_nil, Nat.zero_add, Nat.sub_self, Nat.reduceAdd, Nat.reduceSub, List.replicate_zero, List.replicate_succ, List.append_nil, List.nil_append, List.cons_append, List.getElem?_cons_zero, List.getElem?_cons_succ, List.set_cons_zero, List.set_cons_succ, Option.some.injEq, exists_and_left, exists_eq_left', exists_eq_left, V.int.injEq, V.bl.injEq, V.str.injEq, V.ref.injEq, List.cons.injEq, and_true, true_and, if_true, if_false, Bool.false_eq_true, reduceCtorEq, Bool.not_true, Bool.not_false, cxOf])
          refine ⟨by decide, fun p3 n3 => ⟨by decide, fun p4 n4 => ?_⟩⟩
          have s3 := St'.refl (M := []) |>.new (p := p3) (o := .tup [.ref q0, .ref q1]) n3
          have s4 := St'.refl (M := []) |>.new (p := p4) (o := .tup [.ref p3, .ref q2]) n4
          have s5 := s3.trans s4
          exact q _ _ (st2.trans s5) ⟨p4, p3, q2, rfl, upd_same, ⟨q0, q1, s4.tp _ _ upd_same, s5.tp _ _ r0, s5.tp _ _ r1⟩, s5.tp _ _ r2⟩
    · unfold stretchP at q
      rw [if_pos c1, if_neg (by rw [c2]; simp)] at q
      exact q d H' st hd
  · unfold stretchP at q
    rw [if_neg (by rw [c1]; simp)] at q
    exact q d H' st hd
theorem sc_more : FnScope ["page", "number", "pair", "box", "axis", "side"] ["page", "number"] (defScope s_more) := ⟨rfl, rfl, rfl, by decide +kernel, rfl, by decide +kernel, by decide +kernel⟩
def spMore (K : KF) : Sp := fun vs H Q E => ∃ (p n : V) (g : Pg), vs = [p, n] ∧ PgAt H p g ∧ g.Ok big ∧ TyV H n ∧ Fin' K H (moreP g n) Q E
theorem ok_more (T : Tx w K mg) (D_require_side : DfX w K mg base 3 "require_side" (spReqSide K)) : DfX w K mg base 4 "more" (spMore K) := by
  refine df_of T.d_more T.g_more sc_more (fun _ _ _ _ _ _ us hl => match us, hl with | [_, _], _ => rfl)
    (fun vs H Q E h => by repeat (first | (obtain ⟨rfl, _⟩ := h; rfl) | (obtain ⟨_, h⟩ := h))) (fun cdv A outer s H vs Q E hr h => ?_)
  have nd := sc_more.nd
  refine ⟨_, (pss_cons (ps_asg (pv 0) (pg_tup rfl (pgs_cons (pg_name (i := 2) nd rfl (by first | exact Or.inl rfl | exact Or.inr rfl)) (pgs_cons (pg_name (i := 3) nd rfl (by first | exact Or.inl rfl | exact Or.inr rfl)) pgs_nil))))
          (pss_cons (ps_expr (pe_df D_require_side hr (by decide) (passes_call (takes_of rfl rfl rfl rfl) (fun _ _ _ _ h => h)) (pa_cons (pv 1) pa_nil)))
          (pss_cons (ps_for (passes_of rfl) rfl (pi_enumT T.n_enumerate (pa_cons (pv 3) pa_nil)) (pg_tup rfl (pgs_cons (pg_name (i := 4) nd rfl (by first | exact Or.inl rfl | exact Or.inr rfl)) (pgs_cons (pg_name (i := 5) nd rfl (by first | exact Or.inl rfl | exact Or.inr rfl)) pgs_nil))) (pss_one (ps_if (pt_cmpR op_gt (pe_op op_add (pv 5) (pv 1)) (pe_gk T.c_MAX_SIDE) (nomark _)) (pss_one (ps_rxo (takes_of rfl rfl rfl rfl) T.xo_TooLarge hr (pa_cons (pv 4) pa_nil))) pss_nil)))
          (pss_one (ps_ret (pe_tup (pa_cons (pv 2) (pa_cons (pe_callTy call_tuple_of rfl T.n_tuple (by decide +kernel) (pa_cons (pe_lc (own := [("side", 5)]) (g := (gName 5)) (tt := tYes) rfl nd (pi_tup (pv 3)) (blkOk_by (own := [("side", 5)]) (N := ["page", "number", "pair", "box", "axis", "side"]) (sc := defScope s_more) (by decide +kernel)) (fun _ _ _ _ _ => (pg_name (i := 5) nd rfl (by first | exact Or.inl rfl | exact Or.inr rfl))) (fun _ _ _ _ _ => pts_nil) (fun _ _ _ _ _ => (pe_op op_add (pv 5) (pv 1)))) pa_nil)) pa_nil)))))))), ?_⟩
  obtain ⟨p, n, g, rfl, ⟨pa, ap, ab, rfl, hpa, ⟨a0, a1, hap, h0, h1⟩, hab⟩, ok, tn, q⟩ := h
  simp only [tRet, tAndV, tOrV, tNotV, tCB, tCons, tNil, tC, tVar, tChain, rI0, tIfS, tTest, tOp, tUn, rU, rI, tPar3, tBM, tBM0, tM1, gSub, tXm, tCon, tProp, tMethR, rEq, rNe, rIxT, rIxL, decide_true, decide_false, tAnd, tOr, tNot, tB, tSeq, tAsg, gName, tDrop, tNext, tTup, tLst, tIf, tDf, tFld, tMf0, tPart, tSl, tNoPart, tPar, gTup, gLst, gCons, gNil, L2.start, List.map_cons, List.map_nil, List.length_cons, List.length_nil, Nat.zero_add, Nat.sub_self, Nat.reduceAdd, Nat.reduceSub, List.replicate_zero, List.replicate_succ, List.append_nil, List.nil_append, List.cons_append, List.getElem?_cons_zero, List.getElem?_cons_succ, List.set_cons_zero, List.set_cons_succ, Option.some.injEq, exists_and_left, exists_eq_left', exists_eq_left, V.int.injEq, V.bl.injEq, V.str.injEq, V.ref.injEq, List.cons.injEq, and_true, true_and, if_true, if_false, Bool.false_eq_true, reduceCtorEq, Bool.not_true, Bool.not_false, cxOf]
  repeat (first | (refine ⟨_, SqT.of (by first | assumption | exact St'.tp (H := H) (by assumption) _ _ (by assumption)), ?_⟩) | (refine ⟨_, .inr (SqT.of (by first | assumption | exact St'.tp (H := H) (by assumption) _ _ (by assumption))), ?_⟩) | (refine ⟨_, rfl, ?_⟩) | (refine ⟨_, atIv (by assumption), ?_⟩) | (refine ⟨_, _, ⟨rfl, rfl⟩, ?_⟩) | (refine ⟨rfl, ?_⟩) | simp only [tRet, tAndV, tOrV, tNotV, tCB, tCons, tNil, tC, tVar, tChain, rI0, tIfS, tTest, tOp, tUn, rU, rI, tPar3, tBM, tBM0, tM1, gSub, tXm, tCon, tProp, tMethR, rEq, rNe, rIxT, rIxL, decide_true, decide_false, tAnd, tOr, tNot, tB, tSeq, tAsg, gName, tDrop, tNext, tTup, tLst, tIf, tDf, tFld, tMf0, tPart, tSl, tNoPart, tPar, gTup, gLst, gCons, gNil, L2.start, List.map_cons, List.map_nil, List.length_cons, List.length_nil, Nat.zero_add, Nat.sub_self, Nat.reduceAdd, Nat.reduceSub, List.replicate_zero, List.replicate_succ, List.append_nil, List.nil_append, List.cons_append, List.getElem?_cons_zero, List.getElem?_cons_succ, List.set_cons_zero, List.set_cons_succ, Option.some.injEq, exists_and_left, exists_eq_left', exists_eq_left, V.int.injEq, V.bl.injEq, V.str.injEq, V.ref.injEq, List.cons.injEq, and_true, true_and, if_true, if_false, Bool.false_eq_true, reduceCtorEq, Bool.not_true, Bool.not_false, cxOf])
  refine ⟨tn, fun c2 => ?_, fun c2 d H' st hd => ?_⟩
  · obtain ⟨m, rfl, n1, n2⟩ := inR_iff.mp c2
    unfold moreP at q
    rw [if_pos c2] at q
    dsimp only [toI] at q
    refine ⟨_, rfl, ab, ivs g.bx, rfl, SqT.of hab, for_enumT (xs := ivs g.bx) (fun i σ H' => (∃ u v, σ = [some (.ref pa), some (.int m), some (.ref ap), some (.ref ab), u, v]) ∧ greatN m i (g.bx.drop i) = greatN m 0 g.bx ∧ St' [] H H') ⟨⟨_, _, rfl⟩, rfl, .refl⟩ (fun i σ H' _ p => SqT.of (p.2.2.tp _ _ hab)) ?_ ?_⟩
    · rintro i x T' σ H' hi hT ⟨⟨u, v, rfl⟩, eg, st⟩
      obtain ⟨z, hz, rfl⟩ := ivs_get hi
      have hzx := ok.o3.sb.all z (List.mem_of_getElem? hz)
      have st1 := st.new (p := T') (o := .tup [.int (i : Nat), .int z]) hT
      have iz := (List.getElem?_eq_some_iff.mp hz).1
      have eb : g.bx.drop i = z :: g.bx.drop (i + 1) := by rw [List.drop_eq_getElem_cons iz, (List.getElem?_eq_some_iff.mp hz).2]
      rw [eb, greatN] at eg
      simp only [tRet, tAndV, tOrV, tNotV, tCB, tCons, tNil, tC, tVar, tChain, rI0, tIfS, tTest, tOp, tUn, rU, rI, tPar3, tBM, tBM0, tM1, gSub, tXm, tCon, tProp, tMethR, rEq, rNe, rIxT, rIxL, decide_true, decide_false, tAnd, tOr, tNot, tB, tSeq, tAsg, gName, tDrop, tNext, tTup, tLst, tIf, tDf, tFld, tMf0, tPart, tSl, tNoPart, tPar, gTup, gLst, gCons, gNil, L2.start, List.map_cons, List.map_nil, List.length_cons, List.length_nil, Nat.zero_add, Nat.sub_self, Nat.reduceAdd, Nat.reduceSub, List.replicate_zero, List.replicate_succ, List.append_nil, List.nil_append, List.cons_append, List.getElem?_cons_zero, List.getElem?_cons_succ, List.set_cons_zero, List.set_cons_succ, Option.some.injEq, exists_and_left, exists_eq_left', exists_eq_left, V.int.injEq, V.bl.injEq, V.str.injEq, V.ref.injEq, List.cons.injEq, and_true, true_and, if_true, if_false, Bool.false_eq_true, reduceCtorEq, Bool.not_true, Bool.not_false, cxOf]
      refine ⟨_, SqT.of upd_same, rfl, _, _, rfl, _, _, rfl, rfl, _, rfl, ?_⟩
      by_cases c : z + m > big
      · rw [if_pos c] at eg
        rw [← eg] at q
        rw [if_pos (decide_eq_true c)]
        exact fun d nd => q d _ (st1.new nd) upd_same
      · rw [if_neg c] at eg
        rw [if_neg (by simpa using c)]
        exact ⟨⟨_, rfl⟩, eg, st1⟩
    · rintro σ H1 ⟨⟨u, v, rfl⟩, eg, st⟩
      rw [List.length_map, List.drop_length, greatN] at eg
      rw [← eg] at q
      simp only [tRet, tAndV, tOrV, tNotV, tCB, tCons, tNil, tC, tVar, tChain, rI0, tIfS, tTest, tOp, tUn, rU, rI, tPar3, tBM, tBM0, tM1, gSub, tXm, tCon, tProp, tMethR, rEq, rNe, rIxT, rIxL, decide_true, decide_false, tAnd, tOr, tNot, tB, tSeq, tAsg, gName, tDrop, tNext, tTup, tLst, tIf, tDf, tFld, tMf0, tPart, tSl, tNoPart, tPar, gTup, gLst, gCons, gNil, L2.start, List.map_cons, List.map_nil, List.length_cons, List.length_nil, Nat.zero_add, Nat.sub_self, Nat.reduceAdd, Nat.reduceSub, List.replicate_zero, List.replicate_succ, List.append_nil, List.nil_append, List.cons_append, List.getElem?_cons_zero, List.getElem?_cons_succ, List.set_cons_zero, List.set_cons_succ, Option.some.injEq, exists_and_left, exists_eq_left', exists_eq_left, V.int.injEq, V.bl.injEq, V.str.injEq, V.ref.injEq, List.cons.injEq, and_true, true_and, if_true, if_false, Bool.false_eq_true, reduceCtorEq, Bool.not_true, Bool.not_false, cxOf]
      refine ⟨_, rfl, ab, rfl, ⟨_, SqT.of (st.tp _ _ hab)⟩, fun D nD => lc_tup (xs := ivs g.bx) (fun i H' => H' D = some (.lst (ivs ((g.bx.take i).map (· + m)))) ∧ St' [] H1 H') ⟨upd_same, St'.refl.new nD⟩ (fun i H' _ p => SqT.of (p.2.tp _ _ (st.tp _ _ hab))) ?_ ?_⟩
      · rintro i x H' hi ⟨hD, s2⟩
        obtain ⟨z, hz, rfl⟩ := ivs_get hi
        simp only [wipe, tYes, tRet, tAndV, tOrV, tNotV, tCB, tCons, tNil, tC, tVar, tChain, rI0, tIfS, tTest, tOp, tUn, rU, rI, tPar3, tBM, tBM0, tM1, gSub, tXm, tCon, tProp, tMethR, rEq, rNe, rIxT, rIxL, decide_true, decide_false, tAnd, tOr, tNot, tB, tSeq, tAsg, gName, tDrop, tNext, tTup, tLst, tIf, tDf, tFld, tMf0, tPart, tSl, tNoPart, tPar, gTup, gLst, gCons, gNil, L2.start, List.map_cons, List.map_nil, List.length_cons, List.length_nil, Nat.zero_add, Nat.sub_self, Nat.reduceAdd, Nat.reduceSub, List.replicate_zero, List.replicate_succ, List.append_nil, List.nil_append, List.cons_append, List.getElem?_cons_zero, List.getElem?_cons_succ, List.set_cons_zero, List.set_cons_succ, Option.some.injEq, exists_and_left, exists_eq_left', exists_eq_left, V.int.injEq, V.bl.injEq, V.str.injEq, V.ref.injEq, List.cons.injEq, and_true, true_and, if_true, if_false, Bool.false_eq_true, reduceCtorEq, Bool.not_true, Bool.not_false, cxOf]
        refine ⟨_, hD, Nat.lt_of_le_of_lt (m := 4) (by have z := List.length_take_le i g.bx; have n4 := ok.o3.sb.n4; have z2 := List.length_take_le' i g.bx; simp only [List.length_map]; omega) (by decide), ?_, s2.own nD⟩
        rw [upd_same, List.take_add_one, hz]
        simp [ivs]
      · rintro H' ⟨hD, s2⟩
        rw [List.length_map, List.take_length] at hD
        have st2 := st.trans s2
        refine ⟨D, rfl, _, .inl ⟨SqL.of hD, fun l nl => ⟨by decide, fun p3 n3 => ?_⟩⟩⟩
        have s3 := St'.refl (M := []) |>.new (p := l) (o := .tup (ivs (g.bx.map (· + m)))) nl
        have s4 := St'.refl (M := []) |>.new (p := p3) (o := .tup [.ref ap, .ref l]) n3
        have s5 := st2.trans (s3.trans s4)
        exact q _ _ s5 ⟨p3, ap, l, rfl, upd_same, ⟨a0, a1, s5.tp _ _ hap, s5.tp _ _ h0, s5.tp _ _ h1⟩, s4.tp _ _ upd_same⟩
  · unfold moreP at q
    rw [if_neg (by rw [c2]; simp)] at q
    exact q d H' st hd
end
end Yk
set_option Elab.async false
set_option linter.all false
set_option maxRecDepth 100000
set_option maxHeartbeats 4000000
/-! yards: what they hold; stand, pair, box, version, news -/
namespace Yk
open PySem PySem.Spec PyProof.Rows L2
structure YC (K : KF) (C : Addr) (so : Str) : Prop where
  cls : Cls K C
  np : NoAttr K C "pages"
  nl : NoAttr K C "look"
  nw : NoAttr K C "word"
  nb : NoAttr K C "is_busy"
  con : ∃ u, Con K C "SORT" (.str so) u
theorem Tx.yY {w : World} {K : KF} {mg : Str → Option Value} (T : Tx w K mg) : YC K (He.ga K "Yard") "yard" := ⟨T.cls_Y, T.no_Y_pages, T.no_Y_look, T.no_Y_word, T.no_Y_is_busy, T.con_Y⟩
theorem Tx.yF {w : World} {K : KF} {mg : Str → Option Value} (T : Tx w K mg) : YC K (He.ga K "FullYard") "full" := ⟨T.cls_F, T.no_F_pages, T.no_F_look, T.no_F_word, T.no_F_is_busy, T.con_F⟩
def AllAt (H : Hp) : List V → List Pg → Prop
  | [], [] => True
  | v :: vs, g :: gs => PgAt H v g ∧ AllAt H vs gs
  | _, _ => False
theorem AllAt.st {M : List Addr} {H H' : Hp} (s : St' M H H') : ∀ {vs : List V} {gs : List Pg}, AllAt H vs gs → AllAt H' vs gs
  | [], [], _ => trivial
  | v :: vs, g :: gs, h => ⟨h.1.st s, AllAt.st s h.2⟩
theorem AllAt.len {H : Hp} : ∀ {vs : List V} {gs : List Pg}, AllAt H vs gs → vs.length = gs.length
  | [], [], _ => rfl
  | v :: vs, g :: gs, h => by simp [AllAt.len h.2]
theorem AllAt.snoc {H : Hp} {v : V} {g : Pg} (hv : PgAt H v g) : ∀ {vs : List V} {gs : List Pg}, AllAt H vs gs → AllAt H (vs ++ [v]) (gs ++ [g])
  | [], [], _ => ⟨hv, trivial⟩
  | v' :: vs, g' :: gs, h => ⟨h.1, AllAt.snoc hv h.2⟩
theorem AllAt.at_ {H : Hp} {g : Pg} : ∀ {vs : List V} {gs : List Pg} {i : Nat}, AllAt H vs gs → gs[i]? = some g → ∃ v, vs[i]? = some v ∧ PgAt H v g
  | [], [], i, _, e => by simp at e
  | v :: vs, g' :: gs, 0, h, e => by
    simp at e
    subst e
    exact ⟨v, rfl, h.1⟩
  | v :: vs, g' :: gs, i + 1, h, e => by
    have := AllAt.at_ (i := i) h.2 (by simpa using e)
    simpa using this
theorem AllAt.take {H : Hp} : ∀ {vs : List V} {gs : List Pg} (n : Nat), AllAt H vs gs → AllAt H (vs.take n) (gs.take n)
  | [], [], n, _ => by simp [AllAt]
  | v :: vs, g :: gs, 0, _ => trivial
  | v :: vs, g :: gs, n + 1, h => ⟨h.1, AllAt.take n h.2⟩
theorem AllAt.last {H : Hp} {g : Pg} {vs : List V} {gs : List Pg} (h : AllAt H vs gs) (e : gs.getLast? = some g) : ∃ v, atI vs (-1) = some v ∧ PgAt H v g := by
  rw [List.getLast?_eq_getElem?] at e
  obtain ⟨v, h1, h2⟩ := h.at_ e
  refine ⟨v, ?_, h2⟩
  have hl := h.len
  have lt := (List.getElem?_eq_some_iff.mp h1).1
  have e2 : vs = vs.dropLast ++ [v] := by
    have hne : vs ≠ [] := by intro z; rw [z] at lt; simp at lt
    have h3 := List.dropLast_concat_getLast hne
    have h4 : vs.getLast hne = v := by
      rw [List.getLast_eq_getElem]
      rw [← hl] at h1
      have h5 := (List.getElem?_eq_some_iff.mp h1).2
      exact h5
    rw [← h4]
    exact h3.symm
  rw [e2]
  exact atI_last _ _
def PagesAt (H : Hp) (a : Addr) (gs : List Pg) : Prop := ∃ vs, H a = some (.tup vs) ∧ AllAt H vs gs
theorem PagesAt.st {M : List Addr} {H H' : Hp} {a : Addr} {gs : List Pg} (h : PagesAt H a gs) (s : St' M H H') : PagesAt H' a gs := by
  obtain ⟨vs, h1, h2⟩ := h
  exact ⟨vs, s.tp _ _ h1, AllAt.st s h2⟩
def LookAt (H : Hp) (a : Addr) (so : Str) (g : Pg) : Prop := ∃ v, H a = some (.tup [.str so, v]) ∧ PgAt H v g
theorem LookAt.st {M : List Addr} {H H' : Hp} {a : Addr} {so : Str} {g : Pg} (h : LookAt H a so g) (s : St' M H H') : LookAt H' a so g := by
  obtain ⟨v, h1, h2⟩ := h
  exact ⟨v, s.tp _ _ h1, h2.st s⟩
def yf (wd : Str) (ap al : Addr) : List (Str × V) := [("word", .str wd), ("is_busy", .bl false), ("pages", .ref ap), ("look", .ref al)]
def yf0 (wd : Str) : List (Str × V) := [("word", .str wd), ("is_busy", .bl false)]
theorem putF_len (f : Str) (v : V) : ∀ fs : List (Str × V), (putF f v fs).length ≤ fs.length + 1
  | [] => by simp [putF]
  | (g, x) :: r => by
    have := putF_len f v r
    unfold putF
    split <;> simp <;> omega
/-- a yard of the class C: its versions, its news -/
def YAt (H : Hp) (y C : Addr) (so : Str) (gs : List Pg) (wd : Str) : Prop := ∃ dx ap al g, H y = some (.ins C dx (yf wd ap al)) ∧ PagesAt H ap gs ∧ gs.getLast? = some g ∧ LookAt H al so g
theorem YAt.st {M : List Addr} {H H' : Hp} {y C : Addr} {so wd : Str} {gs : List Pg} (h : YAt H y C so gs wd) (s : St' M H H') (n : y ∉ M) : YAt H' y C so gs wd := by
  obtain ⟨dx, ap, al, g, h1, h2, h3, h4⟩ := h
  exact ⟨dx, ap, al, g, s.kp _ _ h1 n, h2.st s, h3, h4.st s⟩
section
variable {w : World} {K : KF} {mg : Str → Option Value} {base : Heap} {C : Addr} {so : Str}
theorem sc_Yard_stand : FnScope ["self", "pages"] ["self", "pages"] (defScope s_Yard_stand) := ⟨rfl, rfl, rfl, by decide +kernel, rfl, by decide +kernel, by decide +kernel⟩
def spStand (C : Addr) (so : Str) : Sp := fun vs H Q _ => ∃ (y ap dx : Addr) (fs : List (Str × V)) (wd : Str) (gs : List Pg) (g : Pg), vs = [.ref y, .ref ap] ∧ H y = some (.ins C dx fs) ∧ (fs = yf0 wd ∨ ∃ a b, fs = yf wd a b) ∧ PagesAt H ap gs ∧ gs.getLast? = some g ∧ ∀ H', St' [y] H H' → YAt H' y C so gs wd → Q .non H'
theorem ok_stand (T : Tx w K mg) (yc : YC K C so) (hF : ∃ fd, FunD K "stand" "Yard.stand" (defArgs s_Yard_stand) (defBody s_Yard_stand) (defScope s_Yard_stand) [] [] (He.ma K C "stand") fd) (me : Meth K C "stand" (He.ma K C "stand")) : Mf R.prog w K mg base CX0 1 C "stand" (spStand C so) := by
  refine mf_of hF me sc_Yard_stand (fun _ _ _ _ _ _ us hl => match us, hl with | [_, _], _ => rfl)
    (fun vs H Q E h => by repeat (first | (obtain ⟨rfl, _⟩ := h; rfl) | (obtain ⟨_, h⟩ := h))) (fun cdv A outer s H vs Q E hr h => ?_)
  have nd := sc_Yard_stand.nd
  refine ⟨_, (pss_one (ps_asg (pe_tup (pa_cons (pv 1) (pa_cons (pe_tup (pa_cons (pe_con (pv 0) rfl) (pa_cons (pe_ix ix_tup (pv 1) (pe_un un_neg pe_int) (fun _ _ => rfl)) pa_nil))) pa_nil))) (pg_tup rfl (pgs_cons (pg_attr (pv 0)) (pgs_cons (pg_attr (pv 0)) pgs_nil))))), ?_⟩
  obtain ⟨y, ap, dx, fs, wd, gs, g, rfl, hy, hfs, ⟨vs, hap, hal⟩, hl, q⟩ := h
  obtain ⟨v, hv, hpg⟩ := hal.last hl
  obtain ⟨u, con⟩ := yc.con
  have l0 : fs.lookup ("SORT" : Str) = none := by rcases hfs with rfl | ⟨a, b, rfl⟩ <;> rfl
  have ln : fs.length < 900 := by rcases hfs with rfl | ⟨a, b, rfl⟩ <;> simp [yf, yf0]
  simp only [tRet, tAndV, tOrV, tNotV, tCB, tCons, tNil, tC, tVar, tChain, rI0, tIfS, tTest, tOp, tUn, rU, rI, tPar3, tBM, tBM0, tM1, gSub, tXm, tCon, tProp, tMethR, rEq, rNe, rIxT, rIxL, decide_true, decide_false, tAnd, tOr, tNot, tB, tSeq, tAsg, gName, tDrop, tNext, tTup, tLst, tIf, tDf, tFld, tMf0, tPart, tSl, tNoPart, tPar, gTup, gLst, gCons, gNil, L2.start, List.map_cons, List.map_nil, List.length_cons, List.length_nil, Nat.zero_add, Nat.sub_self, Nat.reduceAdd, Nat.reduceSub, List.replicate_zero, List.replicate_succ, List.append_nil, List.nil_append, List.cons_append, List.getElem?_cons_zero, List.getElem?_cons_succ, List.set_cons_zero, List.set_cons_succ, Option.some.injEq, exists_and_left, exists_eq_left', exists_eq_left, V.int.injEq, V.bl.injEq, V.str.injEq, V.ref.injEq, List.cons.injEq, and_true, true_and, if_true, if_false, Bool.false_eq_true, reduceCtorEq, Bool.not_true, Bool.not_false, cxOf]
  refine ⟨_, _, _, hy, yc.cls, _, _, con, l0, _, SqT.of hap, _, hv, by decide, fun p1 n1 => ⟨by decide, fun p2 n2 => ?_⟩⟩
  have s1 := (St'.refl (M := [y]) (H := H)).new (p := p1) (o := .tup [.str so, v]) n1
  have s2 := s1.new (p := p2) (o := .tup [.ref ap, .ref p1]) n2
  have s12 := (St'.refl (M := [y])).new (p := p2) (o := .tup [.ref ap, .ref p1]) n2
  have hp1 := s12.tp p1 [.str so, v] upd_same
  refine ⟨_, SqT.of upd_same, rfl, _, _, rfl, ?_⟩
  generalize hH2 : upd (upd H p1 (.tup [.str so, v])) p2 (.tup [.ref ap, .ref p1]) = H2 at *
  have hy1 : H2 y = some (.ins C dx fs) := by
    have h1 := ((St'.refl (M := []) (H := H)).new (p := p1) (o := .tup [.str so, v]) n1).new (p := p2) (o := .tup [.ref ap, .ref p1]) n2
    rw [hH2] at h1
    exact h1.kp _ _ hy (by simp)
  have e1 : putF "look" (.ref p1) (putF "pages" (.ref ap) fs) = yf wd ap p1 := by rcases hfs with rfl | ⟨a, b, rfl⟩ <;> rfl
  have l1 : (putF "pages" (.ref ap) fs).length < 1000 := by
    have := putF_len "pages" (.ref ap) fs
    omega
  refine ⟨_, rfl, y, C, dx, fs, rfl, hy1, yc.cls, yc.np, by omega, _, _, rfl, _, rfl, y, C, dx, _, rfl, upd_same, yc.cls, yc.nl, l1, rfl, ?_⟩
  rw [e1]
  have s3 : St' [y] H2 (upd H2 y (.ins C dx (putF "pages" (.ref ap) fs))) := St'.refl.putI (by simp) hy1
  have s4 : St' [y] H2 (upd (upd H2 y (.ins C dx (putF "pages" (.ref ap) fs))) y (.ins C dx (yf wd ap p1))) := s3.putI (by simp) upd_same
  have s5 := s2.trans s4
  exact q _ s5 ⟨dx, ap, p1, g, upd_same, ⟨vs, s5.tp _ _ hap, AllAt.st s5 hal⟩, hl, v, s4.tp _ _ hp1, hpg.st s5⟩
theorem sc_Yard_pair : FnScope ["self"] ["self"] (defScope s_Yard_pair) := ⟨rfl, rfl, rfl, by decide +kernel, rfl, by decide +kernel, by decide +kernel⟩
def spPair (C : Addr) (so : Str) : Sp := fun vs H Q _ => ∃ (y : Addr) (wd : Str) (gs : List Pg) (g : Pg), vs = [.ref y] ∧ YAt H y C so gs wd ∧ gs.getLast? = some g ∧ ∀ p, PairAt H p g.p0 g.p1 → Q (.ref p) H
theorem ok_pair (T : Tx w K mg) (yc : YC K C so) (hF : ∃ fd, FunD K "pair" "Yard.pair" (defArgs s_Yard_pair) (defBody s_Yard_pair) (defScope s_Yard_pair) [] [] (pget K (He.ma K C "pair")) fd) (me : PropOf K C "pair" (He.ma K C "pair") (pget K (He.ma K C "pair"))) : Pf R.prog w K mg base 1 C "pair" (spPair C so) := by
  refine pf_of hF me sc_Yard_pair (fun _ _ _ _ _ _ us hl => match us, hl with | [_], _ => rfl)
    (fun vs H Q E h => by repeat (first | (obtain ⟨rfl, _⟩ := h; rfl) | (obtain ⟨_, h⟩ := h))) (fun cdv A outer s H vs Q E hr h => ?_)
  have nd := sc_Yard_pair.nd
  refine ⟨_, (pss_one (ps_ret (pe_ix ix_tup (pe_ix ix_tup (pe_fld (pv 0) rfl) (pe_un un_neg pe_int) (fun _ _ => rfl)) pe_int (fun _ _ => rfl)))), ?_⟩
  obtain ⟨y, wd, gs, g, rfl, ⟨dx, ap, al, g', hy, ⟨vs, hap, hal⟩, _, _⟩, hl, q⟩ := h
  obtain ⟨v, hv, a, p, b, rfl, h1, h2, h3⟩ := hal.last hl
  simp only [tRet, tAndV, tOrV, tNotV, tCB, tCons, tNil, tC, tVar, tChain, rI0, tIfS, tTest, tOp, tUn, rU, rI, tPar3, tBM, tBM0, tM1, gSub, tXm, tCon, tProp, tMethR, rEq, rNe, rIxT, rIxL, decide_true, decide_false, tAnd, tOr, tNot, tB, tSeq, tAsg, gName, tDrop, tNext, tTup, tLst, tIf, tDf, tFld, tMf0, tPart, tSl, tNoPart, tPar, gTup, gLst, gCons, gNil, L2.start, List.map_cons, List.map_nil, List.length_cons, List.length_nil, Nat.zero_add, Nat.sub_self, Nat.reduceAdd, Nat.reduceSub, List.replicate_zero, List.replicate_succ, List.append_nil, List.nil_append, List.cons_append, List.getElem?_cons_zero, List.getElem?_cons_succ, List.set_cons_zero, List.set_cons_succ, Option.some.injEq, exists_and_left, exists_eq_left', exists_eq_left, V.int.injEq, V.bl.injEq, V.str.injEq, V.ref.injEq, List.cons.injEq, and_true, true_and, if_true, if_false, Bool.false_eq_true, reduceCtorEq, Bool.not_true, Bool.not_false, cxOf]
  exact ⟨_, _, _, hy, yc.cls, yc.np, _, rfl, ap, rfl, _, SqT.of hap, _, hv, a, rfl, _, SqT.of h1, _, rfl, q p h2⟩
theorem sc_Yard_box : FnScope ["self"] ["self"] (defScope s_Yard_box) := ⟨rfl, rfl, rfl, by decide +kernel, rfl, by decide +kernel, by decide +kernel⟩
def spBox (C : Addr) (so : Str) : Sp := fun vs H Q _ => ∃ (y : Addr) (wd : Str) (gs : List Pg) (g : Pg), vs = [.ref y] ∧ YAt H y C so gs wd ∧ gs.getLast? = some g ∧ ∀ p, H p = some (.tup (ivs g.bx)) → Q (.ref p) H
theorem ok_box (T : Tx w K mg) (yc : YC K C so) (hF : ∃ fd, FunD K "box" "Yard.box" (defArgs s_Yard_box) (defBody s_Yard_box) (defScope s_Yard_box) [] [] (pget K (He.ma K C "box")) fd) (me : PropOf K C "box" (He.ma K C "box") (pget K (He.ma K C "box"))) : Pf R.prog w K mg base 1 C "box" (spBox C so) := by
  refine pf_of hF me sc_Yard_box (fun _ _ _ _ _ _ us hl => match us, hl with | [_], _ => rfl)
    (fun vs H Q E h => by repeat (first | (obtain ⟨rfl, _⟩ := h; rfl) | (obtain ⟨_, h⟩ := h))) (fun cdv A outer s H vs Q E hr h => ?_)
  have nd := sc_Yard_box.nd
  refine ⟨_, (pss_one (ps_ret (pe_ix ix_tup (pe_ix ix_tup (pe_fld (pv 0) rfl) (pe_un un_neg pe_int) (fun _ _ => rfl)) pe_int (fun _ _ => rfl)))), ?_⟩
  obtain ⟨y, wd, gs, g, rfl, ⟨dx, ap, al, g', hy, ⟨vs, hap, hal⟩, _, _⟩, hl, q⟩ := h
  obtain ⟨v, hv, a, p, b, rfl, h1, h2, h3⟩ := hal.last hl
  simp only [tRet, tAndV, tOrV, tNotV, tCB, tCons, tNil, tC, tVar, tChain, rI0, tIfS, tTest, tOp, tUn, rU, rI, tPar3, tBM, tBM0, tM1, gSub, tXm, tCon, tProp, tMethR, rEq, rNe, rIxT, rIxL, decide_true, decide_false, tAnd, tOr, tNot, tB, tSeq, tAsg, gName, tDrop, tNext, tTup, tLst, tIf, tDf, tFld, tMf0, tPart, tSl, tNoPart, tPar, gTup, gLst, gCons, gNil, L2.start, List.map_cons, List.map_nil, List.length_cons, List.length_nil, Nat.zero_add, Nat.sub_self, Nat.reduceAdd, Nat.reduceSub, List.replicate_zero, List.replicate_succ, List.append_nil, List.nil_append, List.cons_append, List.getElem?_cons_zero, List.getElem?_cons_succ, List.set_cons_zero, List.set_cons_succ, Option.some.injEq, exists_and_left, exists_eq_left', exists_eq_left, V.int.injEq, V.bl.injEq, V.str.injEq, V.ref.injEq, List.cons.injEq, and_true, true_and, if_true, if_false, Bool.false_eq_true, reduceCtorEq, Bool.not_true, Bool.not_false, cxOf]
  exact ⟨_, _, _, hy, yc.cls, yc.np, _, rfl, ap, rfl, _, SqT.of hap, _, hv, a, rfl, _, SqT.of h1, _, rfl, q b h3⟩
theorem sc_Yard_news : FnScope ["self"] ["self"] (defScope s_Yard_news) := ⟨rfl, rfl, rfl, by decide +kernel, rfl, by decide +kernel, by decide +kernel⟩
def spNews (C : Addr) (so : Str) : Sp := fun vs H Q _ => ∃ (y : Addr) (wd : Str) (gs : List Pg), vs = [.ref y] ∧ YAt H y C so gs wd ∧ Q (.str wd) H
theorem ok_news (T : Tx w K mg) (yc : YC K C so) (hF : ∃ fd, FunD K "news" "Yard.news" (defArgs s_Yard_news) (defBody s_Yard_news) (defScope s_Yard_news) [] [] (pget K (He.ma K C "news")) fd) (me : PropOf K C "news" (He.ma K C "news") (pget K (He.ma K C "news"))) : Pf R.prog w K mg base 1 C "news" (spNews C so) := by
  refine pf_of hF me sc_Yard_news (fun _ _ _ _ _ _ us hl => match us, hl with | [_], _ => rfl)
    (fun vs H Q E h => by repeat (first | (obtain ⟨rfl, _⟩ := h; rfl) | (obtain ⟨_, h⟩ := h))) (fun cdv A outer s H vs Q E hr h => ?_)
  have nd := sc_Yard_news.nd
  refine ⟨_, (pss_one (ps_ret (pe_fld (pv 0) rfl))), ?_⟩
  obtain ⟨y, wd, gs, rfl, ⟨dx, ap, al, g', hy, ⟨vs, hap, hal⟩, _, _⟩, q⟩ := h
  simp only [tRet, tAndV, tOrV, tNotV, tCB, tCons, tNil, tC, tVar, tChain, rI0, tIfS, tTest, tOp, tUn, rU, rI, tPar3, tBM, tBM0, tM1, gSub, tXm, tCon, tProp, tMethR, rEq, rNe, rIxT, rIxL, decide_true, decide_false, tAnd, tOr, tNot, tB, tSeq, tAsg, gName, tDrop, tNext, tTup, tLst, tIf, tDf, tFld, tMf0, tPart, tSl, tNoPart, tPar, gTup, gLst, gCons, gNil, L2.start, List.map_cons, List.map_nil, List.length_cons, List.length_nil, Nat.zero_add, Nat.sub_self, Nat.reduceAdd, Nat.reduceSub, List.replicate_zero, List.replicate_succ, List.append_nil, List.nil_append, List.cons_append, List.getElem?_cons_zero, List.getElem?_cons_succ, List.set_cons_zero, List.set_cons_succ, Option.some.injEq, exists_and_left, exists_eq_left', exists_eq_left, V.int.injEq, V.bl.injEq, V.str.injEq, V.ref.injEq, List.cons.injEq, and_true, true_and, if_true, if_false, Bool.false_eq_true, reduceCtorEq, Bool.not_true, Bool.not_false, cxOf]
  exact ⟨_, _, _, hy, yc.cls, yc.nw, _, rfl, q⟩
theorem sc_Yard_version : FnScope ["self"] ["self"] (defScope s_Yard_version) := ⟨rfl, rfl, rfl, by decide +kernel, rfl, by decide +kernel, by decide +kernel⟩
def spVersion (C : Addr) (so : Str) : Sp := fun vs H Q _ => ∃ (y : Addr) (wd : Str) (gs : List Pg), vs = [.ref y] ∧ YAt H y C so gs wd ∧ Q (.int ((gs.length : Int) - 1)) H
theorem ok_version (T : Tx w K mg) (yc : YC K C so) (hF : ∃ fd, FunD K "version" "Yard.version" (defArgs s_Yard_version) (defBody s_Yard_version) (defScope s_Yard_version) [] [] (pget K (He.ma K C "version")) fd) (me : PropOf K C "version" (He.ma K C "version") (pget K (He.ma K C "version"))) : Pf R.prog w K mg base 1 C "version" (spVersion C so) := by
  refine pf_of hF me sc_Yard_version (fun _ _ _ _ _ _ us hl => match us, hl with | [_], _ => rfl)
    (fun vs H Q E h => by repeat (first | (obtain ⟨rfl, _⟩ := h; rfl) | (obtain ⟨_, h⟩ := h))) (fun cdv A outer s H vs Q E hr h => ?_)
  have nd := sc_Yard_version.nd
  refine ⟨_, (pss_one (ps_ret (pe_op op_sub (pe_callB call_len_seq rfl T.n_len PySem.boot_len (pa_cons (pe_fld (pv 0) rfl) pa_nil)) pe_int))), ?_⟩
  obtain ⟨y, wd, gs, rfl, ⟨dx, ap, al, g', hy, ⟨vs, hap, hal⟩, _, _⟩, q⟩ := h
  have ln := hal.len
  simp only [tRet, tAndV, tOrV, tNotV, tCB, tCons, tNil, tC, tVar, tChain, rI0, tIfS, tTest, tOp, tUn, rU, rI, tPar3, tBM, tBM0, tM1, gSub, tXm, tCon, tProp, tMethR, rEq, rNe, rIxT, rIxL, decide_true, decide_false, tAnd, tOr, tNot, tB, tSeq, tAsg, gName, tDrop, tNext, tTup, tLst, tIf, tDf, tFld, tMf0, tPart, tSl, tNoPart, tPar, gTup, gLst, gCons, gNil, L2.start, List.map_cons, List.map_nil, List.length_cons, List.length_nil, Nat.zero_add, Nat.sub_self, Nat.reduceAdd, Nat.reduceSub, List.replicate_zero, List.replicate_succ, List.append_nil, List.nil_append, List.cons_append, List.getElem?_cons_zero, List.getElem?_cons_succ, List.set_cons_zero, List.set_cons_succ, Option.some.injEq, exists_and_left, exists_eq_left', exists_eq_left, V.int.injEq, V.bl.injEq, V.str.injEq, V.ref.injEq, List.cons.injEq, and_true, true_and, if_true, if_false, Bool.false_eq_true, reduceCtorEq, Bool.not_true, Bool.not_false, cxOf]
  refine ⟨_, _, _, hy, yc.cls, yc.np, _, rfl, ?_⟩
  rw [← ln] at q
  exact ⟨_, rfl, _, .inr (SqT.of hap), q⟩
end
end Yk
set_option Elab.async false
set_option linter.all false
set_option maxRecDepth 100000
set_option maxHeartbeats 4000000
/-! yards: bool, len, str, tell, do -/
namespace Yk
open PySem PySem.Spec PyProof.Rows L2
def Pg.fb (g : Pg) : Bool := paperB g.p0 g.p1 g.bx
theorem len_app (a b : Str) : (a ++ b).length = a.length + b.length := by
  show (a.cps ++ b.cps).size = a.cps.size + b.cps.size
  simp
def Pg.txt (g : Pg) : Str := Str.empty ++ kindsT g.p0 g.p1 ++ " in " ++ sidesT g.bx ++ ": " ++ (if g.fb then "filled" else "barred")
def newsW (now was : Bool) : Str := if now = was then "same" else if now then "filled" else "barred"
section
variable {w : World} {K : KF} {mg : Str → Option Value} {base : Heap} {C : Addr} {so : Str}
theorem sc_Yard_bool : FnScope ["self"] ["self"] (defScope s_Yard_bool) := ⟨rfl, rfl, rfl, by decide +kernel, rfl, by decide +kernel, by decide +kernel⟩
def spBool (C : Addr) (so : Str) : Sp := fun vs H Q _ => ∃ (y : Addr) (wd : Str) (gs : List Pg) (g : Pg), vs = [.ref y] ∧ YAt H y C so gs wd ∧ gs.getLast? = some g ∧ g.Ok 100000 ∧ ∀ H', St' [] H H' → Q (.bl g.fb) H'
theorem ok_bool (T : Tx w K mg) (yc : YC K C so) (hF : ∃ fd, FunD K "__bool__" "Yard.__bool__" (defArgs s_Yard_bool) (defBody s_Yard_bool) (defScope s_Yard_bool) [] [] (He.ma K C "__bool__") fd) (me : Meth K C "__bool__" (He.ma K C "__bool__"))
    (D_pair : Pf R.prog w K mg base 1 C "pair" (spPair C so)) (D_box : Pf R.prog w K mg base 1 C "box" (spBox C so)) (D_is_filled : Df R.prog w K mg base CX0 5 "is_filled" spFilled) : Mf R.prog w K mg base CX0 6 C "__bool__" (spBool C so) := by
  have cY := yc.cls
  refine mf_of hF me sc_Yard_bool (fun _ _ _ _ _ _ us hl => match us, hl with | [_], _ => rfl)
    (fun vs H Q E h => by repeat (first | (obtain ⟨rfl, _⟩ := h; rfl) | (obtain ⟨_, h⟩ := h))) (fun cdv A outer s H vs Q E hr h => ?_)
  have nd := sc_Yard_bool.nd
  refine ⟨_, (pss_one (ps_ret (pe_callTy call_bool1 rfl T.n_bool (by decide +kernel) (pa_cons (pe_df D_is_filled hr (by decide) pass0 (pa_cons (pe_pf (pv 0) cY D_pair hr (by decide)) (pa_cons (pe_pf (pv 0) cY D_box hr (by decide)) pa_nil))) pa_nil)))), ?_⟩
  obtain ⟨y, wd, gs, g, rfl, hy, hl, ok, q⟩ := h
  have hy' := hy
  obtain ⟨dx, ap, al, g', hyi, _⟩ := hy'
  simp only [tRet, tAndV, tOrV, tNotV, tCB, tCons, tNil, tC, tVar, tChain, rI0, tIfS, tTest, tOp, tUn, rU, rI, tPar3, tBM, tBM0, tM1, gSub, tXm, tCon, tProp, tMethR, rEq, rNe, rIxT, rIxL, decide_true, decide_false, tAnd, tOr, tNot, tB, tSeq, tAsg, gName, tDrop, tNext, tTup, tLst, tIf, tDf, tFld, tMf0, tPart, tSl, tNoPart, tPar, gTup, gLst, gCons, gNil, L2.start, List.map_cons, List.map_nil, List.length_cons, List.length_nil, Nat.zero_add, Nat.sub_self, Nat.reduceAdd, Nat.reduceSub, List.replicate_zero, List.replicate_succ, List.append_nil, List.nil_append, List.cons_append, List.getElem?_cons_zero, List.getElem?_cons_succ, List.set_cons_zero, List.set_cons_succ, Option.some.injEq, exists_and_left, exists_eq_left', exists_eq_left, V.int.injEq, V.bl.injEq, V.str.injEq, V.ref.injEq, List.cons.injEq, and_true, true_and, if_true, if_false, Bool.false_eq_true, reduceCtorEq, Bool.not_true, Bool.not_false, cxOf]
  exact ⟨_, _, hyi, y, wd, gs, g, rfl, hy, hl, fun p hp => ⟨_, _, hyi, y, wd, gs, g, rfl, hy, hl, fun b hb => ⟨p, b, g.p0, g.p1, g.bx, rfl, hp, hb, ok.o3, fun H' st => .inr ⟨_, rfl, q H' st⟩⟩⟩⟩
theorem sc_Yard_len : FnScope ["self"] ["self"] (defScope s_Yard_len) := ⟨rfl, rfl, rfl, by decide +kernel, rfl, by decide +kernel, by decide +kernel⟩
def spLen (C : Addr) (so : Str) : Sp := fun vs H Q _ => ∃ (y : Addr) (wd : Str) (gs : List Pg) (g : Pg), vs = [.ref y] ∧ YAt H y C so gs wd ∧ gs.getLast? = some g ∧ Q (.int g.bx.length) H
theorem ok_len (T : Tx w K mg) (yc : YC K C so) (hF : ∃ fd, FunD K "__len__" "Yard.__len__" (defArgs s_Yard_len) (defBody s_Yard_len) (defScope s_Yard_len) [] [] (He.ma K C "__len__") fd) (me : Meth K C "__len__" (He.ma K C "__len__"))
    (D_box : Pf R.prog w K mg base 1 C "box" (spBox C so)) : Mf R.prog w K mg base CX0 3 C "__len__" (spLen C so) := by
  have cY := yc.cls
  refine mf_of hF me sc_Yard_len (fun _ _ _ _ _ _ us hl => match us, hl with | [_], _ => rfl)
    (fun vs H Q E h => by repeat (first | (obtain ⟨rfl, _⟩ := h; rfl) | (obtain ⟨_, h⟩ := h))) (fun cdv A outer s H vs Q E hr h => ?_)
  have nd := sc_Yard_len.nd
  refine ⟨_, (pss_one (ps_ret (pe_callB call_len_seq rfl T.n_len PySem.boot_len (pa_cons (pe_pf (pv 0) cY D_box hr (by decide)) pa_nil)))), ?_⟩
  obtain ⟨y, wd, gs, g, rfl, hy, hl, q⟩ := h
  have hy' := hy
  obtain ⟨dx, ap, al, g', hyi, _⟩ := hy'
  simp only [tRet, tAndV, tOrV, tNotV, tCB, tCons, tNil, tC, tVar, tChain, rI0, tIfS, tTest, tOp, tUn, rU, rI, tPar3, tBM, tBM0, tM1, gSub, tXm, tCon, tProp, tMethR, rEq, rNe, rIxT, rIxL, decide_true, decide_false, tAnd, tOr, tNot, tB, tSeq, tAsg, gName, tDrop, tNext, tTup, tLst, tIf, tDf, tFld, tMf0, tPart, tSl, tNoPart, tPar, gTup, gLst, gCons, gNil, L2.start, List.map_cons, List.map_nil, List.length_cons, List.length_nil, Nat.zero_add, Nat.sub_self, Nat.reduceAdd, Nat.reduceSub, List.replicate_zero, List.replicate_succ, List.append_nil, List.nil_append, List.cons_append, List.getElem?_cons_zero, List.getElem?_cons_succ, List.set_cons_zero, List.set_cons_succ, Option.some.injEq, exists_and_left, exists_eq_left', exists_eq_left, V.int.injEq, V.bl.injEq, V.str.injEq, V.ref.injEq, List.cons.injEq, and_true, true_and, if_true, if_false, Bool.false_eq_true, reduceCtorEq, Bool.not_true, Bool.not_false, cxOf]
  exact ⟨_, _, hyi, y, wd, gs, g, rfl, hy, hl, fun b hb => ⟨b, rfl, _, .inr (SqT.of hb), by rw [List.length_map]; exact q⟩⟩
theorem sc_Yard_str : FnScope ["self"] ["self"] (defScope s_Yard_str) := ⟨rfl, rfl, rfl, by decide +kernel, rfl, by decide +kernel, by decide +kernel⟩
def spStr (C : Addr) (so : Str) : Sp := fun vs H Q _ => ∃ (y : Addr) (wd : Str) (gs : List Pg) (g : Pg), vs = [.ref y] ∧ YAt H y C so gs wd ∧ gs.getLast? = some g ∧ g.Ok 100000 ∧ ∀ H', St' [] H H' → Q (.str g.txt) H'
theorem ok_str (T : Tx w K mg) (yc : YC K C so) (hF : ∃ fd, FunD K "__str__" "Yard.__str__" (defArgs s_Yard_str) (defBody s_Yard_str) (defScope s_Yard_str) [] [] (He.ma K C "__str__") fd) (me : Meth K C "__str__" (He.ma K C "__str__"))
    (D_pair : Pf R.prog w K mg base 1 C "pair" (spPair C so)) (D_box : Pf R.prog w K mg base 1 C "box" (spBox C so)) (D_kinds_text : Df R.prog w K mg base CX0 2 "kinds_text" spKindsT) (D_sides_text : Df R.prog w K mg base CX0 1 "sides_text" spSidesT) (D_bool : Mf R.prog w K mg base CX0 6 C "__bool__" (spBool C so)) : Mf R.prog w K mg base CX0 9 C "__str__" (spStr C so) := by
  have cY := yc.cls
  refine mf_of hF me sc_Yard_str (fun _ _ _ _ _ _ us hl => match us, hl with | [_], _ => rfl)
    (fun vs H Q E h => by repeat (first | (obtain ⟨rfl, _⟩ := h; rfl) | (obtain ⟨_, h⟩ := h))) (fun cdv A outer s H vs Q E hr h => ?_)
  have nd := sc_Yard_str.nd
  refine ⟨_, (pss_one (ps_ret (pe_joined (.cons (pe_fmt (pe_df D_kinds_text hr (by decide) pass0 (pa_cons (pe_pf (pv 0) cY D_pair hr (by decide)) pa_nil))) (.cons pe_str (.cons (pe_fmt (pe_df D_sides_text hr (by decide) pass0 (pa_cons (pe_pf (pv 0) cY D_box hr (by decide)) pa_nil))) (.cons pe_str (.cons (pe_fmt (pe_ifExp (pt_val (pe_callTy (call_bool_own D_bool (hr.mono (by decide)) pass0) rfl T.n_bool (by decide +kernel) (pa_cons (pv 0) pa_nil))) (pe_gk T.c_FILLED) (pe_gk T.c_BARRED))) .nil)))))))), ?_⟩
  obtain ⟨y, wd, gs, g, rfl, hy, hl, ok, q⟩ := h
  have hy' := hy
  obtain ⟨dx, ap, al, g', hyi, _⟩ := hy'
  simp only [tRet, tAndV, tOrV, tNotV, tCB, tCons, tNil, tC, tVar, tChain, rI0, tIfS, tTest, tOp, tUn, rU, rI, tPar3, tBM, tBM0, tM1, gSub, tXm, tCon, tProp, tMethR, rEq, rNe, rIxT, rIxL, decide_true, decide_false, tAnd, tOr, tNot, tB, tSeq, tAsg, gName, tDrop, tNext, tTup, tLst, tIf, tDf, tFld, tMf0, tPart, tSl, tNoPart, tPar, gTup, gLst, gCons, gNil, L2.start, List.map_cons, List.map_nil, List.length_cons, List.length_nil, Nat.zero_add, Nat.sub_self, Nat.reduceAdd, Nat.reduceSub, List.replicate_zero, List.replicate_succ, List.append_nil, List.nil_append, List.cons_append, List.getElem?_cons_zero, List.getElem?_cons_succ, List.set_cons_zero, List.set_cons_succ, Option.some.injEq, exists_and_left, exists_eq_left', exists_eq_left, V.int.injEq, V.bl.injEq, V.str.injEq, V.ref.injEq, List.cons.injEq, and_true, true_and, if_true, if_false, Bool.false_eq_true, reduceCtorEq, Bool.not_true, Bool.not_false, cxOf]
  have k0 := sidesT_len ok.o3.s0 (by decide)
  have k1 := sidesT_len ok.o3.s1 (by decide)
  have kb := sidesT_len ok.o3.sb (by decide)
  have kk := kindsT_len k0 k1
  have m1 : (Str.empty : Str).length = 0 := rfl
  have m2 : (" in " : Str).length = 4 := by decide
  have m3 : (": " : Str).length = 2 := by decide
  have m4 : ("filled" : Str).length = 6 := by decide
  have m5 : ("barred" : Str).length = 6 := by decide
  simp only [tJs, tFmt, tRet, tAndV, tOrV, tNotV, tCB, tCons, tNil, tC, tVar, tChain, rI0, tIfS, tTest, tOp, tUn, rU, rI, tPar3, tBM, tBM0, tM1, gSub, tXm, tCon, tProp, tMethR, rEq, rNe, rIxT, rIxL, decide_true, decide_false, tAnd, tOr, tNot, tB, tSeq, tAsg, gName, tDrop, tNext, tTup, tLst, tIf, tDf, tFld, tMf0, tPart, tSl, tNoPart, tPar, gTup, gLst, gCons, gNil, L2.start, List.map_cons, List.map_nil, List.length_cons, List.length_nil, Nat.zero_add, Nat.sub_self, Nat.reduceAdd, Nat.reduceSub, List.replicate_zero, List.replicate_succ, List.append_nil, List.nil_append, List.cons_append, List.getElem?_cons_zero, List.getElem?_cons_succ, List.set_cons_zero, List.set_cons_succ, Option.some.injEq, exists_and_left, exists_eq_left', exists_eq_left, V.int.injEq, V.bl.injEq, V.str.injEq, V.ref.injEq, List.cons.injEq, and_true, true_and, if_true, if_false, Bool.false_eq_true, reduceCtorEq, Bool.not_true, Bool.not_false, cxOf]
  refine ⟨_, _, hyi, y, wd, gs, g, rfl, hy, hl, fun p ⟨a0, a1, hp, h0, h1⟩ => ⟨p, g.p0, g.p1, rfl, ⟨a0, a1, hp, h0, h1⟩, ok.o3.s0, ok.o3.s1, fun H1 st1 => .inl ⟨_, rfl, Nat.le_trans kk (by decide), ?_⟩⟩⟩
  have hy1 := hy.st st1 (by simp)
  obtain ⟨dx1, ap1, al1, g1, hyi1, _⟩ := hy1
  have hy1 := hy.st st1 (by simp)
  have z1 := len_app Str.empty (kindsT g.p0 g.p1)
  have z2 := len_app (Str.empty ++ kindsT g.p0 g.p1) " in "
  have z3 := len_app (Str.empty ++ kindsT g.p0 g.p1 ++ " in ") (sidesT g.bx)
  have z4 := len_app (Str.empty ++ kindsT g.p0 g.p1 ++ " in " ++ sidesT g.bx) ": "
  have z5 := len_app (Str.empty ++ kindsT g.p0 g.p1 ++ " in " ++ sidesT g.bx ++ ": ") (if g.fb then "filled" else "barred")
  have z6 : (if g.fb then ("filled" : Str) else "barred").length = 6 := by cases g.fb <;> decide
  have z7 : (200 : Nat) ≤ sizeLine := by decide
  refine ⟨by omega, by omega, _, _, hyi1, y, wd, gs, g, rfl, hy1, hl, fun b hb => ⟨b, g.bx, rfl, hb, ok.o3.sb, fun H2 st2 => .inl ⟨_, rfl, by omega, by omega, by omega, ?_⟩⟩⟩
  have st12 := st1.trans st2
  have hy2 := hy.st st12 (by simp)
  obtain ⟨dx2, ap2, al2, g2, hyi2, _⟩ := hy2
  have hy2 := hy.st st12 (by simp)
  refine ⟨y, dx2, _, rfl, hyi2, y, wd, gs, g, rfl, hy2, hl, ok, fun H3 st3 => ⟨⟨_, rfl⟩, ?_⟩⟩
  have q' := q H3 (st12.trans st3)
  unfold Pg.txt at q'
  refine ⟨_, rfl, ?_⟩
  cases c : g.fb with
  | true =>
    rw [c] at q' z5
    rw [if_pos rfl]
    exact .inl ⟨by rw [m4]; omega, by rw [if_pos rfl] at z5; omega, q'⟩
  | false =>
    rw [c] at q' z5
    rw [if_neg (by simp)]
    exact .inl ⟨by rw [m5]; omega, by rw [if_neg (by simp)] at z5; omega, q'⟩
theorem sc_Yard_tell : FnScope ["self", "was_filled", "is_now"] ["self", "was_filled"] (defScope s_Yard_tell) := ⟨rfl, rfl, rfl, by decide +kernel, rfl, by decide +kernel, by decide +kernel⟩
def spTell (C : Addr) (so : Str) : Sp := fun vs H Q _ => ∃ (y : Addr) (wd : Str) (gs : List Pg) (g : Pg) (b : Bool), vs = [.ref y, .bl b] ∧ YAt H y C so gs wd ∧ gs.getLast? = some g ∧ g.Ok 100000 ∧ ∀ H', St' [y] H H' → YAt H' y C so gs (newsW g.fb b) → Q .non H'
theorem ok_tell (T : Tx w K mg) (yc : YC K C so) (hF : ∃ fd, FunD K "tell" "Yard.tell" (defArgs s_Yard_tell) (defBody s_Yard_tell) (defScope s_Yard_tell) [] [] (He.ma K C "tell") fd) (me : Meth K C "tell" (He.ma K C "tell"))
    (D_bool : Mf R.prog w K mg base CX0 6 C "__bool__" (spBool C so)) : Mf R.prog w K mg base CX0 9 C "tell" (spTell C so) := by
  have cY := yc.cls
  refine mf_of hF me sc_Yard_tell (fun _ _ _ _ _ _ us hl => match us, hl with | [_, _], _ => rfl)
    (fun vs H Q E h => by repeat (first | (obtain ⟨rfl, _⟩ := h; rfl) | (obtain ⟨_, h⟩ := h))) (fun cdv A outer s H vs Q E hr h => ?_)
  have nd := sc_Yard_tell.nd
  refine ⟨_, (pss_cons (ps_set (i := 2) nd rfl (by first | exact Or.inl rfl | exact Or.inr rfl) (pe_callTy (call_bool_own D_bool (hr.mono (by decide)) pass0) rfl T.n_bool (by decide +kernel) (pa_cons (pv 0) pa_nil)))
          (pss_one (ps_asg (pe_ifExp (pt_cmpR op_eq (pv 2) (pv 1) (nomark _)) (pe_gk T.c_SAME) (pe_ifExp (pt_val (pv 2)) (pe_gk T.c_FILLED) (pe_gk T.c_BARRED))) (pg_attr (pv 0))))), ?_⟩
  obtain ⟨y, wd, gs, g, b, rfl, hy, hl, ok, q⟩ := h
  have hy' := hy
  obtain ⟨dx, ap, al, g', hyi, _⟩ := hy'
  simp only [tRet, tAndV, tOrV, tNotV, tCB, tCons, tNil, tC, tVar, tChain, rI0, tIfS, tTest, tOp, tUn, rU, rI, tPar3, tBM, tBM0, tM1, gSub, tXm, tCon, tProp, tMethR, rEq, rNe, rIxT, rIxL, decide_true, decide_false, tAnd, tOr, tNot, tB, tSeq, tAsg, gName, tDrop, tNext, tTup, tLst, tIf, tDf, tFld, tMf0, tPart, tSl, tNoPart, tPar, gTup, gLst, gCons, gNil, L2.start, List.map_cons, List.map_nil, List.length_cons, List.length_nil, Nat.zero_add, Nat.sub_self, Nat.reduceAdd, Nat.reduceSub, List.replicate_zero, List.replicate_succ, List.append_nil, List.nil_append, List.cons_append, List.getElem?_cons_zero, List.getElem?_cons_succ, List.set_cons_zero, List.set_cons_succ, Option.some.injEq, exists_and_left, exists_eq_left', exists_eq_left, V.int.injEq, V.bl.injEq, V.str.injEq, V.ref.injEq, List.cons.injEq, and_true, true_and, if_true, if_false, Bool.false_eq_true, reduceCtorEq, Bool.not_true, Bool.not_false, cxOf]
  refine ⟨y, _, _, rfl, hyi, y, wd, gs, g, rfl, hy, hl, ok, fun H1 st => ⟨⟨_, rfl⟩, ?_⟩⟩
  have hy1 := hy.st st (by simp)
  have hy1' := hy1
  obtain ⟨dx1, ap1, al1, g1, hyi1, hp1, hl1, hk1⟩ := hy1'
  have fin : ∀ wd' : Str, newsW g.fb b = wd' → gAttr K (tVar 0) "word" (.str wd') [some (.ref y), some (.bl b), some (.bl g.fb)] H1 fun x H' => Q .non H' := fun wd' e => by
    refine ⟨_, rfl, y, C, dx1, _, rfl, hyi1, yc.cls, yc.nw, by simp [yf], ?_⟩
    have s2 : St' [y] H1 (upd H1 y (.ins C dx1 (yf wd' ap1 al1))) := St'.refl.putI (by simp) hyi1
    rw [← e] at s2 ⊢
    exact q _ (st.w0.trans s2) ⟨dx1, ap1, al1, g1, upd_same, hp1.st s2, hl1, hk1.st s2⟩
  refine ⟨rfl, ?_⟩
  unfold newsW at fin
  by_cases c : g.fb = b
  · rw [if_pos (by simp [c])]
    exact fin _ (by rw [if_pos c])
  · rw [if_neg (by simp [c])]
    refine ⟨_, rfl, ?_⟩
    rw [if_neg c] at fin
    cases c2 : g.fb with
    | true =>
      rw [if_pos rfl]
      rw [c2] at fin
      exact fin _ rfl
    | false =>
      rw [if_neg (by simp)]
      rw [c2] at fin
      exact fin _ rfl
end
end Yk
set_option Elab.async false
set_option linter.all false
set_option maxRecDepth 100000
set_option maxHeartbeats 4000000
/-! yards: do, edit and its kin, undo -/
namespace Yk
open PySem PySem.Spec PyProof.Rows L2
/-! ### edits -/
inductive Ed where
  | side (a n : V)
  | brick (k a n : V)
  | swap
  | turn (v : V) (o : Option (List V))
  | stretch (a n : V)
  | more (n : V)
def Ed.nm : Ed → Str
  | .side _ _ => "side"
  | .brick _ _ _ => "brick"
  | .swap => "swap"
  | .turn _ _ => "turn"
  | .stretch _ _ => "stretch"
  | .more _ => "more"
def Ed.args : Ed → List V
  | .side a n => [a, n]
  | .brick k a n => [k, a, n]
  | .swap => []
  | .turn v _ => [v]
  | .stretch a n => [a, n]
  | .more n => [n]
def Ed.Ty (H : Hp) : Ed → Prop
  | .side a n => TyV H a ∧ TyV H n
  | .brick k a n => TyV H k ∧ TyV H a ∧ TyV H n
  | .swap => True
  | .turn v o => OdV H v o
  | .stretch a n => TyV H a ∧ TyV H n
  | .more n => TyV H n
def Ed.out (g : Pg) : Ed → Out
  | .side a n => putSide g a n
  | .brick k a n => putBrick g k a n
  | .swap => swapP g
  | .turn v o => turnP g v o
  | .stretch a n => stretchP g a n
  | .more n => moreP g n
theorem Ed.Ty.st {M : List Addr} {H H' : Hp} {e : Ed} (h : e.Ty H) (s : St' M H H') : e.Ty H' := by
  cases e with
  | side a n => exact ⟨h.1.st s, h.2.st s⟩
  | brick k a n => exact ⟨h.1.st s, h.2.1.st s, h.2.2.st s⟩
  | swap => trivial
  | turn v o => exact OdV.st h s
  | stretch a n => exact ⟨h.1.st s, h.2.st s⟩
  | more n => exact TyV.st h s
theorem Ed.args_len (e : Ed) : e.args.length ≤ 3 := by cases e <;> simp [Ed.args]
section
variable {w : World} {K : KF} {mg : Str → Option Value} {base : Heap}
def dAddr (K : KF) : Ed → Addr
  | .side _ _ => He.ga K "put_side"
  | .brick _ _ _ => He.ga K "put_brick"
  | .swap => He.ga K "swapped"
  | .turn _ _ => He.ga K "turned"
  | .stretch _ _ => He.ga K "stretched"
  | .more _ => He.ga K "more"
/-- what a deed does with the edit -/
def spDeed (K : KF) (e : Ed) : Sp := fun vs H Q E => ∃ (p : V) (g : Pg), vs = p :: e.args ∧ PgAt H p g ∧ g.Ok big ∧ e.Ty H ∧ Fin' K H (e.out g) Q E
theorem kd_deed (T : Tx w K mg) (e : Ed) : KDct K w (He.ga K "DEEDS") e.nm (.ref (dAddr K e)) := by
  obtain ⟨es, n, kd⟩ := T.deeds
  cases e with
  | side a n => exact T.deed_side.elim fun u h => ⟨es, _, u, kd.at_, kd.lit, h.1, h.2⟩
  | brick k a n => exact T.deed_brick.elim fun u h => ⟨es, _, u, kd.at_, kd.lit, h.1, h.2⟩
  | swap => exact T.deed_swap.elim fun u h => ⟨es, _, u, kd.at_, kd.lit, h.1, h.2⟩
  | turn v o => exact T.deed_turn.elim fun u h => ⟨es, _, u, kd.at_, kd.lit, h.1, h.2⟩
  | stretch a n => exact T.deed_stretch.elim fun u h => ⟨es, _, u, kd.at_, kd.lit, h.1, h.2⟩
  | more n => exact T.deed_more.elim fun u h => ⟨es, _, u, kd.at_, kd.lit, h.1, h.2⟩
theorem ok_deeds (T : Tx w K mg) (d1 : DfX w K mg base 4 "put_side" (spPutSide K)) (d2 : DfX w K mg base 4 "put_brick" (spPutBrick K)) (d3 : DfX w K mg base 1 "swapped" (spSwapped K)) (d4 : DfX w K mg base 3 "turned" (spTurned K)) (d5 : DfX w K mg base 4 "stretched" (spStretched K)) (d6 : DfX w K mg base 4 "more" (spMore K)) :
    ∀ f sp, (∃ e, f = dAddr K e ∧ sp = spDeed K e) → FnR R.prog w K mg base (L2.CX R.prog w) 4 f sp ∧ PySem.W.keepIn K (.ref f) = true := by
  rintro f sp ⟨e, rfl, rfl⟩
  cases e with
  | side a n => exact ⟨d1.fn.imp fun vs H Q E ⟨p, g, e, hp, ok, ty, q⟩ => ⟨p, a, n, g, e, hp, ok, ty.1, ty.2, q⟩, d1.kp⟩
  | brick k a n => exact ⟨d2.fn.imp fun vs H Q E ⟨p, g, e, hp, ok, ty, q⟩ => ⟨p, k, a, n, g, e, hp, ok, ty.1, ty.2.1, ty.2.2, q⟩, d2.kp⟩
  | swap => exact ⟨(d3.fn.imp fun vs H Q E ⟨p, g, e, hp, ok, ty, q⟩ => ⟨p, g, e, hp, q⟩).mono (by decide), d3.kp⟩
  | turn v o => exact ⟨(d4.fn.imp fun vs H Q E ⟨p, g, e, hp, ok, ty, q⟩ => ⟨p, v, g, o, e, hp, ok, ty, q⟩).mono (by decide), d4.kp⟩
  | stretch a n => exact ⟨d5.fn.imp fun vs H Q E ⟨p, g, e, hp, ok, ty, q⟩ => ⟨p, a, n, g, e, hp, ok, ty.1, ty.2, q⟩, d5.kp⟩
  | more n => exact ⟨d6.fn.imp fun vs H Q E ⟨p, g, e, hp, ok, ty, q⟩ => ⟨p, n, g, e, hp, ok, ty, q⟩, d6.kp⟩
theorem sc_Yard_judge : FnScope ["self", "page"] ["self", "page"] (defScope s_Yard_judge) := ⟨rfl, rfl, rfl, by decide +kernel, rfl, by decide +kernel, by decide +kernel⟩
def spJudge : Sp := fun vs H Q _ => ∃ (y p : V), vs = [y, p] ∧ Q .non H
theorem ok_judge (T : Tx w K mg) : Mf R.prog w K mg base CX0 1 (He.ga K "Yard") "judge" spJudge := by
  have hF := T.d_Yard_judge
  have me := T.m_Y_judge
  refine mf_of hF me sc_Yard_judge (fun _ _ _ _ _ _ us hl => match us, hl with | [_, _], _ => rfl)
    (fun vs H Q E h => by repeat (first | (obtain ⟨rfl, _⟩ := h; rfl) | (obtain ⟨_, h⟩ := h))) (fun cdv A outer s H vs Q E hr h => ?_)
  have nd := sc_Yard_judge.nd
  refine ⟨_, (pss_one ps_pass), ?_⟩
  obtain ⟨y, p, rfl, q⟩ := h
  exact q
theorem sc_Yard_require_free : FnScope ["self"] ["self"] (defScope s_Yard_require_free) := ⟨rfl, rfl, rfl, by decide +kernel, rfl, by decide +kernel, by decide +kernel⟩
def spFree : Sp := fun vs H Q _ => ∃ (y : Addr) (C : Addr) (so wd : Str) (gs : List Pg), vs = [.ref y] ∧ C = C ∧ YAt H y C so gs wd ∧ Q .non H
abbrev Y (K : KF) : Addr := He.ga K "Yard"
def spFreeY (K : KF) : Sp := fun vs H Q _ => ∃ (y : Addr) (wd : Str) (gs : List Pg), vs = [.ref y] ∧ YAt H y (Y K) "yard" gs wd ∧ Q .non H
theorem ok_require_free (T : Tx w K mg) : Mf R.prog w K mg base CX0 1 (Y K) "require_free" (spFreeY K) := by
  have hF := T.d_Yard_require_free
  have me := T.m_Y_require_free
  have yc := T.yY
  refine mf_of hF me sc_Yard_require_free (fun _ _ _ _ _ _ us hl => match us, hl with | [_], _ => rfl)
    (fun vs H Q E h => by repeat (first | (obtain ⟨rfl, _⟩ := h; rfl) | (obtain ⟨_, h⟩ := h))) (fun cdv A outer s H vs Q E hr h => ?_)
  have nd := sc_Yard_require_free.nd
  refine ⟨_, (pss_one (ps_if (pt_val (pe_fld (pv 0) rfl)) (pss_one ps_never) pss_nil)), ?_⟩
  obtain ⟨y, wd, gs, rfl, ⟨dx, ap, al, g', hy, _⟩, q⟩ := h
  simp only [tRet, tAndV, tOrV, tNotV, tCB, tCons, tNil, tC, tVar, tChain, rI0, tIfS, tTest, tOp, tUn, rU, rI, tPar3, tBM, tBM0, tM1, gSub, tXm, tCon, tProp, tMethR, rEq, rNe, rIxT, rIxL, decide_true, decide_false, tAnd, tOr, tNot, tB, tSeq, tAsg, gName, tDrop, tNext, tTup, tLst, tIf, tDf, tFld, tMf0, tPart, tSl, tNoPart, tPar, gTup, gLst, gCons, gNil, L2.start, List.map_cons, List.map_nil, List.length_cons, List.length_nil, Nat.zero_add, Nat.sub_self, Nat.reduceAdd, Nat.reduceSub, List.replicate_zero, List.replicate_succ, List.append_nil, List.nil_append, List.cons_append, List.getElem?_cons_zero, List.getElem?_cons_succ, List.set_cons_zero, List.set_cons_succ, Option.some.injEq, exists_and_left, exists_eq_left', exists_eq_left, V.int.injEq, V.bl.injEq, V.str.injEq, V.ref.injEq, List.cons.injEq, and_true, true_and, if_true, if_false, Bool.false_eq_true, reduceCtorEq, Bool.not_true, Bool.not_false, cxOf]
  refine ⟨_, _, _, hy, yc.cls, yc.nb, _, rfl, ?_⟩
  exact ⟨false, rfl, by rw [if_neg (by simp)]; exact q⟩
theorem sc_Yard_do : FnScope ["self", "name", "values", "deed", "page"] ["self", "name", "values"] (defScope s_Yard_do) := ⟨rfl, rfl, rfl, by decide +kernel, rfl, by decide +kernel, by decide +kernel⟩
def spDo (K : KF) : Sp := fun vs H Q E => ∃ (y av : Addr) (wd : Str) (gs : List Pg) (g : Pg) (e : Ed), vs = [.ref y, .str e.nm, .ref av] ∧ H av = some (.tup e.args) ∧ e.Ty H ∧ YAt H y (Y K) "yard" gs wd ∧ gs.length ≤ 30 ∧ gs.getLast? = some g ∧ g.Ok big ∧
  match e.out g with
  | .ok g' => ∀ H', St' [y] H H' → YAt H' y (Y K) "yard" (gs ++ [g']) wd → Q (.int gs.length) H'
  | .bad x fl v => ∀ d H', St' [] H H' → H' d = some (.xd [(fl, v)]) → E (.ref (He.ga K x)) (some d) H'
theorem ok_do (T : Tx w K mg) (AD : ∀ f sp, (∃ e, f = dAddr K e ∧ sp = spDeed K e) → FnR R.prog w K mg base (L2.CX R.prog w) 4 f sp ∧ PySem.W.keepIn K (.ref f) = true)
    (D_version : Pf R.prog w K mg base 1 (Y K) "version" (spVersion (Y K) "yard")) (D_judge : Mf R.prog w K mg base CX0 1 (Y K) "judge" spJudge) (D_stand : Mf R.prog w K mg base CX0 1 (Y K) "stand" (spStand (Y K) "yard")) :
    Mf R.prog w K mg base (L2.CX R.prog w) 5 (Y K) "do" (spDo K) := by
  have hF := T.d_Yard_do
  have me := T.m_Y_do
  have yc := T.yY
  have cY := yc.cls
  refine mf_of hF me sc_Yard_do (fun _ _ _ _ _ _ us hl => match us, hl with | [_, _, _], _ => rfl)
    (fun vs H Q E h => by repeat (first | (obtain ⟨rfl, _⟩ := h; rfl) | (obtain ⟨_, h⟩ := h))) (fun cdv A outer s H vs Q E hr h => ?_)
  have nd := sc_Yard_do.nd
  refine ⟨_, (pss_cons (ps_if (pt_cmpR op_ge (pe_pf (pv 0) cY D_version hr (by decide)) (pe_gk T.c_HISTORY) (nomark _)) (pss_one ps_never) pss_nil)
          (pss_cons (ps_set (i := 3) nd rfl (by first | exact Or.inl rfl | exact Or.inr rfl) (pe_ix ix_kdict (pe_glob (v := .ref (He.ga _ "DEEDS")) rfl T.g_DEEDS rfl) (pv 1) (fun _ _ => rfl)))
          (pss_cons (ps_set (i := 4) nd rfl (by first | exact Or.inl rfl | exact Or.inr rfl) (pe_deed (i := 3) AD hr (by decide) (passes_call (takes_of rfl rfl rfl rfl) (fun _ _ _ _ h => h)) (pa_cons (pe_ix ix_tup (pe_fld (pv 0) rfl) (pe_un un_neg pe_int) (fun _ _ => rfl)) (StX.pa_star (pv 2) pa_nil))))
          (pss_cons (ps_expr (pe_mf (pv 0) cY D_judge hr (by decide) pass0 (pa_cons (pv 4) pa_nil)))
          (pss_cons (ps_expr (pe_mf (pv 0) cY D_stand hr (by decide) pass0 (pa_cons (pe_op op_catA (pe_fld (pv 0) rfl) (pe_tup (pa_cons (pv 4) pa_nil))) pa_nil)))
          (pss_one (ps_ret (pe_pf (pv 0) cY D_version hr (by decide))))))))), ?_⟩
  obtain ⟨y, av, wd, gs, g, e, rfl, hav, ty, hy, ln, hl, ok, q⟩ := h
  have hy' := hy
  obtain ⟨dx, ap, al, g', hyi, ⟨vs, hap, hal⟩, _⟩ := hy'
  simp only [tRet, tAndV, tOrV, tNotV, tCB, tCons, tNil, tC, tVar, tChain, rI0, tIfS, tTest, tOp, tUn, rU, rI, tPar3, tBM, tBM0, tM1, gSub, tXm, tCon, tProp, tMethR, rEq, rNe, rIxT, rIxL, decide_true, decide_false, tAnd, tOr, tNot, tB, tSeq, tAsg, gName, tDrop, tNext, tTup, tLst, tIf, tDf, tFld, tMf0, tPart, tSl, tNoPart, tPar, gTup, gLst, gCons, gNil, L2.start, List.map_cons, List.map_nil, List.length_cons, List.length_nil, Nat.zero_add, Nat.sub_self, Nat.reduceAdd, Nat.reduceSub, List.replicate_zero, List.replicate_succ, List.append_nil, List.nil_append, List.cons_append, List.getElem?_cons_zero, List.getElem?_cons_succ, List.set_cons_zero, List.set_cons_succ, Option.some.injEq, exists_and_left, exists_eq_left', exists_eq_left, V.int.injEq, V.bl.injEq, V.str.injEq, V.ref.injEq, List.cons.injEq, and_true, true_and, if_true, if_false, Bool.false_eq_true, reduceCtorEq, Bool.not_true, Bool.not_false, cxOf]
  obtain ⟨pv, hpv, hpg⟩ := hal.last hl
  have kdd := kd_deed T e
  refine ⟨_, _, hyi, y, wd, gs, rfl, hy, _, rfl, ?_⟩
  rw [if_neg (by simp; omega)]
  simp only [rIxD, tDeed, StX.tStar, tRet, tAndV, tOrV, tNotV, tCB, tCons, tNil, tC, tVar, tChain, rI0, tIfS, tTest, tOp, tUn, rU, rI, tPar3, tBM, tBM0, tM1, gSub, tXm, tCon, tProp, tMethR, rEq, rNe, rIxT, rIxL, decide_true, decide_false, tAnd, tOr, tNot, tB, tSeq, tAsg, gName, tDrop, tNext, tTup, tLst, tIf, tDf, tFld, tMf0, tPart, tSl, tNoPart, tPar, gTup, gLst, gCons, gNil, L2.start, List.map_cons, List.map_nil, List.length_cons, List.length_nil, Nat.zero_add, Nat.sub_self, Nat.reduceAdd, Nat.reduceSub, List.replicate_zero, List.replicate_succ, List.append_nil, List.nil_append, List.cons_append, List.getElem?_cons_zero, List.getElem?_cons_succ, List.set_cons_zero, List.set_cons_succ, Option.some.injEq, exists_and_left, exists_eq_left', exists_eq_left, V.int.injEq, V.bl.injEq, V.str.injEq, V.ref.injEq, List.cons.injEq, and_true, true_and, if_true, if_false, Bool.false_eq_true, reduceCtorEq, Bool.not_true, Bool.not_false, cxOf]
  refine ⟨_, kdd, _, rfl, _, ⟨e, rfl, rfl⟩, _, _, _, hyi, yc.cls, yc.np, _, rfl, ?_⟩
  refine ⟨ap, rfl, _, SqT.of hap, pv, hpv, _, .inl (SqT.of hav), pv, g, rfl, hpg, ok, ty, ?_⟩
  cases c : e.out g with
  | bad x fl v =>
    rw [c] at q
    exact q
  | ok gn =>
    rw [c] at q
    intro v H1 st hv
    have hyi1 := st.kp _ _ hyi (by simp)
    have hap1 := st.tp _ _ hap
    refine ⟨_, _, hyi1, rfl, _, v, rfl, _, _, hyi1, rfl, _, _, _, hyi1, yc.cls, yc.np, _, rfl, by decide, fun p2 n2 => ?_⟩
    have st2 := st.new (p := p2) (o := .tup [v]) n2
    have s2 := (St'.refl (M := []) (H := H1)).new (p := p2) (o := .tup [v]) n2
    refine cat_at (s2.tp _ _ hap1) upd_same (by have := hal.len; simp; omega) fun p3 H3 s3 h3 => ?_
    have st3 := st2.trans s3
    have hyi3 := st3.kp _ _ hyi (by simp)
    refine ⟨y, p3, dx, _, wd, gs ++ [gn], gn, rfl, hyi3, .inr ⟨_, _, rfl⟩, ⟨_, h3, AllAt.snoc ((hv.st s2).st s3) (AllAt.st st3 hal)⟩, by simp, fun H4 s4 hy4 => ?_⟩
    have hy4' := hy4
    obtain ⟨dx4, ap4, al4, g4, hyi4, _⟩ := hy4'
    refine ⟨_, _, hyi4, y, wd, _, rfl, hy4, ?_⟩
    have q' := q H4 (st3.w0.trans s4) hy4
    simpa using q'
end
end Yk
set_option Elab.async false
set_option linter.all false
set_option maxRecDepth 100000
set_option maxHeartbeats 4000000
/-! plain: edits keep pages good; how long what is shown can be -/
namespace Yk
open PySem PySem.Spec PyProof.Rows L2
theorem Sd.put {xs : List Int} {m v : Int} {i : Nat} (h : Sd xs m) (h1 : 1 ≤ v) (h2 : v ≤ m) : Sd (xs.set i v) m := ⟨by simp; exact h.n1, by simp; exact h.n4, fun x hx => (List.mem_or_eq_of_mem_set hx).elim (h.all x) fun e => by rw [e]; exact ⟨h1, h2⟩⟩
theorem Pg.Ok.up {g : Pg} {m n : Int} (h : g.Ok m) (hm : m ≤ n) : g.Ok n := ⟨⟨h.o3.s0.mono hm, h.o3.s1.mono hm, h.o3.sb.mono hm, h.o3.l1, h.o3.lb⟩⟩
theorem greatN_none {n : Int} : ∀ {i : Nat} {bx : List Int}, greatN n i bx = none → ∀ b ∈ bx, b + n ≤ big
  | _, [], _ => by simp
  | i, b :: r, h => by
    unfold greatN at h
    split at h
    · cases h
    · intro x hx
      rcases List.mem_cons.mp hx with rfl | hx
      · omega
      · exact greatN_none h x hx
theorem sd_turn {xs : List V} {r : List Int} {m : Int} (h : Sd r m) (hp : permB xs r.length = true) : Sd (turnRow xs r) m := by
  unfold permB at hp
  simp only [Bool.and_eq_true, decide_eq_true_eq] at hp
  obtain ⟨⟨h1, h2⟩, _⟩ := hp
  refine ⟨by simp [turnRow, h1]; exact h.n1, by simp [turnRow, h1]; exact h.n4, fun x hx => ?_⟩
  obtain ⟨v, hv, rfl⟩ := List.mem_map.mp hx
  have hv2 := inR_int (List.all_eq_true.mp h2 v hv)
  have lt : toN v < r.length := by
    have e : ((toN v : Nat) : Int) = toI v := Int.toNat_of_nonneg hv2.2.1
    have := hv2.2.2
    omega
  have e : r.getD (toN v) 0 = r[toN v] := by simp [List.getD_eq_getElem?_getD, lt]
  rw [e]
  exact h.all _ (List.getElem_mem lt)
theorem sd_setR {r : List Int} {a n : V} {M : Int} (h : Sd r big) (la : toN a < r.length) (n1 : 1 ≤ toI n) (hM : r.getD (toN a) 0 ≤ M) (hn : M * toI n ≤ big) : Sd (setR r a n) big := by
  have e : r.getD (toN a) 0 = r[toN a] := by simp [List.getD_eq_getElem?_getD, la]
  have b := h.all _ (List.getElem_mem la)
  rw [← e] at b
  refine h.put ?_ ?_
  · have := Int.mul_le_mul b.1 n1 (by omega) (by omega)
    omega
  · have := Int.mul_le_mul_of_nonneg_right hM (show 0 ≤ toI n by omega)
    omega
theorem Ed.out_ok {e : Ed} {g g' : Pg} (ok : g.Ok big) (h : e.out g = .ok g') : g'.Ok big := by
  obtain ⟨⟨s0, s1, sb, l1, lb⟩⟩ := ok
  cases e with
  | side a n =>
    have h : putSide g a n = .ok g' := h
    unfold putSide at h
    split at h
    · split at h
      · rename_i c1 c2
        cases h
        have := inR_int c2
        exact ⟨⟨s0, s1, sb.put this.2.1 this.2.2, l1, by simp [lb]⟩⟩
      · cases h
    · cases h
  | brick k a n =>
    have h : putBrick g k a n = .ok g' := h
    unfold putBrick at h
    split at h
    · split at h
      · split at h
        · rename_i c0 c1 c2
          have := inR_int c2
          cases h
          split
          · exact ⟨⟨s0.put this.2.1 this.2.2, s1, sb, by simp [l1], by simp [lb]⟩⟩
          · exact ⟨⟨s0, s1.put this.2.1 this.2.2, sb, by simp [l1], lb⟩⟩
        · cases h
      · cases h
    · cases h
  | swap =>
    have h : swapP g = .ok g' := h
    unfold swapP at h
    cases h
    exact ⟨⟨s1, s0, sb, l1.symm, by rw [lb, l1]⟩⟩
  | turn v o =>
    have h : turnP g v o = .ok g' := h
    unfold turnP at h
    split at h
    · rename_i xs
      split at h
      · rename_i c
        cases h
        refine ⟨⟨sd_turn s0 (by rw [← lb]; exact c), sd_turn s1 (by rw [l1, ← lb]; exact c), sd_turn sb c, by simp [turnRow], by simp [turnRow]⟩⟩
      · cases h
    · cases h
  | stretch a n =>
    have h : stretchP g a n = .ok g' := h
    unfold stretchP at h
    split at h
    · split at h
      · split at h
        · cases h
        · rename_i c1 c2 c3
          cases h
          obtain ⟨ea, la⟩ := inR_ax c1
          have h2 := inR_int c2
          have m0 : g.p0.getD (toN a) 0 ≤ max3 (g.p0.getD (toN a) 0) (g.p1.getD (toN a) 0) (g.bx.getD (toN a) 0) := by
            unfold max3
            split <;> split <;> omega
          have m1 : g.p1.getD (toN a) 0 ≤ max3 (g.p0.getD (toN a) 0) (g.p1.getD (toN a) 0) (g.bx.getD (toN a) 0) := by
            unfold max3
            split <;> split <;> omega
          have mb : g.bx.getD (toN a) 0 ≤ max3 (g.p0.getD (toN a) 0) (g.p1.getD (toN a) 0) (g.bx.getD (toN a) 0) := by
            unfold max3
            split <;> split <;> omega
          have hn := Int.not_lt.mp c3
          exact ⟨⟨sd_setR s0 (by omega) h2.2.1 m0 hn, sd_setR s1 (by omega) h2.2.1 m1 hn, sd_setR sb la h2.2.1 mb hn, by simp [setR, l1], by simp [setR, lb]⟩⟩
      · cases h
    · cases h
  | more n =>
    have h : moreP g n = .ok g' := h
    unfold moreP at h
    split at h
    · rename_i c
      have hn := inR_int c
      split at h
      · cases h
      · rename_i gn
        cases h
        have gr := greatN_none gn
        refine ⟨⟨s0, s1, ⟨by simp; exact sb.n1, by simp; exact sb.n4, fun x hx => ?_⟩, l1, by simp [lb]⟩⟩
        obtain ⟨y, hy, rfl⟩ := List.mem_map.mp hx
        have := sb.all y hy
        exact ⟨by omega, gr y hy⟩
    · cases h
/-! ### lengths -/
def Cl8 (x : Str) : Prop := ∀ c ∈ x.cps.toList, c < 16 ^ 8
theorem Cl8.app {a b : Str} (ha : Cl8 a) (hb : Cl8 b) : Cl8 (a ++ b) := fun c hc => by
  have e : (a ++ b).cps = a.cps ++ b.cps := rfl
  rw [e, Array.toList_append] at hc
  exact (List.mem_append.mp hc).elim (ha c) (hb c)
theorem Cl8.join {s : Str} (hs : Cl8 s) : ∀ {l : List Str}, (∀ x ∈ l, Cl8 x) → Cl8 (Str.join s l)
  | [], _ => fun c hc => by
    have e : (Str.join s []).cps.toList = [] := rfl
    rw [e] at hc
    cases hc
  | [x], h => h x (by simp)
  | x :: y :: r, h => by
    show Cl8 (x ++ s ++ Str.join s (y :: r))
    exact Cl8.app (Cl8.app (h x (by simp)) hs) (Cl8.join hs fun z hz => h z (by simp [hz]))
theorem Cl8.of (s : String) : Cl8 (Str.ofString s) := fun c hc => by
  have e : (Str.ofString s).cps.toList = s.toList.map Char.toNat := by
    show (cpsOfBytes 0 0 s.toByteArray.data.toList).toArray.toList = _
    rw [cpsOfBytes_string]
  rw [e] at hc
  obtain ⟨ch, _, rfl⟩ := List.mem_map.mp hc
  have := ch.valid
  have h2 : ch.toNat < 0x110000 := by
    rcases this with h | h
    · exact Nat.lt_trans h (by decide)
    · exact h.2
  exact Nat.lt_trans h2 (by decide)
theorem textFrom_le {n : Nat} : ∀ (ts : List Str) (k : Nat) (acc : Str), (∀ t ∈ ts, t.length ≤ n) → (textFrom k acc ts).length ≤ acc.length + ts.length * (n + 2)
  | [], k, acc, _ => by simp [textFrom]
  | t :: r, k, acc, h => by
    have ih := textFrom_le r (k + 1) (acc ++ (if k > 0 then ", " else "" : String) ++ t) fun x hx => h x (by simp [hx])
    have e : (acc ++ (if k > 0 then ", " else "" : String) ++ t).length ≤ acc.length + 2 + t.length := by
      rw [strLen_append, strLen_append]
      split
      · exact Nat.le_refl _
      · show acc.length + 0 + _ ≤ _
        omega
    have ht := h t (by simp)
    have e2 : (t :: r).length * (n + 2) = r.length * (n + 2) + (n + 2) := by simp [Nat.add_mul]
    rw [textFrom, e2]
    omega
theorem listText_le {n : Nat} {ts : List Str} (h : ∀ t ∈ ts, t.length ≤ n) : (listText ts).length ≤ 2 + ts.length * (n + 2) := by
  unfold listText
  rw [strLen_append]
  have := textFrom_le ts 0 "[" h
  have e1 : (("[" : String) : Str).length = 1 := rfl
  have e2 : (("]" : String) : Str).length = 1 := rfl
  omega
theorem joinS_le {n : Nat} : ∀ {ts : List Str}, (∀ t ∈ ts, t.length ≤ n) → (Str.join ", " ts).length ≤ ts.length * (n + 2)
  | [], _ => by show (0 : Nat) ≤ _; omega
  | [x], h => by
    have := h x (by simp)
    show x.length ≤ 1 * (n + 2)
    omega
  | x :: y :: r, h => by
    have ih := joinS_le (ts := y :: r) fun z hz => h z (by simp [hz])
    have hx := h x (by simp)
    show (x ++ ", " ++ Str.join ", " (y :: r)).length ≤ _
    have e2 : ((", " : String) : Str).length = 2 := rfl
    rw [strLen_append, strLen_append, e2]
    have e3 : (x :: y :: r).length * (n + 2) = (y :: r).length * (n + 2) + (n + 2) := by simp [Nat.add_mul]
    omega
theorem tupleText_le {n : Nat} {ts : List Str} (h : ∀ t ∈ ts, t.length ≤ n) : (tupleText ts).length ≤ 3 + ts.length * (n + 2) := by
  unfold tupleText
  rw [strLen_append, strLen_append]
  have := joinS_le h
  have e1 : (("(" : String) : Str).length = 1 := rfl
  have e2 : (((if ts.length == 1 then ",)" else ")" : String) : Str)).length ≤ 2 := by split <;> decide
  omega
theorem shown_all : ∀ {ds : List PyData} {t : Str}, t ∈ PyData.shownAll ds → ∃ d ∈ ds, t = d.shown
  | [], t, h => by simp [PyData.shownAll] at h
  | d :: ds, t, h => by
    simp only [PyData.shownAll, List.mem_cons] at h
    rcases h with rfl | h
    · exact ⟨d, by simp, rfl⟩
    · obtain ⟨x, hx, e⟩ := shown_all h
      exact ⟨x, by simp [hx], e⟩
theorem shownAll_len : ∀ ds : List PyData, (PyData.shownAll ds).length = ds.length
  | [] => by simp [PyData.shownAll]
  | d :: ds => by simp [PyData.shownAll, shownAll_len ds]
/-- how long a datum is written at most -/
def Sh (n : Nat) (d : PyData) : Prop := d.shown.length ≤ n ∧ d.showable = true ∧ d.hasDict = false
theorem Sh.mono {m n : Nat} {d : PyData} (h : Sh m d) (hm : m ≤ n) : Sh n d := ⟨Nat.le_trans h.1 hm, h.2⟩
theorem show_all : ∀ {ds : List PyData} {n : Nat}, (∀ d ∈ ds, Sh n d) → PyData.showableAll ds = true ∧ PyData.hasDictAll ds = false
  | [], n, _ => by simp [PyData.showableAll, PyData.hasDictAll]
  | d :: ds, n, h => by
    have h1 := h d (by simp)
    have h2 := show_all (ds := ds) fun x hx => h x (by simp [hx])
    simp [PyData.showableAll, PyData.hasDictAll, h1.2.1, h1.2.2, h2.1, h2.2]
theorem Sh.lst {n k : Nat} {ds : List PyData} (h : ∀ d ∈ ds, Sh n d) (hk : ds.length ≤ k) : Sh (2 + k * (n + 2)) (.list ds) := by
  refine ⟨?_, by simp only [PyData.showable]; exact (show_all h).1, by simp only [PyData.hasDict]; exact (show_all h).2⟩
  simp only [PyData.shown]
  have := listText_le (n := n) (ts := PyData.shownAll ds) fun t ht => by
    obtain ⟨d, hd, rfl⟩ := shown_all ht
    exact (h d hd).1
  rw [shownAll_len] at this
  have := Nat.mul_le_mul_right (n + 2) hk
  omega
theorem Sh.tup {n k : Nat} {ds : List PyData} (h : ∀ d ∈ ds, Sh n d) (hk : ds.length ≤ k) : Sh (3 + k * (n + 2)) (.tuple ds) := by
  refine ⟨?_, by simp only [PyData.showable]; exact (show_all h).1, by simp only [PyData.hasDict]; exact (show_all h).2⟩
  simp only [PyData.shown]
  have := tupleText_le (n := n) (ts := PyData.shownAll ds) fun t ht => by
    obtain ⟨d, hd, rfl⟩ := shown_all ht
    exact (h d hd).1
  rw [shownAll_len] at this
  have := Nat.mul_le_mul_right (n + 2) hk
  omega
theorem Sh.int {i : Int} (h0 : 0 ≤ i) (h1 : i < 10 ^ 6) : Sh 6 (.int i) := by
  refine ⟨?_, by simp only [PyData.showable, decide_eq_true_eq]; exact ito_log h0 (by omega), by simp only [PyData.hasDict]⟩
  simp only [PyData.shown]
  exact ito_len h0 h1
theorem Sh.bl (b : Bool) : Sh 6 (.bool b) := by
  refine ⟨?_, by simp only [PyData.showable], by simp only [PyData.hasDict]⟩
  simp only [PyData.shown]
  cases b <;> decide
theorem Sh.str {x : Str} {k : Nat} (h : Cl8 x) (hk : x.length ≤ k) : Sh (10 * k + 2) (.str x) := by
  refine ⟨?_, by simp only [PyData.showable], by simp only [PyData.hasDict]⟩
  simp only [PyData.shown]
  have := StrLaws.reprText_len x h
  omega
theorem sh_ints {xs : List Int} (h : Sd xs 100000) : Sh 35 (.tuple (xs.map PyData.int)) := by
  have := Sh.tup (n := 6) (k := 4) (ds := xs.map PyData.int) (fun d hd => by
    obtain ⟨i, hi, rfl⟩ := List.mem_map.mp hd
    have := h.all i hi
    exact Sh.int (by omega) (by omega)) (by simp; exact h.n4)
  exact this
end Yk
set_option Elab.async false
set_option linter.all false
set_option maxRecDepth 100000
set_option maxHeartbeats 4000000
/-! yards: edit and its kin, undo, state_at, fresh, copy, == -/
namespace Yk
open PySem PySem.Spec PyProof.Rows L2
theorem Sd.up {xs : List Int} {m n : Int} (h : Sd xs m) (hm : m ≤ n) : Sd xs n := h.mono hm
theorem Pg.Ok.mono {g : Pg} {m n : Int} (h : g.Ok m) (hm : m ≤ n) : g.Ok n := ⟨⟨h.o3.s0.mono hm, h.o3.s1.mono hm, h.o3.sb.mono hm, h.o3.l1, h.o3.lb⟩⟩
structure EdIn (K : KF) (H : Hp) (y : Addr) (wd : Str) (gs : List Pg) (g : Pg) (e : Ed) : Prop where
  ty : e.Ty H
  at_ : YAt H y (Y K) "yard" gs wd
  ln : gs.length ≤ 30
  last : gs.getLast? = some g
  ok : g.Ok 100000
def EdFin (K : KF) (H : Hp) (y : Addr) (gs : List Pg) (g : Pg) (e : Ed) (Q : VK) (E : XK) : Prop := match e.out g with
  | .ok g' => g'.Ok 100000 ∧ ∀ H', St' [y] H H' → YAt H' y (Y K) "yard" (gs ++ [g']) (newsW g'.fb g.fb) → Q (.int gs.length) H'
  | .bad x fl v => ∀ d H', St' [] H H' → H' d = some (.xd [(fl, v)]) → E (.ref (He.ga K x)) (some d) H'
theorem EdIn.st {K : KF} {H H' : Hp} {y : Addr} {wd : Str} {gs : List Pg} {g : Pg} {e : Ed} (h : EdIn K H y wd gs g e) (s : St' [] H H') : EdIn K H' y wd gs g e := ⟨h.ty.st s, h.at_.st s (by simp), h.ln, h.last, h.ok⟩
theorem EdFin.st {K : KF} {H H1 : Hp} {y : Addr} {gs : List Pg} {g : Pg} {e : Ed} {Q : VK} {E : XK} (h : EdFin K H y gs g e Q E) (s : St' [] H H1) : EdFin K H1 y gs g e Q E := by
  unfold EdFin at h ⊢
  cases c : e.out g with
  | ok g' =>
    rw [c] at h
    exact ⟨h.1, fun H' s' => h.2 H' (s.w0.trans s')⟩
  | bad x fl v =>
    rw [c] at h
    exact fun d H' s' => h d H' (s.trans s')
section
variable {P : Program} {w : World} {K : KF} {mg : Str → Option Value} {base : Heap} {k : Nat} {sp : Sp} {st : Stmt} {N ps : List Str}
/-- def m(self, b, *v) -/
theorem mf_star {CX : CXT} {C : Addr} {m qual p1 p2 pv : Str} (F : ∃ fd, FunD K m qual (defArgs st) (defBody st) (defScope st) [] [] (He.ma K C m) fd) (me : Meth K C m (He.ma K C m)) (S : FnScope N ([p1, p2] ++ [pv]) (defScope st)) (hCX : StX.CXUp CX)
    (h0 : ∀ (kV doc pm : Value) (an : Option Addr) (cdv ct : Value) (a b : Value), bindArgs (PySem.W.fnOf m qual (defArgs st) (defBody st) (defScope st) .none kV doc pm an cdv ct) ⟨[a, b], []⟩ = (newTuple [] >>= fun t => pure [(p1, a), (p2, b), (pv, t)]))
    (h1 : ∀ (kV doc pm : Value) (an : Option Addr) (cdv ct : Value) (a b r : Value) (rs : List Value), bindArgs (PySem.W.fnOf m qual (defArgs st) (defBody st) (defScope st) .none kV doc pm an cdv ct) ⟨a :: b :: r :: rs, []⟩ = (newTuple (r :: rs) >>= fun t => pure [(p1, a), (p2, b), (pv, t)]))
    (hbody : BodyS CX P w K mg base k qual st (He.ma K C m) N sp) :
    Mf P w K mg base CX (k + 1) C m (fun vs H Q E => ∃ ws rest, vs = ws ++ rest ∧ ws.length = 2 ∧ rest.length ≤ sizeLine ∧ ∀ p, H p = Option.none → sp (ws ++ [V.ref p]) (upd H p (.tup rest)) Q E) := by
  obtain ⟨fd, F⟩ := F
  obtain ⟨oc, od, dV, kV, doc, pm, an, cdv, ct, osl, rfl, lk, hcd, hD, hK⟩ := F.ex
  rcases hD with ⟨_, rfl⟩ | ⟨e, _⟩
  · exact ⟨StX.fn_star (ps := [p1, p2]) lk hcd S hCX (StX.bind_star2 (B := fun us => bindArgs (PySem.W.fnOf m qual (defArgs st) (defBody st) (defScope st) .none kV doc pm an cdv ct) ⟨us, []⟩) (h0 kV doc pm an cdv ct) (h1 kV doc pm an cdv ct)) fun A outer s H vs Q E hr h => hbody cdv A outer s H vs Q E hr h, me⟩
  · exact absurd rfl e
end
section
variable {w : World} {K : KF} {mg : Str → Option Value} {base : Heap}
theorem sc_Yard_edit : FnScope ["self", "name", "values", "was_filled", "version"] ["self", "name", "values"] (defScope s_Yard_edit) := ⟨rfl, rfl, rfl, by decide +kernel, rfl, by decide +kernel, by decide +kernel⟩
def spEditI (K : KF) : Sp := fun vs H Q E => ∃ (y av : Addr) (wd : Str) (gs : List Pg) (g : Pg) (e : Ed), vs = [.ref y, .str e.nm, .ref av] ∧ H av = some (.tup e.args) ∧ EdIn K H y wd gs g e ∧ EdFin K H y gs g e Q E
def spEdit (K : KF) : Sp := fun vs H Q E => ∃ (y : Addr) (wd : Str) (gs : List Pg) (g : Pg) (e : Ed), vs = .ref y :: .str e.nm :: e.args ∧ EdIn K H y wd gs g e ∧ EdFin K H y gs g e Q E
theorem ok_edit (T : Tx w K mg) (D_require_free : Mf R.prog w K mg base CX0 1 (Y K) "require_free" (spFreeY K)) (D_bool : Mf R.prog w K mg base CX0 6 (Y K) "__bool__" (spBool (Y K) "yard")) (D_do : Mf R.prog w K mg base (L2.CX R.prog w) 5 (Y K) "do" (spDo K)) (D_tell : Mf R.prog w K mg base CX0 9 (Y K) "tell" (spTell (Y K) "yard")) :
    Mf R.prog w K mg base (L2.CX R.prog w) 10 (Y K) "edit" (spEdit K) := by
  have hF := T.d_Yard_edit
  have me := T.m_Y_edit
  have yc := T.yY
  have cY := yc.cls
  have M : Mf R.prog w K mg base (L2.CX R.prog w) 10 (Y K) "edit" (fun vs H Q E => ∃ ws rest, vs = ws ++ rest ∧ ws.length = 2 ∧ rest.length ≤ sizeLine ∧ ∀ p, H p = Option.none → spEditI K (ws ++ [V.ref p]) (upd H p (.tup rest)) Q E) := by
    refine mf_star (p1 := "self") (p2 := "name") (pv := "values") (sp := spEditI K) hF me sc_Yard_edit StX.cxUp (fun _ _ _ _ _ _ _ _ => rfl) (fun _ _ _ _ _ _ _ _ _ _ => rfl) (fun cdv A outer s H vs Q E hr h => ?_)
    have nd := sc_Yard_edit.nd
    refine ⟨_, (pss_cons (ps_expr (pe_mf0 (pv 0) cY D_require_free hr (by decide) pass0))
            (pss_cons (ps_set (i := 3) nd rfl (by first | exact Or.inl rfl | exact Or.inr rfl) (pe_callTy (call_bool_own D_bool (hr.mono (by decide)) pass0) rfl T.n_bool (by decide +kernel) (pa_cons (pv 0) pa_nil)))
            (pss_cons (ps_set (i := 4) nd rfl (by first | exact Or.inl rfl | exact Or.inr rfl) (pe_mf (pv 0) cY D_do hr (by decide) (passes_call (takes_of rfl rfl rfl rfl) (fun _ _ _ _ h => h)) (pa_cons (pv 1) (pa_cons (pv 2) pa_nil))))
            (pss_cons (ps_expr (pe_mf (pv 0) cY D_tell hr (by decide) pass0 (pa_cons (pv 3) pa_nil)))
            (pss_one (ps_ret (pv 4))))))), ?_⟩
    obtain ⟨y, av, wd, gs, g, e, rfl, hav, hin, q⟩ := h
    have hy' := hin.at_
    obtain ⟨dx, ap, al, g', hyi, _⟩ := hy'
    simp only [tRet, tAndV, tOrV, tNotV, tCB, tCons, tNil, tC, tVar, tChain, rI0, tIfS, tTest, tOp, tUn, rU, rI, tPar3, tBM, tBM0, tM1, gSub, tXm, tCon, tProp, tMethR, rEq, rNe, rIxT, rIxL, decide_true, decide_false, tAnd, tOr, tNot, tB, tSeq, tAsg, gName, tDrop, tNext, tTup, tLst, tIf, tDf, tFld, tMf0, tPart, tSl, tNoPart, tPar, gTup, gLst, gCons, gNil, L2.start, List.map_cons, List.map_nil, List.length_cons, List.length_nil, Nat.zero_add, Nat.sub_self, Nat.reduceAdd, Nat.reduceSub, List.replicate_zero, List.replicate_succ, List.append_nil, List.nil_append, List.cons_append, List.getElem?_cons_zero, List.getElem?_cons_succ, List.set_cons_zero, List.set_cons_succ, Option.some.injEq, exists_and_left, exists_eq_left', exists_eq_left, V.int.injEq, V.bl.injEq, V.str.injEq, V.ref.injEq, List.cons.injEq, and_true, true_and, if_true, if_false, Bool.false_eq_true, reduceCtorEq, Bool.not_true, Bool.not_false, cxOf]
    refine ⟨_, _, hyi, rfl, y, wd, gs, rfl, hin.at_, y, _, _, rfl, hyi, y, wd, gs, g, rfl, hin.at_, hin.last, hin.ok, fun H1 st => ⟨⟨_, rfl⟩, ?_⟩⟩
    have hin1 := hin.st st
    have q1 := q.st st
    obtain ⟨dx1, ap1, al1, g1, hyi1, _⟩ := hin1.at_
    refine ⟨_, _, hyi1, rfl, y, av, wd, gs, g, e, rfl, st.tp _ _ hav, hin1.ty, hin1.at_, hin.ln, hin.last, hin.ok.mono (by decide), ?_⟩
    unfold EdFin at q1
    cases c : e.out g with
    | bad x fl v =>
      rw [c] at q1
      exact q1
    | ok gn =>
      rw [c] at q1
      intro H2 s2 hy2
      have hy2' := hy2
      obtain ⟨dx2, ap2, al2, g2, hyi2, _⟩ := hy2'
      exact ⟨_, _, hyi2, rfl, y, wd, _, gn, g.fb, rfl, hy2, by simp, q1.1, fun H3 s3 hy3 => q1.2 H3 (s2.trans s3) hy3⟩
  refine ⟨M.fn.imp fun vs H Q E h => ?_, me⟩
  obtain ⟨y, wd, gs, g, e, rfl, hin, q⟩ := h
  have al := e.args_len
  refine ⟨[.ref y, .str e.nm], e.args, rfl, rfl, Nat.le_trans al (by decide), fun p np => ?_⟩
  have st := (St'.refl (M := []) (H := H)).new (p := p) (o := .tup e.args) np
  exact ⟨y, p, wd, gs, g, e, rfl, upd_same, hin.st st, q.st st⟩
theorem sc_Yard_side : FnScope ["self", "axis", "number"] ["self", "axis", "number"] (defScope s_Yard_side) := ⟨rfl, rfl, rfl, by decide +kernel, rfl, by decide +kernel, by decide +kernel⟩
def spSide (K : KF) : Sp := fun vs H Q E => ∃ (y : Addr) (wd : Str) (gs : List Pg) (g : Pg) (a n : V), vs = [.ref y, a, n] ∧ EdIn K H y wd gs g (.side a n) ∧ EdFin K H y gs g (.side a n) Q E
theorem ok_side (T : Tx w K mg) (D_edit : Mf R.prog w K mg base (L2.CX R.prog w) 10 (Y K) "edit" (spEdit K)) : Mf R.prog w K mg base (L2.CX R.prog w) 11 (Y K) "side" (spSide K) := by
  have hF := T.d_Yard_side
  have me := T.m_Y_side
  have cY := T.cls_Y
  refine mf_of hF me sc_Yard_side (fun _ _ _ _ _ _ us hl => match us, hl with | [_, _, _], _ => rfl)
    (fun vs H Q E h => by repeat (first | (obtain ⟨rfl, _⟩ := h; rfl) | (obtain ⟨_, h⟩ := h))) (fun cdv A outer s H vs Q E hr h => ?_)
  have nd := sc_Yard_side.nd
  refine ⟨_, (pss_one (ps_ret (pe_mf (pv 0) cY D_edit hr (by decide) (passes_call (takes_of rfl rfl rfl rfl) (fun _ _ _ _ h => h)) (pa_cons pe_str (pa_cons (pv 1) (pa_cons (pv 2) pa_nil)))))), ?_⟩
  obtain ⟨y, wd, gs, g, a, n, rfl, hin, q⟩ := h
  obtain ⟨dx, ap, al, g', hyi, _⟩ := hin.at_
  simp only [tRet, tAndV, tOrV, tNotV, tCB, tCons, tNil, tC, tVar, tChain, rI0, tIfS, tTest, tOp, tUn, rU, rI, tPar3, tBM, tBM0, tM1, gSub, tXm, tCon, tProp, tMethR, rEq, rNe, rIxT, rIxL, decide_true, decide_false, tAnd, tOr, tNot, tB, tSeq, tAsg, gName, tDrop, tNext, tTup, tLst, tIf, tDf, tFld, tMf0, tPart, tSl, tNoPart, tPar, gTup, gLst, gCons, gNil, L2.start, List.map_cons, List.map_nil, List.length_cons, List.length_nil, Nat.zero_add, Nat.sub_self, Nat.reduceAdd, Nat.reduceSub, List.replicate_zero, List.replicate_succ, List.append_nil, List.nil_append, List.cons_append, List.getElem?_cons_zero, List.getElem?_cons_succ, List.set_cons_zero, List.set_cons_succ, Option.some.injEq, exists_and_left, exists_eq_left', exists_eq_left, V.int.injEq, V.bl.injEq, V.str.injEq, V.ref.injEq, List.cons.injEq, and_true, true_and, if_true, if_false, Bool.false_eq_true, reduceCtorEq, Bool.not_true, Bool.not_false, cxOf]
  exact ⟨_, _, hyi, rfl, y, wd, gs, g, _, rfl, hin, q⟩
theorem sc_Yard_brick : FnScope ["self", "kind", "axis", "number"] ["self", "kind", "axis", "number"] (defScope s_Yard_brick) := ⟨rfl, rfl, rfl, by decide +kernel, rfl, by decide +kernel, by decide +kernel⟩
def spBrick (K : KF) : Sp := fun vs H Q E => ∃ (y : Addr) (wd : Str) (gs : List Pg) (g : Pg) (k a n : V), vs = [.ref y, k, a, n] ∧ EdIn K H y wd gs g (.brick k a n) ∧ EdFin K H y gs g (.brick k a n) Q E
theorem ok_brick (T : Tx w K mg) (D_edit : Mf R.prog w K mg base (L2.CX R.prog w) 10 (Y K) "edit" (spEdit K)) : Mf R.prog w K mg base (L2.CX R.prog w) 11 (Y K) "brick" (spBrick K) := by
  have hF := T.d_Yard_brick
  have me := T.m_Y_brick
  have cY := T.cls_Y
  refine mf_of hF me sc_Yard_brick (fun _ _ _ _ _ _ us hl => match us, hl with | [_, _, _, _], _ => rfl)
    (fun vs H Q E h => by repeat (first | (obtain ⟨rfl, _⟩ := h; rfl) | (obtain ⟨_, h⟩ := h))) (fun cdv A outer s H vs Q E hr h => ?_)
  have nd := sc_Yard_brick.nd
  refine ⟨_, (pss_one (ps_ret (pe_mf (pv 0) cY D_edit hr (by decide) (passes_call (takes_of rfl rfl rfl rfl) (fun _ _ _ _ h => h)) (pa_cons pe_str (pa_cons (pv 1) (pa_cons (pv 2) (pa_cons (pv 3) pa_nil))))))), ?_⟩
  obtain ⟨y, wd, gs, g, k, a, n, rfl, hin, q⟩ := h
  obtain ⟨dx, ap, al, g', hyi, _⟩ := hin.at_
  simp only [tRet, tAndV, tOrV, tNotV, tCB, tCons, tNil, tC, tVar, tChain, rI0, tIfS, tTest, tOp, tUn, rU, rI, tPar3, tBM, tBM0, tM1, gSub, tXm, tCon, tProp, tMethR, rEq, rNe, rIxT, rIxL, decide_true, decide_false, tAnd, tOr, tNot, tB, tSeq, tAsg, gName, tDrop, tNext, tTup, tLst, tIf, tDf, tFld, tMf0, tPart, tSl, tNoPart, tPar, gTup, gLst, gCons, gNil, L2.start, List.map_cons, List.map_nil, List.length_cons, List.length_nil, Nat.zero_add, Nat.sub_self, Nat.reduceAdd, Nat.reduceSub, List.replicate_zero, List.replicate_succ, List.append_nil, List.nil_append, List.cons_append, List.getElem?_cons_zero, List.getElem?_cons_succ, List.set_cons_zero, List.set_cons_succ, Option.some.injEq, exists_and_left, exists_eq_left', exists_eq_left, V.int.injEq, V.bl.injEq, V.str.injEq, V.ref.injEq, List.cons.injEq, and_true, true_and, if_true, if_false, Bool.false_eq_true, reduceCtorEq, Bool.not_true, Bool.not_false, cxOf]
  exact ⟨_, _, hyi, rfl, y, wd, gs, g, _, rfl, hin, q⟩
theorem sc_Yard_swap : FnScope ["self"] ["self"] (defScope s_Yard_swap) := ⟨rfl, rfl, rfl, by decide +kernel, rfl, by decide +kernel, by decide +kernel⟩
def spSwap (K : KF) : Sp := fun vs H Q E => ∃ (y : Addr) (wd : Str) (gs : List Pg) (g : Pg), vs = [.ref y] ∧ EdIn K H y wd gs g .swap ∧ EdFin K H y gs g .swap Q E
theorem ok_swap (T : Tx w K mg) (D_edit : Mf R.prog w K mg base (L2.CX R.prog w) 10 (Y K) "edit" (spEdit K)) : Mf R.prog w K mg base (L2.CX R.prog w) 11 (Y K) "swap" (spSwap K) := by
  have hF := T.d_Yard_swap
  have me := T.m_Y_swap
  have cY := T.cls_Y
  refine mf_of hF me sc_Yard_swap (fun _ _ _ _ _ _ us hl => match us, hl with | [_], _ => rfl)
    (fun vs H Q E h => by repeat (first | (obtain ⟨rfl, _⟩ := h; rfl) | (obtain ⟨_, h⟩ := h))) (fun cdv A outer s H vs Q E hr h => ?_)
  have nd := sc_Yard_swap.nd
  refine ⟨_, (pss_one (ps_ret (pe_mf (pv 0) cY D_edit hr (by decide) (passes_call (takes_of rfl rfl rfl rfl) (fun _ _ _ _ h => h)) (pa_cons pe_str pa_nil)))), ?_⟩
  obtain ⟨y, wd, gs, g, rfl, hin, q⟩ := h
  obtain ⟨dx, ap, al, g', hyi, _⟩ := hin.at_
  simp only [tRet, tAndV, tOrV, tNotV, tCB, tCons, tNil, tC, tVar, tChain, rI0, tIfS, tTest, tOp, tUn, rU, rI, tPar3, tBM, tBM0, tM1, gSub, tXm, tCon, tProp, tMethR, rEq, rNe, rIxT, rIxL, decide_true, decide_false, tAnd, tOr, tNot, tB, tSeq, tAsg, gName, tDrop, tNext, tTup, tLst, tIf, tDf, tFld, tMf0, tPart, tSl, tNoPart, tPar, gTup, gLst, gCons, gNil, L2.start, List.map_cons, List.map_nil, List.length_cons, List.length_nil, Nat.zero_add, Nat.sub_self, Nat.reduceAdd, Nat.reduceSub, List.replicate_zero, List.replicate_succ, List.append_nil, List.nil_append, List.cons_append, List.getElem?_cons_zero, List.getElem?_cons_succ, List.set_cons_zero, List.set_cons_succ, Option.some.injEq, exists_and_left, exists_eq_left', exists_eq_left, V.int.injEq, V.bl.injEq, V.str.injEq, V.ref.injEq, List.cons.injEq, and_true, true_and, if_true, if_false, Bool.false_eq_true, reduceCtorEq, Bool.not_true, Bool.not_false, cxOf]
  exact ⟨_, _, hyi, rfl, y, wd, gs, g, _, rfl, hin, q⟩
theorem sc_Yard_turn : FnScope ["self", "order"] ["self", "order"] (defScope s_Yard_turn) := ⟨rfl, rfl, rfl, by decide +kernel, rfl, by decide +kernel, by decide +kernel⟩
def spTurn (K : KF) : Sp := fun vs H Q E => ∃ (y : Addr) (wd : Str) (gs : List Pg) (g : Pg) (v : V) (o : Option (List V)), vs = [.ref y, v] ∧ EdIn K H y wd gs g (.turn v o) ∧ EdFin K H y gs g (.turn v o) Q E
theorem ok_turn (T : Tx w K mg) (D_edit : Mf R.prog w K mg base (L2.CX R.prog w) 10 (Y K) "edit" (spEdit K)) : Mf R.prog w K mg base (L2.CX R.prog w) 11 (Y K) "turn" (spTurn K) := by
  have hF := T.d_Yard_turn
  have me := T.m_Y_turn
  have cY := T.cls_Y
  refine mf_of hF me sc_Yard_turn (fun _ _ _ _ _ _ us hl => match us, hl with | [_, _], _ => rfl)
    (fun vs H Q E h => by repeat (first | (obtain ⟨rfl, _⟩ := h; rfl) | (obtain ⟨_, h⟩ := h))) (fun cdv A outer s H vs Q E hr h => ?_)
  have nd := sc_Yard_turn.nd
  refine ⟨_, (pss_one (ps_ret (pe_mf (pv 0) cY D_edit hr (by decide) (passes_call (takes_of rfl rfl rfl rfl) (fun _ _ _ _ h => h)) (pa_cons pe_str (pa_cons (pv 1) pa_nil))))), ?_⟩
  obtain ⟨y, wd, gs, g, v, o, rfl, hin, q⟩ := h
  obtain ⟨dx, ap, al, g', hyi, _⟩ := hin.at_
  simp only [tRet, tAndV, tOrV, tNotV, tCB, tCons, tNil, tC, tVar, tChain, rI0, tIfS, tTest, tOp, tUn, rU, rI, tPar3, tBM, tBM0, tM1, gSub, tXm, tCon, tProp, tMethR, rEq, rNe, rIxT, rIxL, decide_true, decide_false, tAnd, tOr, tNot, tB, tSeq, tAsg, gName, tDrop, tNext, tTup, tLst, tIf, tDf, tFld, tMf0, tPart, tSl, tNoPart, tPar, gTup, gLst, gCons, gNil, L2.start, List.map_cons, List.map_nil, List.length_cons, List.length_nil, Nat.zero_add, Nat.sub_self, Nat.reduceAdd, Nat.reduceSub, List.replicate_zero, List.replicate_succ, List.append_nil, List.nil_append, List.cons_append, List.getElem?_cons_zero, List.getElem?_cons_succ, List.set_cons_zero, List.set_cons_succ, Option.some.injEq, exists_and_left, exists_eq_left', exists_eq_left, V.int.injEq, V.bl.injEq, V.str.injEq, V.ref.injEq, List.cons.injEq, and_true, true_and, if_true, if_false, Bool.false_eq_true, reduceCtorEq, Bool.not_true, Bool.not_false, cxOf]
  exact ⟨_, _, hyi, rfl, y, wd, gs, g, _, rfl, hin, q⟩
theorem sc_Yard_stretch : FnScope ["self", "axis", "number"] ["self", "axis", "number"] (defScope s_Yard_stretch) := ⟨rfl, rfl, rfl, by decide +kernel, rfl, by decide +kernel, by decide +kernel⟩
def spStretch (K : KF) : Sp := fun vs H Q E => ∃ (y : Addr) (wd : Str) (gs : List Pg) (g : Pg) (a n : V), vs = [.ref y, a, n] ∧ EdIn K H y wd gs g (.stretch a n) ∧ EdFin K H y gs g (.stretch a n) Q E
theorem ok_stretch (T : Tx w K mg) (D_edit : Mf R.prog w K mg base (L2.CX R.prog w) 10 (Y K) "edit" (spEdit K)) : Mf R.prog w K mg base (L2.CX R.prog w) 11 (Y K) "stretch" (spStretch K) := by
  have hF := T.d_Yard_stretch
  have me := T.m_Y_stretch
  have cY := T.cls_Y
  refine mf_of hF me sc_Yard_stretch (fun _ _ _ _ _ _ us hl => match us, hl with | [_, _, _], _ => rfl)
    (fun vs H Q E h => by repeat (first | (obtain ⟨rfl, _⟩ := h; rfl) | (obtain ⟨_, h⟩ := h))) (fun cdv A outer s H vs Q E hr h => ?_)
  have nd := sc_Yard_stretch.nd
  refine ⟨_, (pss_one (ps_ret (pe_mf (pv 0) cY D_edit hr (by decide) (passes_call (takes_of rfl rfl rfl rfl) (fun _ _ _ _ h => h)) (pa_cons pe_str (pa_cons (pv 1) (pa_cons (pv 2) pa_nil)))))), ?_⟩
  obtain ⟨y, wd, gs, g, a, n, rfl, hin, q⟩ := h
  obtain ⟨dx, ap, al, g', hyi, _⟩ := hin.at_
  simp only [tRet, tAndV, tOrV, tNotV, tCB, tCons, tNil, tC, tVar, tChain, rI0, tIfS, tTest, tOp, tUn, rU, rI, tPar3, tBM, tBM0, tM1, gSub, tXm, tCon, tProp, tMethR, rEq, rNe, rIxT, rIxL, decide_true, decide_false, tAnd, tOr, tNot, tB, tSeq, tAsg, gName, tDrop, tNext, tTup, tLst, tIf, tDf, tFld, tMf0, tPart, tSl, tNoPart, tPar, gTup, gLst, gCons, gNil, L2.start, List.map_cons, List.map_nil, List.length_cons, List.length_nil, Nat.zero_add, Nat.sub_self, Nat.reduceAdd, Nat.reduceSub, List.replicate_zero, List.replicate_succ, List.append_nil, List.nil_append, List.cons_append, List.getElem?_cons_zero, List.getElem?_cons_succ, List.set_cons_zero, List.set_cons_succ, Option.some.injEq, exists_and_left, exists_eq_left', exists_eq_left, V.int.injEq, V.bl.injEq, V.str.injEq, V.ref.injEq, List.cons.injEq, and_true, true_and, if_true, if_false, Bool.false_eq_true, reduceCtorEq, Bool.not_true, Bool.not_false, cxOf]
  exact ⟨_, _, hyi, rfl, y, wd, gs, g, _, rfl, hin, q⟩
theorem sc_Yard_iadd : FnScope ["self", "number"] ["self", "number"] (defScope s_Yard_iadd) := ⟨rfl, rfl, rfl, by decide +kernel, rfl, by decide +kernel, by decide +kernel⟩
def spIadd (K : KF) : Sp := fun vs H Q E => ∃ (y : Addr) (wd : Str) (gs : List Pg) (g : Pg) (n : V), vs = [.ref y, n] ∧ EdIn K H y wd gs g (.more n) ∧ EdFin K H y gs g (.more n) (fun _ H' => Q (.ref y) H') E
theorem ok_iadd (T : Tx w K mg) (D_edit : Mf R.prog w K mg base (L2.CX R.prog w) 10 (Y K) "edit" (spEdit K)) : Mf R.prog w K mg base (L2.CX R.prog w) 11 (Y K) "__iadd__" (spIadd K) := by
  have hF := T.d_Yard_iadd
  have me := T.m_Y_iadd
  have cY := T.cls_Y
  refine mf_of hF me sc_Yard_iadd (fun _ _ _ _ _ _ us hl => match us, hl with | [_, _], _ => rfl)
    (fun vs H Q E h => by repeat (first | (obtain ⟨rfl, _⟩ := h; rfl) | (obtain ⟨_, h⟩ := h))) (fun cdv A outer s H vs Q E hr h => ?_)
  have nd := sc_Yard_iadd.nd
  refine ⟨_, (pss_cons (ps_expr (pe_mf (pv 0) cY D_edit hr (by decide) (passes_call (takes_of rfl rfl rfl rfl) (fun _ _ _ _ h => h)) (pa_cons pe_str (pa_cons (pv 1) pa_nil))))
          (pss_one (ps_ret (pv 0)))), ?_⟩
  obtain ⟨y, wd, gs, g, n, rfl, hin, q⟩ := h
  obtain ⟨dx, ap, al, g', hyi, _⟩ := hin.at_
  simp only [tRet, tAndV, tOrV, tNotV, tCB, tCons, tNil, tC, tVar, tChain, rI0, tIfS, tTest, tOp, tUn, rU, rI, tPar3, tBM, tBM0, tM1, gSub, tXm, tCon, tProp, tMethR, rEq, rNe, rIxT, rIxL, decide_true, decide_false, tAnd, tOr, tNot, tB, tSeq, tAsg, gName, tDrop, tNext, tTup, tLst, tIf, tDf, tFld, tMf0, tPart, tSl, tNoPart, tPar, gTup, gLst, gCons, gNil, L2.start, List.map_cons, List.map_nil, List.length_cons, List.length_nil, Nat.zero_add, Nat.sub_self, Nat.reduceAdd, Nat.reduceSub, List.replicate_zero, List.replicate_succ, List.append_nil, List.nil_append, List.cons_append, List.getElem?_cons_zero, List.getElem?_cons_succ, List.set_cons_zero, List.set_cons_succ, Option.some.injEq, exists_and_left, exists_eq_left', exists_eq_left, V.int.injEq, V.bl.injEq, V.str.injEq, V.ref.injEq, List.cons.injEq, and_true, true_and, if_true, if_false, Bool.false_eq_true, reduceCtorEq, Bool.not_true, Bool.not_false, cxOf]
  exact ⟨_, _, hyi, rfl, y, wd, gs, g, _, rfl, hin, q⟩
end
end Yk
set_option Elab.async false
set_option linter.all false
set_option maxRecDepth 100000
set_option maxHeartbeats 4000000
/-! yards: undo, state_at, __init__, fresh, copy, == -/
namespace Yk
open PySem PySem.Spec PyProof.Rows L2
section
variable {w : World} {K : KF} {mg : Str → Option Value} {base : Heap} {C : Addr} {so : Str}
theorem sc_Yard_undo : FnScope ["self", "was_filled"] ["self"] (defScope s_Yard_undo) := ⟨rfl, rfl, rfl, by decide +kernel, rfl, by decide +kernel, by decide +kernel⟩
def spUndo (K : KF) : Sp := fun vs H Q E => ∃ (y : Addr) (wd : Str) (gs : List Pg) (g : Pg), vs = [.ref y] ∧ YAt H y (Y K) "yard" gs wd ∧ gs.length ≤ 900 ∧ gs.getLast? = some g ∧ (∀ x ∈ gs, x.Ok 100000) ∧
  (gs.length = 1 → E (.ref (He.ga K "NothingToUndo")) none H) ∧ ∀ g', gs.dropLast.getLast? = some g' → ∀ H', St' [y] H H' → YAt H' y (Y K) "yard" gs.dropLast (newsW g'.fb g.fb) → Q (.int ((gs.length : Int) - 2)) H'
theorem cut_last (vs : List V) : cutV vs none (some (-1)) = vs.dropLast := by
  unfold cutV
  rw [HT.sIx_none, List.drop_zero, Nat.sub_zero, List.dropLast_eq_take]
  congr 1
  show (if (-1 : Int) < 0 then ((-1 : Int) + (vs.length : Int)).toNat else min (-1 : Int).toNat vs.length) = _
  rw [if_pos (by decide)]
  omega
theorem ok_undo (T : Tx w K mg) (D_require_free : Mf R.prog w K mg base CX0 1 (Y K) "require_free" (spFreeY K)) (D_version : Pf R.prog w K mg base 1 (Y K) "version" (spVersion (Y K) "yard")) (D_bool : Mf R.prog w K mg base CX0 6 (Y K) "__bool__" (spBool (Y K) "yard")) (D_stand : Mf R.prog w K mg base CX0 1 (Y K) "stand" (spStand (Y K) "yard")) (D_tell : Mf R.prog w K mg base CX0 9 (Y K) "tell" (spTell (Y K) "yard")) :
    Mf R.prog w K mg base (L2.CX R.prog w) 10 (Y K) "undo" (spUndo K) := by
  have hF := T.d_Yard_undo
  have me := T.m_Y_undo
  have yc := T.yY
  have cY := yc.cls
  refine mf_of hF me sc_Yard_undo (fun _ _ _ _ _ _ us hl => match us, hl with | [_], _ => rfl)
    (fun vs H Q E h => by repeat (first | (obtain ⟨rfl, _⟩ := h; rfl) | (obtain ⟨_, h⟩ := h))) (fun cdv A outer s H vs Q E hr h => ?_)
  have nd := sc_Yard_undo.nd
  refine ⟨_, (pss_cons (ps_expr (pe_mf0 (pv 0) cY D_require_free hr (by decide) pass0))
          (pss_cons (ps_if (pt_cmpR op_eq (pe_pf (pv 0) cY D_version hr (by decide)) pe_int (nomark _)) (pss_one (ps_raise rfl (takes_of rfl rfl rfl rfl) (pmk_own0 PySem.F.excBase_ValueError T.exc_U.1 T.g_NothingToUndo T.exc_U.2.1 (raises_own T.exc_U.2.2.1 T.exc_U.2.2.2)))) pss_nil)
          (pss_cons (ps_set (i := 1) nd rfl (by first | exact Or.inl rfl | exact Or.inr rfl) (pe_callTy (call_bool_own D_bool (hr.mono (by decide)) pass0) rfl T.n_bool (by decide +kernel) (pa_cons (pv 0) pa_nil)))
          (pss_cons (ps_expr (pe_mf (pv 0) cY D_stand hr (by decide) pass0 (pa_cons (pe_slice sl_tupA (pe_fld (pv 0) rfl) po_none (po_some (pe_un un_neg pe_int))) pa_nil)))
          (pss_cons (ps_expr (pe_mf (pv 0) cY D_tell hr (by decide) pass0 (pa_cons (pv 1) pa_nil)))
          (pss_one (ps_ret (pe_pf (pv 0) cY D_version hr (by decide))))))))), ?_⟩
  obtain ⟨y, wd, gs, g, rfl, hy, ln, hl, ok, q1, q2⟩ := h
  have hy' := hy
  obtain ⟨dx, ap, al, g', hyi, ⟨vs, hap, hal⟩, _⟩ := hy'
  simp only [tRet, tAndV, tOrV, tNotV, tCB, tCons, tNil, tC, tVar, tChain, rI0, tIfS, tTest, tOp, tUn, rU, rI, tPar3, tBM, tBM0, tM1, gSub, tXm, tCon, tProp, tMethR, rEq, rNe, rIxT, rIxL, decide_true, decide_false, tAnd, tOr, tNot, tB, tSeq, tAsg, gName, tDrop, tNext, tTup, tLst, tIf, tDf, tFld, tMf0, tPart, tSl, tNoPart, tPar, gTup, gLst, gCons, gNil, L2.start, List.map_cons, List.map_nil, List.length_cons, List.length_nil, Nat.zero_add, Nat.sub_self, Nat.reduceAdd, Nat.reduceSub, List.replicate_zero, List.replicate_succ, List.append_nil, List.nil_append, List.cons_append, List.getElem?_cons_zero, List.getElem?_cons_succ, List.set_cons_zero, List.set_cons_succ, Option.some.injEq, exists_and_left, exists_eq_left', exists_eq_left, V.int.injEq, V.bl.injEq, V.str.injEq, V.ref.injEq, List.cons.injEq, and_true, true_and, if_true, if_false, Bool.false_eq_true, reduceCtorEq, Bool.not_true, Bool.not_false, cxOf]
  refine ⟨_, _, hyi, rfl, y, wd, gs, rfl, hy, _, _, hyi, y, wd, gs, rfl, hy, ?_⟩
  refine ⟨rfl, ?_⟩
  by_cases c : gs.length = 1
  · rw [if_pos (by simp [c])]
    exact q1 c
  · have gp : 0 < gs.length := by
      have : gs ≠ [] := by intro z; rw [z] at hl; cases hl
      exact List.length_pos_iff.mpr this
    rw [if_neg (by simp; omega)]
    have okg : g.Ok 100000 := ok g (List.mem_of_getLast? hl)
    refine ⟨y, _, _, rfl, hyi, y, wd, gs, g, rfl, hy, hl, okg, fun H1 st => ⟨⟨_, rfl⟩, ?_⟩⟩
    have hyi1 := st.kp _ _ hyi (by simp)
    have hap1 := st.tp _ _ hap
    refine ⟨_, _, hyi1, rfl, _, _, _, hyi1, yc.cls, yc.np, _, rfl, sl_at hap1 fun p2 H2 s2 h2 => ?_⟩
    rw [cut_last] at h2
    have st2 := st.trans s2
    have hyi2 := st2.kp _ _ hyi (by simp)
    have hal2 : AllAt H2 vs.dropLast gs.dropLast := by
      rw [List.dropLast_eq_take, List.dropLast_eq_take, hal.len]
      exact (AllAt.st st2 hal).take _
    obtain ⟨gn, hgn⟩ : ∃ gn, gs.dropLast.getLast? = some gn := by
      cases z : gs.dropLast.getLast? with
      | some x => exact ⟨x, rfl⟩
      | none =>
        have z2 := List.getLast?_eq_none_iff.mp z
        have z3 : gs.dropLast.length = 0 := by rw [z2]; rfl
        rw [List.length_dropLast] at z3
        omega
    have okn : gn.Ok 100000 := ok gn (List.dropLast_subset _ (List.mem_of_getLast? hgn))
    refine ⟨y, p2, dx, _, wd, gs.dropLast, gn, rfl, hyi2, .inr ⟨_, _, rfl⟩, ⟨_, h2, hal2⟩, hgn, fun H3 s3 hy3 => ?_⟩
    have hy3' := hy3
    obtain ⟨dx3, ap3, al3, g3, hyi3, _⟩ := hy3'
    refine ⟨_, _, hyi3, rfl, y, wd, _, gn, g.fb, rfl, hy3, hgn, okn, fun H4 s4 hy4 => ?_⟩
    have hy4' := hy4
    obtain ⟨dx4, ap4, al4, g4, hyi4, _⟩ := hy4'
    refine ⟨_, _, hyi4, y, _, _, rfl, hy4, ?_⟩
    have q' := q2 gn hgn H4 (st2.w0.trans (s3.trans s4)) hy4
    rw [List.length_dropLast]
    have e : (((gs.length - 1 : Nat) : Int) - 1) = (gs.length : Int) - 2 := by omega
    rw [e]
    exact q'
theorem sc_Yard_state_at : FnScope ["self", "version"] ["self", "version"] (defScope s_Yard_state_at) := ⟨rfl, rfl, rfl, by decide +kernel, rfl, by decide +kernel, by decide +kernel⟩
def spStateAt (C : Addr) (so : Str) : Sp := fun vs H Q _ => ∃ (y : Addr) (v : V) (wd : Str) (gs : List Pg) (g : Pg), vs = [.ref y, v] ∧ YAt H y C so gs wd ∧ ((v = .non ∧ gs.getLast? = some g) ∨ ∃ i : Nat, v = .int i ∧ gs[i]? = some g) ∧ ∀ p, PgAt H p g → Q p H
theorem fn_state_at (T : Tx w K mg) (D_is_integer : Df R.prog w K mg base CX0 1 "is_integer" spIsInt) (D_version : Pf R.prog w K mg base 1 (Y K) "version" (spVersion (Y K) "yard")) :
    ∃ fd, FunD K "state_at" "Yard.state_at" (defArgs s_Yard_state_at) (defBody s_Yard_state_at) (defScope s_Yard_state_at) [] [("version", V.non)] (He.ma K (Y K) "state_at") fd ∧ FnOk R.prog w K mg base CX0 3 (He.ma K (Y K) "state_at") fd ["self", "version"] (spStateAt (Y K) "yard") := by
  obtain ⟨fd, F⟩ := T.d_Yard_state_at
  have yc := T.yY
  have cY := yc.cls
  refine ⟨fd, F, F.ok sc_Yard_state_at (fun vs H Q E h => by obtain ⟨y, v, wd, gs, g, rfl, _⟩ := h; rfl) fun cdv A outer s H vs Q E hr h => ?_⟩
  have nd := sc_Yard_state_at.nd
  refine ⟨_, (pss_cons (ps_if (pt_cmpR op_isN (pv 1) pe_non (nomark _)) (pss_one (ps_ret (pe_ix ix_tup (pe_fld (pv 0) rfl) (pe_un un_neg pe_int) (fun _ _ => rfl)))) pss_nil)
          (pss_cons (ps_if (pt_not (pt_val (pe_df D_is_integer hr (by decide) pass0 (pa_cons (pv 1) (pa_cons pe_int (pa_cons (pe_pf (pv 0) cY D_version hr (by decide)) pa_nil)))))) (pss_one ps_never) pss_nil)
          (pss_one (ps_ret (pe_ix ix_tup (pe_fld (pv 0) rfl) (pv 1) (fun _ _ => rfl)))))), ?_⟩
  obtain ⟨y, v, wd, gs, g, rfl, hy, hv, q⟩ := h
  have hy' := hy
  obtain ⟨dx, ap, al, g', hyi, ⟨vs, hap, hal⟩, _⟩ := hy'
  simp only [tRet, tAndV, tOrV, tNotV, tCB, tCons, tNil, tC, tVar, tChain, rI0, tIfS, tTest, tOp, tUn, rU, rI, tPar3, tBM, tBM0, tM1, gSub, tXm, tCon, tProp, tMethR, rEq, rNe, rIxT, rIxL, decide_true, decide_false, tAnd, tOr, tNot, tB, tSeq, tAsg, gName, tDrop, tNext, tTup, tLst, tIf, tDf, tFld, tMf0, tPart, tSl, tNoPart, tPar, gTup, gLst, gCons, gNil, L2.start, List.map_cons, List.map_nil, List.length_cons, List.length_nil, Nat.zero_add, Nat.sub_self, Nat.reduceAdd, Nat.reduceSub, List.replicate_zero, List.replicate_succ, List.append_nil, List.nil_append, List.cons_append, List.getElem?_cons_zero, List.getElem?_cons_succ, List.set_cons_zero, List.set_cons_succ, Option.some.injEq, exists_and_left, exists_eq_left', exists_eq_left, V.int.injEq, V.bl.injEq, V.str.injEq, V.ref.injEq, List.cons.injEq, and_true, true_and, if_true, if_false, Bool.false_eq_true, reduceCtorEq, Bool.not_true, Bool.not_false, cxOf]
  rcases hv with ⟨rfl, hl⟩ | ⟨i, rfl, hi⟩
  · obtain ⟨pv, hpv, hpg⟩ := hal.last hl
    rw [if_pos (by simp)]
    exact ⟨_, _, _, hyi, yc.cls, yc.np, _, rfl, ap, rfl, _, SqT.of hap, _, hpv, q _ hpg⟩
  · obtain ⟨pv, hpv, hpg⟩ := hal.at_ hi
    rw [if_neg (by simp)]
    have il := (List.getElem?_eq_some_iff.mp hi).1
    refine ⟨_, _, hyi, y, wd, gs, rfl, hy, .int i, 0, _, rfl, .int _, ?_⟩
    rw [inR_true (by omega) (by omega)]
    refine ⟨true, rfl, ?_⟩
    rw [if_neg (by simp)]
    refine ⟨_, _, _, hyi, yc.cls, yc.np, _, rfl, ap, rfl, _, _, rfl, SqT.of hap, _, atI_nat hpv, q _ hpg⟩
end
end Yk
set_option Elab.async false
set_option linter.all false
set_option maxRecDepth 100000
set_option maxHeartbeats 4000000
/-! yards: each_version -/
namespace Yk
open PySem PySem.Spec PyProof.Rows L2 GenW
def VersAt (H : Hp) : Nat → List V → List Pg → Prop
  | _, [], [] => True
  | k, v :: vs, g :: gs => (∃ a, v = .ref a ∧ H a = some (.tup [.int (k : Nat), .bl g.fb])) ∧ VersAt H (k + 1) vs gs
  | _, _, _ => False
theorem VersAt.st {M : List Addr} {H H' : Hp} (s : St' M H H') : ∀ {k : Nat} {vs : List V} {gs : List Pg}, VersAt H k vs gs → VersAt H' k vs gs
  | _, [], [], _ => trivial
  | _, v :: vs, g :: gs, h => by
    obtain ⟨⟨a, e, ha⟩, h2⟩ := h
    exact ⟨⟨a, e, s.tp _ _ ha⟩, VersAt.st s h2⟩
theorem VersAt.snoc {H : Hp} {g : Pg} {a : Addr} : ∀ {k : Nat} {vs : List V} {gs : List Pg}, VersAt H k vs gs → H a = some (.tup [.int ((k + gs.length : Nat) : Int), .bl g.fb]) → VersAt H k (vs ++ [.ref a]) (gs ++ [g])
  | k, [], [], _, ha => ⟨⟨a, rfl, ha⟩, trivial⟩
  | k, v :: vs, g' :: gs, h, ha => ⟨h.1, VersAt.snoc h.2 (by rw [ha, List.length_cons, show k + (gs.length + 1) = k + 1 + gs.length by omega])⟩
theorem VersAt.len {H : Hp} : ∀ {k : Nat} {vs : List V} {gs : List Pg}, VersAt H k vs gs → vs.length = gs.length
  | _, [], [], _ => rfl
  | _, v :: vs, g :: gs, h => by simp [VersAt.len h.2]
def dVers : Nat → List Pg → List PyData
  | _, [] => []
  | k, g :: gs => .tuple [.int (k : Nat), .bool g.fb] :: dVers (k + 1) gs
theorem pl_vers : ∀ (k : Nat) (gs : List Pg), ∀ d ∈ dVers k gs, Pl 2 d
  | _, [], d, h => by simp [dVers] at h
  | k, g :: gs, d, h => by
    simp only [dVers, List.mem_cons] at h
    rcases h with rfl | h
    · refine Pl.tup fun d hd => ?_
      simp at hd
      rcases hd with rfl | rfl
      · exact .int _
      · exact .bl _
    · exact pl_vers (k + 1) gs d h
theorem eqv_vers : ∀ (k : Nat) (gs : List Pg), PyData.eqvAll (dVers k gs) (dVers k gs) = true
  | _, [] => by simp [dVers, PyData.eqvAll]
  | k, g :: gs => by simp [dVers, PyData.eqvAll, PyData.eqv, eqv_vers (k + 1) gs]
theorem dp_vers {K : KF} {H : Hp} : ∀ {k : Nat} {vs : List V} {gs : List Pg}, VersAt H k vs gs → DpAll K H vs (dVers k gs)
  | _, [], [], _ => .nil
  | k, v :: vs, g :: gs, h => by
    obtain ⟨⟨a, rfl, ha⟩, h2⟩ := h
    exact .cons (.tup (SqT.of ha) (.cons (.int _) (.cons (.bl _) .nil))) (dp_vers h2)
section
variable {w : World} {K : KF} {mg : Str → Option Value} {base : Heap} {C : Addr} {so : Str}
theorem gsc_each : GScope ["self", "version", "pair", "box"] ["self"] (defScope s_Yard_each_version) := ⟨rfl, rfl, rfl, by decide +kernel, rfl, by decide +kernel, by decide +kernel⟩
def spVer (C : Addr) (so : Str) : SpG := fun vs H cont _ => ∃ (y : Addr) (wd : Str) (gs : List Pg), vs = [.ref y] ∧ YAt H y C so gs wd ∧ gs.length ≤ 900 ∧ (∀ g ∈ gs, g.Ok 100000) ∧ ∀ out H', St' [] H H' → VersAt H' 0 out gs → cont out H'
theorem fn_each_version (T : Tx w K mg) (yc : YC K C so) (hF : ∃ fd, FunD K "each_version" "Yard.each_version" (defArgs s_Yard_each_version) (defBody s_Yard_each_version) (defScope s_Yard_each_version) [] [] (He.ma K C "each_version") fd)
    (D_is_filled : Df R.prog w K mg base CX0 5 "is_filled" spFilled) :
    ∃ fd, GFn R.prog w K mg base 6 (He.ma K C "each_version") fd ["self"] (spVer C so) ∧ Binds K fd ["self"] [] := by
  obtain ⟨fd, F⟩ := hF
  have cY := yc.cls
  have bN : Binds K fd ["self"] [] := F.bindsN (fun _ _ _ _ _ _ us hl => match us, hl with | [_], _ => rfl)
  obtain ⟨oc, od, dV, kV, doc, pm, an, cdv, ct, osl, rfl, lk, hcd, _, _⟩ := F.ex
  refine ⟨_, gfn_of lk hcd gsc_each (fun vs H Q E h => by obtain ⟨y, wd, gs, rfl, _⟩ := h; rfl) (fun A outer s H vs Q E pn hr h => ?_), bN⟩
  have nd := gsc_each.nd
  refine ⟨_, gss_cons (gs_for owns_gcx rfl (pi_enumT T.n_enumerate (pa_cons (pe_fld (pv 0) rfl) pa_nil))
    (pg_tup rfl (pgs_cons (pg_name (i := 1) nd rfl (Or.inl rfl)) (pgs_cons (pg_tup rfl (pgs_cons (pg_name (i := 2) nd rfl (Or.inl rfl)) (pgs_cons (pg_name (i := 3) nd rfl (Or.inl rfl)) pgs_nil))) pgs_nil)))
    (gss_cons (gs_yield (pe_tup (pa_cons (pv 1) (pa_cons (pe_df D_is_filled hr (by decide) pass0 (pa_cons (pv 2) (pa_cons (pv 3) pa_nil))) pa_nil)))) gss_nil)) gss_nil, ?_⟩
  obtain ⟨y, wd, gs, rfl, hy, ln, ok, q⟩ := h
  obtain ⟨dx, ap, al, g', hyi, ⟨vs, hap, hal⟩, _⟩ := id hy
  simp only [tGThen, tGFor, iEnumT, tGYield, tG0, tRet, tAndV, tOrV, tNotV, tCB, tCons, tNil, tC, tVar, tChain, rI0, tIfS, tTest, tOp, tUn, rU, rI, tPar3, tBM, tBM0, tM1, gSub, tXm, tCon, tProp, tMethR, rEq, rNe, rIxT, rIxL, decide_true, decide_false, tAnd, tOr, tNot, tB, tSeq, tAsg, gName, tDrop, tNext, tTup, tLst, tIf, tDf, tFld, tMf0, tPart, tSl, tNoPart, tPar, gTup, gLst, gCons, gNil, L2.start, List.map_cons, List.map_nil, List.length_cons, List.length_nil, Nat.zero_add, Nat.sub_self, Nat.reduceAdd, Nat.reduceSub, List.replicate_zero, List.replicate_succ, List.append_nil, List.nil_append, List.cons_append, List.getElem?_cons_zero, List.getElem?_cons_succ, List.set_cons_zero, List.set_cons_succ, Option.some.injEq, exists_and_left, exists_eq_left', exists_eq_left, V.int.injEq, V.bl.injEq, V.str.injEq, V.ref.injEq, List.cons.injEq, and_true, true_and, if_true, if_false, Bool.false_eq_true, reduceCtorEq, Bool.not_true, Bool.not_false, cxOf]
  refine ⟨_, _, _, hyi, yc.cls, yc.np, _, rfl, ap, rfl, vs, SqT.of hap, fun i m ys σ H' => m = gs.length - i ∧ i ≤ gs.length ∧ (∃ u v w, σ = [some (.ref y), u, v, w]) ∧ VersAt H' 0 ys (gs.take i) ∧ St' [] H H', ⟨_, rfl, Nat.zero_le _, ⟨_, _, _, rfl⟩, trivial, .refl⟩, ?_⟩
  rintro i m ys σ H' ⟨rfl, hi, ⟨u, v, w', rfl⟩, hv, st⟩
  have hl := hal.len
  have hap' := st.tp _ _ hap
  by_cases c : i < gs.length
  · have c' : i < vs.length := by omega
    obtain ⟨pv', hpv, hpg⟩ := hal.at_ (i := i) (g := gs[i]) (List.getElem?_eq_getElem c)
    refine .inr ⟨⟨vs, _, SqT.of hap', hpv⟩, fun ys' σ' H2 => i + 1 ≤ gs.length ∧ (∃ u v w, σ' = [some (.ref y), u, v, w]) ∧ VersAt H2 0 ys' (gs.take (i + 1)) ∧ St' [] H H2, fun ys' σ' H2 h => ⟨_, by omega, rfl, h⟩, ?_⟩
    rintro x H2 ⟨T', x', rfl, nT, rfl, hx⟩
    have ex := hx vs (SqT.of hap')
    rw [hpv] at ex
    cases ex
    have s1 := (St'.refl (M := []) (H := H')).new (p := T') (o := .tup [.int (i : Nat), pv']) nT
    have st1 := st.trans s1
    obtain ⟨a, pp, b, rfl, h1, h2, h3⟩ := hpg.st st1
    simp only [tRet, tAndV, tOrV, tNotV, tCB, tCons, tNil, tC, tVar, tChain, rI0, tIfS, tTest, tOp, tUn, rU, rI, tPar3, tBM, tBM0, tM1, gSub, tXm, tCon, tProp, tMethR, rEq, rNe, rIxT, rIxL, decide_true, decide_false, tAnd, tOr, tNot, tB, tSeq, tAsg, gName, tDrop, tNext, tTup, tLst, tIf, tDf, tFld, tMf0, tPart, tSl, tNoPart, tPar, gTup, gLst, gCons, gNil, L2.start, List.map_cons, List.map_nil, List.length_cons, List.length_nil, Nat.zero_add, Nat.sub_self, Nat.reduceAdd, Nat.reduceSub, List.replicate_zero, List.replicate_succ, List.append_nil, List.nil_append, List.cons_append, List.getElem?_cons_zero, List.getElem?_cons_succ, List.set_cons_zero, List.set_cons_succ, Option.some.injEq, exists_and_left, exists_eq_left', exists_eq_left, V.int.injEq, V.bl.injEq, V.str.injEq, V.ref.injEq, List.cons.injEq, and_true, true_and, if_true, if_false, Bool.false_eq_true, reduceCtorEq, Bool.not_true, Bool.not_false, cxOf]
    refine ⟨_, SqT.of upd_same, rfl, _, _, rfl, ?_⟩
    have vl := hv.len
    rw [List.length_take, Nat.min_eq_left hi] at vl
    refine ⟨_, _, rfl, a, rfl, _, SqT.of h1, rfl, _, _, rfl, _, _, rfl, rfl, rfl, Nat.lt_of_le_of_lt (m := 900) (by omega) (by decide), pp, b, _, _, _, rfl, h2, h3, (ok _ (List.getElem_mem c)).o3, fun H3 s3 => ⟨by decide, fun p np => ⟨c, ⟨_, rfl⟩, ?_, ?_⟩⟩⟩
    · have s4 := (St'.refl (M := []) (H := H3)).new (p := p) (o := .tup [.int (i : Nat), .bl gs[i].fb]) np
      rw [List.take_add_one, List.getElem?_eq_getElem c]
      refine VersAt.snoc (VersAt.st ((s1.trans s3).trans s4) hv) ?_
      rw [List.length_take, Nat.min_eq_left hi, Nat.zero_add]
      exact upd_same
    · exact (st1.trans s3).new np
  · have e : i = gs.length := by omega
    subst e
    rw [List.take_length] at hv
    exact .inl ⟨⟨vs, SqT.of hap', hl⟩, q _ _ st hv⟩
end
end Yk
set_option Elab.async false
set_option linter.all false
set_option maxRecDepth 100000
set_option maxHeartbeats 4000000
/-! yards: __init__, fresh, copy, == -/
namespace Yk
open PySem PySem.Spec PyProof.Rows L2
/-- a class that is called by its name -/
def Mky (P : Program) (w : World) (K : KF) (mg : Str → Option Value) (base : Heap) (k : Nat) (x : Str) (C : Addr) (sp : Sp) : Prop := ∃ f fd ps, Mk K C f ∧ FnOk P w K mg base CX0 k f fd ps sp ∧ mg x = some (.ref C) ∧ Binds K fd ps []
theorem pe_mky {X : Cx} {k j : Nat} {C : Addr} {x : Str} {sp : Sp} {p pos : Pos} {e : Expr} {es : List Expr} {t : TA} (c : Mky X.prog X.w X.K X.mg X.base k x C sp) (hr : Room j X.A) (hk : k + 1 ≤ j) (ha : PA X (e :: es) t) (hg : Gl X x := by rfl)
    (hdb : (x == ("__debug__" : Str)) = false := by decide) (he : starEach (e :: es) X.env = (false, eval e X.env) :: starEach es X.env := by rfl) (hpl : (backTo pos (starEach es X.env)).any (·.1) = false := by rfl) :
    PE X (.Call (.Name x p) (e :: es) [] pos) (tMake C sp [] E0 t) := by
  obtain ⟨f, fd, ps, M, F, hm, b⟩ := c
  exact pe_make M F (hr.mono hk) hg hm b .nil pass0 ha hdb he hpl
theorem St'.born {H H1 H2 : Hp} {x : Addr} (a : St' [] H H1) (hx : H x = none) (b : St' [x] H1 H2) : St' [] H H2 := by
  refine ⟨fun c o e n => ?_, (a.w0.trans b).tp, (a.w0.trans b).lv, (a.w0.trans b).ll, (a.w0.trans b).dd⟩
  exact b.kp c o (a.kp c o e n) (by simp; intro z; rw [z, hx] at e; cases e)
section
variable {w : World} {K : KF} {mg : Str → Option Value} {base : Heap} {C : Addr} {so : Str}
abbrev Fy (K : KF) : Addr := He.ga K "FullYard"
theorem sc_Yard_init : FnScope ["self", "pair", "box", "error"] ["self", "pair", "box"] (defScope s_Yard_init) := ⟨rfl, rfl, rfl, by decide +kernel, rfl, by decide +kernel, by decide +kernel⟩
def spInit (C : Addr) (so : Str) : Sp := fun vs H Q _ => ∃ (y p b dx : Addr) (g : Pg), vs = [.ref y, .ref p, .ref b] ∧ H y = some (.ins C dx []) ∧ PairAt H p g.p0 g.p1 ∧ H b = some (.tup (ivs g.bx)) ∧ g.Ok big ∧ ∀ H', St' [y] H H' → YAt H' y C so [g] "same" → Q .non H'
theorem fn_init (T : Tx w K mg) (yc : YC K C so) (D_pair_error : Df R.prog w K mg base CX0 4 "pair_error" spPairOk) (D_box_error : Df R.prog w K mg base CX0 4 "box_error" spBoxOk) (D_stand : Mf R.prog w K mg base CX0 1 C "stand" (spStand C so)) :
    ∃ fd, FunD K "__init__" "Yard.__init__" (defArgs s_Yard_init) (defBody s_Yard_init) (defScope s_Yard_init) [] [] (He.ma K (Y K) "__init__") fd ∧ FnOk R.prog w K mg base CX0 5 (He.ma K (Y K) "__init__") fd ["self", "pair", "box"] (spInit C so) := by
  obtain ⟨fd, F⟩ := T.d_Yard_init
  have cY := yc.cls
  refine ⟨fd, F, F.ok sc_Yard_init (fun vs H Q E h => by obtain ⟨y, p, b, dx, g, rfl, _⟩ := h; rfl) fun cdv A outer s H vs Q E hr h => ?_⟩
  have nd := sc_Yard_init.nd
  refine ⟨_, (pss_cons (ps_set (i := 3) nd rfl (by first | exact Or.inl rfl | exact Or.inr rfl) (pe_df D_pair_error hr (by decide) pass0 (pa_cons (pv 1) pa_nil)))
          (pss_cons (ps_if (pt_cmpR op_notN (pv 3) pe_non (nomark _)) (pss_one ps_never) pss_nil)
          (pss_cons (ps_set (i := 3) nd rfl (by first | exact Or.inl rfl | exact Or.inr rfl) (pe_df D_box_error hr (by decide) pass0 (pa_cons (pv 1) (pa_cons (pv 2) pa_nil))))
          (pss_cons (ps_if (pt_cmpR op_notN (pv 3) pe_non (nomark _)) (pss_one ps_never) pss_nil)
          (pss_cons (ps_asg (pe_tup (pa_cons (pe_gk T.c_SAME) (pa_cons pe_bl pa_nil))) (pg_tup rfl (pgs_cons (pg_attr (pv 0)) (pgs_cons (pg_attr (pv 0)) pgs_nil))))
          (pss_one (ps_expr (pe_mf (pv 0) cY D_stand hr (by decide) pass0 (pa_cons (pe_tup (pa_cons (pe_tup (pa_cons (pv 1) (pa_cons (pv 2) pa_nil))) pa_nil)) pa_nil))))))))), ?_⟩
  obtain ⟨y, p, b, dx, g, rfl, hy, hp, hb, ok, q⟩ := h
  have okn := ok.o3
  simp only [tRet, tAndV, tOrV, tNotV, tCB, tCons, tNil, tC, tVar, tChain, rI0, tIfS, tTest, tOp, tUn, rU, rI, tPar3, tBM, tBM0, tM1, gSub, tXm, tCon, tProp, tMethR, rEq, rNe, rIxT, rIxL, decide_true, decide_false, tAnd, tOr, tNot, tB, tSeq, tAsg, gName, tDrop, tNext, tTup, tLst, tIf, tDf, tFld, tMf0, tPart, tSl, tNoPart, tPar, gTup, gLst, gCons, gNil, L2.start, List.map_cons, List.map_nil, List.length_cons, List.length_nil, Nat.zero_add, Nat.sub_self, Nat.reduceAdd, Nat.reduceSub, List.replicate_zero, List.replicate_succ, List.append_nil, List.nil_append, List.cons_append, List.getElem?_cons_zero, List.getElem?_cons_succ, List.set_cons_zero, List.set_cons_succ, Option.some.injEq, exists_and_left, exists_eq_left', exists_eq_left, V.int.injEq, V.bl.injEq, V.str.injEq, V.ref.injEq, List.cons.injEq, and_true, true_and, if_true, if_false, Bool.false_eq_true, reduceCtorEq, Bool.not_true, Bool.not_false, cxOf]
  refine ⟨p, g.p0, g.p1, rfl, hp, ok.o3.s0, ok.o3.s1, ok.o3.l1, fun H1 s1 => ?_⟩
  simp only [tRet, tAndV, tOrV, tNotV, tCB, tCons, tNil, tC, tVar, tChain, rI0, tIfS, tTest, tOp, tUn, rU, rI, tPar3, tBM, tBM0, tM1, gSub, tXm, tCon, tProp, tMethR, rEq, rNe, rIxT, rIxL, decide_true, decide_false, tAnd, tOr, tNot, tB, tSeq, tAsg, gName, tDrop, tNext, tTup, tLst, tIf, tDf, tFld, tMf0, tPart, tSl, tNoPart, tPar, gTup, gLst, gCons, gNil, L2.start, List.map_cons, List.map_nil, List.length_cons, List.length_nil, Nat.zero_add, Nat.sub_self, Nat.reduceAdd, Nat.reduceSub, List.replicate_zero, List.replicate_succ, List.append_nil, List.nil_append, List.cons_append, List.getElem?_cons_zero, List.getElem?_cons_succ, List.set_cons_zero, List.set_cons_succ, Option.some.injEq, exists_and_left, exists_eq_left', exists_eq_left, V.int.injEq, V.bl.injEq, V.str.injEq, V.ref.injEq, List.cons.injEq, and_true, true_and, if_true, if_false, Bool.false_eq_true, reduceCtorEq, Bool.not_true, Bool.not_false, cxOf]
  refine ⟨p, b, g.p0, g.p1, g.bx, rfl, hp.st s1, s1.tp _ _ hb, ok.o3.sb, ok.o3.lb, fun H2 s2 => ?_⟩
  have st2 := s1.trans s2
  have hy2 := st2.kp _ _ hy (by simp)
  simp only [tRet, tAndV, tOrV, tNotV, tCB, tCons, tNil, tC, tVar, tChain, rI0, tIfS, tTest, tOp, tUn, rU, rI, tPar3, tBM, tBM0, tM1, gSub, tXm, tCon, tProp, tMethR, rEq, rNe, rIxT, rIxL, decide_true, decide_false, tAnd, tOr, tNot, tB, tSeq, tAsg, gName, tDrop, tNext, tTup, tLst, tIf, tDf, tFld, tMf0, tPart, tSl, tNoPart, tPar, gTup, gLst, gCons, gNil, L2.start, List.map_cons, List.map_nil, List.length_cons, List.length_nil, Nat.zero_add, Nat.sub_self, Nat.reduceAdd, Nat.reduceSub, List.replicate_zero, List.replicate_succ, List.append_nil, List.nil_append, List.cons_append, List.getElem?_cons_zero, List.getElem?_cons_succ, List.set_cons_zero, List.set_cons_succ, Option.some.injEq, exists_and_left, exists_eq_left', exists_eq_left, V.int.injEq, V.bl.injEq, V.str.injEq, V.ref.injEq, List.cons.injEq, and_true, true_and, if_true, if_false, Bool.false_eq_true, reduceCtorEq, Bool.not_true, Bool.not_false, cxOf]
  refine ⟨by decide, fun p3 n3 => ⟨_, SqT.of upd_same, rfl, _, _, rfl, ?_⟩⟩
  have s3 := (St'.refl (M := []) (H := H2)).new (p := p3) (o := .tup [.str "same", .bl false]) n3
  have st3 := st2.trans s3
  have hy3 := st3.kp _ _ hy (by simp)
  generalize hH3 : upd H2 p3 (.tup [.str "same", .bl false]) = H3 at *
  refine ⟨_, rfl, y, C, dx, [], rfl, hy3, yc.cls, yc.nw, by simp, _, _, rfl, _, rfl, y, C, dx, _, rfl, upd_same, yc.cls, yc.nb, by simp [putF], rfl, ?_⟩
  have e1 : putF "is_busy" (.bl false) (putF "word" (.str "same") []) = yf0 "same" := rfl
  rw [e1]
  have s4 : St' [y] H3 (upd H3 y (.ins C dx (putF "word" (.str "same") []))) := St'.refl.putI (by simp) hy3
  have s5 : St' [y] H3 (upd (upd H3 y (.ins C dx (putF "word" (.str "same") []))) y (.ins C dx (yf0 "same"))) := s4.putI (by simp) upd_same
  have st5 := st3.w0.trans s5
  have hy5 : upd (upd H3 y (.ins C dx (putF "word" (.str "same") []))) y (.ins C dx (yf0 "same")) y = some (.ins C dx (yf0 "same")) := upd_same
  generalize hH5 : upd (upd H3 y (.ins C dx (putF "word" (.str "same") []))) y (.ins C dx (yf0 "same")) = H5 at *
  simp only [tRet, tAndV, tOrV, tNotV, tCB, tCons, tNil, tC, tVar, tChain, rI0, tIfS, tTest, tOp, tUn, rU, rI, tPar3, tBM, tBM0, tM1, gSub, tXm, tCon, tProp, tMethR, rEq, rNe, rIxT, rIxL, decide_true, decide_false, tAnd, tOr, tNot, tB, tSeq, tAsg, gName, tDrop, tNext, tTup, tLst, tIf, tDf, tFld, tMf0, tPart, tSl, tNoPart, tPar, gTup, gLst, gCons, gNil, L2.start, List.map_cons, List.map_nil, List.length_cons, List.length_nil, Nat.zero_add, Nat.sub_self, Nat.reduceAdd, Nat.reduceSub, List.replicate_zero, List.replicate_succ, List.append_nil, List.nil_append, List.cons_append, List.getElem?_cons_zero, List.getElem?_cons_succ, List.set_cons_zero, List.set_cons_succ, Option.some.injEq, exists_and_left, exists_eq_left', exists_eq_left, V.int.injEq, V.bl.injEq, V.str.injEq, V.ref.injEq, List.cons.injEq, and_true, true_and, if_true, if_false, Bool.false_eq_true, reduceCtorEq, Bool.not_true, Bool.not_false, cxOf]
  refine ⟨_, _, hy5, rfl, by decide, fun p6 n6 => ⟨by decide, fun p7 n7 => ?_⟩⟩
  have s6 := (St'.refl (M := []) (H := H5)).new (p := p6) (o := .tup [.ref p, .ref b]) n6
  have s7 := (St'.refl (M := []) (H := upd H5 p6 (.tup [.ref p, .ref b]))).new (p := p7) (o := .tup [.ref p6]) n7
  have s67 := s6.trans s7
  have st7 := st5.trans s67.w0
  have hy7 := s67.kp _ _ hy5 (by simp)
  refine ⟨y, p7, dx, _, "same", [g], g, rfl, hy7, .inl rfl, ⟨[.ref p6], upd_same, ⟨p6, p, b, rfl, s7.tp _ _ upd_same, hp.st st7, st7.tp _ _ hb⟩, trivial⟩, rfl, fun H8 s8 hy8 => ?_⟩
  exact q H8 (st7.trans s8) hy8
theorem sc_Yard_fresh : FnScope ["self"] ["self"] (defScope s_Yard_fresh) := ⟨rfl, rfl, rfl, by decide +kernel, rfl, by decide +kernel, by decide +kernel⟩
def spFresh (C : Addr) (so : Str) (fl : Bool) : Sp := fun vs H Q _ => ∃ (y : Addr) (wd : Str) (gs : List Pg) (g : Pg), vs = [.ref y] ∧ YAt H y C so gs wd ∧ gs.getLast? = some g ∧ g.Ok 100000 ∧ (fl = true → g.fb = true) ∧ ∀ z H', St' [] H H' → H z = none → YAt H' z C so [g] "same" → Q (.ref z) H'
theorem mak_Y (T : Tx w K mg) (hF : ∃ fd, FunD K "__init__" "Yard.__init__" (defArgs s_Yard_init) (defBody s_Yard_init) (defScope s_Yard_init) [] [] (He.ma K (Y K) "__init__") fd ∧ FnOk R.prog w K mg base CX0 5 (He.ma K (Y K) "__init__") fd ["self", "pair", "box"] (spInit (Y K) "yard")) : Mky R.prog w K mg base 5 "Yard" (Y K) (spInit (Y K) "yard") := by
  obtain ⟨fd, F, O⟩ := hF
  exact ⟨_, fd, _, T.mk_Y, O, T.g_Yard, F.bindsN (fun _ _ _ _ _ _ us hl => match us, hl with | [_, _, _], _ => rfl)⟩
theorem ok_fresh (T : Tx w K mg) (K_Yard : Mky R.prog w K mg base 5 "Yard" (Y K) (spInit (Y K) "yard")) (D_pair : Pf R.prog w K mg base 1 (Y K) "pair" (spPair (Y K) "yard")) (D_box : Pf R.prog w K mg base 1 (Y K) "box" (spBox (Y K) "yard")) : Mf R.prog w K mg base CX0 7 (Y K) "fresh" (spFresh (Y K) "yard" false) := by
  have hF := T.d_Yard_fresh
  have me := T.m_Y_fresh
  have cY := T.cls_Y
  refine mf_of hF me sc_Yard_fresh (fun _ _ _ _ _ _ us hl => match us, hl with | [_], _ => rfl)
    (fun vs H Q E h => by repeat (first | (obtain ⟨rfl, _⟩ := h; rfl) | (obtain ⟨_, h⟩ := h))) (fun cdv A outer s H vs Q E hr h => ?_)
  have nd := sc_Yard_fresh.nd
  refine ⟨_, (pss_one (ps_ret (pe_mky K_Yard hr (by decide) (pa_cons (pe_pf (pv 0) cY D_pair hr (by decide)) (pa_cons (pe_pf (pv 0) cY D_box hr (by decide)) pa_nil))))), ?_⟩
  obtain ⟨y, wd, gs, g, rfl, hy, hl, ok, _, q⟩ := h
  obtain ⟨dx, ap, al, g', hyi, _⟩ := id hy
  refine ⟨_, rfl, y, dx, _, rfl, hyi, y, wd, gs, g, rfl, hy, hl, fun p hp => ⟨_, rfl, y, dx, _, rfl, hyi, y, wd, gs, g, rfl, hy, hl, fun b hb => fun x dx2 nx nd ne => ?_⟩⟩
  have s1 := (St'.refl (M := []) (H := H)).new (p := dx2) (o := .own x) nd
  have s2 := s1.own (p := x) (o := .ins (Y K) dx2 []) nx
  refine ⟨x, p, b, dx2, g, rfl, upd_same, hp.st s2, s2.tp _ _ hb, ok.mono (by decide), fun H3 s3 hz => ⟨rfl, ?_⟩⟩
  exact q x H3 (s2.born nx s3) nx hz
theorem sc_Yard_copy : FnScope ["self", "found"] ["self"] (defScope s_Yard_copy) := ⟨rfl, rfl, rfl, by decide +kernel, rfl, by decide +kernel, by decide +kernel⟩
def spCopy (C : Addr) (so : Str) (fl : Bool) : Sp := fun vs H Q _ => ∃ (y : Addr) (wd : Str) (gs : List Pg) (g : Pg), vs = [.ref y] ∧ YAt H y C so gs wd ∧ gs.getLast? = some g ∧ g.Ok 100000 ∧ (fl = true → g.fb = true) ∧ ∀ z H', St' [] H H' → H z = none → YAt H' z C so gs wd → Q (.ref z) H'
theorem ok_copy {fl : Bool} (yc : YC K C so) (hF : ∃ fd, FunD K "copy" "Yard.copy" (defArgs s_Yard_copy) (defBody s_Yard_copy) (defScope s_Yard_copy) [] [] (He.ma K C "copy") fd) (me : Meth K C "copy" (He.ma K C "copy")) (D_fresh : Mf R.prog w K mg base CX0 8 C "fresh" (spFresh C so fl)) (D_stand : Mf R.prog w K mg base CX0 1 C "stand" (spStand C so)) : Mf R.prog w K mg base CX0 9 C "copy" (spCopy C so fl) := by
  have cY := yc.cls
  refine mf_of hF me sc_Yard_copy (fun _ _ _ _ _ _ us hl => match us, hl with | [_], _ => rfl)
    (fun vs H Q E h => by repeat (first | (obtain ⟨rfl, _⟩ := h; rfl) | (obtain ⟨_, h⟩ := h))) (fun cdv A outer s H vs Q E hr h => ?_)
  have nd := sc_Yard_copy.nd
  refine ⟨_, (pss_cons (ps_set (i := 1) nd rfl (by first | exact Or.inl rfl | exact Or.inr rfl) (pe_mf0 (pv 0) cY D_fresh hr (by decide) pass0))
          (pss_cons (ps_expr (pe_mf (pv 1) cY D_stand hr (by decide) pass0 (pa_cons (pe_fld (pv 0) rfl) pa_nil)))
          (pss_cons (ps_asg (pe_fld (pv 0) rfl) (pg_attr (pv 1)))
          (pss_one (ps_ret (pv 1)))))), ?_⟩
  obtain ⟨y, wd, gs, g, rfl, hy, hl, ok, hf, q⟩ := h
  obtain ⟨dx, ap, al, g', hyi, hpp, _⟩ := id hy
  simp only [tRet, tAndV, tOrV, tNotV, tCB, tCons, tNil, tC, tVar, tChain, rI0, tIfS, tTest, tOp, tUn, rU, rI, tPar3, tBM, tBM0, tM1, gSub, tXm, tCon, tProp, tMethR, rEq, rNe, rIxT, rIxL, decide_true, decide_false, tAnd, tOr, tNot, tB, tSeq, tAsg, gName, tDrop, tNext, tTup, tLst, tIf, tDf, tFld, tMf0, tPart, tSl, tNoPart, tPar, gTup, gLst, gCons, gNil, L2.start, List.map_cons, List.map_nil, List.length_cons, List.length_nil, Nat.zero_add, Nat.sub_self, Nat.reduceAdd, Nat.reduceSub, List.replicate_zero, List.replicate_succ, List.append_nil, List.nil_append, List.cons_append, List.getElem?_cons_zero, List.getElem?_cons_succ, List.set_cons_zero, List.set_cons_succ, Option.some.injEq, exists_and_left, exists_eq_left', exists_eq_left, V.int.injEq, V.bl.injEq, V.str.injEq, V.ref.injEq, List.cons.injEq, and_true, true_and, if_true, if_false, Bool.false_eq_true, reduceCtorEq, Bool.not_true, Bool.not_false, cxOf]
  refine ⟨_, _, hyi, rfl, y, wd, gs, g, rfl, hy, hl, ok, hf, fun z H1 s1 nz hz => ?_⟩
  obtain ⟨dz, az, lz, gz, hzi, _⟩ := id hz
  have hy1 := s1.kp _ _ hyi (by simp)
  obtain ⟨ap2, hap2⟩ : ∃ p2, PagesAt H1 p2 gs ∧ p2 = ap := ⟨ap, hpp.st s1, rfl⟩
  refine ⟨z, rfl, _, _, hzi, rfl, _, _, _, hy1, yc.cls, yc.np, _, rfl, z, ap, dz, _, "same", gs, g, rfl, hzi, .inr ⟨_, _, rfl⟩, hpp.st s1, hl, fun H2 s2 hz2 => ?_⟩
  have st2 := s1.born nz s2
  have hy2 := st2.kp _ _ hyi (by simp)
  obtain ⟨dz2, az2, lz2, gz2, hzi2, hzp2, hzl2, hzk2⟩ := id hz2
  refine ⟨_, _, _, hy2, yc.cls, yc.nw, _, rfl, ?_⟩
  refine ⟨_, rfl, z, C, dz2, _, rfl, hzi2, yc.cls, yc.nw, by simp [yf], ?_⟩
  have e1 : putF "word" (.str wd) (yf "same" az2 lz2) = yf wd az2 lz2 := rfl
  rw [e1]
  have s3 : St' [z] H2 (upd H2 z (.ins C dz2 (yf wd az2 lz2))) := St'.refl.putI (by simp) hzi2
  have st3 := st2.born nz s3
  refine ⟨_, rfl, q z _ st3 nz ⟨dz2, az2, lz2, gz2, upd_same, hzp2.st s3, hzl2, hzk2.st s3⟩⟩
end
end Yk
set_option Elab.async false
set_option linter.all false
set_option maxRecDepth 100000
set_option maxHeartbeats 4000000
/-! yards: ==; FullYard -/
namespace Yk
open PySem PySem.Spec PyProof.Rows L2
abbrev dPg (g : Pg) : PyData := .tuple [.tuple [dInts g.p0, dInts g.p1], dInts g.bx]
def pgEq (g h : Pg) : Bool := PyData.eqv (dPg g) (dPg h)
theorem pl_pg (g : Pg) : Pl 3 (dPg g) := by
  refine Pl.tup fun d hd => ?_
  simp at hd
  rcases hd with rfl | rfl
  · refine Pl.tup fun d hd => ?_
    simp at hd
    rcases hd with rfl | rfl <;> exact Pl.tup (n := 0) (pl_ints _)
  · exact (Pl.tup (n := 0) (pl_ints _)).mono (by decide)
theorem dp_pg {K : KF} {H : Hp} {v : V} {g : Pg} (h : PgAt H v g) : Dp K H v (dPg g) := by
  obtain ⟨a, ap, ab, rfl, h1, ⟨a0, a1, h2, h3, h4⟩, h5⟩ := h
  exact .tup (SqT.of h1) (.cons (.tup (SqT.of h2) (.cons (dp_ints h3) (.cons (dp_ints h4) .nil))) (.cons (dp_ints h5) .nil))
theorem eqv_ints : ∀ xs : List Int, PyData.eqvAll (xs.map PyData.int) (xs.map PyData.int) = true
  | [] => by simp [PyData.eqvAll]
  | x :: xs => by simp [PyData.eqvAll, PyData.eqv, eqv_ints xs]
theorem pgEq_refl (g : Pg) : pgEq g g = true := by simp [pgEq, PyData.eqv, PyData.eqvAll, eqv_ints]
/-- what may stand at the other side of == -/
inductive OthV (K : KF) (H : Hp) : V → Option (Str × Pg) → Prop where
  | yd {z C : Addr} {so wd : Str} {gs : List Pg} {g : Pg} (h : YAt H z C so gs wd) (hl : gs.getLast? = some g) (c : (C = Y K ∧ so = "yard") ∨ (C = Fy K ∧ so = "full")) : OthV K H (.ref z) (some (so, g))
  | ty {v : V} (h : TyV H v) (nd : ∀ a xs, v = .ref a → H a ≠ some (.dK xs)) (nb : ∀ b, v ≠ .bl b) : OthV K H v none
section
variable {w : World} {K : KF} {mg : Str → Option Value} {base : Heap} {C : Addr} {so : Str}
def eqO (so : Str) (g : Pg) (o : Option (Str × Pg)) : Bool := match o with
  | some (s2, g2) => decide (so = s2) && pgEq g g2
  | none => false
theorem sc_Yard_eq : FnScope ["self", "other"] ["self", "other"] (defScope s_Yard_eq) := ⟨rfl, rfl, rfl, by decide +kernel, rfl, by decide +kernel, by decide +kernel⟩
def spEq (K : KF) (C : Addr) (so : Str) : Sp := fun vs H Q _ => ∃ (y : Addr) (v : V) (wd : Str) (gs : List Pg) (g : Pg) (o : Option (Str × Pg)), vs = [.ref y, v] ∧ YAt H y C so gs wd ∧ gs.getLast? = some g ∧ OthV K H v o ∧ Q (.bl (eqO so g o)) H
theorem ok_eq (T : Tx w K mg) (yc : YC K C so) (ss : PyData.strOk so = true) (hF : ∃ fd, FunD K "__eq__" "Yard.__eq__" (defArgs s_Yard_eq) (defBody s_Yard_eq) (defScope s_Yard_eq) [] [] (He.ma K C "__eq__") fd) (me : Meth K C "__eq__" (He.ma K C "__eq__")) : Mf R.prog w K mg base CX0 3 C "__eq__" (spEq K C so) := by
  have cY := yc.cls
  refine mf_of hF me sc_Yard_eq (fun _ _ _ _ _ _ us hl => match us, hl with | [_, _], _ => rfl)
    (fun vs H Q E h => by repeat (first | (obtain ⟨rfl, _⟩ := h; rfl) | (obtain ⟨_, h⟩ := h))) (fun cdv A outer s H vs Q E hr h => ?_)
  have nd := sc_Yard_eq.nd
  refine ⟨_, (pss_one (ps_ret (pe_and (pe_callB call_isi rfl T.n_isinstance (by decide +kernel) (pa_cons (pv 1) (pa_cons (pe_glob (v := .ref (He.ga _ "Yard")) rfl T.g_Yard rfl) pa_nil))) (pe_one (pe_cmpR (op_eqD hr.units) (pe_fld (pv 0) rfl) (pe_fld (pv 1) rfl) (nomark _)))))), ?_⟩
  obtain ⟨y, v, wd, gs, g, o, rfl, hy, hl, ho, q⟩ := h
  obtain ⟨dx, ap, al, g', hyi, hpp, hl', hk⟩ := id hy
  simp only [tRet, tAndV, tOrV, tNotV, tCB, tCons, tNil, tC, tVar, tChain, rI0, tIfS, tTest, tOp, tUn, rU, rI, tPar3, tBM, tBM0, tM1, gSub, tXm, tCon, tProp, tMethR, rEq, rNe, rIxT, rIxL, decide_true, decide_false, tAnd, tOr, tNot, tB, tSeq, tAsg, gName, tDrop, tNext, tTup, tLst, tIf, tDf, tFld, tMf0, tPart, tSl, tNoPart, tPar, gTup, gLst, gCons, gNil, L2.start, List.map_cons, List.map_nil, List.length_cons, List.length_nil, Nat.zero_add, Nat.sub_self, Nat.reduceAdd, Nat.reduceSub, List.replicate_zero, List.replicate_succ, List.append_nil, List.nil_append, List.cons_append, List.getElem?_cons_zero, List.getElem?_cons_succ, List.set_cons_zero, List.set_cons_succ, Option.some.injEq, exists_and_left, exists_eq_left', exists_eq_left, V.int.injEq, V.bl.injEq, V.str.injEq, V.ref.injEq, List.cons.injEq, and_true, true_and, if_true, if_false, Bool.false_eq_true, reduceCtorEq, Bool.not_true, Bool.not_false, cxOf]
  cases ho with
  | @ty _ h nd nb =>
    cases h with
    | bl b => exact absurd rfl (nb b)
    | dct e => exact absurd e (nd _ _ rfl)
    | non =>
      refine ⟨_, _, _, _, false, rfl, .own _, .base .non, T.kt_Y_NoneType, false, rfl, ?_⟩
      rw [if_neg (by simp)]
      exact q
    | int i =>
      refine ⟨_, _, _, _, false, rfl, .own _, .base (.int i), T.kt_Y_int, false, rfl, ?_⟩
      rw [if_neg (by simp)]
      exact q
    | str x =>
      refine ⟨_, _, _, _, false, rfl, .own _, .base (.str x), T.kt_Y_str, false, rfl, ?_⟩
      rw [if_neg (by simp)]
      exact q
    | tup e =>
      refine ⟨_, _, _, _, false, rfl, .own _, .base (.tup e), T.kt_Y_tuple, false, rfl, ?_⟩
      rw [if_neg (by simp)]
      exact q
    | lst e =>
      refine ⟨_, _, _, _, false, rfl, .own _, .base (.lst e), T.kt_Y_list, false, rfl, ?_⟩
      rw [if_neg (by simp)]
      exact q
  | @yd z C2 so2 wd2 gs2 g2 hz hl2 hc =>
    obtain ⟨dz, az, lz, gz, hzi, hzp, hzl, hzk⟩ := hz
    rw [hl2] at hzl
    cases hzl
    rw [hl] at hl'
    cases hl'
    have yc2 : YC K C2 so2 ∧ PySem.W.kitOne K (.ref C2) (.ref (Y K)) = some true ∧ PySem.W.findIn K (.ref C2) "__class__" = some (some (.builtin "object.__class__")) ∧ PySem.W.mroIn K C2 (.type "object") = some true ∧ PyData.strOk so2 = true := by
      rcases hc with ⟨rfl, rfl⟩ | ⟨rfl, rfl⟩
      · exact ⟨T.yY, T.k_Y_Y, T.cl_Y, T.ob_Y, by decide +kernel⟩
      · exact ⟨T.yF, T.k_F_Y, T.cl_F, T.ob_F, by decide +kernel⟩
    obtain ⟨v1, hk1, hk2⟩ := hk
    obtain ⟨v2, hz1, hz2⟩ := hzk
    refine ⟨_, _, _, _, true, rfl, .own _, .base (.ins hzi yc2.1.cls yc2.2.2.1 T.sp_cls T.tk_cls yc2.2.2.2.1), yc2.2.1, true, rfl, ?_⟩
    rw [if_pos rfl]
    refine ⟨_, _, _, hyi, yc.cls, yc.nl, _, rfl, z, rfl, _, _, _, hzi, yc2.1.cls, yc2.1.nl, _, rfl, .tuple [.str so, dPg g], .tuple [.str so2, dPg g2], .tup (SqT.of hk1) (.cons (.str _) (.cons (dp_pg hk2) .nil)), .tup (SqT.of hz1) (.cons (.str _) (.cons (dp_pg hz2) .nil)), ?_, ?_, ?_⟩
    · refine (Pl.tup (n := 3) fun d hd => ?_).sh
      simp at hd
      rcases hd with rfl | rfl
      · exact .str _ ss
      · exact pl_pg g
    · refine (Pl.tup (n := 3) fun d hd => ?_).sh
      simp at hd
      rcases hd with rfl | rfl
      · exact .str _ yc2.2.2.2.2
      · exact pl_pg g2
    · have e : PyData.eqv (.tuple [.str so, dPg g]) (.tuple [.str so2, dPg g2]) = eqO so g (some (so2, g2)) := by
        show (so == so2 && (PyData.eqv (dPg g) (dPg g2) && true)) = _
        rw [Bool.and_true]
        rfl
      rw [e]
      exact q
theorem sc_FullYard_judge : FnScope ["self", "page", "told"] ["self", "page"] (defScope s_FullYard_judge) := ⟨rfl, rfl, rfl, by decide +kernel, rfl, by decide +kernel, by decide +kernel⟩
def spJudgeF : Sp := fun vs H Q _ => ∃ (y : Addr) (p : V) (g : Pg), vs = [.ref y, p] ∧ PgAt H p g ∧ g.Ok 100000 ∧ g.fb = true ∧ ∀ H', St' [] H H' → Q .non H'
theorem ok_judgeF (T : Tx w K mg) (D_paper_papers : Df R.prog w K mg base CX0 4 "paper_papers" spPaper) : Mf R.prog w K mg base CX0 5 (Fy K) "judge" spJudgeF := by
  have hF := T.d_FullYard_judge
  have me := T.m_F_judge
  refine mf_of hF me sc_FullYard_judge (fun _ _ _ _ _ _ us hl => match us, hl with | [_, _], _ => rfl)
    (fun vs H Q E h => by repeat (first | (obtain ⟨rfl, _⟩ := h; rfl) | (obtain ⟨_, h⟩ := h))) (fun cdv A outer s H vs Q E hr h => ?_)
  have nd := sc_FullYard_judge.nd
  refine ⟨_, (pss_cons (ps_set (i := 2) nd rfl (by first | exact Or.inl rfl | exact Or.inr rfl) (pe_df D_paper_papers hr (by decide) pass0 (pa_cons (pe_ix ix_tup (pv 1) pe_int (fun _ _ => rfl)) (pa_cons (pe_ix ix_tup (pv 1) pe_int (fun _ _ => rfl)) pa_nil))))
          (pss_one (ps_if (pt_cmpR op_ne (pe_ix ix_tup (pv 2) pe_int (fun _ _ => rfl)) pe_str (nomark _)) (pss_one ps_never) pss_nil))), ?_⟩
  obtain ⟨y, p, g, rfl, ⟨a, pp, b, rfl, h1, h2, h3⟩, ok, fb, q⟩ := h
  simp only [tRet, tAndV, tOrV, tNotV, tCB, tCons, tNil, tC, tVar, tChain, rI0, tIfS, tTest, tOp, tUn, rU, rI, tPar3, tBM, tBM0, tM1, gSub, tXm, tCon, tProp, tMethR, rEq, rNe, rIxT, rIxL, decide_true, decide_false, tAnd, tOr, tNot, tB, tSeq, tAsg, gName, tDrop, tNext, tTup, tLst, tIf, tDf, tFld, tMf0, tPart, tSl, tNoPart, tPar, gTup, gLst, gCons, gNil, L2.start, List.map_cons, List.map_nil, List.length_cons, List.length_nil, Nat.zero_add, Nat.sub_self, Nat.reduceAdd, Nat.reduceSub, List.replicate_zero, List.replicate_succ, List.append_nil, List.nil_append, List.cons_append, List.getElem?_cons_zero, List.getElem?_cons_succ, List.set_cons_zero, List.set_cons_succ, Option.some.injEq, exists_and_left, exists_eq_left', exists_eq_left, V.int.injEq, V.bl.injEq, V.str.injEq, V.ref.injEq, List.cons.injEq, and_true, true_and, if_true, if_false, Bool.false_eq_true, reduceCtorEq, Bool.not_true, Bool.not_false, cxOf]
  repeat (first | (refine ⟨_, SqT.of (by first | assumption | exact St'.tp (H := H) (by assumption) _ _ (by assumption)), ?_⟩) | (refine ⟨_, .inr (SqT.of (by first | assumption | exact St'.tp (H := H) (by assumption) _ _ (by assumption))), ?_⟩) | (refine ⟨_, rfl, ?_⟩) | (refine ⟨_, atIv (by assumption), ?_⟩) | (refine ⟨_, _, ⟨rfl, rfl⟩, ?_⟩) | (refine ⟨rfl, ?_⟩) | simp only [tRet, tAndV, tOrV, tNotV, tCB, tCons, tNil, tC, tVar, tChain, rI0, tIfS, tTest, tOp, tUn, rU, rI, tPar3, tBM, tBM0, tM1, gSub, tXm, tCon, tProp, tMethR, rEq, rNe, rIxT, rIxL, decide_true, decide_false, tAnd, tOr, tNot, tB, tSeq, tAsg, gName, tDrop, tNext, tTup, tLst, tIf, tDf, tFld, tMf0, tPart, tSl, tNoPart, tPar, gTup, gLst, gCons, gNil, L2.start, List.map_cons, List.map_nil, List.length_cons, List.length_nil, Nat.zero_add, Nat.sub_self, Nat.reduceAdd, Nat.reduceSub, List.replicate_zero, List.replicate_succ, List.append_nil, List.nil_append, List.cons_append, List.getElem?_cons_zero, List.getElem?_cons_succ, List.set_cons_zero, List.set_cons_succ, Option.some.injEq, exists_and_left, exists_eq_left', exists_eq_left, V.int.injEq, V.bl.injEq, V.str.injEq, V.ref.injEq, List.cons.injEq, and_true, true_and, if_true, if_false, Bool.false_eq_true, reduceCtorEq, Bool.not_true, Bool.not_false, cxOf])
  refine ⟨pp, b, g.p0, g.p1, g.bx, rfl, h2, h3, ok.o3, fun r H' hd st ⟨rest, hr⟩ e => ?_⟩
  have e' : hd = "cut" := e.mpr fb
  subst e'
  refine ⟨r, rfl, _, SqT.of hr, _, atI_nat (j := 0) rfl, rfl, ?_⟩
  rw [if_neg (by simp)]
  exact q _ st
end
end Yk
set_option Elab.async false
set_option linter.all false
set_option maxRecDepth 100000
set_option maxHeartbeats 4000000
/-! FullYard: __init__, fresh -/
namespace Yk
open PySem PySem.Spec PyProof.Rows L2 NdefX
section
variable {w : World} {K : KF} {mg : Str → Option Value} {base : Heap}
def spInitF (K : KF) : Sp := fun vs H Q _ => ∃ (y p b dx : Addr) (g : Pg), vs = [.ref y, .ref p, .ref b] ∧ H y = some (.ins (Fy K) dx []) ∧ PairAt H p g.p0 g.p1 ∧ H b = some (.tup (ivs g.bx)) ∧ g.Ok 100000 ∧ g.fb = true ∧ ∀ H', St' [y] H H' → YAt H' y (Fy K) "full" [g] "same" → Q .non H'
theorem mak_F (T : Tx w K mg) (hY : ∃ fd, FunD K "__init__" "Yard.__init__" (defArgs s_Yard_init) (defBody s_Yard_init) (defScope s_Yard_init) [] [] (He.ma K (Y K) "__init__") fd ∧ FnOk R.prog w K mg base CX0 5 (He.ma K (Y K) "__init__") fd ["self", "pair", "box"] (spInit (Fy K) "full"))
    (D_judge : Mf R.prog w K mg base CX0 5 (Fy K) "judge" spJudgeF) : Mky R.prog w K mg base 6 "FullYard" (Fy K) (spInitF K) := by
  obtain ⟨fdY, FY, OY⟩ := hY
  have MY : FnR R.prog w K mg base CX0 5 (He.ma K (Y K) "__init__") (spInit (Fy K) "full") := (OY.raw (FY.bindsN (fun _ _ _ _ _ _ us hl => match us, hl with | [_, _, _], _ => rfl)) .nil).imp fun vs H Q E h => by rw [List.append_nil]; exact h
  obtain ⟨cc, cda, fd, F⟩ := T.d_FullYard_init
  have S : NScope ["self", "pair", "box", "__class__"] ["self", "pair", "box"] ["__class__"] (defScope s_FullYard_init) := nscope_by (by decide +kernel)
  have yc := T.yF
  have hclI : (PySem.W.clsIn K (Fy K)).isSome = true := by
    have h := T.superinit
    unfold PySem.W.ks_superIn at h
    cases z : PySem.W.clsIn K (Fy K) with
    | none => rw [z] at h; cases h
    | some c => rfl
  have hfn : PySem.W.fnIn K (He.ma K (Y K) "__init__") = true := by
    obtain ⟨oc, od, dV, kV, doc, pm, an, cdv, ct, osl, rfl, lk, _⟩ := FY.ex
    unfold PySem.W.fnIn
    rw [lk]
  have O : FnOk R.prog w K mg base CX0 6 (He.ma K (Fy K) "__init__") fd ["self", "pair", "box"] (spInitF K) := by
    refine sup_run (N := ["self", "pair", "box", "__class__"]) F S (fun vs H Q E h => by obtain ⟨y, p, b, dx, g, rfl, _⟩ := h; rfl) fun A outer s s1 H vs Q E hr h I => ?_
    obtain ⟨y, p, b, dx, g, rfl, hy, hp, hb, ok, fb, q⟩ := h
    refine sup_def (X := ncx CX0 R.prog w K mg base ["self", "pair", "box", "__class__"] (supNF "__init__" "FullYard.__init__" s_FullYard_init cc cda) (He.ma K (Fy K) "__init__") A outer s H E) (i := 0) (hi := I.quiet) (Q := fun H2 => St' [y] H H2 ∧ YAt H2 y (Fy K) "full" [g] "same") F rfl rfl T.n_super rfl rfl rfl rfl lk0 rfl rfl rfl rfl I hy hclI T.mro_F_Y T.opq T.superinit T.m_Y_init.fn hfn MY hr (by decide) pass0
      (pa_cons (pv 1) (pa_cons (pv 2) pa_nil)) ⟨_, rfl, _, rfl, y, p, b, dx, g, rfl, hy, hp, hb, ok.mono (by decide), fun H2 s2 hy2 => ⟨s2, hy2⟩⟩ (fun s2 H2 I2 ⟨st, hy2⟩ => ?_)
    obtain ⟨dx2, ap, al, g', hyi, ⟨vs, hap, hal⟩, hl, hk⟩ := id hy2
    obtain ⟨pv0, hpv, hpg⟩ := hal.at_ (i := 0) (g := g) rfl
    refine (pss_one (ps_expr (pe_mf (pv 0) yc.cls D_judge hr (by decide) pass0 (pa_cons (pe_ix ix_tup (pe_fld (pv 0) rfl) pe_int (fun _ _ => rfl)) pa_nil)))).run [] s2 _ _ _ I2 ?_
    exact ⟨_, rfl, y, dx2, _, rfl, hyi, rfl, _, rfl, y, _, _, _, _, rfl, hyi, yc.cls, yc.np, rfl, ap, _, 0, pv0, rfl, rfl, SqT.of hap, atI_nat (j := 0) hpv, y, pv0, g, rfl, hpg, ok, fb, fun H3 s3 => q H3 (st.trans s3.w0) (hy2.st s3 (by simp))⟩
  refine ⟨_, fd, _, T.mk_F, O, T.g_FullYard, ?_⟩
  obtain ⟨oc, od, kV, doc, pm, an, ct, osl, rfl, lk⟩ := F.ex
  exact .all fun us hl => match us, hl with | [_, _, _], _ => rfl
theorem sc_FullYard_fresh : FnScope ["self"] ["self"] (defScope s_FullYard_fresh) := ⟨rfl, rfl, rfl, by decide +kernel, rfl, by decide +kernel, by decide +kernel⟩
theorem ok_freshF (T : Tx w K mg) (K_FullYard : Mky R.prog w K mg base 6 "FullYard" (Fy K) (spInitF K)) (D_pair : Pf R.prog w K mg base 1 (Fy K) "pair" (spPair (Fy K) "full")) (D_box : Pf R.prog w K mg base 1 (Fy K) "box" (spBox (Fy K) "full")) : Mf R.prog w K mg base CX0 8 (Fy K) "fresh" (spFresh (Fy K) "full" true) := by
  have hF := T.d_FullYard_fresh
  have me := T.m_F_fresh
  have cY := T.cls_F
  refine mf_of hF me sc_FullYard_fresh (fun _ _ _ _ _ _ us hl => match us, hl with | [_], _ => rfl)
    (fun vs H Q E h => by repeat (first | (obtain ⟨rfl, _⟩ := h; rfl) | (obtain ⟨_, h⟩ := h))) (fun cdv A outer s H vs Q E hr h => ?_)
  have nd := sc_FullYard_fresh.nd
  refine ⟨_, (pss_one (ps_ret (pe_mky K_FullYard hr (by decide) (pa_cons (pe_pf (pv 0) cY D_pair hr (by decide)) (pa_cons (pe_pf (pv 0) cY D_box hr (by decide)) pa_nil))))), ?_⟩
  obtain ⟨y, wd, gs, g, rfl, hy, hl, ok, fb, q⟩ := h
  obtain ⟨dx, ap, al, g', hyi, _⟩ := id hy
  refine ⟨_, rfl, y, dx, _, rfl, hyi, y, wd, gs, g, rfl, hy, hl, fun p hp => ⟨_, rfl, y, dx, _, rfl, hyi, y, wd, gs, g, rfl, hy, hl, fun b hb => fun x dx2 nx nd ne => ?_⟩⟩
  have s1 := (St'.refl (M := []) (H := H)).new (p := dx2) (o := .own x) nd
  have s2 := s1.own (p := x) (o := .ins (Fy K) dx2 []) nx
  refine ⟨x, p, b, dx2, g, rfl, upd_same, hp.st s2, s2.tp _ _ hb, ok, fb rfl, fun H3 s3 hz => ⟨rfl, ?_⟩⟩
  exact q x H3 (s2.born nx s3) nx hz
end
end Yk
set_option Elab.async false
set_option linter.all false
set_option maxRecDepth 100000
set_option maxHeartbeats 4000000
/-! the law: deck, draws -/
namespace Yk
open PySem PySem.Spec PyProof.Rows L2
theorem era_map : ∀ (xs : List Int) (j : Nat), (ivs xs).eraseIdx j = ivs (xs.eraseIdx j)
  | [], j => rfl
  | x :: xs, 0 => rfl
  | x :: xs, j + 1 => by
    have h := era_map xs j
    simp only [ivs, List.map_cons, List.eraseIdx_cons_succ] at h ⊢
    rw [h]
/-- the deck at d: two lists of numbers, a count -/
structure Dk (H : Hp) (d a b : Addr) : Prop where
  ex : ∃ (as bs : List Int) (c : Int), H d = some (.lst [.ref a, .ref b, .int c]) ∧ H a = some (.lst (ivs as)) ∧ H b = some (.lst (ivs bs)) ∧ bs ≠ []
  da : d ≠ a
  db : d ≠ b
  ab : a ≠ b
theorem Dk.st {H H' : Hp} {d a b : Addr} (h : Dk H d a b) (s : St' [] H H') : Dk H' d a b := by
  obtain ⟨as, bs, c, h1, h2, h3, h4⟩ := h.ex
  exact ⟨⟨as, bs, c, s.kp _ _ h1 (by simp), s.kp _ _ h2 (by simp), s.kp _ _ h3 (by simp), h4⟩, h.da, h.db, h.ab⟩
/-- a deck kept while only objects of M change, it not being there -/
theorem Dk.stM {M : List Addr} {H H' : Hp} {d a b : Addr} (h : Dk H d a b) (s : St' M H H') (nd : d ∉ M) (na : a ∉ M) (nb : b ∉ M) : Dk H' d a b := by
  obtain ⟨as, bs, c, h1, h2, h3, h4⟩ := h.ex
  exact ⟨⟨as, bs, c, s.kp _ _ h1 nd, s.kp _ _ h2 na, s.kp _ _ h3 nb, h4⟩, h.da, h.db, h.ab⟩
section
variable {w : World} {K : KF} {mg : Str → Option Value} {base : Heap}
theorem sc_law_draw : FnScope ["_law_deck_here", "_law_many", "_law_rest", "_law_cell", "_law_mixed_here"] ["_law_deck_here", "_law_many"] (defScope s_law_draw) := ⟨rfl, rfl, rfl, by decide +kernel, rfl, by decide +kernel, by decide +kernel⟩
def spDraw : Sp := fun vs H Q _ => ∃ (d a b : Addr) (m : Int), vs = [.ref d, .int m] ∧ Dk H d a b ∧ 0 < m ∧ m < 1073741824 ∧ ∀ r H', 0 ≤ r → r < m → St' [d, a] H H' → Dk H' d a b → Q (.int r) H'
theorem ok_law_draw (T : Tx w K mg) : Df R.prog w K mg base CX0 1 "_law_draw" spDraw := by
  refine df_of T.d_law_draw T.g_law_draw sc_law_draw (fun _ _ _ _ _ _ us hl => match us, hl with | [_, _], _ => rfl)
    (fun vs H Q E h => by repeat (first | (obtain ⟨rfl, _⟩ := h; rfl) | (obtain ⟨_, h⟩ := h))) (fun cdv A outer s H vs Q E hr h => ?_)
  have nd := sc_law_draw.nd
  refine ⟨_, (pss_cons (ps_if (pt_cmpR (op_neD hr.units) (pe_ix ix_list (pv 0) pe_int (fun _ _ => rfl)) (pe_lst pa_nil) (nomark _)) (pss_cons (ps_set (i := 2) nd rfl (by first | exact Or.inl rfl | exact Or.inr rfl) (pe_ix ix_list (pe_ix ix_list (pv 0) pe_int (fun _ _ => rfl)) pe_int (fun _ _ => rfl)))
          (pss_cons (ps_asg (pe_op op_fdiv (pv 2) (pv 1)) (pg_sub (pe_ix ix_list (pv 0) pe_int (fun _ _ => rfl)) pe_int set_list))
          (pss_cons (ps_if (pt_cmpR op_eq (pe_ix ix_list (pe_ix ix_list (pv 0) pe_int (fun _ _ => rfl)) pe_int (fun _ _ => rfl)) pe_int (nomark _)) (pss_one (ps_expr (pe_bm PySem.F.plainAttrs_list PySem.F.slot_list_pop PySem.F.type_list_pop mt_popAt (pe_ix ix_list (pv 0) pe_int (fun _ _ => rfl)) (pa_cons pe_int pa_nil)))) pss_nil)
          (pss_one (ps_ret (pe_op op_mod (pe_callTy call_int1 rfl T.n_int (by decide +kernel) (pa_cons (pv 2) pa_nil)) (pv 1))))))) pss_nil)
          (pss_cons (ps_asg (pe_op op_add (pe_ix ix_list (pv 0) pe_int (fun _ _ => rfl)) pe_int) (pg_sub (pv 0) pe_int set_list))
          (pss_cons (ps_set (i := 3) nd rfl (by first | exact Or.inl rfl | exact Or.inr rfl) (pe_ix ix_list (pe_ix ix_list (pv 0) pe_int (fun _ _ => rfl)) (pe_op op_mod (pe_callTy call_int1 rfl T.n_int (by decide +kernel) (pa_cons (pe_ix ix_list (pv 0) pe_int (fun _ _ => rfl)) pa_nil)) (pe_callB call_len_seq rfl T.n_len PySem.boot_len (pa_cons (pe_ix ix_list (pv 0) pe_int (fun _ _ => rfl)) pa_nil))) (fun _ _ => rfl)))
          (pss_cons (ps_set (i := 4) nd rfl (by first | exact Or.inl rfl | exact Or.inr rfl) (pe_op op_mod (pe_callTy call_int1 rfl T.n_int (by decide +kernel) (pa_cons (pe_op op_add (pe_op op_mod (pe_callTy call_int1 rfl T.n_int (by decide +kernel) (pa_cons (pv 3) pa_nil)) pe_int) (pe_op op_mul pe_int (pe_ix ix_list (pv 0) pe_int (fun _ _ => rfl)))) pa_nil)) pe_int))
          (pss_cons (ps_set (i := 4) nd rfl (by first | exact Or.inl rfl | exact Or.inr rfl) (pe_op op_mod (pe_callTy call_int1 rfl T.n_int (by decide +kernel) (pa_cons (pe_op op_add (pe_op op_mul (pv 4) (pv 4)) (pe_op op_mul pe_int (pe_ix ix_list (pv 0) pe_int (fun _ _ => rfl)))) pa_nil)) pe_int))
          (pss_one (ps_ret (pe_op op_mod (pe_op op_fdiv (pe_op op_mod (pe_callTy call_int1 rfl T.n_int (by decide +kernel) (pa_cons (pe_op op_mul (pv 4) (pv 4)) pa_nil)) pe_int) pe_int) (pv 1))))))))), ?_⟩
  obtain ⟨d, a, b, m, rfl, dk, m0, m1, q⟩ := h
  obtain ⟨as, bs, c, hd, ha, hb, nb⟩ := dk.ex
  have d1 := dk.da
  have d2 := dk.db
  have d3 := dk.ab
  simp only [tRet, tAndV, tOrV, tNotV, tCB, tCons, tNil, tC, tVar, tChain, rI0, tIfS, tTest, tOp, tUn, rU, rI, tPar3, tBM, tBM0, tM1, gSub, tXm, tCon, tProp, tMethR, rEq, rNe, rIxT, rIxL, decide_true, decide_false, tAnd, tOr, tNot, tB, tSeq, tAsg, gName, tDrop, tNext, tTup, tLst, tIf, tDf, tFld, tMf0, tPart, tSl, tNoPart, tPar, gTup, gLst, gCons, gNil, L2.start, List.map_cons, List.map_nil, List.length_cons, List.length_nil, Nat.zero_add, Nat.sub_self, Nat.reduceAdd, Nat.reduceSub, List.replicate_zero, List.replicate_succ, List.append_nil, List.nil_append, List.cons_append, List.getElem?_cons_zero, List.getElem?_cons_succ, List.set_cons_zero, List.set_cons_succ, Option.some.injEq, exists_and_left, exists_eq_left', exists_eq_left, V.int.injEq, V.bl.injEq, V.str.injEq, V.ref.injEq, List.cons.injEq, and_true, true_and, if_true, if_false, Bool.false_eq_true, reduceCtorEq, Bool.not_true, Bool.not_false, cxOf]
  refine ⟨_, SqL.of hd, _, rfl, by decide, fun p np => ?_⟩
  have s1 := (St'.refl (M := []) (H := H)).new (p := p) (o := .lst []) np
  refine ⟨_, _, dp_intsL (s1.kp _ _ ha (by simp)), dp_nilL upd_same, (Pl.lst (n := 1) (pl_ints _)).sh, (Pl.lst (n := 1) (by simp)).sh, ?_⟩
  rw [eqv_nil]
  have hd1 := s1.kp _ _ hd (by simp)
  have ha1 := s1.kp _ _ ha (by simp)
  have hb1 := s1.kp _ _ hb (by simp)
  generalize hH1 : upd H p (.lst []) = H1 at *
  refine ⟨_, rfl, ?_⟩
  cases as with
  | cons x xs =>
    rw [if_pos (by simp)]
    refine ⟨_, SqL.of hd1, _, rfl, a, rfl, _, SqL.of ha1, _, atIv (i := 0) rfl, ?_⟩
    simp only [tRet, tAndV, tOrV, tNotV, tCB, tCons, tNil, tC, tVar, tChain, rI0, tIfS, tTest, tOp, tUn, rU, rI, tPar3, tBM, tBM0, tM1, gSub, tXm, tCon, tProp, tMethR, rEq, rNe, rIxT, rIxL, decide_true, decide_false, tAnd, tOr, tNot, tB, tSeq, tAsg, gName, tDrop, tNext, tTup, tLst, tIf, tDf, tFld, tMf0, tPart, tSl, tNoPart, tPar, gTup, gLst, gCons, gNil, L2.start, List.map_cons, List.map_nil, List.length_cons, List.length_nil, Nat.zero_add, Nat.sub_self, Nat.reduceAdd, Nat.reduceSub, List.replicate_zero, List.replicate_succ, List.append_nil, List.nil_append, List.cons_append, List.getElem?_cons_zero, List.getElem?_cons_succ, List.set_cons_zero, List.set_cons_succ, Option.some.injEq, exists_and_left, exists_eq_left', exists_eq_left, V.int.injEq, V.bl.injEq, V.str.injEq, V.ref.injEq, List.cons.injEq, and_true, true_and, if_true, if_false, Bool.false_eq_true, reduceCtorEq, Bool.not_true, Bool.not_false, cxOf]
    refine ⟨⟨m0, m1⟩, _, SqL.of hd1, _, rfl, a, _, 0, 0, rfl, rfl, ha1, by simp [ixN], ?_⟩
    have s2 : St' [d, a] H1 (upd H1 a (.lst (ivs (x / m :: xs)))) := St'.refl.putL (by simp) ha1
    have st2 := s1.w0.trans s2
    have hd2 : upd H1 a (.lst (ivs (x / m :: xs))) d = some (.lst [.ref a, .ref b, .int c]) := by rw [upd_ne d1]; exact hd1
    have hb2 : upd H1 a (.lst (ivs (x / m :: xs))) b = some (.lst (ivs bs)) := by rw [upd_ne (Ne.symm d3)]; exact hb1
    have ha2 : upd H1 a (.lst (ivs (x / m :: xs))) a = some (.lst (ivs (x / m :: xs))) := upd_same
    rw [show (ivs (x :: xs)).set 0 (V.int (x / m)) = ivs (x / m :: xs) from rfl]
    generalize hH2 : upd H1 a (.lst (ivs (x / m :: xs))) = H2 at *
    have r0 := Int.emod_nonneg x (Int.ne_of_gt m0)
    have r1 := Int.emod_lt_of_pos x m0
    refine ⟨_, SqL.of hd2, _, rfl, a, rfl, _, SqL.of ha2, _, atIv (i := 0) rfl, ?_⟩
    simp only [tRet, tAndV, tOrV, tNotV, tCB, tCons, tNil, tC, tVar, tChain, rI0, tIfS, tTest, tOp, tUn, rU, rI, tPar3, tBM, tBM0, tM1, gSub, tXm, tCon, tProp, tMethR, rEq, rNe, rIxT, rIxL, decide_true, decide_false, tAnd, tOr, tNot, tB, tSeq, tAsg, gName, tDrop, tNext, tTup, tLst, tIf, tDf, tFld, tMf0, tPart, tSl, tNoPart, tPar, gTup, gLst, gCons, gNil, L2.start, List.map_cons, List.map_nil, List.length_cons, List.length_nil, Nat.zero_add, Nat.sub_self, Nat.reduceAdd, Nat.reduceSub, List.replicate_zero, List.replicate_succ, List.append_nil, List.nil_append, List.cons_append, List.getElem?_cons_zero, List.getElem?_cons_succ, List.set_cons_zero, List.set_cons_succ, Option.some.injEq, exists_and_left, exists_eq_left', exists_eq_left, V.int.injEq, V.bl.injEq, V.str.injEq, V.ref.injEq, List.cons.injEq, and_true, true_and, if_true, if_false, Bool.false_eq_true, reduceCtorEq, Bool.not_true, Bool.not_false, cxOf]
    by_cases z : x / m = 0
    · rw [if_pos (by simp [z])]
      refine ⟨rfl, _, SqL.of hd2, _, rfl, .inl ⟨rfl, _, SqL.of ha2⟩, a, _, 0, 0, _, rfl, rfl, ha2, by decide, by decide, (ixN_seq (by simp [ixN])).1, rfl, ?_⟩
      have s3 : St' [d, a] H2 (upd H2 a (.lst (ivs xs))) := St'.refl.putL (by simp) ha2
      exact .inl ⟨m0, q _ _ r0 r1 (st2.trans s3) ⟨⟨xs, bs, c, by rw [upd_ne d1]; exact hd2, upd_same, by rw [upd_ne (Ne.symm d3)]; exact hb2, nb⟩, d1, d2, d3⟩⟩
    · rw [if_neg (by simp [z])]
      exact ⟨rfl, .inl ⟨m0, q _ _ r0 r1 st2 ⟨⟨_, bs, c, hd2, ha2, hb2, nb⟩, d1, d2, d3⟩⟩⟩
  | nil =>
    rw [if_neg (by simp)]
    refine ⟨_, SqL.of hd1, _, rfl, c, rfl, d, _, 2, 2, rfl, rfl, hd1, rfl, ?_⟩
    have s2 : St' [d, a] H1 (upd H1 d (.lst [.ref a, .ref b, .int (c + 1)])) := St'.refl.putL (by simp) hd1
    have st2 := s1.w0.trans s2
    have hd2 : upd H1 d (.lst [.ref a, .ref b, .int (c + 1)]) d = some (.lst [.ref a, .ref b, .int (c + 1)]) := upd_same
    have hb2 : upd H1 d (.lst [.ref a, .ref b, .int (c + 1)]) b = some (.lst (ivs bs)) := by rw [upd_ne (Ne.symm d2)]; exact hb1
    have ha2 : upd H1 d (.lst [.ref a, .ref b, .int (c + 1)]) a = some (.lst (ivs [])) := by rw [upd_ne (Ne.symm d1)]; exact ha1
    rw [show [V.ref a, V.ref b, V.int c].set 2 (V.int (c + 1)) = [V.ref a, V.ref b, V.int (c + 1)] from rfl]
    generalize hH2 : upd H1 d (.lst [.ref a, .ref b, .int (c + 1)]) = H2 at *
    have bl : 0 < bs.length := List.length_pos_iff.mpr nb
    have j0 := Int.emod_nonneg (c + 1) (show (bs.length : Int) ≠ 0 by omega)
    have j1 := Int.emod_lt_of_pos (c + 1) (show (0 : Int) < bs.length by omega)
    obtain ⟨j, hj⟩ := Int.eq_ofNat_of_zero_le j0
    have jl : j < bs.length := by omega
    obtain ⟨y, hy⟩ : ∃ y, bs[j]? = some y := ⟨bs[j], List.getElem?_eq_getElem jl⟩
    refine ⟨_, SqL.of hd2, _, rfl, _, SqL.of hd2, _, rfl, .inl ⟨c + 1, rfl, ?_⟩⟩
    have u0 : ∀ z k : Int, 0 < k → 0 ≤ z % k ∧ z % k < k := fun z k hk => ⟨Int.emod_nonneg z (Int.ne_of_gt hk), Int.emod_lt_of_pos z hk⟩
    have ey : atI (ivs bs) ((c + 1) % ((ivs bs).length : Int)) = some (.int y) := by
      rw [List.length_map, hj]
      exact atIv hy
    refine ⟨_, SqL.of hd2, _, rfl, b, rfl, _, .inl (SqL.of hb2), by simp; omega, b, rfl, _, SqL.of hb2, .int y, ey, .inl ⟨y, rfl, by decide, _, SqL.of hd2, _, rfl, _, rfl, .inl ⟨by decide, by decide⟩, .inl ⟨by decide, ?_, _, SqL.of hd2, _, rfl, _, rfl, .inl ⟨by decide, by decide⟩, .inl ?_⟩⟩⟩
    · have h := u0 (y % 4294966477 + 1640531513 * (c + 1)) 4294966477 (by decide)
      exact .inl ⟨by omega, by omega⟩
    · refine ⟨by decide, ?_⟩
      generalize ((y % 4294966477 + 1640531513 * (c + 1)) % 4294966477 * ((y % 4294966477 + 1640531513 * (c + 1)) % 4294966477) + 86028121 * (c + 1)) = z
      have h := u0 z 4294966427 (by decide)
      refine ⟨.inl ⟨by omega, by omega⟩, .inl ⟨by decide, ⟨by decide, by decide⟩, m0, ?_⟩⟩
      have r := u0 (z % 4294966427 * (z % 4294966427) % 4294966373 / 1024) m m0
      exact q _ _ r.1 r.2 st2 ⟨⟨[], bs, c + 1, hd2, ha2, hb2, nb⟩, d1, d2, d3⟩
theorem sc_law_one : FnScope ["_law_deck_here", "_law_items"] ["_law_deck_here", "_law_items"] (defScope s_law_one) := ⟨rfl, rfl, rfl, by decide +kernel, rfl, by decide +kernel, by decide +kernel⟩
def spOne : Sp := fun vs H Q _ => ∃ (d a b l : Addr) (xs : List V), vs = [.ref d, .ref l] ∧ Dk H d a b ∧ H l = some (.lst xs) ∧ l ∉ [d, a] ∧ xs ≠ [] ∧ xs.length < 1000 ∧ ∀ v H', v ∈ xs → St' [d, a] H H' → Dk H' d a b → Q v H'
theorem ok_law_one (T : Tx w K mg) (D__law_draw : Df R.prog w K mg base CX0 1 "_law_draw" spDraw) : Df R.prog w K mg base CX0 2 "_law_one" spOne := by
  refine df_of T.d_law_one T.g_law_one sc_law_one (fun _ _ _ _ _ _ us hl => match us, hl with | [_, _], _ => rfl)
    (fun vs H Q E h => by repeat (first | (obtain ⟨rfl, _⟩ := h; rfl) | (obtain ⟨_, h⟩ := h))) (fun cdv A outer s H vs Q E hr h => ?_)
  have nd := sc_law_one.nd
  refine ⟨_, (pss_one (ps_ret (pe_ix ix_list (pv 1) (pe_df D__law_draw hr (by decide) pass0 (pa_cons (pv 0) (pa_cons (pe_callB call_len_seq rfl T.n_len PySem.boot_len (pa_cons (pv 1) pa_nil)) pa_nil))) (fun _ _ => rfl)))), ?_⟩
  obtain ⟨d, a, b, l, xs, rfl, dk, hl, nl, ne, ln, q⟩ := h
  have xp : 0 < xs.length := List.length_pos_iff.mpr ne
  simp only [tRet, tAndV, tOrV, tNotV, tCB, tCons, tNil, tC, tVar, tChain, rI0, tIfS, tTest, tOp, tUn, rU, rI, tPar3, tBM, tBM0, tM1, gSub, tXm, tCon, tProp, tMethR, rEq, rNe, rIxT, rIxL, decide_true, decide_false, tAnd, tOr, tNot, tB, tSeq, tAsg, gName, tDrop, tNext, tTup, tLst, tIf, tDf, tFld, tMf0, tPart, tSl, tNoPart, tPar, gTup, gLst, gCons, gNil, L2.start, List.map_cons, List.map_nil, List.length_cons, List.length_nil, Nat.zero_add, Nat.sub_self, Nat.reduceAdd, Nat.reduceSub, List.replicate_zero, List.replicate_succ, List.append_nil, List.nil_append, List.cons_append, List.getElem?_cons_zero, List.getElem?_cons_succ, List.set_cons_zero, List.set_cons_succ, Option.some.injEq, exists_and_left, exists_eq_left', exists_eq_left, V.int.injEq, V.bl.injEq, V.str.injEq, V.ref.injEq, List.cons.injEq, and_true, true_and, if_true, if_false, Bool.false_eq_true, reduceCtorEq, Bool.not_true, Bool.not_false, cxOf]
  refine ⟨_, .inl (SqL.of hl), d, a, b, _, rfl, dk, by omega, by omega, fun r H1 r0 r1 st dk1 => ?_⟩
  obtain ⟨j, rfl⟩ := Int.eq_ofNat_of_zero_le r0
  have jl : j < xs.length := by omega
  have hl1 := st.kp _ _ hl nl
  exact ⟨_, _, rfl, SqL.of hl1, _, atI_nat (List.getElem?_eq_getElem jl), q _ _ (List.getElem_mem jl) st dk1⟩
theorem sc_law_mixed : FnScope ["_law_deck_here", "_law_items", "_law_rest", "_law_found", "_law_turn"] ["_law_deck_here", "_law_items"] (defScope s_law_mixed) := ⟨rfl, rfl, rfl, by decide +kernel, rfl, by decide +kernel, by decide +kernel⟩
def spMixed : Sp := fun vs H Q _ => ∃ (d a b l : Addr) (xs : List Int), vs = [.ref d, .ref l] ∧ Dk H d a b ∧ H l = some (.lst (ivs xs)) ∧ l ∉ [d, a] ∧ xs.length < 1000 ∧ ∀ p ys H', St' [d, a] H H' → Dk H' d a b → H p = none → H' p = some (.lst (ivs ys)) → ys.length = xs.length → (∀ y ∈ ys, y ∈ xs) → Q (.ref p) H'
theorem ok_law_mixed (T : Tx w K mg) (D__law_draw : Df R.prog w K mg base CX0 1 "_law_draw" spDraw) : Df R.prog w K mg base CX0 2 "_law_mixed" spMixed := by
  refine df_of T.d_law_mixed T.g_law_mixed sc_law_mixed (fun _ _ _ _ _ _ us hl => match us, hl with | [_, _], _ => rfl)
    (fun vs H Q E h => by repeat (first | (obtain ⟨rfl, _⟩ := h; rfl) | (obtain ⟨_, h⟩ := h))) (fun cdv A outer s H vs Q E hr h => ?_)
  have nd := sc_law_mixed.nd
  refine ⟨_, (pss_cons (ps_par (i := 2) (j := 3) rfl nd rfl rfl (by decide) rfl rfl (pa_cons (pe_callTy call_list_of rfl T.n_list (by decide +kernel) (pa_cons (pv 1) pa_nil)) (pa_cons (pe_lst pa_nil) pa_nil)) (by rfl))
          (pss_cons (ps_for (passes_of rfl) rfl (pi_range1 rfl T.n_range (pa_cons (pe_callB call_len_seq rfl T.n_len PySem.boot_len (pa_cons (pv 1) pa_nil)) pa_nil)) (pg_name (i := 4) nd rfl (by first | exact Or.inl rfl | exact Or.inr rfl)) (pss_one (ps_expr (pe_bm PySem.F.plainAttrs_list PySem.F.slot_list_append PySem.F.type_list_append mt_append (pv 3) (pa_cons (pe_bm PySem.F.plainAttrs_list PySem.F.slot_list_pop PySem.F.type_list_pop mt_popAt (pv 2) (pa_cons (pe_df D__law_draw hr (by decide) pass0 (pa_cons (pv 0) (pa_cons (pe_callB call_len_seq rfl T.n_len PySem.boot_len (pa_cons (pv 2) pa_nil)) pa_nil))) pa_nil)) pa_nil)))))
          (pss_one (ps_ret (pv 3))))), ?_⟩
  obtain ⟨d, a, b, l, xs, rfl, dk, hl, nl, ln, q⟩ := h
  simp only [tRet, tAndV, tOrV, tNotV, tCB, tCons, tNil, tC, tVar, tChain, rI0, tIfS, tTest, tOp, tUn, rU, rI, tPar3, tBM, tBM0, tM1, gSub, tXm, tCon, tProp, tMethR, rEq, rNe, rIxT, rIxL, decide_true, decide_false, tAnd, tOr, tNot, tB, tSeq, tAsg, gName, tDrop, tNext, tTup, tLst, tIf, tDf, tFld, tMf0, tPart, tSl, tNoPart, tPar, gTup, gLst, gCons, gNil, L2.start, List.map_cons, List.map_nil, List.length_cons, List.length_nil, Nat.zero_add, Nat.sub_self, Nat.reduceAdd, Nat.reduceSub, List.replicate_zero, List.replicate_succ, List.append_nil, List.nil_append, List.cons_append, List.getElem?_cons_zero, List.getElem?_cons_succ, List.set_cons_zero, List.set_cons_succ, Option.some.injEq, exists_and_left, exists_eq_left', exists_eq_left, V.int.injEq, V.bl.injEq, V.str.injEq, V.ref.injEq, List.cons.injEq, and_true, true_and, if_true, if_false, Bool.false_eq_true, reduceCtorEq, Bool.not_true, Bool.not_false, cxOf]
  refine ⟨_, .inl (SqL.of hl), fun R nR => ⟨by decide, fun F nF => ⟨_, _, ⟨rfl, rfl⟩, ?_⟩⟩⟩
  have s1 := (St'.refl (M := []) (H := H)).new (p := R) (o := .lst (ivs xs)) nR
  have s2 := s1.new (p := F) (o := .lst []) nF
  have hR := ((St'.refl (M := []) (H := upd H R (.lst (ivs xs)))).new (p := F) (o := .lst []) nF).kp R _ upd_same (by simp)
  have hF : upd (upd H R (.lst (ivs xs))) F (.lst []) F = some (.lst (ivs [])) := upd_same
  have nF0 : H F = none := s1.free nF
  have RF : R ≠ F := fun z => by rw [← z, upd_same] at nF; cases nF
  generalize upd (upd H R (.lst (ivs xs))) F (.lst []) = H2 at *
  obtain ⟨as, bs, c, hd, ha, hb, nb⟩ := dk.ex
  have dR : R ∉ [d, a] := by
    intro z
    simp at z
    rcases z with rfl | rfl
    · rw [hd] at nR; cases nR
    · rw [ha] at nR; cases nR
  have dF : F ∉ [d, a] := by
    intro z
    simp at z
    rcases z with rfl | rfl
    · rw [hd] at nF0; cases nF0
    · rw [ha] at nF0; cases nF0
  have bR : b ≠ R := fun z => by rw [z, nR] at hb; cases hb
  have bF : b ≠ F := fun z => by rw [z, nF0] at hb; cases hb
  refine ⟨_, rfl, l, rfl, _, .inl (SqL.of (s2.kp _ _ hl (by simp))), _, rfl, by omega, by simp; omega, ?_⟩
  refine for_range (fun i σ H' => (∃ u, σ = [some (.ref d), some (.ref l), some (.ref R), some (.ref F), u]) ∧ ∃ rest found : List Int, H' R = some (.lst (ivs rest)) ∧ H' F = some (.lst (ivs found)) ∧ rest.length + i = xs.length ∧ found.length = i ∧ (∀ y ∈ rest, y ∈ xs) ∧ (∀ y ∈ found, y ∈ xs) ∧ Dk H' d a b ∧ St' [d, a] H H') ⟨⟨_, rfl⟩, xs, [], hR, hF, rfl, rfl, fun y h => h, by simp, dk.st s2, s2.w0⟩ ?_ ?_
  · rintro i σ H' hi ⟨⟨u, rfl⟩, rest, found, hr, hf, l1, l2, m1, m2, dk', st⟩
    have hi' : i < xs.length := by simpa using hi
    simp only [tRet, tAndV, tOrV, tNotV, tCB, tCons, tNil, tC, tVar, tChain, rI0, tIfS, tTest, tOp, tUn, rU, rI, tPar3, tBM, tBM0, tM1, gSub, tXm, tCon, tProp, tMethR, rEq, rNe, rIxT, rIxL, decide_true, decide_false, tAnd, tOr, tNot, tB, tSeq, tAsg, gName, tDrop, tNext, tTup, tLst, tIf, tDf, tFld, tMf0, tPart, tSl, tNoPart, tPar, gTup, gLst, gCons, gNil, L2.start, List.map_cons, List.map_nil, List.length_cons, List.length_nil, Nat.zero_add, Nat.sub_self, Nat.reduceAdd, Nat.reduceSub, List.replicate_zero, List.replicate_succ, List.append_nil, List.nil_append, List.cons_append, List.getElem?_cons_zero, List.getElem?_cons_succ, List.set_cons_zero, List.set_cons_succ, Option.some.injEq, exists_and_left, exists_eq_left', exists_eq_left, V.int.injEq, V.bl.injEq, V.str.injEq, V.ref.injEq, List.cons.injEq, and_true, true_and, if_true, if_false, Bool.false_eq_true, reduceCtorEq, Bool.not_true, Bool.not_false, cxOf]
    refine ⟨.inl ⟨rfl, _, SqL.of hf⟩, .inl ⟨rfl, _, SqL.of hr⟩, _, .inl (SqL.of hr), d, a, b, _, rfl, dk', by simp; omega, by simp; omega, fun r H1 r0 r1 s3 dk1 => ?_⟩
    obtain ⟨j, rfl⟩ := Int.eq_ofNat_of_zero_le r0
    have jl : j < rest.length := by simpa using r1
    have hr1 := s3.kp _ _ hr dR
    have hf1 := s3.kp _ _ hf dF
    have e1 : (ivs rest).eraseIdx j = ivs (rest.eraseIdx j) := era_map rest j
    refine ⟨R, _, j, j, .int rest[j], rfl, rfl, hr1, by omega, by omega, (ixN_seq (by unfold ixN; rw [if_pos (by omega), if_pos (by simp; omega)]; rfl)).1, by simp [jl], ?_⟩
    rw [e1]
    have st1 := st.trans s3
    have s4 : St' [d, a] H (upd H1 R (.lst (ivs (rest.eraseIdx j)))) := st1.own nR
    have t4 : St' [R] H1 (upd H1 R (.lst (ivs (rest.eraseIdx j)))) := St'.refl.putL (by simp) hr1
    have hf4 : upd H1 R (.lst (ivs (rest.eraseIdx j))) F = some (.lst (ivs found)) := by rw [upd_ne (Ne.symm RF)]; exact hf1
    have t5 : St' [R, F] H1 (upd (upd H1 R (.lst (ivs (rest.eraseIdx j)))) F (.lst (ivs found ++ [.int rest[j]]))) := (t4.mono (by simp)).putL (by simp) hf4
    refine ⟨F, _, _, rfl, rfl, hf4, by simp [sizeLine]; omega, ⟨_, rfl⟩, rest.eraseIdx j, by rw [upd_ne RF, upd_same], found ++ [rest[j]], by rw [upd_same]; simp [ivs], by rw [List.length_eraseIdx_of_lt jl]; omega, by simp [l2], fun y hy => m1 y (List.mem_of_mem_eraseIdx hy), fun y hy => (List.mem_append.mp hy).elim (m2 y) fun h => m1 y (by rw [List.mem_singleton.mp h]; exact List.getElem_mem jl), ?_, s4.own nF0⟩
    have nn : ∀ z : Addr, z ∈ [R, F] → z = R ∨ z = F := fun z hz => by simpa using hz
    exact dk1.stM t5 (fun z => (nn _ z).elim (fun e => dR (by simp [e])) fun e => dF (by simp [e])) (fun z => (nn _ z).elim (fun e => dR (by simp [e])) fun e => dF (by simp [e])) (fun z => (nn _ z).elim bR bF)
  · rintro σ H' ⟨⟨u, rfl⟩, rest, found, hr, hf, l1, l2, m1, m2, dk', st⟩
    simp only [tRet, tAndV, tOrV, tNotV, tCB, tCons, tNil, tC, tVar, tChain, rI0, tIfS, tTest, tOp, tUn, rU, rI, tPar3, tBM, tBM0, tM1, gSub, tXm, tCon, tProp, tMethR, rEq, rNe, rIxT, rIxL, decide_true, decide_false, tAnd, tOr, tNot, tB, tSeq, tAsg, gName, tDrop, tNext, tTup, tLst, tIf, tDf, tFld, tMf0, tPart, tSl, tNoPart, tPar, gTup, gLst, gCons, gNil, L2.start, List.map_cons, List.map_nil, List.length_cons, List.length_nil, Nat.zero_add, Nat.sub_self, Nat.reduceAdd, Nat.reduceSub, List.replicate_zero, List.replicate_succ, List.append_nil, List.nil_append, List.cons_append, List.getElem?_cons_zero, List.getElem?_cons_succ, List.set_cons_zero, List.set_cons_succ, Option.some.injEq, exists_and_left, exists_eq_left', exists_eq_left, V.int.injEq, V.bl.injEq, V.str.injEq, V.ref.injEq, List.cons.injEq, and_true, true_and, if_true, if_false, Bool.false_eq_true, reduceCtorEq, Bool.not_true, Bool.not_false, cxOf]
    exact q F found H' st dk' nF0 hf (by simpa using l2) m2
end
end Yk
set_option Elab.async false
set_option linter.all false
set_option maxRecDepth 100000
set_option maxHeartbeats 4000000
/-! the law: deck, rows, boxes -/
namespace Yk
open PySem PySem.Spec PyProof.Rows L2
section
variable {w : World} {K : KF} {mg : Str → Option Value} {base : Heap}
theorem sc_law_deck : FnScope ["_law_script", "_law_cells", "_law_cell"] ["_law_script"] (defScope s_law_deck) := ⟨rfl, rfl, rfl, by decide +kernel, rfl, by decide +kernel, by decide +kernel⟩
def spDeck (K : KF) : Sp := fun vs H Q _ => ∃ (l : Addr) (xs : List Int), vs = [.ref l] ∧ SqL K H l (ivs xs) ∧ xs.length ≤ 1000 ∧ ∀ d a b H', St' [] H H' → Dk H' d a b → Q (.ref d) H'
theorem ok_law_deck (T : Tx w K mg) : Df R.prog w K mg base CX0 1 "_law_deck" (spDeck K) := by
  refine df_of T.d_law_deck T.g_law_deck sc_law_deck (fun _ _ _ _ _ _ us hl => match us, hl with | [_], _ => rfl)
    (fun vs H Q E h => by repeat (first | (obtain ⟨rfl, _⟩ := h; rfl) | (obtain ⟨_, h⟩ := h))) (fun cdv A outer s H vs Q E hr h => ?_)
  have nd := sc_law_deck.nd
  refine ⟨_, (pss_cons (ps_setLc (i := 1) (own := [("_law_cell", 2)]) (g := (gName 2)) (tt := tYes) rfl nd rfl rfl (sw_true rfl rfl rfl (by decide +kernel)) (pi_list (pe_slice sl_list (pv 0) po_none (po_some pe_int))) (blkOk_by (own := [("_law_cell", 2)]) (N := ["_law_script", "_law_cells", "_law_cell"]) (sc := defScope s_law_deck) (by decide +kernel)) (fun _ _ _ _ _ => (pg_name (i := 2) nd rfl (by first | exact Or.inl rfl | exact Or.inr rfl))) (fun _ _ _ _ _ => pts_nil) (fun _ _ _ _ _ => (pe_callB call_abs rfl T.n_abs (by decide +kernel) (pa_cons (pv 2) pa_nil))))
          (pss_one (ps_ret (pe_lst (pa_cons (pe_lc (own := [("_law_cell", 2)]) (g := (gName 2)) rfl nd (pi_list (pv 1)) (blkOk_by (own := [("_law_cell", 2)]) (N := ["_law_script", "_law_cells", "_law_cell"]) (sc := defScope s_law_deck) (by decide +kernel)) (fun _ _ _ _ _ => (pg_name (i := 2) nd rfl (by first | exact Or.inl rfl | exact Or.inr rfl))) (fun _ _ _ _ _ => pts_one (pt_cmpR op_ge (pv 2) (pe_op op_pow pe_int pe_int) (nomark _))) (fun _ _ _ _ _ => (pv 2))) (pa_cons (pe_op op_cat (pv 1) (pe_lst (pa_cons (pe_op op_add pe_int (pe_callB call_len_seq rfl T.n_len PySem.boot_len (pa_cons (pv 1) pa_nil))) pa_nil))) (pa_cons pe_int pa_nil))))))), ?_⟩
  obtain ⟨l, xs, rfl, hl, ln, q⟩ := h
  simp only [tRet, tAndV, tOrV, tNotV, tCB, tCons, tNil, tC, tVar, tChain, rI0, tIfS, tTest, tOp, tUn, rU, rI, tPar3, tBM, tBM0, tM1, gSub, tXm, tCon, tProp, tMethR, rEq, rNe, rIxT, rIxL, decide_true, decide_false, tAnd, tOr, tNot, tB, tSeq, tAsg, gName, tDrop, tNext, tTup, tLst, tIf, tDf, tFld, tMf0, tPart, tSl, tNoPart, tPar, gTup, gLst, gCons, gNil, L2.start, List.map_cons, List.map_nil, List.length_cons, List.length_nil, Nat.zero_add, Nat.sub_self, Nat.reduceAdd, Nat.reduceSub, List.replicate_zero, List.replicate_succ, List.append_nil, List.nil_append, List.cons_append, List.getElem?_cons_zero, List.getElem?_cons_succ, List.set_cons_zero, List.set_cons_succ, Option.some.injEq, exists_and_left, exists_eq_left', exists_eq_left, V.int.injEq, V.bl.injEq, V.str.injEq, V.ref.injEq, List.cons.injEq, and_true, true_and, if_true, if_false, Bool.false_eq_true, reduceCtorEq, Bool.not_true, Bool.not_false, cxOf]
  have ecut : ∃ ys : List Int, cutV (ivs xs) none (some 63) = ivs ys ∧ ys.length ≤ 1000 := by
    unfold cutV
    rw [HT.sIx_none, List.drop_zero, Nat.sub_zero]
    refine ⟨xs.take (HT.sIx (ivs xs).length (ivs xs).length (some 63)), by simp [ivs, List.map_take], ?_⟩
    have := List.length_take_le' (HT.sIx (ivs xs).length (ivs xs).length (some 63)) xs
    omega
  obtain ⟨ys, ey, ly⟩ := ecut
  refine ⟨_, rfl, 63, rfl, l, ivs xs, rfl, hl, fun p1 n1 => ?_⟩
  rw [ey]
  have s1 := (St'.refl (M := []) (H := H)).new (p := p1) (o := .lst (ivs ys)) n1
  have h1 : upd H p1 (.lst (ivs ys)) p1 = some (.lst (ivs ys)) := upd_same
  generalize upd H p1 (.lst (ivs ys)) = H1 at *
  refine ⟨p1, rfl, ⟨_, SqL.of h1⟩, fun D nD => ?_⟩
  refine lc_list (xs := ivs ys) (fun i H' => ∃ zs : List Int, H' D = some (.lst (ivs zs)) ∧ zs.length ≤ i ∧ St' [] H1 H') ⟨[], upd_same, Nat.le_refl _, St'.refl.new nD⟩ (fun i H' _ p => by obtain ⟨zs, _, _, z⟩ := p; exact SqL.of (z.kp _ _ h1 (by simp))) ?_ ?_
  · rintro i x H' hi ⟨zs, hz, lz, st⟩
    obtain ⟨v, hv, rfl⟩ := ivs_get hi
    have il := (List.getElem?_eq_some_iff.mp hv).1
    simp only [wipe, tYes, tCB, tRet, tAndV, tOrV, tNotV, tCB, tCons, tNil, tC, tVar, tChain, rI0, tIfS, tTest, tOp, tUn, rU, rI, tPar3, tBM, tBM0, tM1, gSub, tXm, tCon, tProp, tMethR, rEq, rNe, rIxT, rIxL, decide_true, decide_false, tAnd, tOr, tNot, tB, tSeq, tAsg, gName, tDrop, tNext, tTup, tLst, tIf, tDf, tFld, tMf0, tPart, tSl, tNoPart, tPar, gTup, gLst, gCons, gNil, L2.start, List.map_cons, List.map_nil, List.length_cons, List.length_nil, Nat.zero_add, Nat.sub_self, Nat.reduceAdd, Nat.reduceSub, List.replicate_zero, List.replicate_succ, List.append_nil, List.nil_append, List.cons_append, List.getElem?_cons_zero, List.getElem?_cons_succ, List.set_cons_zero, List.set_cons_succ, Option.some.injEq, exists_and_left, exists_eq_left', exists_eq_left, V.int.injEq, V.bl.injEq, V.str.injEq, V.ref.injEq, List.cons.injEq, and_true, true_and, if_true, if_false, Bool.false_eq_true, reduceCtorEq, Bool.not_true, Bool.not_false, cxOf]
    exact ⟨_, hz, by simp [sizeLine]; omega, zs ++ [if v < 0 then -v else v], by rw [upd_same]; simp [ivs], by simp; omega, st.own nD⟩
  · rintro H2 ⟨zs, hz, lz, s2⟩
    have st2 := s1.trans s2
    simp only [List.length_map] at lz
    refine ⟨_, rfl, D, rfl, ⟨_, SqL.of hz⟩, fun E2 nE => ?_⟩
    refine lc_list (xs := ivs zs) (fun i H' => ∃ ws : List Int, H' E2 = some (.lst (ivs ws)) ∧ ws.length ≤ i ∧ St' [] H2 H') ⟨[], upd_same, Nat.le_refl _, St'.refl.new nE⟩ (fun i H' _ p => by obtain ⟨ws, _, _, z⟩ := p; exact SqL.of (z.kp _ _ hz (by simp))) ?_ ?_
    · rintro i x H' hi ⟨ws, hw, lw, st⟩
      obtain ⟨v, hv, rfl⟩ := ivs_get hi
      have il := (List.getElem?_eq_some_iff.mp hv).1
      simp only [wipe, tYes, tCB, tRet, tAndV, tOrV, tNotV, tCB, tCons, tNil, tC, tVar, tChain, rI0, tIfS, tTest, tOp, tUn, rU, rI, tPar3, tBM, tBM0, tM1, gSub, tXm, tCon, tProp, tMethR, rEq, rNe, rIxT, rIxL, decide_true, decide_false, tAnd, tOr, tNot, tB, tSeq, tAsg, gName, tDrop, tNext, tTup, tLst, tIf, tDf, tFld, tMf0, tPart, tSl, tNoPart, tPar, gTup, gLst, gCons, gNil, L2.start, List.map_cons, List.map_nil, List.length_cons, List.length_nil, Nat.zero_add, Nat.sub_self, Nat.reduceAdd, Nat.reduceSub, List.replicate_zero, List.replicate_succ, List.append_nil, List.nil_append, List.cons_append, List.getElem?_cons_zero, List.getElem?_cons_succ, List.set_cons_zero, List.set_cons_succ, Option.some.injEq, exists_and_left, exists_eq_left', exists_eq_left, V.int.injEq, V.bl.injEq, V.str.injEq, V.ref.injEq, List.cons.injEq, and_true, true_and, if_true, if_false, Bool.false_eq_true, reduceCtorEq, Bool.not_true, Bool.not_false, cxOf]
      refine ⟨⟨by decide, by decide, by decide⟩, ?_⟩
      split
      · exact ⟨_, hw, by simp [sizeLine]; omega, ws ++ [v], by rw [upd_same]; simp [ivs], by simp; omega, st.own nE⟩
      · exact ⟨ws, hw, by omega, st⟩
    · rintro H3 ⟨ws, hw, lw, s3⟩
      have hz3 := s3.kp _ _ hz (by simp)
      have st3 := st2.trans s3
      refine ⟨D, rfl, _, .inl (SqL.of hz3), by decide, fun p4 n4 => ?_⟩
      have s4 := (St'.refl (M := []) (H := H3)).new (p := p4) (o := .lst [.int (11228 + ((ivs zs).length : Int))]) n4
      refine ⟨D, p4, _, _, rfl, rfl, s4.kp _ _ hz3 (by simp), upd_same, by simp [sizeLine]; omega, fun p5 n5 => ⟨by decide, fun p6 n6 => ?_⟩⟩
      have s5 := (St'.refl (M := []) (H := upd H3 p4 (.lst [.int (11228 + ((ivs zs).length : Int))]))).new (p := p5) (o := .lst (ivs zs ++ [.int (11228 + ((ivs zs).length : Int))])) n5
      have s6 := (St'.refl (M := []) (H := upd (upd H3 p4 (.lst [.int (11228 + ((ivs zs).length : Int))])) p5 (.lst (ivs zs ++ [.int (11228 + ((ivs zs).length : Int))])))).new (p := p6) (o := .lst [.ref E2, .ref p5, .int 0]) n6
      have t5 := s4.trans s5
      have hE5 := t5.kp _ _ hw (by simp)
      have h5 : upd (upd H3 p4 (.lst [.int (11228 + ((ivs zs).length : Int))])) p5 (.lst (ivs zs ++ [.int (11228 + ((ivs zs).length : Int))])) p5 = some (.lst (ivs (zs ++ [11228 + ((ivs zs).length : Int)]))) := by rw [upd_same]; simp [ivs]
      have ne5 : E2 ≠ p5 := fun z => by rw [← z] at n5; rw [s4.kp _ _ hw (by simp)] at n5; cases n5
      have h6E := s6.kp _ _ hE5 (by simp)
      have h65 := s6.kp _ _ h5 (by simp)
      refine q p6 E2 p5 _ (st3.trans (t5.trans s6)) ⟨⟨ws, zs ++ [11228 + ((ivs zs).length : Int)], 0, upd_same, h6E, h65, by simp⟩, fun z => ?_, fun z => ?_, ne5⟩
      · rw [z, hE5] at n6; cases n6
      · rw [z, h5] at n6; cases n6
theorem sc_law_divisor : FnScope ["_law_one_here", "_law_other"] ["_law_one_here", "_law_other"] (defScope s_law_divisor) := ⟨rfl, rfl, rfl, by decide +kernel, rfl, by decide +kernel, by decide +kernel⟩
theorem ok_law_divisor (T : Tx w K mg) : Df R.prog w K mg base CX0 1 "_law_divisor" spGcd := by
  refine df_of T.d_law_divisor T.g_law_divisor sc_law_divisor (fun _ _ _ _ _ _ us hl => match us, hl with | [_, _], _ => rfl)
    (fun vs H Q E h => by repeat (first | (obtain ⟨rfl, _⟩ := h; rfl) | (obtain ⟨_, h⟩ := h))) (fun cdv A outer s H vs Q E hr h => ?_)
  have nd := sc_law_divisor.nd
  refine ⟨_, (pss_cons (ps_while (passes_of rfl) (pt_cmpR op_gt (pv 1) pe_int (nomark _)) (pss_one (ps_par (i := 0) (j := 1) rfl nd rfl rfl (by decide) rfl rfl (pa_cons (pv 1) (pa_cons (pe_op op_mod (pv 0) (pv 1)) pa_nil)) (by rfl))))
          (pss_one (ps_ret (pv 0)))), ?_⟩
  obtain ⟨a, b, rfl, ha, hb, q⟩ := h
  refine while_by (fun σ H' => ∃ x y : Int, σ = [some (.int x), some (.int y)] ∧ 0 ≤ x ∧ 0 ≤ y ∧ Int.gcd x y = Int.gcd a b ∧ H' = H) (fun σ _ => match σ with
    | [_, some (.int y)] => y.toNat
    | _ => 0) ⟨a, b, rfl, ha, hb, rfl, rfl⟩ ?_ ?_
  · rintro σ H' ⟨x, y, rfl, hx, hy, e, rfl⟩
    simp only [tRet, tAndV, tOrV, tNotV, tCB, tCons, tNil, tC, tVar, tChain, rI0, tIfS, tTest, tOp, tUn, rU, rI, tPar3, tBM, tBM0, tM1, gSub, tXm, tCon, tProp, tMethR, rEq, rNe, rIxT, rIxL, decide_true, decide_false, tAnd, tOr, tNot, tB, tSeq, tAsg, gName, tDrop, tNext, tTup, tLst, tIf, tDf, tFld, tMf0, tPart, tSl, tNoPart, tPar, gTup, gLst, gCons, gNil, L2.start, List.map_cons, List.map_nil, List.length_cons, List.length_nil, Nat.zero_add, Nat.sub_self, Nat.reduceAdd, Nat.reduceSub, List.replicate_zero, List.replicate_succ, List.append_nil, List.nil_append, List.cons_append, List.getElem?_cons_zero, List.getElem?_cons_succ, List.set_cons_zero, List.set_cons_succ, Option.some.injEq, exists_and_left, exists_eq_left', exists_eq_left, V.int.injEq, V.bl.injEq, V.str.injEq, V.ref.injEq, List.cons.injEq, and_true, true_and, if_true, if_false, Bool.false_eq_true, reduceCtorEq, Bool.not_true, Bool.not_false, cxOf]
    split
    · rename_i c
      have c' : 0 < y := by simpa using c
      refine ⟨c', _, _, ⟨rfl, rfl⟩, ⟨y, x % y, ⟨rfl, rfl⟩, hy, Int.emod_nonneg _ (Int.ne_of_gt c'), ?_⟩, ?_⟩
      · rw [gcd_step hx c', e]
      · have := Int.emod_lt_of_pos x c'
        show (x % y).toNat < y.toNat
        omega
    · rename_i c
      have c' : y = 0 := by
        have : ¬ 0 < y := by simpa using c
        omega
      subst c'
      rw [← e] at q
      have e2 : (Int.gcd x 0 : Int) = x := by
        rw [Int.gcd_zero_right]
        omega
      rw [e2] at q
      exact q
  · intro σ H Q Q' hq h
    obtain ⟨v, e, i, j, h1, h2, k, hk, z⟩ := h
    exact ⟨v, e, i, j, h1, h2, k, hk, hq _ _ z⟩
theorem sc_law_lcm : FnScope ["_law_one_here", "_law_other"] ["_law_one_here", "_law_other"] (defScope s_law_lcm) := ⟨rfl, rfl, rfl, by decide +kernel, rfl, by decide +kernel, by decide +kernel⟩
def spLcm : Sp := fun vs H Q _ => ∃ x y : Int, vs = [.int x, .int y] ∧ 1 ≤ x ∧ x ≤ 1000 ∧ 1 ≤ y ∧ y ≤ 1000 ∧ ∀ r, 1 ≤ r → r ≤ x * y → Q (.int r) H
theorem ok_law_lcm (T : Tx w K mg) (D__law_divisor : Df R.prog w K mg base CX0 1 "_law_divisor" spGcd) : Df R.prog w K mg base CX0 2 "_law_lcm" spLcm := by
  refine df_of T.d_law_lcm T.g_law_lcm sc_law_lcm (fun _ _ _ _ _ _ us hl => match us, hl with | [_, _], _ => rfl)
    (fun vs H Q E h => by repeat (first | (obtain ⟨rfl, _⟩ := h; rfl) | (obtain ⟨_, h⟩ := h))) (fun cdv A outer s H vs Q E hr h => ?_)
  have nd := sc_law_lcm.nd
  refine ⟨_, (pss_one (ps_ret (pe_op op_fdiv (pe_op op_mul (pv 0) (pv 1)) (pe_df D__law_divisor hr (by decide) pass0 (pa_cons (pv 0) (pa_cons (pv 1) pa_nil)))))), ?_⟩
  obtain ⟨x, y, rfl, x1, x2, y1, y2, q⟩ := h
  simp only [tRet, tAndV, tOrV, tNotV, tCB, tCons, tNil, tC, tVar, tChain, rI0, tIfS, tTest, tOp, tUn, rU, rI, tPar3, tBM, tBM0, tM1, gSub, tXm, tCon, tProp, tMethR, rEq, rNe, rIxT, rIxL, decide_true, decide_false, tAnd, tOr, tNot, tB, tSeq, tAsg, gName, tDrop, tNext, tTup, tLst, tIf, tDf, tFld, tMf0, tPart, tSl, tNoPart, tPar, gTup, gLst, gCons, gNil, L2.start, List.map_cons, List.map_nil, List.length_cons, List.length_nil, Nat.zero_add, Nat.sub_self, Nat.reduceAdd, Nat.reduceSub, List.replicate_zero, List.replicate_succ, List.append_nil, List.nil_append, List.cons_append, List.getElem?_cons_zero, List.getElem?_cons_succ, List.set_cons_zero, List.set_cons_succ, Option.some.injEq, exists_and_left, exists_eq_left', exists_eq_left, V.int.injEq, V.bl.injEq, V.str.injEq, V.ref.injEq, List.cons.injEq, and_true, true_and, if_true, if_false, Bool.false_eq_true, reduceCtorEq, Bool.not_true, Bool.not_false, cxOf]
  have g1 : (Int.gcd x y : Int) ∣ x := Int.gcd_dvd_left ..
  have g0 : 1 ≤ (Int.gcd x y : Int) := by
    have := Int.gcd_pos_of_ne_zero_left y (show x ≠ 0 by omega)
    omega
  have g3 : (Int.gcd x y : Int) ≤ x := Int.le_of_dvd (by omega) g1
  refine ⟨.inl ⟨by omega, by omega⟩, x, y, rfl, by omega, by omega, _, rfl, ⟨by omega, by omega⟩, q _ ?_ (Int.ediv_le_self _ (Int.mul_nonneg (by omega) (by omega)))⟩
  have hp : x * 1 ≤ x * y := Int.mul_le_mul_of_nonneg_left y1 (by omega)
  exact (Int.le_ediv_iff_mul_le (by omega)).mpr (by omega)
theorem sc_law_whole : FnScope ["_law_value", "_law_least", "_law_most"] ["_law_value", "_law_least", "_law_most"] (defScope s_law_whole) := ⟨rfl, rfl, rfl, by decide +kernel, rfl, by decide +kernel, by decide +kernel⟩
theorem ok_law_whole (T : Tx w K mg) : Df R.prog w K mg base CX0 1 "_law_whole" spIsInt := by
  refine df_of T.d_law_whole T.g_law_whole sc_law_whole (fun _ _ _ _ _ _ us hl => match us, hl with | [_, _, _], _ => rfl)
    (fun vs H Q E h => by repeat (first | (obtain ⟨rfl, _⟩ := h; rfl) | (obtain ⟨_, h⟩ := h))) (fun cdv A outer s H vs Q E hr h => ?_)
  have nd := sc_law_whole.nd
  refine ⟨_, (pss_one (ps_ret (pe_and (pe_callB call_isi rfl T.n_isinstance (by decide +kernel) (pa_cons (pv 0) (pa_cons (pe_bltn (v := .ty "int") rfl T.n_int (by decide +kernel) rfl) pa_nil))) (pe_and (pe_not (pe_callB call_isi rfl T.n_isinstance (by decide +kernel) (pa_cons (pv 0) (pa_cons (pe_bltn (v := .ty "bool") rfl T.n_bool (by decide +kernel) rfl) pa_nil)))) (pe_one (pe_chain op_le op_le (pv 1) (pv 0) (pv 2))))))), ?_⟩
  obtain ⟨v, lo, hi, rfl, ty, q⟩ := h
  simp only [tRet, tAndV, tOrV, tNotV, tCB, tCons, tNil, tC, tVar, tChain, rI0, tIfS, tTest, tOp, tUn, rU, rI, tPar3, tBM, tBM0, tM1, gSub, tXm, tCon, tProp, tMethR, rEq, rNe, rIxT, rIxL, decide_true, decide_false, tAnd, tOr, tNot, tB, tSeq, tAsg, gName, tDrop, tNext, tTup, tLst, tIf, tDf, tFld, tMf0, tPart, tSl, tNoPart, tPar, gTup, gLst, gCons, gNil, L2.start, List.map_cons, List.map_nil, List.length_cons, List.length_nil, Nat.zero_add, Nat.sub_self, Nat.reduceAdd, Nat.reduceSub, List.replicate_zero, List.replicate_succ, List.append_nil, List.nil_append, List.cons_append, List.getElem?_cons_zero, List.getElem?_cons_succ, List.set_cons_zero, List.set_cons_succ, Option.some.injEq, exists_and_left, exists_eq_left', exists_eq_left, V.int.injEq, V.bl.injEq, V.str.injEq, V.ref.injEq, List.cons.injEq, and_true, true_and, if_true, if_false, Bool.false_eq_true, reduceCtorEq, Bool.not_true, Bool.not_false, cxOf]
  refine isi_int ty ?_
  cases ty with
  | int i =>
    simp only [isI, tRet, tAndV, tOrV, tNotV, tCB, tCons, tNil, tC, tVar, tChain, rI0, tIfS, tTest, tOp, tUn, rU, rI, tPar3, tBM, tBM0, tM1, gSub, tXm, tCon, tProp, tMethR, rEq, rNe, rIxT, rIxL, decide_true, decide_false, tAnd, tOr, tNot, tB, tSeq, tAsg, gName, tDrop, tNext, tTup, tLst, tIf, tDf, tFld, tMf0, tPart, tSl, tNoPart, tPar, gTup, gLst, gCons, gNil, L2.start, List.map_cons, List.map_nil, List.length_cons, List.length_nil, Nat.zero_add, Nat.sub_self, Nat.reduceAdd, Nat.reduceSub, List.replicate_zero, List.replicate_succ, List.append_nil, List.nil_append, List.cons_append, List.getElem?_cons_zero, List.getElem?_cons_succ, List.set_cons_zero, List.set_cons_succ, Option.some.injEq, exists_and_left, exists_eq_left', exists_eq_left, V.int.injEq, V.bl.injEq, V.str.injEq, V.ref.injEq, List.cons.injEq, and_true, true_and, if_true, if_false, Bool.false_eq_true, reduceCtorEq, Bool.not_true, Bool.not_false, cxOf]
    refine isi_bool (.int i) ?_
    simp only [isB, tRet, tAndV, tOrV, tNotV, tCB, tCons, tNil, tC, tVar, tChain, rI0, tIfS, tTest, tOp, tUn, rU, rI, tPar3, tBM, tBM0, tM1, gSub, tXm, tCon, tProp, tMethR, rEq, rNe, rIxT, rIxL, decide_true, decide_false, tAnd, tOr, tNot, tB, tSeq, tAsg, gName, tDrop, tNext, tTup, tLst, tIf, tDf, tFld, tMf0, tPart, tSl, tNoPart, tPar, gTup, gLst, gCons, gNil, L2.start, List.map_cons, List.map_nil, List.length_cons, List.length_nil, Nat.zero_add, Nat.sub_self, Nat.reduceAdd, Nat.reduceSub, List.replicate_zero, List.replicate_succ, List.append_nil, List.nil_append, List.cons_append, List.getElem?_cons_zero, List.getElem?_cons_succ, List.set_cons_zero, List.set_cons_succ, Option.some.injEq, exists_and_left, exists_eq_left', exists_eq_left, V.int.injEq, V.bl.injEq, V.str.injEq, V.ref.injEq, List.cons.injEq, and_true, true_and, if_true, if_false, Bool.false_eq_true, reduceCtorEq, Bool.not_true, Bool.not_false, cxOf]
    unfold inR at q
    dsimp only at q
    by_cases c : lo ≤ i
    · rw [if_pos (decide_eq_true c)]
      rw [decide_eq_true c] at q
      simpa using q
    · rw [if_neg (by simpa using c)]
      rw [decide_eq_false c] at q
      simpa using q
  | bl b =>
    simp only [isI, V.bl.injEq, exists_eq_left', if_true]
    refine isi_bool (.bl b) ?_
    simp only [isB, V.bl.injEq, exists_eq_left', Bool.not_true, if_false, Bool.false_eq_true]
    exact q
  | _ =>
    simp only [isI, V.bl.injEq, exists_eq_left', if_false, Bool.false_eq_true]
    exact q
theorem sc_law_with : FnScope ["_law_sides_here", "_law_axis", "_law_side"] ["_law_sides_here", "_law_axis", "_law_side"] (defScope s_law_with) := ⟨rfl, rfl, rfl, by decide +kernel, rfl, by decide +kernel, by decide +kernel⟩
theorem ok_law_with (T : Tx w K mg) : Df R.prog w K mg base CX0 1 "_law_with" spWith := by
  refine df_of T.d_law_with T.g_law_with sc_law_with (fun _ _ _ _ _ _ us hl => match us, hl with | [_, _, _], _ => rfl)
    (fun vs H Q E h => by repeat (first | (obtain ⟨rfl, _⟩ := h; rfl) | (obtain ⟨_, h⟩ := h))) (fun cdv A outer s H vs Q E hr h => ?_)
  have nd := sc_law_with.nd
  refine ⟨_, (pss_one (ps_ret (pe_op op_catA (pe_op op_catA (pe_slice sl_tupA (pv 0) po_none (po_some (pv 1))) (pe_tup (pa_cons (pv 2) pa_nil))) (pe_slice sl_tupA (pv 0) (po_some (pe_op op_add (pv 1) pe_int)) po_none)))), ?_⟩
  obtain ⟨a, xs, i, v, rfl, ha, hi, n4, q⟩ := h
  simp only [tRet, tAndV, tOrV, tNotV, tCB, tCons, tNil, tC, tVar, tChain, rI0, tIfS, tTest, tOp, tUn, rU, rI, tPar3, tBM, tBM0, tM1, gSub, tXm, tCon, tProp, tMethR, rEq, rNe, rIxT, rIxL, decide_true, decide_false, tAnd, tOr, tNot, tB, tSeq, tAsg, gName, tDrop, tNext, tTup, tLst, tIf, tDf, tFld, tMf0, tPart, tSl, tNoPart, tPar, gTup, gLst, gCons, gNil, L2.start, List.map_cons, List.map_nil, List.length_cons, List.length_nil, Nat.zero_add, Nat.sub_self, Nat.reduceAdd, Nat.reduceSub, List.replicate_zero, List.replicate_succ, List.append_nil, List.nil_append, List.cons_append, List.getElem?_cons_zero, List.getElem?_cons_succ, List.set_cons_zero, List.set_cons_succ, Option.some.injEq, exists_and_left, exists_eq_left', exists_eq_left, V.int.injEq, V.bl.injEq, V.str.injEq, V.ref.injEq, List.cons.injEq, and_true, true_and, if_true, if_false, Bool.false_eq_true, reduceCtorEq, Bool.not_true, Bool.not_false, cxOf]
  refine sl_at ha fun p H1 s1 h1 => ?_
  rw [cut_to _ _ (by simp; omega)] at h1
  refine ⟨by decide, fun p2 n2 => ?_⟩
  have s2 := s1.new (p := p2) (o := .tup [.int v]) n2
  refine cat_at ((St'.refl (M := []) |>.new n2).tp _ _ h1) upd_same (by simp; omega) fun p3 H3 s3 h3 => ?_
  have s4 := s2.trans s3
  refine sl_at (s4.tp _ _ ha) fun p5 H5 s5 h5 => ?_
  rw [show ((i : Int) + 1) = ((i + 1 : Nat) : Int) from rfl, cut_from _ _ (by simp; omega)] at h5
  refine cat_at (s5.tp _ _ h3) h5 (by simp; omega) fun p6 H6 s6 h6 => ?_
  refine q p6 H6 (s4.trans (s5.trans s6)) ?_
  have e : ivs (xs.set i v) = (ivs xs).set i (.int v) := List.map_set ..
  rw [h6, e, ← set_parts (ivs xs) i (.int v) (by simp; exact hi)]
theorem sc_law_sides : FnScope ["_law_deck_here", "_law_axes", "_law_most", "_law_axis"] ["_law_deck_here", "_law_axes", "_law_most"] (defScope s_law_sides) := ⟨rfl, rfl, rfl, by decide +kernel, rfl, by decide +kernel, by decide +kernel⟩
def spSides : Sp := fun vs H Q _ => ∃ (d a b : Addr) (n : Nat) (m : Int), vs = [.ref d, .int n, .int m] ∧ Dk H d a b ∧ 1 ≤ n ∧ n ≤ 4 ∧ 1 ≤ m ∧ m ≤ 1000 ∧ ∀ p xs H', St' [d, a] H H' → Dk H' d a b → H' p = some (.tup (ivs xs)) → xs.length = n → Sd xs m → Q (.ref p) H'
theorem ok_law_sides (T : Tx w K mg) (D__law_draw : Df R.prog w K mg base CX0 1 "_law_draw" spDraw) : Df R.prog w K mg base CX0 2 "_law_sides" spSides := by
  refine df_of T.d_law_sides T.g_law_sides sc_law_sides (fun _ _ _ _ _ _ us hl => match us, hl with | [_, _, _], _ => rfl)
    (fun vs H Q E h => by repeat (first | (obtain ⟨rfl, _⟩ := h; rfl) | (obtain ⟨_, h⟩ := h))) (fun cdv A outer s H vs Q E hr h => ?_)
  have nd := sc_law_sides.nd
  refine ⟨_, (pss_one (ps_ret (pe_callTy call_tuple_of rfl T.n_tuple (by decide +kernel) (pa_cons (pe_lc (own := [("_law_axis", 3)]) (g := (gName 3)) (tt := tYes) rfl nd (pi_range1 rfl T.n_range (pa_cons (pv 1) pa_nil)) (blkOk_by (own := [("_law_axis", 3)]) (N := ["_law_deck_here", "_law_axes", "_law_most", "_law_axis"]) (sc := defScope s_law_sides) (by decide +kernel)) (fun _ _ _ _ _ => (pg_name (i := 3) nd rfl (by first | exact Or.inl rfl | exact Or.inr rfl))) (fun _ _ _ _ _ => pts_nil) (fun _ _ _ _ _ => (pe_op op_add pe_int (pe_df D__law_draw hr (by decide) pass0 (pa_cons (pv 0) (pa_cons (pv 2) pa_nil)))))) pa_nil)))), ?_⟩
  obtain ⟨d, a, b, n, m, rfl, dk, n1, n4, m1, m2, q⟩ := h
  simp only [tRet, tAndV, tOrV, tNotV, tCB, tCons, tNil, tC, tVar, tChain, rI0, tIfS, tTest, tOp, tUn, rU, rI, tPar3, tBM, tBM0, tM1, gSub, tXm, tCon, tProp, tMethR, rEq, rNe, rIxT, rIxL, decide_true, decide_false, tAnd, tOr, tNot, tB, tSeq, tAsg, gName, tDrop, tNext, tTup, tLst, tIf, tDf, tFld, tMf0, tPart, tSl, tNoPart, tPar, gTup, gLst, gCons, gNil, L2.start, List.map_cons, List.map_nil, List.length_cons, List.length_nil, Nat.zero_add, Nat.sub_self, Nat.reduceAdd, Nat.reduceSub, List.replicate_zero, List.replicate_succ, List.append_nil, List.nil_append, List.cons_append, List.getElem?_cons_zero, List.getElem?_cons_succ, List.set_cons_zero, List.set_cons_succ, Option.some.injEq, exists_and_left, exists_eq_left', exists_eq_left, V.int.injEq, V.bl.injEq, V.str.injEq, V.ref.injEq, List.cons.injEq, and_true, true_and, if_true, if_false, Bool.false_eq_true, reduceCtorEq, Bool.not_true, Bool.not_false, cxOf]
  refine ⟨_, rfl, _, rfl, by omega, by omega, fun D nD => ?_⟩
  obtain ⟨as, bs, c, hd, ha, hb, nb⟩ := dk.ex
  have dD : D ∉ [d, a] := by
    intro z
    simp at z
    rcases z with rfl | rfl
    · rw [hd] at nD; cases nD
    · rw [ha] at nD; cases nD
  have bD : b ≠ D := fun z => by rw [z, nD] at hb; cases hb
  have s0 := (St'.refl (M := []) (H := H)).new (p := D) (o := .lst []) nD
  refine lc_range (fun i H' => ∃ xs : List Int, H' D = some (.lst (ivs xs)) ∧ xs.length = i ∧ (∀ x ∈ xs, 1 ≤ x ∧ x ≤ m) ∧ Dk H' d a b ∧ St' [d, a] H H') ⟨[], upd_same, rfl, by simp, dk.st s0, s0.w0⟩ ?_ ?_
  · rintro i H' hi ⟨xs, hx, lx, ax, dk1, st⟩
    simp only [wipe, tYes, tCB, tRet, tAndV, tOrV, tNotV, tCB, tCons, tNil, tC, tVar, tChain, rI0, tIfS, tTest, tOp, tUn, rU, rI, tPar3, tBM, tBM0, tM1, gSub, tXm, tCon, tProp, tMethR, rEq, rNe, rIxT, rIxL, decide_true, decide_false, tAnd, tOr, tNot, tB, tSeq, tAsg, gName, tDrop, tNext, tTup, tLst, tIf, tDf, tFld, tMf0, tPart, tSl, tNoPart, tPar, gTup, gLst, gCons, gNil, L2.start, List.map_cons, List.map_nil, List.length_cons, List.length_nil, Nat.zero_add, Nat.sub_self, Nat.reduceAdd, Nat.reduceSub, List.replicate_zero, List.replicate_succ, List.append_nil, List.nil_append, List.cons_append, List.getElem?_cons_zero, List.getElem?_cons_succ, List.set_cons_zero, List.set_cons_succ, Option.some.injEq, exists_and_left, exists_eq_left', exists_eq_left, V.int.injEq, V.bl.injEq, V.str.injEq, V.ref.injEq, List.cons.injEq, and_true, true_and, if_true, if_false, Bool.false_eq_true, reduceCtorEq, Bool.not_true, Bool.not_false, cxOf]
    refine ⟨d, a, b, m, rfl, dk1, by omega, by omega, fun r H2 r0 r1 s2 dk2 => ?_⟩
    have hx2 := s2.kp _ _ hx dD
    have s3 : St' [D] H2 (upd H2 D (.lst (ivs xs ++ [.int (1 + r)]))) := St'.refl.putL (by simp) hx2
    refine ⟨_, rfl, _, hx2, by simp [sizeLine]; omega, xs ++ [1 + r], by rw [upd_same]; simp [ivs], by simp [lx], ?_, ?_, (st.trans s2).own nD⟩
    · intro x hx
      rcases List.mem_append.mp hx with h | h
      · exact ax x h
      · have := List.mem_singleton.mp h
        omega
    · refine dk2.stM s3 (fun z => dD ?_) (fun z => dD ?_) (by simp; exact bD)
      · simp at z; simp [z]
      · simp at z; simp [z]
  · rintro H' ⟨xs, hx, lx, ax, dk1, st⟩
    have lx' : xs.length = n := by omega
    refine ⟨D, rfl, _, .inl ⟨SqL.of hx, fun l nl => ?_⟩⟩
    have s2 := (St'.refl (M := []) (H := H')).new (p := l) (o := .tup (ivs xs)) nl
    exact q l xs _ (st.trans s2.w0) (dk1.st s2) upd_same lx' ⟨by omega, by omega, ax⟩
theorem sc_law_pair : FnScope ["_law_deck_here", "_law_axes", "_law_most", "_law_one_here", "_law_other", "_law_at"] ["_law_deck_here", "_law_axes", "_law_most"] (defScope s_law_pair) := ⟨rfl, rfl, rfl, by decide +kernel, rfl, by decide +kernel, by decide +kernel⟩
def spPairL : Sp := fun vs H Q _ => ∃ (d a b : Addr) (n : Nat) (m : Int), vs = [.ref d, .int n, .int m] ∧ Dk H d a b ∧ 1 ≤ n ∧ n ≤ 4 ∧ 1 ≤ m ∧ m ≤ 1000 ∧ ∀ p x0 x1 H', St' [d, a] H H' → Dk H' d a b → PairAt H' p x0 x1 → x0.length = n → x1.length = n → Sd x0 m → Sd x1 m → Q (.ref p) H'
theorem ok_law_pair (T : Tx w K mg) (D__law_draw : Df R.prog w K mg base CX0 1 "_law_draw" spDraw) (D__law_sides : Df R.prog w K mg base CX0 2 "_law_sides" spSides) : Df R.prog w K mg base CX0 3 "_law_pair" spPairL := by
  refine df_of T.d_law_pair T.g_law_pair sc_law_pair (fun _ _ _ _ _ _ us hl => match us, hl with | [_, _, _], _ => rfl)
    (fun vs H Q E h => by repeat (first | (obtain ⟨rfl, _⟩ := h; rfl) | (obtain ⟨_, h⟩ := h))) (fun cdv A outer s H vs Q E hr h => ?_)
  have nd := sc_law_pair.nd
  refine ⟨_, (pss_cons (ps_par (i := 3) (j := 4) rfl nd rfl rfl (by decide) rfl rfl (pa_cons (pe_df D__law_sides hr (by decide) pass0 (pa_cons (pv 0) (pa_cons (pv 1) (pa_cons (pv 2) pa_nil)))) (pa_cons (pe_df D__law_sides hr (by decide) pass0 (pa_cons (pv 0) (pa_cons (pv 1) (pa_cons (pv 2) pa_nil)))) pa_nil)) (by rfl))
          (pss_cons (ps_if (pt_cmpR op_eq (pe_df D__law_draw hr (by decide) pass0 (pa_cons (pv 0) (pa_cons pe_int pa_nil))) pe_int (nomark _)) (pss_cons (ps_set (i := 5) nd rfl (by first | exact Or.inl rfl | exact Or.inr rfl) (pe_df D__law_draw hr (by decide) pass0 (pa_cons (pv 0) (pa_cons (pv 1) pa_nil))))
          (pss_one (ps_set (i := 4) nd rfl (by first | exact Or.inl rfl | exact Or.inr rfl) (pe_op op_catA (pe_op op_catA (pe_slice sl_tupA (pv 3) po_none (po_some (pv 5))) (pe_tup (pa_cons (pe_op op_add pe_int (pe_df D__law_draw hr (by decide) pass0 (pa_cons (pv 0) (pa_cons (pv 2) pa_nil)))) pa_nil))) (pe_slice sl_tupA (pv 3) (po_some (pe_op op_add (pv 5) pe_int)) po_none))))) pss_nil)
          (pss_one (ps_ret (pe_tup (pa_cons (pv 3) (pa_cons (pv 4) pa_nil))))))), ?_⟩
  obtain ⟨d, a, b, n, m, rfl, dk, n1, n4, m1, m2, q⟩ := h
  simp only [tRet, tAndV, tOrV, tNotV, tCB, tCons, tNil, tC, tVar, tChain, rI0, tIfS, tTest, tOp, tUn, rU, rI, tPar3, tBM, tBM0, tM1, gSub, tXm, tCon, tProp, tMethR, rEq, rNe, rIxT, rIxL, decide_true, decide_false, tAnd, tOr, tNot, tB, tSeq, tAsg, gName, tDrop, tNext, tTup, tLst, tIf, tDf, tFld, tMf0, tPart, tSl, tNoPart, tPar, gTup, gLst, gCons, gNil, L2.start, List.map_cons, List.map_nil, List.length_cons, List.length_nil, Nat.zero_add, Nat.sub_self, Nat.reduceAdd, Nat.reduceSub, List.replicate_zero, List.replicate_succ, List.append_nil, List.nil_append, List.cons_append, List.getElem?_cons_zero, List.getElem?_cons_succ, List.set_cons_zero, List.set_cons_succ, Option.some.injEq, exists_and_left, exists_eq_left', exists_eq_left, V.int.injEq, V.bl.injEq, V.str.injEq, V.ref.injEq, List.cons.injEq, and_true, true_and, if_true, if_false, Bool.false_eq_true, reduceCtorEq, Bool.not_true, Bool.not_false, cxOf]
  refine ⟨d, a, b, n, m, rfl, dk, n1, n4, m1, m2, fun p0 x0 H1 s1 dk1 h0 l0 sd0 => ?_⟩
  refine ⟨d, a, b, n, m, rfl, dk1, n1, n4, m1, m2, fun p1 x1 H2 s2 dk2 h1 l1 sd1 => ⟨_, _, ⟨rfl, rfl⟩, ?_⟩⟩
  have st2 := s1.trans s2
  refine ⟨d, a, b, 3, rfl, dk2, by decide, by decide, fun r H3 _ _ s3 dk3 => ⟨rfl, ?_⟩⟩
  have st3 := st2.trans s3
  have h03 := (s2.trans s3).tp _ _ h0
  have h13 := s3.tp _ _ h1
  by_cases z : r = 0
  · rw [if_pos (by simp [z])]
    refine ⟨d, a, b, n, rfl, dk3, by omega, by omega, fun i H4 i0 i1 s4 dk4 => ?_⟩
    have st4 := st3.trans s4
    have h04 := s4.tp _ _ h03
    obtain ⟨k, rfl⟩ := Int.eq_ofNat_of_zero_le i0
    have kl : k < x0.length := by omega
    refine ⟨_, rfl, sl_at h04 fun p5 H5 s5 h5 => ?_⟩
    rw [cut_to _ _ (by simp; omega)] at h5
    refine ⟨d, a, b, m, rfl, dk4.st s5, by omega, by omega, fun r2 H6 r20 r21 s6 dk6 => ⟨_, rfl, by decide, fun p7 n7 => ?_⟩⟩
    have s7 := (St'.refl (M := []) (H := H6)).new (p := p7) (o := .tup [.int (1 + r2)]) n7
    refine cat_at (s7.tp _ _ (s6.tp _ _ h5)) upd_same (by simp; omega) fun p8 H8 s8 h8 => ?_
    have t8 := ((s5.w0.trans s6).trans s7.w0).trans s8.w0
    refine ⟨_, rfl, sl_at (t8.tp _ _ h04) fun p9 H9 s9 h9 => ?_⟩
    rw [show ((k : Int) + 1) = ((k + 1 : Nat) : Int) from rfl, cut_from _ _ (by simp; omega)] at h9
    refine cat_at (s9.tp _ _ h8) h9 (by simp; omega) fun pa Ha sa hra => ⟨by decide, fun pb nb' => ?_⟩
    have sb := (St'.refl (M := []) (H := Ha)).new (p := pb) (o := .tup [.ref p0, .ref pa]) nb'
    have tb := ((t8.trans s9.w0).trans sa.w0).trans sb.w0
    have e : ivs (x0.set k (1 + r2)) = (ivs x0).set k (.int (1 + r2)) := List.map_set ..
    have hpa : upd Ha pb (.tup [.ref p0, .ref pa]) pa = some (.tup (ivs (x0.set k (1 + r2)))) := by
      refine sb.tp _ _ ?_
      rw [hra, e, ← set_parts (ivs x0) k (.int (1 + r2)) (by simp; exact kl)]
    refine q pb x0 (x0.set k (1 + r2)) _ (st4.trans tb) ((((dk6.st s7).st s8).st s9).st (sa.trans sb)) ⟨p0, pa, upd_same, tb.tp _ _ h04, hpa⟩ l0 (by simp [l0]) sd0 ⟨by simp; omega, by simp; omega, fun x hx => ?_⟩
    rcases List.mem_or_eq_of_mem_set hx with h | h
    · exact sd0.all x h
    · omega
  · rw [if_neg (by simp [z])]
    refine ⟨by decide, fun p np => ?_⟩
    have s4 := (St'.refl (M := []) (H := H3)).new (p := p) (o := .tup [.ref p0, .ref p1]) np
    exact q p x0 x1 _ (st3.trans s4.w0) (dk3.st s4) ⟨p0, p1, upd_same, s4.tp _ _ h03, s4.tp _ _ h13⟩ l0 l1 sd0 sd1
end
end Yk
set_option Elab.async false
set_option linter.all false
set_option maxRecDepth 100000
set_option maxHeartbeats 4000000
/-! the law: odd values -/
namespace Yk
open PySem PySem.Spec PyProof.Rows L2
def OdS (H : Hp) (v : V) : Prop := ∃ o, OdV H v o
theorem OdS.st {M : List Addr} {H H' : Hp} {v : V} (h : OdS H v) (s : St' M H H') : OdS H' v := h.elim fun o z => ⟨o, z.st s⟩
theorem OdS.ty {H : Hp} {v : V} (h : OdS H v) : TyV H v := h.elim fun _ z => z.ty
/-- an expression that makes such a value -/
def EvO (te : TE) : Prop := ∀ (σ : L2.St) (H : Hp) (Q : VK), (∀ v H', St' [] H H' → OdS H' v → Q v H') → te σ H Q
def EvA (n : Nat) (ta : TA) : Prop := ∀ (σ : L2.St) (H : Hp) (Q : List V → Hp → Prop), (∀ vs H', St' [] H H' → (∀ v ∈ vs, OdS H' v) → vs.length = n → Q vs H') → ta σ H Q
theorem EvA.nil : EvA 0 tNil := fun σ H Q q => q [] H .refl (by simp) rfl
theorem EvA.cons {n : Nat} {te : TE} {ta : TA} (h : EvO te) (k : EvA n ta) : EvA (n + 1) (tCons te ta) := fun σ H Q q => h σ H _ fun v H1 s1 o1 => k σ H1 _ fun vs H2 s2 o2 l2 => q (v :: vs) H2 (s1.trans s2) (fun x hx => by
  rcases List.mem_cons.mp hx with rfl | hx
  · exact o1.st s2
  · exact o2 x hx) (by simp [l2])
theorem EvO.non : EvO (tC .non) := fun σ H Q q => q _ H .refl ⟨_, .oth .non rfl⟩
theorem EvO.bl (b : Bool) : EvO (tC (.bl b)) := fun σ H Q q => q _ H .refl ⟨_, .oth (.bl b) rfl⟩
theorem EvO.int (i : Int) : EvO (tC (.int i)) := fun σ H Q q => q _ H .refl ⟨_, .oth (.int i) rfl⟩
theorem EvO.str (x : Str) : EvO (tC (.str x)) := fun σ H Q q => q _ H .refl ⟨_, .oth (.str x) rfl⟩
theorem EvO.neg (i : Int) : EvO (tUn (rU fun i => .int (-i)) (tC (.int i))) := fun σ H Q q => ⟨i, rfl, q _ H .refl ⟨_, .oth (.int _) rfl⟩⟩
theorem EvO.pow : EvO (tOp (rI CPow fun i j => .int (i ^ j.toNat)) (tC (.int 10)) (tC (.int 30))) := fun σ H Q q => ⟨10, 30, rfl, rfl, ⟨by decide, by decide, by decide⟩, q _ H .refl ⟨_, .oth (.int _) rfl⟩⟩
theorem EvO.tup {n : Nat} {ta : TA} (h : EvA n ta) (hn : n ≤ 50) : EvO (tTup ta) := fun σ H Q q => h σ H _ fun vs H1 s1 o1 l1 => ⟨by rw [l1]; exact Nat.le_trans hn (by decide), fun p np => by
  have s2 := (St'.refl (M := []) (H := H1)).new (p := p) (o := .tup vs) np
  exact q _ _ (s1.trans s2) ⟨_, .tup upd_same (fun x hx => ((o1 x hx).st s2).ty) (by omega)⟩⟩
theorem EvO.tup0 : EvO (tTup tNil) := .tup .nil (by decide)
theorem EvO.tup1 {a : TE} (h : EvO a) : EvO (tTup (tCons a tNil)) := .tup (.cons h .nil) (by decide)
theorem EvO.tup2 {a b : TE} (h : EvO a) (k : EvO b) : EvO (tTup (tCons a (tCons b tNil))) := .tup (.cons h (.cons k .nil)) (by decide)
theorem EvO.tup3 {a b c : TE} (h : EvO a) (k : EvO b) (l : EvO c) : EvO (tTup (tCons a (tCons b (tCons c tNil)))) := .tup (.cons h (.cons k (.cons l .nil))) (by decide)
theorem EvO.nilL : EvO (tLst tNil) := fun σ H Q q => ⟨by decide, fun p np => q _ _ (St'.refl.new np) ⟨_, .oth (.lst upd_same) (isTp_fL upd_same)⟩⟩
theorem EvO.newD : EvO tDNewK := fun σ H Q q => fun p np => q _ _ (St'.refl.new np) ⟨_, .oth (.dct upd_same) (isTp_fD upd_same)⟩
theorem asgL {n i : Nat} {ta : TA} {tb : TS} {D : Ends} {σ : L2.St} {H : Hp} (ev : EvA n ta) (hn : n ≤ 100) (k : ∀ p vs H', St' [] H H' → H' p = some (.lst vs) → (∀ v ∈ vs, OdS H' v) → vs.length = n → tb D (σ.set i (some (.ref p))) H') : tSeq (tAsg (tLst ta) (gName i)) tb D σ H :=
  ev σ H _ fun vs H1 s1 o1 l1 => ⟨by rw [l1]; exact Nat.le_trans hn (by decide), fun p np => by
    have s2 := (St'.refl (M := []) (H := H1)).new (p := p) (o := .lst vs) np
    exact k p vs _ (s1.trans s2) upd_same (fun v hv => (o1 v hv).st s2) l1⟩
theorem catL {n j m : Nat} {ta : TA} {σ : L2.St} {H : Hp} {Q : VK} {q : Addr} {us : List V} (ev : EvA n ta) (hn : n ≤ 100) (hq : σ[j]? = some (some (.ref q))) (hu : H q = some (.lst us)) (ou : ∀ v ∈ us, OdS H v) (lu : us.length = m) (hm : m ≤ 100)
    (k : ∀ p vs H', St' [] H H' → H' p = some (.lst vs) → H p = none → (∀ v ∈ vs, OdS H' v) → vs.length = m + n → Q (.ref p) H') : tOp rCat (tVar j) (tLst ta) σ H Q :=
  ⟨_, hq, ev σ H _ fun vs H1 s1 o1 l1 => ⟨by rw [l1]; exact Nat.le_trans hn (by decide), fun p np => by
    have s2 := (St'.refl (M := []) (H := H1)).new (p := p) (o := .lst vs) np
    have st2 := s1.trans s2
    refine ⟨q, p, us, vs, rfl, rfl, st2.kp _ _ hu (by simp), upd_same, by simp [sizeLine]; omega, fun r nr => ?_⟩
    have s3 := (St'.refl (M := []) (H := upd H1 p (.lst vs))).new (p := r) (o := .lst (us ++ vs)) nr
    refine k r (us ++ vs) _ (st2.trans s3) upd_same (st2.free nr) (fun v hv => ?_) (by simp [lu, l1])
    rcases List.mem_append.mp hv with h | h
    · exact (ou v h).st (st2.trans s3)
    · exact (o1 v h).st (s2.trans s3)⟩⟩
section
variable {w : World} {K : KF} {mg : Str → Option Value} {base : Heap}
theorem sc_law_odd : FnScope ["_law_deck_here", "_law_some"] ["_law_deck_here"] (defScope s_law_odd) := ⟨rfl, rfl, rfl, by decide +kernel, rfl, by decide +kernel, by decide +kernel⟩
def spOdd : Sp := fun vs H Q _ => ∃ (d a b : Addr), vs = [.ref d] ∧ Dk H d a b ∧ ∀ v H', St' [d, a] H H' → Dk H' d a b → OdS H' v → Q v H'
theorem ok_law_odd (T : Tx w K mg) (D__law_one : Df R.prog w K mg base CX0 2 "_law_one" spOne) : Df R.prog w K mg base CX0 3 "_law_odd" spOdd := by
  refine df_of T.d_law_odd T.g_law_odd sc_law_odd (fun _ _ _ _ _ _ us hl => match us, hl with | [_], _ => rfl)
    (fun vs H Q E h => by repeat (first | (obtain ⟨rfl, _⟩ := h; rfl) | (obtain ⟨_, h⟩ := h))) (fun cdv A outer s H vs Q E hr h => ?_)
  have nd := sc_law_odd.nd
  refine ⟨_, (pss_cons (ps_set (i := 1) nd rfl (by first | exact Or.inl rfl | exact Or.inr rfl) (pe_lst (pa_cons pe_non (pa_cons pe_bl (pa_cons pe_bl (pa_cons pe_int (pa_cons pe_int (pa_cons pe_int (pa_cons (pe_un un_neg pe_int) (pa_cons (pe_op op_pow pe_int pe_int) (pa_cons pe_str (pa_cons pe_str (pa_cons pe_str (pa_cons pe_str (pa_cons (pe_tup pa_nil) (pa_cons (pe_lst pa_nil) (pa_cons pe_dnewK (pa_cons (pe_tup (pa_cons pe_int pa_nil)) (pa_cons (pe_tup (pa_cons pe_int pa_nil)) (pa_cons (pe_tup (pa_cons pe_int (pa_cons pe_int pa_nil))) (pa_cons (pe_tup (pa_cons pe_int (pa_cons pe_int pa_nil))) pa_nil)))))))))))))))))))))
          (pss_cons (ps_set (i := 1) nd rfl (by first | exact Or.inl rfl | exact Or.inr rfl) (pe_op op_cat (pv 1) (pe_lst (pa_cons (pe_tup (pa_cons pe_bl pa_nil)) (pa_cons (pe_tup (pa_cons pe_int (pa_cons (pe_tup (pa_cons pe_int pa_nil)) pa_nil))) (pa_cons (pe_tup (pa_cons pe_int (pa_cons (pe_tup (pa_cons pe_int (pa_cons pe_int pa_nil))) pa_nil))) (pa_cons (pe_tup (pa_cons pe_int (pa_cons (pe_tup (pa_cons pe_int (pa_cons pe_int pa_nil))) pa_nil))) (pa_cons (pe_tup (pa_cons pe_int (pa_cons (pe_tup (pa_cons pe_int (pa_cons pe_int pa_nil))) (pa_cons pe_int pa_nil)))) (pa_cons (pe_tup (pa_cons (pe_tup (pa_cons pe_int (pa_cons pe_int pa_nil))) (pa_cons pe_int pa_nil))) (pa_cons (pe_tup (pa_cons (pe_tup (pa_cons pe_int pa_nil)) (pa_cons pe_int pa_nil))) (pa_cons (pe_tup (pa_cons pe_str (pa_cons pe_int pa_nil))) pa_nil)))))))))))
          (pss_one (ps_ret (pe_df D__law_one hr (by decide) pass0 (pa_cons (pv 0) (pa_cons (pe_op op_cat (pv 1) (pe_lst (pa_cons (pe_tup (pa_cons pe_non pa_nil)) (pa_cons (pe_tup (pa_cons (pe_un un_neg pe_int) pa_nil)) (pa_cons (pe_tup (pa_cons pe_int (pa_cons (pe_tup (pa_cons (pe_un un_neg pe_int) pa_nil)) pa_nil))) (pa_cons (pe_tup (pa_cons pe_int (pa_cons (pe_tup (pa_cons pe_bl (pa_cons pe_int pa_nil))) pa_nil))) (pa_cons (pe_tup (pa_cons pe_int (pa_cons pe_int pa_nil))) (pa_cons (pe_tup (pa_cons (pe_tup (pa_cons pe_int (pa_cons pe_int pa_nil))) (pa_cons (pe_tup (pa_cons pe_int (pa_cons pe_int pa_nil))) pa_nil))) (pa_cons (pe_tup (pa_cons (pe_tup (pa_cons pe_int pa_nil)) (pa_cons (pe_tup (pa_cons pe_int pa_nil)) pa_nil))) pa_nil))))))))) pa_nil))))))), ?_⟩
  obtain ⟨d, a, b, rfl, dk, q⟩ := h
  refine asgL (n := 19) (by repeat (first | exact EvA.nil | refine EvA.cons ?_ ?_ | exact EvO.non | exact EvO.bl _ | exact EvO.int _ | exact EvO.str _ | exact EvO.neg _ | exact EvO.pow | exact EvO.nilL | exact EvO.newD | exact EvO.tup0 | refine EvO.tup1 ?_ | refine EvO.tup2 ?_ ?_ | refine EvO.tup3 ?_ ?_ ?_ | decide)) (by decide) fun p1 vs1 H1 s1 h1 o1 l1 => ?_
  refine catL (n := 8) (m := 19) (by repeat (first | exact EvA.nil | refine EvA.cons ?_ ?_ | exact EvO.non | exact EvO.bl _ | exact EvO.int _ | exact EvO.str _ | exact EvO.neg _ | exact EvO.pow | exact EvO.nilL | exact EvO.newD | exact EvO.tup0 | refine EvO.tup1 ?_ | refine EvO.tup2 ?_ ?_ | refine EvO.tup3 ?_ ?_ ?_ | decide)) (by decide) rfl h1 o1 l1 (by decide) fun p2 vs2 H2 s2 h2 _ o2 l2 => ?_
  refine ⟨_, rfl, ?_⟩
  refine catL (n := 7) (m := 27) (by repeat (first | exact EvA.nil | refine EvA.cons ?_ ?_ | exact EvO.non | exact EvO.bl _ | exact EvO.int _ | exact EvO.str _ | exact EvO.neg _ | exact EvO.pow | exact EvO.nilL | exact EvO.newD | exact EvO.tup0 | refine EvO.tup1 ?_ | refine EvO.tup2 ?_ ?_ | refine EvO.tup3 ?_ ?_ ?_ | decide)) (by decide) rfl h2 o2 l2 (by decide) fun p3 vs3 H3 s3 h3 n3 o3 l3 => ?_
  have st := (s1.trans s2).trans s3
  have dk2 := dk.st (s1.trans s2)
  have dk3 := dk.st st
  obtain ⟨as, bs, c, hd, ha, hb, nb⟩ := dk2.ex
  refine ⟨d, a, b, p3, vs3, rfl, dk3, h3, ?_, ?_, by omega, fun v H' hv s4 dk4 => q v H' (st.w0.trans s4) dk4 ((o3 v hv).st s4)⟩
  · intro z
    simp at z
    rcases z with rfl | rfl
    · rw [hd] at n3; cases n3
    · rw [ha] at n3; cases n3
  · intro z
    rw [z] at l3
    simp at l3
end
end Yk
set_option Elab.async false
set_option linter.all false
set_option maxRecDepth 100000
set_option maxHeartbeats 4000000
/-! the law: bent orders -/
namespace Yk
open PySem PySem.Spec PyProof.Rows L2
section
variable {w : World} {K : KF} {mg : Str → Option Value} {base : Heap}
theorem Dk.nin {H : Hp} {d a b p : Addr} (h : Dk H d a b) (n : H p = none) : p ∉ [d, a] := by
  obtain ⟨as, bs, c, hd, ha, hb, nb⟩ := h.ex
  intro z
  simp at z
  rcases z with rfl | rfl
  · rw [hd] at n; cases n
  · rw [ha] at n; cases n
theorem tyv_ivs {H : Hp} {xs : List Int} : ∀ x ∈ ivs xs, TyV H x := fun x hx => by
  obtain ⟨i, _, rfl⟩ := List.mem_map.mp hx
  exact .int i
theorem cut_mem {xs : List V} {lo hi : Option Int} : ∀ x ∈ cutV xs lo hi, x ∈ xs := fun x hx => List.mem_of_mem_drop (List.mem_of_mem_take hx)
theorem cut_len {xs : List V} {lo hi : Option Int} : (cutV xs lo hi).length ≤ xs.length := by
  unfold cutV
  exact Nat.le_trans (List.length_take_le' ..) (by simp)
def spNo : Sp := fun _ _ _ _ => False
theorem no_bent (T : Tx w K mg) : Df R.prog w K mg base CX0 1 "_law_bent" spNo := ⟨fun A outer s H us vs Q E _ _ _ h => h.elim, T.d_law_bent.elim fun _ F => F.kp, T.g_law_bent⟩
theorem sc_law_bent : FnScope ["_law_deck_here", "_law_value", "_law_deep", "_law_at", "_law_near", "_law_some"] ["_law_deck_here", "_law_value", "_law_deep"] (defScope s_law_bent) := ⟨rfl, rfl, rfl, by decide +kernel, rfl, by decide +kernel, by decide +kernel⟩
def spBent0 : Sp := fun vs H Q _ => ∃ (d a b : Addr) (v : Int), vs = [.ref d, .int v, .int 0] ∧ Dk H d a b ∧ 0 ≤ v ∧ v ≤ 1000 ∧ ∀ u H', St' [d, a] H H' → Dk H' d a b → OdS H' u → Q u H'
theorem ok_law_bent0 (T : Tx w K mg) (D__law_draw : Df R.prog w K mg base CX0 1 "_law_draw" spDraw) (D__law_one : Df R.prog w K mg base CX0 2 "_law_one" spOne) (D__law_odd : Df R.prog w K mg base CX0 3 "_law_odd" spOdd) : Df R.prog w K mg base CX0 4 "_law_bent" spBent0 := by
  have D__law_bent : Df R.prog w K mg base CX0 1 "_law_bent" spNo := no_bent T
  refine df_of T.d_law_bent T.g_law_bent sc_law_bent (fun _ _ _ _ _ _ us hl => match us, hl with | [_, _, _], _ => rfl)
    (fun vs H Q E h => by repeat (first | (obtain ⟨rfl, _⟩ := h; rfl) | (obtain ⟨_, h⟩ := h))) (fun cdv A outer s H vs Q E hr h => ?_)
  have nd := sc_law_bent.nd
  refine ⟨_, (pss_cons (ps_if (PW.pt (pw_and (pt_val (pe_callB call_isi rfl T.n_isinstance (by decide +kernel) (pa_cons (pv 1) (pa_cons (pe_bltn (v := .ty "tuple") rfl T.n_tuple (by decide +kernel) rfl) pa_nil)))) (pw_and (pt_cmpR (op_neD hr.units) (pv 1) (pe_tup pa_nil) (nomark _)) (pw_and (pt_cmpR op_gt (pv 2) pe_int (nomark _)) (pw_and1 (pt_cmpR op_gt (pe_df D__law_draw hr (by decide) pass0 (pa_cons (pv 0) (pa_cons pe_int pa_nil))) pe_int (nomark _))))))) (pss_cons (ps_set (i := 3) nd rfl (by first | exact Or.inl rfl | exact Or.inr rfl) (pe_df D__law_draw hr (by decide) pass0 (pa_cons (pv 0) (pa_cons (pe_callB call_len_seq rfl T.n_len PySem.boot_len (pa_cons (pv 1) pa_nil)) pa_nil))))
          (pss_one (ps_ret (pe_op op_catA (pe_op op_catA (pe_slice sl_tupA (pv 1) po_none (po_some (pv 3))) (pe_tup (pa_cons (pe_df D__law_bent hr (by decide) pass0 (pa_cons (pv 0) (pa_cons (pe_ix ix_tup (pv 1) (pv 3) (fun _ _ => rfl)) (pa_cons (pe_op op_sub (pv 2) pe_int) pa_nil)))) pa_nil))) (pe_slice sl_tupA (pv 1) (po_some (pe_op op_add (pv 3) pe_int)) po_none))))) pss_nil)
          (pss_cons (ps_if (pt_not (pt_val (pe_callB call_isi rfl T.n_isinstance (by decide +kernel) (pa_cons (pv 1) (pa_cons (pe_bltn (v := .ty "tuple") rfl T.n_tuple (by decide +kernel) rfl) pa_nil))))) (pss_cons (ps_set (i := 4) nd rfl (by first | exact Or.inl rfl | exact Or.inr rfl) (pe_ifExp (pt_val (pe_callB call_isi rfl T.n_isinstance (by decide +kernel) (pa_cons (pv 1) (pa_cons (pe_bltn (v := .ty "int") rfl T.n_int (by decide +kernel) rfl) pa_nil)))) (pe_lst (pa_cons (pe_op op_add (pv 1) pe_int) (pa_cons (pe_op op_sub (pv 1) pe_int) (pa_cons (pe_callTy call_bool1 rfl T.n_bool (by decide +kernel) (pa_cons (pv 1) pa_nil)) (pa_cons (pe_callTy call_str_int rfl T.n_str (by decide +kernel) (pa_cons (pv 1) pa_nil)) pa_nil))))) (pe_lst pa_nil)))
          (pss_one (ps_ret (pe_df D__law_one hr (by decide) pass0 (pa_cons (pv 0) (pa_cons (pe_op op_cat (pv 4) (pe_lst (pa_cons (pe_df D__law_odd hr (by decide) pass0 (pa_cons (pv 0) pa_nil)) (pa_cons (pe_df D__law_odd hr (by decide) pass0 (pa_cons (pv 0) pa_nil)) pa_nil)))) pa_nil)))))) pss_nil)
          (pss_cons (ps_set (i := 3) nd rfl (by first | exact Or.inl rfl | exact Or.inr rfl) (pe_df D__law_draw hr (by decide) pass0 (pa_cons (pv 0) (pa_cons (pe_op op_add (pe_callB call_len_seq rfl T.n_len PySem.boot_len (pa_cons (pv 1) pa_nil)) pe_int) pa_nil))))
          (pss_cons (ps_set (i := 5) nd rfl (by first | exact Or.inl rfl | exact Or.inr rfl) (pe_lst (pa_cons (pe_df D__law_odd hr (by decide) pass0 (pa_cons (pv 0) pa_nil)) (pa_cons (pe_slice sl_tupA (pv 1) (po_some pe_int) po_none) (pa_cons (pe_slice sl_tupA (pv 1) po_none (po_some (pe_un un_neg pe_int))) (pa_cons (pe_revT (pv 1)) (pa_cons (pe_callTy call_list_of rfl T.n_list (by decide +kernel) (pa_cons (pv 1) pa_nil)) (pa_cons (pe_op op_catA (pv 1) (pe_slice sl_tupA (pv 1) (po_some (pe_un un_neg pe_int)) po_none)) pa_nil))))))))
          (pss_one (ps_ret (pe_df D__law_one hr (by decide) pass0 (pa_cons (pv 0) (pa_cons (pe_op op_cat (pv 5) (pe_lst (pa_cons (pe_op op_catA (pe_slice sl_tupA (pv 1) po_none (po_some (pv 3))) (pe_slice sl_tupA (pv 1) (po_some (pe_op op_add (pv 3) pe_int)) po_none)) (pa_cons (pe_op op_catA (pe_op op_catA (pe_slice sl_tupA (pv 1) po_none (po_some (pv 3))) (pe_tup (pa_cons (pe_df D__law_odd hr (by decide) pass0 (pa_cons (pv 0) pa_nil)) pa_nil))) (pe_slice sl_tupA (pv 1) (po_some (pv 3)) po_none)) pa_nil)))) pa_nil))))))))), ?_⟩
  obtain ⟨d, a, b, v, rfl, dk, v0, v1, q⟩ := h
  simp only [tRet, tAndV, tOrV, tNotV, tCB, tCons, tNil, tC, tVar, tChain, rI0, tIfS, tTest, tOp, tUn, rU, rI, tPar3, tBM, tBM0, tM1, gSub, tXm, tCon, tProp, tMethR, rEq, rNe, rIxT, rIxL, decide_true, decide_false, tAnd, tOr, tNot, tB, tSeq, tAsg, gName, tDrop, tNext, tTup, tLst, tIf, tDf, tFld, tMf0, tPart, tSl, tNoPart, tPar, gTup, gLst, gCons, gNil, L2.start, List.map_cons, List.map_nil, List.length_cons, List.length_nil, Nat.zero_add, Nat.sub_self, Nat.reduceAdd, Nat.reduceSub, List.replicate_zero, List.replicate_succ, List.append_nil, List.nil_append, List.cons_append, List.getElem?_cons_zero, List.getElem?_cons_succ, List.set_cons_zero, List.set_cons_succ, Option.some.injEq, exists_and_left, exists_eq_left', exists_eq_left, V.int.injEq, V.bl.injEq, V.str.injEq, V.ref.injEq, List.cons.injEq, and_true, true_and, if_true, if_false, Bool.false_eq_true, reduceCtorEq, Bool.not_true, Bool.not_false, cxOf]
  refine isi_tup (.int v) ?_
  refine ⟨false, rfl, ?_⟩
  rw [if_neg (by simp)]
  refine isi_tup (.int v) ?_
  refine ⟨false, rfl, ?_⟩
  rw [if_pos (by simp)]
  refine isi_int (.int v) ?_
  refine ⟨true, rfl, ?_⟩
  rw [if_pos rfl]
  refine .inl ⟨ito_log v0 (by omega), by decide, fun p np => ?_⟩
  have s1 := (St'.refl (M := []) (H := H)).new (p := p) (o := .lst [.int (v + 1), .int (v - 1), .bl (v != 0), .str (Str.ofString (toString v))]) np
  have hp1 : upd H p (.lst [.int (v + 1), .int (v - 1), .bl (v != 0), .str (Str.ofString (toString v))]) p = some (.lst [.int (v + 1), .int (v - 1), .bl (v != 0), .str (Str.ofString (toString v))]) := upd_same
  generalize upd H p (.lst [.int (v + 1), .int (v - 1), .bl (v != 0), .str (Str.ofString (toString v))]) = H1 at *
  have pn := dk.nin np
  refine ⟨d, a, b, rfl, dk.st s1, fun o1 H2 s2 dk2 od1 => ⟨d, a, b, rfl, dk2, fun o2 H3 s3 dk3 od2 => ⟨by decide, fun p2 n2 => ?_⟩⟩⟩
  have hp3 := s3.kp _ _ (s2.kp _ _ hp1 pn) pn
  have s4 := (St'.refl (M := []) (H := H3)).new (p := p2) (o := .lst [o1, o2]) n2
  refine ⟨p, p2, _, _, rfl, rfl, s4.kp _ _ hp3 (by simp), upd_same, by simp [sizeLine], fun r nr => ?_⟩
  have s5 := (St'.refl (M := []) (H := upd H3 p2 (.lst [o1, o2]))).new (p := r) (o := .lst ([.int (v + 1), .int (v - 1), .bl (v != 0), .str (Str.ofString (toString v))] ++ [o1, o2])) nr
  have s45 := s4.trans s5
  refine ⟨d, a, b, r, _, rfl, (dk3.st s4).st s5, upd_same, (dk3.st s4).nin nr, by simp, by simp, fun u H' hu s6 dk6 => q u H' ((((s1.w0.trans s2).trans s3).trans s45.w0).trans s6) dk6 ?_⟩
  simp at hu
  rcases hu with rfl | rfl | rfl | rfl | rfl | rfl
  · exact ⟨_, .oth (.int _) rfl⟩
  · exact ⟨_, .oth (.int _) rfl⟩
  · exact ⟨_, .oth (.bl _) rfl⟩
  · exact ⟨_, .oth (.str _) rfl⟩
  · exact ((od1.st s3).st s45).st s6
  · exact (od2.st s45).st s6
def spBent1 : Sp := fun vs H Q _ => ∃ (d a b p : Addr) (xs : List Int), vs = [.ref d, .ref p, .int 1] ∧ Dk H d a b ∧ H p = some (.tup (ivs xs)) ∧ 1 ≤ xs.length ∧ xs.length ≤ 4 ∧ (∀ x ∈ xs, 0 ≤ x ∧ x ≤ 1000) ∧ ∀ u H', St' [d, a] H H' → Dk H' d a b → OdS H' u → Q u H'
theorem ok_law_bent1 (T : Tx w K mg) (D__law_draw : Df R.prog w K mg base CX0 1 "_law_draw" spDraw) (D__law_one : Df R.prog w K mg base CX0 2 "_law_one" spOne) (D__law_odd : Df R.prog w K mg base CX0 3 "_law_odd" spOdd) (D__law_bent : Df R.prog w K mg base CX0 4 "_law_bent" spBent0) : Df R.prog w K mg base CX0 5 "_law_bent" spBent1 := by
  refine df_of T.d_law_bent T.g_law_bent sc_law_bent (fun _ _ _ _ _ _ us hl => match us, hl with | [_, _, _], _ => rfl)
    (fun vs H Q E h => by repeat (first | (obtain ⟨rfl, _⟩ := h; rfl) | (obtain ⟨_, h⟩ := h))) (fun cdv A outer s H vs Q E hr h => ?_)
  have nd := sc_law_bent.nd
  refine ⟨_, (pss_cons (ps_if (PW.pt (pw_and (pt_val (pe_callB call_isi rfl T.n_isinstance (by decide +kernel) (pa_cons (pv 1) (pa_cons (pe_bltn (v := .ty "tuple") rfl T.n_tuple (by decide +kernel) rfl) pa_nil)))) (pw_and (pt_cmpR (op_neD hr.units) (pv 1) (pe_tup pa_nil) (nomark _)) (pw_and (pt_cmpR op_gt (pv 2) pe_int (nomark _)) (pw_and1 (pt_cmpR op_gt (pe_df D__law_draw hr (by decide) pass0 (pa_cons (pv 0) (pa_cons pe_int pa_nil))) pe_int (nomark _))))))) (pss_cons (ps_set (i := 3) nd rfl (by first | exact Or.inl rfl | exact Or.inr rfl) (pe_df D__law_draw hr (by decide) pass0 (pa_cons (pv 0) (pa_cons (pe_callB call_len_seq rfl T.n_len PySem.boot_len (pa_cons (pv 1) pa_nil)) pa_nil))))
          (pss_one (ps_ret (pe_op op_catA (pe_op op_catA (pe_slice sl_tupA (pv 1) po_none (po_some (pv 3))) (pe_tup (pa_cons (pe_df D__law_bent hr (by decide) pass0 (pa_cons (pv 0) (pa_cons (pe_ix ix_tup (pv 1) (pv 3) (fun _ _ => rfl)) (pa_cons (pe_op op_sub (pv 2) pe_int) pa_nil)))) pa_nil))) (pe_slice sl_tupA (pv 1) (po_some (pe_op op_add (pv 3) pe_int)) po_none))))) pss_nil)
          (pss_cons (ps_if (pt_not (pt_val (pe_callB call_isi rfl T.n_isinstance (by decide +kernel) (pa_cons (pv 1) (pa_cons (pe_bltn (v := .ty "tuple") rfl T.n_tuple (by decide +kernel) rfl) pa_nil))))) (pss_cons (ps_set (i := 4) nd rfl (by first | exact Or.inl rfl | exact Or.inr rfl) (pe_ifExp (pt_val (pe_callB call_isi rfl T.n_isinstance (by decide +kernel) (pa_cons (pv 1) (pa_cons (pe_bltn (v := .ty "int") rfl T.n_int (by decide +kernel) rfl) pa_nil)))) (pe_lst (pa_cons (pe_op op_add (pv 1) pe_int) (pa_cons (pe_op op_sub (pv 1) pe_int) (pa_cons (pe_callTy call_bool1 rfl T.n_bool (by decide +kernel) (pa_cons (pv 1) pa_nil)) (pa_cons (pe_callTy call_str_int rfl T.n_str (by decide +kernel) (pa_cons (pv 1) pa_nil)) pa_nil))))) (pe_lst pa_nil)))
          (pss_one (ps_ret (pe_df D__law_one hr (by decide) pass0 (pa_cons (pv 0) (pa_cons (pe_op op_cat (pv 4) (pe_lst (pa_cons (pe_df D__law_odd hr (by decide) pass0 (pa_cons (pv 0) pa_nil)) (pa_cons (pe_df D__law_odd hr (by decide) pass0 (pa_cons (pv 0) pa_nil)) pa_nil)))) pa_nil)))))) pss_nil)
          (pss_cons (ps_set (i := 3) nd rfl (by first | exact Or.inl rfl | exact Or.inr rfl) (pe_df D__law_draw hr (by decide) pass0 (pa_cons (pv 0) (pa_cons (pe_op op_add (pe_callB call_len_seq rfl T.n_len PySem.boot_len (pa_cons (pv 1) pa_nil)) pe_int) pa_nil))))
          (pss_cons (ps_set (i := 5) nd rfl (by first | exact Or.inl rfl | exact Or.inr rfl) (pe_lst (pa_cons (pe_df D__law_odd hr (by decide) pass0 (pa_cons (pv 0) pa_nil)) (pa_cons (pe_slice sl_tupA (pv 1) (po_some pe_int) po_none) (pa_cons (pe_slice sl_tupA (pv 1) po_none (po_some (pe_un un_neg pe_int))) (pa_cons (pe_revT (pv 1)) (pa_cons (pe_callTy call_list_of rfl T.n_list (by decide +kernel) (pa_cons (pv 1) pa_nil)) (pa_cons (pe_op op_catA (pv 1) (pe_slice sl_tupA (pv 1) (po_some (pe_un un_neg pe_int)) po_none)) pa_nil))))))))
          (pss_one (ps_ret (pe_df D__law_one hr (by decide) pass0 (pa_cons (pv 0) (pa_cons (pe_op op_cat (pv 5) (pe_lst (pa_cons (pe_op op_catA (pe_slice sl_tupA (pv 1) po_none (po_some (pv 3))) (pe_slice sl_tupA (pv 1) (po_some (pe_op op_add (pv 3) pe_int)) po_none)) (pa_cons (pe_op op_catA (pe_op op_catA (pe_slice sl_tupA (pv 1) po_none (po_some (pv 3))) (pe_tup (pa_cons (pe_df D__law_odd hr (by decide) pass0 (pa_cons (pv 0) pa_nil)) pa_nil))) (pe_slice sl_tupA (pv 1) (po_some (pv 3)) po_none)) pa_nil)))) pa_nil))))))))), ?_⟩
  obtain ⟨d, a, b, p, xs, rfl, dk, hp, l1, l4, ax, q⟩ := h
  simp only [tRet, tAndV, tOrV, tNotV, tCB, tCons, tNil, tC, tVar, tChain, rI0, tIfS, tTest, tOp, tUn, rU, rI, tPar3, tBM, tBM0, tM1, gSub, tXm, tCon, tProp, tMethR, rEq, rNe, rIxT, rIxL, decide_true, decide_false, tAnd, tOr, tNot, tB, tSeq, tAsg, gName, tDrop, tNext, tTup, tLst, tIf, tDf, tFld, tMf0, tPart, tSl, tNoPart, tPar, gTup, gLst, gCons, gNil, L2.start, List.map_cons, List.map_nil, List.length_cons, List.length_nil, Nat.zero_add, Nat.sub_self, Nat.reduceAdd, Nat.reduceSub, List.replicate_zero, List.replicate_succ, List.append_nil, List.nil_append, List.cons_append, List.getElem?_cons_zero, List.getElem?_cons_succ, List.set_cons_zero, List.set_cons_succ, Option.some.injEq, exists_and_left, exists_eq_left', exists_eq_left, V.int.injEq, V.bl.injEq, V.str.injEq, V.ref.injEq, List.cons.injEq, and_true, true_and, if_true, if_false, Bool.false_eq_true, reduceCtorEq, Bool.not_true, Bool.not_false, cxOf]
  refine isi_tup (.tup hp) ?_
  rw [isTp_t hp]
  refine ⟨true, rfl, ?_⟩
  rw [if_pos rfl]
  refine ⟨by decide, fun p1 n1 => ?_⟩
  have s1 := (St'.refl (M := []) (H := H)).new (p := p1) (o := .tup []) n1
  have hp1 := s1.tp _ _ hp
  have dk1 := dk.st s1
  refine ⟨dInts xs, .tuple [], dp_ints hp1, .tup (SqT.of upd_same) .nil, (Pl.tup (n := 1) (pl_ints _)).sh, (Pl.tup (n := 1) (by simp)).sh, ?_⟩
  generalize upd H p1 (.tup []) = H1 at *
  refine ⟨_, rfl, ?_⟩
  have e1 : (!PyData.eqv (dInts xs) (.tuple [])) = true := by
    cases xs with
    | nil => simp at l1
    | cons x xs => simp [PyData.eqv, PyData.eqvAll]
  rw [if_pos e1, if_pos (by decide)]
  refine ⟨d, a, b, 4, rfl, dk1, by decide, by decide, fun r H2 r0 r1 s2 dk2 => ?_⟩
  have st2 := s1.w0.trans s2
  have hp2 := st2.tp _ _ hp
  refine ⟨r, rfl, ?_⟩
  by_cases c : 0 < r
  · rw [if_pos (decide_eq_true c)]
    refine ⟨_, .inr (SqT.of hp2), d, a, b, _, rfl, dk2, by simp; omega, by simp; omega, fun i H3 i0 i1 s3 dk3 => ?_⟩
    obtain ⟨k, rfl⟩ := Int.eq_ofNat_of_zero_le i0
    have kl : k < xs.length := by simpa using i1
    have st3 := st2.trans s3
    have hp3 := st3.tp _ _ hp
    refine ⟨_, rfl, sl_at hp3 fun p4 H4 s4 h4 => ?_⟩
    rw [cut_to _ _ (by simp; omega)] at h4
    have hp4 := s4.tp _ _ hp3
    have axk := ax xs[k] (List.getElem_mem kl)
    refine ⟨_, _, rfl, SqT.of hp4, _, atIv (List.getElem?_eq_getElem kl), d, a, b, xs[k], rfl, dk3.st s4, axk.1, axk.2, fun u H5 s5 dk5 od5 => ?_⟩
    refine ⟨by decide, fun p6 n6 => ?_⟩
    have s6 := (St'.refl (M := []) (H := H5)).new (p := p6) (o := .tup [u]) n6
    have h45 := s5.tp _ _ h4
    refine cat_at (s6.tp _ _ h45) upd_same (by simp; omega) fun p7 H7 s7 h7 => ⟨_, rfl, ?_⟩
    have t7 := (s6.w0 (M := [])).trans s7
    refine sl_at (t7.tp _ _ (s5.tp _ _ hp4)) fun p8 H8 s8 h8 => ?_
    refine cat_at (s8.tp _ _ h7) h8 (by have := cut_len (xs := ivs xs) (lo := some ((k : Int) + 1)) (hi := none); simp at this ⊢; omega) fun p9 H9 s9 h9 => ?_
    have t9 := (t7.trans s8).trans s9
    refine q (.ref p9) H9 (((st3.trans s4.w0).trans s5).trans t9.w0) (dk5.st t9) ⟨_, .tup h9 (fun x hx => ?_) (by have := cut_len (xs := ivs xs) (lo := some ((k : Int) + 1)) (hi := none); simp at this ⊢; omega)⟩
    rcases List.mem_append.mp hx with hx | hx
    · rcases List.mem_append.mp hx with hx | hx
      · exact tyv_ivs x (List.mem_of_mem_take hx)
      · rw [List.mem_singleton.mp hx]
        exact (od5.st t9).ty
    · exact tyv_ivs x (cut_mem x hx)
  · rw [if_neg (by simpa using c)]
    refine isi_tup (.tup hp2) ?_
    rw [isTp_t hp2]
    refine ⟨true, rfl, ?_⟩
    rw [if_neg (by simp)]
    have lx : (ivs xs).length ≤ 4 := by simpa using l4
    refine ⟨_, .inr (SqT.of hp2), d, a, b, _, rfl, dk2, by omega, by omega, fun i H3 i0 i1 s3 dk3 => ?_⟩
    refine ⟨d, a, b, rfl, dk3, fun o1 H4 s4 dk4 od1 => ?_⟩
    have st4 := (st2.trans s3).trans s4
    have hp4 := st4.tp _ _ hp
    refine sl_at hp4 fun p5 H5 s5 h5 => sl_at (s5.tp _ _ hp4) fun p6 H6 s6 h6 => ?_
    have t6 := s5.trans s6
    refine ⟨_, rfl, p, _, rfl, SqT.of (t6.tp _ _ hp4), fun p7 n7 => ?_⟩
    have s7 := (St'.refl (M := []) (H := H6)).new (p := p7) (o := .tup (ivs xs).reverse) n7
    have h7 : upd H6 p7 (.tup (ivs xs).reverse) p7 = some (.tup (ivs xs).reverse) := upd_same
    have t7 := t6.trans s7
    generalize upd H6 p7 (.tup (ivs xs).reverse) = H7 at *
    refine ⟨_, .inr (SqT.of (t7.tp _ _ hp4)), fun p8 n8 => ?_⟩
    have s8 := (St'.refl (M := []) (H := H7)).new (p := p8) (o := .lst (ivs xs)) n8
    have h8 : upd H7 p8 (.lst (ivs xs)) p8 = some (.lst (ivs xs)) := upd_same
    have t8 := t7.trans s8
    generalize upd H7 p8 (.lst (ivs xs)) = H8 at *
    refine sl_at (t8.tp _ _ hp4) fun p9 H9 s9 h9 => ?_
    have t9 := t8.trans s9
    have c9 := cut_len (xs := ivs xs) (lo := some (-1)) (hi := none)
    refine cat_at (t9.tp _ _ hp4) h9 (by omega) fun pa Ha sa ha => ⟨by decide, fun pL nL => ?_⟩
    have ta := t9.trans sa
    have sL := (St'.refl (M := []) (H := Ha)).new (p := pL) (o := .lst [o1, .ref p5, .ref p6, .ref p7, .ref p8, .ref pa]) nL
    have hL : upd Ha pL (.lst [o1, .ref p5, .ref p6, .ref p7, .ref p8, .ref pa]) pL = some (.lst [o1, .ref p5, .ref p6, .ref p7, .ref p8, .ref pa]) := upd_same
    have tL := ta.trans sL
    generalize upd Ha pL (.lst [o1, .ref p5, .ref p6, .ref p7, .ref p8, .ref pa]) = HL at *
    have oP5 : OdS HL (.ref p5) := ⟨_, .tup ((((s6.trans s7).trans s8).trans ((s9.trans sa).trans sL)).tp _ _ h5) (fun x hx => tyv_ivs x (cut_mem x hx)) (by have := cut_len (xs := ivs xs) (lo := some 1) (hi := none); omega)⟩
    have oP6 : OdS HL (.ref p6) := ⟨_, .tup (((s7.trans s8).trans ((s9.trans sa).trans sL)).tp _ _ h6) (fun x hx => tyv_ivs x (cut_mem x hx)) (by have := cut_len (xs := ivs xs) (lo := none) (hi := some (-1)); omega)⟩
    have oP7 : OdS HL (.ref p7) := ⟨_, .tup ((s8.trans ((s9.trans sa).trans sL)).tp _ _ h7) (fun x hx => tyv_ivs x (by simpa using hx)) (by simp; omega)⟩
    have oP8 : OdS HL (.ref p8) := ⟨_, .oth (.lst (((s9.trans sa).trans sL).kp _ _ h8 (by simp))) (isTp_fL (((s9.trans sa).trans sL).kp _ _ h8 (by simp)))⟩
    have oPa : OdS HL (.ref pa) := ⟨_, .tup (sL.tp _ _ ha) (fun x hx => (List.mem_append.mp hx).elim (tyv_ivs x) fun h => tyv_ivs x (cut_mem x h)) (by simp at lx c9 ⊢; omega)⟩
    have oL : ∀ v ∈ [o1, .ref p5, .ref p6, .ref p7, .ref p8, .ref pa], OdS HL v := by
      intro v hv
      simp at hv
      rcases hv with rfl | rfl | rfl | rfl | rfl | rfl
      · exact od1.st tL
      · exact oP5
      · exact oP6
      · exact oP7
      · exact oP8
      · exact oPa
    have hpL := tL.tp _ _ hp4
    have dkL := dk4.st tL
    have pLn : pL ∉ [d, a] := (dk4.st ta).nin nL
    refine ⟨i, rfl, sl_at hpL fun q1 I1 u1 k1 => ⟨i, rfl, sl_at (u1.tp _ _ hpL) fun q2 I2 u2 k2 => ?_⟩⟩
    have cl1 := cut_len (xs := ivs xs) (lo := none) (hi := some i)
    have cl2 := cut_len (xs := ivs xs) (lo := some (i + 1)) (hi := none)
    have cl3 := cut_len (xs := ivs xs) (lo := some i) (hi := none)
    refine cat_at (u2.tp _ _ k1) k2 (by omega) fun q3 I3 u3 k3 => ⟨i, rfl, ?_⟩
    have v3 := (u1.trans u2).trans u3
    refine sl_at (v3.tp _ _ hpL) fun q4 I4 u4 k4 => ?_
    have v4 := v3.trans u4
    refine ⟨d, a, b, rfl, dkL.st v4, fun o2 I5 u5 dk5 od2 => ⟨by decide, fun q6 n6 => ?_⟩⟩
    have u6 := (St'.refl (M := []) (H := I5)).new (p := q6) (o := .tup [o2]) n6
    refine cat_at (u6.tp _ _ (u5.tp _ _ k4)) upd_same (by simp; omega) fun q7 I7 u7 k7 => ⟨i, rfl, ?_⟩
    have v7 := u6.trans u7
    refine sl_at (v7.tp _ _ (u5.tp _ _ (v4.tp _ _ hpL))) fun q8 I8 u8 k8 => ?_
    refine cat_at (u8.tp _ _ k7) k8 (by simp; omega) fun q9 I9 u9 k9 => ⟨by decide, fun qL nQ => ?_⟩
    have v9 := (v7.trans u8).trans u9
    have uL := (St'.refl (M := []) (H := I9)).new (p := qL) (o := .lst [.ref q3, .ref q9]) nQ
    have vL := v9.trans uL
    have hLL := vL.kp _ _ (u5.kp _ _ (v4.kp _ _ hL (by simp)) pLn) (by simp)
    have k3L := vL.tp _ _ (u5.tp _ _ (u4.tp _ _ k3))
    have k9L := uL.tp _ _ k9
    have dkF := dk5.st vL
    have wF : St' [d, a] HL (upd I9 qL (.lst [.ref q3, .ref q9])) := (v4.w0.trans u5).trans vL.w0
    have hqL : upd I9 qL (.lst [.ref q3, .ref q9]) qL = some (.lst [.ref q3, .ref q9]) := upd_same
    have od2L := od2.st vL
    generalize upd I9 qL (.lst [.ref q3, .ref q9]) = IL at *
    refine ⟨pL, qL, _, _, rfl, rfl, hLL, hqL, by simp [sizeLine], fun r nr => ?_⟩
    have x1 := (St'.refl (M := []) (H := IL)).new (p := r) (o := .lst ([o1, .ref p5, .ref p6, .ref p7, .ref p8, .ref pa] ++ [.ref q3, .ref q9])) nr
    refine ⟨d, a, b, r, _, rfl, dkF.st x1, upd_same, dkF.nin nr, by simp, by simp, fun u H' hu s6 dk6 => q u H' ((((st4.trans tL.w0).trans wF).trans x1.w0).trans s6) dk6 ?_⟩
    rcases List.mem_append.mp hu with hu | hu
    · exact (((oL u hu).st wF).st x1).st s6
    · simp at hu
      rcases hu with rfl | rfl
      · refine ⟨_, .tup (s6.tp _ _ (x1.tp _ _ k3L)) (fun x hx => (List.mem_append.mp hx).elim (fun h => tyv_ivs x (cut_mem x h)) fun h => tyv_ivs x (cut_mem x h)) (by simp at lx cl1 cl2 ⊢; omega)⟩
      · refine ⟨_, .tup (s6.tp _ _ (x1.tp _ _ k9L)) (fun x hx => ?_) (by simp at lx cl1 cl3 ⊢; omega)⟩
        rcases List.mem_append.mp hx with hx | hx
        · rcases List.mem_append.mp hx with hx | hx
          · exact tyv_ivs x (cut_mem x hx)
          · rw [List.mem_singleton.mp hx]
            exact ((od2L.st x1).st s6).ty
        · exact tyv_ivs x (cut_mem x hx)
end
end Yk
set_option Elab.async false
set_option linter.all false
set_option maxRecDepth 100000
set_option maxHeartbeats 4000000
/-! the law: boxes -/
namespace Yk
open PySem PySem.Spec PyProof.Rows L2
section
variable {w : World} {K : KF} {mg : Str → Option Value} {base : Heap}
theorem sc_law_cut_box : FnScope ["_law_deck_here", "_law_pair_here", "_law_many", "_law_axis", "_law_found", "_law_k"] ["_law_deck_here", "_law_pair_here", "_law_many"] (defScope s_law_cut_box) := ⟨rfl, rfl, rfl, by decide +kernel, rfl, by decide +kernel, by decide +kernel⟩
def spBoxL : Sp := fun vs H Q _ => ∃ (d a b p : Addr) (x0 x1 : List Int), vs = [.ref d, .ref p, .int 4] ∧ Dk H d a b ∧ PairAt H p x0 x1 ∧ Sd x0 6 ∧ Sd x1 6 ∧ x1.length = x0.length ∧ ∀ q xs H', St' [d, a] H H' → Dk H' d a b → H' q = some (.tup (ivs xs)) → xs.length = x0.length → Sd xs 100 → Q (.ref q) H'
theorem ok_law_cut_box (T : Tx w K mg) (D__law_draw : Df R.prog w K mg base CX0 1 "_law_draw" spDraw) (D__law_lcm : Df R.prog w K mg base CX0 2 "_law_lcm" spLcm) : Df R.prog w K mg base CX0 3 "_law_cut_box" spBoxL := by
  refine df_of T.d_law_cut_box T.g_law_cut_box sc_law_cut_box (fun _ _ _ _ _ _ us hl => match us, hl with | [_, _, _], _ => rfl)
    (fun vs H Q E h => by repeat (first | (obtain ⟨rfl, _⟩ := h; rfl) | (obtain ⟨_, h⟩ := h))) (fun cdv A outer s H vs Q E hr h => ?_)
  have nd := sc_law_cut_box.nd
  refine ⟨_, (pss_cons (ps_par (i := 3) (j := 4) rfl nd rfl rfl (by decide) rfl rfl (pa_cons (pe_df D__law_draw hr (by decide) pass0 (pa_cons (pv 0) (pa_cons (pe_callB call_len_seq rfl T.n_len PySem.boot_len (pa_cons (pe_ix ix_tup (pv 1) pe_int (fun _ _ => rfl)) pa_nil)) pa_nil))) (pa_cons (pe_lst pa_nil) pa_nil)) (by rfl))
          (pss_cons (ps_for (passes_of rfl) rfl (pi_range1 rfl T.n_range (pa_cons (pe_callB call_len_seq rfl T.n_len PySem.boot_len (pa_cons (pe_ix ix_tup (pv 1) pe_int (fun _ _ => rfl)) pa_nil)) pa_nil)) (pg_name (i := 5) nd rfl (by first | exact Or.inl rfl | exact Or.inr rfl)) (pss_one (ps_expr (pe_bm PySem.F.plainAttrs_list PySem.F.slot_list_append PySem.F.type_list_append mt_append (pv 4) (pa_cons (pe_df D__law_lcm hr (by decide) pass0 (pa_cons (pe_ix ix_tup (pe_ix ix_tup (pv 1) pe_int (fun _ _ => rfl)) (pv 5) (fun _ _ => rfl)) (pa_cons (pe_ix ix_tup (pe_ix ix_tup (pv 1) pe_int (fun _ _ => rfl)) (pv 5) (fun _ _ => rfl)) pa_nil))) pa_nil)))))
          (pss_cons (ps_asg (pe_op op_add (pe_op op_mul (pe_ix ix_tup (pe_ix ix_tup (pv 1) pe_int (fun _ _ => rfl)) (pv 3) (fun _ _ => rfl)) (pe_df D__law_draw hr (by decide) pass0 (pa_cons (pv 0) (pa_cons (pv 2) pa_nil)))) (pe_op op_mul (pe_ix ix_tup (pe_ix ix_tup (pv 1) pe_int (fun _ _ => rfl)) (pv 3) (fun _ _ => rfl)) (pe_op op_add pe_int (pe_df D__law_draw hr (by decide) pass0 (pa_cons (pv 0) (pa_cons (pv 2) pa_nil)))))) (pg_sub (pv 4) (pv 3) set_list))
          (pss_one (ps_ret (pe_callTy call_tuple_of rfl T.n_tuple (by decide +kernel) (pa_cons (pv 4) pa_nil))))))), ?_⟩
  obtain ⟨d, a, b, p, x0, x1, rfl, dk, ⟨a0, a1, hp, h0, h1⟩, sd0, sd1, el, q⟩ := h
  simp only [tRet, tAndV, tOrV, tNotV, tCB, tCons, tNil, tC, tVar, tChain, rI0, tIfS, tTest, tOp, tUn, rU, rI, tPar3, tBM, tBM0, tM1, gSub, tXm, tCon, tProp, tMethR, rEq, rNe, rIxT, rIxL, decide_true, decide_false, tAnd, tOr, tNot, tB, tSeq, tAsg, gName, tDrop, tNext, tTup, tLst, tIf, tDf, tFld, tMf0, tPart, tSl, tNoPart, tPar, gTup, gLst, gCons, gNil, L2.start, List.map_cons, List.map_nil, List.length_cons, List.length_nil, Nat.zero_add, Nat.sub_self, Nat.reduceAdd, Nat.reduceSub, List.replicate_zero, List.replicate_succ, List.append_nil, List.nil_append, List.cons_append, List.getElem?_cons_zero, List.getElem?_cons_succ, List.set_cons_zero, List.set_cons_succ, Option.some.injEq, exists_and_left, exists_eq_left', exists_eq_left, V.int.injEq, V.bl.injEq, V.str.injEq, V.ref.injEq, List.cons.injEq, and_true, true_and, if_true, if_false, Bool.false_eq_true, reduceCtorEq, Bool.not_true, Bool.not_false, cxOf]
  repeat (first | (refine ⟨_, SqT.of (by first | assumption | exact St'.tp (H := H) (by assumption) _ _ (by assumption)), ?_⟩) | (refine ⟨_, .inr (SqT.of (by first | assumption | exact St'.tp (H := H) (by assumption) _ _ (by assumption))), ?_⟩) | (refine ⟨_, rfl, ?_⟩) | (refine ⟨_, atIv (by assumption), ?_⟩) | (refine ⟨_, _, ⟨rfl, rfl⟩, ?_⟩) | (refine ⟨rfl, ?_⟩) | simp only [tRet, tAndV, tOrV, tNotV, tCB, tCons, tNil, tC, tVar, tChain, rI0, tIfS, tTest, tOp, tUn, rU, rI, tPar3, tBM, tBM0, tM1, gSub, tXm, tCon, tProp, tMethR, rEq, rNe, rIxT, rIxL, decide_true, decide_false, tAnd, tOr, tNot, tB, tSeq, tAsg, gName, tDrop, tNext, tTup, tLst, tIf, tDf, tFld, tMf0, tPart, tSl, tNoPart, tPar, gTup, gLst, gCons, gNil, L2.start, List.map_cons, List.map_nil, List.length_cons, List.length_nil, Nat.zero_add, Nat.sub_self, Nat.reduceAdd, Nat.reduceSub, List.replicate_zero, List.replicate_succ, List.append_nil, List.nil_append, List.cons_append, List.getElem?_cons_zero, List.getElem?_cons_succ, List.set_cons_zero, List.set_cons_succ, Option.some.injEq, exists_and_left, exists_eq_left', exists_eq_left, V.int.injEq, V.bl.injEq, V.str.injEq, V.ref.injEq, List.cons.injEq, and_true, true_and, if_true, if_false, Bool.false_eq_true, reduceCtorEq, Bool.not_true, Bool.not_false, cxOf])
  have n1 := sd0.n1
  have n4 := sd0.n4
  rw [List.length_map]
  refine ⟨d, a, b, x0.length, rfl, dk, by omega, by omega, fun ax H1 ax0 ax1 s1 dk1 => ⟨by decide, fun F nF => ⟨_, _, ⟨rfl, rfl⟩, ?_⟩⟩⟩
  have hp1 := s1.tp _ _ hp
  have h01 := s1.tp _ _ h0
  have h11 := s1.tp _ _ h1
  have Fn := dk1.nin nF
  have sF := (St'.refl (M := []) (H := H1)).new (p := F) (o := .lst []) nF
  have hF : upd H1 F (.lst []) F = some (.lst (ivs [])) := upd_same
  obtain ⟨as, bs, c, hd, ha, hb, nb⟩ := dk1.ex
  have bF : b ≠ F := fun z => by rw [z, nF] at hb; cases hb
  have nF0 : H F = none := s1.free nF
  have stF := s1.trans sF.w0
  have dkF := dk1.st sF
  have hpF := sF.tp _ _ hp1
  have h0F := sF.tp _ _ h01
  have h1F := sF.tp _ _ h11
  generalize upd H1 F (.lst []) = H2 at *
  refine ⟨_, rfl, _, _, 0, _, rfl, rfl, SqT.of hpF, rfl, a0, rfl, _, .inr (SqT.of h0F), _, rfl, by omega, by simp; omega, ?_⟩
  refine for_range (fun i σ H' => (∃ u, σ = [some (.ref d), some (.ref p), some (.int 4), some (.int ax), some (.ref F), u]) ∧ ∃ xs : List Int, H' F = some (.lst (ivs xs)) ∧ xs.length = i ∧ (∀ x ∈ xs, 1 ≤ x ∧ x ≤ 100) ∧ Dk H' d a b ∧ St' [d, a] H H') ⟨⟨_, rfl⟩, [], hF, rfl, by simp, dkF, stF⟩ ?_ ?_
  · rintro i σ H' hi ⟨⟨u, rfl⟩, xs, hx, lx, axs, dk2, st⟩
    have hi' : i < x0.length := by simpa using hi
    have g0 : x0[i]? = some x0[i] := List.getElem?_eq_getElem hi'
    have i1 : i < x1.length := by omega
    have g1 : x1[i]? = some x1[i] := List.getElem?_eq_getElem i1
    have b0 := sd0.all _ (List.getElem_mem hi')
    have b1 := sd1.all _ (List.getElem_mem i1)
    have hp' := st.tp _ _ hp
    have h0' := st.tp _ _ h0
    have h1' := st.tp _ _ h1
    rw [Int.zero_add]
    simp only [tRet, tAndV, tOrV, tNotV, tCB, tCons, tNil, tC, tVar, tChain, rI0, tIfS, tTest, tOp, tUn, rU, rI, tPar3, tBM, tBM0, tM1, gSub, tXm, tCon, tProp, tMethR, rEq, rNe, rIxT, rIxL, decide_true, decide_false, tAnd, tOr, tNot, tB, tSeq, tAsg, gName, tDrop, tNext, tTup, tLst, tIf, tDf, tFld, tMf0, tPart, tSl, tNoPart, tPar, gTup, gLst, gCons, gNil, L2.start, List.map_cons, List.map_nil, List.length_cons, List.length_nil, Nat.zero_add, Nat.sub_self, Nat.reduceAdd, Nat.reduceSub, List.replicate_zero, List.replicate_succ, List.append_nil, List.nil_append, List.cons_append, List.getElem?_cons_zero, List.getElem?_cons_succ, List.set_cons_zero, List.set_cons_succ, Option.some.injEq, exists_and_left, exists_eq_left', exists_eq_left, V.int.injEq, V.bl.injEq, V.str.injEq, V.ref.injEq, List.cons.injEq, and_true, true_and, if_true, if_false, Bool.false_eq_true, reduceCtorEq, Bool.not_true, Bool.not_false, cxOf]
    refine ⟨.inl ⟨rfl, _, SqL.of hx⟩, ?_⟩
    repeat (first | (refine ⟨_, SqT.of (by first | assumption | exact St'.tp (H := H) (by assumption) _ _ (by assumption)), ?_⟩) | (refine ⟨_, .inr (SqT.of (by first | assumption | exact St'.tp (H := H) (by assumption) _ _ (by assumption))), ?_⟩) | (refine ⟨_, rfl, ?_⟩) | (refine ⟨_, atIv (by assumption), ?_⟩) | (refine ⟨_, _, ⟨rfl, rfl⟩, ?_⟩) | (refine ⟨rfl, ?_⟩) | simp only [tRet, tAndV, tOrV, tNotV, tCB, tCons, tNil, tC, tVar, tChain, rI0, tIfS, tTest, tOp, tUn, rU, rI, tPar3, tBM, tBM0, tM1, gSub, tXm, tCon, tProp, tMethR, rEq, rNe, rIxT, rIxL, decide_true, decide_false, tAnd, tOr, tNot, tB, tSeq, tAsg, gName, tDrop, tNext, tTup, tLst, tIf, tDf, tFld, tMf0, tPart, tSl, tNoPart, tPar, gTup, gLst, gCons, gNil, L2.start, List.map_cons, List.map_nil, List.length_cons, List.length_nil, Nat.zero_add, Nat.sub_self, Nat.reduceAdd, Nat.reduceSub, List.replicate_zero, List.replicate_succ, List.append_nil, List.nil_append, List.cons_append, List.getElem?_cons_zero, List.getElem?_cons_succ, List.set_cons_zero, List.set_cons_succ, Option.some.injEq, exists_and_left, exists_eq_left', exists_eq_left, V.int.injEq, V.bl.injEq, V.str.injEq, V.ref.injEq, List.cons.injEq, and_true, true_and, if_true, if_false, Bool.false_eq_true, reduceCtorEq, Bool.not_true, Bool.not_false, cxOf])
    refine ⟨_, _, rfl, b0.1, by omega, b1.1, by omega, fun r r1 r2 => ?_⟩
    have r3 : x0[i] * x1[i] ≤ 6 * x1[i] := Int.mul_le_mul_of_nonneg_right b0.2 (by omega)
    have hFH : St' [F] H' (upd H' F (.lst (ivs xs ++ [.int r]))) := St'.refl.putL (by simp) hx
    refine ⟨F, _, _, rfl, rfl, hx, by simp [sizeLine]; omega, ⟨_, rfl⟩, xs ++ [r], by rw [upd_same]; simp [ivs], by simp [lx], ?_, ?_, st.own nF0⟩
    · intro x hx
      rcases List.mem_append.mp hx with h | h
      · exact axs x h
      · rw [List.mem_singleton.mp h]
        omega
    · refine dk2.stM hFH (fun z => Fn ?_) (fun z => Fn ?_) (by simp; exact bF)
      · simp at z; simp [z]
      · simp at z; simp [z]
  · rintro σ H' ⟨⟨u, rfl⟩, xs, hx, lx, axs, dk2, st⟩
    have ln : xs.length = x0.length := by simp at lx; omega
    obtain ⟨k, rfl⟩ := Int.eq_ofNat_of_zero_le ax0
    have k0 : k < x0.length := by omega
    have k1 : k < x1.length := by omega
    have g0 : x0[k]? = some x0[k] := List.getElem?_eq_getElem k0
    have g1 : x1[k]? = some x1[k] := List.getElem?_eq_getElem k1
    have b0 := sd0.all _ (List.getElem_mem k0)
    have b1 := sd1.all _ (List.getElem_mem k1)
    have hp' := st.tp _ _ hp
    have h0' := st.tp _ _ h0
    have h1' := st.tp _ _ h1
    simp only [tRet, tAndV, tOrV, tNotV, tCB, tCons, tNil, tC, tVar, tChain, rI0, tIfS, tTest, tOp, tUn, rU, rI, tPar3, tBM, tBM0, tM1, gSub, tXm, tCon, tProp, tMethR, rEq, rNe, rIxT, rIxL, decide_true, decide_false, tAnd, tOr, tNot, tB, tSeq, tAsg, gName, tDrop, tNext, tTup, tLst, tIf, tDf, tFld, tMf0, tPart, tSl, tNoPart, tPar, gTup, gLst, gCons, gNil, L2.start, List.map_cons, List.map_nil, List.length_cons, List.length_nil, Nat.zero_add, Nat.sub_self, Nat.reduceAdd, Nat.reduceSub, List.replicate_zero, List.replicate_succ, List.append_nil, List.nil_append, List.cons_append, List.getElem?_cons_zero, List.getElem?_cons_succ, List.set_cons_zero, List.set_cons_succ, Option.some.injEq, exists_and_left, exists_eq_left', exists_eq_left, V.int.injEq, V.bl.injEq, V.str.injEq, V.ref.injEq, List.cons.injEq, and_true, true_and, if_true, if_false, Bool.false_eq_true, reduceCtorEq, Bool.not_true, Bool.not_false, cxOf]
    repeat (first | (refine ⟨_, SqT.of (by first | assumption | exact St'.tp (H := H) (by assumption) _ _ (by assumption)), ?_⟩) | (refine ⟨_, .inr (SqT.of (by first | assumption | exact St'.tp (H := H) (by assumption) _ _ (by assumption))), ?_⟩) | (refine ⟨_, rfl, ?_⟩) | (refine ⟨_, atIv (by assumption), ?_⟩) | (refine ⟨_, _, ⟨rfl, rfl⟩, ?_⟩) | (refine ⟨rfl, ?_⟩) | simp only [tRet, tAndV, tOrV, tNotV, tCB, tCons, tNil, tC, tVar, tChain, rI0, tIfS, tTest, tOp, tUn, rU, rI, tPar3, tBM, tBM0, tM1, gSub, tXm, tCon, tProp, tMethR, rEq, rNe, rIxT, rIxL, decide_true, decide_false, tAnd, tOr, tNot, tB, tSeq, tAsg, gName, tDrop, tNext, tTup, tLst, tIf, tDf, tFld, tMf0, tPart, tSl, tNoPart, tPar, gTup, gLst, gCons, gNil, L2.start, List.map_cons, List.map_nil, List.length_cons, List.length_nil, Nat.zero_add, Nat.sub_self, Nat.reduceAdd, Nat.reduceSub, List.replicate_zero, List.replicate_succ, List.append_nil, List.nil_append, List.cons_append, List.getElem?_cons_zero, List.getElem?_cons_succ, List.set_cons_zero, List.set_cons_succ, Option.some.injEq, exists_and_left, exists_eq_left', exists_eq_left, V.int.injEq, V.bl.injEq, V.str.injEq, V.ref.injEq, List.cons.injEq, and_true, true_and, if_true, if_false, Bool.false_eq_true, reduceCtorEq, Bool.not_true, Bool.not_false, cxOf])
    refine ⟨d, a, b, 4, rfl, dk2, by decide, by decide, fun u1 H3 u10 u11 s3 dk3 => ⟨_, rfl, .inl ⟨by omega, by omega⟩, ?_⟩⟩
    have st3 := st.trans s3
    refine ⟨_, SqT.of (st3.tp _ _ hp), _, rfl, a1, rfl, _, SqT.of (st3.tp _ _ h1), _, atIv g1, d, a, b, 4, rfl, dk3, by decide, by decide, fun u2 H4 u20 u21 s4 dk4 => ?_⟩
    have st4 := st3.trans s4
    have hx4 := s4.kp _ _ (s3.kp _ _ hx Fn) Fn
    refine ⟨_, rfl, _, rfl, .inl ⟨by omega, by omega⟩, F, _, (k : Int), k, rfl, rfl, hx4, by unfold ixN; rw [if_pos (by omega), if_pos (by simp; omega)]; rfl, ?_⟩
    have e : (ivs xs).set k (V.int (x0[k] * u1 + x1[k] * (1 + u2))) = ivs (xs.set k (x0[k] * u1 + x1[k] * (1 + u2))) := (List.map_set ..).symm
    rw [e]
    have s5 : St' [F] H4 (upd H4 F (.lst (ivs (xs.set k (x0[k] * u1 + x1[k] * (1 + u2)))))) := St'.refl.putL (by simp) hx4
    have dk5 : Dk (upd H4 F (.lst (ivs (xs.set k (x0[k] * u1 + x1[k] * (1 + u2)))))) d a b := by
      refine dk4.stM s5 (fun z => Fn ?_) (fun z => Fn ?_) (by simp; exact bF)
      · simp at z; simp [z]
      · simp at z; simp [z]
    have st5 := st4.own (p := F) (o := .lst (ivs (xs.set k (x0[k] * u1 + x1[k] * (1 + u2))))) nF0
    have hF5 : upd H4 F (.lst (ivs (xs.set k (x0[k] * u1 + x1[k] * (1 + u2))))) F = some (.lst (ivs (xs.set k (x0[k] * u1 + x1[k] * (1 + u2))))) := upd_same
    generalize upd H4 F (.lst (ivs (xs.set k (x0[k] * u1 + x1[k] * (1 + u2))))) = H5 at *
    refine ⟨_, .inl ⟨SqL.of hF5, fun l nl => ?_⟩⟩
    have s6 := (St'.refl (M := []) (H := H5)).new (p := l) (o := .tup (ivs (xs.set k (x0[k] * u1 + x1[k] * (1 + u2))))) nl
    have p1 : x0[k] * u1 ≤ 6 * u1 := Int.mul_le_mul_of_nonneg_right b0.2 (by omega)
    have p2 : x1[k] * (1 + u2) ≤ 6 * (1 + u2) := Int.mul_le_mul_of_nonneg_right b1.2 (by omega)
    have p3 : 0 ≤ x0[k] * u1 := Int.mul_nonneg (by omega) (by omega)
    have p4 : x1[k] * 1 ≤ x1[k] * (1 + u2) := Int.mul_le_mul_of_nonneg_left (by omega) (by omega)
    refine q l _ _ (st5.trans s6.w0) (dk5.st s6) upd_same (by simp [ln]) ⟨by simp; omega, by simp; omega, fun x hx => ?_⟩
    rcases List.mem_or_eq_of_mem_set hx with h | h
    · exact axs x h
    · omega
theorem sc_law_plain_box : FnScope ["_law_deck_here", "_law_pair_here", "_law_many", "_law_brick", "_law_side"] ["_law_deck_here", "_law_pair_here", "_law_many"] (defScope s_law_plain_box) := ⟨rfl, rfl, rfl, by decide +kernel, rfl, by decide +kernel, by decide +kernel⟩
theorem ok_law_plain_box (T : Tx w K mg) (D__law_draw : Df R.prog w K mg base CX0 1 "_law_draw" spDraw) (D__law_one : Df R.prog w K mg base CX0 2 "_law_one" spOne) : Df R.prog w K mg base CX0 3 "_law_plain_box" spBoxL := by
  refine df_of T.d_law_plain_box T.g_law_plain_box sc_law_plain_box (fun _ _ _ _ _ _ us hl => match us, hl with | [_, _, _], _ => rfl)
    (fun vs H Q E h => by repeat (first | (obtain ⟨rfl, _⟩ := h; rfl) | (obtain ⟨_, h⟩ := h))) (fun cdv A outer s H vs Q E hr h => ?_)
  have nd := sc_law_plain_box.nd
  refine ⟨_, (pss_cons (ps_set (i := 3) nd rfl (by first | exact Or.inl rfl | exact Or.inr rfl) (pe_df D__law_one hr (by decide) pass0 (pa_cons (pv 0) (pa_cons (pe_callTy call_list_of rfl T.n_list (by decide +kernel) (pa_cons (pv 1) pa_nil)) pa_nil))))
          (pss_one (ps_ret (pe_callTy call_tuple_of rfl T.n_tuple (by decide +kernel) (pa_cons (pe_lc (own := [("_law_side", 4)]) (g := (gName 4)) (tt := tYes) rfl nd (pi_tup (pv 3)) (blkOk_by (own := [("_law_side", 4)]) (N := ["_law_deck_here", "_law_pair_here", "_law_many", "_law_brick", "_law_side"]) (sc := defScope s_law_plain_box) (by decide +kernel)) (fun _ _ _ _ _ => (pg_name (i := 4) nd rfl (by first | exact Or.inl rfl | exact Or.inr rfl))) (fun _ _ _ _ _ => pts_nil) (fun _ _ _ _ _ => (pe_op op_mul (pv 4) (pe_op op_add pe_int (pe_df D__law_draw hr (by decide) pass0 (pa_cons (pv 0) (pa_cons (pv 2) pa_nil))))))) pa_nil))))), ?_⟩
  obtain ⟨d, a, b, p, x0, x1, rfl, dk, ⟨a0, a1, hp, h0, h1⟩, sd0, sd1, el, q⟩ := h
  simp only [tRet, tAndV, tOrV, tNotV, tCB, tCons, tNil, tC, tVar, tChain, rI0, tIfS, tTest, tOp, tUn, rU, rI, tPar3, tBM, tBM0, tM1, gSub, tXm, tCon, tProp, tMethR, rEq, rNe, rIxT, rIxL, decide_true, decide_false, tAnd, tOr, tNot, tB, tSeq, tAsg, gName, tDrop, tNext, tTup, tLst, tIf, tDf, tFld, tMf0, tPart, tSl, tNoPart, tPar, gTup, gLst, gCons, gNil, L2.start, List.map_cons, List.map_nil, List.length_cons, List.length_nil, Nat.zero_add, Nat.sub_self, Nat.reduceAdd, Nat.reduceSub, List.replicate_zero, List.replicate_succ, List.append_nil, List.nil_append, List.cons_append, List.getElem?_cons_zero, List.getElem?_cons_succ, List.set_cons_zero, List.set_cons_succ, Option.some.injEq, exists_and_left, exists_eq_left', exists_eq_left, V.int.injEq, V.bl.injEq, V.str.injEq, V.ref.injEq, List.cons.injEq, and_true, true_and, if_true, if_false, Bool.false_eq_true, reduceCtorEq, Bool.not_true, Bool.not_false, cxOf]
  refine ⟨_, .inr (SqT.of hp), fun l nl => ?_⟩
  have s1 := (St'.refl (M := []) (H := H)).new (p := l) (o := .lst [.ref a0, .ref a1]) nl
  refine ⟨d, a, b, l, _, rfl, dk.st s1, upd_same, dk.nin nl, by simp, by simp, fun v H1 hv s2 dk1 => ?_⟩
  have st1 := s1.w0.trans s2
  obtain ⟨ar, r, rfl, hr, sr, lr⟩ : ∃ ar r, v = .ref ar ∧ H1 ar = some (.tup (ivs r)) ∧ Sd r 6 ∧ r.length = x0.length := by
    simp at hv
    rcases hv with rfl | rfl
    · exact ⟨a0, x0, rfl, st1.tp _ _ h0, sd0, rfl⟩
    · exact ⟨a1, x1, rfl, st1.tp _ _ h1, sd1, el⟩
  refine ⟨_, rfl, ar, rfl, ⟨_, SqT.of hr⟩, fun D nD => ?_⟩
  have Dn := dk1.nin nD
  obtain ⟨as, bs, c, hd, ha, hb, nb⟩ := dk1.ex
  have bD : b ≠ D := fun z => by rw [z, nD] at hb; cases hb
  have sD := (St'.refl (M := []) (H := H1)).new (p := D) (o := .lst []) nD
  refine lc_tup (xs := ivs r) (fun i H' => ∃ xs : List Int, H' D = some (.lst (ivs xs)) ∧ xs.length = i ∧ (∀ x ∈ xs, 1 ≤ x ∧ x ≤ 100) ∧ Dk H' d a b ∧ St' [d, a] H1 H') ⟨[], upd_same, rfl, by simp, dk1.st sD, sD.w0⟩ (fun i H' _ p => by obtain ⟨xs, _, _, _, _, z⟩ := p; exact SqT.of (z.tp _ _ hr)) ?_ ?_
  · rintro i x H' hi ⟨xs, hx, lx, axs, dk2, st⟩
    obtain ⟨z, hz, rfl⟩ := ivs_get hi
    have bz := sr.all z (List.mem_of_getElem? hz)
    have il := (List.getElem?_eq_some_iff.mp hz).1
    have n4 := sr.n4
    simp only [wipe, tYes, tCB, tRet, tAndV, tOrV, tNotV, tCB, tCons, tNil, tC, tVar, tChain, rI0, tIfS, tTest, tOp, tUn, rU, rI, tPar3, tBM, tBM0, tM1, gSub, tXm, tCon, tProp, tMethR, rEq, rNe, rIxT, rIxL, decide_true, decide_false, tAnd, tOr, tNot, tB, tSeq, tAsg, gName, tDrop, tNext, tTup, tLst, tIf, tDf, tFld, tMf0, tPart, tSl, tNoPart, tPar, gTup, gLst, gCons, gNil, L2.start, List.map_cons, List.map_nil, List.length_cons, List.length_nil, Nat.zero_add, Nat.sub_self, Nat.reduceAdd, Nat.reduceSub, List.replicate_zero, List.replicate_succ, List.append_nil, List.nil_append, List.cons_append, List.getElem?_cons_zero, List.getElem?_cons_succ, List.set_cons_zero, List.set_cons_succ, Option.some.injEq, exists_and_left, exists_eq_left', exists_eq_left, V.int.injEq, V.bl.injEq, V.str.injEq, V.ref.injEq, List.cons.injEq, and_true, true_and, if_true, if_false, Bool.false_eq_true, reduceCtorEq, Bool.not_true, Bool.not_false, cxOf]
    refine ⟨d, a, b, 4, rfl, dk2, by decide, by decide, fun k H2 k0 k1 s3 dk3 => ⟨_, rfl, .inl ⟨by omega, by omega⟩, ?_⟩⟩
    have hx2 := s3.kp _ _ hx Dn
    have s4 : St' [D] H2 (upd H2 D (.lst (ivs xs ++ [.int (z * (1 + k))]))) := St'.refl.putL (by simp) hx2
    have hb1 : z * 1 ≤ z * (1 + k) := Int.mul_le_mul_of_nonneg_left (by omega) (by omega)
    have hb2 : z * (1 + k) ≤ 6 * (1 + k) := Int.mul_le_mul_of_nonneg_right (by omega) (by omega)
    refine ⟨_, hx2, by simp [sizeLine]; omega, xs ++ [z * (1 + k)], by rw [upd_same]; simp [ivs], by simp [lx], ?_, ?_, (st.trans s3).own nD⟩
    · intro x hx
      rcases List.mem_append.mp hx with h | h
      · exact axs x h
      · rw [List.mem_singleton.mp h]
        omega
    · refine dk3.stM s4 (fun z => Dn ?_) (fun z => Dn ?_) (by simp; exact bD)
      · simp at z; simp [z]
      · simp at z; simp [z]
  · rintro H' ⟨xs, hx, lx, axs, dk2, st⟩
    have lx' : xs.length = x0.length := by simp at lx; omega
    have n1 := sd0.n1
    have n4 := sd0.n4
    refine ⟨D, rfl, _, .inl ⟨SqL.of hx, fun l2 nl2 => ?_⟩⟩
    have s2 := (St'.refl (M := []) (H := H')).new (p := l2) (o := .tup (ivs xs)) nl2
    exact q l2 xs _ ((st1.trans st).trans s2.w0) (dk2.st s2) upd_same lx' ⟨by omega, by omega, axs⟩
theorem sc_law_says : FnScope ["_law_deck_here", "_law_pair_here"] ["_law_deck_here", "_law_pair_here"] (defScope s_law_says) := ⟨rfl, rfl, rfl, by decide +kernel, rfl, by decide +kernel, by decide +kernel⟩
def spSays : Sp := fun vs H Q _ => ∃ (d a b p : Addr) (x0 x1 : List Int), vs = [.ref d, .ref p] ∧ Dk H d a b ∧ PairAt H p x0 x1 ∧ Sd x0 6 ∧ Sd x1 6 ∧ x1.length = x0.length ∧ ∀ q xs H', St' [d, a] H H' → Dk H' d a b → H' q = some (.tup (ivs xs)) → xs.length = x0.length → Sd xs 100 → Q (.ref q) H'
theorem ok_law_says (T : Tx w K mg) (D__law_cut_box : Df R.prog w K mg base CX0 3 "_law_cut_box" spBoxL) (D__law_plain_box : Df R.prog w K mg base CX0 3 "_law_plain_box" spBoxL) (D__law_sides : Df R.prog w K mg base CX0 2 "_law_sides" spSides) (D__law_one : Df R.prog w K mg base CX0 2 "_law_one" spOne) : Df R.prog w K mg base CX0 4 "_law_says" spSays := by
  refine df_of T.d_law_says T.g_law_says sc_law_says (fun _ _ _ _ _ _ us hl => match us, hl with | [_, _], _ => rfl)
    (fun vs H Q E h => by repeat (first | (obtain ⟨rfl, _⟩ := h; rfl) | (obtain ⟨_, h⟩ := h))) (fun cdv A outer s H vs Q E hr h => ?_)
  have nd := sc_law_says.nd
  refine ⟨_, (pss_one (ps_ret (pe_df D__law_one hr (by decide) pass0 (pa_cons (pv 0) (pa_cons (pe_lst (pa_cons (pe_df D__law_cut_box hr (by decide) pass0 (pa_cons (pv 0) (pa_cons (pv 1) (pa_cons pe_int pa_nil)))) (pa_cons (pe_df D__law_plain_box hr (by decide) pass0 (pa_cons (pv 0) (pa_cons (pv 1) (pa_cons pe_int pa_nil)))) (pa_cons (pe_df D__law_sides hr (by decide) pass0 (pa_cons (pv 0) (pa_cons (pe_callB call_len_seq rfl T.n_len PySem.boot_len (pa_cons (pe_ix ix_tup (pv 1) pe_int (fun _ _ => rfl)) pa_nil)) (pa_cons pe_int pa_nil)))) pa_nil)))) pa_nil))))), ?_⟩
  obtain ⟨d, a, b, p, x0, x1, rfl, dk, ⟨a0, a1, hp, h0, h1⟩, sd0, sd1, el, q⟩ := h
  simp only [tRet, tAndV, tOrV, tNotV, tCB, tCons, tNil, tC, tVar, tChain, rI0, tIfS, tTest, tOp, tUn, rU, rI, tPar3, tBM, tBM0, tM1, gSub, tXm, tCon, tProp, tMethR, rEq, rNe, rIxT, rIxL, decide_true, decide_false, tAnd, tOr, tNot, tB, tSeq, tAsg, gName, tDrop, tNext, tTup, tLst, tIf, tDf, tFld, tMf0, tPart, tSl, tNoPart, tPar, gTup, gLst, gCons, gNil, L2.start, List.map_cons, List.map_nil, List.length_cons, List.length_nil, Nat.zero_add, Nat.sub_self, Nat.reduceAdd, Nat.reduceSub, List.replicate_zero, List.replicate_succ, List.append_nil, List.nil_append, List.cons_append, List.getElem?_cons_zero, List.getElem?_cons_succ, List.set_cons_zero, List.set_cons_succ, Option.some.injEq, exists_and_left, exists_eq_left', exists_eq_left, V.int.injEq, V.bl.injEq, V.str.injEq, V.ref.injEq, List.cons.injEq, and_true, true_and, if_true, if_false, Bool.false_eq_true, reduceCtorEq, Bool.not_true, Bool.not_false, cxOf]
  refine ⟨d, a, b, p, x0, x1, rfl, dk, ⟨a0, a1, hp, h0, h1⟩, sd0, sd1, el, fun q1 y1 H1 s1 dk1 k1 l1 e1 => ?_⟩
  refine ⟨d, a, b, p, x0, x1, rfl, dk1, ⟨a0, a1, s1.tp _ _ hp, s1.tp _ _ h0, s1.tp _ _ h1⟩, sd0, sd1, el, fun q2 y2 H2 s2 dk2 k2 l2 e2 => ?_⟩
  have st2 := s1.trans s2
  refine ⟨_, SqT.of (st2.tp _ _ hp), _, rfl, a0, rfl, _, .inr (SqT.of (st2.tp _ _ h0)), ?_⟩
  rw [List.length_map]
  refine ⟨d, a, b, x0.length, 12, rfl, dk2, sd0.n1, sd0.n4, by decide, by decide, fun q3 y3 H3 s3 dk3 k3 l3 e3 => ⟨by decide, fun l nl => ?_⟩⟩
  have st3 := st2.trans s3
  have s4 := (St'.refl (M := []) (H := H3)).new (p := l) (o := .lst [.ref q1, .ref q2, .ref q3]) nl
  refine ⟨d, a, b, l, _, rfl, dk3.st s4, upd_same, dk3.nin nl, by simp, by simp, fun v H5 hv s5 dk5 => ?_⟩
  have st5 := (st3.trans s4.w0).trans s5
  simp at hv
  rcases hv with rfl | rfl | rfl
  · exact q q1 y1 H5 st5 dk5 (s5.tp _ _ (s4.tp _ _ (s3.tp _ _ (s2.tp _ _ k1)))) l1 e1
  · exact q q2 y2 H5 st5 dk5 (s5.tp _ _ (s4.tp _ _ (s3.tp _ _ k2))) l2 e2
  · exact q q3 y3 H5 st5 dk5 (s5.tp _ _ (s4.tp _ _ k3)) l3 (e3.mono (by decide))
end
end Yk
set_option Elab.async false
set_option linter.all false
set_option maxRecDepth 100000
set_option maxHeartbeats 4000000
/-! the law: what a page is behind an edit -/
namespace Yk
open PySem PySem.Spec PyProof.Rows L2
/-- the law's answer: a page, or the refusal in a list -/
def ResAt (H : Hp) (o : Out) (v : V) : Prop := match o with
  | .ok g => PgAt H v g
  | .bad x _ u => ∃ l, v = .ref l ∧ H l = some (.lst [.str x, u])
def greatL (n : Int) : Nat → List Int → List Int
  | _, [] => []
  | i, b :: r => if b + n > big then (i : Int) :: greatL n (i + 1) r else greatL n (i + 1) r
theorem greatL_head (n : Int) : ∀ (i : Nat) (bx : List Int), (greatL n i bx).head? = (greatN n i bx).map fun k => (k : Int)
  | _, [] => rfl
  | i, b :: r => by
    unfold greatL greatN
    split
    · rfl
    · exact greatL_head n (i + 1) r
def upTo : Int → Nat → List Int
  | _, 0 => []
  | lo, n + 1 => lo :: upTo (lo + 1) n
theorem incr_upTo : ∀ (xs : List Int) (lo : Int), xs.Pairwise (· < ·) → (∀ x ∈ xs, lo ≤ x ∧ x < lo + xs.length) → xs = upTo lo xs.length
  | [], _, _, _ => rfl
  | x :: r, lo, hp, hb => by
    have h1 := List.pairwise_cons.mp hp
    have bx := hb x (by simp)
    have ih := incr_upTo r (lo + 1) h1.2 fun y hy => by
      have := h1.1 y hy
      have := hb y (by simp [hy])
      simp at this
      constructor <;> omega
    show x :: r = lo :: upTo (lo + 1) r.length
    rw [← ih]
    cases r with
    | nil => simp at bx; have : x = lo := by omega
             rw [this]
    | cons y t =>
      have hy : y = lo + 1 := by
        have := congrArg (fun l => l.head?) ih
        simpa [upTo] using this
      have := h1.1 y (by simp)
      have : x = lo := by omega
      rw [this]
theorem upTo_map : ∀ (n : Nat) (lo : Int), upTo lo n = (List.range n).map fun i => lo + ((i : Nat) : Int)
  | 0, _ => rfl
  | n + 1, lo => by
    rw [List.range_succ_eq_map, List.map_cons, List.map_map, upTo, upTo_map n (lo + 1)]
    refine congr (congrArg List.cons (by simp)) ?_
    refine List.map_congr_left fun i _ => ?_
    simp
    omega
abbrev rgL (n : Nat) : List Int := (List.range n).map fun i => (0 : Int) + ((i : Nat) : Int)
theorem rgV_ivs (n : Nat) : rgV 0 n = ivs (rgL n) := by
  unfold rgV
  simp [ivs]
theorem perm_sorted {ns ns' : List Int} {n : Nat} (hp : ns'.Perm ns) (hs : ns'.Pairwise (· ≤ ·)) (hb : ∀ x ∈ ns, 0 ≤ x ∧ x < (n : Int)) : ns' = rgL n ↔ ns.length = n ∧ ns.Nodup := by
  constructor
  · intro e
    have l := hp.length_eq
    refine ⟨by rw [← l, e]; simp, ?_⟩
    refine hp.nodup_iff.mp ?_
    rw [e]
    exact List.pairwise_map.mpr ((List.nodup_range (n := n)).imp fun h z => h (by omega))
  · rintro ⟨l, nd⟩
    have nd' := hp.nodup_iff.mpr nd
    have l' : ns'.length = n := by rw [hp.length_eq, l]
    have lt : ns'.Pairwise (· < ·) := by
      have := List.pairwise_and_iff.mpr ⟨hs, nd'⟩
      exact this.imp fun h => by omega
    have := incr_upTo ns' 0 lt fun x hx => by
      have := hb x (hp.mem_iff.mp hx)
      omega
    rw [this, l', upTo_map]
theorem eqvAll_ints : ∀ xs ys : List Int, PyData.eqvAll (xs.map PyData.int) (ys.map PyData.int) = decide (xs = ys)
  | [], [] => by simp [PyData.eqvAll]
  | [], y :: ys => by simp [PyData.eqvAll]
  | x :: xs, [] => by simp [PyData.eqvAll]
  | x :: xs, y :: ys => by
    simp [PyData.eqvAll, PyData.eqv, eqvAll_ints xs ys]
    by_cases h : x = y <;> simp [h]
section
variable {w : World} {K : KF} {mg : Str → Option Value} {base : Heap}
theorem sc_law_more_page : FnScope ["_law_page", "_law_number", "_law_great", "_law_axis", "_law_side"] ["_law_page", "_law_number"] (defScope s_law_more_page) := ⟨rfl, rfl, rfl, by decide +kernel, rfl, by decide +kernel, by decide +kernel⟩
def spMoreL : Sp := fun vs H Q _ => ∃ (p n : V) (g : Pg), vs = [p, n] ∧ PgAt H p g ∧ g.Ok big ∧ TyV H n ∧ ∀ v H', St' [] H H' → ResAt H' (moreP g n) v → Q v H'
theorem ok_law_more_page (T : Tx w K mg) (D__law_whole : Df R.prog w K mg base CX0 1 "_law_whole" spIsInt) : Df R.prog w K mg base CX0 2 "_law_more_page" spMoreL := by
  refine df_of T.d_law_more_page T.g_law_more_page sc_law_more_page (fun _ _ _ _ _ _ us hl => match us, hl with | [_, _], _ => rfl)
    (fun vs H Q E h => by repeat (first | (obtain ⟨rfl, _⟩ := h; rfl) | (obtain ⟨_, h⟩ := h))) (fun cdv A outer s H vs Q E hr h => ?_)
  have nd := sc_law_more_page.nd
  refine ⟨_, (pss_cons (ps_if (pt_not (pt_val (pe_df D__law_whole hr (by decide) pass0 (pa_cons (pv 1) (pa_cons pe_int (pa_cons (pe_op op_pow pe_int pe_int) pa_nil)))))) (pss_one (ps_ret (pe_lst (pa_cons pe_str (pa_cons (pv 1) pa_nil))))) pss_nil)
          (pss_cons (ps_setLc (i := 2) (own := [("_law_axis", 3)]) (g := (gName 3)) rfl nd rfl rfl (sw_true rfl rfl rfl (by decide +kernel)) (pi_range1 rfl T.n_range (pa_cons (pe_callB call_len_seq rfl T.n_len PySem.boot_len (pa_cons (pe_ix ix_tup (pv 0) pe_int (fun _ _ => rfl)) pa_nil)) pa_nil)) (blkOk_by (own := [("_law_axis", 3)]) (N := ["_law_page", "_law_number", "_law_great", "_law_axis", "_law_side"]) (sc := defScope s_law_more_page) (by decide +kernel)) (fun _ _ _ _ _ => (pg_name (i := 3) nd rfl (by first | exact Or.inl rfl | exact Or.inr rfl))) (fun _ _ _ _ _ => pts_one (pt_cmpR op_gt (pe_op op_add (pe_ix (show IxR _ (rIxT K) from ix_tup) (pe_ix (show IxR _ (rIxT K) from ix_tup) (pv 0) pe_int (fun _ _ => rfl)) (pv 3) (fun _ _ => rfl)) (pv 1)) (pe_op op_pow pe_int pe_int) (nomark _))) (fun _ _ _ _ _ => (pv 3)))
          (pss_one (ps_ret (pe_ifExp (pt_cmpR (op_neD hr.units) (pv 2) (pe_lst pa_nil) (nomark _)) (pe_lst (pa_cons pe_str (pa_cons (pe_ix ix_list (pv 2) pe_int (fun _ _ => rfl)) pa_nil))) (pe_tup (pa_cons (pe_ix ix_tup (pv 0) pe_int (fun _ _ => rfl)) (pa_cons (pe_callTy call_tuple_of rfl T.n_tuple (by decide +kernel) (pa_cons (pe_lc (own := [("_law_side", 4)]) (g := (gName 4)) (tt := tYes) rfl nd (pi_tup (pe_ix ix_tup (pv 0) pe_int (fun _ _ => rfl))) (blkOk_by (own := [("_law_side", 4)]) (N := ["_law_page", "_law_number", "_law_great", "_law_axis", "_law_side"]) (sc := defScope s_law_more_page) (by decide +kernel)) (fun _ _ _ _ _ => (pg_name (i := 4) nd rfl (by first | exact Or.inl rfl | exact Or.inr rfl))) (fun _ _ _ _ _ => pts_nil) (fun _ _ _ _ _ => (pe_op op_add (pv 4) (pv 1)))) pa_nil)) pa_nil)))))))), ?_⟩
  obtain ⟨p, n, g, rfl, ⟨pa, ap, ab, rfl, hpa, ⟨a0, a1, hap, h0, h1⟩, hab⟩, ok, tn, q⟩ := h
  simp only [tRet, tAndV, tOrV, tNotV, tCB, tCons, tNil, tC, tVar, tChain, rI0, tIfS, tTest, tOp, tUn, rU, rI, tPar3, tBM, tBM0, tM1, gSub, tXm, tCon, tProp, tMethR, rEq, rNe, rIxT, rIxL, decide_true, decide_false, tAnd, tOr, tNot, tB, tSeq, tAsg, gName, tDrop, tNext, tTup, tLst, tIf, tDf, tFld, tMf0, tPart, tSl, tNoPart, tPar, gTup, gLst, gCons, gNil, L2.start, List.map_cons, List.map_nil, List.length_cons, List.length_nil, Nat.zero_add, Nat.sub_self, Nat.reduceAdd, Nat.reduceSub, List.replicate_zero, List.replicate_succ, List.append_nil, List.nil_append, List.cons_append, List.getElem?_cons_zero, List.getElem?_cons_succ, List.set_cons_zero, List.set_cons_succ, Option.some.injEq, exists_and_left, exists_eq_left', exists_eq_left, V.int.injEq, V.bl.injEq, V.str.injEq, V.ref.injEq, List.cons.injEq, and_true, true_and, if_true, if_false, Bool.false_eq_true, reduceCtorEq, Bool.not_true, Bool.not_false, cxOf]
  repeat (first | (refine ⟨_, SqT.of (by first | assumption | exact St'.tp (H := H) (by assumption) _ _ (by assumption)), ?_⟩) | (refine ⟨_, .inr (SqT.of (by first | assumption | exact St'.tp (H := H) (by assumption) _ _ (by assumption))), ?_⟩) | (refine ⟨_, rfl, ?_⟩) | (refine ⟨_, atIv (by assumption), ?_⟩) | (refine ⟨_, _, ⟨rfl, rfl⟩, ?_⟩) | (refine ⟨rfl, ?_⟩) | simp only [tRet, tAndV, tOrV, tNotV, tCB, tCons, tNil, tC, tVar, tChain, rI0, tIfS, tTest, tOp, tUn, rU, rI, tPar3, tBM, tBM0, tM1, gSub, tXm, tCon, tProp, tMethR, rEq, rNe, rIxT, rIxL, decide_true, decide_false, tAnd, tOr, tNot, tB, tSeq, tAsg, gName, tDrop, tNext, tTup, tLst, tIf, tDf, tFld, tMf0, tPart, tSl, tNoPart, tPar, gTup, gLst, gCons, gNil, L2.start, List.map_cons, List.map_nil, List.length_cons, List.length_nil, Nat.zero_add, Nat.sub_self, Nat.reduceAdd, Nat.reduceSub, List.replicate_zero, List.replicate_succ, List.append_nil, List.nil_append, List.cons_append, List.getElem?_cons_zero, List.getElem?_cons_succ, List.set_cons_zero, List.set_cons_succ, Option.some.injEq, exists_and_left, exists_eq_left', exists_eq_left, V.int.injEq, V.bl.injEq, V.str.injEq, V.ref.injEq, List.cons.injEq, and_true, true_and, if_true, if_false, Bool.false_eq_true, reduceCtorEq, Bool.not_true, Bool.not_false, cxOf])
  refine ⟨⟨by decide, by decide, by decide⟩, ?_⟩
  rw [show (10 : Int) ^ Int.toNat 12 = big from by decide]
  refine ⟨n, 1, big, rfl, tn, ?_⟩
  unfold moreP at q
  cases c : inR n 1 big with
  | false =>
    rw [if_neg (by rw [c]; simp)] at q
    refine ⟨false, rfl, ?_⟩
    rw [if_pos (by simp)]
    refine ⟨by decide, fun l nl => q _ _ (St'.refl.new nl) ⟨l, rfl, upd_same⟩⟩
  | true =>
    rw [if_pos c] at q
    obtain ⟨m, rfl, n1, n2⟩ := inR_iff.mp c
    dsimp only [toI] at q
    refine ⟨true, rfl, ?_⟩
    rw [if_neg (by simp)]
    have n4 := ok.o3.sb.n4
    refine ⟨_, rfl, _, _, 1, _, rfl, rfl, SqT.of hpa, rfl, ab, rfl, _, .inr (SqT.of hab), _, rfl, by omega, by simp; omega, fun D nD => ?_⟩
    refine lc_range (fun i H' => ∃ gs : List Int, H' D = some (.lst (ivs gs)) ∧ gs.length ≤ i ∧ gs ++ greatL m i (g.bx.drop i) = greatL m 0 g.bx ∧ St' [] H H') ⟨[], upd_same, Nat.le_refl _, rfl, St'.refl.new nD⟩ ?_ ?_
    · rintro i H' hi ⟨gs, hg, lg, eg, st⟩
      have hi' : i < g.bx.length := by simpa using hi
      have eb : g.bx.drop i = g.bx[i] :: g.bx.drop (i + 1) := List.drop_eq_getElem_cons hi'
      have gi : g.bx[i]? = some g.bx[i] := List.getElem?_eq_getElem hi'
      have hpa' := st.tp _ _ hpa
      have hab' := st.tp _ _ hab
      rw [eb, greatL] at eg
      rw [Int.zero_add]
      simp only [wipe, tYes, tCB, tRet, tAndV, tOrV, tNotV, tCB, tCons, tNil, tC, tVar, tChain, rI0, tIfS, tTest, tOp, tUn, rU, rI, tPar3, tBM, tBM0, tM1, gSub, tXm, tCon, tProp, tMethR, rEq, rNe, rIxT, rIxL, decide_true, decide_false, tAnd, tOr, tNot, tB, tSeq, tAsg, gName, tDrop, tNext, tTup, tLst, tIf, tDf, tFld, tMf0, tPart, tSl, tNoPart, tPar, gTup, gLst, gCons, gNil, L2.start, List.map_cons, List.map_nil, List.length_cons, List.length_nil, Nat.zero_add, Nat.sub_self, Nat.reduceAdd, Nat.reduceSub, List.replicate_zero, List.replicate_succ, List.append_nil, List.nil_append, List.cons_append, List.getElem?_cons_zero, List.getElem?_cons_succ, List.set_cons_zero, List.set_cons_succ, Option.some.injEq, exists_and_left, exists_eq_left', exists_eq_left, V.int.injEq, V.bl.injEq, V.str.injEq, V.ref.injEq, List.cons.injEq, and_true, true_and, if_true, if_false, Bool.false_eq_true, reduceCtorEq, Bool.not_true, Bool.not_false, cxOf]
      repeat (first | (refine ⟨_, SqT.of (by first | assumption | exact St'.tp (H := H) (by assumption) _ _ (by assumption)), ?_⟩) | (refine ⟨_, .inr (SqT.of (by first | assumption | exact St'.tp (H := H) (by assumption) _ _ (by assumption))), ?_⟩) | (refine ⟨_, rfl, ?_⟩) | (refine ⟨_, atIv (by assumption), ?_⟩) | (refine ⟨_, _, ⟨rfl, rfl⟩, ?_⟩) | (refine ⟨rfl, ?_⟩) | simp only [tRet, tAndV, tOrV, tNotV, tCB, tCons, tNil, tC, tVar, tChain, rI0, tIfS, tTest, tOp, tUn, rU, rI, tPar3, tBM, tBM0, tM1, gSub, tXm, tCon, tProp, tMethR, rEq, rNe, rIxT, rIxL, decide_true, decide_false, tAnd, tOr, tNot, tB, tSeq, tAsg, gName, tDrop, tNext, tTup, tLst, tIf, tDf, tFld, tMf0, tPart, tSl, tNoPart, tPar, gTup, gLst, gCons, gNil, L2.start, List.map_cons, List.map_nil, List.length_cons, List.length_nil, Nat.zero_add, Nat.sub_self, Nat.reduceAdd, Nat.reduceSub, List.replicate_zero, List.replicate_succ, List.append_nil, List.nil_append, List.cons_append, List.getElem?_cons_zero, List.getElem?_cons_succ, List.set_cons_zero, List.set_cons_succ, Option.some.injEq, exists_and_left, exists_eq_left', exists_eq_left, V.int.injEq, V.bl.injEq, V.str.injEq, V.ref.injEq, List.cons.injEq, and_true, true_and, if_true, if_false, Bool.false_eq_true, reduceCtorEq, Bool.not_true, Bool.not_false, cxOf])
      refine ⟨⟨by decide, by decide, by decide⟩, ?_⟩
      rw [show (10 : Int) ^ Int.toNat 12 = big from by decide]
      by_cases z : g.bx[i] + m > big
      · rw [if_pos z] at eg
        rw [if_pos (decide_eq_true z)]
        refine ⟨_, hg, Nat.lt_of_le_of_lt (m := 4) (by simp; omega) (by decide), gs ++ [(i : Int)], by rw [upd_same]; simp [ivs], by simp; omega, by rw [List.append_assoc]; exact eg, st.own nD⟩
      · rw [if_neg z] at eg
        rw [if_neg (by simpa using z)]
        exact ⟨gs, hg, by omega, eg, st⟩
    · rintro H1 ⟨gs, hg, lg, eg, st⟩
      have eg' : gs = greatL m 0 g.bx := by
        rw [← eg, List.drop_of_length_le (by simp)]
        simp [greatL]
      refine ⟨by decide, fun p2 n2' => ?_⟩
      have s2 := (St'.refl (M := []) (H := H1)).new (p := p2) (o := .lst []) n2'
      refine ⟨_, _, dp_intsL (s2.kp _ _ hg (by simp)), dp_nilL upd_same, (Pl.lst (n := 1) (pl_ints _)).sh, (Pl.lst (n := 1) (by simp)).sh, ?_⟩
      rw [eqv_nil]
      have st2 := st.trans s2
      have hg2 := s2.kp _ _ hg (by simp)
      generalize upd H1 p2 (.lst []) = H2 at *
      have hh := greatL_head m 0 g.bx
      rw [← eg'] at hh
      refine ⟨_, rfl, ?_⟩
      cases gs with
      | cons x r =>
        rw [if_pos (by simp)]
        cases gn : greatN m 0 g.bx with
        | none => rw [gn] at hh; simp at hh
        | some k =>
          rw [gn] at hh q
          simp at hh
          subst hh
          refine ⟨D, rfl, _, SqL.of hg2, _, atIv (i := 0) rfl, by decide, fun l nl => q _ _ (st2.new nl) ⟨l, rfl, upd_same⟩⟩
      | nil =>
        rw [if_neg (by simp)]
        cases gn : greatN m 0 g.bx with
        | some k => rw [gn] at hh; simp at hh
        | none =>
          rw [gn] at q
          have hpa2 := st2.tp _ _ hpa
          have hab2 := st2.tp _ _ hab
          refine ⟨_, SqT.of hpa2, _, rfl, ?_⟩
          refine ⟨_, rfl, _, _, 1, _, rfl, rfl, SqT.of hpa2, rfl, ab, rfl, ⟨_, SqT.of hab2⟩, fun D3 nD3 => lc_tup (xs := ivs g.bx) (fun i H' => H' D3 = some (.lst (ivs ((g.bx.take i).map (· + m)))) ∧ St' [] H2 H') ⟨upd_same, St'.refl.new nD3⟩ (fun i H' _ p => SqT.of (p.2.tp _ _ hab2)) ?_ ?_⟩
          · rintro i x H' hi ⟨hD, s2⟩
            obtain ⟨z, hz, rfl⟩ := ivs_get hi
            simp only [wipe, tYes, tRet, tAndV, tOrV, tNotV, tCB, tCons, tNil, tC, tVar, tChain, rI0, tIfS, tTest, tOp, tUn, rU, rI, tPar3, tBM, tBM0, tM1, gSub, tXm, tCon, tProp, tMethR, rEq, rNe, rIxT, rIxL, decide_true, decide_false, tAnd, tOr, tNot, tB, tSeq, tAsg, gName, tDrop, tNext, tTup, tLst, tIf, tDf, tFld, tMf0, tPart, tSl, tNoPart, tPar, gTup, gLst, gCons, gNil, L2.start, List.map_cons, List.map_nil, List.length_cons, List.length_nil, Nat.zero_add, Nat.sub_self, Nat.reduceAdd, Nat.reduceSub, List.replicate_zero, List.replicate_succ, List.append_nil, List.nil_append, List.cons_append, List.getElem?_cons_zero, List.getElem?_cons_succ, List.set_cons_zero, List.set_cons_succ, Option.some.injEq, exists_and_left, exists_eq_left', exists_eq_left, V.int.injEq, V.bl.injEq, V.str.injEq, V.ref.injEq, List.cons.injEq, and_true, true_and, if_true, if_false, Bool.false_eq_true, reduceCtorEq, Bool.not_true, Bool.not_false, cxOf]
            refine ⟨_, hD, Nat.lt_of_le_of_lt (m := 4) (by have z2 := List.length_take_le' i g.bx; simp only [List.length_map]; omega) (by decide), ?_, s2.own nD3⟩
            rw [upd_same, List.take_add_one, hz]
            simp [ivs]
          · rintro H' ⟨hD, s2⟩
            rw [List.length_map, List.take_length] at hD
            have st2 := st2.trans s2
            refine ⟨D3, rfl, _, .inl ⟨SqL.of hD, fun l nl => ⟨by decide, fun p3 n3 => ?_⟩⟩⟩
            have s3 := St'.refl (M := []) |>.new (p := l) (o := .tup (ivs (g.bx.map (· + m)))) nl
            have s4 := St'.refl (M := []) |>.new (p := p3) (o := .tup [.ref ap, .ref l]) n3
            have s5 := st2.trans (s3.trans s4)
            exact q _ _ s5 ⟨p3, ap, l, rfl, upd_same, ⟨a0, a1, s5.tp _ _ hap, s5.tp _ _ h0, s5.tp _ _ h1⟩, s4.tp _ _ upd_same⟩
theorem sc_law_turned_page : FnScope ["_law_page", "_law_order", "_law_pair_here", "_law_box", "_law_every", "_law_rows", "_law_axis", "_law_sides_here"] ["_law_page", "_law_order"] (defScope s_law_turned_page) := ⟨rfl, rfl, rfl, by decide +kernel, rfl, by decide +kernel, by decide +kernel⟩
def spTurnL : Sp := fun vs H Q _ => ∃ (p v : V) (g : Pg) (o : Option (List V)), vs = [p, v] ∧ PgAt H p g ∧ g.Ok big ∧ OdV H v o ∧ ∀ v' H', St' [] H H' → ResAt H' (turnP g v o) v' → Q v' H'
theorem ok_law_turned_page (T : Tx w K mg) (D__law_whole : Df R.prog w K mg base CX0 1 "_law_whole" spIsInt) : Df R.prog w K mg base CX0 2 "_law_turned_page" spTurnL := by
  refine df_of T.d_law_turned_page T.g_law_turned_page sc_law_turned_page (fun _ _ _ _ _ _ us hl => match us, hl with | [_, _], _ => rfl)
    (fun vs H Q E h => by repeat (first | (obtain ⟨rfl, _⟩ := h; rfl) | (obtain ⟨_, h⟩ := h))) (fun cdv A outer s H vs Q E hr h => ?_)
  have nd := sc_law_turned_page.nd
  refine ⟨_, (pss_cons (ps_asg (pv 0) (pg_tup rfl (pgs_cons (pg_name (i := 2) nd rfl (by first | exact Or.inl rfl | exact Or.inr rfl)) (pgs_cons (pg_name (i := 3) nd rfl (by first | exact Or.inl rfl | exact Or.inr rfl)) pgs_nil))))
          (pss_cons (ps_set (i := 4) nd rfl (by first | exact Or.inl rfl | exact Or.inr rfl) (pe_listRg rfl rfl T.n_list (prg_1 rfl T.n_range (pe_callB call_len_seq rfl T.n_len PySem.boot_len (pa_cons (pv 3) pa_nil)))))
          (pss_cons (ps_if (PW.pt (pw_or (pt_not (pt_val (pe_callB call_isi rfl T.n_isinstance (by decide +kernel) (pa_cons (pv 1) (pa_cons (pe_bltn (v := .ty "tuple") rfl T.n_tuple (by decide +kernel) rfl) pa_nil))))) (pw_or1 (pt_cmpR (op_neE hr.units) (pe_lc (own := [("_law_axis", 6)]) (g := (gName 6)) rfl nd (pi_tup (pv 1)) (blkOk_by (own := [("_law_axis", 6)]) (N := ["_law_page", "_law_order", "_law_pair_here", "_law_box", "_law_every", "_law_rows", "_law_axis", "_law_sides_here"]) (sc := defScope s_law_turned_page) (by decide +kernel)) (fun _ _ _ _ _ => (pg_name (i := 6) nd rfl (by first | exact Or.inl rfl | exact Or.inr rfl))) (fun _ _ _ _ _ => pts_one (pt_not (pt_val (pe_df D__law_whole hr (by decide) pass0 (pa_cons (pv 6) (pa_cons pe_int (pa_cons (pe_op op_sub (pe_callB (show CallR _ _ (rLenS K) from call_len_seq) rfl T.n_len PySem.boot_len (pa_cons (pv 3) pa_nil)) pe_int) pa_nil))))))) (fun _ _ _ _ _ => (pv 6))) (pe_lst pa_nil) (nomark _))))) (pss_one (ps_ret (pe_lst (pa_cons pe_str (pa_cons (pv 1) pa_nil))))) pss_nil)
          (pss_cons (ps_if (pt_cmpR (op_neD hr.units) (pe_callB call_sortedT rfl T.n_sorted (by decide +kernel) (pa_cons (pv 1) pa_nil)) (pv 4) (nomark _)) (pss_one (ps_ret (pe_lst (pa_cons pe_str (pa_cons (pv 1) pa_nil))))) pss_nil)
          (pss_cons (ps_setLc (i := 5) (own := [("_law_sides_here", 7)]) (g := (gName 7)) (tt := tYes) rfl nd rfl rfl (sw_true rfl rfl rfl (by decide +kernel)) (pi_tup (pe_tup (pa_cons (pe_ix ix_tup (pv 2) pe_int (fun _ _ => rfl)) (pa_cons (pe_ix ix_tup (pv 2) pe_int (fun _ _ => rfl)) (pa_cons (pv 3) pa_nil))))) (blkOk_by (own := [("_law_sides_here", 7)]) (N := ["_law_page", "_law_order", "_law_pair_here", "_law_box", "_law_every", "_law_rows", "_law_axis", "_law_sides_here"]) (sc := defScope s_law_turned_page) (by decide +kernel)) (fun _ _ _ _ _ => (pg_name (i := 7) nd rfl (by first | exact Or.inl rfl | exact Or.inr rfl))) (fun _ _ _ _ _ => pts_nil) (fun _ _ _ _ _ => (pe_callTy (show CallR _ _ (rTupS K) from call_tuple_of) rfl T.n_tuple (by decide +kernel) (pa_cons (pe_lc (own := [("_law_axis", 6)]) (g := (gName 6)) (tt := tYes) (wi := iTup K (tVar 1)) (te := tOp (rIxT K) (tVar 7) (tVar 6)) rfl nd (show PI _ _ _ (iTup K _) from pi_tup (pv 1)) (by refine blkOk_by ?_; rfl) (fun _ _ _ _ _ => (pg_name (i := 6) nd rfl (by first | exact Or.inl rfl | exact Or.inr rfl))) (fun _ _ _ _ _ => pts_nil) (fun _ _ _ _ _ => (pe_ix (show IxR _ (rIxT K) from ix_tup) (pv 7) (pv 6) (fun _ _ => rfl)))) pa_nil))))
          (pss_one (ps_ret (pe_tup (pa_cons (pe_tup (pa_cons (pe_ix ix_list (pv 5) pe_int (fun _ _ => rfl)) (pa_cons (pe_ix ix_list (pv 5) pe_int (fun _ _ => rfl)) pa_nil))) (pa_cons (pe_ix ix_list (pv 5) pe_int (fun _ _ => rfl)) pa_nil)))))))))), ?_⟩
  obtain ⟨p, v, g, o, rfl, ⟨pa, ap, ab, rfl, hpa, ⟨a0, a1, hap, h0, h1⟩, hab⟩, ok, od, q⟩ := h
  simp only [tRet, tAndV, tOrV, tNotV, tCB, tCons, tNil, tC, tVar, tChain, rI0, tIfS, tTest, tOp, tUn, rU, rI, tPar3, tBM, tBM0, tM1, gSub, tXm, tCon, tProp, tMethR, rEq, rNe, rIxT, rIxL, decide_true, decide_false, tAnd, tOr, tNot, tB, tSeq, tAsg, gName, tDrop, tNext, tTup, tLst, tIf, tDf, tFld, tMf0, tPart, tSl, tNoPart, tPar, gTup, gLst, gCons, gNil, L2.start, List.map_cons, List.map_nil, List.length_cons, List.length_nil, Nat.zero_add, Nat.sub_self, Nat.reduceAdd, Nat.reduceSub, List.replicate_zero, List.replicate_succ, List.append_nil, List.nil_append, List.cons_append, List.getElem?_cons_zero, List.getElem?_cons_succ, List.set_cons_zero, List.set_cons_succ, Option.some.injEq, exists_and_left, exists_eq_left', exists_eq_left, V.int.injEq, V.bl.injEq, V.str.injEq, V.ref.injEq, List.cons.injEq, and_true, true_and, if_true, if_false, Bool.false_eq_true, reduceCtorEq, Bool.not_true, Bool.not_false, cxOf]
  refine ⟨_, SqT.of hpa, rfl, _, _, rfl, _, _, rfl, rfl, ?_⟩
  simp only [tLstRg, tRg1, tRet, tAndV, tOrV, tNotV, tCB, tCons, tNil, tC, tVar, tChain, rI0, tIfS, tTest, tOp, tUn, rU, rI, tPar3, tBM, tBM0, tM1, gSub, tXm, tCon, tProp, tMethR, rEq, rNe, rIxT, rIxL, decide_true, decide_false, tAnd, tOr, tNot, tB, tSeq, tAsg, gName, tDrop, tNext, tTup, tLst, tIf, tDf, tFld, tMf0, tPart, tSl, tNoPart, tPar, gTup, gLst, gCons, gNil, L2.start, List.map_cons, List.map_nil, List.length_cons, List.length_nil, Nat.zero_add, Nat.sub_self, Nat.reduceAdd, Nat.reduceSub, List.replicate_zero, List.replicate_succ, List.append_nil, List.nil_append, List.cons_append, List.getElem?_cons_zero, List.getElem?_cons_succ, List.set_cons_zero, List.set_cons_succ, Option.some.injEq, exists_and_left, exists_eq_left', exists_eq_left, V.int.injEq, V.bl.injEq, V.str.injEq, V.ref.injEq, List.cons.injEq, and_true, true_and, if_true, if_false, Bool.false_eq_true, reduceCtorEq, Bool.not_true, Bool.not_false, cxOf]
  have n4 := ok.o3.sb.n4
  have n1 := ok.o3.sb.n1
  have el : ((ivs g.bx).length : Int) = (g.bx.length : Int) := by simp
  refine ⟨_, .inr (SqT.of hab), RgOk.of_le (by omega) (by omega) (by omega) (by omega), fun ev nev => ?_⟩
  rw [el]
  have s1 := (St'.refl (M := []) (H := H)).new (p := ev) (o := .lst (rgV 0 g.bx.length)) nev
  have hev : upd H ev (.lst (rgV 0 g.bx.length)) ev = some (.lst (rgV 0 g.bx.length)) := upd_same
  generalize upd H ev (.lst (rgV 0 g.bx.length)) = H1 at *
  have od1 := od.st s1
  cases od1 with
  | @oth _ ty nt =>
    refine isi_tup ty ?_
    rw [nt]
    refine ⟨false, rfl, ?_⟩
    rw [if_pos (by simp)]
    exact ⟨by decide, fun l nl => q _ _ (s1.new nl) ⟨l, rfl, upd_same⟩⟩
  | @tup a xs e h n =>
    refine isi_tup (.tup e) ?_
    rw [isTp_t e]
    refine ⟨true, rfl, ?_⟩
    rw [if_neg (by simp)]
    have hab1 := s1.tp _ _ hab
    refine ⟨_, rfl, a, rfl, ⟨_, SqT.of e⟩, fun D nD => lc_tup (xs := xs) (fun i H' => H' D = some (.lst ((xs.take i).filter fun x => !inR x 0 (lst1 g.bx))) ∧ St' [] H1 H') ⟨upd_same, St'.refl.new nD⟩ (fun i H' _ p => SqT.of (p.2.tp _ _ e)) ?_ ?_⟩
    · rintro i x H' hi ⟨hacc, st⟩
      have hx := h x (List.mem_of_getElem? hi)
      have il := (List.getElem?_eq_some_iff.mp hi).1
      have fl := List.length_filter_le (fun x => !inR x 0 (lst1 g.bx)) (xs.take i)
      have tl := List.length_take_le' i xs
      simp only [wipe, tYes, tCB, tRet, tAndV, tOrV, tNotV, tCB, tCons, tNil, tC, tVar, tChain, rI0, tIfS, tTest, tOp, tUn, rU, rI, tPar3, tBM, tBM0, tM1, gSub, tXm, tCon, tProp, tMethR, rEq, rNe, rIxT, rIxL, decide_true, decide_false, tAnd, tOr, tNot, tB, tSeq, tAsg, gName, tDrop, tNext, tTup, tLst, tIf, tDf, tFld, tMf0, tPart, tSl, tNoPart, tPar, gTup, gLst, gCons, gNil, L2.start, List.map_cons, List.map_nil, List.length_cons, List.length_nil, Nat.zero_add, Nat.sub_self, Nat.reduceAdd, Nat.reduceSub, List.replicate_zero, List.replicate_succ, List.append_nil, List.nil_append, List.cons_append, List.getElem?_cons_zero, List.getElem?_cons_succ, List.set_cons_zero, List.set_cons_succ, Option.some.injEq, exists_and_left, exists_eq_left', exists_eq_left, V.int.injEq, V.bl.injEq, V.str.injEq, V.ref.injEq, List.cons.injEq, and_true, true_and, if_true, if_false, Bool.false_eq_true, reduceCtorEq, Bool.not_true, Bool.not_false, cxOf]
      refine ⟨ab, _, rfl, .inr (SqT.of (st.tp _ _ hab1)), _, rfl, x, 0, lst1 g.bx, by rw [List.length_map], hx.st st, _, rfl, ?_⟩
      have tk : (xs.take (i + 1)).filter (fun x => !inR x 0 (lst1 g.bx)) = (xs.take i).filter (fun x => !inR x 0 (lst1 g.bx)) ++ (if (!inR x 0 (lst1 g.bx)) = true then [x] else []) := by
        rw [List.take_add_one, hi, List.filter_append]
        congr 1
        simp only [Option.toList, List.filter_cons, List.filter_nil]
      by_cases c : (!inR x 0 (lst1 g.bx)) = true
      · rw [if_pos c]
        rw [if_pos c] at tk
        exact ⟨_, hacc, by simp only [sizeLine]; omega, by rw [upd_same, tk], st.own nD⟩
      · rw [if_neg c]
        rw [if_neg c, List.append_nil] at tk
        exact ⟨by rw [tk]; exact hacc, st⟩
    · rintro H2 ⟨hacc, s2⟩
      rw [List.take_length] at hacc
      refine ⟨by decide, fun p2 n2 => ?_⟩
      have s3 := (St'.refl (M := []) (H := H2)).new (p := p2) (o := .lst []) n2
      have st3 := (s1.trans s2).trans s3
      refine ⟨D, p2, _, rfl, rfl, s3.kp _ _ hacc (by simp), upd_same, ?_⟩
      generalize upd H2 p2 (.lst []) = H3 at *
      refine ⟨_, rfl, ?_⟩
      unfold turnP at q
      dsimp only at q
      cases c : xs.all fun x => inR x 0 (lst1 g.bx) with
      | false =>
        have pf : permB xs g.bx.length = false := by
          unfold permB
          rw [show (xs.all fun x => inR x 0 ((g.bx.length : Int) - 1)) = false from c]
          simp
        rw [if_neg (by rw [pf]; simp)] at q
        rw [if_pos (by
          obtain ⟨x, hx, hn⟩ := List.all_eq_false.mp c
          have : x ∈ xs.filter fun x => !inR x 0 (lst1 g.bx) := List.mem_filter.mpr ⟨hx, by simpa using hn⟩
          cases z : xs.filter fun x => !inR x 0 (lst1 g.bx) with
          | nil => rw [z] at this; cases this
          | cons => rfl)]
        exact ⟨by decide, fun l nl => q _ _ (st3.new nl) ⟨l, rfl, upd_same⟩⟩
      | true =>
        have fe : xs.filter (fun x => !inR x 0 (lst1 g.bx)) = [] := by
          refine List.filter_eq_nil_iff.mpr fun x hx => ?_
          have := List.all_eq_true.mp c x hx
          simp [this]
        rw [fe, if_neg (by simp)]
        have e2 : xs = ivs (xs.map toI) := by
          have e3 : (xs.map fun x => V.int (toI x)) = xs.map id := List.map_congr_left fun x hx => (inR_int (List.all_eq_true.mp c x hx)).1.symm
          rw [List.map_id] at e3
          show xs = (xs.map toI).map V.int
          rw [List.map_map]
          exact e3.symm
        have e3 := st3.tp a xs (by have := od.ty; exact (by
          cases od with
          | tup e' _ _ => exact e'))
        have bb : ∀ x ∈ xs.map toI, 0 ≤ x ∧ x < (g.bx.length : Int) := by
          intro x hx
          obtain ⟨v, hv, rfl⟩ := List.mem_map.mp hx
          have := inR_int (List.all_eq_true.mp c v hv)
          exact ⟨this.2.1, by have h3 : toI v ≤ (g.bx.length : Int) - 1 := this.2.2; omega⟩
        refine ⟨a, rfl, xs.map toI, SqT.of (by rw [e2] at e3; exact e3), by simp; omega, fun ns' p perm sorted np => ?_⟩
        have s4 := (St'.refl (M := []) (H := H3)).new (p := p) (o := .lst (ivs ns')) np
        have hev4 : upd H3 p (.lst (ivs ns')) ev = some (.lst (ivs (rgL g.bx.length))) := by
          rw [← rgV_ivs]
          exact ((s2.trans s3).trans s4).kp _ _ hev (by simp)
        refine ⟨_, _, dp_intsL upd_same, dp_intsL hev4, (Pl.lst (n := 1) (pl_ints _)).sh, (Pl.lst (n := 1) (pl_ints _)).sh, ?_⟩
        have st4 := st3.trans s4
        generalize upd H3 p (.lst (ivs ns')) = H4 at *
        have ps := perm_sorted perm sorted bb
        refine ⟨_, rfl, ?_⟩
        rw [show PyData.eqv (.list (ns'.map PyData.int)) (.list ((rgL g.bx.length).map PyData.int)) = decide (ns' = rgL g.bx.length) from eqvAll_ints ..]
        by_cases z : ns' = rgL g.bx.length
        · rw [if_neg (by simp [z])]
          have zz := ps.mp z
          have pt : permB xs g.bx.length = true := by
            unfold permB
            rw [show (xs.all fun x => inR x 0 ((g.bx.length : Int) - 1)) = true from c]
            simp at zz
            simp [zz]
          rw [if_pos pt] at q
          have e0 : H a = some (.tup xs) := by
            cases od with
            | tup e' _ _ => exact e'
          have bl : ∀ x ∈ xs, 0 ≤ toI x ∧ toI x ≤ lst1 g.bx := fun x hx => (inR_int (List.all_eq_true.mp c x hx)).2
          have hap1 := st4.tp _ _ hap
          refine ⟨_, rfl, _, _, _, _, rfl, rfl, SqT.of hap1, rfl, _, rfl, _, _, _, _, rfl, rfl, SqT.of hap1, rfl, _, rfl, (by show 3 ≤ sizeLine; decide), fun p np' => ⟨p, rfl, ⟨_, SqT.of upd_same⟩, fun D nD => ?_⟩⟩
          have st1 := st4.new (p := p) (o := .tup [.ref a0, .ref a1, .ref ab]) np'
          generalize hHr : upd H4 p (.tup [.ref a0, .ref a1, .ref ab]) = Hr at *
          have hpr : Hr p = some (.tup [.ref a0, .ref a1, .ref ab]) := by rw [← hHr, upd_same]
          refine lc_tup (xs := [.ref a0, .ref a1, .ref ab]) (fun i H' => ∃ L, H' D = some (.lst L) ∧ RowsAt H' L (([g.p0, g.p1, g.bx].take i).map (turnRow xs)) ∧ L.length = i ∧ St' [] Hr H') ⟨[], upd_same, trivial, rfl, St'.refl.new nD⟩ (fun i H' _ p => by obtain ⟨L, _, _, _, z⟩ := p; exact SqT.of (z.tp _ _ hpr)) ?_ ?_
          · rintro i x H' hi ⟨L, hL, hR, hn, s2⟩
            have st2 := st1.trans s2
            obtain ⟨ar, r, rfl, hr, lr, tk⟩ : ∃ ar r, x = .ref ar ∧ H ar = some (.tup (ivs r)) ∧ r.length = g.bx.length ∧ [g.p0, g.p1, g.bx].take (i + 1) = [g.p0, g.p1, g.bx].take i ++ [r] := by
              have e1 := ok.o3.l1
              have e2 := ok.o3.lb
              match i, hi with
              | 0, hi => cases hi; exact ⟨a0, _, rfl, h0, by omega, rfl⟩
              | 1, hi => cases hi; exact ⟨a1, _, rfl, h1, by omega, rfl⟩
              | 2, hi => cases hi; exact ⟨ab, _, rfl, hab, rfl, rfl⟩
            simp only [wipe, tYes, tCB, tRet, tAndV, tOrV, tNotV, tCB, tCons, tNil, tC, tVar, tChain, rI0, tIfS, tTest, tOp, tUn, rU, rI, tPar3, tBM, tBM0, tM1, gSub, tXm, tCon, tProp, tMethR, rEq, rNe, rIxT, rIxL, decide_true, decide_false, tAnd, tOr, tNot, tB, tSeq, tAsg, gName, tDrop, tNext, tTup, tLst, tIf, tDf, tFld, tMf0, tPart, tSl, tNoPart, tPar, gTup, gLst, gCons, gNil, L2.start, List.map_cons, List.map_nil, List.length_cons, List.length_nil, Nat.zero_add, Nat.sub_self, Nat.reduceAdd, Nat.reduceSub, List.replicate_zero, List.replicate_succ, List.append_nil, List.nil_append, List.cons_append, List.getElem?_cons_zero, List.getElem?_cons_succ, List.set_cons_zero, List.set_cons_succ, Option.some.injEq, exists_and_left, exists_eq_left', exists_eq_left, V.int.injEq, V.bl.injEq, V.str.injEq, V.ref.injEq, List.cons.injEq, and_true, true_and, if_true, if_false, Bool.false_eq_true, reduceCtorEq, Bool.not_true, Bool.not_false, cxOf]
            refine ⟨_, rfl, a, rfl, ⟨_, SqT.of (st2.tp _ _ e0)⟩, fun D2 nD2 => ?_⟩
            refine lc_tup (xs := xs) (fun j H3 => H3 D2 = some (.lst (ivs (turnRow (xs.take j) r))) ∧ St' [] H' H3) ⟨upd_same, St'.refl.new nD2⟩ (fun j H3 _ p => SqT.of (p.2.tp _ _ (st2.tp _ _ e0))) ?_ ?_
            · rintro j x H3 hj ⟨hD2, s3⟩
              have hx := inR_int (List.all_eq_true.mp c x (List.mem_of_getElem? hj))
              have ex : x = .int ((toN x : Nat) : Int) := by rw [Int.toNat_of_nonneg hx.2.1]; exact hx.1
              have ez : ((toN x : Nat) : Int) = toI x := Int.toNat_of_nonneg hx.2.1
              have h3 : toI x ≤ (g.bx.length : Int) - 1 := hx.2.2
              have lx : toN x < r.length := by omega
              have st3 := st2.trans s3
              simp only [wipe, tRet, tAndV, tOrV, tNotV, tCB, tCons, tNil, tC, tVar, tChain, rI0, tIfS, tTest, tOp, tUn, rU, rI, tPar3, tBM, tBM0, tM1, gSub, tXm, tCon, tProp, tMethR, rEq, rNe, rIxT, rIxL, decide_true, decide_false, tAnd, tOr, tNot, tB, tSeq, tAsg, gName, tDrop, tNext, tTup, tLst, tIf, tDf, tFld, tMf0, tPart, tSl, tNoPart, tPar, gTup, gLst, gCons, gNil, L2.start, List.map_cons, List.map_nil, List.length_cons, List.length_nil, Nat.zero_add, Nat.sub_self, Nat.reduceAdd, Nat.reduceSub, List.replicate_zero, List.replicate_succ, List.append_nil, List.nil_append, List.cons_append, List.getElem?_cons_zero, List.getElem?_cons_succ, List.set_cons_zero, List.set_cons_succ, Option.some.injEq, exists_and_left, exists_eq_left', exists_eq_left, V.int.injEq, V.bl.injEq, V.str.injEq, V.ref.injEq, List.cons.injEq, and_true, true_and, if_true, if_false, Bool.false_eq_true, reduceCtorEq, Bool.not_true, Bool.not_false, cxOf]
              refine ⟨_, _, ex, SqT.of (st3.tp _ _ hr), _, atIv (List.getElem?_eq_getElem lx), ?_⟩
              have jl := (List.getElem?_eq_some_iff.mp hj).1
              refine ⟨_, hD2, Nat.lt_of_le_of_lt (m := 60) (by have z := List.length_take_le j xs; simp only [turnRow, List.length_map]; omega) (by decide), ?_, s3.own nD2⟩
              rw [upd_same, List.take_add_one, hj]
              simp [turnRow, ivs, List.getD_eq_getElem?_getD, lx]
            · rintro H3 ⟨hD2, s3⟩
              rw [List.take_length] at hD2
              refine ⟨D2, _, rfl, .inl ⟨SqL.of hD2, fun l nl => ?_⟩⟩
              have hL3 : H3 D = some (.lst L) := s3.kp _ _ hL (by simp)
              have nDl : D ≠ l := fun z => by rw [← z, hL3] at nl; cases nl
              have s4 := s3.new (p := l) (o := .tup (ivs (turnRow xs r))) nl
              refine ⟨L, by rw [upd_ne nDl]; exact hL3, Nat.lt_of_le_of_lt (m := 3) (by have il := (List.getElem?_eq_some_iff.mp hi).1; rw [hn]; exact Nat.le_of_lt il) (by decide), L ++ [.ref l], upd_same, ?_, by simp [hn], (s2.trans s4).own nD⟩
              rw [tk, List.map_append]
              have s5 : St' [D] (upd H3 l (.tup (ivs (turnRow xs r)))) (upd (upd H3 l (.tup (ivs (turnRow xs r)))) D (.lst (L ++ [.ref l]))) := St'.refl.putL (by simp) (by rw [upd_ne nDl]; exact hL3)
              exact RowsAt.snoc (s5.tp _ _ upd_same) (RowsAt.st s5 (RowsAt.st s4 hR))
          · rintro H' ⟨L, hL, hR, hn, s2⟩
            have st2 := st1.trans s2
            obtain ⟨q0, q1, q2, rfl, r0, r1, r2⟩ : ∃ q0 q1 q2, L = [.ref q0, .ref q1, .ref q2] ∧ H' q0 = some (.tup (ivs (turnRow xs g.p0))) ∧ H' q1 = some (.tup (ivs (turnRow xs g.p1))) ∧ H' q2 = some (.tup (ivs (turnRow xs g.bx))) := RowsAt.three hR
            refine ⟨D, rfl, _, SqL.of hL, _, rfl, D, rfl, _, SqL.of hL, _, rfl, by decide, fun p3 n3 => ?_⟩
            have s3 := St'.refl (M := []) |>.new (p := p3) (o := .tup [.ref q0, .ref q1]) n3
            refine ⟨D, rfl, _, SqL.of (s3.kp _ _ hL (by simp)), _, rfl, by decide, fun p4 n4 => ?_⟩
            have s4 := St'.refl (M := []) |>.new (p := p4) (o := .tup [.ref p3, .ref q2]) n4
            have s5 := s3.trans s4
            exact q _ _ (st2.trans s5) ⟨p4, p3, q2, rfl, upd_same, ⟨q0, q1, s4.tp _ _ upd_same, s5.tp _ _ r0, s5.tp _ _ r1⟩, s5.tp _ _ r2⟩
        · rw [if_pos (by simp [z])]
          have pf : permB xs g.bx.length = false := by
            cases pb : permB xs g.bx.length with
            | false => rfl
            | true =>
              unfold permB at pb
              simp only [Bool.and_eq_true, decide_eq_true_eq] at pb
              exact absurd (ps.mpr ⟨by simp [pb.1.1], pb.2⟩) z
          rw [if_neg (by rw [pf]; simp)] at q
          exact ⟨by decide, fun l nl => q _ _ (st4.new nl) ⟨l, rfl, upd_same⟩⟩
end
end Yk
set_option Elab.async false
set_option linter.all false
set_option maxRecDepth 100000
set_option maxHeartbeats 4000000
/-! the law: page_after -/
namespace Yk
open PySem PySem.Spec PyProof.Rows L2
/-- an edit as the law holds it -/
def EdAt (H : Hp) (v : V) (e : Ed) : Prop := ∃ a, v = .ref a ∧ H a = some (.tup (.str e.nm :: e.args)) ∧ e.Ty H
theorem EdAt.st {M : List Addr} {H H' : Hp} {v : V} {e : Ed} (h : EdAt H v e) (s : St' M H H') : EdAt H' v e := by
  obtain ⟨a, rfl, h1, h2⟩ := h
  exact ⟨a, rfl, s.tp _ _ h1, h2.st s⟩
section
variable {w : World} {K : KF} {mg : Str → Option Value} {base : Heap}
theorem sc_law_page_after : FnScope ["_law_page", "_law_edit_here", "_law_pair_here", "_law_box", "_law_word", "_law_last", "_law_axis", "_law_number", "_law_own", "_law_rows", "_law_sides_here"] ["_law_page", "_law_edit_here"] (defScope s_law_page_after) := ⟨rfl, rfl, rfl, by decide +kernel, rfl, by decide +kernel, by decide +kernel⟩
def spAfter : Sp := fun vs H Q _ => ∃ (p v : V) (g : Pg) (e : Ed), vs = [p, v] ∧ PgAt H p g ∧ g.Ok 100000 ∧ EdAt H v e ∧ ∀ v' H', St' [] H H' → ResAt H' (e.out g) v' → Q v' H'
theorem ok_law_page_after (T : Tx w K mg) (D__law_turned_page : Df R.prog w K mg base CX0 2 "_law_turned_page" spTurnL) (D__law_more_page : Df R.prog w K mg base CX0 2 "_law_more_page" spMoreL) (D__law_whole : Df R.prog w K mg base CX0 1 "_law_whole" spIsInt) (D__law_with : Df R.prog w K mg base CX0 1 "_law_with" spWith) : Df R.prog w K mg base CX0 3 "_law_page_after" spAfter := by
  refine df_of T.d_law_page_after T.g_law_page_after sc_law_page_after (fun _ _ _ _ _ _ us hl => match us, hl with | [_, _], _ => rfl)
    (fun vs H Q E h => by repeat (first | (obtain ⟨rfl, _⟩ := h; rfl) | (obtain ⟨_, h⟩ := h))) (fun cdv A outer s H vs Q E hr h => ?_)
  have nd := sc_law_page_after.nd
  refine ⟨_, (pss_cons (ps_asg (pv 0) (pg_tup rfl (pgs_cons (pg_name (i := 2) nd rfl (by first | exact Or.inl rfl | exact Or.inr rfl)) (pgs_cons (pg_name (i := 3) nd rfl (by first | exact Or.inl rfl | exact Or.inr rfl)) pgs_nil))))
          (pss_cons (ps_par (i := 4) (j := 5) rfl nd rfl rfl (by decide) rfl rfl (pa_cons (pe_ix ix_tup (pv 1) pe_int (fun _ _ => rfl)) (pa_cons (pe_op op_sub (pe_callB call_len_seq rfl T.n_len PySem.boot_len (pa_cons (pv 3) pa_nil)) pe_int) pa_nil)) (by rfl))
          (pss_cons (ps_if (pt_cmpR op_eq (pv 4) pe_str (nomark _)) (pss_one (ps_ret (pe_tup (pa_cons (pe_tup (pa_cons (pe_ix ix_tup (pv 2) pe_int (fun _ _ => rfl)) (pa_cons (pe_ix ix_tup (pv 2) pe_int (fun _ _ => rfl)) pa_nil))) (pa_cons (pv 3) pa_nil))))) pss_nil)
          (pss_cons (ps_if (pt_cmpR op_eq (pv 4) pe_str (nomark _)) (pss_one (ps_ret (pe_df D__law_turned_page hr (by decide) pass0 (pa_cons (pv 0) (pa_cons (pe_ix ix_tup (pv 1) pe_int (fun _ _ => rfl)) pa_nil))))) pss_nil)
          (pss_cons (ps_if (pt_cmpR op_eq (pv 4) pe_str (nomark _)) (pss_one (ps_ret (pe_df D__law_more_page hr (by decide) pass0 (pa_cons (pv 0) (pa_cons (pe_ix ix_tup (pv 1) pe_int (fun _ _ => rfl)) pa_nil))))) pss_nil)
          (pss_cons (ps_if (PW.pt (pw_and (pt_cmpR op_eq (pv 4) pe_str (nomark _)) (pw_and1 (pt_not (pt_val (pe_df D__law_whole hr (by decide) pass0 (pa_cons (pe_ix ix_tup (pv 1) pe_int (fun _ _ => rfl)) (pa_cons pe_int (pa_cons pe_int pa_nil))))))))) (pss_one (ps_ret (pe_lst (pa_cons pe_str (pa_cons (pe_ix ix_tup (pv 1) pe_int (fun _ _ => rfl)) pa_nil))))) pss_nil)
          (pss_cons (ps_asg (pe_slice sl_tupA (pv 1) (po_some (pe_un un_neg pe_int)) po_none) (pg_tup rfl (pgs_cons (pg_name (i := 6) nd rfl (by first | exact Or.inl rfl | exact Or.inr rfl)) (pgs_cons (pg_name (i := 7) nd rfl (by first | exact Or.inl rfl | exact Or.inr rfl)) pgs_nil))))
          (pss_cons (ps_if (pt_not (pt_val (pe_df D__law_whole hr (by decide) pass0 (pa_cons (pv 6) (pa_cons pe_int (pa_cons (pv 5) pa_nil)))))) (pss_one (ps_ret (pe_lst (pa_cons pe_str (pa_cons (pv 6) pa_nil))))) pss_nil)
          (pss_cons (ps_if (pt_not (pt_val (pe_df D__law_whole hr (by decide) pass0 (pa_cons (pv 7) (pa_cons pe_int (pa_cons (pe_op op_pow pe_int pe_int) pa_nil)))))) (pss_one (ps_ret (pe_lst (pa_cons pe_str (pa_cons (pv 7) pa_nil))))) pss_nil)
          (pss_cons (ps_if (pt_cmpR op_eq (pv 4) pe_str (nomark _)) (pss_one (ps_ret (pe_tup (pa_cons (pv 2) (pa_cons (pe_df D__law_with hr (by decide) pass0 (pa_cons (pv 3) (pa_cons (pv 6) (pa_cons (pv 7) pa_nil)))) pa_nil))))) pss_nil)
          (pss_cons (ps_if (pt_cmpR op_eq (pv 4) pe_str (nomark _)) (pss_cons (ps_set (i := 8) nd rfl (by first | exact Or.inl rfl | exact Or.inr rfl) (pe_df D__law_with hr (by decide) pass0 (pa_cons (pe_ix ix_tup (pv 2) (pe_ix ix_tup (pv 1) pe_int (fun _ _ => rfl)) (fun _ _ => rfl)) (pa_cons (pv 6) (pa_cons (pv 7) pa_nil)))))
          (pss_one (ps_ret (pe_tup (pa_cons (pe_ifExp (pt_cmpR (op_eqD hr.units) (pe_ix ix_tup (pv 1) pe_int (fun _ _ => rfl)) pe_int (nomark _)) (pe_tup (pa_cons (pv 8) (pa_cons (pe_ix ix_tup (pv 2) pe_int (fun _ _ => rfl)) pa_nil))) (pe_tup (pa_cons (pe_ix ix_tup (pv 2) pe_int (fun _ _ => rfl)) (pa_cons (pv 8) pa_nil)))) (pa_cons (pv 3) pa_nil)))))) pss_nil)
          (pss_cons (ps_if (pt_cmpR op_gt (pe_op op_mul (pe_callB (cr_max rfl) rfl T.n_max (by decide +kernel) (pa_cons (pe_lst (pa_cons (pe_ix ix_tup (pe_ix ix_tup (pv 2) pe_int (fun _ _ => rfl)) (pv 6) (fun _ _ => rfl)) (pa_cons (pe_ix ix_tup (pe_ix ix_tup (pv 2) pe_int (fun _ _ => rfl)) (pv 6) (fun _ _ => rfl)) (pa_cons (pe_ix ix_tup (pv 3) (pv 6) (fun _ _ => rfl)) pa_nil)))) pa_nil)) (pv 7)) (pe_op op_pow pe_int pe_int) (nomark _)) (pss_one (ps_ret (pe_lst (pa_cons pe_str (pa_cons (pv 6) pa_nil))))) pss_nil)
          (pss_cons (ps_setLc (i := 9) (own := [("_law_sides_here", 10)]) (g := (gName 10)) (tt := tYes) rfl nd rfl rfl (sw_true rfl rfl rfl (by decide +kernel)) (pi_tup (pe_tup (pa_cons (pe_ix ix_tup (pv 2) pe_int (fun _ _ => rfl)) (pa_cons (pe_ix ix_tup (pv 2) pe_int (fun _ _ => rfl)) (pa_cons (pv 3) pa_nil))))) (blkOk_by (own := [("_law_sides_here", 10)]) (N := ["_law_page", "_law_edit_here", "_law_pair_here", "_law_box", "_law_word", "_law_last", "_law_axis", "_law_number", "_law_own", "_law_rows", "_law_sides_here"]) (sc := defScope s_law_page_after) (by decide +kernel)) (fun _ _ _ _ _ => (pg_name (i := 10) nd rfl (by first | exact Or.inl rfl | exact Or.inr rfl))) (fun _ _ _ _ _ => pts_nil) (fun _ _ _ _ _ => (pe_df D__law_with hr (by decide) pass0 (pa_cons (pv 10) (pa_cons (pv 6) (pa_cons (pe_op op_mul (pe_ix (show IxR _ (rIxT K) from ix_tup) (pv 10) (pv 6) (fun _ _ => rfl)) (pv 7)) pa_nil))))))
          (pss_one (ps_ret (pe_tup (pa_cons (pe_tup (pa_cons (pe_ix ix_list (pv 9) pe_int (fun _ _ => rfl)) (pa_cons (pe_ix ix_list (pv 9) pe_int (fun _ _ => rfl)) pa_nil))) (pa_cons (pe_ix ix_list (pv 9) pe_int (fun _ _ => rfl)) pa_nil)))))))))))))))))), ?_⟩
  obtain ⟨p, v, g, e, rfl, ⟨pa, ap, ab, rfl, hpa, ⟨a0, a1, hap, h0, h1⟩, hab⟩, ok, ⟨ea, rfl, hea, ty⟩, q⟩ := h
  simp only [tRet, tAndV, tOrV, tNotV, tCB, tCons, tNil, tC, tVar, tChain, rI0, tIfS, tTest, tOp, tUn, rU, rI, tPar3, tBM, tBM0, tM1, gSub, tXm, tCon, tProp, tMethR, rEq, rNe, rIxT, rIxL, decide_true, decide_false, tAnd, tOr, tNot, tB, tSeq, tAsg, gName, tDrop, tNext, tTup, tLst, tIf, tDf, tFld, tMf0, tPart, tSl, tNoPart, tPar, gTup, gLst, gCons, gNil, L2.start, List.map_cons, List.map_nil, List.length_cons, List.length_nil, Nat.zero_add, Nat.sub_self, Nat.reduceAdd, Nat.reduceSub, List.replicate_zero, List.replicate_succ, List.append_nil, List.nil_append, List.cons_append, List.getElem?_cons_zero, List.getElem?_cons_succ, List.set_cons_zero, List.set_cons_succ, Option.some.injEq, exists_and_left, exists_eq_left', exists_eq_left, V.int.injEq, V.bl.injEq, V.str.injEq, V.ref.injEq, List.cons.injEq, and_true, true_and, if_true, if_false, Bool.false_eq_true, reduceCtorEq, Bool.not_true, Bool.not_false, cxOf]
  have st0 : St' [] H H := .refl
  refine ⟨_, SqT.of hpa, rfl, _, _, rfl, _, _, rfl, rfl, ?_⟩
  cases e with
  | swap =>
    have hea' : H ea = some (.tup [.str "swap"]) := hea
    repeat (first | (refine ⟨_, SqT.of (by first | assumption | exact St'.tp (H := H) (by assumption) _ _ (by assumption)), ?_⟩) | (refine ⟨_, .inr (SqT.of (by first | assumption | exact St'.tp (H := H) (by assumption) _ _ (by assumption))), ?_⟩) | (refine ⟨_, rfl, ?_⟩) | (refine ⟨_, atIv (by assumption), ?_⟩) | (refine ⟨_, _, ⟨rfl, rfl⟩, ?_⟩) | (refine ⟨rfl, ?_⟩) | simp only [tRet, tAndV, tOrV, tNotV, tCB, tCons, tNil, tC, tVar, tChain, rI0, tIfS, tTest, tOp, tUn, rU, rI, tPar3, tBM, tBM0, tM1, gSub, tXm, tCon, tProp, tMethR, rEq, rNe, rIxT, rIxL, decide_true, decide_false, tAnd, tOr, tNot, tB, tSeq, tAsg, gName, tDrop, tNext, tTup, tLst, tIf, tDf, tFld, tMf0, tPart, tSl, tNoPart, tPar, gTup, gLst, gCons, gNil, L2.start, List.map_cons, List.map_nil, List.length_cons, List.length_nil, Nat.zero_add, Nat.sub_self, Nat.reduceAdd, Nat.reduceSub, List.replicate_zero, List.replicate_succ, List.append_nil, List.nil_append, List.cons_append, List.getElem?_cons_zero, List.getElem?_cons_succ, List.set_cons_zero, List.set_cons_succ, Option.some.injEq, exists_and_left, exists_eq_left', exists_eq_left, V.int.injEq, V.bl.injEq, V.str.injEq, V.ref.injEq, List.cons.injEq, and_true, true_and, if_true, if_false, Bool.false_eq_true, reduceCtorEq, Bool.not_true, Bool.not_false, cxOf])
    refine ⟨by decide, fun p2 n2 => ⟨by decide, fun p3 n3 => ?_⟩⟩
    have s2 := St'.refl (M := []) |>.new (p := p2) (o := .tup [.ref a1, .ref a0]) n2
    have s4 := St'.refl (M := []) |>.new (p := p3) (o := .tup [.ref p2, .ref ab]) n3
    have s3 := s2.trans s4
    exact q _ _ s3 ⟨p3, p2, ab, rfl, upd_same, ⟨a1, a0, s4.tp _ _ upd_same, s3.tp _ _ h1, s3.tp _ _ h0⟩, s3.tp _ _ hab⟩
  | turn v o =>
    have hea' : H ea = some (.tup [.str "turn", v]) := hea
    repeat (first | (refine ⟨_, SqT.of (by first | assumption | exact St'.tp (H := H) (by assumption) _ _ (by assumption)), ?_⟩) | (refine ⟨_, .inr (SqT.of (by first | assumption | exact St'.tp (H := H) (by assumption) _ _ (by assumption))), ?_⟩) | (refine ⟨_, rfl, ?_⟩) | (refine ⟨_, atIv (by assumption), ?_⟩) | (refine ⟨_, _, ⟨rfl, rfl⟩, ?_⟩) | (refine ⟨rfl, ?_⟩) | simp only [tRet, tAndV, tOrV, tNotV, tCB, tCons, tNil, tC, tVar, tChain, rI0, tIfS, tTest, tOp, tUn, rU, rI, tPar3, tBM, tBM0, tM1, gSub, tXm, tCon, tProp, tMethR, rEq, rNe, rIxT, rIxL, decide_true, decide_false, tAnd, tOr, tNot, tB, tSeq, tAsg, gName, tDrop, tNext, tTup, tLst, tIf, tDf, tFld, tMf0, tPart, tSl, tNoPart, tPar, gTup, gLst, gCons, gNil, L2.start, List.map_cons, List.map_nil, List.length_cons, List.length_nil, Nat.zero_add, Nat.sub_self, Nat.reduceAdd, Nat.reduceSub, List.replicate_zero, List.replicate_succ, List.append_nil, List.nil_append, List.cons_append, List.getElem?_cons_zero, List.getElem?_cons_succ, List.set_cons_zero, List.set_cons_succ, Option.some.injEq, exists_and_left, exists_eq_left', exists_eq_left, V.int.injEq, V.bl.injEq, V.str.injEq, V.ref.injEq, List.cons.injEq, and_true, true_and, if_true, if_false, Bool.false_eq_true, reduceCtorEq, Bool.not_true, Bool.not_false, cxOf])
    exact ⟨_, _, g, o, rfl, ⟨pa, ap, ab, rfl, hpa, ⟨a0, a1, hap, h0, h1⟩, hab⟩, ok.mono (by decide), ty, q⟩
  | more n =>
    have hea' : H ea = some (.tup [.str "more", n]) := hea
    repeat (first | (refine ⟨_, SqT.of (by first | assumption | exact St'.tp (H := H) (by assumption) _ _ (by assumption)), ?_⟩) | (refine ⟨_, .inr (SqT.of (by first | assumption | exact St'.tp (H := H) (by assumption) _ _ (by assumption))), ?_⟩) | (refine ⟨_, rfl, ?_⟩) | (refine ⟨_, atIv (by assumption), ?_⟩) | (refine ⟨_, _, ⟨rfl, rfl⟩, ?_⟩) | (refine ⟨rfl, ?_⟩) | simp only [tRet, tAndV, tOrV, tNotV, tCB, tCons, tNil, tC, tVar, tChain, rI0, tIfS, tTest, tOp, tUn, rU, rI, tPar3, tBM, tBM0, tM1, gSub, tXm, tCon, tProp, tMethR, rEq, rNe, rIxT, rIxL, decide_true, decide_false, tAnd, tOr, tNot, tB, tSeq, tAsg, gName, tDrop, tNext, tTup, tLst, tIf, tDf, tFld, tMf0, tPart, tSl, tNoPart, tPar, gTup, gLst, gCons, gNil, L2.start, List.map_cons, List.map_nil, List.length_cons, List.length_nil, Nat.zero_add, Nat.sub_self, Nat.reduceAdd, Nat.reduceSub, List.replicate_zero, List.replicate_succ, List.append_nil, List.nil_append, List.cons_append, List.getElem?_cons_zero, List.getElem?_cons_succ, List.set_cons_zero, List.set_cons_succ, Option.some.injEq, exists_and_left, exists_eq_left', exists_eq_left, V.int.injEq, V.bl.injEq, V.str.injEq, V.ref.injEq, List.cons.injEq, and_true, true_and, if_true, if_false, Bool.false_eq_true, reduceCtorEq, Bool.not_true, Bool.not_false, cxOf])
    exact ⟨_, _, g, rfl, ⟨pa, ap, ab, rfl, hpa, ⟨a0, a1, hap, h0, h1⟩, hab⟩, ok.mono (by decide), ty, q⟩
  | brick k a n =>
    have hea' : H ea = some (.tup [.str "brick", k, a, n]) := hea
    repeat (first | (refine ⟨_, SqT.of (by first | assumption | exact St'.tp (H := H) (by assumption) _ _ (by assumption)), ?_⟩) | (refine ⟨_, .inr (SqT.of (by first | assumption | exact St'.tp (H := H) (by assumption) _ _ (by assumption))), ?_⟩) | (refine ⟨_, rfl, ?_⟩) | (refine ⟨_, atIv (by assumption), ?_⟩) | (refine ⟨_, _, ⟨rfl, rfl⟩, ?_⟩) | (refine ⟨rfl, ?_⟩) | simp only [tRet, tAndV, tOrV, tNotV, tCB, tCons, tNil, tC, tVar, tChain, rI0, tIfS, tTest, tOp, tUn, rU, rI, tPar3, tBM, tBM0, tM1, gSub, tXm, tCon, tProp, tMethR, rEq, rNe, rIxT, rIxL, decide_true, decide_false, tAnd, tOr, tNot, tB, tSeq, tAsg, gName, tDrop, tNext, tTup, tLst, tIf, tDf, tFld, tMf0, tPart, tSl, tNoPart, tPar, gTup, gLst, gCons, gNil, L2.start, List.map_cons, List.map_nil, List.length_cons, List.length_nil, Nat.zero_add, Nat.sub_self, Nat.reduceAdd, Nat.reduceSub, List.replicate_zero, List.replicate_succ, List.append_nil, List.nil_append, List.cons_append, List.getElem?_cons_zero, List.getElem?_cons_succ, List.set_cons_zero, List.set_cons_succ, Option.some.injEq, exists_and_left, exists_eq_left', exists_eq_left, V.int.injEq, V.bl.injEq, V.str.injEq, V.ref.injEq, List.cons.injEq, and_true, true_and, if_true, if_false, Bool.false_eq_true, reduceCtorEq, Bool.not_true, Bool.not_false, cxOf])
    have hq : ∀ v' H', St' [] H H' → ResAt H' (putBrick g k a n) v' → Q v' H' := q
    unfold putBrick at hq
    refine ⟨k, 0, 1, rfl, ty.1, ?_⟩
    cases c0 : inR k 0 1 with
    | false =>
      rw [if_neg (by rw [c0]; simp)] at hq
      refine ⟨false, rfl, ?_⟩
      rw [if_pos (by simp)]
      exact ⟨_, SqT.of hea', _, rfl, by decide, fun l nl => hq _ _ (St'.refl.new nl) ⟨l, rfl, upd_same⟩⟩
    | true =>
    rw [if_pos c0] at hq
    refine ⟨true, rfl, ?_⟩
    rw [if_neg (by simp)]
    refine sl_at hea' fun sp Hs ss hs => ?_
    have hs' : Hs sp = some (.tup [a, n]) := hs
    have hap' := ss.tp _ _ hap
    have h0' := ss.tp _ _ h0
    have h1' := ss.tp _ _ h1
    refine ⟨sp, rfl, _, SqT.of hs', rfl, _, _, rfl, _, _, rfl, rfl, ?_⟩
    rw [List.length_map]
    refine ⟨a, 0, lst1 g.bx, rfl, ty.2.1.st ss, ?_⟩
    cases c1 : inR a 0 (lst1 g.bx) with
    | false =>
      rw [if_neg (by rw [c1]; simp)] at hq
      refine ⟨false, rfl, ?_⟩
      rw [if_pos (by simp)]
      exact ⟨by decide, fun l nl => hq _ _ (ss.new nl) ⟨l, rfl, upd_same⟩⟩
    | true =>
      rw [if_pos c1] at hq
      obtain ⟨ex, la⟩ := inR_ax c1
      refine ⟨true, rfl, ?_⟩
      rw [if_neg (by simp)]
      refine ⟨⟨by decide, by decide, by decide⟩, ?_⟩
      rw [show (10 : Int) ^ Int.toNat 12 = big from by decide]
      refine ⟨n, 1, big, rfl, ty.2.2.st ss, ?_⟩
      cases c2 : inR n 1 big with
      | false =>
        rw [if_neg (by rw [c2]; simp)] at hq
        refine ⟨false, rfl, ?_⟩
        rw [if_pos (by simp)]
        exact ⟨by decide, fun l nl => hq _ _ (ss.new nl) ⟨l, rfl, upd_same⟩⟩
      | true =>
        rw [if_pos c2] at hq
        obtain ⟨en, m1, m2⟩ := inR_int c2
        obtain ⟨ek, k1, k2⟩ := inR_int c0
        refine ⟨true, rfl, ?_⟩
        rw [if_neg (by simp)]
        refine ⟨rfl, ?_⟩
        rw [if_neg (by decide)]
        refine ⟨rfl, ?_⟩
        have l0 := ok.o3.lb
        have l1 := ok.o3.l1
        have n40 := ok.o3.s0.n4
        rw [ex, en]
        refine ⟨_, SqT.of (ss.tp _ _ hea'), k, rfl, ?_⟩
        have hea2 := ss.tp _ _ hea'
        rw [ek] at hea2 ⊢
        rcases (show toI k = 0 ∨ toI k = 1 by omega) with z | z
        · rw [if_pos z] at hq
          rw [z] at hea2 ⊢
          refine ⟨_, _, rfl, SqT.of hap', .ref a0, rfl, a0, g.p0, toN a, toI n, rfl, h0', by omega, n40, fun p2 H2 s2 h2 => ?_⟩
          have t2 := ss.trans s2
          refine ⟨_, SqT.of (s2.tp _ _ hea2), _, rfl, .int 0, .int 0, .int _, .int _, (Pl.int (n := 0) _).sh, (Pl.int (n := 0) _).sh, _, rfl, ?_⟩
          rw [if_pos (by simp [PyData.eqv])]
          refine ⟨_, SqT.of (s2.tp _ _ hap'), _, rfl, by decide, fun p3 n3 => ⟨by decide, fun p4 n4 => ?_⟩⟩
          have s3 := t2.new (p := p3) (o := .tup [.ref p2, .ref a1]) n3
          have s4 := St'.refl (M := []) |>.new (p := p4) (o := .tup [.ref p3, .ref ab]) n4
          have s5 := s3.trans s4
          exact hq _ _ s5 ⟨p4, p3, ab, rfl, upd_same, ⟨p2, a1, s4.tp _ _ upd_same, s4.tp _ _ ((St'.refl (M := []) |>.new n3).tp _ _ h2), s5.tp _ _ h1⟩, s5.tp _ _ hab⟩
        · rw [if_neg (by omega)] at hq
          rw [z] at hea2 ⊢
          refine ⟨_, _, rfl, SqT.of hap', .ref a1, rfl, a1, g.p1, toN a, toI n, rfl, h1', by omega, by omega, fun p2 H2 s2 h2 => ?_⟩
          have t2 := ss.trans s2
          refine ⟨_, SqT.of (s2.tp _ _ hea2), _, rfl, .int 1, .int 0, .int _, .int _, (Pl.int (n := 0) _).sh, (Pl.int (n := 0) _).sh, _, rfl, ?_⟩
          rw [if_neg (by simp [PyData.eqv])]
          refine ⟨_, SqT.of (s2.tp _ _ hap'), _, rfl, by decide, fun p3 n3 => ⟨by decide, fun p4 n4 => ?_⟩⟩
          have s3 := t2.new (p := p3) (o := .tup [.ref a0, .ref p2]) n3
          have s4 := St'.refl (M := []) |>.new (p := p4) (o := .tup [.ref p3, .ref ab]) n4
          have s5 := s3.trans s4
          exact hq _ _ s5 ⟨p4, p3, ab, rfl, upd_same, ⟨a0, p2, s4.tp _ _ upd_same, s5.tp _ _ h0, s4.tp _ _ ((St'.refl (M := []) |>.new n3).tp _ _ h2)⟩, s5.tp _ _ hab⟩
  | side a n =>
    have hea' : H ea = some (.tup [.str "side", a, n]) := hea
    repeat (first | (refine ⟨_, SqT.of (by first | assumption | exact St'.tp (H := H) (by assumption) _ _ (by assumption)), ?_⟩) | (refine ⟨_, .inr (SqT.of (by first | assumption | exact St'.tp (H := H) (by assumption) _ _ (by assumption))), ?_⟩) | (refine ⟨_, rfl, ?_⟩) | (refine ⟨_, atIv (by assumption), ?_⟩) | (refine ⟨_, _, ⟨rfl, rfl⟩, ?_⟩) | (refine ⟨rfl, ?_⟩) | simp only [tRet, tAndV, tOrV, tNotV, tCB, tCons, tNil, tC, tVar, tChain, rI0, tIfS, tTest, tOp, tUn, rU, rI, tPar3, tBM, tBM0, tM1, gSub, tXm, tCon, tProp, tMethR, rEq, rNe, rIxT, rIxL, decide_true, decide_false, tAnd, tOr, tNot, tB, tSeq, tAsg, gName, tDrop, tNext, tTup, tLst, tIf, tDf, tFld, tMf0, tPart, tSl, tNoPart, tPar, gTup, gLst, gCons, gNil, L2.start, List.map_cons, List.map_nil, List.length_cons, List.length_nil, Nat.zero_add, Nat.sub_self, Nat.reduceAdd, Nat.reduceSub, List.replicate_zero, List.replicate_succ, List.append_nil, List.nil_append, List.cons_append, List.getElem?_cons_zero, List.getElem?_cons_succ, List.set_cons_zero, List.set_cons_succ, Option.some.injEq, exists_and_left, exists_eq_left', exists_eq_left, V.int.injEq, V.bl.injEq, V.str.injEq, V.ref.injEq, List.cons.injEq, and_true, true_and, if_true, if_false, Bool.false_eq_true, reduceCtorEq, Bool.not_true, Bool.not_false, cxOf])
    rw [if_neg (by decide)]
    repeat (first | (refine ⟨_, SqT.of (by first | assumption | exact St'.tp (H := H) (by assumption) _ _ (by assumption)), ?_⟩) | (refine ⟨_, .inr (SqT.of (by first | assumption | exact St'.tp (H := H) (by assumption) _ _ (by assumption))), ?_⟩) | (refine ⟨_, rfl, ?_⟩) | (refine ⟨_, atIv (by assumption), ?_⟩) | (refine ⟨_, _, ⟨rfl, rfl⟩, ?_⟩) | (refine ⟨rfl, ?_⟩) | simp only [tRet, tAndV, tOrV, tNotV, tCB, tCons, tNil, tC, tVar, tChain, rI0, tIfS, tTest, tOp, tUn, rU, rI, tPar3, tBM, tBM0, tM1, gSub, tXm, tCon, tProp, tMethR, rEq, rNe, rIxT, rIxL, decide_true, decide_false, tAnd, tOr, tNot, tB, tSeq, tAsg, gName, tDrop, tNext, tTup, tLst, tIf, tDf, tFld, tMf0, tPart, tSl, tNoPart, tPar, gTup, gLst, gCons, gNil, L2.start, List.map_cons, List.map_nil, List.length_cons, List.length_nil, Nat.zero_add, Nat.sub_self, Nat.reduceAdd, Nat.reduceSub, List.replicate_zero, List.replicate_succ, List.append_nil, List.nil_append, List.cons_append, List.getElem?_cons_zero, List.getElem?_cons_succ, List.set_cons_zero, List.set_cons_succ, Option.some.injEq, exists_and_left, exists_eq_left', exists_eq_left, V.int.injEq, V.bl.injEq, V.str.injEq, V.ref.injEq, List.cons.injEq, and_true, true_and, if_true, if_false, Bool.false_eq_true, reduceCtorEq, Bool.not_true, Bool.not_false, cxOf])
    refine sl_at hea' fun sp Hs ss hs => ?_
    have hs' : Hs sp = some (.tup [a, n]) := hs
    refine ⟨sp, rfl, _, SqT.of hs', rfl, _, _, rfl, _, _, rfl, rfl, ?_⟩
    have hq : ∀ v' H', St' [] H H' → ResAt H' (putSide g a n) v' → Q v' H' := q
    unfold putSide at hq
    rw [List.length_map]
    refine ⟨a, 0, lst1 g.bx, rfl, ty.1.st ss, ?_⟩
    cases c1 : inR a 0 (lst1 g.bx) with
    | false =>
      rw [if_neg (by rw [c1]; simp)] at hq
      refine ⟨false, rfl, ?_⟩
      rw [if_pos (by simp)]
      exact ⟨by decide, fun l nl => hq _ _ (ss.new nl) ⟨l, rfl, upd_same⟩⟩
    | true =>
      rw [if_pos c1] at hq
      obtain ⟨ex, la⟩ := inR_ax c1
      refine ⟨true, rfl, ?_⟩
      rw [if_neg (by simp)]
      refine ⟨⟨by decide, by decide, by decide⟩, ?_⟩
      rw [show (10 : Int) ^ Int.toNat 12 = big from by decide]
      refine ⟨n, 1, big, rfl, ty.2.st ss, ?_⟩
      cases c2 : inR n 1 big with
      | false =>
        rw [if_neg (by rw [c2]; simp)] at hq
        refine ⟨false, rfl, ?_⟩
        rw [if_pos (by simp)]
        exact ⟨by decide, fun l nl => hq _ _ (ss.new nl) ⟨l, rfl, upd_same⟩⟩
      | true =>
        rw [if_pos c2] at hq
        obtain ⟨en, m1, m2⟩ := inR_int c2
        refine ⟨true, rfl, ?_⟩
        rw [if_neg (by simp)]
        refine ⟨rfl, ?_⟩
        rw [ex, en]
        refine ⟨ab, g.bx, toN a, toI n, rfl, ss.tp _ _ hab, la, ok.o3.sb.n4, fun p2 H2 s2 h2 => ⟨by decide, fun p3 n3 => ?_⟩⟩
        have s3 := (ss.trans s2).new (p := p3) (o := .tup [.ref ap, .ref p2]) n3
        exact hq _ _ s3 ⟨p3, ap, p2, rfl, upd_same, ⟨a0, a1, s3.tp _ _ hap, s3.tp _ _ h0, s3.tp _ _ h1⟩, (St'.refl (M := []) |>.new n3).tp _ _ h2⟩
  | stretch a n =>
    have hea' : H ea = some (.tup [.str "stretch", a, n]) := hea
    repeat (first | (refine ⟨_, SqT.of (by first | assumption | exact St'.tp (H := H) (by assumption) _ _ (by assumption)), ?_⟩) | (refine ⟨_, .inr (SqT.of (by first | assumption | exact St'.tp (H := H) (by assumption) _ _ (by assumption))), ?_⟩) | (refine ⟨_, rfl, ?_⟩) | (refine ⟨_, atIv (by assumption), ?_⟩) | (refine ⟨_, _, ⟨rfl, rfl⟩, ?_⟩) | (refine ⟨rfl, ?_⟩) | simp only [tRet, tAndV, tOrV, tNotV, tCB, tCons, tNil, tC, tVar, tChain, rI0, tIfS, tTest, tOp, tUn, rU, rI, tPar3, tBM, tBM0, tM1, gSub, tXm, tCon, tProp, tMethR, rEq, rNe, rIxT, rIxL, decide_true, decide_false, tAnd, tOr, tNot, tB, tSeq, tAsg, gName, tDrop, tNext, tTup, tLst, tIf, tDf, tFld, tMf0, tPart, tSl, tNoPart, tPar, gTup, gLst, gCons, gNil, L2.start, List.map_cons, List.map_nil, List.length_cons, List.length_nil, Nat.zero_add, Nat.sub_self, Nat.reduceAdd, Nat.reduceSub, List.replicate_zero, List.replicate_succ, List.append_nil, List.nil_append, List.cons_append, List.getElem?_cons_zero, List.getElem?_cons_succ, List.set_cons_zero, List.set_cons_succ, Option.some.injEq, exists_and_left, exists_eq_left', exists_eq_left, V.int.injEq, V.bl.injEq, V.str.injEq, V.ref.injEq, List.cons.injEq, and_true, true_and, if_true, if_false, Bool.false_eq_true, reduceCtorEq, Bool.not_true, Bool.not_false, cxOf])
    rw [if_neg (by decide)]
    repeat (first | (refine ⟨_, SqT.of (by first | assumption | exact St'.tp (H := H) (by assumption) _ _ (by assumption)), ?_⟩) | (refine ⟨_, .inr (SqT.of (by first | assumption | exact St'.tp (H := H) (by assumption) _ _ (by assumption))), ?_⟩) | (refine ⟨_, rfl, ?_⟩) | (refine ⟨_, atIv (by assumption), ?_⟩) | (refine ⟨_, _, ⟨rfl, rfl⟩, ?_⟩) | (refine ⟨rfl, ?_⟩) | simp only [tRet, tAndV, tOrV, tNotV, tCB, tCons, tNil, tC, tVar, tChain, rI0, tIfS, tTest, tOp, tUn, rU, rI, tPar3, tBM, tBM0, tM1, gSub, tXm, tCon, tProp, tMethR, rEq, rNe, rIxT, rIxL, decide_true, decide_false, tAnd, tOr, tNot, tB, tSeq, tAsg, gName, tDrop, tNext, tTup, tLst, tIf, tDf, tFld, tMf0, tPart, tSl, tNoPart, tPar, gTup, gLst, gCons, gNil, L2.start, List.map_cons, List.map_nil, List.length_cons, List.length_nil, Nat.zero_add, Nat.sub_self, Nat.reduceAdd, Nat.reduceSub, List.replicate_zero, List.replicate_succ, List.append_nil, List.nil_append, List.cons_append, List.getElem?_cons_zero, List.getElem?_cons_succ, List.set_cons_zero, List.set_cons_succ, Option.some.injEq, exists_and_left, exists_eq_left', exists_eq_left, V.int.injEq, V.bl.injEq, V.str.injEq, V.ref.injEq, List.cons.injEq, and_true, true_and, if_true, if_false, Bool.false_eq_true, reduceCtorEq, Bool.not_true, Bool.not_false, cxOf])
    refine sl_at hea' fun sp Hs ss hs => ?_
    have hs' : Hs sp = some (.tup [a, n]) := hs
    refine ⟨sp, rfl, _, SqT.of hs', rfl, _, _, rfl, _, _, rfl, rfl, ?_⟩
    have hq : ∀ v' H', St' [] H H' → ResAt H' (stretchP g a n) v' → Q v' H' := q
    unfold stretchP at hq
    rw [List.length_map]
    refine ⟨a, 0, lst1 g.bx, rfl, ty.1.st ss, ?_⟩
    cases c1 : inR a 0 (lst1 g.bx) with
    | false =>
      rw [if_neg (by rw [c1]; simp)] at hq
      refine ⟨false, rfl, ?_⟩
      rw [if_pos (by simp)]
      exact ⟨by decide, fun l nl => hq _ _ (ss.new nl) ⟨l, rfl, upd_same⟩⟩
    | true =>
      rw [if_pos c1] at hq
      obtain ⟨ex, la⟩ := inR_ax c1
      refine ⟨true, rfl, ?_⟩
      rw [if_neg (by simp)]
      refine ⟨⟨by decide, by decide, by decide⟩, ?_⟩
      rw [show (10 : Int) ^ Int.toNat 12 = big from by decide]
      refine ⟨n, 1, big, rfl, ty.2.st ss, ?_⟩
      cases c2 : inR n 1 big with
      | false =>
        rw [if_neg (by rw [c2]; simp)] at hq
        refine ⟨false, rfl, ?_⟩
        rw [if_pos (by simp)]
        exact ⟨by decide, fun l nl => hq _ _ (ss.new nl) ⟨l, rfl, upd_same⟩⟩
      | true =>
        rw [if_pos c2] at hq
        obtain ⟨en, m1, m2⟩ := inR_int c2
        refine ⟨true, rfl, ?_⟩
        rw [if_neg (by simp)]
        refine ⟨rfl, ?_⟩
        rw [if_neg (by decide)]
        refine ⟨rfl, ?_⟩
        rw [if_neg (by decide)]
        have z1 := ok.o3.l1
        have z2 := ok.o3.lb
        have x0 : g.p0[toN a]? = some (g.p0.getD (toN a) 0) := getD_some (by omega)
        have x1 : g.p1[toN a]? = some (g.p1.getD (toN a) 0) := getD_some (by omega)
        have xb : g.bx[toN a]? = some (g.bx.getD (toN a) 0) := getD_some la
        have b0 := ok.o3.s0.all _ (List.mem_of_getElem? x0)
        have b1 := ok.o3.s1.all _ (List.mem_of_getElem? x1)
        have bb := ok.o3.sb.all _ (List.mem_of_getElem? xb)
        rw [ex, en]
        have hap' := ss.tp _ _ hap
        have h0' := ss.tp _ _ h0
        have h1' := ss.tp _ _ h1
        have hab' := ss.tp _ _ hab
        have hpa' := ss.tp _ _ hpa
        repeat (first | (refine ⟨_, SqT.of (by first | assumption | exact St'.tp (H := H) (by assumption) _ _ (by assumption)), ?_⟩) | (refine ⟨_, .inr (SqT.of (by first | assumption | exact St'.tp (H := H) (by assumption) _ _ (by assumption))), ?_⟩) | (refine ⟨_, rfl, ?_⟩) | (refine ⟨_, atIv (by assumption), ?_⟩) | (refine ⟨_, _, ⟨rfl, rfl⟩, ?_⟩) | (refine ⟨rfl, ?_⟩) | simp only [tRet, tAndV, tOrV, tNotV, tCB, tCons, tNil, tC, tVar, tChain, rI0, tIfS, tTest, tOp, tUn, rU, rI, tPar3, tBM, tBM0, tM1, gSub, tXm, tCon, tProp, tMethR, rEq, rNe, rIxT, rIxL, decide_true, decide_false, tAnd, tOr, tNot, tB, tSeq, tAsg, gName, tDrop, tNext, tTup, tLst, tIf, tDf, tFld, tMf0, tPart, tSl, tNoPart, tPar, gTup, gLst, gCons, gNil, L2.start, List.map_cons, List.map_nil, List.length_cons, List.length_nil, Nat.zero_add, Nat.sub_self, Nat.reduceAdd, Nat.reduceSub, List.replicate_zero, List.replicate_succ, List.append_nil, List.nil_append, List.cons_append, List.getElem?_cons_zero, List.getElem?_cons_succ, List.set_cons_zero, List.set_cons_succ, Option.some.injEq, exists_and_left, exists_eq_left', exists_eq_left, V.int.injEq, V.bl.injEq, V.str.injEq, V.ref.injEq, List.cons.injEq, and_true, true_and, if_true, if_false, Bool.false_eq_true, reduceCtorEq, Bool.not_true, Bool.not_false, cxOf])
        refine ⟨by decide, fun p1 n1 => ?_⟩
        have s1 := (St'.refl (M := []) (H := Hs)).new (p := p1) (o := .lst [.int (g.p0.getD (toN a) 0), .int (g.p1.getD (toN a) 0), .int (g.bx.getD (toN a) 0)]) n1
        have k1 : upd Hs p1 (.lst [.int (g.p0.getD (toN a) 0), .int (g.p1.getD (toN a) 0), .int (g.bx.getD (toN a) 0)]) p1 = some (.lst (ivs [g.p0.getD (toN a) 0, g.p1.getD (toN a) 0, g.bx.getD (toN a) 0])) := upd_same
        have st1 := ss.trans s1
        generalize upd Hs p1 (.lst [.int (g.p0.getD (toN a) 0), .int (g.p1.getD (toN a) 0), .int (g.bx.getD (toN a) 0)]) = H1 at *
        refine ⟨p1, [g.p0.getD (toN a) 0, g.p1.getD (toN a) 0, g.bx.getD (toN a) 0], rfl, SqL.of k1, by simp, fun m hm hmax => ?_⟩
        have em : m = max3 (g.p0.getD (toN a) 0) (g.p1.getD (toN a) 0) (g.bx.getD (toN a) 0) := by
          have y0 := hmax (g.p0.getD (toN a) 0) (by simp)
          have y1 := hmax (g.p1.getD (toN a) 0) (by simp)
          have y2 := hmax (g.bx.getD (toN a) 0) (by simp)
          unfold max3
          simp only [List.mem_cons, List.not_mem_nil, or_false] at hm
          split <;> split <;> omega
        rw [em]
        have b3 : max3 (g.p0.getD (toN a) 0) (g.p1.getD (toN a) 0) (g.bx.getD (toN a) 0) ≤ 100000 ∧ 1 ≤ max3 (g.p0.getD (toN a) 0) (g.p1.getD (toN a) 0) (g.bx.getD (toN a) 0) := by
          unfold max3
          split <;> split <;> omega
        refine ⟨_, rfl, .inl ⟨by omega, by omega⟩, ⟨by decide, by decide, by decide⟩, ?_⟩
        by_cases c3 : max3 (g.p0.getD (toN a) 0) (g.p1.getD (toN a) 0) (g.bx.getD (toN a) 0) * toI n > big
        · rw [if_pos c3] at hq
          rw [if_pos (decide_eq_true c3)]
          rw [ex] at hq
          exact ⟨by decide, fun l nl => hq _ _ (st1.new nl) ⟨l, rfl, upd_same⟩⟩
        · rw [if_neg c3] at hq
          rw [if_neg (by simpa using c3)]
          have hap1 := st1.tp _ _ hap
          refine ⟨_, rfl, _, _, _, _, rfl, rfl, SqT.of hap1, rfl, _, rfl, _, _, _, _, rfl, rfl, SqT.of hap1, rfl, _, rfl, (by show 3 ≤ sizeLine; decide), fun p np => ⟨p, rfl, ⟨_, SqT.of upd_same⟩, fun D nD => ?_⟩⟩
          have sr := st1.new (p := p) (o := .tup [.ref a0, .ref a1, .ref ab]) np
          generalize hHr : upd H1 p (.tup [.ref a0, .ref a1, .ref ab]) = Hr at *
          have hpr : Hr p = some (.tup [.ref a0, .ref a1, .ref ab]) := by rw [← hHr, upd_same]
          refine lc_tup (xs := [.ref a0, .ref a1, .ref ab]) (fun i H' => ∃ L, H' D = some (.lst L) ∧ RowsAt H' L (([g.p0, g.p1, g.bx].take i).map fun r => setR r a n) ∧ L.length = i ∧ St' [] Hr H') ⟨[], upd_same, trivial, rfl, St'.refl.new nD⟩ (fun i H' _ p => by obtain ⟨L, _, _, _, z⟩ := p; exact SqT.of (z.tp _ _ hpr)) ?_ ?_
          · rintro i x H' hi ⟨L, hL, hR, hn, s2⟩
            have st2 := sr.trans s2
            obtain ⟨ar, r, rfl, hr, lr, n4, br, tk⟩ : ∃ ar r, x = .ref ar ∧ H ar = some (.tup (ivs r)) ∧ toN a < r.length ∧ r.length ≤ 4 ∧ (1 ≤ r.getD (toN a) 0 ∧ r.getD (toN a) 0 ≤ 100000) ∧ [g.p0, g.p1, g.bx].take (i + 1) = [g.p0, g.p1, g.bx].take i ++ [r] := by
              match i, hi with
              | 0, hi => cases hi; exact ⟨a0, _, rfl, h0, by omega, ok.o3.s0.n4, b0, rfl⟩
              | 1, hi => cases hi; exact ⟨a1, _, rfl, h1, by omega, ok.o3.s1.n4, b1, rfl⟩
              | 2, hi => cases hi; exact ⟨ab, _, rfl, hab, la, ok.o3.sb.n4, bb, rfl⟩
            simp only [wipe, tYes, tCB, tRet, tAndV, tOrV, tNotV, tCB, tCons, tNil, tC, tVar, tChain, rI0, tIfS, tTest, tOp, tUn, rU, rI, tPar3, tBM, tBM0, tM1, gSub, tXm, tCon, tProp, tMethR, rEq, rNe, rIxT, rIxL, decide_true, decide_false, tAnd, tOr, tNot, tB, tSeq, tAsg, gName, tDrop, tNext, tTup, tLst, tIf, tDf, tFld, tMf0, tPart, tSl, tNoPart, tPar, gTup, gLst, gCons, gNil, L2.start, List.map_cons, List.map_nil, List.length_cons, List.length_nil, Nat.zero_add, Nat.sub_self, Nat.reduceAdd, Nat.reduceSub, List.replicate_zero, List.replicate_succ, List.append_nil, List.nil_append, List.cons_append, List.getElem?_cons_zero, List.getElem?_cons_succ, List.set_cons_zero, List.set_cons_succ, Option.some.injEq, exists_and_left, exists_eq_left', exists_eq_left, V.int.injEq, V.bl.injEq, V.str.injEq, V.ref.injEq, List.cons.injEq, and_true, true_and, if_true, if_false, Bool.false_eq_true, reduceCtorEq, Bool.not_true, Bool.not_false, cxOf]
            refine ⟨_, SqT.of (st2.tp _ _ hr), _, atIv (getD_some lr), _, rfl, .inl ⟨by omega, by omega⟩, ?_⟩
            refine ⟨ar, r, toN a, _, rfl, st2.tp _ _ hr, lr, n4, fun l H3 s3 hl => ?_⟩
            have hL3 := s3.kp _ _ hL (by simp)
            refine ⟨L, hL3, Nat.lt_of_le_of_lt (m := 3) (by have il := (List.getElem?_eq_some_iff.mp hi).1; rw [hn]; exact Nat.le_of_lt il) (by decide), L ++ [.ref l], upd_same, ?_, by simp [hn], (s2.trans s3).own nD⟩
            rw [tk, List.map_append]
            have s5 : St' [D] H3 (upd H3 D (.lst (L ++ [.ref l]))) := St'.refl.putL (by simp) hL3
            exact RowsAt.snoc (s5.tp _ _ hl) (RowsAt.st s5 (RowsAt.st s3 hR))
          · rintro H' ⟨L, hL, hR, hn, s2⟩
            have st2 := sr.trans s2
            obtain ⟨q0, q1, q2, rfl, r0, r1, r2⟩ : ∃ q0 q1 q2, L = [.ref q0, .ref q1, .ref q2] ∧ H' q0 = some (.tup (ivs (setR g.p0 a n))) ∧ H' q1 = some (.tup (ivs (setR g.p1 a n))) ∧ H' q2 = some (.tup (ivs (setR g.bx a n))) := RowsAt.three hR
            refine ⟨D, rfl, _, SqL.of hL, _, rfl, D, rfl, _, SqL.of hL, _, rfl, by decide, fun p3 n3 => ?_⟩
            have s3 := St'.refl (M := []) |>.new (p := p3) (o := .tup [.ref q0, .ref q1]) n3
            refine ⟨D, rfl, _, SqL.of (s3.kp _ _ hL (by simp)), _, rfl, by decide, fun p4 n4 => ?_⟩
            have s4 := St'.refl (M := []) |>.new (p := p4) (o := .tup [.ref p3, .ref q2]) n4
            have s5 := s3.trans s4
            exact hq _ _ (st2.trans s5) ⟨p4, p3, q2, rfl, upd_same, ⟨q0, q1, s4.tp _ _ upd_same, s5.tp _ _ r0, s5.tp _ _ r1⟩, s5.tp _ _ r2⟩
end
end Yk
set_option Elab.async false
set_option linter.all false
set_option maxRecDepth 100000
set_option maxHeartbeats 4000000
/-! the law: start, is_small, edit, small_edit -/
namespace Yk
open PySem PySem.Spec PyProof.Rows L2
/-- between two statements -/
theorem seq_cut {a b : TS} {D : Ends} {σ : L2.St} {H : Hp} (P : L2.St → Hp → Prop) (h1 : ∀ N : L2.St → Hp → Prop, (∀ σ' H', P σ' H' → N σ' H') → a { D with nx := N } σ H) (h2 : ∀ σ' H', P σ' H' → b D σ' H') : tSeq a b D σ H := h1 _ h2
section
variable {w : World} {K : KF} {mg : Str → Option Value} {base : Heap}
theorem sc_law_is_small : FnScope ["_law_page"] ["_law_page"] (defScope s_law_is_small) := ⟨rfl, rfl, rfl, by decide +kernel, rfl, by decide +kernel, by decide +kernel⟩
def spSmall : Sp := fun vs H Q _ => ∃ (p : V) (g : Pg), vs = [p] ∧ PgAt H p g ∧ g.Ok big ∧ ∀ b H', (b = true → g.Ok 3000) → St' [] H H' → Q (.bl b) H'
theorem ok_law_is_small (T : Tx w K mg) : Df R.prog w K mg base CX0 1 "_law_is_small" spSmall := by
  refine df_of T.d_law_is_small T.g_law_is_small sc_law_is_small (fun _ _ _ _ _ _ us hl => match us, hl with | [_], _ => rfl)
    (fun vs H Q E h => by repeat (first | (obtain ⟨rfl, _⟩ := h; rfl) | (obtain ⟨_, h⟩ := h))) (fun cdv A outer s H vs Q E hr h => ?_)
  have nd := sc_law_is_small.nd
  refine ⟨_, (pss_one (ps_ret (pe_cmpR op_le (pe_callB (cr_max rfl) rfl T.n_max (by decide +kernel) (pa_cons (pe_lst (pa_cons (pe_callB (call_maxT rfl) rfl T.n_max (by decide +kernel) (pa_cons (pe_ix ix_tup (pe_ix ix_tup (pv 0) pe_int (fun _ _ => rfl)) pe_int (fun _ _ => rfl)) pa_nil)) (pa_cons (pe_callB (call_maxT rfl) rfl T.n_max (by decide +kernel) (pa_cons (pe_ix ix_tup (pe_ix ix_tup (pv 0) pe_int (fun _ _ => rfl)) pe_int (fun _ _ => rfl)) pa_nil)) (pa_cons (pe_callB (call_maxT rfl) rfl T.n_max (by decide +kernel) (pa_cons (pe_ix ix_tup (pv 0) pe_int (fun _ _ => rfl)) pa_nil)) pa_nil)))) pa_nil)) pe_int (nomark _)))), ?_⟩
  obtain ⟨p, g, rfl, ⟨pa, ap, ab, rfl, hpa, ⟨a0, a1, hap, h0, h1⟩, hab⟩, ok, q⟩ := h
  have n0 := ok.o3.s0.n1
  have n1 := ok.o3.s1.n1
  have nb := ok.o3.sb.n1
  simp only [tRet, tAndV, tOrV, tNotV, tCB, tCons, tNil, tC, tVar, tChain, rI0, tIfS, tTest, tOp, tUn, rU, rI, tPar3, tBM, tBM0, tM1, gSub, tXm, tCon, tProp, tMethR, rEq, rNe, rIxT, rIxL, decide_true, decide_false, tAnd, tOr, tNot, tB, tSeq, tAsg, gName, tDrop, tNext, tTup, tLst, tIf, tDf, tFld, tMf0, tPart, tSl, tNoPart, tPar, gTup, gLst, gCons, gNil, L2.start, List.map_cons, List.map_nil, List.length_cons, List.length_nil, Nat.zero_add, Nat.sub_self, Nat.reduceAdd, Nat.reduceSub, List.replicate_zero, List.replicate_succ, List.append_nil, List.nil_append, List.cons_append, List.getElem?_cons_zero, List.getElem?_cons_succ, List.set_cons_zero, List.set_cons_succ, Option.some.injEq, exists_and_left, exists_eq_left', exists_eq_left, V.int.injEq, V.bl.injEq, V.str.injEq, V.ref.injEq, List.cons.injEq, and_true, true_and, if_true, if_false, Bool.false_eq_true, reduceCtorEq, Bool.not_true, Bool.not_false, cxOf]
  refine ⟨_, SqT.of hpa, _, rfl, ap, rfl, _, SqT.of hap, _, rfl, a0, rfl, g.p0, SqT.of h0, by omega, fun m0 e0 b0 => ?_⟩
  refine ⟨_, SqT.of hpa, _, rfl, ap, rfl, _, SqT.of hap, _, rfl, a1, rfl, g.p1, SqT.of h1, by omega, fun m1 e1 b1 => ?_⟩
  refine ⟨_, SqT.of hpa, _, rfl, ab, rfl, g.bx, SqT.of hab, by omega, fun m2 e2 b2 => ⟨by decide, fun l nl => ?_⟩⟩
  have s1 := (St'.refl (M := []) (H := H)).new (p := l) (o := .lst [.int m0, .int m1, .int m2]) nl
  refine ⟨l, [m0, m1, m2], rfl, SqL.of upd_same, by simp, fun m e b => ?_⟩
  refine ⟨_, rfl, q _ _ (fun c => ?_) s1⟩
  have c' : m ≤ 3000 := of_decide_eq_true c
  have x0 := b m0 (by simp)
  have x1 := b m1 (by simp)
  have x2 := b m2 (by simp)
  exact ⟨⟨⟨n0, ok.o3.s0.n4, fun x hx => ⟨(ok.o3.s0.all x hx).1, by have := b0 x hx; omega⟩⟩, ⟨n1, ok.o3.s1.n4, fun x hx => ⟨(ok.o3.s1.all x hx).1, by have := b1 x hx; omega⟩⟩, ⟨nb, ok.o3.sb.n4, fun x hx => ⟨(ok.o3.sb.all x hx).1, by have := b2 x hx; omega⟩⟩, ok.o3.l1, ok.o3.lb⟩⟩
theorem sc_law_start : FnScope ["_law_deck_here", "_law_axes", "_law_pair_here"] ["_law_deck_here"] (defScope s_law_start) := ⟨rfl, rfl, rfl, by decide +kernel, rfl, by decide +kernel, by decide +kernel⟩
def spStart : Sp := fun vs H Q _ => ∃ (d a b : Addr), vs = [.ref d] ∧ Dk H d a b ∧ ∀ v g H', St' [d, a] H H' → Dk H' d a b → PgAt H' v g → g.Ok 3000 → Q v H'
theorem ok_law_start (T : Tx w K mg) (D__law_draw : Df R.prog w K mg base CX0 1 "_law_draw" spDraw) (D__law_pair : Df R.prog w K mg base CX0 3 "_law_pair" spPairL) (D__law_says : Df R.prog w K mg base CX0 4 "_law_says" spSays) : Df R.prog w K mg base CX0 5 "_law_start" spStart := by
  refine df_of T.d_law_start T.g_law_start sc_law_start (fun _ _ _ _ _ _ us hl => match us, hl with | [_], _ => rfl)
    (fun vs H Q E h => by repeat (first | (obtain ⟨rfl, _⟩ := h; rfl) | (obtain ⟨_, h⟩ := h))) (fun cdv A outer s H vs Q E hr h => ?_)
  have nd := sc_law_start.nd
  refine ⟨_, (pss_cons (ps_set (i := 1) nd rfl (by first | exact Or.inl rfl | exact Or.inr rfl) (pe_op op_add pe_int (pe_df D__law_draw hr (by decide) pass0 (pa_cons (pv 0) (pa_cons pe_int pa_nil)))))
          (pss_cons (ps_set (i := 2) nd rfl (by first | exact Or.inl rfl | exact Or.inr rfl) (pe_df D__law_pair hr (by decide) pass0 (pa_cons (pv 0) (pa_cons (pv 1) (pa_cons pe_int pa_nil)))))
          (pss_one (ps_ret (pe_tup (pa_cons (pv 2) (pa_cons (pe_df D__law_says hr (by decide) pass0 (pa_cons (pv 0) (pa_cons (pv 2) pa_nil))) pa_nil))))))), ?_⟩
  obtain ⟨d, a, b, rfl, dk, q⟩ := h
  simp only [tRet, tAndV, tOrV, tNotV, tCB, tCons, tNil, tC, tVar, tChain, rI0, tIfS, tTest, tOp, tUn, rU, rI, tPar3, tBM, tBM0, tM1, gSub, tXm, tCon, tProp, tMethR, rEq, rNe, rIxT, rIxL, decide_true, decide_false, tAnd, tOr, tNot, tB, tSeq, tAsg, gName, tDrop, tNext, tTup, tLst, tIf, tDf, tFld, tMf0, tPart, tSl, tNoPart, tPar, gTup, gLst, gCons, gNil, L2.start, List.map_cons, List.map_nil, List.length_cons, List.length_nil, Nat.zero_add, Nat.sub_self, Nat.reduceAdd, Nat.reduceSub, List.replicate_zero, List.replicate_succ, List.append_nil, List.nil_append, List.cons_append, List.getElem?_cons_zero, List.getElem?_cons_succ, List.set_cons_zero, List.set_cons_succ, Option.some.injEq, exists_and_left, exists_eq_left', exists_eq_left, V.int.injEq, V.bl.injEq, V.str.injEq, V.ref.injEq, List.cons.injEq, and_true, true_and, if_true, if_false, Bool.false_eq_true, reduceCtorEq, Bool.not_true, Bool.not_false, cxOf]
  refine ⟨d, a, b, 4, rfl, dk, by decide, by decide, fun r H1 r0 r1 s1 dk1 => ?_⟩
  obtain ⟨n, rfl⟩ := Int.eq_ofNat_of_zero_le r0
  refine ⟨_, rfl, d, a, b, n + 1, 6, by rw [show ((n + 1 : Nat) : Int) = 1 + (n : Int) by omega], dk1, by omega, by omega, by decide, by decide, fun p x0 x1 H2 s2 dk2 hp l0 l1 sd0 sd1 => ?_⟩
  refine ⟨d, a, b, p, x0, x1, rfl, dk2, hp, sd0, sd1, by omega, fun bx xs H3 s3 dk3 hb lb sdb => ⟨by decide, fun t nt => ?_⟩⟩
  have s4 := (St'.refl (M := []) (H := H3)).new (p := t) (o := .tup [.ref p, .ref bx]) nt
  exact q _ ⟨x0, x1, xs⟩ _ (((s1.trans s2).trans s3).trans s4.w0) (dk3.st s4) ⟨t, p, bx, rfl, upd_same, (hp.st s3).st s4, s4.tp _ _ hb⟩ ⟨⟨sd0.mono (by decide), sd1.mono (by decide), sdb.mono (by decide), by show x1.length = x0.length; omega, lb⟩⟩
end
end Yk
set_option Elab.async false
set_option linter.all false
set_option maxRecDepth 100000
set_option maxHeartbeats 4000000
/-! the law: edit, small_edit -/
namespace Yk
open PySem PySem.Spec PyProof.Rows L2
def WdOk (x : Str) : Prop := x = "side" ∨ x = "brick" ∨ x = "swap" ∨ x = "turn" ∨ x = "stretch" ∨ x = "more"
theorem one_old {d a b L : Addr} {xs : List V} {H : Hp} {Q : VK} {E : XK} (dk : Dk H d a b) (hL : H L = some (.lst xs)) (nL : L ∉ [d, a]) (hx : xs ≠ []) (hl : xs.length < 1000) (ty : ∀ v ∈ xs, TyV H v)
    (k : ∀ v H', TyV H' v → v ∈ xs → St' [d, a] H H' → Dk H' d a b → Q v H') : spOne [.ref d, .ref L] H Q E :=
  ⟨d, a, b, L, xs, rfl, dk, hL, nL, hx, hl, fun v H' hv s dk' => k v H' ((ty v hv).st s) hv s dk'⟩
theorem one_new {d a b L : Addr} {xs : List V} {H : Hp} {Q : VK} {E : XK} (dk : Dk H d a b) (nL : H L = none) (hx : xs ≠ []) (hl : xs.length < 1000) (ty : ∀ v ∈ xs, TyV H v)
    (k : ∀ v H', TyV H' v → v ∈ xs → St' [d, a] H H' → Dk H' d a b → Q v H') : spOne [.ref d, .ref L] (upd H L (.lst xs)) Q E := by
  have s1 := (St'.refl (M := []) (H := H)).new (p := L) (o := .lst xs) nL
  exact one_old (dk.st s1) upd_same (dk.nin nL) hx hl (fun v hv => (ty v hv).st s1) fun v H' t hv s dk' => k v H' t hv (s1.w0.trans s) dk'
theorem rgL_mem {n : Nat} {x : Int} (h : x ∈ rgL n) : 0 ≤ x ∧ x < (n : Int) := by
  obtain ⟨i, hi, rfl⟩ := List.mem_map.mp h
  have := List.mem_range.mp hi
  omega
section
variable {w : World} {K : KF} {mg : Str → Option Value} {base : Heap}
theorem sc_law_edit : FnScope ["_law_deck_here", "_law_page", "_law_pair_here", "_law_box", "_law_axis", "_law_kind", "_law_odd_here", "_law_word", "_law_number", "_law_wrong", "_law_order", "_law_rows"] ["_law_deck_here", "_law_page"] (defScope s_law_edit) := ⟨rfl, rfl, rfl, by decide +kernel, rfl, by decide +kernel, by decide +kernel⟩
def spEditL : Sp := fun vs H Q _ => ∃ (d a b : Addr) (p : V) (g : Pg), vs = [.ref d, p] ∧ Dk H d a b ∧ PgAt H p g ∧ g.Ok 100000 ∧ ∀ v e H', St' [d, a] H H' → Dk H' d a b → EdAt H' v e → Q v H'
theorem ok_law_edit (T : Tx w K mg) (D__law_draw : Df R.prog w K mg base CX0 1 "_law_draw" spDraw) (D__law_one : Df R.prog w K mg base CX0 2 "_law_one" spOne) (D__law_odd : Df R.prog w K mg base CX0 3 "_law_odd" spOdd) (D__law_mixed : Df R.prog w K mg base CX0 2 "_law_mixed" spMixed) (D__law_bent : Df R.prog w K mg base CX0 5 "_law_bent" spBent1) : Df R.prog w K mg base CX0 6 "_law_edit" spEditL := by
  refine df_of T.d_law_edit T.g_law_edit sc_law_edit (fun _ _ _ _ _ _ us hl => match us, hl with | [_, _], _ => rfl)
    (fun vs H Q E h => by repeat (first | (obtain ⟨rfl, _⟩ := h; rfl) | (obtain ⟨_, h⟩ := h))) (fun cdv A outer s H vs Q E hr h => ?_)
  have nd := sc_law_edit.nd
  refine ⟨_, (pss_cons (ps_asg (pv 1) (pg_tup rfl (pgs_cons (pg_name (i := 2) nd rfl (by first | exact Or.inl rfl | exact Or.inr rfl)) (pgs_cons (pg_name (i := 3) nd rfl (by first | exact Or.inl rfl | exact Or.inr rfl)) pgs_nil))))
          (pss_cons (ps_par3 (i := 4) (j := 5) (l := 6) rfl nd rfl rfl rfl (by decide) (by decide) (by decide) rfl rfl rfl (pa_cons (pe_df D__law_draw hr (by decide) pass0 (pa_cons (pv 0) (pa_cons (pe_callB call_len_seq rfl T.n_len PySem.boot_len (pa_cons (pv 3) pa_nil)) pa_nil))) (pa_cons (pe_df D__law_draw hr (by decide) pass0 (pa_cons (pv 0) (pa_cons pe_int pa_nil))) (pa_cons (pe_cmpR op_eq (pe_df D__law_draw hr (by decide) pass0 (pa_cons (pv 0) (pa_cons pe_int pa_nil))) pe_int (nomark _)) pa_nil))) (by rfl))
          (pss_cons (ps_set (i := 7) nd rfl (by first | exact Or.inl rfl | exact Or.inr rfl) (pe_df D__law_one hr (by decide) pass0 (pa_cons (pv 0) (pa_cons (pe_lst (pa_cons pe_str (pa_cons pe_str (pa_cons pe_str (pa_cons pe_str (pa_cons pe_str (pa_cons pe_str (pa_cons pe_str (pa_cons pe_str pa_nil))))))))) pa_nil))))
          (pss_cons (ps_set (i := 8) nd rfl (by first | exact Or.inl rfl | exact Or.inr rfl) (pe_df D__law_one hr (by decide) pass0 (pa_cons (pv 0) (pa_cons (pe_lst (pa_cons (pe_ix ix_tup (pe_ix ix_tup (pv 2) pe_int (fun _ _ => rfl)) (pv 4) (fun _ _ => rfl)) (pa_cons (pe_ix ix_tup (pe_ix ix_tup (pv 2) pe_int (fun _ _ => rfl)) (pv 4) (fun _ _ => rfl)) (pa_cons (pe_op op_add (pe_ix ix_tup (pe_ix ix_tup (pv 2) pe_int (fun _ _ => rfl)) (pv 4) (fun _ _ => rfl)) (pe_ix ix_tup (pe_ix ix_tup (pv 2) pe_int (fun _ _ => rfl)) (pv 4) (fun _ _ => rfl))) (pa_cons (pe_op op_mul pe_int (pe_ix ix_tup (pv 3) (pv 4) (fun _ _ => rfl))) (pa_cons (pe_op op_add pe_int (pe_df D__law_draw hr (by decide) pass0 (pa_cons (pv 0) (pa_cons pe_int pa_nil)))) pa_nil)))))) pa_nil))))
          (pss_cons (ps_if (pt_val (pv 6)) (pss_cons (ps_set (i := 9) nd rfl (by first | exact Or.inl rfl | exact Or.inr rfl) (pe_lst (pa_cons pe_int (pa_cons (pe_un un_neg pe_int) (pa_cons (pe_op op_pow pe_int pe_int) (pa_cons (pe_op op_add (pe_op op_pow pe_int pe_int) pe_int) (pa_cons pe_bl (pa_cons pe_non (pa_cons pe_str (pa_cons (pe_tup (pa_cons pe_int pa_nil)) (pa_cons (pe_callB call_len_seq rfl T.n_len PySem.boot_len (pa_cons (pv 3) pa_nil)) (pa_cons (pe_lst (pa_cons pe_int pa_nil)) (pa_cons pe_dnewK (pa_cons (pe_df D__law_odd hr (by decide) pass0 (pa_cons (pv 0) pa_nil)) pa_nil))))))))))))))
          (pss_cons (ps_set (i := 4) nd rfl (by first | exact Or.inl rfl | exact Or.inr rfl) (pe_df D__law_one hr (by decide) pass0 (pa_cons (pv 0) (pa_cons (pe_lst (pa_cons (pv 4) (pa_cons (pe_callB call_len_seq rfl T.n_len PySem.boot_len (pa_cons (pv 3) pa_nil)) (pa_cons (pe_df D__law_one hr (by decide) pass0 (pa_cons (pv 0) (pa_cons (pv 9) pa_nil))) pa_nil)))) pa_nil))))
          (pss_one (ps_par (i := 8) (j := 5) rfl nd rfl rfl (by decide) rfl rfl (pa_cons (pe_df D__law_one hr (by decide) pass0 (pa_cons (pv 0) (pa_cons (pe_lst (pa_cons (pv 8) (pa_cons (pe_df D__law_one hr (by decide) pass0 (pa_cons (pv 0) (pa_cons (pv 9) pa_nil))) pa_nil))) pa_nil))) (pa_cons (pe_df D__law_one hr (by decide) pass0 (pa_cons (pv 0) (pa_cons (pe_lst (pa_cons (pv 5) (pa_cons pe_int (pa_cons (pe_df D__law_one hr (by decide) pass0 (pa_cons (pv 0) (pa_cons (pv 9) pa_nil))) pa_nil)))) pa_nil))) pa_nil)) (by rfl))))) pss_nil)
          (pss_cons (ps_if (pt_cmpR op_eq (pv 7) pe_str (nomark _)) (pss_cons (ps_set (i := 10) nd rfl (by first | exact Or.inl rfl | exact Or.inr rfl) (pe_callTy call_tuple_of rfl T.n_tuple (by decide +kernel) (pa_cons (pe_df D__law_mixed hr (by decide) pass0 (pa_cons (pv 0) (pa_cons (pe_listRg rfl rfl T.n_list (prg_1 rfl T.n_range (pe_callB call_len_seq rfl T.n_len PySem.boot_len (pa_cons (pv 3) pa_nil)))) pa_nil))) pa_nil)))
          (pss_one (ps_ret (pe_tup (pa_cons (pv 7) (pa_cons (pe_ifExp (pt_val (pv 6)) (pe_df D__law_bent hr (by decide) pass0 (pa_cons (pv 0) (pa_cons (pv 10) (pa_cons pe_int pa_nil)))) (pv 10)) pa_nil)))))) pss_nil)
          (pss_cons (ps_if (PW.pt (pw_and (pt_cmpR op_eq (pv 7) pe_str (nomark _)) (pw_and1 (pt_not (pt_val (pv 6)))))) (pss_one (ps_set (i := 8) nd rfl (by first | exact Or.inl rfl | exact Or.inr rfl) (pe_op op_add pe_int (pe_df D__law_draw hr (by decide) pass0 (pa_cons (pv 0) (pa_cons pe_int pa_nil)))))) pss_nil)
          (pss_cons (ps_set (i := 11) nd rfl (by first | exact Or.inl rfl | exact Or.inr rfl) (pe_disp (pps_cons pe_str (pe_tup (pa_cons (pv 7) (pa_cons (pv 4) (pa_cons (pv 8) pa_nil)))) (pps_cons pe_str (pe_tup (pa_cons (pv 7) (pa_cons (pv 5) (pa_cons (pv 4) (pa_cons (pv 8) pa_nil))))) (pps_cons pe_str (pe_tup (pa_cons (pv 7) pa_nil)) (pps_cons pe_str (pe_tup (pa_cons (pv 7) (pa_cons (pv 8) pa_nil))) pps_nil)))) rfl rfl (by simp) (by decide)))
          (pss_one (ps_ret (pe_dget2 (Nat.lt_of_le_of_lt (Nat.add_le_add_left (by decide : 1 ≤ 64) _) hr.units) (pv 11) (pv 7) (pe_tup (pa_cons (pv 7) (pa_cons (pv 4) (pa_cons (pv 8) pa_nil)))) ⟨rfl, rfl, rfl, rfl⟩))))))))))), ?_⟩
  obtain ⟨d, a, b, p, g, rfl, dk, hp, ok, q⟩ := h
  obtain ⟨pa, ap, ab, rfl, hpa, ⟨a0, a1, hap, h0, h1⟩, hab⟩ := id hp
  have n1 := ok.o3.sb.n1
  have n4 := ok.o3.sb.n4
  have e0 := ok.o3.lb
  have e1 := ok.o3.l1
  refine seq_cut (P := fun σ H' => H' = H ∧ σ = [some (.ref d), some (.ref pa), some (.ref ap), some (.ref ab), none, none, none, none, none, none, none, none]) (fun N hN => ?_) ?_
  · simp only [tRet, tAndV, tOrV, tNotV, tCB, tCons, tNil, tC, tVar, tChain, rI0, tIfS, tTest, tOp, tUn, rU, rI, tPar3, tBM, tBM0, tM1, gSub, tXm, tCon, tProp, tMethR, rEq, rNe, rIxT, rIxL, decide_true, decide_false, tAnd, tOr, tNot, tB, tSeq, tAsg, gName, tDrop, tNext, tTup, tLst, tIf, tDf, tFld, tMf0, tPart, tSl, tNoPart, tPar, gTup, gLst, gCons, gNil, L2.start, List.map_cons, List.map_nil, List.length_cons, List.length_nil, Nat.zero_add, Nat.sub_self, Nat.reduceAdd, Nat.reduceSub, List.replicate_zero, List.replicate_succ, List.append_nil, List.nil_append, List.cons_append, List.getElem?_cons_zero, List.getElem?_cons_succ, List.set_cons_zero, List.set_cons_succ, Option.some.injEq, exists_and_left, exists_eq_left', exists_eq_left, V.int.injEq, V.bl.injEq, V.str.injEq, V.ref.injEq, List.cons.injEq, and_true, true_and, if_true, if_false, Bool.false_eq_true, reduceCtorEq, Bool.not_true, Bool.not_false, cxOf]
    exact ⟨_, SqT.of hpa, rfl, _, _, rfl, _, _, rfl, rfl, hN _ _ ⟨rfl, rfl⟩⟩
  rintro σ1 H1 ⟨rfl, rfl⟩
  refine seq_cut (P := fun σ H' => ∃ (ax : Nat) (kd : Int) (od : Bool), σ = [some (.ref d), some (.ref pa), some (.ref ap), some (.ref ab), some (.int ax), some (.int kd), some (.bl od), none, none, none, none, none] ∧ ax < g.bx.length ∧ St' [d, a] H1 H' ∧ Dk H' d a b) (fun N hN => ?_) ?_
  · simp only [tRet, tAndV, tOrV, tNotV, tCB, tCons, tNil, tC, tVar, tChain, rI0, tIfS, tTest, tOp, tUn, rU, rI, tPar3, tBM, tBM0, tM1, gSub, tXm, tCon, tProp, tMethR, rEq, rNe, rIxT, rIxL, decide_true, decide_false, tAnd, tOr, tNot, tB, tSeq, tAsg, gName, tDrop, tNext, tTup, tLst, tIf, tDf, tFld, tMf0, tPart, tSl, tNoPart, tPar, gTup, gLst, gCons, gNil, L2.start, List.map_cons, List.map_nil, List.length_cons, List.length_nil, Nat.zero_add, Nat.sub_self, Nat.reduceAdd, Nat.reduceSub, List.replicate_zero, List.replicate_succ, List.append_nil, List.nil_append, List.cons_append, List.getElem?_cons_zero, List.getElem?_cons_succ, List.set_cons_zero, List.set_cons_succ, Option.some.injEq, exists_and_left, exists_eq_left', exists_eq_left, V.int.injEq, V.bl.injEq, V.str.injEq, V.ref.injEq, List.cons.injEq, and_true, true_and, if_true, if_false, Bool.false_eq_true, reduceCtorEq, Bool.not_true, Bool.not_false, cxOf]
    refine ⟨_, .inr (SqT.of hab), d, a, b, _, rfl, dk, by rw [List.length_map]; omega, by rw [List.length_map]; omega, fun r1 H2 r10 r11 s1 dk1 => ⟨d, a, b, 2, rfl, dk1, by decide, by decide, fun r2 H3 _ _ s2 dk2 => ⟨d, a, b, 7, rfl, dk2, by decide, by decide, fun r3 H4 _ _ s3 dk3 => ?_⟩⟩⟩
    obtain ⟨ax, rfl⟩ := Int.eq_ofNat_of_zero_le r10
    refine ⟨rfl, _, _, _, ⟨rfl, rfl, rfl⟩, hN _ _ ⟨ax, r2, _, rfl, by simp at r11; omega, (s1.trans s2).trans s3, dk3⟩⟩
  rintro σ2 H2 ⟨ax, kd, od, rfl, lax, st2, dk2⟩
  refine seq_cut (P := fun σ H' => ∃ (wd : Str), σ = [some (.ref d), some (.ref pa), some (.ref ap), some (.ref ab), some (.int ax), some (.int kd), some (.bl od), some (.str wd), none, none, none, none] ∧ WdOk wd ∧ St' [d, a] H1 H' ∧ Dk H' d a b) (fun N hN => ?_) ?_
  · simp only [tRet, tAndV, tOrV, tNotV, tCB, tCons, tNil, tC, tVar, tChain, rI0, tIfS, tTest, tOp, tUn, rU, rI, tPar3, tBM, tBM0, tM1, gSub, tXm, tCon, tProp, tMethR, rEq, rNe, rIxT, rIxL, decide_true, decide_false, tAnd, tOr, tNot, tB, tSeq, tAsg, gName, tDrop, tNext, tTup, tLst, tIf, tDf, tFld, tMf0, tPart, tSl, tNoPart, tPar, gTup, gLst, gCons, gNil, L2.start, List.map_cons, List.map_nil, List.length_cons, List.length_nil, Nat.zero_add, Nat.sub_self, Nat.reduceAdd, Nat.reduceSub, List.replicate_zero, List.replicate_succ, List.append_nil, List.nil_append, List.cons_append, List.getElem?_cons_zero, List.getElem?_cons_succ, List.set_cons_zero, List.set_cons_succ, Option.some.injEq, exists_and_left, exists_eq_left', exists_eq_left, V.int.injEq, V.bl.injEq, V.str.injEq, V.ref.injEq, List.cons.injEq, and_true, true_and, if_true, if_false, Bool.false_eq_true, reduceCtorEq, Bool.not_true, Bool.not_false, cxOf]
    refine ⟨by decide, fun l nl => ?_⟩
    have s1 := (St'.refl (M := []) (H := H2)).new (p := l) (o := .lst [.str "side", .str "side", .str "brick", .str "brick", .str "swap", .str "turn", .str "stretch", .str "more"]) nl
    refine ⟨d, a, b, l, _, rfl, dk2.st s1, upd_same, dk2.nin nl, by simp, by simp, fun v H' hv s dk' => ?_⟩
    have hw : ∃ wd, v = .str wd ∧ WdOk wd := by
      simp at hv
      unfold WdOk
      rcases hv with rfl | rfl | rfl | rfl | rfl | rfl <;> exact ⟨_, rfl, by simp⟩
    obtain ⟨wd, rfl, hw⟩ := hw
    exact hN _ _ ⟨wd, rfl, hw, (st2.trans s1.w0).trans s, dk'⟩
  rintro σ3 H3 ⟨wd, rfl, hw, st3, dk3⟩
  refine seq_cut (P := fun σ H' => ∃ (nm : Int), σ = [some (.ref d), some (.ref pa), some (.ref ap), some (.ref ab), some (.int ax), some (.int kd), some (.bl od), some (.str wd), some (.int nm), none, none, none] ∧ St' [d, a] H1 H' ∧ Dk H' d a b) (fun N hN => ?_) ?_
  · have g0 : g.p0[ax]? = some (g.p0.getD ax 0) := getD_some (by omega)
    have g1 : g.p1[ax]? = some (g.p1.getD ax 0) := getD_some (by omega)
    have gb : g.bx[ax]? = some (g.bx.getD ax 0) := getD_some lax
    have bb := ok.o3.sb.all _ (List.mem_of_getElem? gb)
    have hap' := st3.tp _ _ hap
    have h0' := st3.tp _ _ h0
    have h1' := st3.tp _ _ h1
    have hab' := st3.tp _ _ hab
    simp only [tRet, tAndV, tOrV, tNotV, tCB, tCons, tNil, tC, tVar, tChain, rI0, tIfS, tTest, tOp, tUn, rU, rI, tPar3, tBM, tBM0, tM1, gSub, tXm, tCon, tProp, tMethR, rEq, rNe, rIxT, rIxL, decide_true, decide_false, tAnd, tOr, tNot, tB, tSeq, tAsg, gName, tDrop, tNext, tTup, tLst, tIf, tDf, tFld, tMf0, tPart, tSl, tNoPart, tPar, gTup, gLst, gCons, gNil, L2.start, List.map_cons, List.map_nil, List.length_cons, List.length_nil, Nat.zero_add, Nat.sub_self, Nat.reduceAdd, Nat.reduceSub, List.replicate_zero, List.replicate_succ, List.append_nil, List.nil_append, List.cons_append, List.getElem?_cons_zero, List.getElem?_cons_succ, List.set_cons_zero, List.set_cons_succ, Option.some.injEq, exists_and_left, exists_eq_left', exists_eq_left, V.int.injEq, V.bl.injEq, V.str.injEq, V.ref.injEq, List.cons.injEq, and_true, true_and, if_true, if_false, Bool.false_eq_true, reduceCtorEq, Bool.not_true, Bool.not_false, cxOf]
    repeat (first | (refine ⟨_, SqT.of (by first | assumption | exact St'.tp (H := H) (by assumption) _ _ (by assumption)), ?_⟩) | (refine ⟨_, .inr (SqT.of (by first | assumption | exact St'.tp (H := H) (by assumption) _ _ (by assumption))), ?_⟩) | (refine ⟨_, rfl, ?_⟩) | (refine ⟨_, atIv (by assumption), ?_⟩) | (refine ⟨_, _, ⟨rfl, rfl⟩, ?_⟩) | (refine ⟨rfl, ?_⟩) | simp only [tRet, tAndV, tOrV, tNotV, tCB, tCons, tNil, tC, tVar, tChain, rI0, tIfS, tTest, tOp, tUn, rU, rI, tPar3, tBM, tBM0, tM1, gSub, tXm, tCon, tProp, tMethR, rEq, rNe, rIxT, rIxL, decide_true, decide_false, tAnd, tOr, tNot, tB, tSeq, tAsg, gName, tDrop, tNext, tTup, tLst, tIf, tDf, tFld, tMf0, tPart, tSl, tNoPart, tPar, gTup, gLst, gCons, gNil, L2.start, List.map_cons, List.map_nil, List.length_cons, List.length_nil, Nat.zero_add, Nat.sub_self, Nat.reduceAdd, Nat.reduceSub, List.replicate_zero, List.replicate_succ, List.append_nil, List.nil_append, List.cons_append, List.getElem?_cons_zero, List.getElem?_cons_succ, List.set_cons_zero, List.set_cons_succ, Option.some.injEq, exists_and_left, exists_eq_left', exists_eq_left, V.int.injEq, V.bl.injEq, V.str.injEq, V.ref.injEq, List.cons.injEq, and_true, true_and, if_true, if_false, Bool.false_eq_true, reduceCtorEq, Bool.not_true, Bool.not_false, cxOf])
    refine ⟨.inl ⟨by omega, by omega⟩, d, a, b, 9, rfl, dk3, by decide, by decide, fun r H4 _ _ s4 dk4 => ⟨_, rfl, by decide, fun l nl => one_new dk4 nl (by simp) (by simp) (fun v hv => ?_) fun v H5 _ hv s5 dk5 => ?_⟩⟩
    · simp at hv
      rcases hv with rfl | rfl | rfl | rfl | rfl <;> exact .int _
    · have hv' : ∃ z, v = .int z := by
        simp at hv
        rcases hv with rfl | rfl | rfl | rfl | rfl <;> exact ⟨_, rfl⟩
      obtain ⟨z, rfl⟩ := hv'
      exact hN _ _ ⟨z, rfl, (st3.trans s4).trans s5, dk5⟩
  rintro σ4 H4 ⟨nm, rfl, st4, dk4⟩
  refine seq_cut (P := fun σ H' => ∃ (av kv nv : V) (u9 : Option V), σ = [some (.ref d), some (.ref pa), some (.ref ap), some (.ref ab), some av, some kv, some (.bl od), some (.str wd), some nv, u9, none, none] ∧ TyV H' av ∧ TyV H' kv ∧ TyV H' nv ∧ St' [d, a] H1 H' ∧ Dk H' d a b) (fun N hN => ?_) ?_
  · simp only [tRet, tAndV, tOrV, tNotV, tCB, tCons, tNil, tC, tVar, tChain, rI0, tIfS, tTest, tOp, tUn, rU, rI, tPar3, tBM, tBM0, tM1, gSub, tXm, tCon, tProp, tMethR, rEq, rNe, rIxT, rIxL, decide_true, decide_false, tAnd, tOr, tNot, tB, tSeq, tAsg, gName, tDrop, tNext, tTup, tLst, tIf, tDf, tFld, tMf0, tPart, tSl, tNoPart, tPar, gTup, gLst, gCons, gNil, L2.start, List.map_cons, List.map_nil, List.length_cons, List.length_nil, Nat.zero_add, Nat.sub_self, Nat.reduceAdd, Nat.reduceSub, List.replicate_zero, List.replicate_succ, List.append_nil, List.nil_append, List.cons_append, List.getElem?_cons_zero, List.getElem?_cons_succ, List.set_cons_zero, List.set_cons_succ, Option.some.injEq, exists_and_left, exists_eq_left', exists_eq_left, V.int.injEq, V.bl.injEq, V.str.injEq, V.ref.injEq, List.cons.injEq, and_true, true_and, if_true, if_false, Bool.false_eq_true, reduceCtorEq, Bool.not_true, Bool.not_false, cxOf]
    cases od with
    | false =>
      rw [if_neg (by simp)]
      exact hN _ _ ⟨_, _, _, _, rfl, .int _, .int _, .int _, st4, dk4⟩
    | true =>
      rw [if_pos rfl]
      refine ⟨⟨by decide, by decide, by decide⟩, ⟨by decide, by decide, by decide⟩, by decide, fun t nt => ?_⟩
      have s1 := (St'.refl (M := []) (H := H4)).new (p := t) (o := .tup [.int 0]) nt
      have k1 : upd H4 t (.tup [.int 0]) t = some (.tup [.int 0]) := upd_same
      have hab1 := s1.tp _ _ (st4.tp _ _ hab)
      generalize upd H4 t (.tup [.int 0]) = I1 at *
      refine ⟨_, .inr (SqT.of hab1), by decide, fun l nl => ?_⟩
      have s2 := (St'.refl (M := []) (H := I1)).new (p := l) (o := .lst [.int 0]) nl
      have k2 : upd I1 l (.lst [.int 0]) l = some (.lst [.int 0]) := upd_same
      generalize upd I1 l (.lst [.int 0]) = I2 at *
      intro dd ndd
      have s3 := (St'.refl (M := []) (H := I2)).new (p := dd) (o := .dK []) ndd
      have k3 : upd I2 dd (.dK []) dd = some (.dK []) := upd_same
      generalize upd I2 dd (.dK []) = I3 at *
      have t3 := (s1.trans s2).trans s3
      refine ⟨d, a, b, rfl, dk4.st t3, fun ov I4 s4 dkI4 oov => ⟨by decide, fun W nW => ?_⟩⟩
      have tW : ∀ v ∈ [V.int 0, .int (-1), .int (10 ^ Int.toNat 12), .int (10 ^ Int.toNat 12 + 1), .bl true, .non, .str "1", .ref t, .int ((ivs g.bx).length : Nat), .ref l, .ref dd, ov], TyV I4 v := by
        intro v hv
        have y1 : TyV I4 (.ref t) := (TyV.tup k1).st ((s2.trans s3).w0.trans s4)
        have y2 : TyV I4 (.ref l) := (TyV.lst k2).st (s3.w0.trans s4)
        have y3 : TyV I4 (.ref dd) := (TyV.dct k3).st s4
        simp only [List.mem_cons, List.not_mem_nil, or_false] at hv
        rcases hv with rfl | rfl | rfl | rfl | rfl | rfl | rfl | rfl | rfl | rfl | rfl | rfl
        · exact .int _
        · exact .int _
        · exact .int _
        · exact .int _
        · exact .bl _
        · exact .non
        · exact .str _
        · exact y1
        · exact .int _
        · exact y2
        · exact y3
        · exact oov.ty
      have hab4 := s4.tp _ _ ((s2.trans s3).tp _ _ hab1)
      generalize hws : [V.int 0, .int (-1), .int (10 ^ Int.toNat 12), .int (10 ^ Int.toNat 12 + 1), .bl true, .non, .str "1", .ref t, .int ((ivs g.bx).length : Nat), .ref l, .ref dd, ov] = ws at *
      have lw : ws.length = 12 := by rw [← hws]; rfl
      have nw : ws ≠ [] := by rw [← hws]; simp
      have s5 := (St'.refl (M := []) (H := I4)).new (p := W) (o := .lst ws) nW
      have kW : upd I4 W (.lst ws) W = some (.lst ws) := upd_same
      have hab5 := s5.tp _ _ hab4
      have dkI5 := dkI4.st s5
      have tW5 : ∀ v ∈ ws, TyV (upd I4 W (.lst ws)) v := fun v hv => (tW v hv).st s5
      have nW' := dkI4.nin nW
      have st5 := ((st4.trans t3.w0).trans s4).trans s5.w0
      generalize upd I4 W (.lst ws) = I5 at *
      refine ⟨_, .inr (SqT.of hab5), one_old dkI5 kW nW' nw (by omega) tW5 fun v1 J1 ty1 _ u1 dk1 => ⟨by decide, fun L1 nL1 => one_new dk1 nL1 (by simp) (by simp) (fun v hv => ?_) fun av J2 tav _ u2 dk2' => ?_⟩⟩
      · simp at hv
        rcases hv with rfl | rfl | rfl
        · exact .int _
        · exact .int _
        · exact ty1
      have x2 := u1.trans u2
      refine one_old dk2' (x2.kp _ _ kW nW') nW' nw (by omega) (fun v hv => (tW5 v hv).st x2) fun v2 J3 ty2 _ u3 dk3' => ⟨by decide, fun L2 nL2 => one_new dk3' nL2 (by simp) (by simp) (fun v hv => ?_) fun nv J4 tnv _ u4 dk4' => ?_⟩
      · simp at hv
        rcases hv with rfl | rfl
        · exact .int _
        · exact ty2
      have x4 := (x2.trans u3).trans u4
      refine one_old dk4' (x4.kp _ _ kW nW') nW' nw (by omega) (fun v hv => (tW5 v hv).st x4) fun v3 J5 ty3 _ u5 dk5' => ⟨by decide, fun L3 nL3 => one_new dk5' nL3 (by simp) (by simp) (fun v hv => ?_) fun kv J6 tkv _ u6 dk6' => ?_⟩
      · simp at hv
        rcases hv with rfl | rfl | rfl
        · exact .int _
        · exact .int _
        · exact ty3
      have x6 := (x4.trans u5).trans u6
      exact ⟨_, _, ⟨rfl, rfl⟩, hN _ _ ⟨av, kv, nv, _, rfl, tav.st (((u3.trans u4).trans u5).trans u6), tkv, tnv.st (u5.trans u6), st5.trans x6, dk6'⟩⟩
  rintro σ5 H5 ⟨av, kv, nv, u9, rfl, tav, tkv, tnv, st5, dk5⟩
  refine seq_cut (P := fun σ H' => σ = [some (.ref d), some (.ref pa), some (.ref ap), some (.ref ab), some av, some kv, some (.bl od), some (.str wd), some nv, u9, none, none] ∧ wd ≠ "turn" ∧ H' = H5) (fun N hN => ?_) ?_
  · simp only [tRet, tAndV, tOrV, tNotV, tCB, tCons, tNil, tC, tVar, tChain, rI0, tIfS, tTest, tOp, tUn, rU, rI, tPar3, tBM, tBM0, tM1, gSub, tXm, tCon, tProp, tMethR, rEq, rNe, rIxT, rIxL, decide_true, decide_false, tAnd, tOr, tNot, tB, tSeq, tAsg, gName, tDrop, tNext, tTup, tLst, tIf, tDf, tFld, tMf0, tPart, tSl, tNoPart, tPar, gTup, gLst, gCons, gNil, L2.start, List.map_cons, List.map_nil, List.length_cons, List.length_nil, Nat.zero_add, Nat.sub_self, Nat.reduceAdd, Nat.reduceSub, List.replicate_zero, List.replicate_succ, List.append_nil, List.nil_append, List.cons_append, List.getElem?_cons_zero, List.getElem?_cons_succ, List.set_cons_zero, List.set_cons_succ, Option.some.injEq, exists_and_left, exists_eq_left', exists_eq_left, V.int.injEq, V.bl.injEq, V.str.injEq, V.ref.injEq, List.cons.injEq, and_true, true_and, if_true, if_false, Bool.false_eq_true, reduceCtorEq, Bool.not_true, Bool.not_false, cxOf]
    refine ⟨rfl, ?_⟩
    by_cases c : wd = "turn"
    · rw [if_pos (decide_eq_true c)]
      subst c
      simp only [tLstRg, tRg1, tRet, tAndV, tOrV, tNotV, tCB, tCons, tNil, tC, tVar, tChain, rI0, tIfS, tTest, tOp, tUn, rU, rI, tPar3, tBM, tBM0, tM1, gSub, tXm, tCon, tProp, tMethR, rEq, rNe, rIxT, rIxL, decide_true, decide_false, tAnd, tOr, tNot, tB, tSeq, tAsg, gName, tDrop, tNext, tTup, tLst, tIf, tDf, tFld, tMf0, tPart, tSl, tNoPart, tPar, gTup, gLst, gCons, gNil, L2.start, List.map_cons, List.map_nil, List.length_cons, List.length_nil, Nat.zero_add, Nat.sub_self, Nat.reduceAdd, Nat.reduceSub, List.replicate_zero, List.replicate_succ, List.append_nil, List.nil_append, List.cons_append, List.getElem?_cons_zero, List.getElem?_cons_succ, List.set_cons_zero, List.set_cons_succ, Option.some.injEq, exists_and_left, exists_eq_left', exists_eq_left, V.int.injEq, V.bl.injEq, V.str.injEq, V.ref.injEq, List.cons.injEq, and_true, true_and, if_true, if_false, Bool.false_eq_true, reduceCtorEq, Bool.not_true, Bool.not_false, cxOf]
      have hab5 := st5.tp _ _ hab
      refine ⟨_, .inr (SqT.of hab5), RgOk.of_le (by omega) (by first | omega | (simp; omega) | simp) (by first | omega | (simp; omega) | simp) (by first | omega | (simp; omega) | simp), fun ev nev => ?_⟩
      have eb : (ivs g.bx).length = g.bx.length := List.length_map ..
      rw [eb, rgV_ivs]
      have s1 := (St'.refl (M := []) (H := H5)).new (p := ev) (o := .lst (ivs (rgL g.bx.length))) nev
      refine ⟨d, a, b, ev, rgL g.bx.length, rfl, dk5.st s1, upd_same, dk5.nin nev, by simp; omega, fun p ys H6 s6 dk6 np hp' ly my => ?_⟩
      have ly' : ys.length = g.bx.length := by rw [ly]; simp
      have st6 := (st5.trans s1.w0).trans s6
      refine ⟨p, rfl, _, .inl ⟨SqL.of hp', fun l nl => ?_⟩⟩
      have s7 := (St'.refl (M := []) (H := H6)).new (p := l) (o := .tup (ivs ys)) nl
      cases od with
      | true =>
        rw [if_pos rfl]
        refine ⟨d, a, b, l, ys, rfl, dk6.st s7, upd_same, by omega, by omega, fun x hx => by have := rgL_mem (my x hx); omega, fun u H8 s8 dk8 ou => ⟨by decide, fun t nt => ?_⟩⟩
        have s9 := (St'.refl (M := []) (H := H8)).new (p := t) (o := .tup [.str "turn", u]) nt
        obtain ⟨o, ou⟩ := ou
        exact q _ (.turn u o) _ (((st6.trans s7.w0).trans s8).trans s9.w0) (dk8.st s9) ⟨t, rfl, upd_same, ou.st s9⟩
      | false =>
        rw [if_neg (by simp)]
        refine ⟨by decide, fun t nt => ?_⟩
        have s9 := (St'.refl (M := []) (H := upd H6 l (.tup (ivs ys)))).new (p := t) (o := .tup [.str "turn", .ref l]) nt
        exact q _ (.turn (.ref l) (some (ivs ys))) _ ((st6.trans s7.w0).trans s9.w0) ((dk6.st s7).st s9) ⟨t, rfl, upd_same, .tup (s9.tp _ _ upd_same) tyv_ivs (by simp; omega)⟩
    · rw [if_neg (by simpa using c)]
      exact hN _ _ ⟨rfl, c, rfl⟩
  rintro σ6 H6 ⟨rfl, nt, rfl⟩
  refine seq_cut (P := fun σ H' => ∃ nv, σ = [some (.ref d), some (.ref pa), some (.ref ap), some (.ref ab), some av, some kv, some (.bl od), some (.str wd), some nv, u9, none, none] ∧ TyV H' nv ∧ St' [d, a] H6 H' ∧ Dk H' d a b) (fun N hN => ?_) ?_
  · simp only [tRet, tAndV, tOrV, tNotV, tCB, tCons, tNil, tC, tVar, tChain, rI0, tIfS, tTest, tOp, tUn, rU, rI, tPar3, tBM, tBM0, tM1, gSub, tXm, tCon, tProp, tMethR, rEq, rNe, rIxT, rIxL, decide_true, decide_false, tAnd, tOr, tNot, tB, tSeq, tAsg, gName, tDrop, tNext, tTup, tLst, tIf, tDf, tFld, tMf0, tPart, tSl, tNoPart, tPar, gTup, gLst, gCons, gNil, L2.start, List.map_cons, List.map_nil, List.length_cons, List.length_nil, Nat.zero_add, Nat.sub_self, Nat.reduceAdd, Nat.reduceSub, List.replicate_zero, List.replicate_succ, List.append_nil, List.nil_append, List.cons_append, List.getElem?_cons_zero, List.getElem?_cons_succ, List.set_cons_zero, List.set_cons_succ, Option.some.injEq, exists_and_left, exists_eq_left', exists_eq_left, V.int.injEq, V.bl.injEq, V.str.injEq, V.ref.injEq, List.cons.injEq, and_true, true_and, if_true, if_false, Bool.false_eq_true, reduceCtorEq, Bool.not_true, Bool.not_false, cxOf]
    refine ⟨rfl, ?_⟩
    have same := hN _ _ ⟨nv, rfl, tnv, .refl, dk5⟩
    by_cases c : wd = "stretch"
    · rw [if_pos (decide_eq_true c)]
      cases od with
      | true =>
        rw [if_neg (by simp)]
        exact same
      | false =>
        rw [if_pos (by simp)]
        exact ⟨d, a, b, 3, rfl, dk5, by decide, by decide, fun r H7 _ _ s7 dk7 => ⟨_, rfl, hN _ _ ⟨_, rfl, .int _, s7, dk7⟩⟩⟩
    · rw [if_neg (by simpa using c)]
      exact same
  rintro σ7 H7 ⟨nv, rfl, tnv, st7, dk7⟩
  simp only [tRet, tAndV, tOrV, tNotV, tCB, tCons, tNil, tC, tVar, tChain, rI0, tIfS, tTest, tOp, tUn, rU, rI, tPar3, tBM, tBM0, tM1, gSub, tXm, tCon, tProp, tMethR, rEq, rNe, rIxT, rIxL, decide_true, decide_false, tAnd, tOr, tNot, tB, tSeq, tAsg, gName, tDrop, tNext, tTup, tLst, tIf, tDf, tFld, tMf0, tPart, tSl, tNoPart, tPar, gTup, gLst, gCons, gNil, L2.start, List.map_cons, List.map_nil, List.length_cons, List.length_nil, Nat.zero_add, Nat.sub_self, Nat.reduceAdd, Nat.reduceSub, List.replicate_zero, List.replicate_succ, List.append_nil, List.nil_append, List.cons_append, List.getElem?_cons_zero, List.getElem?_cons_succ, List.set_cons_zero, List.set_cons_succ, Option.some.injEq, exists_and_left, exists_eq_left', exists_eq_left, V.int.injEq, V.bl.injEq, V.str.injEq, V.ref.injEq, List.cons.injEq, and_true, true_and, if_true, if_false, Bool.false_eq_true, reduceCtorEq, Bool.not_true, Bool.not_false, cxOf]
  intro dp ndp
  have sp := (St'.refl (M := []) (H := H7)).new (p := dp) (o := .dK []) ndp
  have kp0 : upd H7 dp (.dK []) dp = some (.dK []) := upd_same
  have dkp := dk7.st sp
  have stp := st7.trans sp.w0
  have tav7 := (tav.st st7).st sp
  have tkv7 := (tkv.st st7).st sp
  have tnv7 := tnv.st sp
  generalize upd H7 dp (.dK []) = I0 at *
  simp only [tPairs, tRet, tAndV, tOrV, tNotV, tCB, tCons, tNil, tC, tVar, tChain, rI0, tIfS, tTest, tOp, tUn, rU, rI, tPar3, tBM, tBM0, tM1, gSub, tXm, tCon, tProp, tMethR, rEq, rNe, rIxT, rIxL, decide_true, decide_false, tAnd, tOr, tNot, tB, tSeq, tAsg, gName, tDrop, tNext, tTup, tLst, tIf, tDf, tFld, tMf0, tPart, tSl, tNoPart, tPar, gTup, gLst, gCons, gNil, L2.start, List.map_cons, List.map_nil, List.length_cons, List.length_nil, Nat.zero_add, Nat.sub_self, Nat.reduceAdd, Nat.reduceSub, List.replicate_zero, List.replicate_succ, List.append_nil, List.nil_append, List.cons_append, List.getElem?_cons_zero, List.getElem?_cons_succ, List.set_cons_zero, List.set_cons_succ, Option.some.injEq, exists_and_left, exists_eq_left', exists_eq_left, V.int.injEq, V.bl.injEq, V.str.injEq, V.ref.injEq, List.cons.injEq, and_true, true_and, if_true, if_false, Bool.false_eq_true, reduceCtorEq, Bool.not_true, Bool.not_false, cxOf]
  refine ⟨by decide, fun t1 n1 => ⟨by decide, fun t2 n2 => ⟨by decide, fun t3 n3 => ⟨by decide, fun t4 n4 => ?_⟩⟩⟩⟩
  have s1 := (St'.refl (M := []) (H := I0)).new (p := t1) (o := .tup [.str wd, av, nv]) n1
  have s2 := (St'.refl (M := []) (H := upd I0 t1 (.tup [.str wd, av, nv]))).new (p := t2) (o := .tup [.str wd, kv, av, nv]) n2
  have k1 := s2.tp t1 [.str wd, av, nv] upd_same
  have s12 := s1.trans s2
  have k2 : upd (upd I0 t1 (.tup [.str wd, av, nv])) t2 (.tup [.str wd, kv, av, nv]) t2 = some (.tup [.str wd, kv, av, nv]) := upd_same
  generalize upd (upd I0 t1 (.tup [.str wd, av, nv])) t2 (.tup [.str wd, kv, av, nv]) = I2 at *
  have s3 := (St'.refl (M := []) (H := I2)).new (p := t3) (o := .tup [.str wd]) n3
  have s4 := (St'.refl (M := []) (H := upd I2 t3 (.tup [.str wd]))).new (p := t4) (o := .tup [.str wd, nv]) n4
  have k3 := s4.tp t3 [.str wd] upd_same
  have s34 := s3.trans s4
  have k4 : upd (upd I2 t3 (.tup [.str wd])) t4 (.tup [.str wd, nv]) t4 = some (.tup [.str wd, nv]) := upd_same
  generalize upd (upd I2 t3 (.tup [.str wd])) t4 (.tup [.str wd, nv]) = I4 at *
  have s14 := s12.trans s34
  have kp4 := s14.kp _ _ kp0 (by simp)
  refine ⟨kp4, [(Sum.inr "side", .ref t1), (Sum.inr "brick", .ref t2), (Sum.inr "swap", .ref t3), (Sum.inr "more", .ref t4)], rfl, by simp, ?_⟩
  have sAll := (sp.trans s14).own (p := dp) (o := .dK (mergeK [] [(Sum.inr "side", .ref t1), (Sum.inr "brick", .ref t2), (Sum.inr "swap", .ref t3), (Sum.inr "more", .ref t4)])) ndp
  have dkA := dk7.st sAll
  have kd : upd I4 dp (.dK (mergeK [] [(Sum.inr "side", .ref t1), (Sum.inr "brick", .ref t2), (Sum.inr "swap", .ref t3), (Sum.inr "more", .ref t4)])) dp = some (.dK (mergeK [] [(Sum.inr "side", .ref t1), (Sum.inr "brick", .ref t2), (Sum.inr "swap", .ref t3), (Sum.inr "more", .ref t4)])) := upd_same
  have ne : ∀ t xs, I4 t = some (.tup xs) → upd I4 dp (.dK (mergeK [] [(Sum.inr "side", .ref t1), (Sum.inr "brick", .ref t2), (Sum.inr "swap", .ref t3), (Sum.inr "more", .ref t4)])) t = some (.tup xs) := fun t xs h => by
    rw [upd_ne fun z => by rw [z, kp4] at h; cases h]
    exact h
  have j1 := ne _ _ (s34.tp _ _ k1)
  have j2 := ne _ _ (s34.tp _ _ k2)
  have j3 := ne _ _ k3
  have j4 := ne _ _ k4
  have tavA := (tav.st st7).st sAll
  have tkvA := (tkv.st st7).st sAll
  have tnvA := tnv.st sAll
  have stA := (st5.trans st7).trans sAll.w0
  generalize upd I4 dp (.dK (mergeK [] [(Sum.inr "side", .ref t1), (Sum.inr "brick", .ref t2), (Sum.inr "swap", .ref t3), (Sum.inr "more", .ref t4)])) = IA at *
  simp only [tDGet2, tRet, tAndV, tOrV, tNotV, tCB, tCons, tNil, tC, tVar, tChain, rI0, tIfS, tTest, tOp, tUn, rU, rI, tPar3, tBM, tBM0, tM1, gSub, tXm, tCon, tProp, tMethR, rEq, rNe, rIxT, rIxL, decide_true, decide_false, tAnd, tOr, tNot, tB, tSeq, tAsg, gName, tDrop, tNext, tTup, tLst, tIf, tDf, tFld, tMf0, tPart, tSl, tNoPart, tPar, gTup, gLst, gCons, gNil, L2.start, List.map_cons, List.map_nil, List.length_cons, List.length_nil, Nat.zero_add, Nat.sub_self, Nat.reduceAdd, Nat.reduceSub, List.replicate_zero, List.replicate_succ, List.append_nil, List.nil_append, List.cons_append, List.getElem?_cons_zero, List.getElem?_cons_succ, List.set_cons_zero, List.set_cons_succ, Option.some.injEq, exists_and_left, exists_eq_left', exists_eq_left, V.int.injEq, V.bl.injEq, V.str.injEq, V.ref.injEq, List.cons.injEq, and_true, true_and, if_true, if_false, Bool.false_eq_true, reduceCtorEq, Bool.not_true, Bool.not_false, cxOf]
  refine ⟨.inl ⟨_, .inl kd⟩, by decide, fun t5 n5 => ⟨_, DGet.k (k := Sum.inr wd) ((St'.refl (M := []) (H := IA)).new n5 |>.kp _ _ kd (by simp)), ?_⟩⟩
  have s5 := (St'.refl (M := []) (H := IA)).new (p := t5) (o := .tup [.str wd, av, nv]) n5
  have stB := stA.trans s5.w0
  have dkB := dkA.st s5
  have j5 : upd IA t5 (.tup [.str wd, av, nv]) t5 = some (.tup [.str wd, av, nv]) := upd_same
  have z1 := tavA.st s5
  have z2 := tkvA.st s5
  have z3 := tnvA.st s5
  have i1 := s5.tp _ _ j1
  have i2 := s5.tp _ _ j2
  have i3 := s5.tp _ _ j3
  have i4 := s5.tp _ _ j4
  generalize upd IA t5 (.tup [.str wd, av, nv]) = IB at *
  rcases hw with rfl | rfl | rfl | rfl | rfl | rfl
  · exact q (.ref t1) (.side av nv) IB stB dkB ⟨t1, rfl, i1, z1, z3⟩
  · exact q (.ref t2) (.brick kv av nv) IB stB dkB ⟨t2, rfl, i2, z2, z1, z3⟩
  · exact q (.ref t3) .swap IB stB dkB ⟨t3, rfl, i3, trivial⟩
  · exact absurd rfl nt
  · exact q (.ref t5) (.stretch av nv) IB stB dkB ⟨t5, rfl, j5, z1, z3⟩
  · exact q (.ref t4) (.more nv) IB stB dkB ⟨t4, rfl, i4, z3⟩
theorem sc_law_small_edit : FnScope ["_law_deck_here", "_law_page", "_law_edit_here", "_law_after"] ["_law_deck_here", "_law_page"] (defScope s_law_small_edit) := ⟨rfl, rfl, rfl, by decide +kernel, rfl, by decide +kernel, by decide +kernel⟩
def spSmallE : Sp := fun vs H Q _ => ∃ (d a b : Addr) (p : V) (g : Pg), vs = [.ref d, p] ∧ Dk H d a b ∧ PgAt H p g ∧ g.Ok 3000 ∧ ∀ v e H', St' [d, a] H H' → Dk H' d a b → EdAt H' v e → (∀ g', e.out g = .ok g' → g'.Ok 3000) → Q v H'
theorem ok_law_small_edit (T : Tx w K mg) (D__law_edit : Df R.prog w K mg base CX0 6 "_law_edit" spEditL) (D__law_page_after : Df R.prog w K mg base CX0 3 "_law_page_after" spAfter) (D__law_is_small : Df R.prog w K mg base CX0 1 "_law_is_small" spSmall) : Df R.prog w K mg base CX0 7 "_law_small_edit" spSmallE := by
  refine df_of T.d_law_small_edit T.g_law_small_edit sc_law_small_edit (fun _ _ _ _ _ _ us hl => match us, hl with | [_, _], _ => rfl)
    (fun vs H Q E h => by repeat (first | (obtain ⟨rfl, _⟩ := h; rfl) | (obtain ⟨_, h⟩ := h))) (fun cdv A outer s H vs Q E hr h => ?_)
  have nd := sc_law_small_edit.nd
  refine ⟨_, (pss_cons (ps_set (i := 2) nd rfl (by first | exact Or.inl rfl | exact Or.inr rfl) (pe_df D__law_edit hr (by decide) pass0 (pa_cons (pv 0) (pa_cons (pv 1) pa_nil))))
          (pss_cons (ps_set (i := 3) nd rfl (by first | exact Or.inl rfl | exact Or.inr rfl) (pe_df D__law_page_after hr (by decide) pass0 (pa_cons (pv 1) (pa_cons (pv 2) pa_nil))))
          (pss_one (ps_ret (pe_ifExp (PW.pt (pw_or (pt_val (pe_callB call_isi rfl T.n_isinstance (by decide +kernel) (pa_cons (pv 3) (pa_cons (pe_bltn (v := .ty "list") rfl T.n_list (by decide +kernel) rfl) pa_nil)))) (pw_or1 (pt_val (pe_df D__law_is_small hr (by decide) pass0 (pa_cons (pv 3) pa_nil)))))) (pv 2) (pe_tup (pa_cons pe_str pa_nil))))))), ?_⟩
  obtain ⟨d, a, b, p, g, rfl, dk, hp, ok, q⟩ := h
  simp only [tRet, tAndV, tOrV, tNotV, tCB, tCons, tNil, tC, tVar, tChain, rI0, tIfS, tTest, tOp, tUn, rU, rI, tPar3, tBM, tBM0, tM1, gSub, tXm, tCon, tProp, tMethR, rEq, rNe, rIxT, rIxL, decide_true, decide_false, tAnd, tOr, tNot, tB, tSeq, tAsg, gName, tDrop, tNext, tTup, tLst, tIf, tDf, tFld, tMf0, tPart, tSl, tNoPart, tPar, gTup, gLst, gCons, gNil, L2.start, List.map_cons, List.map_nil, List.length_cons, List.length_nil, Nat.zero_add, Nat.sub_self, Nat.reduceAdd, Nat.reduceSub, List.replicate_zero, List.replicate_succ, List.append_nil, List.nil_append, List.cons_append, List.getElem?_cons_zero, List.getElem?_cons_succ, List.set_cons_zero, List.set_cons_succ, Option.some.injEq, exists_and_left, exists_eq_left', exists_eq_left, V.int.injEq, V.bl.injEq, V.str.injEq, V.ref.injEq, List.cons.injEq, and_true, true_and, if_true, if_false, Bool.false_eq_true, reduceCtorEq, Bool.not_true, Bool.not_false, cxOf]
  refine ⟨d, a, b, p, g, rfl, dk, hp, ok.mono (by decide), fun v e H1 s1 dk1 he => ⟨p, v, g, e, rfl, hp.st s1, ok.mono (by decide), he, fun v2 H2 s2 r2 => ?_⟩⟩
  have he2 := he.st s2
  have dk2 := dk1.st s2
  have st2 := s1.trans s2.w0
  cases c : e.out g with
  | bad x fl u =>
    rw [c] at r2
    obtain ⟨l, rfl, hl⟩ := r2
    refine isi_list (.lst hl) ?_
    rw [isLs_t hl]
    refine ⟨true, rfl, ?_⟩
    rw [if_pos rfl]
    exact q v e H2 st2 dk2 he2 fun g' h => by rw [c] at h; cases h
  | ok g' =>
    rw [c] at r2
    have ok' := Ed.out_ok (ok.mono (by decide)) c
    obtain ⟨pa, ap, ab, rfl, hpa, hap, hab⟩ := id r2
    refine isi_list (.tup hpa) ?_
    rw [isLs_fT hpa]
    refine ⟨false, rfl, ?_⟩
    rw [if_neg (by simp)]
    refine ⟨_, g', rfl, r2, ok', fun sm H3 hs s3 => ⟨sm, rfl, ?_⟩⟩
    cases sm with
    | true =>
      rw [if_pos rfl]
      exact q v e H3 (st2.trans s3.w0) (dk2.st s3) (he2.st s3) fun g2 h => by rw [c] at h; cases h; exact hs rfl
    | false =>
      rw [if_neg (by simp)]
      refine ⟨by decide, fun t nt => ?_⟩
      have s4 := (St'.refl (M := []) (H := H3)).new (p := t) (o := .tup [.str "swap"]) nt
      refine q _ .swap _ ((st2.trans s3.w0).trans s4.w0) ((dk2.st s3).st s4) ⟨t, rfl, upd_same, trivial⟩ fun g2 h => ?_
      have h : swapP g = .ok g2 := h
      unfold swapP at h
      cases h
      exact ⟨⟨ok.o3.s1, ok.o3.s0, ok.o3.sb, ok.o3.l1.symm, by rw [ok.o3.lb, ok.o3.l1]⟩⟩
end
end Yk
set_option Elab.async false
set_option linter.all false
set_option maxRecDepth 100000
set_option maxHeartbeats 4000000
/-! the law: do, due -/
namespace Yk
open PySem PySem.Spec PyProof.Rows L2
section
variable {w : World} {K : KF} {mg : Str → Option Value} {base : Heap}
theorem sc_law_do : FnScope ["_law_yard", "_law_edit_here", "_law_word", "_law_held"] ["_law_yard", "_law_edit_here"] (defScope s_law_do) := ⟨rfl, rfl, rfl, by decide +kernel, rfl, by decide +kernel, by decide +kernel⟩
def spDoL (K : KF) : Sp := fun vs H Q E => ∃ (y : Addr) (v : V) (wd : Str) (gs : List Pg) (g : Pg) (e : Ed), vs = [.ref y, v] ∧ EdAt H v e ∧ EdIn K H y wd gs g e ∧ EdFin K H y gs g e Q E
theorem ok_law_do (T : Tx w K mg) (D_side : Mf R.prog w K mg base (L2.CX R.prog w) 11 (Y K) "side" (spSide K)) (D_brick : Mf R.prog w K mg base (L2.CX R.prog w) 11 (Y K) "brick" (spBrick K)) (D_swap : Mf R.prog w K mg base (L2.CX R.prog w) 11 (Y K) "swap" (spSwap K)) (D_turn : Mf R.prog w K mg base (L2.CX R.prog w) 11 (Y K) "turn" (spTurn K)) (D_stretch : Mf R.prog w K mg base (L2.CX R.prog w) 11 (Y K) "stretch" (spStretch K)) (D_iadd : Mf R.prog w K mg base (L2.CX R.prog w) 11 (Y K) "__iadd__" (spIadd K))
    (D_version : Pf R.prog w K mg base 1 (Y K) "version" (spVersion (Y K) "yard")) : DfX w K mg base 12 "_law_do" (spDoL K) := by
  have cY := T.cls_Y
  refine df_of T.d_law_do T.g_law_do sc_law_do (fun _ _ _ _ _ _ us hl => match us, hl with | [_, _], _ => rfl)
    (fun vs H Q E h => by repeat (first | (obtain ⟨rfl, _⟩ := h; rfl) | (obtain ⟨_, h⟩ := h))) (fun cdv A outer s H vs Q E hr h => ?_)
  have nd := sc_law_do.nd
  refine ⟨_, (pss_cons (ps_set (i := 2) nd rfl (by first | exact Or.inl rfl | exact Or.inr rfl) (pe_ix ix_tup (pv 1) pe_int (fun _ _ => rfl)))
          (pss_cons (ps_if (pt_cmpR op_eq (pv 2) pe_str (nomark _)) (pss_one (ps_ret (pe_mf (pv 0) cY D_side hr (by decide) (passes_call (takes_of rfl rfl rfl rfl) (fun _ _ _ _ h => h)) (pa_cons (pe_ix ix_tup (pv 1) pe_int (fun _ _ => rfl)) (pa_cons (pe_ix ix_tup (pv 1) pe_int (fun _ _ => rfl)) pa_nil))))) pss_nil)
          (pss_cons (ps_if (pt_cmpR op_eq (pv 2) pe_str (nomark _)) (pss_one (ps_ret (pe_mf (pv 0) cY D_brick hr (by decide) (passes_call (takes_of rfl rfl rfl rfl) (fun _ _ _ _ h => h)) (pa_cons (pe_ix ix_tup (pv 1) pe_int (fun _ _ => rfl)) (pa_cons (pe_ix ix_tup (pv 1) pe_int (fun _ _ => rfl)) (pa_cons (pe_ix ix_tup (pv 1) pe_int (fun _ _ => rfl)) pa_nil)))))) pss_nil)
          (pss_cons (ps_if (pt_cmpR op_eq (pv 2) pe_str (nomark _)) (pss_one (ps_ret (pe_mf0 (pv 0) cY D_swap hr (by decide) (passes_call (takes_of rfl rfl rfl rfl) (fun _ _ _ _ h => h))))) pss_nil)
          (pss_cons (ps_if (pt_cmpR op_eq (pv 2) pe_str (nomark _)) (pss_one (ps_ret (pe_mf (pv 0) cY D_turn hr (by decide) (passes_call (takes_of rfl rfl rfl rfl) (fun _ _ _ _ h => h)) (pa_cons (pe_ix ix_tup (pv 1) pe_int (fun _ _ => rfl)) pa_nil)))) pss_nil)
          (pss_cons (ps_if (pt_cmpR op_eq (pv 2) pe_str (nomark _)) (pss_one (ps_ret (pe_mf (pv 0) cY D_stretch hr (by decide) (passes_call (takes_of rfl rfl rfl rfl) (fun _ _ _ _ h => h)) (pa_cons (pe_ix ix_tup (pv 1) pe_int (fun _ _ => rfl)) (pa_cons (pe_ix ix_tup (pv 1) pe_int (fun _ _ => rfl)) pa_nil))))) pss_nil)
          (pss_cons (ps_set (i := 3) nd rfl (by first | exact Or.inl rfl | exact Or.inr rfl) (pv 0))
          (pss_cons (ps_aug (i := 3) nd rfl (Or.inl rfl) (pe_ix ix_tup (pv 1) pe_int (fun _ _ => rfl)) (ip_own D_iadd T.sf_Y (hr.mono (by decide)) (passes_call (takes_of rfl rfl rfl rfl) (fun _ _ _ _ h => h))))
          (pss_one (ps_ret (pe_pf (pv 3) cY D_version hr (by decide)))))))))))), ?_⟩
  obtain ⟨y, v, wd, gs, g, e, rfl, ⟨a, rfl, ha, ty⟩, hin, q⟩ := h
  obtain ⟨dx, ap, al, g', hyi, _⟩ := id hin.at_
  cases e with
  | side x n =>
    have ha' : H a = some (.tup [.str "side", x, n]) := ha
    simp only [tRet, tAndV, tOrV, tNotV, tCB, tCons, tNil, tC, tVar, tChain, rI0, tIfS, tTest, tOp, tUn, rU, rI, tPar3, tBM, tBM0, tM1, gSub, tXm, tCon, tProp, tMethR, rEq, rNe, rIxT, rIxL, decide_true, decide_false, tAnd, tOr, tNot, tB, tSeq, tAsg, gName, tDrop, tNext, tTup, tLst, tIf, tDf, tFld, tMf0, tPart, tSl, tNoPart, tPar, gTup, gLst, gCons, gNil, L2.start, List.map_cons, List.map_nil, List.length_cons, List.length_nil, Nat.zero_add, Nat.sub_self, Nat.reduceAdd, Nat.reduceSub, List.replicate_zero, List.replicate_succ, List.append_nil, List.nil_append, List.cons_append, List.getElem?_cons_zero, List.getElem?_cons_succ, List.set_cons_zero, List.set_cons_succ, Option.some.injEq, exists_and_left, exists_eq_left', exists_eq_left, V.int.injEq, V.bl.injEq, V.str.injEq, V.ref.injEq, List.cons.injEq, and_true, true_and, if_true, if_false, Bool.false_eq_true, reduceCtorEq, Bool.not_true, Bool.not_false, cxOf]
    repeat (first | (refine ⟨_, SqT.of (by first | assumption | exact St'.tp (H := H) (by assumption) _ _ (by assumption)), ?_⟩) | (refine ⟨_, .inr (SqT.of (by first | assumption | exact St'.tp (H := H) (by assumption) _ _ (by assumption))), ?_⟩) | (refine ⟨_, rfl, ?_⟩) | (refine ⟨_, atIv (by assumption), ?_⟩) | (refine ⟨_, _, ⟨rfl, rfl⟩, ?_⟩) | (refine ⟨rfl, ?_⟩) | simp only [tRet, tAndV, tOrV, tNotV, tCB, tCons, tNil, tC, tVar, tChain, rI0, tIfS, tTest, tOp, tUn, rU, rI, tPar3, tBM, tBM0, tM1, gSub, tXm, tCon, tProp, tMethR, rEq, rNe, rIxT, rIxL, decide_true, decide_false, tAnd, tOr, tNot, tB, tSeq, tAsg, gName, tDrop, tNext, tTup, tLst, tIf, tDf, tFld, tMf0, tPart, tSl, tNoPart, tPar, gTup, gLst, gCons, gNil, L2.start, List.map_cons, List.map_nil, List.length_cons, List.length_nil, Nat.zero_add, Nat.sub_self, Nat.reduceAdd, Nat.reduceSub, List.replicate_zero, List.replicate_succ, List.append_nil, List.nil_append, List.cons_append, List.getElem?_cons_zero, List.getElem?_cons_succ, List.set_cons_zero, List.set_cons_succ, Option.some.injEq, exists_and_left, exists_eq_left', exists_eq_left, V.int.injEq, V.bl.injEq, V.str.injEq, V.ref.injEq, List.cons.injEq, and_true, true_and, if_true, if_false, Bool.false_eq_true, reduceCtorEq, Bool.not_true, Bool.not_false, cxOf])
    exact ⟨_, _, hyi, rfl, _, SqT.of ha', _, rfl, _, SqT.of ha', _, rfl, y, wd, gs, g, _, _, rfl, hin, q⟩
  | brick k x n =>
    have ha' : H a = some (.tup [.str "brick", k, x, n]) := ha
    simp only [tRet, tAndV, tOrV, tNotV, tCB, tCons, tNil, tC, tVar, tChain, rI0, tIfS, tTest, tOp, tUn, rU, rI, tPar3, tBM, tBM0, tM1, gSub, tXm, tCon, tProp, tMethR, rEq, rNe, rIxT, rIxL, decide_true, decide_false, tAnd, tOr, tNot, tB, tSeq, tAsg, gName, tDrop, tNext, tTup, tLst, tIf, tDf, tFld, tMf0, tPart, tSl, tNoPart, tPar, gTup, gLst, gCons, gNil, L2.start, List.map_cons, List.map_nil, List.length_cons, List.length_nil, Nat.zero_add, Nat.sub_self, Nat.reduceAdd, Nat.reduceSub, List.replicate_zero, List.replicate_succ, List.append_nil, List.nil_append, List.cons_append, List.getElem?_cons_zero, List.getElem?_cons_succ, List.set_cons_zero, List.set_cons_succ, Option.some.injEq, exists_and_left, exists_eq_left', exists_eq_left, V.int.injEq, V.bl.injEq, V.str.injEq, V.ref.injEq, List.cons.injEq, and_true, true_and, if_true, if_false, Bool.false_eq_true, reduceCtorEq, Bool.not_true, Bool.not_false, cxOf]
    repeat (first | (refine ⟨_, SqT.of (by first | assumption | exact St'.tp (H := H) (by assumption) _ _ (by assumption)), ?_⟩) | (refine ⟨_, .inr (SqT.of (by first | assumption | exact St'.tp (H := H) (by assumption) _ _ (by assumption))), ?_⟩) | (refine ⟨_, rfl, ?_⟩) | (refine ⟨_, atIv (by assumption), ?_⟩) | (refine ⟨_, _, ⟨rfl, rfl⟩, ?_⟩) | (refine ⟨rfl, ?_⟩) | simp only [tRet, tAndV, tOrV, tNotV, tCB, tCons, tNil, tC, tVar, tChain, rI0, tIfS, tTest, tOp, tUn, rU, rI, tPar3, tBM, tBM0, tM1, gSub, tXm, tCon, tProp, tMethR, rEq, rNe, rIxT, rIxL, decide_true, decide_false, tAnd, tOr, tNot, tB, tSeq, tAsg, gName, tDrop, tNext, tTup, tLst, tIf, tDf, tFld, tMf0, tPart, tSl, tNoPart, tPar, gTup, gLst, gCons, gNil, L2.start, List.map_cons, List.map_nil, List.length_cons, List.length_nil, Nat.zero_add, Nat.sub_self, Nat.reduceAdd, Nat.reduceSub, List.replicate_zero, List.replicate_succ, List.append_nil, List.nil_append, List.cons_append, List.getElem?_cons_zero, List.getElem?_cons_succ, List.set_cons_zero, List.set_cons_succ, Option.some.injEq, exists_and_left, exists_eq_left', exists_eq_left, V.int.injEq, V.bl.injEq, V.str.injEq, V.ref.injEq, List.cons.injEq, and_true, true_and, if_true, if_false, Bool.false_eq_true, reduceCtorEq, Bool.not_true, Bool.not_false, cxOf])
    exact ⟨_, _, hyi, rfl, _, SqT.of ha', _, rfl, _, SqT.of ha', _, rfl, _, SqT.of ha', _, rfl, y, wd, gs, g, _, _, _, rfl, hin, q⟩
  | swap =>
    have ha' : H a = some (.tup [.str "swap"]) := ha
    simp only [tRet, tAndV, tOrV, tNotV, tCB, tCons, tNil, tC, tVar, tChain, rI0, tIfS, tTest, tOp, tUn, rU, rI, tPar3, tBM, tBM0, tM1, gSub, tXm, tCon, tProp, tMethR, rEq, rNe, rIxT, rIxL, decide_true, decide_false, tAnd, tOr, tNot, tB, tSeq, tAsg, gName, tDrop, tNext, tTup, tLst, tIf, tDf, tFld, tMf0, tPart, tSl, tNoPart, tPar, gTup, gLst, gCons, gNil, L2.start, List.map_cons, List.map_nil, List.length_cons, List.length_nil, Nat.zero_add, Nat.sub_self, Nat.reduceAdd, Nat.reduceSub, List.replicate_zero, List.replicate_succ, List.append_nil, List.nil_append, List.cons_append, List.getElem?_cons_zero, List.getElem?_cons_succ, List.set_cons_zero, List.set_cons_succ, Option.some.injEq, exists_and_left, exists_eq_left', exists_eq_left, V.int.injEq, V.bl.injEq, V.str.injEq, V.ref.injEq, List.cons.injEq, and_true, true_and, if_true, if_false, Bool.false_eq_true, reduceCtorEq, Bool.not_true, Bool.not_false, cxOf]
    repeat (first | (refine ⟨_, SqT.of (by first | assumption | exact St'.tp (H := H) (by assumption) _ _ (by assumption)), ?_⟩) | (refine ⟨_, .inr (SqT.of (by first | assumption | exact St'.tp (H := H) (by assumption) _ _ (by assumption))), ?_⟩) | (refine ⟨_, rfl, ?_⟩) | (refine ⟨_, atIv (by assumption), ?_⟩) | (refine ⟨_, _, ⟨rfl, rfl⟩, ?_⟩) | (refine ⟨rfl, ?_⟩) | simp only [tRet, tAndV, tOrV, tNotV, tCB, tCons, tNil, tC, tVar, tChain, rI0, tIfS, tTest, tOp, tUn, rU, rI, tPar3, tBM, tBM0, tM1, gSub, tXm, tCon, tProp, tMethR, rEq, rNe, rIxT, rIxL, decide_true, decide_false, tAnd, tOr, tNot, tB, tSeq, tAsg, gName, tDrop, tNext, tTup, tLst, tIf, tDf, tFld, tMf0, tPart, tSl, tNoPart, tPar, gTup, gLst, gCons, gNil, L2.start, List.map_cons, List.map_nil, List.length_cons, List.length_nil, Nat.zero_add, Nat.sub_self, Nat.reduceAdd, Nat.reduceSub, List.replicate_zero, List.replicate_succ, List.append_nil, List.nil_append, List.cons_append, List.getElem?_cons_zero, List.getElem?_cons_succ, List.set_cons_zero, List.set_cons_succ, Option.some.injEq, exists_and_left, exists_eq_left', exists_eq_left, V.int.injEq, V.bl.injEq, V.str.injEq, V.ref.injEq, List.cons.injEq, and_true, true_and, if_true, if_false, Bool.false_eq_true, reduceCtorEq, Bool.not_true, Bool.not_false, cxOf])
    exact ⟨_, _, hyi, rfl, y, wd, gs, g, rfl, hin, q⟩
  | turn u o =>
    have ha' : H a = some (.tup [.str "turn", u]) := ha
    simp only [tRet, tAndV, tOrV, tNotV, tCB, tCons, tNil, tC, tVar, tChain, rI0, tIfS, tTest, tOp, tUn, rU, rI, tPar3, tBM, tBM0, tM1, gSub, tXm, tCon, tProp, tMethR, rEq, rNe, rIxT, rIxL, decide_true, decide_false, tAnd, tOr, tNot, tB, tSeq, tAsg, gName, tDrop, tNext, tTup, tLst, tIf, tDf, tFld, tMf0, tPart, tSl, tNoPart, tPar, gTup, gLst, gCons, gNil, L2.start, List.map_cons, List.map_nil, List.length_cons, List.length_nil, Nat.zero_add, Nat.sub_self, Nat.reduceAdd, Nat.reduceSub, List.replicate_zero, List.replicate_succ, List.append_nil, List.nil_append, List.cons_append, List.getElem?_cons_zero, List.getElem?_cons_succ, List.set_cons_zero, List.set_cons_succ, Option.some.injEq, exists_and_left, exists_eq_left', exists_eq_left, V.int.injEq, V.bl.injEq, V.str.injEq, V.ref.injEq, List.cons.injEq, and_true, true_and, if_true, if_false, Bool.false_eq_true, reduceCtorEq, Bool.not_true, Bool.not_false, cxOf]
    repeat (first | (refine ⟨_, SqT.of (by first | assumption | exact St'.tp (H := H) (by assumption) _ _ (by assumption)), ?_⟩) | (refine ⟨_, .inr (SqT.of (by first | assumption | exact St'.tp (H := H) (by assumption) _ _ (by assumption))), ?_⟩) | (refine ⟨_, rfl, ?_⟩) | (refine ⟨_, atIv (by assumption), ?_⟩) | (refine ⟨_, _, ⟨rfl, rfl⟩, ?_⟩) | (refine ⟨rfl, ?_⟩) | simp only [tRet, tAndV, tOrV, tNotV, tCB, tCons, tNil, tC, tVar, tChain, rI0, tIfS, tTest, tOp, tUn, rU, rI, tPar3, tBM, tBM0, tM1, gSub, tXm, tCon, tProp, tMethR, rEq, rNe, rIxT, rIxL, decide_true, decide_false, tAnd, tOr, tNot, tB, tSeq, tAsg, gName, tDrop, tNext, tTup, tLst, tIf, tDf, tFld, tMf0, tPart, tSl, tNoPart, tPar, gTup, gLst, gCons, gNil, L2.start, List.map_cons, List.map_nil, List.length_cons, List.length_nil, Nat.zero_add, Nat.sub_self, Nat.reduceAdd, Nat.reduceSub, List.replicate_zero, List.replicate_succ, List.append_nil, List.nil_append, List.cons_append, List.getElem?_cons_zero, List.getElem?_cons_succ, List.set_cons_zero, List.set_cons_succ, Option.some.injEq, exists_and_left, exists_eq_left', exists_eq_left, V.int.injEq, V.bl.injEq, V.str.injEq, V.ref.injEq, List.cons.injEq, and_true, true_and, if_true, if_false, Bool.false_eq_true, reduceCtorEq, Bool.not_true, Bool.not_false, cxOf])
    exact ⟨_, _, hyi, rfl, _, SqT.of ha', _, rfl, y, wd, gs, g, _, _, rfl, hin, q⟩
  | stretch x n =>
    have ha' : H a = some (.tup [.str "stretch", x, n]) := ha
    simp only [tRet, tAndV, tOrV, tNotV, tCB, tCons, tNil, tC, tVar, tChain, rI0, tIfS, tTest, tOp, tUn, rU, rI, tPar3, tBM, tBM0, tM1, gSub, tXm, tCon, tProp, tMethR, rEq, rNe, rIxT, rIxL, decide_true, decide_false, tAnd, tOr, tNot, tB, tSeq, tAsg, gName, tDrop, tNext, tTup, tLst, tIf, tDf, tFld, tMf0, tPart, tSl, tNoPart, tPar, gTup, gLst, gCons, gNil, L2.start, List.map_cons, List.map_nil, List.length_cons, List.length_nil, Nat.zero_add, Nat.sub_self, Nat.reduceAdd, Nat.reduceSub, List.replicate_zero, List.replicate_succ, List.append_nil, List.nil_append, List.cons_append, List.getElem?_cons_zero, List.getElem?_cons_succ, List.set_cons_zero, List.set_cons_succ, Option.some.injEq, exists_and_left, exists_eq_left', exists_eq_left, V.int.injEq, V.bl.injEq, V.str.injEq, V.ref.injEq, List.cons.injEq, and_true, true_and, if_true, if_false, Bool.false_eq_true, reduceCtorEq, Bool.not_true, Bool.not_false, cxOf]
    repeat (first | (refine ⟨_, SqT.of (by first | assumption | exact St'.tp (H := H) (by assumption) _ _ (by assumption)), ?_⟩) | (refine ⟨_, .inr (SqT.of (by first | assumption | exact St'.tp (H := H) (by assumption) _ _ (by assumption))), ?_⟩) | (refine ⟨_, rfl, ?_⟩) | (refine ⟨_, atIv (by assumption), ?_⟩) | (refine ⟨_, _, ⟨rfl, rfl⟩, ?_⟩) | (refine ⟨rfl, ?_⟩) | simp only [tRet, tAndV, tOrV, tNotV, tCB, tCons, tNil, tC, tVar, tChain, rI0, tIfS, tTest, tOp, tUn, rU, rI, tPar3, tBM, tBM0, tM1, gSub, tXm, tCon, tProp, tMethR, rEq, rNe, rIxT, rIxL, decide_true, decide_false, tAnd, tOr, tNot, tB, tSeq, tAsg, gName, tDrop, tNext, tTup, tLst, tIf, tDf, tFld, tMf0, tPart, tSl, tNoPart, tPar, gTup, gLst, gCons, gNil, L2.start, List.map_cons, List.map_nil, List.length_cons, List.length_nil, Nat.zero_add, Nat.sub_self, Nat.reduceAdd, Nat.reduceSub, List.replicate_zero, List.replicate_succ, List.append_nil, List.nil_append, List.cons_append, List.getElem?_cons_zero, List.getElem?_cons_succ, List.set_cons_zero, List.set_cons_succ, Option.some.injEq, exists_and_left, exists_eq_left', exists_eq_left, V.int.injEq, V.bl.injEq, V.str.injEq, V.ref.injEq, List.cons.injEq, and_true, true_and, if_true, if_false, Bool.false_eq_true, reduceCtorEq, Bool.not_true, Bool.not_false, cxOf])
    exact ⟨_, _, hyi, rfl, _, SqT.of ha', _, rfl, _, SqT.of ha', _, rfl, y, wd, gs, g, _, _, rfl, hin, q⟩
  | more n =>
    have ha' : H a = some (.tup [.str "more", n]) := ha
    simp only [tRet, tAndV, tOrV, tNotV, tCB, tCons, tNil, tC, tVar, tChain, rI0, tIfS, tTest, tOp, tUn, rU, rI, tPar3, tBM, tBM0, tM1, gSub, tXm, tCon, tProp, tMethR, rEq, rNe, rIxT, rIxL, decide_true, decide_false, tAnd, tOr, tNot, tB, tSeq, tAsg, gName, tDrop, tNext, tTup, tLst, tIf, tDf, tFld, tMf0, tPart, tSl, tNoPart, tPar, gTup, gLst, gCons, gNil, L2.start, List.map_cons, List.map_nil, List.length_cons, List.length_nil, Nat.zero_add, Nat.sub_self, Nat.reduceAdd, Nat.reduceSub, List.replicate_zero, List.replicate_succ, List.append_nil, List.nil_append, List.cons_append, List.getElem?_cons_zero, List.getElem?_cons_succ, List.set_cons_zero, List.set_cons_succ, Option.some.injEq, exists_and_left, exists_eq_left', exists_eq_left, V.int.injEq, V.bl.injEq, V.str.injEq, V.ref.injEq, List.cons.injEq, and_true, true_and, if_true, if_false, Bool.false_eq_true, reduceCtorEq, Bool.not_true, Bool.not_false, cxOf]
    repeat (first | (refine ⟨_, SqT.of (by first | assumption | exact St'.tp (H := H) (by assumption) _ _ (by assumption)), ?_⟩) | (refine ⟨_, .inr (SqT.of (by first | assumption | exact St'.tp (H := H) (by assumption) _ _ (by assumption))), ?_⟩) | (refine ⟨_, rfl, ?_⟩) | (refine ⟨_, atIv (by assumption), ?_⟩) | (refine ⟨_, _, ⟨rfl, rfl⟩, ?_⟩) | (refine ⟨rfl, ?_⟩) | simp only [tRet, tAndV, tOrV, tNotV, tCB, tCons, tNil, tC, tVar, tChain, rI0, tIfS, tTest, tOp, tUn, rU, rI, tPar3, tBM, tBM0, tM1, gSub, tXm, tCon, tProp, tMethR, rEq, rNe, rIxT, rIxL, decide_true, decide_false, tAnd, tOr, tNot, tB, tSeq, tAsg, gName, tDrop, tNext, tTup, tLst, tIf, tDf, tFld, tMf0, tPart, tSl, tNoPart, tPar, gTup, gLst, gCons, gNil, L2.start, List.map_cons, List.map_nil, List.length_cons, List.length_nil, Nat.zero_add, Nat.sub_self, Nat.reduceAdd, Nat.reduceSub, List.replicate_zero, List.replicate_succ, List.append_nil, List.nil_append, List.cons_append, List.getElem?_cons_zero, List.getElem?_cons_succ, List.set_cons_zero, List.set_cons_succ, Option.some.injEq, exists_and_left, exists_eq_left', exists_eq_left, V.int.injEq, V.bl.injEq, V.str.injEq, V.ref.injEq, List.cons.injEq, and_true, true_and, if_true, if_false, Bool.false_eq_true, reduceCtorEq, Bool.not_true, Bool.not_false, cxOf])
    refine ⟨y, dx, _, rfl, hyi, y, wd, gs, g, n, rfl, hin, ?_⟩
    unfold EdFin at q ⊢
    cases c : Ed.out g (.more n) with
    | bad x fl u =>
      rw [c] at q
      exact q
    | ok g2 =>
      rw [c] at q
      refine ⟨q.1, fun H' s' hy' => ⟨⟨_, rfl⟩, ?_⟩⟩
      obtain ⟨dx', ap', al', g'', hyi', _⟩ := id hy'
      refine ⟨y, rfl, _, _, hyi', y, _, _, rfl, hy', ?_⟩
      have q' := q.2 H' s' hy'
      simpa using q'
end
end Yk
set_option Elab.async false
set_option linter.all false
set_option maxRecDepth 100000
set_option maxHeartbeats 4000000
/-! the law: due -/
namespace Yk
open PySem PySem.Spec PyProof.Rows L2
inductive Ac where
  | undo
  | ed (e : Ed)
def AcAt (H : Hp) (v : V) : Ac → Prop
  | .undo => ∃ a, v = .ref a ∧ H a = some (.tup [.str "undo"])
  | .ed e => EdAt H v e
theorem AcAt.st {M : List Addr} {H H' : Hp} {v : V} {c : Ac} (h : AcAt H v c) (s : St' M H H') : AcAt H' v c := by
  cases c with
  | undo =>
    obtain ⟨a, rfl, ha⟩ := h
    exact ⟨a, rfl, s.tp _ _ ha⟩
  | ed e => exact EdAt.st h s
def nextGs (gs : List Pg) : Ac → List Pg
  | .undo => if gs.length = 1 then gs else gs.dropLast
  | .ed e => match gs.getLast? with
    | some g => (match e.out g with
      | .ok g' => gs ++ [g']
      | .bad _ _ _ => gs)
    | none => gs
theorem nextGs_ok {gs : List Pg} {g : Pg} {e : Ed} {g' : Pg} (h : gs.getLast? = some g) (c : e.out g = .ok g') : nextGs gs (.ed e) = gs ++ [g'] := by simp only [nextGs, h, c]
theorem nextGs_bad {gs : List Pg} {g : Pg} {e : Ed} {x fl : Str} {u : V} (h : gs.getLast? = some g) (c : e.out g = .bad x fl u) : nextGs gs (.ed e) = gs := by simp only [nextGs, h, c]
/-- pages that the law holds in a list -/
theorem AllAt.dropLast {H : Hp} {vs : List V} {gs : List Pg} (h : AllAt H vs gs) : AllAt H vs.dropLast gs.dropLast := by
  rw [List.dropLast_eq_take, List.dropLast_eq_take, h.len]
  exact h.take _
theorem Ed.nm_ne (e : Ed) : e.nm ≠ "undo" := by cases e <;> simp only [Ed.nm] <;> decide
section
variable {w : World} {K : KF} {mg : Str → Option Value} {base : Heap}
theorem sc_law_due : FnScope ["_law_pages", "_law_edit_here", "_law_most", "_law_after"] ["_law_pages", "_law_edit_here", "_law_most"] (defScope s_law_due) := ⟨rfl, rfl, rfl, by decide +kernel, rfl, by decide +kernel, by decide +kernel⟩
def spDue : Sp := fun vs H Q _ => ∃ (L : Addr) (v : V) (ps : List V) (gs : List Pg) (g : Pg) (ac : Ac), vs = [.ref L, v, .int 30] ∧ H L = some (.lst ps) ∧ AllAt H ps gs ∧ gs.getLast? = some g ∧ gs.length ≤ 30 ∧ g.Ok 100000 ∧ AcAt H v ac ∧ ∀ u ps' H', St' [L] H H' → H' L = some (.lst ps') → AllAt H' ps' (nextGs gs ac) → Q u H'
theorem ok_law_due (T : Tx w K mg) (D__law_page_after : Df R.prog w K mg base CX0 3 "_law_page_after" spAfter) : Df R.prog w K mg base CX0 4 "_law_due" spDue := by
  refine df_of T.d_law_due T.g_law_due sc_law_due (fun _ _ _ _ _ _ us hl => match us, hl with | [_, _, _], _ => rfl)
    (fun vs H Q E h => by repeat (first | (obtain ⟨rfl, _⟩ := h; rfl) | (obtain ⟨_, h⟩ := h))) (fun cdv A outer s H vs Q E hr h => ?_)
  have nd := sc_law_due.nd
  refine ⟨_, (pss_cons (ps_if (pt_cmpR op_eq (pe_ix ix_tup (pv 1) pe_int (fun _ _ => rfl)) pe_str (nomark _)) (pss_cons (ps_if (pt_cmpR op_eq (pe_callB call_len_seq rfl T.n_len PySem.boot_len (pa_cons (pv 0) pa_nil)) pe_int (nomark _)) (pss_one (ps_ret (pe_lst (pa_cons pe_str pa_nil)))) pss_nil)
          (pss_cons (ps_expr (pe_bm0 PySem.F.plainAttrs_list PySem.F.slot_list_pop PySem.F.type_list_pop mt_pop (pv 0)))
          (pss_one (ps_ret (pe_lst (pa_cons pe_str (pa_cons (pe_op op_sub (pe_callB call_len_seq rfl T.n_len PySem.boot_len (pa_cons (pv 0) pa_nil)) pe_int) pa_nil))))))) pss_nil)
          (pss_cons (ps_if (pt_cmpR op_gt (pe_callB call_len_seq rfl T.n_len PySem.boot_len (pa_cons (pv 0) pa_nil)) (pv 2) (nomark _)) (pss_one (ps_ret (pe_lst (pa_cons pe_str pa_nil)))) pss_nil)
          (pss_cons (ps_set (i := 3) nd rfl (by first | exact Or.inl rfl | exact Or.inr rfl) (pe_df D__law_page_after hr (by decide) pass0 (pa_cons (pe_ix ix_list (pv 0) (pe_un un_neg pe_int) (fun _ _ => rfl)) (pa_cons (pv 1) pa_nil))))
          (pss_cons (ps_if (pt_val (pe_callB call_isi rfl T.n_isinstance (by decide +kernel) (pa_cons (pv 3) (pa_cons (pe_bltn (v := .ty "list") rfl T.n_list (by decide +kernel) rfl) pa_nil)))) (pss_one (ps_ret (pv 3))) pss_nil)
          (pss_cons (ps_expr (pe_bm PySem.F.plainAttrs_list PySem.F.slot_list_append PySem.F.type_list_append mt_append (pv 0) (pa_cons (pv 3) pa_nil)))
          (pss_one (ps_ret (pe_lst (pa_cons pe_str (pa_cons (pe_op op_sub (pe_callB call_len_seq rfl T.n_len PySem.boot_len (pa_cons (pv 0) pa_nil)) pe_int) pa_nil)))))))))), ?_⟩
  obtain ⟨L, v, ps, gs, g, ac, rfl, hL, hal, hl, ln, ok, hac, q⟩ := h
  have len := hal.len
  have gp : 0 < gs.length := by
    have : gs ≠ [] := by intro z; rw [z] at hl; cases hl
    exact List.length_pos_iff.mpr this
  cases ac with
  | undo =>
    obtain ⟨a, rfl, ha⟩ := hac
    simp only [tRet, tAndV, tOrV, tNotV, tCB, tCons, tNil, tC, tVar, tChain, rI0, tIfS, tTest, tOp, tUn, rU, rI, tPar3, tBM, tBM0, tM1, gSub, tXm, tCon, tProp, tMethR, rEq, rNe, rIxT, rIxL, decide_true, decide_false, tAnd, tOr, tNot, tB, tSeq, tAsg, gName, tDrop, tNext, tTup, tLst, tIf, tDf, tFld, tMf0, tPart, tSl, tNoPart, tPar, gTup, gLst, gCons, gNil, L2.start, List.map_cons, List.map_nil, List.length_cons, List.length_nil, Nat.zero_add, Nat.sub_self, Nat.reduceAdd, Nat.reduceSub, List.replicate_zero, List.replicate_succ, List.append_nil, List.nil_append, List.cons_append, List.getElem?_cons_zero, List.getElem?_cons_succ, List.set_cons_zero, List.set_cons_succ, Option.some.injEq, exists_and_left, exists_eq_left', exists_eq_left, V.int.injEq, V.bl.injEq, V.str.injEq, V.ref.injEq, List.cons.injEq, and_true, true_and, if_true, if_false, Bool.false_eq_true, reduceCtorEq, Bool.not_true, Bool.not_false, cxOf]
    refine ⟨_, SqT.of ha, _, rfl, rfl, ?_⟩
    rw [if_pos (by decide)]
    refine ⟨_, .inl (SqL.of hL), rfl, ?_⟩
    by_cases c : gs.length = 1
    · rw [if_pos (by simp; omega)]
      refine ⟨by decide, fun l nl => ?_⟩
      have s1 := (St'.refl (M := []) (H := H)).new (p := l) (o := .lst [.str "NothingToUndo"]) nl
      exact q _ ps _ s1.w0 (s1.kp _ _ hL (by simp)) (by rw [show nextGs gs .undo = gs by simp [nextGs, c]]; exact AllAt.st s1 hal)
    · rw [if_neg (by simp; omega)]
      rw [List.getLast?_eq_getElem?] at hl
      obtain ⟨y, hy, _⟩ := hal.at_ hl
      rw [← len] at hy
      refine ⟨.inl ⟨rfl, _, SqL.of hL⟩, L, ps, y, rfl, rfl, hL, hy, ?_⟩
      have s1 : St' [L] H (upd H L (.lst ps.dropLast)) := St'.refl.putL (by simp) hL
      refine ⟨_, .inl (SqL.of upd_same), by decide, fun l nl => ?_⟩
      have s2 := (St'.refl (M := []) (H := upd H L (.lst ps.dropLast))).new (p := l) (o := .lst [.str "ok", .int ((ps.dropLast.length : Int) - 1)]) nl
      exact q _ ps.dropLast _ (s1.trans s2.w0) (s2.kp _ _ upd_same (by simp)) (by rw [show nextGs gs .undo = gs.dropLast by simp [nextGs, c]]; exact AllAt.st (s1.trans s2.w0) hal.dropLast)
  | ed e =>
    obtain ⟨a, rfl, ha, ty⟩ := id hac
    have nn := e.nm_ne
    obtain ⟨pv, hpv, hpg⟩ := hal.last hl
    simp only [tRet, tAndV, tOrV, tNotV, tCB, tCons, tNil, tC, tVar, tChain, rI0, tIfS, tTest, tOp, tUn, rU, rI, tPar3, tBM, tBM0, tM1, gSub, tXm, tCon, tProp, tMethR, rEq, rNe, rIxT, rIxL, decide_true, decide_false, tAnd, tOr, tNot, tB, tSeq, tAsg, gName, tDrop, tNext, tTup, tLst, tIf, tDf, tFld, tMf0, tPart, tSl, tNoPart, tPar, gTup, gLst, gCons, gNil, L2.start, List.map_cons, List.map_nil, List.length_cons, List.length_nil, Nat.zero_add, Nat.sub_self, Nat.reduceAdd, Nat.reduceSub, List.replicate_zero, List.replicate_succ, List.append_nil, List.nil_append, List.cons_append, List.getElem?_cons_zero, List.getElem?_cons_succ, List.set_cons_zero, List.set_cons_succ, Option.some.injEq, exists_and_left, exists_eq_left', exists_eq_left, V.int.injEq, V.bl.injEq, V.str.injEq, V.ref.injEq, List.cons.injEq, and_true, true_and, if_true, if_false, Bool.false_eq_true, reduceCtorEq, Bool.not_true, Bool.not_false, cxOf]
    refine ⟨_, SqT.of ha, _, atI_nat (j := 0) rfl, ?_⟩
    refine ⟨rfl, ?_⟩
    rw [if_neg (by simpa using nn)]
    refine ⟨_, .inl (SqL.of hL), ?_⟩
    rw [if_neg (by simp; omega)]
    refine ⟨_, SqL.of hL, pv, hpv, pv, _, g, e, rfl, hpg, ok, hac, fun v' H1 s1 r1 => ?_⟩
    have hL1 := s1.kp _ _ hL (by simp)
    cases c : e.out g with
    | bad x fl u =>
      rw [c] at r1
      obtain ⟨l, rfl, hl'⟩ := r1
      refine isi_list (.lst hl') ?_
      rw [isLs_t hl']
      refine ⟨true, rfl, ?_⟩
      rw [if_pos rfl]
      exact q _ ps _ s1.w0 hL1 (by rw [nextGs_bad hl c]; exact AllAt.st s1 hal)
    | ok g' =>
      rw [c] at r1
      obtain ⟨pa, pp, pb, rfl, hpa, hpp, hpb⟩ := id r1
      refine isi_list (.tup hpa) ?_
      rw [isLs_fT hpa]
      refine ⟨false, rfl, ?_⟩
      rw [if_neg (by simp)]
      refine ⟨.inl ⟨rfl, _, SqL.of hL1⟩, L, _, _, rfl, rfl, hL1, by simp [sizeLine]; omega, ?_⟩
      have s2 : St' [L] H1 (upd H1 L (.lst (ps ++ [.ref pa]))) := St'.refl.putL (by simp) hL1
      refine ⟨_, .inl (SqL.of upd_same), by decide, fun l nl => ?_⟩
      have s3 := (St'.refl (M := []) (H := upd H1 L (.lst (ps ++ [.ref pa])))).new (p := l) (o := .lst [.str "ok", .int (((ps ++ [V.ref pa]).length : Int) - 1)]) nl
      have s23 := s2.trans s3.w0
      exact q _ (ps ++ [.ref pa]) _ (s1.w0.trans s23) (s3.kp _ _ upd_same (by simp)) (by rw [nextGs_ok hl c]; exact AllAt.snoc (r1.st s23) (AllAt.st s23 (AllAt.st s1 hal)))
end
end Yk
set_option Elab.async false
set_option linter.all false
set_option maxRecDepth 100000
set_option maxHeartbeats 4000000
/-! the law: done -/
namespace Yk
open PySem PySem.Spec PyProof.Rows L2
theorem takesNo {X : Cx} : Takes X (fun _ _ _ _ => False) := fun _ _ x => by
  obtain ⟨_, _, _, _, _, _, _, _, _, _, _, _, _, _, _, _, z⟩ := x
  exact z.elim
section
variable {X : Cx} {CX : CXT} {k j : Nat} {m : Str} {sp : Sp} {o : Expr} {ta : TE} {pos apos : Pos} {C : Addr}
/-- o.m(), the wish about exceptions by the slots -/
abbrev tMf0S (C : Addr) (m : Str) (sp : Sp) (E : L2.St → XK) (ta : TE) : TE := fun σ H Q => ta σ H fun x H1 => ∃ a dx fs, x = .ref a ∧ H1 a = some (.ins C dx fs) ∧ fs.lookup m = none ∧ sp [x] H1 Q (E σ)
theorem pe_mf0S {E : L2.St → XK} {pl : Sem Bool} (he : PE X o ta) (c : Cls X.K C) (M : Mf X.prog X.w X.K X.mg X.base CX k C m sp) (hr : Room j X.A) (hk : k ≤ j) (hx : ∀ σ, PassesAt CX X σ (E σ))
    (ht : eval (.Call (.Attribute o m apos) [] [] pos) X.env = (do
      let ov ← eval o X.env
      standAt apos.atName
      let (f, first) ← holding [ov] (getMethod ov m pl)
      callWith pos f first (backTo pos (starEach [] X.env)) (backToKw pos (keywordEach [] X.env))) := by rfl) :
    PE X (.Call (.Attribute o m apos) [] [] pos) (tMf0S C m sp E ta) := by
  refine ⟨fun pins s σ H Q I h => ?_⟩
  refine PySem.W.methodCall_KW (pl := pl) (thn (he.run pins s σ H _ I h) fun u s1 ⟨y, H1, I1, rx, a, dx, fs, ex, ea, l, q⟩ => ?_) ht
  subst ex
  obtain rfl : u = Value.ref a := rx
  refine getmeth_ok I1 ea c M.me l ?_
  exact PySem.W.callWith_K0 (first := [.ref a]) I1.kIn M.me.kp (runS (us := [.ref a]) (vs := [.ref a]) M.fn (hr.mono hk) (hx σ) I1 (.cons rfl .nil) q)
end
theorem Ed.out_bad {e : Ed} {g : Pg} {x fl : Str} {u : V} (h : e.out g = .bad x fl u) : (x = "NoAxis" ∧ fl = "given") ∨ (x = "NoKind" ∧ fl = "given") ∨ (x = "BadSide" ∧ fl = "given") ∨ (x = "BadOrder" ∧ fl = "given") ∨ (x = "TooLarge" ∧ fl = "axis") := by
  cases e with
  | side a n =>
    have h : putSide g a n = _ := h
    unfold putSide at h
    split at h
    · split at h <;> cases h <;> simp
    · cases h; simp
  | brick k a n =>
    have h : putBrick g k a n = _ := h
    unfold putBrick at h
    split at h
    · split at h
      · split at h <;> cases h <;> simp
      · cases h; simp
    · cases h; simp
  | swap =>
    have h : swapP g = _ := h
    cases h
  | turn v o =>
    have h : turnP g v o = _ := h
    unfold turnP at h
    split at h
    · split at h <;> cases h <;> simp
    · cases h; simp
  | stretch a n =>
    have h : stretchP g a n = _ := h
    unfold stretchP at h
    split at h
    · split at h
      · split at h <;> cases h <;> simp
      · cases h; simp
    · cases h; simp
  | more n =>
    have h : moreP g n = _ := h
    unfold moreP at h
    split at h
    · split at h <;> cases h <;> simp
    · cases h; simp
/-- the value that a refusal tells is known -/
theorem Ed.bad_ty {e : Ed} {g : Pg} {x fl : Str} {u : V} {H : Hp} (h : e.out g = .bad x fl u) (ty : e.Ty H) : TyV H u := by
  cases e with
  | side a n =>
    have h : putSide g a n = _ := h
    unfold putSide at h
    split at h
    · split at h
      · cases h
      · cases h; exact ty.2
    · cases h; exact ty.1
  | brick k a n =>
    have h : putBrick g k a n = _ := h
    unfold putBrick at h
    split at h
    · split at h
      · split at h
        · cases h
        · cases h; exact ty.2.2
      · cases h; exact ty.2.1
    · cases h; exact ty.1
  | swap =>
    have h : swapP g = _ := h
    cases h
  | turn v o =>
    have h : turnP g v o = _ := h
    unfold turnP at h
    split at h
    · split at h
      · cases h
      · cases h; exact OdV.ty ty
    · cases h; exact OdV.ty ty
  | stretch a n =>
    have h : stretchP g a n = _ := h
    unfold stretchP at h
    split at h
    · split at h
      · split at h
        · cases h; exact ty.1
        · cases h
      · cases h; exact ty.2
    · cases h; exact ty.1
  | more n =>
    have h : moreP g n = _ := h
    unfold moreP at h
    split at h
    · split at h
      · cases h; exact .int _
      · cases h
    · cases h; exact ty
def NewsOk (wd : Str) : Prop := wd = "same" ∨ wd = "filled" ∨ wd = "barred"
theorem newsW_ok (a b : Bool) : NewsOk (newsW a b) := by
  unfold NewsOk newsW
  cases a <;> cases b <;> simp
section
variable {w : World} {K : KF} {mg : Str → Option Value} {base : Heap}
theorem sc_law_done : FnScope ["_law_yard", "_law_edit_here", "_law_found", "error"] ["_law_yard", "_law_edit_here"] (defScope s_law_done) := ⟨rfl, rfl, rfl, by decide +kernel, rfl, by decide +kernel, by decide +kernel⟩
def spDone (K : KF) : Sp := fun vs H Q _ => ∃ (y : Addr) (v : V) (wd : Str) (gs : List Pg) (g : Pg) (ac : Ac), vs = [.ref y, v] ∧ AcAt H v ac ∧ YAt H y (Y K) "yard" gs wd ∧ gs.length ≤ 30 ∧ gs.getLast? = some g ∧ (∀ x ∈ gs, x.Ok 100000) ∧
  match ac with
  | .undo => ∀ l ys wd' H', (NewsOk wd → NewsOk wd') → St' [y] H H' → H' l = some (.lst ys) → YAt H' y (Y K) "yard" (nextGs gs .undo) wd' → Q (.ref l) H'
  | .ed e => match e.out g with
    | .ok g' => g'.Ok 100000 ∧ ∀ l n H', St' [y] H H' → H' l = some (.lst [.str "ok", .int n]) → YAt H' y (Y K) "yard" (gs ++ [g']) (newsW g'.fb g.fb) → Q (.ref l) H'
    | .bad x _ u => ∀ l H', St' [] H H' → H' l = some (.lst [.str x, u]) → Q (.ref l) H'
theorem ok_law_done (T : Tx w K mg) (D_undo : Mf R.prog w K mg base (L2.CX R.prog w) 10 (Y K) "undo" (spUndo K)) (D__law_do : DfX w K mg base 12 "_law_do" (spDoL K)) : Df R.prog w K mg base CX0 13 "_law_done" (spDone K) := by
  have cY := T.cls_Y
  have hK : ∃ X : KF, X = K := ⟨K, rfl⟩
  refine df_of T.d_law_done T.g_law_done sc_law_done (fun _ _ _ _ _ _ us hl => match us, hl with | [_, _], _ => rfl)
    (fun vs H Q E h => by repeat (first | (obtain ⟨rfl, _⟩ := h; rfl) | (obtain ⟨_, h⟩ := h))) (fun cdv A outer s H vs Q E hr h => ?_)
  have nd := sc_law_done.nd
  refine ⟨_, (pss_cons (ps_try_mix rfl rfl takesNo (fun W pl xe tk po => (pss_one (ps_set (i := 2) nd rfl (Or.inl rfl) (pe_lst (pa_cons pe_str (pa_cons (pe_ifExp (pt_cmpR op_eq (pe_ix (show IxR _ (rIxT K) from ix_tup) (pv 1) pe_int (fun _ _ => rfl)) pe_str (nomark _)) (pe_mf0S (pv 0) cY D_undo hr (by decide) (passAt tk)) (pe_dfS D__law_do hr (by decide) (passAt tk) (pa_cons (pv 0) (pa_cons (pv 1) pa_nil)))) pa_nil)))))) (.named (i := 3) ⟨rfl, by decide, .inl T.g_NoAxis⟩ nd rfl rfl (fun a oe cls d pl hz hf => pss_one (ps_set (i := 2) nd rfl (Or.inl rfl) (pe_lst (pa_cons pe_str (pa_cons (pe_xf T.xf_NoAxis T.nof_NoAxis hz hf (pv 3)) pa_nil))))) (.named (i := 3) ⟨rfl, by decide, .inl T.g_NoKind⟩ nd rfl rfl (fun a oe cls d pl hz hf => pss_one (ps_set (i := 2) nd rfl (Or.inl rfl) (pe_lst (pa_cons pe_str (pa_cons (pe_xf T.xf_NoKind T.nof_NoKind hz hf (pv 3)) pa_nil))))) (.named (i := 3) ⟨rfl, by decide, .inl T.g_BadSide⟩ nd rfl rfl (fun a oe cls d pl hz hf => pss_one (ps_set (i := 2) nd rfl (Or.inl rfl) (pe_lst (pa_cons pe_str (pa_cons (pe_xf T.xf_BadSide T.nof_BadSide hz hf (pv 3)) pa_nil))))) (.named (i := 3) ⟨rfl, by decide, .inl T.g_BadOrder⟩ nd rfl rfl (fun a oe cls d pl hz hf => pss_one (ps_set (i := 2) nd rfl (Or.inl rfl) (pe_lst (pa_cons pe_str (pa_cons (pe_xf T.xf_BadOrder T.nof_BadOrder hz hf (pv 3)) pa_nil))))) (.named (i := 3) ⟨rfl, by decide, .inl T.g_TooLarge⟩ nd rfl rfl (fun a oe cls d pl hz hf => pss_one (ps_set (i := 2) nd rfl (Or.inl rfl) (pe_lst (pa_cons pe_str (pa_cons (pe_xf T.xf_TooLarge T.nof_TooLarge hz hf (pv 3)) pa_nil))))) (.bare ⟨rfl, by decide, .inl T.g_NotFilled⟩ (fun a oe cls d pl hz hf => pss_one (ps_set (i := 2) nd rfl (Or.inl rfl) (pe_lst (pa_cons pe_str pa_nil)))) (.bare ⟨rfl, by decide, .inl T.g_NothingToUndo⟩ (fun a oe cls d pl hz hf => pss_one (ps_set (i := 2) nd rfl (Or.inl rfl) (pe_lst (pa_cons pe_str pa_nil)))) (.bare ⟨rfl, by decide, .inl T.g_TooManyEdits⟩ (fun a oe cls d pl hz hf => pss_one (ps_set (i := 2) nd rfl (Or.inl rfl) (pe_lst (pa_cons pe_str pa_nil)))) (.bare ⟨rfl, by decide, .inl T.g_Busy⟩ (fun a oe cls d pl hz hf => pss_one (ps_set (i := 2) nd rfl (Or.inl rfl) (pe_lst (pa_cons pe_str pa_nil)))) .nil)))))))))) (pss_one (ps_ret (pv 2)))), ?_⟩
  obtain ⟨y, v, wd, gs, g, ac, rfl, hac, hy, ln, hl, ok, q⟩ := h
  obtain ⟨dx, ap, al, g', hyi, _⟩ := id hy
  have okg : g.Ok 100000 := ok g (List.mem_of_getLast? hl)
  cases ac with
  | undo =>
    obtain ⟨a, rfl, ha⟩ := hac
    simp only [tMf0S, tDfS, tRet, tAndV, tOrV, tNotV, tCB, tCons, tNil, tC, tVar, tChain, rI0, tIfS, tTest, tOp, tUn, rU, rI, tPar3, tBM, tBM0, tM1, gSub, tXm, tCon, tProp, tMethR, rEq, rNe, rIxT, rIxL, decide_true, decide_false, tAnd, tOr, tNot, tB, tSeq, tAsg, gName, tDrop, tNext, tTup, tLst, tIf, tDf, tFld, tMf0, tPart, tSl, tNoPart, tPar, gTup, gLst, gCons, gNil, L2.start, List.map_cons, List.map_nil, List.length_cons, List.length_nil, Nat.zero_add, Nat.sub_self, Nat.reduceAdd, Nat.reduceSub, List.replicate_zero, List.replicate_succ, List.append_nil, List.nil_append, List.cons_append, List.getElem?_cons_zero, List.getElem?_cons_succ, List.set_cons_zero, List.set_cons_succ, Option.some.injEq, exists_and_left, exists_eq_left', exists_eq_left, V.int.injEq, V.bl.injEq, V.str.injEq, V.ref.injEq, List.cons.injEq, and_true, true_and, if_true, if_false, Bool.false_eq_true, reduceCtorEq, Bool.not_true, Bool.not_false, cxOf]
    refine ⟨_, SqT.of ha, _, atI_nat (j := 0) rfl, rfl, ?_⟩
    rw [if_pos (by decide)]
    have gp : 0 < gs.length := by
      have : gs ≠ [] := by intro z; rw [z] at hl; cases hl
      exact List.length_pos_iff.mpr this
    refine ⟨_, _, hyi, rfl, y, wd, gs, g, rfl, hy, by omega, hl, ok, fun c => ?_, fun g' hg' H' s' hy' => ⟨by decide, fun l nl => ?_⟩⟩
    · have key : ∀ l, H l = none → Q (.ref l) (upd H l (.lst [.str "NothingToUndo"])) := fun l nl => q l _ wd _ (fun z => z) (St'.refl.new nl) upd_same (by
        rw [show nextGs gs .undo = gs by simp [nextGs, c]]
        exact hy.st ((St'.refl (M := []) (H := H)).new nl) (by simp))
      exact ⟨false, T.xm_NothingToUndo_NoAxis, (fun z => by cases z), fun _ => ⟨false, T.xm_NothingToUndo_NoKind, (fun z => by cases z), fun _ => ⟨false, T.xm_NothingToUndo_BadSide, (fun z => by cases z), fun _ => ⟨false, T.xm_NothingToUndo_BadOrder, (fun z => by cases z), fun _ => ⟨false, T.xm_NothingToUndo_TooLarge, (fun z => by cases z), fun _ => ⟨false, T.xm_NothingToUndo_NotFilled, (fun z => by cases z), fun _ => ⟨true, T.xm_NothingToUndo_NothingToUndo, fun _ a na => ⟨by decide, fun l nl => ⟨_, rfl, key l nl⟩⟩, (fun z => by cases z)⟩⟩⟩⟩⟩⟩⟩
    · have s2 := (St'.refl (M := []) (H := H')).new (p := l) (o := .lst [.str "ok", .int ((gs.length : Int) - 2)]) nl
      have c : gs.length ≠ 1 := by
        intro z
        have : gs.dropLast = [] := List.length_eq_zero_iff.mp (by rw [List.length_dropLast, z])
        rw [this] at hg'
        cases hg'
      exact q l _ _ _ (fun _ => newsW_ok _ _) (s'.trans s2.w0) upd_same (by
        rw [show nextGs gs .undo = gs.dropLast by simp [nextGs, c]]
        exact hy'.st s2 (by simp))
  | ed e =>
    obtain ⟨a, rfl, ha, ty⟩ := id hac
    have nn := e.nm_ne
    simp only [tMf0S, tDfS, tRet, tAndV, tOrV, tNotV, tCB, tCons, tNil, tC, tVar, tChain, rI0, tIfS, tTest, tOp, tUn, rU, rI, tPar3, tBM, tBM0, tM1, gSub, tXm, tCon, tProp, tMethR, rEq, rNe, rIxT, rIxL, decide_true, decide_false, tAnd, tOr, tNot, tB, tSeq, tAsg, gName, tDrop, tNext, tTup, tLst, tIf, tDf, tFld, tMf0, tPart, tSl, tNoPart, tPar, gTup, gLst, gCons, gNil, L2.start, List.map_cons, List.map_nil, List.length_cons, List.length_nil, Nat.zero_add, Nat.sub_self, Nat.reduceAdd, Nat.reduceSub, List.replicate_zero, List.replicate_succ, List.append_nil, List.nil_append, List.cons_append, List.getElem?_cons_zero, List.getElem?_cons_succ, List.set_cons_zero, List.set_cons_succ, Option.some.injEq, exists_and_left, exists_eq_left', exists_eq_left, V.int.injEq, V.bl.injEq, V.str.injEq, V.ref.injEq, List.cons.injEq, and_true, true_and, if_true, if_false, Bool.false_eq_true, reduceCtorEq, Bool.not_true, Bool.not_false, cxOf]
    refine ⟨_, SqT.of ha, _, atI_nat (j := 0) rfl, rfl, ?_⟩
    rw [if_neg (by simpa using nn)]
    refine ⟨y, _, wd, gs, g, e, rfl, hac, ⟨ty, hy, ln, hl, okg⟩, ?_⟩
    unfold EdFin
    dsimp only at q
    cases c : e.out g with
    | bad x fl u =>
      intro d H' s' hd
      rw [c] at q
      have key : ∀ l, H' l = none → Q (.ref l) (upd H' l (.lst [.str x, u])) := fun l nl => q l _ (s'.new nl) upd_same
      rcases Ed.out_bad c with ⟨rfl, rfl⟩ | ⟨rfl, rfl⟩ | ⟨rfl, rfl⟩ | ⟨rfl, rfl⟩ | ⟨rfl, rfl⟩
      · exact ⟨true, T.xm_NoAxis_NoAxis, fun _ a na => ⟨_, rfl, rfl, rfl, d, _, _, rfl, hd, rfl, (by show 2 ≤ sizeLine; decide), fun l nl => ⟨_, rfl, key l nl⟩⟩, (fun z => by cases z)⟩
      · exact ⟨false, T.xm_NoKind_NoAxis, (fun z => by cases z), fun _ => ⟨true, T.xm_NoKind_NoKind, fun _ a na => ⟨_, rfl, rfl, rfl, d, _, _, rfl, hd, rfl, (by show 2 ≤ sizeLine; decide), fun l nl => ⟨_, rfl, key l nl⟩⟩, (fun z => by cases z)⟩⟩
      · exact ⟨false, T.xm_BadSide_NoAxis, (fun z => by cases z), fun _ => ⟨false, T.xm_BadSide_NoKind, (fun z => by cases z), fun _ => ⟨true, T.xm_BadSide_BadSide, fun _ a na => ⟨_, rfl, rfl, rfl, d, _, _, rfl, hd, rfl, (by show 2 ≤ sizeLine; decide), fun l nl => ⟨_, rfl, key l nl⟩⟩, (fun z => by cases z)⟩⟩⟩
      · exact ⟨false, T.xm_BadOrder_NoAxis, (fun z => by cases z), fun _ => ⟨false, T.xm_BadOrder_NoKind, (fun z => by cases z), fun _ => ⟨false, T.xm_BadOrder_BadSide, (fun z => by cases z), fun _ => ⟨true, T.xm_BadOrder_BadOrder, fun _ a na => ⟨_, rfl, rfl, rfl, d, _, _, rfl, hd, rfl, (by show 2 ≤ sizeLine; decide), fun l nl => ⟨_, rfl, key l nl⟩⟩, (fun z => by cases z)⟩⟩⟩⟩
      · exact ⟨false, T.xm_TooLarge_NoAxis, (fun z => by cases z), fun _ => ⟨false, T.xm_TooLarge_NoKind, (fun z => by cases z), fun _ => ⟨false, T.xm_TooLarge_BadSide, (fun z => by cases z), fun _ => ⟨false, T.xm_TooLarge_BadOrder, (fun z => by cases z), fun _ => ⟨true, T.xm_TooLarge_TooLarge, fun _ a na => ⟨_, rfl, rfl, rfl, d, _, _, rfl, hd, rfl, (by show 2 ≤ sizeLine; decide), fun l nl => ⟨_, rfl, key l nl⟩⟩, (fun z => by cases z)⟩⟩⟩⟩⟩
    | ok g2 =>
      rw [c] at q
      refine ⟨q.1, fun H' s' hy' => ⟨by decide, fun l nl => ?_⟩⟩
      have s2 := (St'.refl (M := []) (H := H')).new (p := l) (o := .lst [.str "ok", .int (gs.length : Nat)]) nl
      exact q.2 l _ _ (s'.trans s2.w0) upd_same (hy'.st s2 (by simp))
end
end Yk
set_option Elab.async false
set_option linter.all false
set_option maxRecDepth 100000
set_option maxHeartbeats 4000000
/-! the law: shows, worked -/
namespace Yk
open PySem PySem.Spec PyProof.Rows L2
def Dh (n : Nat) (d : PyData) : Prop := d.depth ≤ n
theorem Dh.all {n : Nat} : ∀ {ds : List PyData}, (∀ d ∈ ds, Dh n d) → PyData.depthAll ds ≤ n
  | [], _ => by simp [PyData.depthAll]
  | d :: ds, h => by
    have h1 := h d (by simp)
    have h2 := Dh.all (ds := ds) fun x hx => h x (by simp [hx])
    unfold Dh at h1
    simp [PyData.depthAll]
    omega
theorem Dh.lst {n : Nat} {ds : List PyData} (h : ∀ d ∈ ds, Dh n d) : Dh (n + 1) (.list ds) := by
  have z := Dh.all h
  unfold Dh
  simp only [PyData.depth]
  omega
theorem Dh.str {n : Nat} (x : Str) : Dh n (.str x) := by simp [Dh, PyData.depth]
abbrev dPair (g : Pg) : PyData := .tuple [dInts g.p0, dInts g.p1]
def showsD (g : Pg) (n : Nat) (wd : Str) : PyData := .list [dPair g, dInts g.bx, .int ((n : Int) - 1), .str wd, .bool g.fb, .int g.bx.length, .str g.txt]
theorem cl8_sides (xs : List Int) : Cl8 (sidesT xs) := by
  unfold sidesT
  rw [TL.join_eq]
  refine Cl8.join (Cl8.of "x") fun x hx => ?_
  obtain ⟨i, _, rfl⟩ := List.mem_map.mp hx
  exact Cl8.of _
theorem cl8_kinds (x0 x1 : List Int) : Cl8 (kindsT x0 x1) := by
  unfold kindsT
  rw [TL.join_eq]
  refine Cl8.join (Cl8.of " ") fun x hx => ?_
  simp at hx
  rcases hx with rfl | rfl <;> exact cl8_sides _
theorem cl8_txt (g : Pg) : Cl8 g.txt := by
  unfold Pg.txt
  refine Cl8.app (Cl8.app (Cl8.app (Cl8.app (Cl8.app ?_ (cl8_kinds _ _)) (Cl8.of " in ")) (cl8_sides _)) (Cl8.of ": ")) ?_
  · intro c hc
    have e : (Str.empty).cps.toList = [] := rfl
    rw [e] at hc
    cases hc
  · cases g.fb
    · exact Cl8.of "barred"
    · exact Cl8.of "filled"
theorem txt_len {g : Pg} (ok : g.Ok 100000) : g.txt.length ≤ 100 := by
  have k0 := sidesT_len ok.o3.s0 (by decide)
  have k1 := sidesT_len ok.o3.s1 (by decide)
  have kb := sidesT_len ok.o3.sb (by decide)
  have kk := kindsT_len k0 k1
  unfold Pg.txt
  have m1 : (Str.empty : Str).length = 0 := rfl
  have m2 : (" in " : Str).length = 4 := by decide
  have m3 : (": " : Str).length = 2 := by decide
  have z6 : ∀ b : Bool, (Str.ofString (if b = true then "filled" else "barred")).length = 6 := by intro b; cases b <;> decide
  have z7 := z6 g.fb
  simp only [len_app]
  omega
theorem NewsOk.sh {wd : Str} (h : NewsOk wd) : Sh 1002 (.str wd) := by
  rcases h with rfl | rfl | rfl
  · exact Sh.str (k := 100) (Cl8.of "same") (by decide)
  · exact Sh.str (k := 100) (Cl8.of "filled") (by decide)
  · exact Sh.str (k := 100) (Cl8.of "barred") (by decide)
theorem sh_pair {g : Pg} (ok : g.Ok 100000) : Sh 77 (dPair g) := Sh.tup (n := 35) (k := 2) (fun d hd => by
  simp at hd
  rcases hd with rfl | rfl
  · exact sh_ints ok.o3.s0
  · exact sh_ints ok.o3.s1) (by simp)
theorem sh_shows {g : Pg} {n : Nat} {wd : Str} (ok : g.Ok 100000) (hn : n ≤ 900) (h1 : 1 ≤ n) (hw : NewsOk wd) : Sh 7030 (showsD g n wd) := by
  have n4 := ok.o3.sb.n4
  refine Sh.lst (n := 1002) (k := 7) (fun d hd => ?_) (by simp)
  simp only [List.mem_cons, List.not_mem_nil, or_false] at hd
  rcases hd with rfl | rfl | rfl | rfl | rfl | rfl | rfl
  · exact (sh_pair ok).mono (by decide)
  · exact (sh_ints ok.o3.sb).mono (by decide)
  · exact (Sh.int (by omega) (by omega)).mono (by decide)
  · exact hw.sh
  · exact (Sh.bl _).mono (by decide)
  · exact (Sh.int (by omega) (by omega)).mono (by decide)
  · exact Sh.str (k := 100) (cl8_txt g) (txt_len ok)
theorem dh_pair {n : Nat} (g : Pg) : Dh (n + 2) (dPair g) := Nat.le_trans (Pl.tup (n := 1) fun d hd => by
  simp at hd
  rcases hd with rfl | rfl <;> exact Pl.tup (n := 0) (pl_ints _)).2 (by omega)
theorem dh_shows (g : Pg) (n : Nat) (wd : Str) : Dh 3 (showsD g n wd) := by
  refine Dh.lst (n := 2) fun d hd => ?_
  simp only [List.mem_cons, List.not_mem_nil, or_false] at hd
  rcases hd with rfl | rfl | rfl | rfl | rfl | rfl | rfl
  · exact dh_pair (n := 0) g
  · exact ((Pl.tup (n := 0) (pl_ints _)).mono (by decide)).2
  · exact (Pl.int (n := 2) _).2
  · exact Dh.str _
  · exact (Pl.bl (n := 2) _).2
  · exact (Pl.int (n := 2) _).2
  · exact Dh.str _
theorem dp_pair {K : KF} {H : Hp} {p : Addr} {g : Pg} (h : PairAt H p g.p0 g.p1) : Dp K H (.ref p) (dPair g) := by
  obtain ⟨a0, a1, h2, h3, h4⟩ := h
  exact .tup (SqT.of h2) (.cons (dp_ints h3) (.cons (dp_ints h4) .nil))
section
variable {w : World} {K : KF} {mg : Str → Option Value} {base : Heap}
theorem sc_law_shows : FnScope ["_law_yard"] ["_law_yard"] (defScope s_law_shows) := ⟨rfl, rfl, rfl, by decide +kernel, rfl, by decide +kernel, by decide +kernel⟩
def spShows (K : KF) : Sp := fun vs H Q _ => ∃ (y : Addr) (wd : Str) (gs : List Pg) (g : Pg), vs = [.ref y] ∧ YAt H y (Y K) "yard" gs wd ∧ gs.getLast? = some g ∧ g.Ok 100000 ∧ gs.length ≤ 900 ∧ NewsOk wd ∧ ∀ H', St' [] H H' → Q (.str (showsD g gs.length wd).shown) H'
theorem ok_law_shows (T : Tx w K mg) (D_pair : Pf R.prog w K mg base 1 (Y K) "pair" (spPair (Y K) "yard")) (D_box : Pf R.prog w K mg base 1 (Y K) "box" (spBox (Y K) "yard")) (D_version : Pf R.prog w K mg base 1 (Y K) "version" (spVersion (Y K) "yard")) (D_news : Pf R.prog w K mg base 1 (Y K) "news" (spNews (Y K) "yard"))
    (D_bool : Mf R.prog w K mg base CX0 6 (Y K) "__bool__" (spBool (Y K) "yard")) (D_len : Mf R.prog w K mg base CX0 3 (Y K) "__len__" (spLen (Y K) "yard")) (D_str : Mf R.prog w K mg base CX0 9 (Y K) "__str__" (spStr (Y K) "yard")) : FnG R.prog w K mg base CX0 12 (He.ga K "_law_shows") (spShows K) := by
  have cY := T.cls_Y
  refine fng_of T.d_law_shows sc_law_shows (fun _ _ _ _ _ _ us hl => match us, hl with | [_], _ => rfl) (fun vs H Q E h => by obtain ⟨y, wd, gs, g, rfl, _⟩ := h; rfl) (fun cdv A outer s H vs Q E hgu hr h => ?_)
  have nd := sc_law_shows.nd
  refine ⟨_, (pss_one (ps_ret (pe_callB (call_reprD hgu hr.units) rfl T.n_repr (by decide +kernel) (pa_cons (pe_lst (pa_cons (pe_pf (pv 0) cY D_pair hr (by decide)) (pa_cons (pe_pf (pv 0) cY D_box hr (by decide)) (pa_cons (pe_pf (pv 0) cY D_version hr (by decide)) (pa_cons (pe_pf (pv 0) cY D_news hr (by decide)) (pa_cons (pe_callTy (call_bool_own D_bool (hr.mono (by decide)) pass0) rfl T.n_bool (by decide +kernel) (pa_cons (pv 0) pa_nil)) (pa_cons (pe_callB (call_len_own D_len (hr.mono (by decide)) pass0) rfl T.n_len PySem.boot_len (pa_cons (pv 0) pa_nil)) (pa_cons (pe_callTy (call_str_own D_str (hr.mono (by decide)) pass0) rfl T.n_str (by decide +kernel) (pa_cons (pv 0) pa_nil)) pa_nil)))))))) pa_nil)))), ?_⟩
  obtain ⟨y, wd, gs, g, rfl, hy, hl, ok, ln, nw, q⟩ := h
  obtain ⟨dx, ap, al, g', hyi, _⟩ := id hy
  simp only [tRet, tAndV, tOrV, tNotV, tCB, tCons, tNil, tC, tVar, tChain, rI0, tIfS, tTest, tOp, tUn, rU, rI, tPar3, tBM, tBM0, tM1, gSub, tXm, tCon, tProp, tMethR, rEq, rNe, rIxT, rIxL, decide_true, decide_false, tAnd, tOr, tNot, tB, tSeq, tAsg, gName, tDrop, tNext, tTup, tLst, tIf, tDf, tFld, tMf0, tPart, tSl, tNoPart, tPar, gTup, gLst, gCons, gNil, L2.start, List.map_cons, List.map_nil, List.length_cons, List.length_nil, Nat.zero_add, Nat.sub_self, Nat.reduceAdd, Nat.reduceSub, List.replicate_zero, List.replicate_succ, List.append_nil, List.nil_append, List.cons_append, List.getElem?_cons_zero, List.getElem?_cons_succ, List.set_cons_zero, List.set_cons_succ, Option.some.injEq, exists_and_left, exists_eq_left', exists_eq_left, V.int.injEq, V.bl.injEq, V.str.injEq, V.ref.injEq, List.cons.injEq, and_true, true_and, if_true, if_false, Bool.false_eq_true, reduceCtorEq, Bool.not_true, Bool.not_false, cxOf]
  refine ⟨_, _, hyi, y, wd, gs, g, rfl, hy, hl, fun p hp => ⟨_, _, hyi, y, wd, gs, g, rfl, hy, hl, fun b hb => ⟨_, _, hyi, y, wd, gs, rfl, hy, _, _, hyi, y, wd, gs, rfl, hy, ?_⟩⟩⟩
  refine ⟨y, _, _, rfl, hyi, y, wd, gs, g, rfl, hy, hl, ok, fun H1 s1 => ⟨⟨_, rfl⟩, ?_⟩⟩
  have hy1 := hy.st s1 (by simp)
  obtain ⟨dx1, ap1, al1, g1, hyi1, _⟩ := id hy1
  have n4 := ok.o3.sb.n4
  refine ⟨y, _, _, rfl, hyi1, y, wd, gs, g, rfl, hy1, hl, ⟨_, rfl, by omega⟩, ?_⟩
  refine ⟨y, _, _, rfl, hyi1, y, wd, gs, g, rfl, hy1, hl, ok, fun H2 s2 => ⟨⟨_, rfl⟩, by decide, fun l nl => ?_⟩⟩
  have s3 := (St'.refl (M := []) (H := H2)).new (p := l) (o := .lst [.ref p, .ref b, .int ((gs.length : Int) - 1), .str wd, .bl g.fb, .int g.bx.length, .str g.txt]) nl
  have st := (s1.trans s2).trans s3
  have g1 : 1 ≤ gs.length := by
    have : gs ≠ [] := by intro z; rw [z] at hl; cases hl
    exact List.length_pos_iff.mpr this
  have sh := sh_shows ok ln g1 nw
  have dh := dh_shows g gs.length wd
  exact ⟨showsD g gs.length wd, .lst (SqL.of upd_same) (.cons (dp_pair (hp.st st)) (.cons (dp_ints (st.tp _ _ hb)) (.cons (.int _) (.cons (.str _) (.cons (.bl _) (.cons (.int _) (.cons (.str _) .nil))))))), sh.2.1, sh.2.2, Nat.le_trans dh (by decide), Nat.le_trans sh.1 (by decide), q _ st⟩
/-- apart from the deck -/
structure Far (d a b y L : Addr) : Prop where
  dL : d ≠ L
  aL : a ≠ L
  bL : b ≠ L
theorem AllAt.mem_last {gs : List Pg} (h : gs ≠ []) : ∃ g, gs.getLast? = some g := by
  cases z : gs.getLast? with
  | some g => exact ⟨g, rfl⟩
  | none => exact absurd (List.getLast?_eq_none_iff.mp z) h
theorem Dk.nIns {H : Hp} {d a b y C dx : Addr} {fs : List (Str × V)} (h : Dk H d a b) (hy : H y = some (.ins C dx fs)) : d ≠ y ∧ a ≠ y ∧ b ≠ y := by
  obtain ⟨as, bs, c, hd, ha, hb, nb⟩ := h.ex
  refine ⟨?_, ?_, ?_⟩
  · rintro rfl; rw [hd] at hy; cases hy
  · rintro rfl; rw [ha] at hy; cases hy
  · rintro rfl; rw [hb] at hy; cases hy
/-- what holds of a yard and its pages between two edits -/
structure Wk (K : KF) (H : Hp) (d a b y L : Addr) (gs : List Pg) (wd : Str) : Prop where
  dk : Dk H d a b
  yd : YAt H y (Y K) "yard" gs wd
  pg : ∃ ps, H L = some (.lst ps) ∧ AllAt H ps gs
  ne : gs ≠ []
  ok : ∀ x ∈ gs, x.Ok 3000
  nw : NewsOk wd
theorem Wk.gap {K : KF} {H : Hp} {d a b y L : Addr} {gs : List Pg} {wd : Str} (h : Wk K H d a b y L gs wd) : d ≠ y ∧ a ≠ y ∧ b ≠ y ∧ L ≠ y := by
  obtain ⟨dx, ap, al, g, hyi, _⟩ := h.yd
  obtain ⟨ps, hL, _⟩ := h.pg
  obtain ⟨z1, z2, z3⟩ := h.dk.nIns hyi
  refine ⟨z1, z2, z3, ?_⟩
  rintro rfl
  rw [hL] at hyi
  cases hyi
theorem Wk.st {K : KF} {H H' : Hp} {d a b y L : Addr} {gs : List Pg} {wd : Str} (h : Wk K H d a b y L gs wd) (s : St' [] H H') : Wk K H' d a b y L gs wd := by
  obtain ⟨ps, hL, hal⟩ := h.pg
  exact ⟨h.dk.st s, h.yd.st s (by simp), ⟨ps, s.kp _ _ hL (by simp), AllAt.st s hal⟩, h.ne, h.ok, h.nw⟩
/-- the deck is drawn from -/
theorem Wk.std {K : KF} {H H' : Hp} {d a b y L : Addr} {gs : List Pg} {wd : Str} (h : Wk K H d a b y L gs wd) (far : Far d a b y L) (s : St' [d, a] H H') (dk : Dk H' d a b) : Wk K H' d a b y L gs wd := by
  obtain ⟨g1, g2, g3, g4⟩ := h.gap
  obtain ⟨ps, hL, hal⟩ := h.pg
  exact ⟨dk, h.yd.st s (by simp; exact ⟨g1.symm, g2.symm⟩), ⟨ps, s.kp _ _ hL (by simp; exact ⟨far.dL.symm, far.aL.symm⟩), AllAt.st s hal⟩, h.ne, h.ok, h.nw⟩
theorem nextGs_good {gs : List Pg} {ac : Ac} (ne : gs ≠ []) (ok : ∀ x ∈ gs, x.Ok 3000) (h : ∀ e, ac = .ed e → ∀ g g', gs.getLast? = some g → e.out g = .ok g' → g'.Ok 3000) : nextGs gs ac ≠ [] ∧ (∀ x ∈ nextGs gs ac, x.Ok 3000) ∧ (nextGs gs ac).length ≤ gs.length + 1 := by
  obtain ⟨g, hl⟩ := AllAt.mem_last ne
  cases ac with
  | undo =>
    by_cases c : gs.length = 1
    · rw [show nextGs gs .undo = gs by simp [nextGs, c]]
      exact ⟨ne, ok, by omega⟩
    · rw [show nextGs gs .undo = gs.dropLast by simp [nextGs, c]]
      have gp := List.length_pos_iff.mpr ne
      refine ⟨fun z => ?_, fun x hx => ok x (List.dropLast_subset _ hx), by simp; omega⟩
      have := congrArg List.length z
      simp at this
      omega
  | ed e =>
    cases c : e.out g with
    | ok g' =>
      rw [nextGs_ok hl c]
      refine ⟨by simp, fun x hx => ?_, by simp⟩
      rcases List.mem_append.mp hx with hx | hx
      · exact ok x hx
      · rw [List.mem_singleton.mp hx]
        exact h e rfl g g' hl c
    | bad x fl u =>
      rw [nextGs_bad hl c]
      exact ⟨ne, ok, by omega⟩
theorem sc_law_worked : FnScope ["_law_deck_here", "_law_yard", "_law_pages", "_law_step", "_law_edit_here"] ["_law_deck_here", "_law_yard", "_law_pages"] (defScope s_law_worked) := ⟨rfl, rfl, rfl, by decide +kernel, rfl, by decide +kernel, by decide +kernel⟩
def spWorked (K : KF) : Sp := fun vs H Q _ => ∃ (d a b y L : Addr) (gs : List Pg) (wd : Str), vs = [.ref d, .ref y, .ref L] ∧ Far d a b y L ∧ Wk K H d a b y L gs wd ∧ gs.length = 1 ∧ ∀ H' gs' wd', St' [d, a, y, L] H H' → Wk K H' d a b y L gs' wd' → gs'.length ≤ 9 → Q .non H'
theorem ok_law_worked (T : Tx w K mg) (D__law_draw : Df R.prog w K mg base CX0 1 "_law_draw" spDraw) (D__law_small_edit : Df R.prog w K mg base CX0 7 "_law_small_edit" spSmallE) (D__law_due : Df R.prog w K mg base CX0 4 "_law_due" spDue) (D__law_done : Df R.prog w K mg base CX0 13 "_law_done" (spDone K)) : Df R.prog w K mg base CX0 14 "_law_worked" (spWorked K) := by
  refine df_of T.d_law_worked T.g_law_worked sc_law_worked (fun _ _ _ _ _ _ us hl => match us, hl with | [_, _, _], _ => rfl)
    (fun vs H Q E h => by repeat (first | (obtain ⟨rfl, _⟩ := h; rfl) | (obtain ⟨_, h⟩ := h))) (fun cdv A outer s H vs Q E hr h => ?_)
  have nd := sc_law_worked.nd
  refine ⟨_, (pss_one (ps_for (passes_of rfl) rfl (pi_range1 rfl T.n_range (pa_cons pe_int pa_nil)) (pg_name (i := 3) nd rfl (by first | exact Or.inl rfl | exact Or.inr rfl)) (pss_cons (ps_set (i := 4) nd rfl (by first | exact Or.inl rfl | exact Or.inr rfl) (pe_ifExp (pt_cmpR op_eq (pe_df D__law_draw hr (by decide) pass0 (pa_cons (pv 0) (pa_cons pe_int pa_nil))) pe_int (nomark _)) (pe_tup (pa_cons pe_str pa_nil)) (pe_df D__law_small_edit hr (by decide) pass0 (pa_cons (pv 0) (pa_cons (pe_ix ix_list (pv 2) (pe_un un_neg pe_int) (fun _ _ => rfl)) pa_nil)))))
          (pss_cons (ps_expr (pe_df D__law_due hr (by decide) pass0 (pa_cons (pv 2) (pa_cons (pv 4) (pa_cons pe_int pa_nil)))))
          (pss_one (ps_expr (pe_df D__law_done hr (by decide) pass0 (pa_cons (pv 1) (pa_cons (pv 4) pa_nil))))))))), ?_⟩
  obtain ⟨d, a, b, y, L, gs, wd, rfl, far, wk, l1, q⟩ := h
  refine ⟨8, rfl, by decide, by decide, for_range (n := 8) (fun i σ H' => (∃ u v, σ = [some (.ref d), some (.ref y), some (.ref L), u, v]) ∧ ∃ gs' wd', Wk K H' d a b y L gs' wd' ∧ gs'.length ≤ i + 1 ∧ St' [d, a, y, L] H H') ⟨⟨_, _, rfl⟩, gs, wd, wk, by omega, .refl⟩ ?_ ?_⟩
  · rintro i σ H1 hi ⟨⟨u, v, rfl⟩, gs1, wd1, wk1, ln, st1⟩
    obtain ⟨g, hl⟩ := AllAt.mem_last wk1.ne
    have okg := wk1.ok g (List.mem_of_getLast? hl)
    obtain ⟨ps, hL, hal⟩ := wk1.pg
    obtain ⟨pv, hpv, hpg⟩ := hal.last hl
    refine seq_cut (P := fun σ H' => ∃ v ac k, σ = [some (.ref d), some (.ref y), some (.ref L), k, some v] ∧ St' [d, a] H1 H' ∧ Dk H' d a b ∧ AcAt H' v ac ∧ (∀ e, ac = .ed e → ∀ g', e.out g = .ok g' → g'.Ok 3000)) (fun N hN => ?_) ?_
    · simp only [tRet, tAndV, tOrV, tNotV, tCB, tCons, tNil, tC, tVar, tChain, rI0, tIfS, tTest, tOp, tUn, rU, rI, tPar3, tBM, tBM0, tM1, gSub, tXm, tCon, tProp, tMethR, rEq, rNe, rIxT, rIxL, decide_true, decide_false, tAnd, tOr, tNot, tB, tSeq, tAsg, gName, tDrop, tNext, tTup, tLst, tIf, tDf, tFld, tMf0, tPart, tSl, tNoPart, tPar, gTup, gLst, gCons, gNil, L2.start, List.map_cons, List.map_nil, List.length_cons, List.length_nil, Nat.zero_add, Nat.sub_self, Nat.reduceAdd, Nat.reduceSub, List.replicate_zero, List.replicate_succ, List.append_nil, List.nil_append, List.cons_append, List.getElem?_cons_zero, List.getElem?_cons_succ, List.set_cons_zero, List.set_cons_succ, Option.some.injEq, exists_and_left, exists_eq_left', exists_eq_left, V.int.injEq, V.bl.injEq, V.str.injEq, V.ref.injEq, List.cons.injEq, and_true, true_and, if_true, if_false, Bool.false_eq_true, reduceCtorEq, Bool.not_true, Bool.not_false, cxOf]
      refine ⟨d, a, b, 4, rfl, wk1.dk, by decide, by decide, fun r H2 _ _ s2 dk2 => ⟨rfl, ?_⟩⟩
      by_cases z : r = 0
      · rw [if_pos (by simp [z])]
        refine ⟨by decide, fun t nt => ?_⟩
        have s3 := (St'.refl (M := []) (H := H2)).new (p := t) (o := .tup [.str "undo"]) nt
        exact hN _ _ ⟨_, .undo, _, rfl, s2.trans s3.w0, dk2.st s3, ⟨t, rfl, upd_same⟩, fun e h => by cases h⟩
      · rw [if_neg (by simp [z])]
        refine ⟨_, SqL.of (s2.kp _ _ hL (by simp; exact ⟨far.dL.symm, far.aL.symm⟩)), pv, hpv, d, a, b, pv, g, rfl, dk2, hpg.st s2, okg, fun v e H3 s3 dk3 he ok' => ?_⟩
        exact hN _ _ ⟨v, .ed e, _, rfl, s2.trans s3, dk3, he, fun e' h => by cases h; exact ok'⟩
    · rintro σ2 H2 ⟨v2, ac, k, rfl, s2, dk2, hac, oke⟩
      have wk2 := wk1.std far s2 dk2
      obtain ⟨g1, g2, g3, g4⟩ := wk2.gap
      obtain ⟨ps2, hL2, hal2⟩ := wk2.pg
      have ln30 : gs1.length ≤ 30 := by omega
      have good := nextGs_good (ac := ac) wk2.ne wk2.ok fun e he g' g'' hl' c => by
        rw [hl] at hl'
        cases hl'
        exact oke e he g'' c
      simp only [tRet, tAndV, tOrV, tNotV, tCB, tCons, tNil, tC, tVar, tChain, rI0, tIfS, tTest, tOp, tUn, rU, rI, tPar3, tBM, tBM0, tM1, gSub, tXm, tCon, tProp, tMethR, rEq, rNe, rIxT, rIxL, decide_true, decide_false, tAnd, tOr, tNot, tB, tSeq, tAsg, gName, tDrop, tNext, tTup, tLst, tIf, tDf, tFld, tMf0, tPart, tSl, tNoPart, tPar, gTup, gLst, gCons, gNil, L2.start, List.map_cons, List.map_nil, List.length_cons, List.length_nil, Nat.zero_add, Nat.sub_self, Nat.reduceAdd, Nat.reduceSub, List.replicate_zero, List.replicate_succ, List.append_nil, List.nil_append, List.cons_append, List.getElem?_cons_zero, List.getElem?_cons_succ, List.set_cons_zero, List.set_cons_succ, Option.some.injEq, exists_and_left, exists_eq_left', exists_eq_left, V.int.injEq, V.bl.injEq, V.str.injEq, V.ref.injEq, List.cons.injEq, and_true, true_and, if_true, if_false, Bool.false_eq_true, reduceCtorEq, Bool.not_true, Bool.not_false, cxOf]
      refine ⟨L, v2, ps2, gs1, g, ac, rfl, hL2, hal2, hl, ln30, okg.mono (by decide), hac, fun u3 ps3 H3 s3 hL3 hal3 => ?_⟩
      have yd3 := wk2.yd.st s3 (by simp; exact g4.symm)
      have dk3 := dk2.stM s3 (by simp; exact far.dL) (by simp; exact far.aL) (by simp; exact far.bL)
      have fin : ∀ H4 wd4, St' [y] H3 H4 → YAt H4 y (Y K) "yard" (nextGs gs1 ac) wd4 → NewsOk wd4 → (∃ x : Option V, some v2 = x) ∧ ∃ gs' wd', Wk K H4 d a b y L gs' wd' ∧ gs'.length ≤ (i + 1) + 1 ∧ St' [d, a, y, L] H H4 := fun H4 wd4 s4 hy4 nw4 => by
        refine ⟨⟨_, rfl⟩, nextGs gs1 ac, wd4, ⟨dk3.stM s4 (by simp; exact g1) (by simp; exact g2) (by simp; exact g3), hy4, ⟨ps3, s4.kp _ _ hL3 (by simp; exact g4), AllAt.st s4 hal3⟩, good.1, good.2.1, nw4⟩, by have := good.2.2; omega, ?_⟩
        exact ((st1.trans (s2.mono (by simp))).trans (s3.mono (by simp))).trans (s4.mono (by simp))
      refine ⟨y, v2, wd1, gs1, g, ac, rfl, hac.st s3, yd3, ln30, hl, fun x hx => (wk2.ok x hx).mono (by decide), ?_⟩
      cases ac with
      | undo => exact fun l ys wd' H4 nw s4 hl4 hy4 => fin H4 wd' s4 hy4 (nw wk2.nw)
      | ed e =>
        dsimp only
        cases c : e.out g with
        | ok g' =>
          refine ⟨(oke e rfl g' c).mono (by decide), fun l n H4 s4 hl4 hy4 => fin H4 (newsW g'.fb g.fb) s4 ?_ (newsW_ok _ _)⟩
          rw [nextGs_ok hl c]
          exact hy4
        | bad x fl u =>
          exact fun l H4 s4 hl4 => fin H4 wd1 s4.w0 (by rw [nextGs_bad hl c]; exact yd3.st s4 (by simp)) wk2.nw
  · rintro σ H1 ⟨⟨u, v, rfl⟩, gs1, wd1, wk1, ln, st1⟩
    exact q H1 gs1 wd1 st1 wk1 (by omega)
end
end Yk
set_option Elab.async false
set_option linter.all false
set_option maxRecDepth 100000
set_option maxHeartbeats 4000000
/-! state_at's keyword; what the law's last def leans on -/
namespace Yk
open PySem PySem.Spec PyProof.Rows L2
section
variable {K : KF} {fd : FuncData} {f : Addr}
abbrev FnState (K : KF) (f : Addr) (fd : FuncData) : Prop := FunD K "state_at" "Yard.state_at" (defArgs s_Yard_state_at) (defBody s_Yard_state_at) (defScope s_Yard_state_at) [] [("version", V.non)] f fd
theorem state_binds (F : FnState K f fd) : ∃ ds, Vals [V.non] ds ∧ Binds K fd ["self", "version"] ds :=
  F.binds0 1 (by simp) rfl fun D doc pm an cdv ct us ks h1 h2 => match us, ks, h1, h2 with
    | [u], [k], _, _ => ⟨_, _, _, _, _, _, rfl, rfl, rfl⟩
theorem state_kb (F : FnState K f fd) : KBn K fd ["self", "version"] 1 ["version"] (fun us ws => us ++ ws) (fun vs zs => vs ++ zs) := by
  obtain ⟨mv, h⟩ := F.kbinds0 (ps := ["self", "version"]) 1 ["version"] [] (fun us _ ws => us ++ ws) (by simp) (by simp) (fun r1 _ r3 => r1.append r3) (fun D doc pm an cdv ct us mv ws h1 h2 h3 => match us, mv, ws, h1, h2, h3 with
    | [u], [], [w], _, _, _ => by
      show bindArgs _ _ = (pure [("self", u), ("version", w)] : Sem (List (Str × Value)))
      rfl)
  exact h
end
theorem passX0 {X : Cx} : Passes (L2.CX X.prog X.w) X E0 := fun _ _ _ _ _ _ _ h => by
  obtain ⟨_, _, _, _, _, _, _, _, _, _, _, _, z⟩ := h
  exact z.elim
theorem noStop0 {K : KF} : NoStop K E0 := fun _ _ _ h => h.elim
end Yk
set_option Elab.async false
set_option linter.all false
set_option maxRecDepth 100000
set_option maxHeartbeats 4000000
/-! helpers for the law's def: three yards, == and != of them, data of pages -/
namespace Yk
open PySem PySem.Spec PyProof.Rows L2
theorem dp_all {K : KF} {H : Hp} : ∀ {vs : List V} {gs : List Pg}, AllAt H vs gs → DpAll K H vs (gs.map dPg)
  | [], [], _ => .nil
  | v :: vs, g :: gs, h => .cons (dp_pg h.1) (dp_all h.2)
theorem sh_pg {g : Pg} (ok : g.Ok 100000) : Sh 161 (dPg g) := Sh.tup (n := 77) (k := 2) (fun d hd => by
  simp at hd
  rcases hd with rfl | rfl
  · exact sh_pair ok
  · exact (sh_ints ok.o3.sb).mono (by decide)) (by simp)
theorem sh_pages {gs : List Pg} (ok : ∀ x ∈ gs, x.Ok 100000) (hl : gs.length ≤ 9) : Sh 1469 (.list (gs.map dPg)) := Sh.lst (n := 161) (k := 9) (fun d hd => by
  obtain ⟨g, hg, rfl⟩ := List.mem_map.mp hd
  exact sh_pg (ok g hg)) (by simp; exact hl)
theorem dh_pages (gs : List Pg) : Dh 4 (.list (gs.map dPg)) := Dh.lst (n := 3) fun d hd => by
  obtain ⟨g, hg, rfl⟩ := List.mem_map.mp hd
  exact (pl_pg g).2
theorem sl1469 : (1469 : Nat) ≤ sizeLine := by decide
/-- the yard, its copy, the new one -/
structure Tr (K : KF) (H : Hp) (d a b y L : Addr) (gs : List Pg) (wd : Str) (t : Addr) (gt : List Pg) (wt : Str) (f : Addr) (gf : List Pg) (wf : Str) : Prop where
  wk : Wk K H d a b y L gs wd
  tw : YAt H t (Y K) "yard" gt wt
  fr : YAt H f (Y K) "yard" gf wf
  yt : y ≠ t
  yf : y ≠ f
  tf : t ≠ f
theorem Tr.st {K : KF} {H H' : Hp} {d a b y L t f : Addr} {gs gt gf : List Pg} {wd wt wf : Str} (h : Tr K H d a b y L gs wd t gt wt f gf wf) (s : St' [] H H') : Tr K H' d a b y L gs wd t gt wt f gf wf :=
  ⟨h.wk.st s, h.tw.st s (by simp), h.fr.st s (by simp), h.yt, h.yf, h.tf⟩
theorem Wk.nIns {K : KF} {H : Hp} {d a b y L t C dx : Addr} {gs : List Pg} {wd : Str} {fs : List (Str × V)} (h : Wk K H d a b y L gs wd) (ht : H t = some (.ins C dx fs)) : d ≠ t ∧ a ≠ t ∧ b ≠ t ∧ L ≠ t := by
  obtain ⟨z1, z2, z3⟩ := h.dk.nIns ht
  obtain ⟨ps, hL, _⟩ := h.pg
  refine ⟨z1, z2, z3, ?_⟩
  rintro rfl
  rw [hL] at ht
  cases ht
theorem YAt.ins {H : Hp} {t C : Addr} {so wt : Str} {gt : List Pg} (h : YAt H t C so gt wt) : ∃ dx ap al, H t = some (.ins C dx (yf wt ap al)) := by
  obtain ⟨dx, ap, al, g, h1, _⟩ := h
  exact ⟨dx, ap, al, h1⟩
theorem Tr.std {K : KF} {H H' : Hp} {d a b y L t f : Addr} {gs gt gf : List Pg} {wd wt wf : Str} (h : Tr K H d a b y L gs wd t gt wt f gf wf) (far : Far d a b y L) (s : St' [d, a] H H') (dk : Dk H' d a b) : Tr K H' d a b y L gs wd t gt wt f gf wf := by
  obtain ⟨_, _, _, ht⟩ := h.tw.ins
  obtain ⟨_, _, _, hf⟩ := h.fr.ins
  have n1 := h.wk.nIns ht
  have n2 := h.wk.nIns hf
  exact ⟨h.wk.std far s dk, h.tw.st s (by simp; exact ⟨n1.1.symm, n1.2.1.symm⟩), h.fr.st s (by simp; exact ⟨n2.1.symm, n2.2.1.symm⟩), h.yt, h.yf, h.tf⟩
/-- a yard that is none of the deck and the pages is changed -/
theorem Wk.off {K : KF} {H H' : Hp} {d a b y L t C dx : Addr} {gs : List Pg} {wd : Str} {fs : List (Str × V)} (h : Wk K H d a b y L gs wd) (ht : H t = some (.ins C dx fs)) (ne : y ≠ t) (s : St' [t] H H') : Wk K H' d a b y L gs wd := by
  obtain ⟨n1, n2, n3, n4⟩ := h.nIns ht
  obtain ⟨ps, hL, hal⟩ := h.pg
  exact ⟨h.dk.stM s (by simp; exact n1) (by simp; exact n2) (by simp; exact n3), h.yd.st s (by simp; exact ne), ⟨ps, s.kp _ _ hL (by simp; exact n4), AllAt.st s hal⟩, h.ne, h.ok, h.nw⟩
section
variable {w : World} {K : KF} {mg : Str → Option Value} {H : Hp} {y z : Addr} {gs gz : List Pg} {wd wz : Str} {g g' : Pg} {Q : VK} {E : XK}
theorem eq_yy (T : Tx w K mg) (hy : YAt H y (Y K) "yard" gs wd) (hl : gs.getLast? = some g) (hz : YAt H z (Y K) "yard" gz wz) (hlz : gz.getLast? = some g') (q : Q (.bl (pgEq g g')) H) : rEqO K (Y K) (spEq K (Y K) "yard") E (.ref y) (.ref z) H Q := by
  obtain ⟨dx, ap, al, hyi⟩ := hy.ins
  obtain ⟨dz, az, lz, hzi⟩ := hz.ins
  exact ⟨y, dx, _, _, rfl, hyi, .ins hzi, T.nf_Y, y, .ref z, wd, gs, g, some ("yard", g'), rfl, hy, hl, .yd hz hlz (.inl ⟨rfl, rfl⟩), ⟨_, rfl⟩, by simpa [eqO] using q⟩
theorem ne_yy (T : Tx w K mg) (hy : YAt H y (Y K) "yard" gs wd) (hl : gs.getLast? = some g) (hz : YAt H z (Y K) "yard" gz wz) (hlz : gz.getLast? = some g') (q : Q (.bl (!pgEq g g')) H) : rNeO K (Y K) (spEq K (Y K) "yard") E (.ref y) (.ref z) H Q := by
  obtain ⟨dx, ap, al, hyi⟩ := hy.ins
  obtain ⟨dz, az, lz, hzi⟩ := hz.ins
  exact ⟨y, dx, _, _, rfl, hyi, .ins hzi, T.nf_Y, y, .ref z, wd, gs, g, some ("yard", g'), rfl, hy, hl, .yd hz hlz (.inl ⟨rfl, rfl⟩), _, rfl, by simpa [eqO] using q⟩
/-- a value that is no yard -/
inductive NoY (H : Hp) : V → Prop where
  | non : NoY H .non
  | int (i : Int) : NoY H (.int i)
  | str (x : Str) : NoY H (.str x)
  | tup {a : Addr} {xs : List V} (e : H a = some (.tup xs)) : NoY H (.ref a)
  | lst {a : Addr} {xs : List V} (e : H a = some (.lst xs)) : NoY H (.ref a)
theorem NoY.st {H H' : Hp} {v : V} (h : NoY H v) (s : St' [] H H') : NoY H' v := by
  cases h with
  | non => exact .non
  | int i => exact .int i
  | str x => exact .str x
  | tup e => exact .tup (s.tp _ _ e)
  | lst e => exact .lst (s.kp _ _ e (by simp))
theorem NoY.oth {v : V} (h : NoY H v) : OthV K H v none := by
  cases h with
  | non => exact .ty .non (fun a xs e => by cases e) (fun b e => by cases e)
  | int i => exact .ty (.int i) (fun a xs e => by cases e) (fun b e => by cases e)
  | str x => exact .ty (.str x) (fun a xs e => by cases e) (fun b e => by cases e)
  | tup e => exact .ty (.tup e) (fun a xs z => by cases z; rw [e]; intro z; cases z) (fun b e => by cases e)
  | lst e => exact .ty (.lst e) (fun a xs z => by cases z; rw [e]; intro z; cases z) (fun b e => by cases e)
theorem NoY.tye (T : Tx w K mg) {v : V} (h : NoY H v) : ∃ t, TyE K H v t ∧ PySem.W.notFirst K (Y K) t = true := by
  cases h with
  | non => exact ⟨_, .non, T.nf_Y_NoneType⟩
  | int i => exact ⟨_, .int i, T.nf_Y_int⟩
  | str x => exact ⟨_, .str x, T.nf_Y_str⟩
  | tup e => exact ⟨_, .tup e, T.nf_Y_tuple⟩
  | lst e => exact ⟨_, .lst e, T.nf_Y_list⟩
theorem eq_yo (T : Tx w K mg) {v : V} (hy : YAt H y (Y K) "yard" gs wd) (hl : gs.getLast? = some g) (hv : NoY H v) (q : Q (.bl false) H) : rEqO K (Y K) (spEq K (Y K) "yard") E (.ref y) v H Q := by
  obtain ⟨dx, ap, al, hyi⟩ := hy.ins
  obtain ⟨t, ty, nf⟩ := hv.tye T
  exact ⟨y, dx, _, t, rfl, hyi, ty, nf, y, v, wd, gs, g, none, rfl, hy, hl, hv.oth, ⟨_, rfl⟩, q⟩
theorem ne_yo (T : Tx w K mg) {v : V} (hy : YAt H y (Y K) "yard" gs wd) (hl : gs.getLast? = some g) (hv : NoY H v) (q : Q (.bl true) H) : rNeO K (Y K) (spEq K (Y K) "yard") E (.ref y) v H Q := by
  obtain ⟨dx, ap, al, hyi⟩ := hy.ins
  obtain ⟨t, ty, nf⟩ := hv.tye T
  exact ⟨y, dx, _, t, rfl, hyi, ty, nf, y, v, wd, gs, g, none, rfl, hy, hl, hv.oth, _, rfl, q⟩
/-- full yards -/
theorem eq_fy (T : Tx w K mg) (hy : YAt H y (Fy K) "full" gs wd) (hl : gs.getLast? = some g) (hz : YAt H z (Y K) "yard" gz wz) (hlz : gz.getLast? = some g') (q : Q (.bl false) H) : rEqO K (Fy K) (spEq K (Fy K) "full") E (.ref y) (.ref z) H Q := by
  obtain ⟨dx, ap, al, hyi⟩ := hy.ins
  obtain ⟨dz, az, lz, hzi⟩ := hz.ins
  exact ⟨y, dx, _, _, rfl, hyi, .ins hzi, T.nf_F_Y, y, .ref z, wd, gs, g, some ("yard", g'), rfl, hy, hl, .yd hz hlz (.inl ⟨rfl, rfl⟩), ⟨_, rfl⟩, q⟩
theorem eq_ff (T : Tx w K mg) (hy : YAt H y (Fy K) "full" gs wd) (hl : gs.getLast? = some g) (hz : YAt H z (Fy K) "full" gz wz) (hlz : gz.getLast? = some g') (q : Q (.bl (pgEq g g')) H) : rEqO K (Fy K) (spEq K (Fy K) "full") E (.ref y) (.ref z) H Q := by
  obtain ⟨dx, ap, al, hyi⟩ := hy.ins
  obtain ⟨dz, az, lz, hzi⟩ := hz.ins
  exact ⟨y, dx, _, _, rfl, hyi, .ins hzi, T.nf_F, y, .ref z, wd, gs, g, some ("full", g'), rfl, hy, hl, .yd hz hlz (.inr ⟨rfl, rfl⟩), ⟨_, rfl⟩, by simpa [eqO] using q⟩
theorem eq_yf (hz : YAt H z (Y K) "yard" gz wz) (hlz : gz.getLast? = some g') (hy : YAt H y (Fy K) "full" gs wd) (hl : gs.getLast? = some g) (q : Q (.bl false) H) : rEqR K (Y K) (Fy K) (spEq K (Fy K) "full") E (.ref z) (.ref y) H Q := by
  obtain ⟨dx, ap, al, hyi⟩ := hy.ins
  obtain ⟨dz, az, lz, hzi⟩ := hz.ins
  exact ⟨z, y, dz, _, dx, _, rfl, rfl, hzi, hyi, y, .ref z, wd, gs, g, some ("yard", g'), rfl, hy, hl, .yd hz hlz (.inl ⟨rfl, rfl⟩), ⟨_, rfl⟩, q⟩
end
end Yk
set_option Elab.async false
set_option linter.all false
set_option maxRecDepth 100000
set_option maxHeartbeats 4000000
/-! the law -/
namespace Yk
open PySem PySem.Spec PyProof.Rows L2
section
variable {w : World} {K : KF} {mg : Str → Option Value} {base : Heap}
/-- what the law leans on -/
structure Lw (w : World) (K : KF) (mg : Str → Option Value) (base : Heap) : Prop where
  deck : Df R.prog w K mg base CX0 1 "_law_deck" (spDeck K)
  start : Df R.prog w K mg base CX0 5 "_law_start" spStart
  worked : Df R.prog w K mg base CX0 14 "_law_worked" (spWorked K)
  shows : FnG R.prog w K mg base CX0 12 (He.ga K "_law_shows") (spShows K)
  small : Df R.prog w K mg base CX0 7 "_law_small_edit" spSmallE
  done : Df R.prog w K mg base CX0 13 "_law_done" (spDone K)
  kY : Mky R.prog w K mg base 5 "Yard" (Y K) (spInit (Y K) "yard")
  kF : Mky R.prog w K mg base 6 "FullYard" (Fy K) (spInitF K)
  pair : Pf R.prog w K mg base 1 (Y K) "pair" (spPair (Y K) "yard")
  box : Pf R.prog w K mg base 1 (Y K) "box" (spBox (Y K) "yard")
  version : Pf R.prog w K mg base 1 (Y K) "version" (spVersion (Y K) "yard")
  news : Pf R.prog w K mg base 1 (Y K) "news" (spNews (Y K) "yard")
  copy : Mf R.prog w K mg base CX0 9 (Y K) "copy" (spCopy (Y K) "yard" false)
  copyF : Mf R.prog w K mg base CX0 9 (Fy K) "copy" (spCopy (Fy K) "full" true)
  eq : Mf R.prog w K mg base CX0 3 (Y K) "__eq__" (spEq K (Y K) "yard")
  eqF : Mf R.prog w K mg base CX0 3 (Fy K) "__eq__" (spEq K (Fy K) "full")
  bool : Mf R.prog w K mg base CX0 6 (Y K) "__bool__" (spBool (Y K) "yard")
  str : Mf R.prog w K mg base CX0 9 (Y K) "__str__" (spStr (Y K) "yard")
  state : ∃ fd, FunD K "state_at" "Yard.state_at" (defArgs s_Yard_state_at) (defBody s_Yard_state_at) (defScope s_Yard_state_at) [] [("version", V.non)] (He.ma K (Y K) "state_at") fd ∧ FnOk R.prog w K mg base CX0 3 (He.ma K (Y K) "state_at") fd ["self", "version"] (spStateAt (Y K) "yard")
  each : ∃ fd, GFn R.prog w K mg base 6 (He.ma K (Y K) "each_version") fd ["self"] (spVer (Y K) "yard") ∧ Binds K fd ["self"] []
theorem done_ok {K : KF} {H : Hp} {f : Addr} {ev : V} {e : Ed} {gs : List Pg} {wd : Str} {g g' : Pg} {Q : VK} {E : XK} (he : EdAt H ev e) (hy : YAt H f (Y K) "yard" gs wd) (ln : gs.length ≤ 30) (hl : gs.getLast? = some g) (ok : ∀ x ∈ gs, x.Ok 100000) (c : e.out g = .ok g') (ok' : g'.Ok 100000)
    (k : ∀ l n H', St' [f] H H' → H' l = some (.lst [.str "ok", .int n]) → YAt H' f (Y K) "yard" (gs ++ [g']) (newsW g'.fb g.fb) → Q (.ref l) H') : spDone K [.ref f, ev] H Q E := by
  refine ⟨f, ev, wd, gs, g, .ed e, rfl, he, hy, ln, hl, ok, ?_⟩
  dsimp only
  rw [c]
  exact ⟨ok', k⟩
theorem done_bad {K : KF} {H : Hp} {f : Addr} {ev : V} {e : Ed} {gs : List Pg} {wd : Str} {g : Pg} {x fl : Str} {u : V} {Q : VK} {E : XK} (he : EdAt H ev e) (hy : YAt H f (Y K) "yard" gs wd) (ln : gs.length ≤ 30) (hl : gs.getLast? = some g) (ok : ∀ x ∈ gs, x.Ok 100000) (c : e.out g = .bad x fl u)
    (k : ∀ l H', St' [] H H' → H' l = some (.lst [.str x, u]) → Q (.ref l) H') : spDone K [.ref f, ev] H Q E := by
  refine ⟨f, ev, wd, gs, g, .ed e, rfl, he, hy, ln, hl, ok, ?_⟩
  dsimp only
  rw [c]
  exact k
/-- what both told -/
def Told (H : Hp) (T : Addr) (okb : Bool) (wt wf : Str) : Prop := ∃ l1 l2 x1 x2 v1 v2, H T = some (.lst [.ref l1, .ref l2]) ∧ H l1 = some (.lst [.str x1, v1]) ∧ H l2 = some (.lst [.str x2, v2]) ∧
  ((okb = true ∧ x1 = "ok" ∧ x2 = "ok" ∧ wt = wf) ∨ (okb = false ∧ x1 ≠ "ok" ∧ x2 = x1 ∧ v2 = v1 ∧ TyV H v1))
theorem Told.st {H H' : Hp} {T : Addr} {okb : Bool} {wt wf : Str} (h : Told H T okb wt wf) (s : St' [] H H') : Told H' T okb wt wf := by
  obtain ⟨l1, l2, x1, x2, v1, v2, h1, h2, h3, h4⟩ := h
  refine ⟨l1, l2, x1, x2, v1, v2, s.kp _ _ h1 (by simp), s.kp _ _ h2 (by simp), s.kp _ _ h3 (by simp), ?_⟩
  rcases h4 with h4 | ⟨z1, z2, z3, z4, z5⟩
  · exact .inl h4
  · exact .inr ⟨z1, z2, z3, z4, z5.st s⟩
theorem sc_law : FnScope ["_law_script", "_law_deck_here", "_law_turn", "_law_page", "_law_yard", "_law_pages", "_law_twin", "_law_fresh", "_law_shown", "_law_edit_here", "_law_told", "_law_value", "_law_full", "_law_k"] ["_law_script"] (defScope s_law) := ⟨rfl, rfl, rfl, by decide +kernel, rfl, by decide +kernel, by decide +kernel⟩
def spLaw (K : KF) : Sp := fun vs H Q _ => ∃ (l : Addr) (xs : List Int), vs = [.ref l] ∧ SqL K H l (ivs xs) ∧ xs.length ≤ 1000 ∧ ∀ H', Q (.bl true) H'
theorem ok_law (T : Tx w K mg) (W : Lw w K mg base) : FnG R.prog w K mg base CX0 15 (He.ga K "law") (spLaw K) := by
  have cY := T.cls_Y
  have cF := T.cls_F
  have D__law_deck := W.deck
  have D__law_start := W.start
  have D__law_worked := W.worked
  have D_shows := W.shows
  have KP_shows : PySem.W.keepIn K (.ref (He.ga K "_law_shows")) = true := T.d_law_shows.elim fun _ F => F.kp
  have D__law_small_edit := W.small
  have D__law_done := W.done
  have K_Yard := W.kY
  have K_FullYard := W.kF
  have D_pair := W.pair
  have D_box := W.box
  have D_version := W.version
  have D_news := W.news
  have D_copy := W.copy
  have D_copyF := W.copyF
  have D_eq := W.eq
  have D_eqF := W.eqF
  have D_bool := W.bool
  have D_str := W.str
  obtain ⟨fd_st, FD_st, F_st⟩ := W.state
  obtain ⟨ds_st, d_st, b_st⟩ := state_binds FD_st
  have kb_st := state_kb FD_st
  obtain ⟨fd_ev, G_ev, b_ev⟩ := W.each
  refine fng_of T.d_law sc_law (fun _ _ _ _ _ _ us hl => match us, hl with | [_], _ => rfl) (fun vs H Q E h => by obtain ⟨l, xs, rfl, _⟩ := h; rfl) (fun cdv A outer s H vs Q E hgu hr h => ?_)
  have nd := sc_law.nd
  refine ⟨_, (pss_cons (ps_set (i := 1) nd rfl (by first | exact Or.inl rfl | exact Or.inr rfl) (pe_df D__law_deck hr (by decide) pass0 (pa_cons (pv 0) pa_nil)))
          (pss_cons (ps_for (passes_of rfl) rfl (pi_range1 rfl T.n_range (pa_cons pe_int pa_nil)) (pg_name (i := 2) nd rfl (by first | exact Or.inl rfl | exact Or.inr rfl)) (pss_cons (ps_set (i := 3) nd rfl (by first | exact Or.inl rfl | exact Or.inr rfl) (pe_df D__law_start hr (by decide) pass0 (pa_cons (pv 1) pa_nil)))
          (pss_cons (ps_asg (pe_tup (pa_cons (pe_mky K_Yard hr (by decide) (pa_cons (pe_ix ix_tup (pv 3) pe_int (fun _ _ => rfl)) (pa_cons (pe_ix ix_tup (pv 3) pe_int (fun _ _ => rfl)) pa_nil))) (pa_cons (pe_lst (pa_cons (pv 3) pa_nil)) pa_nil))) (pg_tup rfl (pgs_cons (pg_name (i := 4) nd rfl (by first | exact Or.inl rfl | exact Or.inr rfl)) (pgs_cons (pg_name (i := 5) nd rfl (by first | exact Or.inl rfl | exact Or.inr rfl)) pgs_nil))))
          (pss_cons (ps_expr (pe_df D__law_worked hr (by decide) pass0 (pa_cons (pv 1) (pa_cons (pv 4) (pa_cons (pv 5) pa_nil)))))
          (pss_cons (ps_if (PW.pt (pw_or (pt_cmpR op_ne (pe_callB (call_reprD hgu hr.units) rfl T.n_repr (by decide +kernel) (pa_cons (pe_lc (own := [("_law_k", 13)]) (g := (gName 13)) (tt := tYes) rfl nd (pi_range1 rfl T.n_range (pa_cons (pe_callB call_len_seq rfl T.n_len PySem.boot_len (pa_cons (pv 5) pa_nil)) pa_nil)) (blkOk_by (own := [("_law_k", 13)]) (N := ["_law_script", "_law_deck_here", "_law_turn", "_law_page", "_law_yard", "_law_pages", "_law_twin", "_law_fresh", "_law_shown", "_law_edit_here", "_law_told", "_law_value", "_law_full", "_law_k"]) (sc := defScope s_law) (by decide +kernel)) (fun _ _ _ _ _ => (pg_name (i := 13) nd rfl (by first | exact Or.inl rfl | exact Or.inr rfl))) (fun _ _ _ _ _ => pts_nil) (fun _ _ _ _ _ => (pe_kwm (pv 4) cY T.m_Y_state_at F_st kb_st hr (by decide) pass0 (pv 13) rfl))) pa_nil)) (pe_callB (call_reprD hgu hr.units) rfl T.n_repr (by decide +kernel) (pa_cons (pv 5) pa_nil)) (nomark _)) (pw_or1 (pt_cmpR op_ne (pe_pf (pv 4) cY D_version hr (by decide)) (pe_op op_sub (pe_callB call_len_seq rfl T.n_len PySem.boot_len (pa_cons (pv 5) pa_nil)) pe_int) (nomark _))))) (pss_one (ps_ret pe_bl)) pss_nil)
          (pss_cons (ps_par3 (i := 6) (j := 7) (l := 8) rfl nd rfl rfl rfl (by decide) (by decide) (by decide) rfl rfl rfl (pa_cons (pe_mf0 (pv 4) cY D_copy hr (by decide) pass0) (pa_cons (pe_mky K_Yard hr (by decide) (pa_cons (pe_pf (pv 4) cY D_pair hr (by decide)) (pa_cons (pe_pf (pv 4) cY D_box hr (by decide)) pa_nil))) (pa_cons (pe_dg D_shows KP_shows T.g_law_shows hgu hr (by decide) pass0 (pa_cons (pv 4) pa_nil)) pa_nil))) (by rfl))
          (pss_cons (ps_if (PW.pt (pw_or (pt_not (PW.pt (pw_and (pt_cmpR (op_eqO D_eq (hr.mono (by decide)) pass0) (pv 6) (pv 4) (nomark _)) (pw_and (pt_cmpR (op_eqO D_eq (hr.mono (by decide)) pass0) (pv 4) (pv 6) (nomark _)) (pw_and1 (pt_cmpR (op_eqO D_eq (hr.mono (by decide)) pass0) (pv 7) (pv 4) (nomark _))))))) (pw_or (pt_cmpR (op_neO D_eq T.ne_Y T.ob_Y (hr.mono (by decide)) pass0) (pv 6) (pv 4) (nomark _)) (pw_or1 (pt_cmpR op_ne (pe_dg D_shows KP_shows T.g_law_shows hgu hr (by decide) pass0 (pa_cons (pv 6) pa_nil)) (pv 8) (nomark _)))))) (pss_one (ps_ret pe_bl)) pss_nil)
          (pss_cons (ps_if (PW.pt (pw_or (pt_cmpR (op_neD hr.units) (pe_listG (pgen_meth0 (pv 6) cY T.m_Y_each_version G_ev (hr.mono (by decide)) b_ev .nil) passX0 noStop0 (hr.mono (by decide)) rfl T.n_list (by decide +kernel)) (pe_listG (pgen_meth0 (pv 4) cY T.m_Y_each_version G_ev (hr.mono (by decide)) b_ev .nil) passX0 noStop0 (hr.mono (by decide)) rfl T.n_list (by decide +kernel)) (nomark _)) (pw_or (pt_cmpR op_ne (pe_pf (pv 7) cY D_version hr (by decide)) pe_int (nomark _)) (pw_or1 (pt_cmpR op_ne (pe_pf (pv 7) cY D_news hr (by decide)) pe_str (nomark _)))))) (pss_one (ps_ret pe_bl)) pss_nil)
          (pss_cons (ps_set (i := 9) nd rfl (by first | exact Or.inl rfl | exact Or.inr rfl) (pe_df D__law_small_edit hr (by decide) pass0 (pa_cons (pv 1) (pa_cons (pe_ix ix_list (pv 5) (pe_un un_neg pe_int) (fun _ _ => rfl)) pa_nil))))
          (pss_cons (ps_set (i := 10) nd rfl (by first | exact Or.inl rfl | exact Or.inr rfl) (pe_lst (pa_cons (pe_df D__law_done hr (by decide) pass0 (pa_cons (pv 7) (pa_cons (pv 9) pa_nil))) (pa_cons (pe_df D__law_done hr (by decide) pass0 (pa_cons (pv 6) (pa_cons (pv 9) pa_nil))) pa_nil))))
          (pss_cons (ps_if (PW.pt (pw_or (pt_cmpR op_ne (pe_cmpR op_eq (pe_ix ix_list (pe_ix ix_list (pv 10) pe_int (fun _ _ => rfl)) pe_int (fun _ _ => rfl)) pe_str (nomark _)) (pe_cmpR op_eq (pe_ix ix_list (pe_ix ix_list (pv 10) pe_int (fun _ _ => rfl)) pe_int (fun _ _ => rfl)) pe_str (nomark _)) (nomark _)) (pw_or1 (PW.pt (pw_and (pt_cmpR op_ne (pe_ix ix_list (pe_ix ix_list (pv 10) pe_int (fun _ _ => rfl)) pe_int (fun _ _ => rfl)) pe_str (nomark _)) (pw_and1 (pt_cmpR (op_neS hr.units) (pe_ix ix_list (pv 10) pe_int (fun _ _ => rfl)) (pe_ix ix_list (pv 10) pe_int (fun _ _ => rfl)) (nomark _)))))))) (pss_one (ps_ret pe_bl)) pss_nil)
          (pss_cons (ps_if (PW.pt (pw_or (pt_not (pt_cmpR (op_eqO D_eq (hr.mono (by decide)) pass0) (pv 7) (pv 6) (nomark _))) (pw_or (PW.pt (pw_and (pt_cmpR op_ne (pe_pf (pv 7) cY D_news hr (by decide)) (pe_pf (pv 6) cY D_news hr (by decide)) (nomark _)) (pw_and1 (pt_cmpR op_eq (pe_ix ix_list (pe_ix ix_list (pv 10) pe_int (fun _ _ => rfl)) pe_int (fun _ _ => rfl)) pe_str (nomark _))))) (pw_or1 (pt_cmpR op_ne (pe_dg D_shows KP_shows T.g_law_shows hgu hr (by decide) pass0 (pa_cons (pv 4) pa_nil)) (pv 8) (nomark _)))))) (pss_one (ps_ret pe_bl)) pss_nil)
          (pss_cons (ps_if (pt_cmpR op_ne (pe_cmpR (op_eqO D_eq (hr.mono (by decide)) pass0) (pv 6) (pv 4) (nomark _)) (pe_cmpR (op_eqD hr.units) (pe_meth0 (pv 6) cY T.m_Y_state_at F_st (hr.mono (by decide)) b_st d_st pass0) (pe_meth0 (pv 4) cY T.m_Y_state_at F_st (hr.mono (by decide)) b_st d_st pass0) (nomark _)) (nomark _)) (pss_one (ps_ret pe_bl)) pss_nil)
          (pss_cons (ps_for (passes_of rfl) rfl (pi_list (pe_lst (pa_cons (pe_meth0 (pv 4) cY T.m_Y_state_at F_st (hr.mono (by decide)) b_st d_st pass0) (pa_cons (pe_pf (pv 4) cY D_pair hr (by decide)) (pa_cons (pe_callTy (call_str_own D_str (hr.mono (by decide)) pass0) rfl T.n_str (by decide +kernel) (pa_cons (pv 4) pa_nil)) (pa_cons pe_non (pa_cons pe_int (pa_cons (pe_lst (pa_cons (pv 4) pa_nil)) pa_nil)))))))) (pg_name (i := 11) nd rfl (by first | exact Or.inl rfl | exact Or.inr rfl)) (pss_one (ps_if (PW.pt (pw_or (pt_cmpR (op_eqO D_eq (hr.mono (by decide)) pass0) (pv 4) (pv 11) (nomark _)) (pw_or1 (pt_not (pt_cmpR (op_neO D_eq T.ne_Y T.ob_Y (hr.mono (by decide)) pass0) (pv 4) (pv 11) (nomark _)))))) (pss_one (ps_ret pe_bl)) pss_nil)))
          (pss_one (ps_if (pt_val (pe_callTy (call_bool_own D_bool (hr.mono (by decide)) pass0) rfl T.n_bool (by decide +kernel) (pa_cons (pv 4) pa_nil))) (pss_cons (ps_set (i := 12) nd rfl (by first | exact Or.inl rfl | exact Or.inr rfl) (pe_mky K_FullYard hr (by decide) (pa_cons (pe_pf (pv 4) cY D_pair hr (by decide)) (pa_cons (pe_pf (pv 4) cY D_box hr (by decide)) pa_nil))))
          (pss_cons (ps_if (PW.pt (pw_or (pt_cmpR (op_eqO D_eqF (hr.mono (by decide)) pass0) (pv 12) (pv 4) (nomark _)) (pw_or (pt_cmpR (op_eqR D_eqF T.ne_cls T.sub_F_Y (hr.mono (by decide)) pass0) (pv 4) (pv 12) (nomark _)) (pw_or (pt_not (pt_cmpR (op_eqO D_eqF (hr.mono (by decide)) pass0) (pv 12) (pe_mky K_FullYard hr (by decide) (pa_cons (pe_pf (pv 4) cY D_pair hr (by decide)) (pa_cons (pe_pf (pv 4) cY D_box hr (by decide)) pa_nil))) (nomark _))) (pw_or1 (pt_not (pt_cmpR (op_eqO D_eqF (hr.mono (by decide)) pass0) (pv 12) (pe_mf0 (pv 12) cF D_copyF hr (by decide) pass0) (nomark _)))))))) (pss_one (ps_ret pe_bl)) pss_nil)
          (pss_one (ps_if (PW.pt (pw_or (pt_not (pt_val (pe_callB call_isi rfl T.n_isinstance (by decide +kernel) (pa_cons (pe_mf0 (pv 12) cF D_copyF hr (by decide) pass0) (pa_cons (pe_glob (v := .ref (He.ga _ "FullYard")) rfl T.g_FullYard rfl) pa_nil))))) (pw_or (pt_not (pt_val (pe_callB call_isi rfl T.n_isinstance (by decide +kernel) (pa_cons (pv 12) (pa_cons (pe_glob (v := .ref (He.ga _ "Yard")) rfl T.g_Yard rfl) pa_nil))))) (pw_or1 (pt_val (pe_callB call_isi rfl T.n_isinstance (by decide +kernel) (pa_cons (pe_mf0 (pv 4) cY D_copy hr (by decide) pass0) (pa_cons (pe_glob (v := .ref (He.ga _ "FullYard")) rfl T.g_FullYard rfl) pa_nil)))))))) (pss_one (ps_ret pe_bl)) pss_nil)))) pss_nil))))))))))))))))
          (pss_one (ps_ret pe_bl)))), ?_⟩
  obtain ⟨l, xs, rfl, hl, ln, q⟩ := h
  refine seq_cut (P := fun σ H' => ∃ d a b, σ = [some (.ref l), some (.ref d), none, none, none, none, none, none, none, none, none, none, none, none] ∧ Dk H' d a b) (fun N hN => ?_) ?_
  · simp only [tRet, tAndV, tOrV, tNotV, tCB, tCons, tNil, tC, tVar, tChain, rI0, tIfS, tTest, tOp, tUn, rU, rI, tPar3, tBM, tBM0, tM1, gSub, tXm, tCon, tProp, tMethR, rEq, rNe, rIxT, rIxL, decide_true, decide_false, tAnd, tOr, tNot, tB, tSeq, tAsg, gName, tDrop, tNext, tTup, tLst, tIf, tDf, tFld, tMf0, tPart, tSl, tNoPart, tPar, gTup, gLst, gCons, gNil, L2.start, List.map_cons, List.map_nil, List.length_cons, List.length_nil, Nat.zero_add, Nat.sub_self, Nat.reduceAdd, Nat.reduceSub, List.replicate_zero, List.replicate_succ, List.append_nil, List.nil_append, List.cons_append, List.getElem?_cons_zero, List.getElem?_cons_succ, List.set_cons_zero, List.set_cons_succ, Option.some.injEq, exists_and_left, exists_eq_left', exists_eq_left, V.int.injEq, V.bl.injEq, V.str.injEq, V.ref.injEq, List.cons.injEq, and_true, true_and, if_true, if_false, Bool.false_eq_true, reduceCtorEq, Bool.not_true, Bool.not_false, cxOf]
    exact ⟨l, xs, rfl, hl, ln, fun d a b H1 s1 dk => hN _ _ ⟨d, a, b, rfl, dk⟩⟩
  rintro σ1 H1 ⟨d, a, b, rfl, dk1⟩
  refine seq_cut (P := fun σ H' => True) (fun N hN => ?_) (fun σ' H' _ => ?_)
  · refine ⟨5, rfl, by decide, by decide, for_range (n := 5) (fun i σ H' => (∃ u2 u3 u4 u5 u6 u7 u8 u9 u10 u11 u12 u13, σ = [some (.ref l), some (.ref d), u2, u3, u4, u5, u6, u7, u8, u9, u10, u11, u12, u13]) ∧ Dk H' d a b) ⟨⟨_, _, _, _, _, _, _, _, _, _, _, _, rfl⟩, dk1⟩ ?_ ?_⟩
    · rintro i σ H2 hi ⟨⟨u2, u3, u4, u5, u6, u7, u8, u9, u10, u11, u12, u13, rfl⟩, dk2⟩
      refine seq_cut (P := fun σ H' => ∃ u2 pv g, σ = [some (.ref l), some (.ref d), u2, some pv, u4, u5, u6, u7, u8, u9, u10, u11, u12, u13] ∧ Dk H' d a b ∧ PgAt H' pv g ∧ g.Ok 3000) (fun N hN => ?_) ?_
      · simp only [tRet, tAndV, tOrV, tNotV, tCB, tCons, tNil, tC, tVar, tChain, rI0, tIfS, tTest, tOp, tUn, rU, rI, tPar3, tBM, tBM0, tM1, gSub, tXm, tCon, tProp, tMethR, rEq, rNe, rIxT, rIxL, decide_true, decide_false, tAnd, tOr, tNot, tB, tSeq, tAsg, gName, tDrop, tNext, tTup, tLst, tIf, tDf, tFld, tMf0, tPart, tSl, tNoPart, tPar, gTup, gLst, gCons, gNil, L2.start, List.map_cons, List.map_nil, List.length_cons, List.length_nil, Nat.zero_add, Nat.sub_self, Nat.reduceAdd, Nat.reduceSub, List.replicate_zero, List.replicate_succ, List.append_nil, List.nil_append, List.cons_append, List.getElem?_cons_zero, List.getElem?_cons_succ, List.set_cons_zero, List.set_cons_succ, Option.some.injEq, exists_and_left, exists_eq_left', exists_eq_left, V.int.injEq, V.bl.injEq, V.str.injEq, V.ref.injEq, List.cons.injEq, and_true, true_and, if_true, if_false, Bool.false_eq_true, reduceCtorEq, Bool.not_true, Bool.not_false, cxOf]
        exact ⟨d, a, b, rfl, dk2, fun v g H3 s3 dk3 hp ok => hN _ _ ⟨_, v, g, rfl, dk3, hp, ok⟩⟩
      rintro σ3 H3 ⟨u2, pv, g0, rfl, dk3, hp0, ok0⟩
      refine seq_cut (P := fun σ H' => ∃ y L, σ = [some (.ref l), some (.ref d), u2, some pv, some (.ref y), some (.ref L), u6, u7, u8, u9, u10, u11, u12, u13] ∧ Far d a b y L ∧ Wk K H' d a b y L [g0] "same") (fun N hN => ?_) ?_
      · obtain ⟨pa, pp, pb, rfl, hpa, hpp, hpb⟩ := id hp0
        simp only [tRet, tAndV, tOrV, tNotV, tCB, tCons, tNil, tC, tVar, tChain, rI0, tIfS, tTest, tOp, tUn, rU, rI, tPar3, tBM, tBM0, tM1, gSub, tXm, tCon, tProp, tMethR, rEq, rNe, rIxT, rIxL, decide_true, decide_false, tAnd, tOr, tNot, tB, tSeq, tAsg, gName, tDrop, tNext, tTup, tLst, tIf, tDf, tFld, tMf0, tPart, tSl, tNoPart, tPar, gTup, gLst, gCons, gNil, L2.start, List.map_cons, List.map_nil, List.length_cons, List.length_nil, Nat.zero_add, Nat.sub_self, Nat.reduceAdd, Nat.reduceSub, List.replicate_zero, List.replicate_succ, List.append_nil, List.nil_append, List.cons_append, List.getElem?_cons_zero, List.getElem?_cons_succ, List.set_cons_zero, List.set_cons_succ, Option.some.injEq, exists_and_left, exists_eq_left', exists_eq_left, V.int.injEq, V.bl.injEq, V.str.injEq, V.ref.injEq, List.cons.injEq, and_true, true_and, if_true, if_false, Bool.false_eq_true, reduceCtorEq, Bool.not_true, Bool.not_false, cxOf]
        refine ⟨_, rfl, _, _, 0, _, rfl, rfl, SqT.of hpa, rfl, _, rfl, _, _, 1, _, rfl, rfl, SqT.of hpa, rfl, fun x dx nx nd ne => ?_⟩
        have s1 := (St'.refl (M := []) (H := H3)).new (p := dx) (o := .own x) nd
        have s2 := s1.own (p := x) (o := .ins (Y K) dx []) nx
        refine ⟨x, pp, pb, dx, g0, rfl, upd_same, hpp.st s2, s2.tp _ _ hpb, ok0.mono (by decide), fun H4 s4 hy => ⟨rfl, by decide, fun L nL => ?_⟩⟩
        have s24 := s2.born nx s4
        have dk4 := dk3.st s24
        have s5 := (St'.refl (M := []) (H := H4)).new (p := L) (o := .lst [.ref pa]) nL
        refine ⟨by decide, fun t nt => ⟨_, SqT.of upd_same, rfl, _, _, rfl, _, _, rfl, rfl, hN _ _ ⟨x, L, rfl, ?_, ?_⟩⟩⟩
        · have nn := dk4.nin nL
          obtain ⟨as, bs, c, _, _, hb, _⟩ := dk4.ex
          simp at nn
          refine ⟨fun z => nn.1 z.symm, fun z => nn.2 z.symm, ?_⟩
          rintro rfl
          rw [nL] at hb
          cases hb
        · have s6 := (St'.refl (M := []) (H := upd H4 L (.lst [.ref pa]))).new (p := t) (o := .tup [.ref x, .ref L]) nt
          have s56 := s5.trans s6
          exact ⟨dk4.st s56, hy.st s56 (by simp), ⟨[.ref pa], s6.kp _ _ upd_same (by simp), (hp0.st s24).st s56, trivial⟩, by simp, by simpa using ok0, .inl rfl⟩
      rintro σ4 H4 ⟨y, L, rfl, far, wk4⟩
      refine seq_cut (P := fun σ H' => ∃ gs wd, σ = [some (.ref l), some (.ref d), u2, some pv, some (.ref y), some (.ref L), u6, u7, u8, u9, u10, u11, u12, u13] ∧ Wk K H' d a b y L gs wd ∧ gs.length ≤ 9) (fun N hN => ?_) ?_
      · simp only [tRet, tAndV, tOrV, tNotV, tCB, tCons, tNil, tC, tVar, tChain, rI0, tIfS, tTest, tOp, tUn, rU, rI, tPar3, tBM, tBM0, tM1, gSub, tXm, tCon, tProp, tMethR, rEq, rNe, rIxT, rIxL, decide_true, decide_false, tAnd, tOr, tNot, tB, tSeq, tAsg, gName, tDrop, tNext, tTup, tLst, tIf, tDf, tFld, tMf0, tPart, tSl, tNoPart, tPar, gTup, gLst, gCons, gNil, L2.start, List.map_cons, List.map_nil, List.length_cons, List.length_nil, Nat.zero_add, Nat.sub_self, Nat.reduceAdd, Nat.reduceSub, List.replicate_zero, List.replicate_succ, List.append_nil, List.nil_append, List.cons_append, List.getElem?_cons_zero, List.getElem?_cons_succ, List.set_cons_zero, List.set_cons_succ, Option.some.injEq, exists_and_left, exists_eq_left', exists_eq_left, V.int.injEq, V.bl.injEq, V.str.injEq, V.ref.injEq, List.cons.injEq, and_true, true_and, if_true, if_false, Bool.false_eq_true, reduceCtorEq, Bool.not_true, Bool.not_false, cxOf]
        exact ⟨d, a, b, y, L, [g0], "same", rfl, far, wk4, rfl, fun H5 gs wd s5 wk5 ln5 => hN _ _ ⟨gs, wd, rfl, wk5, ln5⟩⟩
      rintro σ5 H5 ⟨gs, wd, rfl, wk5, ln5⟩
      obtain ⟨gl, hl5⟩ := AllAt.mem_last wk5.ne
      have okl := wk5.ok gl (List.mem_of_getLast? hl5)
      refine seq_cut (P := fun σ H' => ∃ u13, σ = [some (.ref l), some (.ref d), u2, some pv, some (.ref y), some (.ref L), u6, u7, u8, u9, u10, u11, u12, u13] ∧ Wk K H' d a b y L gs wd) (fun N hN => ?_) ?_
      · obtain ⟨ps, hL, hal⟩ := wk5.pg
        obtain ⟨dx, ap, al, gx, hyi, _⟩ := id wk5.yd
        simp only [tRet, tAndV, tOrV, tNotV, tCB, tCons, tNil, tC, tVar, tChain, rI0, tIfS, tTest, tOp, tUn, rU, rI, tPar3, tBM, tBM0, tM1, gSub, tXm, tCon, tProp, tMethR, rEq, rNe, rIxT, rIxL, decide_true, decide_false, tAnd, tOr, tNot, tB, tSeq, tAsg, gName, tDrop, tNext, tTup, tLst, tIf, tDf, tFld, tMf0, tPart, tSl, tNoPart, tPar, gTup, gLst, gCons, gNil, L2.start, List.map_cons, List.map_nil, List.length_cons, List.length_nil, Nat.zero_add, Nat.sub_self, Nat.reduceAdd, Nat.reduceSub, List.replicate_zero, List.replicate_succ, List.append_nil, List.nil_append, List.cons_append, List.getElem?_cons_zero, List.getElem?_cons_succ, List.set_cons_zero, List.set_cons_succ, Option.some.injEq, exists_and_left, exists_eq_left', exists_eq_left, V.int.injEq, V.bl.injEq, V.str.injEq, V.ref.injEq, List.cons.injEq, and_true, true_and, if_true, if_false, Bool.false_eq_true, reduceCtorEq, Bool.not_true, Bool.not_false, cxOf]
        have len := hal.len
        refine ⟨_, rfl, L, rfl, _, .inl (SqL.of hL), _, rfl, by omega, by omega, fun D nD => ?_⟩
        refine lc_range (fun i H' => ∃ acc, H' D = some (.lst acc) ∧ AllAt H' acc (gs.take i) ∧ St' [] H5 H') ⟨[], upd_same, trivial, St'.refl.new nD⟩ ?_ ?_
        · rintro i H' hi' ⟨acc, hacc, hal', st⟩
          have hi2 : i < gs.length := by omega
          have hyi' := st.kp _ _ hyi (by simp)
          have al' := hal'.len
          have tl := List.length_take_le' i gs
          rw [Int.zero_add]
          simp only [wipe, tYes, tCB, tKwM, tRet, tAndV, tOrV, tNotV, tCB, tCons, tNil, tC, tVar, tChain, rI0, tIfS, tTest, tOp, tUn, rU, rI, tPar3, tBM, tBM0, tM1, gSub, tXm, tCon, tProp, tMethR, rEq, rNe, rIxT, rIxL, decide_true, decide_false, tAnd, tOr, tNot, tB, tSeq, tAsg, gName, tDrop, tNext, tTup, tLst, tIf, tDf, tFld, tMf0, tPart, tSl, tNoPart, tPar, gTup, gLst, gCons, gNil, L2.start, List.map_cons, List.map_nil, List.length_cons, List.length_nil, Nat.zero_add, Nat.sub_self, Nat.reduceAdd, Nat.reduceSub, List.replicate_zero, List.replicate_succ, List.append_nil, List.nil_append, List.cons_append, List.getElem?_cons_zero, List.getElem?_cons_succ, List.set_cons_zero, List.set_cons_succ, Option.some.injEq, exists_and_left, exists_eq_left', exists_eq_left, V.int.injEq, V.bl.injEq, V.str.injEq, V.ref.injEq, List.cons.injEq, and_true, true_and, if_true, if_false, Bool.false_eq_true, reduceCtorEq, Bool.not_true, Bool.not_false, cxOf]
          refine ⟨_, _, hyi', rfl, y, .int i, wd, gs, gs[i], rfl, wk5.yd.st st (by simp), .inr ⟨i, rfl, List.getElem?_eq_getElem hi2⟩, fun p hp => ⟨acc, hacc, by simp only [sizeLine]; omega, acc ++ [p], by rw [upd_same], ?_, st.own nD⟩⟩
          have s5 : St' [D] H' (upd H' D (.lst (acc ++ [p]))) := St'.refl.putL (by simp) hacc
          rw [List.take_add_one, List.getElem?_eq_getElem hi2]
          exact AllAt.snoc (hp.st s5) (AllAt.st s5 hal')
        · rintro H1 ⟨acc, hacc, hal', st⟩
          have hal2 : AllAt H1 acc gs := by rw [len, Int.toNat_natCast, List.take_length] at hal'; exact hal'
          have okA : ∀ x ∈ gs, x.Ok 100000 := fun x hx => (wk5.ok x hx).mono (by decide)
          have sh := sh_pages okA ln5
          have dh := Nat.le_trans (dh_pages gs) (show 4 ≤ 60 by decide)
          have hL1 := st.kp _ _ hL (by simp)
          have z := Nat.le_trans sh.1 sl1469
          obtain ⟨dx1, ap1, al1, hyi1⟩ := (wk5.yd.st st (by simp)).ins
          refine ⟨D, rfl, .list (gs.map dPg), .lst (SqL.of hacc) (dp_all hal2), sh.2.1, sh.2.2, dh, z, .list (gs.map dPg), .lst (SqL.of hL1) (dp_all (AllAt.st st hal)), sh.2.1, sh.2.2, dh, z, rfl, ?_⟩
          rw [if_neg (by simp)]
          refine ⟨_, _, hyi1, y, wd, gs, rfl, wk5.yd.st st (by simp), _, .inl (SqL.of hL1), rfl, ?_⟩
          rw [if_neg (by simp [len])]
          exact hN _ _ ⟨_, rfl, wk5.st st⟩
      rintro σ6 H6 ⟨u13, rfl, wk6⟩
      refine seq_cut (P := fun σ H' => ∃ t f, σ = [some (.ref l), some (.ref d), u2, some pv, some (.ref y), some (.ref L), some (.ref t), some (.ref f), some (.str (showsD gl gs.length wd).shown), u9, u10, u11, u12, u13] ∧ Tr K H' d a b y L gs wd t gs wd f [gl] "same") (fun N hN => ?_) ?_
      · obtain ⟨dx, ap, al, hyi⟩ := wk6.yd.ins
        have ok1 : gl.Ok 100000 := okl.mono (by decide)
        simp only [tRet, tAndV, tOrV, tNotV, tCB, tCons, tNil, tC, tVar, tChain, rI0, tIfS, tTest, tOp, tUn, rU, rI, tPar3, tBM, tBM0, tM1, gSub, tXm, tCon, tProp, tMethR, rEq, rNe, rIxT, rIxL, decide_true, decide_false, tAnd, tOr, tNot, tB, tSeq, tAsg, gName, tDrop, tNext, tTup, tLst, tIf, tDf, tFld, tMf0, tPart, tSl, tNoPart, tPar, gTup, gLst, gCons, gNil, L2.start, List.map_cons, List.map_nil, List.length_cons, List.length_nil, Nat.zero_add, Nat.sub_self, Nat.reduceAdd, Nat.reduceSub, List.replicate_zero, List.replicate_succ, List.append_nil, List.nil_append, List.cons_append, List.getElem?_cons_zero, List.getElem?_cons_succ, List.set_cons_zero, List.set_cons_succ, Option.some.injEq, exists_and_left, exists_eq_left', exists_eq_left, V.int.injEq, V.bl.injEq, V.str.injEq, V.ref.injEq, List.cons.injEq, and_true, true_and, if_true, if_false, Bool.false_eq_true, reduceCtorEq, Bool.not_true, Bool.not_false, cxOf]
        refine ⟨_, _, hyi, rfl, y, wd, gs, gl, rfl, wk6.yd, hl5, ok1, fun z => (by cases z), fun t H1 s1 nt ht => ?_⟩
        have wk1 := wk6.st s1
        obtain ⟨dx1, ap1, al1, hyi1⟩ := wk1.yd.ins
        refine ⟨_, rfl, y, dx1, _, rfl, hyi1, y, wd, gs, gl, rfl, wk1.yd, hl5, fun p hp => ⟨_, rfl, y, dx1, _, rfl, hyi1, y, wd, gs, gl, rfl, wk1.yd, hl5, fun bx hb => fun x dx2 nx nd ne => ?_⟩⟩
        have s2 := (St'.refl (M := []) (H := H1)).new (p := dx2) (o := .own x) nd
        have s3 := s2.own (p := x) (o := .ins (Y K) dx2 []) nx
        refine ⟨x, p, bx, dx2, gl, rfl, upd_same, hp.st s3, s3.tp _ _ hb, okl.mono (by decide), fun H2 s4 hf => ⟨rfl, ?_⟩⟩
        have s34 := s3.born nx s4
        have wk2 := wk1.st s34
        refine ⟨y, wd, gs, gl, rfl, wk2.yd, hl5, ok1, by omega, wk2.nw, fun H3 s5 => ?_⟩
        obtain ⟨_, _, _, hti⟩ := ht.ins
        refine ⟨_, _, _, ⟨rfl, rfl, rfl⟩, hN _ _ ⟨t, x, rfl, wk2.st s5, (ht.st s34 (by simp)).st s5 (by simp), hf.st s5 (by simp), ?_, ?_, ?_⟩⟩
        · rintro rfl; rw [nt] at hyi; cases hyi
        · rintro rfl; rw [nx] at hyi1; cases hyi1
        · rintro rfl; rw [nx] at hti; cases hti
      rintro σ7 H7 ⟨t, f, rfl, tr7⟩
      have hl1 : ([gl] : List Pg).getLast? = some gl := rfl
      refine seq_cut (P := fun σ H' => σ = [some (.ref l), some (.ref d), u2, some pv, some (.ref y), some (.ref L), some (.ref t), some (.ref f), some (.str (showsD gl gs.length wd).shown), u9, u10, u11, u12, u13] ∧ Tr K H' d a b y L gs wd t gs wd f [gl] "same") (fun N hN => ?_) ?_
      · simp only [tRet, tAndV, tOrV, tNotV, tCB, tCons, tNil, tC, tVar, tChain, rI0, tIfS, tTest, tOp, tUn, rU, rI, tPar3, tBM, tBM0, tM1, gSub, tXm, tCon, tProp, tMethR, rEq, rNe, rIxT, rIxL, decide_true, decide_false, tAnd, tOr, tNot, tB, tSeq, tAsg, gName, tDrop, tNext, tTup, tLst, tIf, tDf, tFld, tMf0, tPart, tSl, tNoPart, tPar, gTup, gLst, gCons, gNil, L2.start, List.map_cons, List.map_nil, List.length_cons, List.length_nil, Nat.zero_add, Nat.sub_self, Nat.reduceAdd, Nat.reduceSub, List.replicate_zero, List.replicate_succ, List.append_nil, List.nil_append, List.cons_append, List.getElem?_cons_zero, List.getElem?_cons_succ, List.set_cons_zero, List.set_cons_succ, Option.some.injEq, exists_and_left, exists_eq_left', exists_eq_left, V.int.injEq, V.bl.injEq, V.str.injEq, V.ref.injEq, List.cons.injEq, and_true, true_and, if_true, if_false, Bool.false_eq_true, reduceCtorEq, Bool.not_true, Bool.not_false, cxOf]
        refine eq_yy T tr7.tw hl5 tr7.wk.yd hl5 ?_
        rw [pgEq_refl]
        refine ⟨true, rfl, ?_⟩
        rw [if_pos rfl]
        refine eq_yy T tr7.wk.yd hl5 tr7.tw hl5 ?_
        rw [pgEq_refl]
        refine ⟨true, rfl, ?_⟩
        rw [if_pos rfl]
        refine eq_yy T tr7.fr hl1 tr7.wk.yd hl5 ?_
        rw [pgEq_refl]
        refine ⟨true, rfl, ?_⟩
        rw [if_neg (by simp)]
        refine ne_yy T tr7.tw hl5 tr7.wk.yd hl5 ?_
        rw [pgEq_refl]
        refine ⟨false, rfl, ?_⟩
        rw [if_neg (by simp)]
        refine ⟨t, wd, gs, gl, rfl, tr7.tw, hl5, okl.mono (by decide), by omega, tr7.wk.nw, fun H' s' => ⟨rfl, ?_⟩⟩
        rw [if_neg (by simp)]
        exact hN _ _ ⟨rfl, tr7.st s'⟩
      rintro σ8 H8 ⟨rfl, tr8⟩
      refine seq_cut (P := fun σ H' => σ = [some (.ref l), some (.ref d), u2, some pv, some (.ref y), some (.ref L), some (.ref t), some (.ref f), some (.str (showsD gl gs.length wd).shown), u9, u10, u11, u12, u13] ∧ Tr K H' d a b y L gs wd t gs wd f [gl] "same") (fun N hN => ?_) ?_
      · simp only [tListG, tMethG, tRet, tAndV, tOrV, tNotV, tCB, tCons, tNil, tC, tVar, tChain, rI0, tIfS, tTest, tOp, tUn, rU, rI, tPar3, tBM, tBM0, tM1, gSub, tXm, tCon, tProp, tMethR, rEq, rNe, rIxT, rIxL, decide_true, decide_false, tAnd, tOr, tNot, tB, tSeq, tAsg, gName, tDrop, tNext, tTup, tLst, tIf, tDf, tFld, tMf0, tPart, tSl, tNoPart, tPar, gTup, gLst, gCons, gNil, L2.start, List.map_cons, List.map_nil, List.length_cons, List.length_nil, Nat.zero_add, Nat.sub_self, Nat.reduceAdd, Nat.reduceSub, List.replicate_zero, List.replicate_succ, List.append_nil, List.nil_append, List.cons_append, List.getElem?_cons_zero, List.getElem?_cons_succ, List.set_cons_zero, List.set_cons_succ, Option.some.injEq, exists_and_left, exists_eq_left', exists_eq_left, V.int.injEq, V.bl.injEq, V.str.injEq, V.ref.injEq, List.cons.injEq, and_true, true_and, if_true, if_false, Bool.false_eq_true, reduceCtorEq, Bool.not_true, Bool.not_false, cxOf]
        obtain ⟨_, _, _, hti⟩ := tr8.tw.ins
        have okA : ∀ x ∈ gs, x.Ok 100000 := fun x hx => (tr8.wk.ok x hx).mono (by decide)
        refine ⟨_, _, hti, rfl, t, wd, gs, rfl, tr8.tw, by omega, okA, fun out H1 s1 hv1 p np => ?_⟩
        have s2 := (St'.refl (M := []) (H := H1)).new (p := p) (o := .lst out) np
        have tr2 := (tr8.st s1).st s2
        obtain ⟨_, _, _, hyi⟩ := tr2.wk.yd.ins
        refine ⟨_, _, hyi, rfl, y, wd, gs, rfl, tr2.wk.yd, by omega, okA, fun out2 H3 s3 hv2 p2 np2 => ?_⟩
        have s4 := (St'.refl (M := []) (H := H3)).new (p := p2) (o := .lst out2) np2
        have tr4 := (tr2.st s3).st s4
        obtain ⟨_, _, _, hfi⟩ := tr4.fr.ins
        refine ⟨.list (dVers 0 gs), .list (dVers 0 gs), .lst (SqL.of (s4.kp _ _ (s3.kp _ _ upd_same (by simp)) (by simp))) (dp_vers (VersAt.st ((s2.trans s3).trans s4) hv1)), .lst (SqL.of upd_same) (dp_vers (VersAt.st s4 hv2)), (Pl.lst (n := 2) (pl_vers 0 gs)).sh, (Pl.lst (n := 2) (pl_vers 0 gs)).sh, _, rfl, ?_⟩
        rw [if_neg (by simp [PyData.eqv, eqv_vers])]
        refine ⟨_, _, hfi, f, "same", [gl], rfl, tr4.fr, rfl, ?_⟩
        rw [if_neg (by simp)]
        refine ⟨_, _, hfi, f, "same", [gl], rfl, tr4.fr, rfl, ?_⟩
        rw [if_neg (by simp)]
        exact hN _ _ ⟨rfl, tr4⟩
      rintro σ9 H9 ⟨rfl, tr9⟩
      refine seq_cut (P := fun σ H' => ∃ ev e, σ = [some (.ref l), some (.ref d), u2, some pv, some (.ref y), some (.ref L), some (.ref t), some (.ref f), some (.str (showsD gl gs.length wd).shown), some ev, u10, u11, u12, u13] ∧ Tr K H' d a b y L gs wd t gs wd f [gl] "same" ∧ EdAt H' ev e ∧ (∀ g', e.out gl = .ok g' → g'.Ok 3000)) (fun N hN => ?_) ?_
      · obtain ⟨ps, hL, hal⟩ := tr9.wk.pg
        obtain ⟨pv', hpv, hpg⟩ := hal.last hl5
        simp only [tRet, tAndV, tOrV, tNotV, tCB, tCons, tNil, tC, tVar, tChain, rI0, tIfS, tTest, tOp, tUn, rU, rI, tPar3, tBM, tBM0, tM1, gSub, tXm, tCon, tProp, tMethR, rEq, rNe, rIxT, rIxL, decide_true, decide_false, tAnd, tOr, tNot, tB, tSeq, tAsg, gName, tDrop, tNext, tTup, tLst, tIf, tDf, tFld, tMf0, tPart, tSl, tNoPart, tPar, gTup, gLst, gCons, gNil, L2.start, List.map_cons, List.map_nil, List.length_cons, List.length_nil, Nat.zero_add, Nat.sub_self, Nat.reduceAdd, Nat.reduceSub, List.replicate_zero, List.replicate_succ, List.append_nil, List.nil_append, List.cons_append, List.getElem?_cons_zero, List.getElem?_cons_succ, List.set_cons_zero, List.set_cons_succ, Option.some.injEq, exists_and_left, exists_eq_left', exists_eq_left, V.int.injEq, V.bl.injEq, V.str.injEq, V.ref.injEq, List.cons.injEq, and_true, true_and, if_true, if_false, Bool.false_eq_true, reduceCtorEq, Bool.not_true, Bool.not_false, cxOf]
        exact ⟨_, SqL.of hL, pv', hpv, d, a, b, pv', gl, rfl, tr9.wk.dk, hpg, okl, fun v e H' s' dk' he oke => hN _ _ ⟨v, e, rfl, tr9.std far s' dk', he, oke⟩⟩
      rintro σ10 H10 ⟨ev, e, rfl, tr10, he10, oke⟩
      refine seq_cut (P := fun σ H' => ∃ T' gt wt gf wf ge okb, σ = [some (.ref l), some (.ref d), u2, some pv, some (.ref y), some (.ref L), some (.ref t), some (.ref f), some (.str (showsD gl gs.length wd).shown), some ev, some (.ref T'), u11, u12, u13] ∧ Tr K H' d a b y L gs wd t gt wt f gf wf ∧ gt.getLast? = some ge ∧ gf.getLast? = some ge ∧ ge.Ok 100000 ∧ Told H' T' okb wt wf) (fun N hN => ?_) ?_
      · obtain ⟨_, _, _, hfi⟩ := tr10.fr.ins
        have okA : ∀ x ∈ gs, x.Ok 100000 := fun x hx => (tr10.wk.ok x hx).mono (by decide)
        have ok1 : ∀ x ∈ ([gl] : List Pg), x.Ok 100000 := fun x hx => by rw [List.mem_singleton.mp hx]; exact okl.mono (by decide)
        simp only [tRet, tAndV, tOrV, tNotV, tCB, tCons, tNil, tC, tVar, tChain, rI0, tIfS, tTest, tOp, tUn, rU, rI, tPar3, tBM, tBM0, tM1, gSub, tXm, tCon, tProp, tMethR, rEq, rNe, rIxT, rIxL, decide_true, decide_false, tAnd, tOr, tNot, tB, tSeq, tAsg, gName, tDrop, tNext, tTup, tLst, tIf, tDf, tFld, tMf0, tPart, tSl, tNoPart, tPar, gTup, gLst, gCons, gNil, L2.start, List.map_cons, List.map_nil, List.length_cons, List.length_nil, Nat.zero_add, Nat.sub_self, Nat.reduceAdd, Nat.reduceSub, List.replicate_zero, List.replicate_succ, List.append_nil, List.nil_append, List.cons_append, List.getElem?_cons_zero, List.getElem?_cons_succ, List.set_cons_zero, List.set_cons_succ, Option.some.injEq, exists_and_left, exists_eq_left', exists_eq_left, V.int.injEq, V.bl.injEq, V.str.injEq, V.ref.injEq, List.cons.injEq, and_true, true_and, if_true, if_false, Bool.false_eq_true, reduceCtorEq, Bool.not_true, Bool.not_false, cxOf]
        cases c : e.out gl with
        | ok g' =>
          have ok' := (oke g' c).mono (show (3000 : Int) ≤ 100000 by decide)
          refine done_ok he10 tr10.fr (by simp) hl1 ok1 c ok' fun l1 n1 H1 s1 h1 hf1 => ?_
          have tw1 := tr10.tw.st s1 (by simp; exact tr10.tf)
          have wk1 := tr10.wk.off hfi tr10.yf s1
          obtain ⟨_, _, _, hti⟩ := tw1.ins
          refine done_ok (he10.st s1) tw1 (by omega) hl5 okA c ok' fun l2 n2 H2 s2 h2 ht2 => ⟨by decide, fun T' nT => ?_⟩
          have wk2 := wk1.off hti tr10.yt s2
          have hf2 := hf1.st s2 (by simp; exact tr10.tf.symm)
          have h12 := s2.kp _ _ h1 (by simp; rintro rfl; rw [h1] at hti; cases hti)
          have s3 := (St'.refl (M := []) (H := H2)).new (p := T') (o := .lst [.ref l1, .ref l2]) nT
          exact hN _ _ ⟨T', gs ++ [g'], _, [gl] ++ [g'], _, g', true, rfl, ⟨wk2.st s3, ht2.st s3 (by simp), hf2.st s3 (by simp), tr10.yt, tr10.yf, tr10.tf⟩, by simp, by simp, ok', l1, l2, "ok", "ok", _, _, upd_same, s3.kp _ _ h12 (by simp), s3.kp _ _ h2 (by simp), .inl ⟨rfl, rfl, rfl, rfl⟩⟩
        | bad x fl u =>
          have tu := Ed.bad_ty c he10.choose_spec.2.2
          refine done_bad he10 tr10.fr (by simp) hl1 ok1 c fun l1 H1 s1 h1 => ?_
          have tr1 := tr10.st s1
          refine done_bad (he10.st s1) tr1.tw (by omega) hl5 okA c fun l2 H2 s2 h2 => ⟨by decide, fun T' nT => ?_⟩
          have s3 := (St'.refl (M := []) (H := H2)).new (p := T') (o := .lst [.ref l1, .ref l2]) nT
          have nx : x ≠ "ok" := by
            rcases Ed.out_bad c with ⟨rfl, _⟩ | ⟨rfl, _⟩ | ⟨rfl, _⟩ | ⟨rfl, _⟩ | ⟨rfl, _⟩ <;> decide
          exact hN _ _ ⟨T', gs, wd, [gl], "same", gl, false, rfl, (tr1.st s2).st s3, hl5, rfl, okl.mono (by decide), l1, l2, x, x, u, u, upd_same, s3.kp _ _ (s2.kp _ _ h1 (by simp)) (by simp), s3.kp _ _ h2 (by simp), .inr ⟨rfl, nx, rfl, rfl, tu.st ((s1.trans s2).trans s3)⟩⟩
      rintro σ11 H11 ⟨T', gt, wt, gf, wf, ge, okb, rfl, tr11, hlt, hlf, okg, told11⟩
      refine seq_cut (P := fun σ H' => σ = [some (.ref l), some (.ref d), u2, some pv, some (.ref y), some (.ref L), some (.ref t), some (.ref f), some (.str (showsD gl gs.length wd).shown), some ev, some (.ref T'), u11, u12, u13] ∧ Tr K H' d a b y L gs wd t gt wt f gf wf ∧ Told H' T' okb wt wf) (fun N hN => ?_) ?_
      · simp only [tRet, tAndV, tOrV, tNotV, tCB, tCons, tNil, tC, tVar, tChain, rI0, tIfS, tTest, tOp, tUn, rU, rI, tPar3, tBM, tBM0, tM1, gSub, tXm, tCon, tProp, tMethR, rEq, rNe, rIxT, rIxL, decide_true, decide_false, tAnd, tOr, tNot, tB, tSeq, tAsg, gName, tDrop, tNext, tTup, tLst, tIf, tDf, tFld, tMf0, tPart, tSl, tNoPart, tPar, gTup, gLst, gCons, gNil, L2.start, List.map_cons, List.map_nil, List.length_cons, List.length_nil, Nat.zero_add, Nat.sub_self, Nat.reduceAdd, Nat.reduceSub, List.replicate_zero, List.replicate_succ, List.append_nil, List.nil_append, List.cons_append, List.getElem?_cons_zero, List.getElem?_cons_succ, List.set_cons_zero, List.set_cons_succ, Option.some.injEq, exists_and_left, exists_eq_left', exists_eq_left, V.int.injEq, V.bl.injEq, V.str.injEq, V.ref.injEq, List.cons.injEq, and_true, true_and, if_true, if_false, Bool.false_eq_true, reduceCtorEq, Bool.not_true, Bool.not_false, cxOf]
        obtain ⟨l1, l2, x1, x2, v1, v2, hT, h1, h2, hr⟩ := id told11
        rcases hr with ⟨rfl, rfl, rfl, ew⟩ | ⟨rfl, nx, rfl, rfl, tu⟩
        · refine ⟨_, SqL.of hT, _, atI_nat (j := 0) rfl, l1, rfl, _, SqL.of h1, _, atI_nat (j := 0) rfl, rfl, _, SqL.of hT, _, atI_nat (j := 1) rfl, l2, rfl, _, SqL.of h2, _, atI_nat (j := 0) rfl, rfl, rfl, ?_⟩
          rw [if_neg (by simp)]
          refine ⟨_, SqL.of hT, _, atI_nat (j := 0) rfl, l1, rfl, _, SqL.of h1, _, atI_nat (j := 0) rfl, rfl, ?_⟩
          rw [if_neg (by simp)]
          exact hN _ _ ⟨rfl, tr11, told11⟩
        · refine ⟨_, SqL.of hT, _, atI_nat (j := 0) rfl, l1, rfl, _, SqL.of h1, _, atI_nat (j := 0) rfl, rfl, _, SqL.of hT, _, atI_nat (j := 1) rfl, l2, rfl, _, SqL.of h2, _, atI_nat (j := 0) rfl, rfl, rfl, ?_⟩
          rw [if_neg (by simp)]
          refine ⟨_, SqL.of hT, _, atI_nat (j := 0) rfl, l1, rfl, _, SqL.of h1, _, atI_nat (j := 0) rfl, rfl, ?_⟩
          rw [if_pos (by simpa using nx)]
          refine ⟨_, SqL.of hT, _, atI_nat (j := 0) rfl, _, SqL.of hT, _, atI_nat (j := 1) rfl, l1, l2, _, rfl, rfl, h1, h2, fun v hv => ?_, false, rfl, ?_⟩
          · simp at hv
            rcases hv with rfl | rfl
            · exact .str _
            · exact tu
          rw [if_neg (by simp)]
          exact hN _ _ ⟨rfl, tr11, told11⟩
      rintro σ12 H12 ⟨rfl, tr12, told12⟩
      refine seq_cut (P := fun σ H' => σ = [some (.ref l), some (.ref d), u2, some pv, some (.ref y), some (.ref L), some (.ref t), some (.ref f), some (.str (showsD gl gs.length wd).shown), some ev, some (.ref T'), u11, u12, u13] ∧ Tr K H' d a b y L gs wd t gt wt f gf wf) (fun N hN => ?_) ?_
      · simp only [tRet, tAndV, tOrV, tNotV, tCB, tCons, tNil, tC, tVar, tChain, rI0, tIfS, tTest, tOp, tUn, rU, rI, tPar3, tBM, tBM0, tM1, gSub, tXm, tCon, tProp, tMethR, rEq, rNe, rIxT, rIxL, decide_true, decide_false, tAnd, tOr, tNot, tB, tSeq, tAsg, gName, tDrop, tNext, tTup, tLst, tIf, tDf, tFld, tMf0, tPart, tSl, tNoPart, tPar, gTup, gLst, gCons, gNil, L2.start, List.map_cons, List.map_nil, List.length_cons, List.length_nil, Nat.zero_add, Nat.sub_self, Nat.reduceAdd, Nat.reduceSub, List.replicate_zero, List.replicate_succ, List.append_nil, List.nil_append, List.cons_append, List.getElem?_cons_zero, List.getElem?_cons_succ, List.set_cons_zero, List.set_cons_succ, Option.some.injEq, exists_and_left, exists_eq_left', exists_eq_left, V.int.injEq, V.bl.injEq, V.str.injEq, V.ref.injEq, List.cons.injEq, and_true, true_and, if_true, if_false, Bool.false_eq_true, reduceCtorEq, Bool.not_true, Bool.not_false, cxOf]
        obtain ⟨_, _, _, hfi⟩ := tr12.fr.ins
        obtain ⟨_, _, _, hti⟩ := tr12.tw.ins
        refine eq_yy T tr12.fr hlf tr12.tw hlt ?_
        rw [pgEq_refl]
        refine ⟨true, rfl, ?_⟩
        rw [if_neg (by simp)]
        refine ⟨_, _, hfi, f, wf, gf, rfl, tr12.fr, _, _, hti, t, wt, gt, rfl, tr12.tw, rfl, ?_⟩
        obtain ⟨l1, l2, x1, x2, v1, v2, hT, h1, h2, hr⟩ := id told12
        have ok1 : gl.Ok 100000 := okl.mono (by decide)
        by_cases c : wf = wt
        · rw [if_neg (by simp [c])]
          refine ⟨y, wd, gs, gl, rfl, tr12.wk.yd, hl5, ok1, by omega, tr12.wk.nw, fun H' s' => ⟨rfl, ?_⟩⟩
          rw [if_neg (by simp)]
          exact hN _ _ ⟨rfl, tr12.st s'⟩
        · rw [if_pos (by simpa using c)]
          have nx : x1 ≠ "ok" := by
            rcases hr with ⟨_, _, _, ew⟩ | ⟨_, nx, _⟩
            · exact absurd ew.symm c
            · exact nx
          refine ⟨_, SqL.of hT, _, atI_nat (j := 0) rfl, l1, rfl, _, SqL.of h1, _, atI_nat (j := 0) rfl, rfl, ?_⟩
          rw [if_neg (by simpa using nx)]
          refine ⟨y, wd, gs, gl, rfl, tr12.wk.yd, hl5, ok1, by omega, tr12.wk.nw, fun H' s' => ⟨rfl, ?_⟩⟩
          rw [if_neg (by simp)]
          exact hN _ _ ⟨rfl, tr12.st s'⟩
      rintro σ13 H13 ⟨rfl, tr13⟩
      refine seq_cut (P := fun σ H' => σ = [some (.ref l), some (.ref d), u2, some pv, some (.ref y), some (.ref L), some (.ref t), some (.ref f), some (.str (showsD gl gs.length wd).shown), some ev, some (.ref T'), u11, u12, u13] ∧ Tr K H' d a b y L gs wd t gt wt f gf wf) (fun N hN => ?_) ?_
      · simp only [tMeth, tRet, tAndV, tOrV, tNotV, tCB, tCons, tNil, tC, tVar, tChain, rI0, tIfS, tTest, tOp, tUn, rU, rI, tPar3, tBM, tBM0, tM1, gSub, tXm, tCon, tProp, tMethR, rEq, rNe, rIxT, rIxL, decide_true, decide_false, tAnd, tOr, tNot, tB, tSeq, tAsg, gName, tDrop, tNext, tTup, tLst, tIf, tDf, tFld, tMf0, tPart, tSl, tNoPart, tPar, gTup, gLst, gCons, gNil, L2.start, List.map_cons, List.map_nil, List.length_cons, List.length_nil, Nat.zero_add, Nat.sub_self, Nat.reduceAdd, Nat.reduceSub, List.replicate_zero, List.replicate_succ, List.append_nil, List.nil_append, List.cons_append, List.getElem?_cons_zero, List.getElem?_cons_succ, List.set_cons_zero, List.set_cons_succ, Option.some.injEq, exists_and_left, exists_eq_left', exists_eq_left, V.int.injEq, V.bl.injEq, V.str.injEq, V.ref.injEq, List.cons.injEq, and_true, true_and, if_true, if_false, Bool.false_eq_true, reduceCtorEq, Bool.not_true, Bool.not_false, cxOf]
        obtain ⟨_, _, _, hti⟩ := tr13.tw.ins
        obtain ⟨_, _, _, hyi⟩ := tr13.wk.yd.ins
        refine eq_yy T tr13.tw hlt tr13.wk.yd hl5 ?_
        refine ⟨_, _, hti, rfl, t, .non, wt, gt, ge, rfl, tr13.tw, .inl ⟨rfl, hlt⟩, fun p1 hp1 => ⟨_, _, hyi, rfl, y, .non, wd, gs, gl, rfl, tr13.wk.yd, .inl ⟨rfl, hl5⟩, fun p2 hp2 => ⟨dPg ge, dPg gl, dp_pg hp1, dp_pg hp2, (pl_pg ge).sh, (pl_pg gl).sh, rfl, ?_⟩⟩⟩
        rw [if_neg (by simp [pgEq])]
        exact hN _ _ ⟨rfl, tr13⟩
      rintro σ14 H14 ⟨rfl, tr14⟩
      refine seq_cut (P := fun σ H' => ∃ u11, σ = [some (.ref l), some (.ref d), u2, some pv, some (.ref y), some (.ref L), some (.ref t), some (.ref f), some (.str (showsD gl gs.length wd).shown), some ev, some (.ref T'), u11, u12, u13] ∧ Tr K H' d a b y L gs wd t gt wt f gf wf) (fun N hN => ?_) ?_
      · obtain ⟨dx, ap, al, hyi⟩ := tr14.wk.yd.ins
        have ok1 : gl.Ok 100000 := okl.mono (by decide)
        refine ⟨_, rfl, y, dx, _, rfl, hyi, rfl, y, .non, wd, gs, gl, rfl, tr14.wk.yd, .inl ⟨rfl, hl5⟩, fun p1 hp1 => ⟨_, rfl, y, dx, _, rfl, hyi, y, wd, gs, gl, rfl, tr14.wk.yd, hl5, fun p2 hp2 => ⟨_, rfl, y, dx, _, rfl, hyi, y, wd, gs, gl, rfl, tr14.wk.yd, hl5, ok1, fun H1 s1 => ⟨⟨_, rfl⟩, _, rfl, (by show 1 ≤ sizeLine; decide), fun l0 n0 => ⟨by show 6 ≤ sizeLine; decide, fun Lv nLv => ?_⟩⟩⟩⟩⟩
        have s2 := (St'.refl (M := []) (H := H1)).new (p := l0) (o := .lst [.ref y]) n0
        have s3 := (St'.refl (M := []) (H := upd H1 l0 (.lst [.ref y]))).new (p := Lv) (o := .lst [p1, .ref p2, .str gl.txt, .non, .int 7, .ref l0]) nLv
        have s13 := (s1.trans s2).trans s3
        have trv := tr14.st s13
        have hLv : upd (upd H1 l0 (.lst [.ref y])) Lv (.lst [p1, .ref p2, .str gl.txt, .non, .int 7, .ref l0]) Lv = some (.lst [p1, .ref p2, .str gl.txt, .non, .int 7, .ref l0]) := upd_same
        have hno : ∀ v ∈ [p1, V.ref p2, .str gl.txt, .non, .int 7, .ref l0], NoY (upd (upd H1 l0 (.lst [.ref y])) Lv (.lst [p1, .ref p2, .str gl.txt, .non, .int 7, .ref l0])) v := by
          intro v hv
          obtain ⟨pa, pp, pb, rfl, hpa, _⟩ := id hp1
          obtain ⟨a0, a1, ha, _⟩ := id hp2
          simp only [List.mem_cons, List.not_mem_nil, or_false] at hv
          rcases hv with rfl | rfl | rfl | rfl | rfl | rfl
          · exact .tup (s13.tp _ _ hpa)
          · exact .tup (s13.tp _ _ ha)
          · exact .str _
          · exact .non
          · exact .int _
          · exact .lst (s3.kp _ _ upd_same (by simp))
        generalize upd (upd H1 l0 (.lst [.ref y])) Lv (.lst [p1, .ref p2, .str gl.txt, .non, .int 7, .ref l0]) = Hv at *
        refine ⟨Lv, rfl, ⟨_, SqL.of hLv⟩, for_list (xs := [p1, V.ref p2, .str gl.txt, .non, .int 7, .ref l0]) (fun i σ H' => (∃ u11, σ = [some (.ref l), some (.ref d), u2, some pv, some (.ref y), some (.ref L), some (.ref t), some (.ref f), some (.str (showsD gl gs.length wd).shown), some ev, some (.ref T'), u11, u12, u13]) ∧ St' [] Hv H') ⟨⟨_, rfl⟩, .refl⟩ (fun i σ H' _ p => SqL.of (p.2.kp _ _ hLv (by simp))) ?_ ?_⟩
        · rintro i x σ H' hi' ⟨⟨u11', rfl⟩, st⟩
          have tr' := trv.st st
          have nv := (hno x (List.mem_of_getElem? hi')).st st
          simp only [tRet, tAndV, tOrV, tNotV, tCB, tCons, tNil, tC, tVar, tChain, rI0, tIfS, tTest, tOp, tUn, rU, rI, tPar3, tBM, tBM0, tM1, gSub, tXm, tCon, tProp, tMethR, rEq, rNe, rIxT, rIxL, decide_true, decide_false, tAnd, tOr, tNot, tB, tSeq, tAsg, gName, tDrop, tNext, tTup, tLst, tIf, tDf, tFld, tMf0, tPart, tSl, tNoPart, tPar, gTup, gLst, gCons, gNil, L2.start, List.map_cons, List.map_nil, List.length_cons, List.length_nil, Nat.zero_add, Nat.sub_self, Nat.reduceAdd, Nat.reduceSub, List.replicate_zero, List.replicate_succ, List.append_nil, List.nil_append, List.cons_append, List.getElem?_cons_zero, List.getElem?_cons_succ, List.set_cons_zero, List.set_cons_succ, Option.some.injEq, exists_and_left, exists_eq_left', exists_eq_left, V.int.injEq, V.bl.injEq, V.str.injEq, V.ref.injEq, List.cons.injEq, and_true, true_and, if_true, if_false, Bool.false_eq_true, reduceCtorEq, Bool.not_true, Bool.not_false, cxOf]
          refine eq_yo T tr'.wk.yd hl5 nv ?_
          refine ⟨false, rfl, ?_⟩
          rw [if_neg (by simp)]
          refine ne_yo T tr'.wk.yd hl5 nv ?_
          refine ⟨true, rfl, ?_⟩
          rw [if_neg (by simp)]
          exact ⟨⟨_, rfl⟩, st⟩
        · rintro σ H' ⟨⟨u11', rfl⟩, st⟩
          exact hN _ _ ⟨_, rfl, trv.st st⟩
      rintro σ15 H15 ⟨u11, rfl, tr15⟩
      simp only [tRet, tAndV, tOrV, tNotV, tCB, tCons, tNil, tC, tVar, tChain, rI0, tIfS, tTest, tOp, tUn, rU, rI, tPar3, tBM, tBM0, tM1, gSub, tXm, tCon, tProp, tMethR, rEq, rNe, rIxT, rIxL, decide_true, decide_false, tAnd, tOr, tNot, tB, tSeq, tAsg, gName, tDrop, tNext, tTup, tLst, tIf, tDf, tFld, tMf0, tPart, tSl, tNoPart, tPar, gTup, gLst, gCons, gNil, L2.start, List.map_cons, List.map_nil, List.length_cons, List.length_nil, Nat.zero_add, Nat.sub_self, Nat.reduceAdd, Nat.reduceSub, List.replicate_zero, List.replicate_succ, List.append_nil, List.nil_append, List.cons_append, List.getElem?_cons_zero, List.getElem?_cons_succ, List.set_cons_zero, List.set_cons_succ, Option.some.injEq, exists_and_left, exists_eq_left', exists_eq_left, V.int.injEq, V.bl.injEq, V.str.injEq, V.ref.injEq, List.cons.injEq, and_true, true_and, if_true, if_false, Bool.false_eq_true, reduceCtorEq, Bool.not_true, Bool.not_false, cxOf]
      obtain ⟨dx, ap, al, hyi⟩ := tr15.wk.yd.ins
      have ok1 : gl.Ok 100000 := okl.mono (by decide)
      refine ⟨y, _, _, rfl, hyi, y, wd, gs, gl, rfl, tr15.wk.yd, hl5, ok1, fun H1 s1 => ⟨⟨_, rfl⟩, _, rfl, ?_⟩⟩
      have wk1 := tr15.wk.st s1
      cases c : gl.fb with
      | false =>
        rw [if_neg (by simp)]
        exact ⟨⟨_, rfl⟩, wk1.dk⟩
      | true =>
        rw [if_pos rfl]
        obtain ⟨dx1, ap1, al1, hyi1⟩ := wk1.yd.ins
        refine ⟨_, rfl, y, dx1, _, rfl, hyi1, y, wd, gs, gl, rfl, wk1.yd, hl5, fun p hp => ⟨_, rfl, y, dx1, _, rfl, hyi1, y, wd, gs, gl, rfl, wk1.yd, hl5, fun bx hb => fun x dx2 nx nd ne => ?_⟩⟩
        have s2 := (St'.refl (M := []) (H := H1)).new (p := dx2) (o := .own x) nd
        have s3 := s2.own (p := x) (o := .ins (Fy K) dx2 []) nx
        refine ⟨x, p, bx, dx2, gl, rfl, upd_same, hp.st s3, s3.tp _ _ hb, ok1, c, fun H2 s4 hx => ⟨rfl, ?_⟩⟩
        have s34 := s3.born nx s4
        have wk2 := wk1.st s34
        refine eq_fy T hx hl1 wk2.yd hl5 ?_
        refine ⟨false, rfl, ?_⟩
        rw [if_neg (by simp)]
        refine eq_yf wk2.yd hl5 hx hl1 ?_
        refine ⟨false, rfl, ?_⟩
        rw [if_neg (by simp)]
        obtain ⟨dy2, ap2, al2, hyi2⟩ := wk2.yd.ins
        refine ⟨_, rfl, y, dy2, _, rfl, hyi2, y, wd, gs, gl, rfl, wk2.yd, hl5, fun p' hp' => ⟨_, rfl, y, dy2, _, rfl, hyi2, y, wd, gs, gl, rfl, wk2.yd, hl5, fun bx' hb' => fun x' dx3 nx' nd' ne' => ?_⟩⟩
        have s5 := (St'.refl (M := []) (H := H2)).new (p := dx3) (o := .own x') nd'
        have s6 := s5.own (p := x') (o := .ins (Fy K) dx3 []) nx'
        refine ⟨x', p', bx', dx3, gl, rfl, upd_same, hp'.st s6, s6.tp _ _ hb', ok1, c, fun H3 s7 hx' => ⟨rfl, ?_⟩⟩
        have s67 := s6.born nx' s7
        have wk3 := wk2.st s67
        have hx3 := hx.st s67 (by simp)
        refine eq_ff T hx3 hl1 hx' hl1 ?_
        rw [pgEq_refl]
        refine ⟨true, rfl, ?_⟩
        rw [if_neg (by simp)]
        obtain ⟨_, _, _, hxi⟩ := hx3.ins
        refine ⟨x, rfl, _, _, hxi, rfl, x, "same", [gl], gl, rfl, hx3, hl1, ok1, fun _ => c, fun z H4 s8 nz hz => ?_⟩
        have hx4 := hx3.st s8 (by simp)
        have wk4 := wk3.st s8
        refine eq_ff T hx4 hl1 hz hl1 ?_
        rw [pgEq_refl]
        refine ⟨true, rfl, ?_⟩
        rw [if_neg (by simp)]
        obtain ⟨_, _, _, hxi4⟩ := hx4.ins
        refine ⟨x, rfl, _, _, hxi4, rfl, x, "same", [gl], gl, rfl, hx4, hl1, ok1, fun _ => c, fun z2 H5 s9 nz2 hz2 => ?_⟩
        have hx5 := hx4.st s9 (by simp)
        have wk5' := wk4.st s9
        obtain ⟨_, _, _, hzi2⟩ := hz2.ins
        obtain ⟨_, _, _, hxi5⟩ := hx5.ins
        refine ⟨_, _, _, _, true, rfl, .own _, .base (.ins hzi2 T.cls_F T.cl_F T.sp_cls T.tk_cls T.ob_F), T.k_F_F, true, rfl, ?_⟩
        rw [if_neg (by simp)]
        refine ⟨_, _, _, _, true, rfl, .own _, .base (.ins hxi5 T.cls_F T.cl_F T.sp_cls T.tk_cls T.ob_F), T.k_F_Y, true, rfl, ?_⟩
        rw [if_neg (by simp)]
        obtain ⟨_, _, _, hyi5⟩ := wk5'.yd.ins
        refine ⟨_, _, hyi5, rfl, y, wd, gs, gl, rfl, wk5'.yd, hl5, ok1, fun z => (by cases z), fun z3 H6 s10 nz3 hz3 => ?_⟩
        obtain ⟨_, _, _, hzi3⟩ := hz3.ins
        refine ⟨_, _, _, _, false, rfl, .own _, .base (.ins hzi3 T.cls_Y T.cl_Y T.sp_cls T.tk_cls T.ob_Y), T.k_Y_F, false, rfl, ?_⟩
        rw [if_neg (by simp)]
        exact ⟨⟨_, rfl⟩, (wk5'.st s10).dk⟩
    · rintro σ H2 _
      exact hN _ _ trivial
  · simp only [tRet, tAndV, tOrV, tNotV, tCB, tCons, tNil, tC, tVar, tChain, rI0, tIfS, tTest, tOp, tUn, rU, rI, tPar3, tBM, tBM0, tM1, gSub, tXm, tCon, tProp, tMethR, rEq, rNe, rIxT, rIxL, decide_true, decide_false, tAnd, tOr, tNot, tB, tSeq, tAsg, gName, tDrop, tNext, tTup, tLst, tIf, tDf, tFld, tMf0, tPart, tSl, tNoPart, tPar, gTup, gLst, gCons, gNil, L2.start, List.map_cons, List.map_nil, List.length_cons, List.length_nil, Nat.zero_add, Nat.sub_self, Nat.reduceAdd, Nat.reduceSub, List.replicate_zero, List.replicate_succ, List.append_nil, List.nil_append, List.cons_append, List.getElem?_cons_zero, List.getElem?_cons_succ, List.set_cons_zero, List.set_cons_succ, Option.some.injEq, exists_and_left, exists_eq_left', exists_eq_left, V.int.injEq, V.bl.injEq, V.str.injEq, V.ref.injEq, List.cons.injEq, and_true, true_and, if_true, if_false, Bool.false_eq_true, reduceCtorEq, Bool.not_true, Bool.not_false, cxOf]
    exact q _
end
end Yk
set_option Elab.async false
set_option linter.all false
set_option maxRecDepth 100000
set_option maxHeartbeats 4000000
/-! all promises together -/
namespace Yk
open PySem PySem.Spec PyProof.Rows L2
section
variable {w : World} {K : KF} {mg : Str → Option Value}
theorem Mf.up {P : Program} {base : Heap} {CX : CXT} {k j : Nat} {C : Addr} {m : Str} {sp : Sp} (M : Mf P w K mg base CX k C m sp) (h : k ≤ j) : Mf P w K mg base CX j C m sp := ⟨M.fn.mono h, M.me⟩
theorem lw_of (T : Tx w K mg) (base : Heap) : Lw w K mg base := by
  have D_is_integer := ok_is_integer (base := base) T
  have D_sides_error := ok_sides_error T D_is_integer
  have D_kinds_error := ok_kinds_error T D_sides_error
  have D_pair_error := ok_pair_error T D_kinds_error
  have D_box_error := ok_box_error T D_sides_error
  have D_with_side := ok_with_side (base := base) T
  have D_common := ok_common (base := base) T
  have D_inverse := ok_inverse (base := base) T
  have D_least_times := ok_least_times T D_common D_inverse
  have D_rests := ok_rests (base := base) T
  have D_bar_along := ok_bar_along T D_least_times
  have D_crossing := ok_crossing T D_rests
  have D_paper := ok_paper T D_rests D_crossing D_bar_along D_least_times
  have D_paper_papers := ok_paper_papers T D_paper
  have D_is_filled := ok_is_filled T D_paper_papers
  have D_sides_text := ok_sides_text (base := base) T
  have D_kinds_text := ok_kinds_text T D_sides_text
  have D_require_axis := ok_require_axis T D_is_integer
  have D_require_side := ok_require_side T D_is_integer
  have D_put_side := ok_put_side T D_require_axis D_require_side D_with_side
  have D_put_brick := ok_put_brick T D_is_integer D_require_axis D_require_side D_with_side
  have D_swapped := ok_swapped (base := base) T
  have D_is_order := ok_is_order T D_is_integer
  have D_turned := ok_turned T D_is_order
  have D_stretched := ok_stretched T D_require_axis D_require_side D_with_side
  have D_more := ok_more T D_require_side
  have AD := ok_deeds T D_put_side D_put_brick D_swapped D_turned D_stretched D_more
  have D_stand := ok_stand (base := base) T T.yY T.d_Yard_stand T.m_Y_stand
  have D_pair := ok_pair (base := base) T T.yY T.d_Yard_pair T.p_Y_pair
  have D_box := ok_box (base := base) T T.yY T.d_Yard_box T.p_Y_box
  have D_news := ok_news (base := base) T T.yY T.d_Yard_news T.p_Y_news
  have D_version := ok_version (base := base) T T.yY T.d_Yard_version T.p_Y_version
  have D_bool := ok_bool T T.yY T.d_Yard_bool T.m_Y_bool D_pair D_box D_is_filled
  have D_len := ok_len T T.yY T.d_Yard_len T.m_Y_len D_box
  have D_str := ok_str T T.yY T.d_Yard_str T.m_Y_str D_pair D_box D_kinds_text D_sides_text D_bool
  have D_tell := ok_tell T T.yY T.d_Yard_tell T.m_Y_tell D_bool
  have D_judge := ok_judge (base := base) T
  have D_require_free := ok_require_free (base := base) T
  have D_do := ok_do T AD D_version D_judge D_stand
  have D_edit := ok_edit T D_require_free D_bool D_do D_tell
  have D_side := ok_side T D_edit
  have D_brick := ok_brick T D_edit
  have D_swap := ok_swap T D_edit
  have D_turn := ok_turn T D_edit
  have D_stretch := ok_stretch T D_edit
  have D_iadd := ok_iadd T D_edit
  have D_undo := ok_undo T D_require_free D_version D_bool D_stand D_tell
  have F_init := fn_init T T.yY D_pair_error D_box_error D_stand
  have K_Yard := mak_Y T F_init
  have D_fresh := ok_fresh T K_Yard D_pair D_box
  have D_copy := ok_copy (fl := false) T.yY T.d_Yard_copy T.m_Y_copy (D_fresh.up (by decide)) D_stand
  have D_eq := ok_eq (base := base) T T.yY (by decide +kernel) T.d_Yard_eq T.m_Y_eq
  have D_standF := ok_stand (base := base) T T.yF (by rw [T.same_stand]; exact T.d_Yard_stand) T.m_F_stand
  have D_pairF := ok_pair (base := base) T T.yF (by rw [T.samep_pair]; exact T.d_Yard_pair) T.p_F_pair
  have D_boxF := ok_box (base := base) T T.yF (by rw [T.samep_box]; exact T.d_Yard_box) T.p_F_box
  have F_initF := fn_init T T.yF D_pair_error D_box_error D_standF
  have D_judgeF := ok_judgeF T D_paper_papers
  have K_Full := mak_F T F_initF D_judgeF
  have D_freshF := ok_freshF T K_Full D_pairF D_boxF
  have D_copyF := ok_copy (fl := true) T.yF (by rw [T.same_copy]; exact T.d_Yard_copy) T.m_F_copy D_freshF D_standF
  have D_eqF := ok_eq (base := base) T T.yF (by decide +kernel) (by rw [T.same_eq]; exact T.d_Yard_eq) T.m_F_eq
  have D_draw := ok_law_draw (base := base) T
  have D_one := ok_law_one T D_draw
  have D_mixed := ok_law_mixed T D_draw
  have D_divisor := ok_law_divisor (base := base) T
  have D_lcm := ok_law_lcm T D_divisor
  have D_whole := ok_law_whole (base := base) T
  have D_with := ok_law_with (base := base) T
  have D_sides := ok_law_sides T D_draw
  have D_pairL := ok_law_pair T D_draw D_sides
  have D_odd := ok_law_odd T D_one
  have D_bent0 := ok_law_bent0 T D_draw D_one D_odd
  have D_bent1 := ok_law_bent1 T D_draw D_one D_odd D_bent0
  have D_cut := ok_law_cut_box T D_draw D_lcm
  have D_plain := ok_law_plain_box T D_draw D_one
  have D_says := ok_law_says T D_cut D_plain D_sides D_one
  have D_moreL := ok_law_more_page T D_whole
  have D_turnL := ok_law_turned_page T D_whole
  have D_after := ok_law_page_after T D_turnL D_moreL D_whole D_with
  have D_small := ok_law_is_small (base := base) T
  have D_editL := ok_law_edit T D_draw D_one D_odd D_mixed D_bent1
  have D_smallE := ok_law_small_edit T D_editL D_after D_small
  have D_doL := ok_law_do T D_side D_brick D_swap D_turn D_stretch D_iadd D_version
  have D_due := ok_law_due T D_after
  have D_done := ok_law_done T D_undo D_doL
  exact {
    deck := ok_law_deck T
    start := ok_law_start T D_draw D_pairL D_says
    worked := ok_law_worked T D_draw D_smallE D_due D_done
    shows := ok_law_shows T D_pair D_box D_version D_news D_bool D_len D_str
    small := D_smallE
    done := D_done
    kY := K_Yard
    kF := K_Full
    pair := D_pair
    box := D_box
    version := D_version
    news := D_news
    copy := D_copy
    copyF := D_copyF
    eq := D_eq
    eqF := D_eqF
    bool := D_bool
    str := D_str
    state := fn_state_at T D_is_integer D_version
    each := fn_each_version T T.yY T.d_Yard_each_version D_is_filled }
end
end Yk
set_option Elab.async false
set_option linter.all false
namespace Yk
open PySem PySem.Spec PyProof.Rows L2
theorem tx_of {w : World} {K : KF} {mg : Str → Option Value} {h : Heap} (KX : K.In h) (G : h.Ns mainGlobals mg) (s : obsX K = valX w) : Tx w K mg := ⟨⟨h, KX, G⟩, s⟩
theorem fn_law {w : World} {mg : Str → Option Value} {fa : Addr} {h : Heap} (Y : hk.says w h) (G : h.Ns mainGlobals mg) (hmg : mg "law" = some (.ref fa)) :
    ∃ (K : KF) (sp : Sp), K.In h ∧ (∀ (H : Hp) (a : Addr) (ns : List Int), ns.length ≤ 63 → Only H → SqL K H a (ns.map V.int) → sp [.ref a] H (fun v _ => v = .bl true) E0) ∧
      ∀ base : Heap, K.In base → base.Ns mainGlobals mg → FnG R.prog w K mg base CX0 15 fa sp := by
  obtain ⟨K, KX, s⟩ := Y
  have T := tx_of KX G s
  have e := hmg.symm.trans T.g_law
  cases e
  exact ⟨K, spLaw K, KX, fun H a ns hl _ hS => ⟨a, ns, rfl, hS, Nat.le_trans hl (by decide), fun _ => rfl⟩, fun base _ _ => ok_law T (lw_of T base)⟩
end Yk
open PySem PySem.W PySem.Calls PyProof.Rows
set_option maxRecDepth 100000 in
set_option maxHeartbeats 0 in
theorem PySem.Challenge.cw_twobricks_k83_whole_yards_like_new_ones_holds : PySem.Challenge.rw_twobricks_k83_whole_yards_like_new_ones.Holds := by
  w_on; o_law
  refine HandSHeadRun.head_any (r := OpenLaw.row PySem.Challenge.rw_twobricks_k83_whole_yards_like_new_ones) (q := view (OpenLaw.row PySem.Challenge.rw_twobricks_k83_whole_yards_like_new_ones).prog [92]) (H := Yk.hk) (ob := Yk.ob) (M := 20000) (loose := Yk.loose) (d := HandSHeadRun.topDef (OpenLaw.row PySem.Challenge.rw_twobricks_k83_whole_yards_like_new_ones).prog 92) (kwd := []) Yk.ob_eq
    (by kernel_rfl) (fun s => by kernel_rfl) Yk.run (by kernel_rfl) (by kernel_rfl) (by kernel_rfl) (by rfl) (by first | assumption | decide +kernel) (by decide +kernel) ⟨rfl, rfl, rfl, rfl, rfl, by decide +kernel⟩ ?hw ?hc
  case hw => w_witness2
  case hc =>
    refine Yk.walk_ofG (l := PySem.Challenge.rw_twobricks_k83_whole_yards_like_new_ones) (n := 63) (k := 15) rfl (by decide) (by kernel_rfl) ⟨rfl, by decide, by decide⟩ ?F
    intro w mg fa h Y G hmg0
    have hmg : mg ("law" : PySem.Str) = some (.ref fa) := by
      have e : (HandSHeadRun.topDef (OpenLaw.row PySem.Challenge.rw_twobricks_k83_whole_yards_like_new_ones).prog 92).name = ("law" : PySem.Str) := by kernel_rfl
      rw [← e]
      exact hmg0
    exact Yk.fn_law Y G hmg
