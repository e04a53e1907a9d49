import PyProof.Rows.All
import Wide.All
import OpenK.AllK
import Wide.FinOn
import HandS.Base
import HandS.Call
import HandS.Ends
import HandS.More
import HandS.HeadEnd
import HandS.HeadHook3
import HandS.Words
import HandS.ForMost
import HandS.Flow
import HandS.Head0
import HandS.Head1
import HandS.Head2
import KE.DataCmp
import KE.SortData
import HandS.TupAny
import HandS.IsInst
import HandS.Replace
import HandS.Conv
import PyProof.ReprRoads
import PyProof.ListStr
import KE.GoesNew
import KE.GoesEnumKw
import KE.GoesMore
import PyProof.Rows.CallKwBuiltin
import HandS.Style
import HandS.Star
import PyProof.CollectStr
import KE.SortKeyHeap
import KE.KSortKey
import PyProof.StrOps
import HandS.SortKw
import PyProof.InstNe
import HandS.Property
import PyProof.DictUpdate
import HandS.ExcValue
import PyProof.StrCalls6
import HandS.Wide
import PyProof.SliceStr2
import PyProof.Rows.StrRev
import PyProof.NeData
import HandS.TupSets
import HandS.SetBool
import HandS.Exc
import HandS.TryMany
import HandS.ExcInit
import HandS.ExcSuper
import HandS.ExcField
import HandS.ExcIs
import KE.KExcSuper
import KE.KExcIs
import PyProof.Rows.StrOr
import HandS.ReplaceLit
import HandS.ReplaceList
import KE.KCallOwn
import HandS.ClsMeth
import HandS.FStr
import HandS.Text
import HandS.List
import KE.KDictZip
import KE.GoesZip
import HandS.Small
import PyProof.Transfer
import PyProof.StrLawsIn
import PyProof.StrLawsRepr
import PyProof.ReprBulk
import PyProof.StrLawsOcc
import PyProof.StrLawsTight
import PyProof.Rows.StrItems
import PyProof.Rows.StrSplitAre
import KE.IntTextText
import PySem.Challenge.RW_restbehind_k44_findings_of_settling
set_option Elab.async false
set_option linter.all false
set_option maxRecDepth 100000
set_option maxHeartbeats 4000000
namespace DL
open PySem PySem.Spec PyProof.Rows L2 TL
def tokAt (K : PySem.W.Frag) (ns : Addr) (x : Str) : Tok := match PySem.W.nsIn K ns x with
  | some (some (.str _ t)) => t
  | some (some (.int _ t)) => t
  | _ => 0
def rec1 (K : PySem.W.Frag) (p : Addr) (T : String) : Addr := match PySem.W.recIn K p T with
  | some (.ref f :: _) => f
  | _ => 0
def recT (K : PySem.W.Frag) (p : Addr) (T : String) : List Value := match PySem.W.recIn K p T with
  | some (_ :: r) => r
  | _ => []
abbrev FnQ : Type := Option (Str × Str × Arguments × FuncBody × Scope × Addr × List Str × Value × Addr)
def fnQ (K : PySem.W.Frag) (a : Addr) : FnQ := match K.lookup a with
  | some ⟨_, _, .func fd, _⟩ => some (fd.name, fd.qualname, fd.params, fd.body, fd.scope, fd.globals, fd.closure.map (·.1), fd.defaults, fd.builtins)
  | _ => none
def codB (K : PySem.W.Frag) (a : Addr) (q : Str) : Bool := match K.lookup a with
  | some ⟨_, _, .func fd, _⟩ => PySem.W.codeIn K fd.code q
  | _ => false
def fnQv (x q : Str) (st : Stmt) (cl : List Str) : FnQ := some (x, q, defArgs st, .stmts (defBody st), defScope st, mainGlobals, cl, .none, builtinsNs)
theorem fnQ_ok {K : PySem.W.Frag} {a : Addr} {x q : Str} {st : Stmt} (e : fnQ K a = fnQv x q st []) (c : codB K a q = true) :
    ∃ oc od osl kV doc pm an cdv ct, K.lookup a = some ⟨oc, od, .func (PySem.W.fnOf x q (defArgs st) (defBody st) (defScope st) .none kV doc pm an cdv ct), osl⟩ ∧ PySem.W.codeIn K cdv q = true := by
  unfold fnQ at e
  unfold codB at c
  cases h : K.lookup a with
  | none => rw [h] at c; cases c
  | some o =>
    rw [h] at e c
    obtain ⟨oc, od, dt, osl⟩ := o
    cases dt with
    | func fd =>
      have c : PySem.W.codeIn K fd.code q = true := c
      obtain ⟨f1, f2, f3, f4, f5, f6, f7, f8, f9, f10, f11, f12, f13, f14, f15⟩ := fd
      unfold fnQv at e
      simp only [Option.some.injEq, Prod.mk.injEq, List.map_eq_nil_iff] at e
      obtain ⟨rfl, rfl, rfl, rfl, rfl, rfl, rfl, rfl, rfl⟩ := e
      exact ⟨oc, od, osl, f9, f10, f11, f12, f13, f14, rfl, c⟩
    | _ => cases c
def flB (file : Str) (vs : Array Value) : Bool := match (vs[2]? : Option Value) with
  | some (.str fl _) => file == fl
  | _ => false
/-- an exception's __init__ at a: its cell, its code's file -/
def xB (K : PySem.W.Frag) (a C : Addr) (q file : Str) : Bool := match K.lookup a with
  | some ⟨_, _, .func fd, _⟩ => (match fd.closure, fd.code with
    | [(_, cc)], .ref cda => PySem.W.codeIn K (.ref cda) q && ((match K.lookup cda with
        | some ⟨_, _, .fields vs, _⟩ => flB file vs
        | _ => false) && (match K.lookup cc with
        | some ⟨_, _, .cell (some (.ref c)), _⟩ => decide (c = C)
        | _ => false))
    | _, _ => false)
  | _ => false
theorem fnX_ok {K : PySem.W.Frag} {a C : Addr} {x q file : Str} {st : Stmt} (e : fnQ K a = fnQv x q st ["__class__"]) (c : xB K a C q file = true) :
    ∃ oc od osl kV dc pm an ct cc cda clc cdd vs ccs fl tf cll cld csl, K.lookup a = some ⟨oc, od, .func (PySem.W.fnX x q (defArgs st) (defBody st) (defScope st) [("__class__", cc)] .none kV dc pm an (.ref cda) ct), osl⟩ ∧ PySem.W.codeIn K (.ref cda) q = true ∧
      K.lookup cda = some ⟨clc, cdd, .fields vs, ccs⟩ ∧ vs[2]? = some (.str fl tf) ∧ (file == fl) = true ∧ K.lookup cc = some ⟨cll, cld, .cell (some (.ref C)), csl⟩ := by
  unfold fnQ at e
  unfold xB at c
  cases h : K.lookup a with
  | none => rw [h] at c; cases c
  | some o =>
    rw [h] at e c
    obtain ⟨oc, od, dt, osl⟩ := o
    cases dt with
    | func fd =>
      obtain ⟨f1, f2, f3, f4, f5, f6, f7, f8, f9, f10, f11, f12, f13, f14, f15⟩ := fd
      unfold fnQv at e
      simp only [Option.some.injEq, Prod.mk.injEq] at e
      obtain ⟨rfl, rfl, rfl, rfl, rfl, rfl, e7, rfl, rfl⟩ := e
      dsimp only at c
      split at c
      · rename_i n cc cda
        have en : n = "__class__" := by simpa using e7
        subst en
        rw [Bool.and_eq_true, Bool.and_eq_true] at c
        obtain ⟨c1, c2, c3⟩ := c
        split at c2
        · rename_i clc cdd vs ccs h3
          unfold flB at c2
          split at c2
          · rename_i fl tf h4
            split at c3
            · rename_i cll cld cx csl h5
              cases of_decide_eq_true c3
              exact ⟨_, _, _, _, _, _, _, _, _, _, _, _, _, _, _, _, _, _, _, rfl, c1, h3, h4, c2, h5⟩
            · cases c3
          · cases c2
        · cases c2
      · cases c
    | _ => cases c
abbrev AlX : Type := Bool × List FnQ × List (Option (List (Option (Str × Int))))
def obX (okX : PySem.W.Frag → Bool) (fns : PySem.W.Frag → List FnQ) (tb : PySem.W.Frag → List (Option (List (Option (Str × Int))))) (K : PySem.W.Frag) : AlX := (okX K, fns K, tb K)
/-- the part of the heap: the module's names, the statics, what the given names reach in n steps -/
def growX (g : Addr → Option Obj) : Nat → List Addr → List Addr
  | 0, as => as
  | n + 1, as => growX g n (He.growD g as)
def asX (names : List Str) (n : Nat) (g : Addr → Option Obj) : List Addr := mainGlobals :: cStatics :: growX g n (names.map (He.ga (He.frG g [mainGlobals])))
def hookX (as : (Addr → Option Obj) → List Addr) (okX : PySem.W.Frag → Bool) (fns : PySem.W.Frag → List FnQ) (vals : List FnQ) (tb : PySem.W.Frag → List (Option (List (Option (Str × Int))))) (tv : World → List (Option (List (Option (Str × Int))))) : PySem.W.Hook where
  α := AlX
  obs := fun s => obX okX fns tb (He.frG s.heap.get? (as s.heap.get?))
  val := fun w => (true, vals, tv w)
  says := fun w h => ∃ K : PySem.W.Frag, K.In h ∧ obX okX fns tb K = (true, vals, tv w)
  of := fun _ _ e => ⟨_, He.frG_in, e⟩
  keeps := fun _ _ _ ⟨K, hK, c⟩ k => ⟨K, PySem.W.Frag.In.keeps hK k, c⟩
theorem obX_eq {as : (Addr → Option Obj) → List Addr} {okX : PySem.W.Frag → Bool} {fns : PySem.W.Frag → List FnQ} {vals : List FnQ} {tb : PySem.W.Frag → List (Option (List (Option (Str × Int))))} {tv : World → List (Option (List (Option (Str × Int))))} {g : Addr → Option Obj} {s : Shared} (h : ∀ a, g a = s.heap.get? a) : obX okX fns tb (He.frG g (as g)) = (hookX as okX fns vals tb tv).obs s := by
  have e : g = s.heap.get? := funext h
  rw [e]; rfl
def cmAt (K : PySem.W.Frag) (C : Addr) (x : Str) : Addr := match PySem.W.findCls K (.ref C) (.type "type") x with
  | some (.get _ (.ref p) _ _) => p
  | _ => 0
def cmB (K : PySem.W.Frag) (C : Addr) (x : Str) : Bool := match PySem.W.findCls K (.ref C) (.type "type") x with
  | some (.get (.builtin b) (.ref _) .none (.ref c)) => decide (b = "classmethod.__get__") && decide (c = C)
  | _ => false
theorem cm_ok {K : PySem.W.Frag} {C : Addr} {x : Str} (h : cmB K C x = true) : PySem.W.findCls K (.ref C) (.type "type") x = some (.get (.builtin "classmethod.__get__") (.ref (cmAt K C x)) .none (.ref C)) := by
  unfold cmB at h
  unfold cmAt
  split at h
  · rename_i b p c e
    rw [Bool.and_eq_true] at h
    rw [e, of_decide_eq_true h.1, of_decide_eq_true h.2]
  · cases h
end DL
namespace DL
open PySem PySem.Spec PyProof.Rows L2
def top (i : Nat) : Stmt := PySem.Challenge.pw_restbehind_k44_findings_of_settling.main.body.getD i (.Pass ⟨0, 0, 0, 0⟩)
abbrev s__law_draw : Stmt := top 123
abbrev s__law_deck : Stmt := top 122
abbrev s__law_pick : Stmt := top 124
abbrev s__law_closure : Stmt := top 125
abbrev s__law_is_within : Stmt := top 126
abbrev s__law_frame : Stmt := top 127
abbrev s__law_scheme_text : Stmt := top 128
abbrev s__law_others : Stmt := top 132
abbrev s__law_own : Stmt := top 131
abbrev s__law_is_derivation : Stmt := top 130
abbrev s_is_columns : Stmt := top 19
abbrev s_columns_in : Stmt := top 22
abbrev s_head_in : Stmt := top 25
abbrev s_are_within : Stmt := top 20
abbrev s_is_rule : Stmt := top 21
abbrev s_Scheme___init__ : Stmt := inClass (top 28) 0
abbrev s_rule_in : Stmt := top 26
abbrev s_rules_in : Stmt := top 27
abbrev s_Scheme_read : Stmt := inClass (top 28) 1
abbrev s_scheme_in : Stmt := top 112
abbrev s_is_integer : Stmt := top 18
abbrev s_derivation_holds : Stmt := top 29
abbrev s_settles_so : Stmt := top 115
abbrev s_finding_holds : Stmt := top 120
abbrev s__law_text : Stmt := top 129
abbrev s_law : Stmt := top 133
abbrev s_BadText___init__ : Stmt := inClass (top 5) 0
def fx_0 (K : PySem.W.Frag) : Bool := codB K (He.ga K "_law_draw") "_law_draw"
def fx_1 (K : PySem.W.Frag) : Bool := codB K (He.ga K "_law_deck") "_law_deck"
def fx_2 (K : PySem.W.Frag) : Bool := codB K (He.ga K "_law_pick") "_law_pick"
def fx_3 (K : PySem.W.Frag) : Bool := codB K (He.ga K "_law_closure") "_law_closure"
def fx_4 (K : PySem.W.Frag) : Bool := codB K (He.ga K "_law_is_within") "_law_is_within"
def fx_5 (K : PySem.W.Frag) : Bool := codB K (He.ga K "_law_frame") "_law_frame"
def fx_6 (K : PySem.W.Frag) : Bool := codB K (He.ga K "_law_scheme_text") "_law_scheme_text"
def fx_7 (K : PySem.W.Frag) : Bool := codB K (He.ga K "_law_others") "_law_others"
def fx_8 (K : PySem.W.Frag) : Bool := codB K (He.ga K "_law_own") "_law_own"
def fx_9 (K : PySem.W.Frag) : Bool := codB K (He.ga K "_law_is_derivation") "_law_is_derivation"
def fx_10 (K : PySem.W.Frag) : Bool := codB K (He.ga K "is_columns") "is_columns"
def fx_11 (K : PySem.W.Frag) : Bool := codB K (He.ga K "columns_in") "columns_in"
def fx_12 (K : PySem.W.Frag) : Bool := codB K (He.ga K "head_in") "head_in"
def fx_13 (K : PySem.W.Frag) : Bool := codB K (He.ga K "are_within") "are_within"
def fx_14 (K : PySem.W.Frag) : Bool := codB K (He.ga K "is_rule") "is_rule"
def fx_15 (K : PySem.W.Frag) : Bool := codB K (He.ma K (He.ga K "Scheme") "__init__") "Scheme.__init__"
def fx_16 (K : PySem.W.Frag) : Bool := codB K (He.ga K "rule_in") "rule_in"
def fx_17 (K : PySem.W.Frag) : Bool := codB K (He.ga K "rules_in") "rules_in"
def fx_18 (K : PySem.W.Frag) : Bool := codB K (rec1 K (cmAt K (He.ga K "Scheme") "read") "classmethod") "Scheme.read"
def fx_19 (K : PySem.W.Frag) : Bool := codB K (He.ga K "scheme_in") "scheme_in"
def fx_20 (K : PySem.W.Frag) : Bool := codB K (He.ga K "is_integer") "is_integer"
def fx_21 (K : PySem.W.Frag) : Bool := codB K (He.ga K "derivation_holds") "derivation_holds"
def fx_22 (K : PySem.W.Frag) : Bool := codB K (He.ga K "settles_so") "settles_so"
def fx_23 (K : PySem.W.Frag) : Bool := codB K (He.ga K "finding_holds") "finding_holds"
def fx_24 (K : PySem.W.Frag) : Bool := codB K (He.ga K "_law_text") "_law_text"
def fx_25 (K : PySem.W.Frag) : Bool := codB K (He.ga K "law") "law"
def fx_26 (K : PySem.W.Frag) : Bool := xB K (He.ma K (He.ga K "BadText") "__init__") (He.ga K "BadText") "BadText.__init__" PySem.Challenge.pw_restbehind_k44_findings_of_settling.main.file
def fx_27 (K : PySem.W.Frag) : Bool := decide (PySem.W.nsIn K mainGlobals "BadText" = some (some (.ref (He.ga K "BadText"))))
def fx_28 (K : PySem.W.Frag) : Bool := decide (PySem.W.nsIn K mainGlobals "Scheme" = some (some (.ref (He.ga K "Scheme"))))
def fx_29 (K : PySem.W.Frag) : Bool := decide (PySem.W.nsIn K mainGlobals "_law_draw" = some (some (.ref (He.ga K "_law_draw"))))
def fx_30 (K : PySem.W.Frag) : Bool := decide (PySem.W.keepIn K (.ref (He.ga K "_law_draw")) = true)
def fx_31 (K : PySem.W.Frag) : Bool := decide (PySem.W.nsIn K mainGlobals "_law_deck" = some (some (.ref (He.ga K "_law_deck"))))
def fx_32 (K : PySem.W.Frag) : Bool := decide (PySem.W.keepIn K (.ref (He.ga K "_law_deck")) = true)
def fx_33 (K : PySem.W.Frag) : Bool := decide (PySem.W.nsIn K mainGlobals "_law_pick" = some (some (.ref (He.ga K "_law_pick"))))
def fx_34 (K : PySem.W.Frag) : Bool := decide (PySem.W.keepIn K (.ref (He.ga K "_law_pick")) = true)
def fx_35 (K : PySem.W.Frag) : Bool := decide (PySem.W.nsIn K mainGlobals "_law_closure" = some (some (.ref (He.ga K "_law_closure"))))
def fx_36 (K : PySem.W.Frag) : Bool := decide (PySem.W.keepIn K (.ref (He.ga K "_law_closure")) = true)
def fx_37 (K : PySem.W.Frag) : Bool := decide (PySem.W.nsIn K mainGlobals "_law_is_within" = some (some (.ref (He.ga K "_law_is_within"))))
def fx_38 (K : PySem.W.Frag) : Bool := decide (PySem.W.keepIn K (.ref (He.ga K "_law_is_within")) = true)
def fx_39 (K : PySem.W.Frag) : Bool := decide (PySem.W.nsIn K mainGlobals "_law_frame" = some (some (.ref (He.ga K "_law_frame"))))
def fx_40 (K : PySem.W.Frag) : Bool := decide (PySem.W.keepIn K (.ref (He.ga K "_law_frame")) = true)
def fx_41 (K : PySem.W.Frag) : Bool := decide (PySem.W.nsIn K mainGlobals "_law_scheme_text" = some (some (.ref (He.ga K "_law_scheme_text"))))
def fx_42 (K : PySem.W.Frag) : Bool := decide (PySem.W.keepIn K (.ref (He.ga K "_law_scheme_text")) = true)
def fx_43 (K : PySem.W.Frag) : Bool := decide (PySem.W.nsIn K mainGlobals "_law_others" = some (some (.ref (He.ga K "_law_others"))))
def fx_44 (K : PySem.W.Frag) : Bool := decide (PySem.W.keepIn K (.ref (He.ga K "_law_others")) = true)
def fx_45 (K : PySem.W.Frag) : Bool := decide (PySem.W.nsIn K mainGlobals "_law_own" = some (some (.ref (He.ga K "_law_own"))))
def fx_46 (K : PySem.W.Frag) : Bool := decide (PySem.W.keepIn K (.ref (He.ga K "_law_own")) = true)
def fx_47 (K : PySem.W.Frag) : Bool := decide (PySem.W.nsIn K mainGlobals "_law_is_derivation" = some (some (.ref (He.ga K "_law_is_derivation"))))
def fx_48 (K : PySem.W.Frag) : Bool := decide (PySem.W.keepIn K (.ref (He.ga K "_law_is_derivation")) = true)
def fx_49 (K : PySem.W.Frag) : Bool := decide (PySem.W.nsIn K mainGlobals "is_columns" = some (some (.ref (He.ga K "is_columns"))))
def fx_50 (K : PySem.W.Frag) : Bool := decide (PySem.W.keepIn K (.ref (He.ga K "is_columns")) = true)
def fx_51 (K : PySem.W.Frag) : Bool := decide (PySem.W.nsIn K mainGlobals "columns_in" = some (some (.ref (He.ga K "columns_in"))))
def fx_52 (K : PySem.W.Frag) : Bool := decide (PySem.W.keepIn K (.ref (He.ga K "columns_in")) = true)
def fx_53 (K : PySem.W.Frag) : Bool := decide (PySem.W.nsIn K mainGlobals "head_in" = some (some (.ref (He.ga K "head_in"))))
def fx_54 (K : PySem.W.Frag) : Bool := decide (PySem.W.keepIn K (.ref (He.ga K "head_in")) = true)
def fx_55 (K : PySem.W.Frag) : Bool := decide (PySem.W.nsIn K mainGlobals "are_within" = some (some (.ref (He.ga K "are_within"))))
def fx_56 (K : PySem.W.Frag) : Bool := decide (PySem.W.keepIn K (.ref (He.ga K "are_within")) = true)
def fx_57 (K : PySem.W.Frag) : Bool := decide (PySem.W.nsIn K mainGlobals "is_rule" = some (some (.ref (He.ga K "is_rule"))))
def fx_58 (K : PySem.W.Frag) : Bool := decide (PySem.W.keepIn K (.ref (He.ga K "is_rule")) = true)
def fx_59 (K : PySem.W.Frag) : Bool := decide (PySem.W.findIn K (.ref (He.ga K "Scheme")) "__init__" = some (some (.ref (He.ma K (He.ga K "Scheme") "__init__"))))
def fx_60 (K : PySem.W.Frag) : Bool := decide (PySem.W.isFn K (.ref (He.ma K (He.ga K "Scheme") "__init__")) = true)
def fx_61 (K : PySem.W.Frag) : Bool := decide (PySem.W.keepIn K (.ref (He.ma K (He.ga K "Scheme") "__init__")) = true)
def fx_62 (K : PySem.W.Frag) : Bool := decide (PySem.W.nsIn K mainGlobals "rule_in" = some (some (.ref (He.ga K "rule_in"))))
def fx_63 (K : PySem.W.Frag) : Bool := decide (PySem.W.keepIn K (.ref (He.ga K "rule_in")) = true)
def fx_64 (K : PySem.W.Frag) : Bool := decide (PySem.W.nsIn K mainGlobals "rules_in" = some (some (.ref (He.ga K "rules_in"))))
def fx_65 (K : PySem.W.Frag) : Bool := decide (PySem.W.keepIn K (.ref (He.ga K "rules_in")) = true)
def fx_66 (K : PySem.W.Frag) : Bool := cmB K (He.ga K "Scheme") "read"
def fx_67 (K : PySem.W.Frag) : Bool := decide (PySem.W.recIn K (cmAt K (He.ga K "Scheme") "read") "classmethod" = some (.ref (rec1 K (cmAt K (He.ga K "Scheme") "read") "classmethod") :: (recT K (cmAt K (He.ga K "Scheme") "read") "classmethod")))
def fx_68 (K : PySem.W.Frag) : Bool := decide (PySem.W.fnIn K (rec1 K (cmAt K (He.ga K "Scheme") "read") "classmethod") = true)
def fx_69 (K : PySem.W.Frag) : Bool := decide (PySem.W.keepIn K (.ref (rec1 K (cmAt K (He.ga K "Scheme") "read") "classmethod")) = true)
def fx_70 (K : PySem.W.Frag) : Bool := decide (PySem.W.nsIn K mainGlobals "scheme_in" = some (some (.ref (He.ga K "scheme_in"))))
def fx_71 (K : PySem.W.Frag) : Bool := decide (PySem.W.keepIn K (.ref (He.ga K "scheme_in")) = true)
def fx_72 (K : PySem.W.Frag) : Bool := decide (PySem.W.nsIn K mainGlobals "is_integer" = some (some (.ref (He.ga K "is_integer"))))
def fx_73 (K : PySem.W.Frag) : Bool := decide (PySem.W.keepIn K (.ref (He.ga K "is_integer")) = true)
def fx_74 (K : PySem.W.Frag) : Bool := decide (PySem.W.nsIn K mainGlobals "derivation_holds" = some (some (.ref (He.ga K "derivation_holds"))))
def fx_75 (K : PySem.W.Frag) : Bool := decide (PySem.W.keepIn K (.ref (He.ga K "derivation_holds")) = true)
def fx_76 (K : PySem.W.Frag) : Bool := decide (PySem.W.nsIn K mainGlobals "settles_so" = some (some (.ref (He.ga K "settles_so"))))
def fx_77 (K : PySem.W.Frag) : Bool := decide (PySem.W.keepIn K (.ref (He.ga K "settles_so")) = true)
def fx_78 (K : PySem.W.Frag) : Bool := decide (PySem.W.nsIn K mainGlobals "finding_holds" = some (some (.ref (He.ga K "finding_holds"))))
def fx_79 (K : PySem.W.Frag) : Bool := decide (PySem.W.keepIn K (.ref (He.ga K "finding_holds")) = true)
def fx_80 (K : PySem.W.Frag) : Bool := decide (PySem.W.nsIn K mainGlobals "_law_text" = some (some (.ref (He.ga K "_law_text"))))
def fx_81 (K : PySem.W.Frag) : Bool := decide (PySem.W.keepIn K (.ref (He.ga K "_law_text")) = true)
def fx_82 (K : PySem.W.Frag) : Bool := decide (PySem.W.nsIn K mainGlobals "law" = some (some (.ref (He.ga K "law"))))
def fx_83 (K : PySem.W.Frag) : Bool := decide (PySem.W.keepIn K (.ref (He.ga K "law")) = true)
def fx_84 (K : PySem.W.Frag) : Bool := decide (PySem.W.nsIn K mainGlobals "int" = some none)
def fx_85 (K : PySem.W.Frag) : Bool := decide (PySem.W.nsIn K mainGlobals "list" = some none)
def fx_86 (K : PySem.W.Frag) : Bool := decide (PySem.W.nsIn K mainGlobals "range" = some none)
def fx_87 (K : PySem.W.Frag) : Bool := decide (PySem.W.nsIn K mainGlobals "len" = some none)
def fx_88 (K : PySem.W.Frag) : Bool := decide (PySem.W.nsIn K mainGlobals "sorted" = some none)
def fx_89 (K : PySem.W.Frag) : Bool := decide (PySem.W.nsIn K mainGlobals "tuple" = some none)
def fx_90 (K : PySem.W.Frag) : Bool := decide (PySem.W.nsIn K mainGlobals "enumerate" = some none)
def fx_91 (K : PySem.W.Frag) : Bool := decide (PySem.W.nsIn K mainGlobals "isinstance" = some none)
def fx_92 (K : PySem.W.Frag) : Bool := decide (PySem.W.nsIn K mainGlobals "bool" = some none)
def fx_93 (K : PySem.W.Frag) : Bool := decide (PySem.W.nsIn K mainGlobals "str" = some none)
def fx_94 (K : PySem.W.Frag) : Bool := decide (PySem.W.nsIn K mainGlobals "SIZES" = some (some (.ref (He.ga K "SIZES"))))
def fx_95 (K : PySem.W.Frag) : Bool := decide (PySem.W.nsIn K (He.ga K "SIZES") "settles" = some (some (.int 5 (tokAt K (He.ga K "SIZES") "settles"))))
def fx_96 (K : PySem.W.Frag) : Bool := decide (PySem.W.nsIn K mainGlobals "SETTLES" = some (some (.str "settles" (tokAt K mainGlobals "SETTLES"))))
def fx_97 (K : PySem.W.Frag) : Bool := decide (PySem.W.excInitIn K (He.ga K "BadText") [.type "Exception", .type "BaseException", .type "object"] "Exception.__new__" = true)
def fx_98 (K : PySem.W.Frag) : Bool := decide (PySem.W.excOver K (He.ga K "BadText") [.type "Exception", .type "BaseException", .type "object"] = true)
def fx_99 (K : PySem.W.Frag) : Bool := decide (PySem.W.subIn K (.ref (He.ga K "BadText")) (.type "BaseException") = some true)
def fx_100 (K : PySem.W.Frag) : Bool := decide (PySem.W.subIn K (.ref (He.ga K "BadText")) (.type "Exception") = some true)
def fx_101 (K : PySem.W.Frag) : Bool := decide (PySem.W.typeIn K (.ref (He.ga K "BadText")) = some (.type "type"))
def fx_102 (K : PySem.W.Frag) : Bool := decide (PySem.W.keepIn K (.ref (He.ga K "BadText")) = true)
def fx_103 (K : PySem.W.Frag) : Bool := decide (PySem.W.hasDictIn K (He.ga K "BadText") = true)
def fx_104 (K : PySem.W.Frag) : Bool := decide (PySem.W.findIn K (.ref (He.ga K "BadText")) "__setattr__" = some (some (.builtin "object.__setattr__")))
def fx_105 (K : PySem.W.Frag) : Bool := decide (PySem.W.mroIn K (He.ga K "BadText") (.ref (He.ga K "BadText")) = some true)
def fx_106 (K : PySem.W.Frag) : Bool := decide (PySem.W.ks_superIn K (He.ga K "BadText") (He.ga K "BadText") "__init__" = some (some (.builtin "Exception.__init__")))
def fx_107 (K : PySem.W.Frag) : Bool := decide (PySem.W.nsIn K cStatics "thirdparty.any" = some none)
def fx_108 (K : PySem.W.Frag) : Bool := decide (PySem.W.findIn K (.ref (He.ga K "BadText")) "__getattribute__" = some (some (.builtin "BaseException.__getattribute__")))
def fx_109 (K : PySem.W.Frag) : Bool := decide (PySem.W.findIn K (.ref (He.ga K "BadText")) "__getattr__" = some none)
def fx_110 (K : PySem.W.Frag) : Bool := decide (PySem.W.findIn K (.ref (He.ga K "BadText")) "__init__" = some (some (.ref (He.ma K (He.ga K "BadText") "__init__"))))
def fx_111 (K : PySem.W.Frag) : Bool := decide (PySem.W.typeIn K (.ref (He.ma K (He.ga K "BadText") "__init__")) = some (.type "function"))
def fx_112 (K : PySem.W.Frag) : Bool := decide (PySem.W.nsIn K mainGlobals "super" = some none)
def fx_113 (K : PySem.W.Frag) : Bool := decide (PySem.W.findIn K (.ref (He.ga K "BadText")) "place" = some none)
def fx_114 (K : PySem.W.Frag) : Bool := decide (PySem.W.nsIn K mainGlobals "BREAK" = some (some (.str "\n" (tokAt K mainGlobals "BREAK"))))
def fx_115 (K : PySem.W.Frag) : Bool := decide (PySem.W.nsIn K mainGlobals "BLANK" = some (some (.str " " (tokAt K mainGlobals "BLANK"))))
def fx_116 (K : PySem.W.Frag) : Bool := decide (PySem.W.nsIn K mainGlobals "RULE_PARTS" = some (some (.int 2 (tokAt K mainGlobals "RULE_PARTS"))))
def fx_117 (K : PySem.W.Frag) : Bool := decide (PySem.W.nsIn K mainGlobals "COLUMNS_WORD" = some (some (.str "columns" (tokAt K mainGlobals "COLUMNS_WORD"))))
def fx_118 (K : PySem.W.Frag) : Bool := decide (PySem.W.nsIn K mainGlobals "NONE" = some (some (.str "-" (tokAt K mainGlobals "NONE"))))
def fx_119 (K : PySem.W.Frag) : Bool := decide (PySem.W.nsIn K mainGlobals "LETTERS" = some (some (.str "abcdefghijklmnopqrstuvwxyz" (tokAt K mainGlobals "LETTERS"))))
def fx_120 (K : PySem.W.Frag) : Bool := decide (PySem.W.nsIn K mainGlobals "all" = some none)
def fx_121 (K : PySem.W.Frag) : Bool := decide (PySem.W.nsIn K mainGlobals "zip" = some none)
def fx_122 (K : PySem.W.Frag) : Bool := decide (PySem.W.plainGet K (He.ga K "Scheme") Str.empty = true)
def fx_123 (K : PySem.W.Frag) : Bool := decide (PySem.W.hasDictIn K (He.ga K "Scheme") = true)
def fx_124 (K : PySem.W.Frag) : Bool := decide (PySem.W.plainOver K (He.ga K "Scheme") = true)
def fx_125 (K : PySem.W.Frag) : Bool := decide (PySem.W.findIn K (.ref (He.ga K "Scheme")) "__setattr__" = some (some (.builtin "object.__setattr__")))
def fx_126 (K : PySem.W.Frag) : Bool := decide (PySem.W.findIn K (.ref (He.ga K "Scheme")) "columns" = some none)
def fx_127 (K : PySem.W.Frag) : Bool := decide (PySem.W.findIn K (.ref (He.ga K "Scheme")) "rules" = some none)
def fx_128 (K : PySem.W.Frag) : Bool := decide (PySem.W.makesIn K (He.ga K "Scheme") = true)
def fx_129 (K : PySem.W.Frag) : Bool := decide (PySem.W.keepIn K (.ref (He.ga K "Scheme")) = true)
def fx_130 (K : PySem.W.Frag) : Bool := decide (PySem.W.nsIn K mainGlobals "RULE_WORDS" = some (some (.int 3 (tokAt K mainGlobals "RULE_WORDS"))))
def fx_131 (K : PySem.W.Frag) : Bool := decide (PySem.W.nsIn K mainGlobals "RULE_WORD" = some (some (.str "rule" (tokAt K mainGlobals "RULE_WORD"))))
def fx_132 (K : PySem.W.Frag) : Bool := decide (PySem.W.readsIn K (He.ga K "Scheme") (.type "type") = true)
def fx_133 (K : PySem.W.Frag) : Bool := decide (PySem.W.specialIn K (.ref (He.ga K "Scheme")) "__getattribute__" = some (some (.builtin "type.__getattribute__")))
def fx_134 (K : PySem.W.Frag) : Bool := decide (PySem.W.subIn K (.ref (He.ga K "BadText")) (.ref (He.ga K "BadText")) = some true)
def fx_135 (K : PySem.W.Frag) : Bool := decide (PySem.W.nsIn K mainGlobals "repr" = some none)
def fxs : List (PySem.W.Frag → Bool) := [fx_0, fx_1, fx_2, fx_3, fx_4, fx_5, fx_6, fx_7, fx_8, fx_9, fx_10, fx_11, fx_12, fx_13, fx_14, fx_15, fx_16, fx_17, fx_18, fx_19, fx_20, fx_21, fx_22, fx_23, fx_24, fx_25, fx_26, fx_27, fx_28, fx_29] ++ [fx_30, fx_31, fx_32, fx_33, fx_34, fx_35, fx_36, fx_37, fx_38, fx_39, fx_40, fx_41, fx_42, fx_43, fx_44, fx_45, fx_46, fx_47, fx_48, fx_49, fx_50, fx_51, fx_52, fx_53, fx_54, fx_55, fx_56, fx_57, fx_58, fx_59] ++ [fx_60, fx_61, fx_62, fx_63, fx_64, fx_65, fx_66, fx_67, fx_68, fx_69, fx_70, fx_71, fx_72, fx_73, fx_74, fx_75, fx_76, fx_77, fx_78, fx_79, fx_80, fx_81, fx_82, fx_83, fx_84, fx_85, fx_86, fx_87, fx_88, fx_89] ++ [fx_90, fx_91, fx_92, fx_93, fx_94, fx_95, fx_96, fx_97, fx_98, fx_99, fx_100, fx_101, fx_102, fx_103, fx_104, fx_105, fx_106, fx_107, fx_108, fx_109, fx_110, fx_111, fx_112, fx_113, fx_114, fx_115, fx_116, fx_117, fx_118, fx_119] ++ [fx_120, fx_121, fx_122, fx_123, fx_124, fx_125, fx_126, fx_127, fx_128, fx_129, fx_130, fx_131, fx_132, fx_133, fx_134, fx_135]
def okX (K : PySem.W.Frag) : Bool := fxs.all fun f => f K
def fnsX (K : PySem.W.Frag) : List FnQ := [fnQ K (He.ga K "_law_draw"), fnQ K (He.ga K "_law_deck"), fnQ K (He.ga K "_law_pick"), fnQ K (He.ga K "_law_closure"), fnQ K (He.ga K "_law_is_within"), fnQ K (He.ga K "_law_frame"), fnQ K (He.ga K "_law_scheme_text"), fnQ K (He.ga K "_law_others"), fnQ K (He.ga K "_law_own"), fnQ K (He.ga K "_law_is_derivation"), fnQ K (He.ga K "is_columns"), fnQ K (He.ga K "columns_in"), fnQ K (He.ga K "head_in"), fnQ K (He.ga K "are_within"), fnQ K (He.ga K "is_rule"), fnQ K (He.ma K (He.ga K "Scheme") "__init__"), fnQ K (He.ga K "rule_in"), fnQ K (He.ga K "rules_in"), fnQ K (rec1 K (cmAt K (He.ga K "Scheme") "read") "classmethod"), fnQ K (He.ga K "scheme_in"), fnQ K (He.ga K "is_integer"), fnQ K (He.ga K "derivation_holds"), fnQ K (He.ga K "settles_so"), fnQ K (He.ga K "finding_holds"), fnQ K (He.ga K "_law_text"), fnQ K (He.ga K "law"), fnQ K (He.ma K (He.ga K "BadText") "__init__")]
def valsX : List FnQ := [fnQv "_law_draw" "_law_draw" s__law_draw [], fnQv "_law_deck" "_law_deck" s__law_deck [], fnQv "_law_pick" "_law_pick" s__law_pick [], fnQv "_law_closure" "_law_closure" s__law_closure [], fnQv "_law_is_within" "_law_is_within" s__law_is_within [], fnQv "_law_frame" "_law_frame" s__law_frame [], fnQv "_law_scheme_text" "_law_scheme_text" s__law_scheme_text [], fnQv "_law_others" "_law_others" s__law_others [], fnQv "_law_own" "_law_own" s__law_own [], fnQv "_law_is_derivation" "_law_is_derivation" s__law_is_derivation [], fnQv "is_columns" "is_columns" s_is_columns [], fnQv "columns_in" "columns_in" s_columns_in [], fnQv "head_in" "head_in" s_head_in [], fnQv "are_within" "are_within" s_are_within [], fnQv "is_rule" "is_rule" s_is_rule [], fnQv "__init__" "Scheme.__init__" s_Scheme___init__ [], fnQv "rule_in" "rule_in" s_rule_in [], fnQv "rules_in" "rules_in" s_rules_in [], fnQv "read" "Scheme.read" s_Scheme_read [], fnQv "scheme_in" "scheme_in" s_scheme_in [], fnQv "is_integer" "is_integer" s_is_integer [], fnQv "derivation_holds" "derivation_holds" s_derivation_holds [], fnQv "settles_so" "settles_so" s_settles_so [], fnQv "finding_holds" "finding_holds" s_finding_holds [], fnQv "_law_text" "_law_text" s__law_text [], fnQv "law" "law" s_law [], fnQv "__init__" "BadText.__init__" s_BadText___init__ ["__class__"]]
def tbX (K : PySem.W.Frag) : List (Option (List (Option (Str × Int)))) := [He.dicW K (He.ga K "SIZES")]
def tvX (w : World) : List (Option (List (Option (Str × Int)))) := [some (He.keysIn w.params ["settles", "whole", "apart", "nothing", "places", "verdict"])]
def hnames0 : List Str := [Str.ofString "_wall", Str.ofString "__name__", Str.ofString "RestError", Str.ofString "BadScheme", Str.ofString "BadFrame", Str.ofString "BadText", Str.ofString "NotWhole", Str.ofString "BadRows", Str.ofString "OtherParts", Str.ofString "LETTERS", Str.ofString "BLANK", Str.ofString "BREAK", Str.ofString "NONE", Str.ofString "COLUMNS_WORD", Str.ofString "RULE_WORD", Str.ofString "RULE_PARTS", Str.ofString "RULE_WORDS", Str.ofString "is_integer", Str.ofString "is_columns", Str.ofString "are_within", Str.ofString "is_rule", Str.ofString "columns_in", Str.ofString "word_of", Str.ofString "settled", Str.ofString "head_in", Str.ofString "rule_in", Str.ofString "rules_in", Str.ofString "Scheme", Str.ofString "derivation_holds", Str.ofString "is_row", Str.ofString "is_rows", Str.ofString "row_at", Str.ofString "pairs_of", Str.ofString "does_break", Str.ofString "broken"]
def hnames1 : List Str := [Str.ofString "is_table", Str.ofString "shown", Str.ofString "joined", Str.ofString "KNOWN", Str.ofString "check_whole", Str.ofString "check_rows", Str.ofString "part_of", Str.ofString "parts_of", Str.ofString "odd_parts", Str.ofString "check_known", Str.ofString "BARRED", Str.ofString "STILL", Str.ofString "DRAWN", Str.ofString "CLASH", Str.ofString "STEP_PARTS", Str.ofString "is_index", Str.ofString "Drawing", Str.ofString "parts", Str.ofString "clash", Str.ofString "clash_holds", Str.ofString "rest_rows", Str.ofString "is_kept_with", Str.ofString "is_fitting", Str.ofString "WINDOW_WORD", Str.ofString "REST_WORD", Str.ofString "LINE_WORDS", Str.ofString "PAIR_frames", Str.ofString "check_cover", Str.ofString "is_enough", Str.ofString "named_columns", Str.ofString "frame_parts", Str.ofString "Frame", Str.ofString "apart_holds", Str.ofString "SAME", Str.ofString "UNLIKE"]
def hnames2 : List Str := [Str.ofString "OPEN", Str.ofString "STEPS_PARTS", Str.ofString "OPEN_PARTS", Str.ofString "drawn_from", Str.ofString "number_at", Str.ofString "are_equal_in", Str.ofString "does_draw", Str.ofString "told_holds", Str.ofString "ALWAYS", Str.ofString "SOMETIMES", Str.ofString "NEVER", Str.ofString "PART", Str.ofString "CLASHES", Str.ofString "ALWAYS_PARTS", Str.ofString "OTHER_PARTS", Str.ofString "CASE_PARTS", Str.ofString "is_question", Str.ofString "all_questions", Str.ofString "drawing_for", Str.ofString "hidden_right", Str.ofString "is_let", Str.ofString "is_never", Str.ofString "is_case", Str.ofString "is_always", Str.ofString "are_two", Str.ofString "verdict_holds", Str.ofString "SETTLES", Str.ofString "WHOLE", Str.ofString "APART", Str.ofString "NOTHING", Str.ofString "PLACES", Str.ofString "VERDICT", Str.ofString "SIZES", Str.ofString "PAIR_findings", Str.ofString "scheme_in"]
def hnames3 : List Str := [Str.ofString "frame_in", Str.ofString "are_known", Str.ofString "settles_so", Str.ofString "is_place", Str.ofString "places_so", Str.ofString "verdict_so", Str.ofString "is_about_frame", Str.ofString "finding_holds", Str.ofString "_law_deck", Str.ofString "_law_draw", Str.ofString "_law_pick", Str.ofString "_law_closure", Str.ofString "_law_is_within", Str.ofString "_law_frame", Str.ofString "_law_scheme_text", Str.ofString "_law_text", Str.ofString "_law_is_derivation", Str.ofString "_law_own", Str.ofString "_law_others"]
def hnames : List Str := hnames0 ++ hnames1 ++ hnames2 ++ hnames3
abbrev hR : PySem.W.OpenRow := PySem.W.OpenLaw.row PySem.Challenge.rw_restbehind_k44_findings_of_settling
abbrev hq : Program := PySem.W.view hR.prog [133]
def hnm : List Str := [Str.ofString "_law_draw", Str.ofString "_law_deck", Str.ofString "_law_pick", Str.ofString "_law_closure", Str.ofString "_law_is_within", Str.ofString "_law_frame", Str.ofString "_law_scheme_text", Str.ofString "_law_others", Str.ofString "_law_own", Str.ofString "_law_is_derivation", Str.ofString "is_columns", Str.ofString "columns_in", Str.ofString "head_in", Str.ofString "are_within", Str.ofString "is_rule", Str.ofString "rule_in", Str.ofString "rules_in", Str.ofString "scheme_in", Str.ofString "is_integer", Str.ofString "derivation_holds", Str.ofString "settles_so", Str.ofString "finding_holds", Str.ofString "_law_text", Str.ofString "law", Str.ofString "BadText", Str.ofString "Scheme", Str.ofString "SIZES"]
abbrev hAs : (Addr → Option Obj) → List Addr := asX hnm 5
abbrev hK : PySem.W.Hook := hookX hAs okX fnsX valsX tbX tvX
def hob (s : PySem.W.SharedT) : AlX := obX okX fnsX tbX (He.frG (HandSHeadRun.getT s) (hAs (HandSHeadRun.getT s)))
theorem hob_eq (s : PySem.W.SharedT) : hob s = hK.obs s.abs := obX_eq (HandSHeadRun.getT_eq s)
theorem hrun_false (w : World) : HandSHeadRun.RunEq hR hq hK hob 7000 hnames (w.withFollow "special-get-raises" false) := by
  intro os
  kernel_rfl
theorem hrun_true (w : World) : HandSHeadRun.RunEq hR hq hK hob 7000 hnames (w.withFollow "special-get-raises" true) := by
  intro os
  kernel_rfl
theorem hrun (w : World) : HandSHeadRun.RunEq hR hq hK hob 7000 hnames w := PySem.W.byRow2 "special-get-raises" (P := fun w => HandSHeadRun.RunEq hR hq hK hob 7000 hnames w) hrun_false hrun_true w
end DL
namespace DL
open PySem PySem.Spec PyProof.Rows L2

/-- data -/
inductive D where
  | non | bl (b : Bool) | int (i : Int) | str (x : Str)
  | lst (xs : List D) | tup (xs : List D)
  | dic (kvs : List (Key × D)) | dit (kvs : List (List Key × D))
  | obj (C : Addr) (fs : List (Str × D))

/-- a text that may be: not too long, of code points -/
def SOk (x : Str) : Prop := x.length ≤ sizeLine ∧ PyData.strOk x = true
def KOk : Key → Prop
  | .inl _ => True
  | .inr x => SOk x
def KsOk (k : List Key) : Prop := k.length ≤ sizeLine ∧ ∀ x ∈ k, KOk x
mutual
inductive DD (K : PySem.W.Frag) (G : Hp) : V → D → Prop
  | non : DD K G .non .non
  | bl (b : Bool) : DD K G (.bl b) (.bl b)
  | int (i : Int) : DD K G (.int i) (.int i)
  | str (x : Str) : SOk x → DD K G (.str x) (.str x)
  | lst {a : Addr} {vs : List V} {ds : List D} : G a = some (.lst vs) → vs.length ≤ sizeLine → DDs K G vs ds → DD K G (.ref a) (.lst ds)
  | tup {a : Addr} {vs : List V} {ds : List D} : G a = some (.tup vs) → vs.length ≤ sizeLine → DDs K G vs ds → DD K G (.ref a) (.tup ds)
  | dic {a : Addr} {kv : List (Key × V)} {kd : List (Key × D)} : G a = some (.dK kv) → DKs K G kv kd → DD K G (.ref a) (.dic kd)
  | dit {a : Addr} {kv : List (List Key × V)} {kd : List (List Key × D)} : G a = some (.dT kv) → DTs K G kv kd → DD K G (.ref a) (.dit kd)
  | obj {a C dx : Addr} {fs : List (Str × V)} {fd : List (Str × D)} : G a = some (.ins C dx fs) → DFs K G fs fd → DD K G (.ref a) (.obj C fd)
inductive DDs (K : PySem.W.Frag) (G : Hp) : List V → List D → Prop
  | nil : DDs K G [] []
  | cons {v : V} {vs : List V} {d : D} {ds : List D} : DD K G v d → DDs K G vs ds → DDs K G (v :: vs) (d :: ds)
inductive DKs (K : PySem.W.Frag) (G : Hp) : List (Key × V) → List (Key × D) → Prop
  | nil : DKs K G [] []
  | cons {k : Key} {v : V} {vs : List (Key × V)} {d : D} {ds : List (Key × D)} : KOk k → DD K G v d → DKs K G vs ds → DKs K G ((k, v) :: vs) ((k, d) :: ds)
inductive DTs (K : PySem.W.Frag) (G : Hp) : List (List Key × V) → List (List Key × D) → Prop
  | nil : DTs K G [] []
  | cons {k : List Key} {v : V} {vs : List (List Key × V)} {d : D} {ds : List (List Key × D)} : KsOk k → DD K G v d → DTs K G vs ds → DTs K G ((k, v) :: vs) ((k, d) :: ds)
inductive DFs (K : PySem.W.Frag) (G : Hp) : List (Str × V) → List (Str × D) → Prop
  | nil : DFs K G [] []
  | cons {k : Str} {v : V} {vs : List (Str × V)} {d : D} {ds : List (Str × D)} : DD K G v d → DFs K G vs ds → DFs K G ((k, v) :: vs) ((k, d) :: ds)
end
theorem SqL.up {K : PySem.W.Frag} {G G' : Hp} {a : Addr} {xs : List V} (e : Same G G') (h : SqL K G a xs) : SqL K G' a xs := e.seq h
theorem SqT.up {K : PySem.W.Frag} {G G' : Hp} {a : Addr} {xs : List V} (e : Same G G') (h : SqT K G a xs) : SqT K G' a xs := by
  rcases h with (h | ⟨o, h⟩) | h
  · exact Or.inl (Or.inl (e _ _ h))
  · exact Or.inl (Or.inr ⟨o, e _ _ h⟩)
  · exact Or.inr h

mutual
theorem DD.up {K : PySem.W.Frag} {G G' : Hp} (e : Same G G') : ∀ {v : V} {d : D}, DD K G v d → DD K G' v d
  | _, _, .non => .non
  | _, _, .bl b => .bl b
  | _, _, .int i => .int i
  | _, _, .str x h => .str x h
  | _, _, .lst h z r => .lst (e _ _ h) z (DDs.up e r)
  | _, _, .tup h z r => .tup (e _ _ h) z (DDs.up e r)
  | _, _, .dic h r => .dic (e _ _ h) (DKs.up e r)
  | _, _, .dit h r => .dit (e _ _ h) (DTs.up e r)
  | _, _, .obj h r => .obj (e _ _ h) (DFs.up e r)
theorem DDs.up {K : PySem.W.Frag} {G G' : Hp} (e : Same G G') : ∀ {v : List V} {d : List D}, DDs K G v d → DDs K G' v d
  | _, _, .nil => .nil
  | _, _, .cons a b => .cons (DD.up e a) (DDs.up e b)
theorem DKs.up {K : PySem.W.Frag} {G G' : Hp} (e : Same G G') : ∀ {v : List (Key × V)} {d : List (Key × D)}, DKs K G v d → DKs K G' v d
  | _, _, .nil => .nil
  | _, _, .cons c a b => .cons c (DD.up e a) (DKs.up e b)
theorem DTs.up {K : PySem.W.Frag} {G G' : Hp} (e : Same G G') : ∀ {v : List (List Key × V)} {d : List (List Key × D)}, DTs K G v d → DTs K G' v d
  | _, _, .nil => .nil
  | _, _, .cons c a b => .cons c (DD.up e a) (DTs.up e b)
theorem DFs.up {K : PySem.W.Frag} {G G' : Hp} (e : Same G G') : ∀ {v : List (Str × V)} {d : List (Str × D)}, DFs K G v d → DFs K G' v d
  | _, _, .nil => .nil
  | _, _, .cons a b => .cons (DD.up e a) (DFs.up e b)
end
section
variable {K : PySem.W.Frag} {G : Hp}
theorem DDs.len : ∀ {vs : List V} {ds : List D}, DDs K G vs ds → vs.length = ds.length
  | _, _, .nil => rfl
  | _, _, .cons _ b => congrArg Nat.succ (DDs.len b)
theorem DDs.get : ∀ {vs : List V} {ds : List D} {i : Nat} {d : D}, DDs K G vs ds → ds[i]? = some d → ∃ v, vs[i]? = some v ∧ DD K G v d
  | _, _, _, _, .nil, e => by simp at e
  | _, _, 0, _, .cons a _, e => by simp at e; subst e; exact ⟨_, rfl, a⟩
  | _, _, i + 1, d, .cons _ b, e => by
    obtain ⟨v, h1, h2⟩ := DDs.get (i := i) (d := d) b (by simpa using e)
    exact ⟨v, by simpa using h1, h2⟩
theorem DDs.getV : ∀ {vs : List V} {ds : List D} {i : Nat} {v : V}, DDs K G vs ds → vs[i]? = some v → ∃ d, ds[i]? = some d ∧ DD K G v d
  | _, _, _, _, .nil, e => by simp at e
  | _, _, 0, _, .cons a _, e => by simp at e; subst e; exact ⟨_, rfl, a⟩
  | _, _, i + 1, d, .cons _ b, e => by
    obtain ⟨v, h1, h2⟩ := DDs.getV (i := i) (v := d) b (by simpa using e)
    exact ⟨v, by simpa using h1, h2⟩
theorem DDs.app : ∀ {vs ws : List V} {ds es : List D}, DDs K G vs ds → DDs K G ws es → DDs K G (vs ++ ws) (ds ++ es)
  | _, _, _, _, .nil, h => h
  | _, _, _, _, .cons a b, h => .cons a (DDs.app b h)
theorem DDs.one {v : V} {d : D} (h : DD K G v d) : DDs K G [v] [d] := .cons h .nil
theorem DDs.take : ∀ {vs : List V} {ds : List D} (n : Nat), DDs K G vs ds → DDs K G (vs.take n) (ds.take n)
  | _, _, 0, _ => .nil
  | _, _, _ + 1, .nil => .nil
  | _, _, n + 1, .cons a b => .cons a (DDs.take n b)
theorem DDs.drop : ∀ {vs : List V} {ds : List D} (n : Nat), DDs K G vs ds → DDs K G (vs.drop n) (ds.drop n)
  | _, _, 0, h => h
  | _, _, _ + 1, .nil => .nil
  | _, _, n + 1, .cons _ b => DDs.drop n b
theorem DDs.rev : ∀ {vs : List V} {ds : List D}, DDs K G vs ds → DDs K G vs.reverse ds.reverse
  | _, _, .nil => .nil
  | _, _, .cons a b => by rw [List.reverse_cons, List.reverse_cons]; exact (DDs.rev b).app (.one a)
theorem DDs.erase : ∀ {vs : List V} {ds : List D} (n : Nat), DDs K G vs ds → DDs K G (vs.eraseIdx n) (ds.eraseIdx n)
  | _, _, _, .nil => .nil
  | _, _, 0, .cons _ b => b
  | _, _, n + 1, .cons a b => .cons a (DDs.erase n b)
theorem DDs.dropLast : ∀ {vs : List V} {ds : List D}, DDs K G vs ds → DDs K G vs.dropLast ds.dropLast
  | _, _, .nil => .nil
  | _, _, .cons _ .nil => .nil
  | _, _, .cons a (.cons b c) => .cons a (DDs.dropLast (.cons b c))
theorem DKs.len : ∀ {vs : List (Key × V)} {ds : List (Key × D)}, DKs K G vs ds → vs.length = ds.length
  | _, _, .nil => rfl
  | _, _, .cons _ _ b => congrArg Nat.succ (DKs.len b)
theorem DTs.len : ∀ {vs : List (List Key × V)} {ds : List (List Key × D)}, DTs K G vs ds → vs.length = ds.length
  | _, _, .nil => rfl
  | _, _, .cons _ _ b => congrArg Nat.succ (DTs.len b)
/-- a field -/
theorem DFs.look : ∀ {vs : List (Str × V)} {ds : List (Str × D)} {f : Str} {d : D}, DFs K G vs ds → ds.lookup f = some d → ∃ v, vs.lookup f = some v ∧ DD K G v d
  | _, _, _, _, .nil, e => by cases e
  | _, _, f, d, .cons (k := k) a b, e => by
    rw [List.lookup_cons] at e ⊢
    cases h : f == k with
    | true => rw [h] at e; cases e; exact ⟨_, rfl, a⟩
    | false => rw [h] at e; exact DFs.look b e
end

/-- a slot: not known; data; a list or dict of the frame's own; the deck: what is left, the mixed number -/
inductive Cell where
  | no | dat (d : D) | own (d : D) | deck (a q : Addr) (l : List Int) (b : Int) | slf (a : Addr) (d : D) | cls (C : Addr)
abbrev Env := List Cell
/-- a value: data, or the own object at a slot -/
inductive W where
  | dat (d : D) | own (i : Nat)
/-- an exception that flies: its class, its fields -/
structure ExV where
  cls : Addr
  fs : List (Str × D)
inductive Res (α : Type) where
  | ok (a : α) | err (x : ExV) (E : Env) | stuck
def Res.bind {α β : Type} : Res α → (α → Res β) → Res β
  | .ok a, f => f a
  | .err x E, _ => .err x E
  | .stuck, _ => .stuck
instance : Monad Res where
  pure := .ok
  bind := Res.bind
@[simp] theorem Res.ok_bind {α β : Type} (a : α) (f : α → Res β) : (Res.ok a).bind f = f a := rfl
@[simp] theorem Res.err_bind {α β : Type} (x : ExV) (E : Env) (f : α → Res β) : (Res.err x E).bind f = .err x E := rfl
@[simp] theorem Res.stuck_bind {α β : Type} (f : α → Res β) : (Res.stuck).bind f = .stuck := rfl

/-- a frame: the heap at its entry, what of it is data, what of it may change -/
structure Fr where
  H0 : Hp
  G0 : Hp
  X0 : List Addr

def OwnAt (K : PySem.W.Frag) (G H : Hp) (a : Addr) : D → Prop
  | .lst ds => ∃ vs, H a = some (.lst vs) ∧ vs.length ≤ sizeLine ∧ DDs K G vs ds
  | .dic kd => ∃ kv, H a = some (.dK kv) ∧ DKs K G kv kd
  | .dit kd => ∃ kv, H a = some (.dT kv) ∧ DTs K G kv kd
  | .obj C fd => ∃ dx fs, H a = some (.ins C dx fs) ∧ DFs K G fs fd
  | _ => False
def DeckAt (H : Hp) (a q : Addr) (l : List Int) (b : Int) : Prop :=
  H a = some (.dK [(.inr "left", .ref q), (.inr "mixed", .int (b % 2147483587)), (.inr "draws", .int (b / 2147483587))]) ∧ H q = some (.lst (l.map V.int))
def CellOk (K : PySem.W.Frag) (G H : Hp) (as : List Addr) (v : Option V) : Cell → Prop
  | .no => as = []
  | .dat d => as = [] ∧ ∃ x, v = some x ∧ DD K G x d
  | .own d => ∃ a, as = [a] ∧ v = some (.ref a) ∧ OwnAt K G H a d
  | .deck a q l b => as = [a, q] ∧ v = some (.ref a) ∧ DeckAt H a q l b
  | .slf a d => as = [a] ∧ v = some (.ref a) ∧ OwnAt K G H a d
  | .cls C => as = [] ∧ v = some (.ref C)

/-- a tuple never changes -/
def isT : HO → Bool
  | .tup _ => true
  | _ => false
structure StE (K : PySem.W.Frag) (F : Fr) (G H : Hp) (σ : L2.St) (E : Env) (as : Nat → List Addr) : Prop where
  len : σ.length = E.length
  s0 : Same F.G0 G
  s1 : Same G H
  keep : ∀ a o, F.H0 a = some o → a ∉ F.X0 → H a = some o
  dom : ∀ a, H a = none → F.H0 a = none
  priv : ∀ a o, G a ≠ none → F.H0 a = some o → isT o = false → a ∉ F.X0 → F.G0 a ≠ none
  cell : ∀ i c, E[i]? = some c → ∃ v, σ[i]? = some v ∧ CellOk K G H (as i) v c
  sep : ∀ i j a, a ∈ as i → a ∈ as j → i = j
  off : ∀ i a, a ∈ as i → G a = none ∧ (F.H0 a = none ∨ a ∈ F.X0)
  tail : ∀ i, E.length ≤ i → as i = []

def WOk (K : PySem.W.Frag) (G : Hp) (E : Env) (σ : L2.St) (v : V) : W → Prop
  | .dat d => DD K G v d
  | .own i => σ[i]? = some (some v)
def ExOk (K : PySem.W.Frag) (G : Hp) (x : ExV) (c : Value) (dx : Option Addr) : Prop :=
  c = .ref x.cls ∧ match dx with
    | none => x.fs = []
    | some d => ∃ fs, G d = some (.xd fs) ∧ DFs K G fs x.fs

abbrev Wish := L2.St → XK
/-- what is wanted behind an expression -/
def Po (K : PySem.W.Frag) (Wi : Wish) (F : Fr) (G : Hp) (σ : L2.St) (Q : VK) : Res (W × Env) → Prop
  | .ok (w, E') => ∀ v G' H' as', Same G G' → StE K F G' H' σ E' as' → WOk K G' E' σ v w → Q v H'
  | .err x E' => ∀ c dx G' H' as', Same G G' → StE K F G' H' σ E' as' → ExOk K G' x c dx → Wi σ c dx H'
  | .stuck => False
abbrev EF := Env → Res (W × Env)
def tE (K : PySem.W.Frag) (Wi : Wish) (f : EF) : TE := fun σ H Q => ∃ F G E as, StE K F G H σ E as ∧ Po K Wi F G σ Q (f E)
/-- behind a list of arguments -/
def WOks (K : PySem.W.Frag) (G : Hp) (E : Env) (σ : L2.St) : List V → List W → Prop
  | [], [] => True
  | v :: vs, w :: ws => WOk K G E σ v w ∧ WOks K G E σ vs ws
  | _, _ => False
def PoA (K : PySem.W.Frag) (Wi : Wish) (F : Fr) (G : Hp) (σ : L2.St) (Q : List V → Hp → Prop) : Res (List W × Env) → Prop
  | .ok (ws, E') => ∀ vs G' H' as', Same G G' → StE K F G' H' σ E' as' → WOks K G' E' σ vs ws → Q vs H'
  | .err x E' => ∀ c dx G' H' as', Same G G' → StE K F G' H' σ E' as' → ExOk K G' x c dx → Wi σ c dx H'
  | .stuck => False
abbrev AF := Env → Res (List W × Env)
def tA (K : PySem.W.Frag) (Wi : Wish) (f : AF) : TA := fun σ H Q => ∃ F G E as, StE K F G H σ E as ∧ PoA K Wi F G σ Q (f E)
/-- how a statement ends -/
inductive Fl where
  | nx | bk | ct | rt (d : D)
def PoS (K : PySem.W.Frag) (Wi : Wish) (F : Fr) (G : Hp) (Dn : Ends) : Res (Fl × Env) → Prop
  | .ok (.nx, E') => ∀ σ' G' H' as', Same G G' → StE K F G' H' σ' E' as' → Dn.nx σ' H'
  | .ok (.bk, E') => ∀ σ' G' H' as', Same G G' → StE K F G' H' σ' E' as' → Dn.bk σ' H'
  | .ok (.ct, E') => ∀ σ' G' H' as', Same G G' → StE K F G' H' σ' E' as' → Dn.ct σ' H'
  | .ok (.rt d, E') => ∀ v σ' G' H' as', Same G G' → StE K F G' H' σ' E' as' → DD K G' v d → Dn.rt v H'
  | .err x E' => ∀ c dx σ' G' H' as', Same G G' → StE K F G' H' σ' E' as' → ExOk K G' x c dx → Wi σ' c dx H'
  | .stuck => False
abbrev SF := Env → Res (Fl × Env)
def tS (K : PySem.W.Frag) (Wi : Wish) (f : SF) : TS := fun Dn σ H => ∃ F G E as, StE K F G H σ E as ∧ PoS K Wi F G Dn (f E)

abbrev DE (X : Cx) (Wi : Wish) (e : Expr) (f : EF) : Prop := PE X e (tE X.K Wi f)
abbrev DA (X : Cx) (Wi : Wish) (es : List Expr) (f : AF) : Prop := PA X es (tA X.K Wi f)
abbrev DS (X : Cx) (Wi : Wish) (st : Stmt) (f : SF) : Prop := PS X st (tS X.K Wi f)
abbrev DSs (X : Cx) (Wi : Wish) (st : List Stmt) (f : SF) : Prop := PSs X st (tS X.K Wi f)

theorem PE.imp {X : Cx} {e : Expr} {t t' : TE} (h : PE X e t) (i : ∀ σ H Q, t' σ H Q → t σ H Q) : PE X e t' :=
  ⟨fun pins s σ H Q I q => h.run pins s σ H Q I (i σ H Q q)⟩
theorem PT.imp {X : Cx} {e : Expr} {t t' : TT} (h : PT X e t) (i : ∀ σ H Q, t' σ H Q → t σ H Q) : PT X e t' :=
  ⟨fun pins s σ H Q I q => h.run pins s σ H Q I (i σ H Q q)⟩
theorem PA.imp {X : Cx} {e : List Expr} {t t' : TA} (h : PA X e t) (i : ∀ σ H Q, t' σ H Q → t σ H Q) : PA X e t' :=
  ⟨fun pos pins s σ H Q I q => h.run pos pins s σ H Q I (i σ H Q q)⟩
theorem PS.imp {X : Cx} {e : Stmt} {t t' : TS} (h : PS X e t) (i : ∀ D σ H, t' D σ H → t D σ H) : PS X e t' :=
  ⟨fun pins s σ H Q I q => h.run pins s σ H Q I (i Q σ H q)⟩
theorem PSs.imp {X : Cx} {e : List Stmt} {t t' : TS} (h : PSs X e t) (i : ∀ D σ H, t' D σ H → t D σ H) : PSs X e t' :=
  ⟨fun pins s σ H Q I q => h.run pins s σ H Q I (i Q σ H q)⟩

section
variable {K : PySem.W.Frag} {Wi : Wish} {F : Fr} {G G1 H : Hp} {σ : L2.St} {E : Env} {as : Nat → List Addr} {Q : VK}
theorem Po.up {r : Res (W × Env)} (e : Same G G1) (h : Po K Wi F G σ Q r) : Po K Wi F G1 σ Q r := by
  match r, h with
  | .ok (w, E'), h => exact fun v G' H' as' s => h v G' H' as' (e.trans s)
  | .err x E', h => exact fun c dx G' H' as' s => h c dx G' H' as' (e.trans s)
theorem PoA.up {QA : List V → Hp → Prop} {r : Res (List W × Env)} (e : Same G G1) (h : PoA K Wi F G σ QA r) : PoA K Wi F G1 σ QA r := by
  match r, h with
  | .ok (w, E'), h => exact fun v G' H' as' s => h v G' H' as' (e.trans s)
  | .err x E', h => exact fun c dx G' H' as' s => h c dx G' H' as' (e.trans s)
theorem PoS.up {Dn : Ends} {r : Res (Fl × Env)} (e : Same G G1) (h : PoS K Wi F G Dn r) : PoS K Wi F G1 Dn r := by
  match r, h with
  | .ok (.nx, E'), h => exact fun v G' H' as' s => h v G' H' as' (e.trans s)
  | .ok (.bk, E'), h => exact fun v G' H' as' s => h v G' H' as' (e.trans s)
  | .ok (.ct, E'), h => exact fun v G' H' as' s => h v G' H' as' (e.trans s)
  | .ok (.rt d, E'), h => exact fun v σ' G' H' as' s => h v σ' G' H' as' (e.trans s)
  | .err x E', h => exact fun c dx σ' G' H' as' s => h c dx σ' G' H' as' (e.trans s)
/-- behind the first of two steps -/
def Mid (K : PySem.W.Frag) (F : Fr) (G : Hp) (σ : L2.St) (R : V → W → Hp → Hp → Env → (Nat → List Addr) → Prop) (v : V) (H1 : Hp) : Prop :=
  ∃ w G1 E1 as1, Same G G1 ∧ StE K F G1 H1 σ E1 as1 ∧ WOk K G1 E1 σ v w ∧ R v w G1 H1 E1 as1
theorem Po.bind {r : Res (W × Env)} {g : W × Env → Res (W × Env)} (h : Po K Wi F G σ Q (r.bind g)) :
    Po K Wi F G σ (Mid K F G σ fun _ w G1 _ E1 _ => Po K Wi F G1 σ Q (g (w, E1))) r := by
  match r, h with
  | .ok (w, E'), h => exact fun v G' H' as' s st wo => ⟨w, G', E', as', s, st, wo, Po.up s h⟩
  | .err x E', h => exact h
theorem Po.bindA {r : Res (W × Env)} {QA : List V → Hp → Prop} {g : W × Env → Res (List W × Env)} (h : PoA K Wi F G σ QA (r.bind g)) :
    Po K Wi F G σ (Mid K F G σ fun _ w G1 _ E1 _ => PoA K Wi F G1 σ QA (g (w, E1))) r := by
  match r, h with
  | .ok (w, E'), h => exact fun v G' H' as' s st wo => ⟨w, G', E', as', s, st, wo, PoA.up s h⟩
  | .err x E', h => exact h
/-- an expression, then a statement's end with the same slots -/
theorem Po.bindS {r : Res (W × Env)} {Dn : Ends} {g : W × Env → Res (Fl × Env)} (h : PoS K Wi F G Dn (r.bind g)) :
    Po K Wi F G σ (Mid K F G σ fun _ w G1 _ E1 _ => PoS K Wi F G1 Dn (g (w, E1))) r := by
  match r, h with
  | .ok (w, E'), h => exact fun v G' H' as' s st wo => ⟨w, G', E', as', s, st, wo, PoS.up s h⟩
  | .err x E', h => exact fun c dx G' H' as' s st xo => h c dx σ G' H' as' s st xo
def MidA (K : PySem.W.Frag) (F : Fr) (G : Hp) (σ : L2.St) (R : List V → List W → Hp → Hp → Env → (Nat → List Addr) → Prop) (vs : List V) (H1 : Hp) : Prop :=
  ∃ ws G1 E1 as1, Same G G1 ∧ StE K F G1 H1 σ E1 as1 ∧ WOks K G1 E1 σ vs ws ∧ R vs ws G1 H1 E1 as1
theorem PoA.bind {r : Res (List W × Env)} {g : List W × Env → Res (W × Env)} (h : Po K Wi F G σ Q (r.bind g)) :
    PoA K Wi F G σ (MidA K F G σ fun _ ws G1 _ E1 _ => Po K Wi F G1 σ Q (g (ws, E1))) r := by
  match r, h with
  | .ok (w, E'), h => exact fun v G' H' as' s st wo => ⟨w, G', E', as', s, st, wo, Po.up s h⟩
  | .err x E', h => exact h
end
end DL
namespace DL
open PySem PySem.Spec PyProof.Rows L2

section
variable {K : PySem.W.Frag} {Wi : Wish} {F : Fr} {G G' H H' : Hp} {σ : L2.St} {E : Env} {as : Nat → List Addr} {Q : VK}

/-- the heap grows, what is data grows by new things alone -/
structure Al (G H G' H' : Hp) : Prop where
  g : Same G G'
  h : Same H H'
  s : Same G' H'
  new : ∀ a o, G' a ≠ none → G a = none → H a = some o → isT o = true
theorem Al.refl (s : Same G H) : Al G H G H := ⟨Same.refl _, Same.refl _, s, fun _ _ h e => absurd e h⟩
theorem Al.trans {G1 H1 G2 H2 : Hp} (a : Al G H G1 H1) (b : Al G1 H1 G2 H2) : Al G H G2 H2 := by
  refine ⟨a.g.trans b.g, a.h.trans b.h, b.s, fun x o h e q => ?_⟩
  by_cases h1 : G1 x = none
  · exact b.new x o h h1 (a.h x o q)
  · exact a.new x o h1 e q
theorem Al.one {p : Addr} {o : HO} (s : Same G H) (hp : H p = none) : Al G H (upd G p o) (upd H p o) := by
  have gp : G p = none := s.free hp
  refine ⟨fun b u e => ?_, fun b u e => ?_, fun b u e => ?_, fun b o h e q => ?_⟩
  · rw [upd_ne (ne_of_none e gp)]; exact e
  · rw [upd_ne (ne_of_none e hp)]; exact e
  · by_cases hb : b = p
    · subst hb; rw [upd_same] at e ⊢; exact e
    · rw [upd_ne hb] at e ⊢; exact s b u e
  · by_cases hb : b = p
    · rw [hb, hp] at q; cases q
    · rw [upd_ne hb] at h; exact absurd e h
theorem Al.grow (s : Same G H) (h : Same H H') : Al G H G H' := ⟨Same.refl _, h, s.trans h, fun _ _ h e => absurd e h⟩

theorem OwnAt.up {a : Addr} {d : D} (e : Same G G') (h : ∀ o, H a = some o → H' a = some o) (x : OwnAt K G H a d) : OwnAt K G' H' a d := by
  cases d with
  | lst ds => obtain ⟨vs, e1, z, r⟩ := x; exact ⟨vs, h _ e1, z, r.up e⟩
  | dic kd => obtain ⟨vs, e1, r⟩ := x; exact ⟨vs, h _ e1, r.up e⟩
  | dit kd => obtain ⟨vs, e1, r⟩ := x; exact ⟨vs, h _ e1, r.up e⟩
  | obj C fd => obtain ⟨dx, vs, e1, r⟩ := x; exact ⟨dx, vs, h _ e1, r.up e⟩
  | non => exact x.elim
  | bl _ => exact x.elim
  | int _ => exact x.elim
  | str _ => exact x.elim
  | tup _ => exact x.elim
theorem OwnAt.hasM {a : Addr} {d : D} (x : OwnAt K G H a d) : ∃ o, H a = some o ∧ isT o = false := by
  cases d with
  | lst ds => obtain ⟨vs, e1, z, r⟩ := x; exact ⟨_, e1, rfl⟩
  | dic kd => obtain ⟨vs, e1, r⟩ := x; exact ⟨_, e1, rfl⟩
  | dit kd => obtain ⟨vs, e1, r⟩ := x; exact ⟨_, e1, rfl⟩
  | obj C fd => obtain ⟨dx, vs, e1, r⟩ := x; exact ⟨_, e1, rfl⟩
  | non => exact x.elim
  | bl _ => exact x.elim
  | int _ => exact x.elim
  | str _ => exact x.elim
  | tup _ => exact x.elim
theorem OwnAt.hasO {a : Addr} {d : D} (x : OwnAt K G H a d) : ∃ o, H a = some o := let ⟨o, h, _⟩ := x.hasM; ⟨o, h⟩
theorem CellOk.up {l : List Addr} {v : Option V} {c : Cell} (e : Same G G') (h : ∀ a ∈ l, ∀ o, H a = some o → H' a = some o) (x : CellOk K G H l v c) : CellOk K G' H' l v c := by
  cases c with
  | no => exact x
  | dat d => obtain ⟨x1, y, x2, x3⟩ := x; exact ⟨x1, y, x2, x3.up e⟩
  | own d => obtain ⟨a, x1, x2, x3⟩ := x; exact ⟨a, x1, x2, x3.up e (h a (by rw [x1]; exact List.mem_singleton.mpr rfl))⟩
  | slf a d => obtain ⟨x1, x2, x3⟩ := x; exact ⟨x1, x2, x3.up e (h a (by rw [x1]; exact List.mem_singleton.mpr rfl))⟩
  | deck a q z b => obtain ⟨x1, x2, x3, x4⟩ := x; exact ⟨x1, x2, h a (by rw [x1]; simp) _ x3, h q (by rw [x1]; simp) _ x4⟩
  | cls _ => exact x
theorem CellOk.there {l : List Addr} {v : Option V} {c : Cell} (x : CellOk K G H l v c) : ∀ a ∈ l, ∃ o, H a = some o ∧ isT o = false := by
  intro a ha
  cases c with
  | no => rw [show l = [] from x] at ha; cases ha
  | cls _ => rw [x.1] at ha; cases ha
  | dat d => rw [x.1] at ha; cases ha
  | own d =>
    obtain ⟨b, x1, x2, x3⟩ := x
    rw [x1] at ha
    rw [List.mem_singleton.mp ha]
    exact x3.hasM
  | slf b d =>
    obtain ⟨x1, x2, x3⟩ := x
    rw [x1] at ha
    rw [List.mem_singleton.mp ha]
    exact x3.hasM
  | deck b q z c =>
    obtain ⟨x1, x2, x3, x4⟩ := x
    rw [x1] at ha
    rcases List.mem_cons.mp ha with e | ha
    · rw [e]; exact ⟨_, x3, rfl⟩
    · rw [List.mem_singleton.mp ha]; exact ⟨_, x4, rfl⟩
theorem StE.thereM (st : StE K F G H σ E as) {i : Nat} {a : Addr} (ha : a ∈ as i) : ∃ o, H a = some o ∧ isT o = false := by
  by_cases hi : i < E.length
  · obtain ⟨v, _, x⟩ := st.cell i E[i] (List.getElem?_eq_getElem hi)
    exact x.there a ha
  · rw [st.tail i (by omega)] at ha; cases ha
theorem StE.there (st : StE K F G H σ E as) {i : Nat} {a : Addr} (ha : a ∈ as i) : ∃ o, H a = some o := let ⟨o, h, _⟩ := st.thereM ha; ⟨o, h⟩
theorem StE.al (st : StE K F G H σ E as) (a : Al G H G' H') : StE K F G' H' σ E as := by
  refine ⟨st.len, st.s0.trans a.g, a.s, fun b o h x => a.h _ _ (st.keep b o h x), fun b h => st.dom b (a.h.free h), fun b o h h0 ht hx => ?_, fun i c e => ?_, st.sep, fun i b hb => ⟨?_, (st.off i b hb).2⟩, st.tail⟩
  · by_cases hg : G b = none
    · by_cases hb : H b = none
      · rw [st.dom b hb] at h0; cases h0
      · obtain ⟨u, hu⟩ := Option.ne_none_iff_exists'.mp hb
        have e := st.keep b o h0 hx
        rw [a.new b o h hg e] at ht; cases ht
    · exact st.priv b o hg h0 ht hx
  · obtain ⟨v, e1, x⟩ := st.cell i c e
    exact ⟨v, e1, x.up a.g fun b _ o q => a.h b o q⟩
  · by_cases hg : G' b = none
    · exact hg
    · obtain ⟨o, q, ht⟩ := st.thereM hb
      rw [a.new b o hg (st.off i b hb).1 q] at ht; cases ht
/-- the addresses without those of a slot -/
def drp (as : Nat → List Addr) (i : Nat) (l : List Addr) : Nat → List Addr := fun j => if j = i then l else as j
theorem drp_same {i : Nat} {l : List Addr} : drp as i l i = l := if_pos rfl
theorem drp_ne {i j : Nat} {l : List Addr} (h : j ≠ i) : drp as i l j = as j := if_neg h
theorem get_set {α : Type} {l : List α} {i j : Nat} {x y : α} (h : (l.set i x)[j]? = some y) : (j = i ∧ y = x) ∨ (j ≠ i ∧ l[j]? = some y) := by
  by_cases e : i = j
  · subst e
    by_cases hl : i < l.length
    · rw [List.getElem?_set_self hl] at h; cases h; exact .inl ⟨rfl, rfl⟩
    · rw [List.getElem?_eq_none (by rw [List.length_set]; omega)] at h; cases h
  · rw [List.getElem?_set_ne e] at h; exact .inr ⟨fun q => e q.symm, h⟩
/-- a slot gets a new cell, whose addresses are l -/
theorem StE.setC (st : StE K F G H σ E as) {i : Nat} {x : Option V} {c : Cell} {l : List Addr} (hc : CellOk K G H l x c) (hl : ∀ a ∈ l, (∀ j, j ≠ i → a ∉ as j) ∧ G a = none ∧ (F.H0 a = none ∨ a ∈ F.X0)) (hi : i < E.length ∨ l = []) :
    StE K F G H (σ.set i x) (E.set i c) (drp as i l) := by
  refine ⟨by rw [List.length_set, List.length_set]; exact st.len, st.s0, st.s1, st.keep, st.dom, st.priv, fun j c' e => ?_, fun j k a h1 h2 => ?_, fun j a h => ?_, fun j hj => ?_⟩
  · rcases get_set e with ⟨rfl, rfl⟩ | ⟨hj, e⟩
    · refine ⟨x, List.getElem?_set_self ?_, ?_⟩
      · have := (List.getElem?_eq_some_iff.mp e).1
        rw [List.length_set] at this; rw [st.len]; exact this
      · rw [drp_same]; exact hc
    · obtain ⟨v, e1, y⟩ := st.cell j c' e
      exact ⟨v, by rw [List.getElem?_set_ne (Ne.symm hj)]; exact e1, by rw [drp_ne hj]; exact y⟩
  · by_cases hj : j = i <;> by_cases hk : k = i
    · rw [hj, hk]
    · subst hj; rw [drp_same] at h1; rw [drp_ne hk] at h2; exact absurd h2 ((hl a h1).1 k hk)
    · subst hk; rw [drp_same] at h2; rw [drp_ne hj] at h1; exact absurd h1 ((hl a h2).1 j hj)
    · rw [drp_ne hj] at h1; rw [drp_ne hk] at h2; exact st.sep j k a h1 h2
  · by_cases hj : j = i
    · subst hj; rw [drp_same] at h; exact (hl a h).2
    · rw [drp_ne hj] at h; exact st.off j a h
  · rw [List.length_set] at hj
    by_cases e : j = i
    · subst e; rw [drp_same]
      rcases hi with hi | hi
      · omega
      · exact hi
    · rw [drp_ne e]; exact st.tail j hj
theorem StE.setD (st : StE K F G H σ E as) {i : Nat} {v : V} {d : D} (h : DD K G v d) : StE K F G H (σ.set i (some v)) (E.set i (.dat d)) (drp as i []) :=
  st.setC ⟨rfl, v, rfl, h⟩ (fun _ h => by cases h) (.inr rfl)
theorem StE.setN (st : StE K F G H σ E as) {i : Nat} {x : Option V} : StE K F G H (σ.set i x) (E.set i .no) (drp as i []) :=
  st.setC (by rfl) (fun _ h => by cases h) (.inr rfl)
/-- an own object is written -/
theorem StE.write (st : StE K F G H σ E as) {i : Nat} {a : Addr} {d d' : D} {o : HO} (e : E[i]? = some (.own d)) (ha : a ∈ as i) (h : OwnAt K G (upd H a o) a d') : StE K F G (upd H a o) σ (E.set i (.own d')) as := by
  obtain ⟨v, e1, b, x1, x2, x3⟩ := st.cell i _ e
  have eb : a = b := by rw [x1] at ha; exact List.mem_singleton.mp ha
  subst eb
  have of := st.off i a ha
  refine ⟨by rw [List.length_set]; exact st.len, st.s0, fun b u q => ?_, fun b u q x => ?_, fun b q => ?_, st.priv, fun j c' q => ?_, st.sep, st.off, fun j hj => st.tail j (by rw [List.length_set] at hj; exact hj)⟩
  · rw [upd_ne (ne_of_none q of.1)]; exact st.s1 b u q
  · have hb : b ≠ a := fun z => by
      subst z
      rcases of.2 with z | z
      · rw [z] at q; cases q
      · exact x z
    rw [upd_ne hb]; exact st.keep b u q x
  · by_cases hb : b = a
    · subst hb; rw [upd_same] at q; cases q
    · rw [upd_ne hb] at q; exact st.dom b q
  · rcases get_set q with ⟨rfl, rfl⟩ | ⟨hj, q⟩
    · exact ⟨v, e1, a, x1, x2, h⟩
    · obtain ⟨w, e2, y⟩ := st.cell j c' q
      refine ⟨w, e2, y.up (Same.refl _) fun b hb u q => ?_⟩
      have : b ≠ a := fun z => by subst z; exact hj (st.sep j i b hb ha)
      rw [upd_ne this]; exact q
/-- an own object becomes data -/
theorem StE.freeze (st : StE K F G H σ E as) {i : Nat} {a : Addr} {d : D} (e : E[i]? = some (.own d)) (ha : σ[i]? = some (some (.ref a))) : ∃ G', Same G G' ∧ DD K G' (.ref a) d ∧ StE K F G' H σ (E.set i (.dat d)) (drp as i []) := by
  obtain ⟨v, e1, b, x1, x2, x3⟩ := st.cell i _ e
  rw [ha] at e1; cases e1
  cases x2
  have hm : a ∈ as i := by rw [x1]; exact List.mem_singleton.mpr rfl
  obtain ⟨ga, hoff⟩ := st.off i a hm
  obtain ⟨o, ho⟩ := x3.hasO
  have sg : Same G (upd G a o) := fun b u q => by rw [upd_ne (ne_of_none q ga)]; exact q
  have st1 : StE K F (upd G a o) H σ (E.set i .no) (drp as i []) := by
    refine ⟨by rw [List.length_set]; exact st.len, st.s0.trans sg, fun b u q => ?_, st.keep, st.dom, fun b o h h0 ht hx => ?_, fun j c' q => ?_, fun j k b h1 h2 => ?_, fun j b h => ?_, fun j hj => ?_⟩
    · by_cases hb : b = a
      · subst hb; rw [upd_same] at q; cases q; exact ho
      · rw [upd_ne hb] at q; exact st.s1 b u q
    · by_cases hb : b = a
      · subst hb
        rcases hoff with z | z
        · rw [z] at h0; cases h0
        · exact absurd z hx
      · rw [upd_ne hb] at h; exact st.priv b o h h0 ht hx
    · rcases get_set q with ⟨rfl, rfl⟩ | ⟨hj, q⟩
      · exact ⟨_, ha, drp_same⟩
      · obtain ⟨w, e2, y⟩ := st.cell j c' q
        exact ⟨w, e2, by rw [drp_ne hj]; exact y.up sg fun b _ u q => q⟩
    · by_cases hj : j = i
      · subst hj; rw [drp_same] at h1; cases h1
      · by_cases hk : k = i
        · subst hk; rw [drp_same] at h2; cases h2
        · rw [drp_ne hj] at h1; rw [drp_ne hk] at h2; exact st.sep j k b h1 h2
    · by_cases hj : j = i
      · subst hj; rw [drp_same] at h; cases h
      · rw [drp_ne hj] at h
        refine ⟨?_, (st.off j b h).2⟩
        have : b ≠ a := fun z => by subst z; exact hj (st.sep j i b h hm)
        rw [upd_ne this]; exact (st.off j b h).1
    · by_cases hj' : j = i
      · subst hj'; rw [drp_same]
      · rw [drp_ne hj']; exact st.tail j (by rw [List.length_set] at hj; exact hj)
  have hd : DD K (upd G a o) (.ref a) d := by
    cases d with
    | lst ds => obtain ⟨vs, e1, z, r⟩ := x3; rw [ho] at e1; cases e1; exact .lst upd_same z (r.up sg)
    | dic kd => obtain ⟨vs, e1, r⟩ := x3; rw [ho] at e1; cases e1; exact .dic upd_same (r.up sg)
    | dit kd => obtain ⟨vs, e1, r⟩ := x3; rw [ho] at e1; cases e1; exact .dit upd_same (r.up sg)
    | obj C fd => obtain ⟨dx, vs, e1, r⟩ := x3; rw [ho] at e1; cases e1; exact .obj upd_same (r.up sg)
    | non => exact x3.elim
    | bl _ => exact x3.elim
    | int _ => exact x3.elim
    | str _ => exact x3.elim
    | tup _ => exact x3.elim
  refine ⟨_, sg, hd, ?_⟩
  have st2 := st1.setD (i := i) hd
  have e1 : σ.set i (some (V.ref a)) = σ := by
    refine List.ext_getElem? fun j => ?_
    by_cases hj : i = j
    · subst hj; rw [List.getElem?_set_self (List.getElem?_eq_some_iff.mp ha).1]; exact ha.symm
    · rw [List.getElem?_set_ne hj]
  have e2 : (E.set i Cell.no).set i (.dat d) = E.set i (.dat d) := List.set_set ..
  have e3 : drp (drp as i []) i [] = drp as i [] := by
    funext j; unfold drp; split <;> rfl
  rw [e1, e2, e3] at st2
  exact st2

def own (as : Nat → List Addr) (n : Nat) : List Addr := (List.range n).flatMap as
theorem mem_own {n i : Nat} {a : Addr} (h : a ∈ as i) (hi : i < n) : a ∈ own as n := List.mem_flatMap.mpr ⟨i, List.mem_range.mpr hi, h⟩
theorem StE.mem_own (st : StE K F G H σ E as) {i : Nat} {a : Addr} (h : a ∈ as i) : a ∈ own as E.length := by
  by_cases hi : i < E.length
  · exact DL.mem_own h hi
  · rw [st.tail i (by omega)] at h; cases h
theorem of_own {n : Nat} {a : Addr} (h : a ∈ own as n) : ∃ i, a ∈ as i := by
  obtain ⟨i, _, h⟩ := List.mem_flatMap.mp h
  exact ⟨i, h⟩
def inner (G H : Hp) (as : Nat → List Addr) (n : Nat) : Fr := ⟨H, G, own as n⟩
theorem StE.in_ (st : StE K F G H σ E as) : StE K (inner G H as E.length) G H σ E as :=
  ⟨st.len, Same.refl _, st.s1, fun _ _ h _ => h, fun _ h => h, fun _ _ h _ _ _ => h, st.cell, st.sep, fun i a h => ⟨(st.off i a h).1, .inr (st.mem_own h)⟩, st.tail⟩
theorem StE.out {σ' : L2.St} {E' : Env} {as' : Nat → List Addr} {n : Nat} (st : StE K F G H σ E as) (st' : StE K (inner G H as n) G' H' σ' E' as') : StE K F G' H' σ' E' as' := by
  have hx : ∀ a, a ∈ own as n → F.H0 a = none ∨ a ∈ F.X0 := fun a h => by
    obtain ⟨i, h⟩ := of_own h
    exact (st.off i a h).2
  refine ⟨st'.len, st.s0.trans st'.s0, st'.s1, fun b o h x => ?_, fun b h => st.dom b (st'.dom b h), fun b o h h0 ht x => ?_, st'.cell, st'.sep, fun i b h => ⟨(st'.off i b h).1, ?_⟩, st'.tail⟩
  · refine st'.keep b o (st.keep b o h x) fun z => ?_
    rcases hx b z with y | y
    · rw [y] at h; cases h
    · exact x y
  · by_cases hm : b ∈ own as n
    · rcases hx b hm with y | y
      · rw [y] at h0; cases h0
      · exact absurd y x
    · exact st.priv b o (st'.priv b o h (st.keep b o h0 x) ht hm) h0 ht x
  · rcases (st'.off i b h).2 with y | y
    · exact .inl (st.dom b y)
    · exact hx b y
end
end DL
namespace DL
open PySem PySem.Spec PyProof.Rows L2

def keyPy : Key → PyData
  | .inl i => .int i
  | .inr x => .str x
mutual
def D.py : D → PyData
  | .non => .none
  | .bl b => .bool b
  | .int i => .int i
  | .str x => .str x
  | .lst xs => .list (pyL xs)
  | .tup xs => .tuple (pyL xs)
  | .dic kvs => .dict (pyK kvs)
  | .dit kvs => .dict (pyT kvs)
  | .obj _ _ => .none
def pyL : List D → List PyData
  | [] => []
  | x :: xs => x.py :: pyL xs
def pyK : List (Key × D) → List (PyData × PyData)
  | [] => []
  | (k, d) :: r => (keyPy k, d.py) :: pyK r
def pyT : List (List Key × D) → List (PyData × PyData)
  | [] => []
  | (k, d) :: r => (.tuple (k.map keyPy), d.py) :: pyT r
end
mutual
/-- no dict, no instance -/
def D.plain : D → Bool
  | .lst xs => plainL xs
  | .tup xs => plainL xs
  | .dic _ => false
  | .dit _ => false
  | .obj _ _ => false
  | .non => true
  | .bl _ => true
  | .int _ => true
  | .str _ => true
def plainL : List D → Bool
  | [] => true
  | x :: xs => x.plain && plainL xs
end
theorem plainL_all : ∀ l : List D, plainL l = l.all D.plain
  | [] => rfl
  | x :: l => by rw [plainL, plainL_all l]; rfl

section
variable {X : Cx} {pins : List (Addr × Obj)} {σ : L2.St} {G H : Hp} {s : Shared}
mutual
theorem DD.reads (I : Inv X pins σ H s) (e : Same G H) : ∀ (d : D) (v : V) (u : Value), d.plain = true → DD X.K G v d → RelV v u → ∃ as, Reads s.heap u d.py as
  | .non, _, _, _, h, r => by cases h; cases r; exact ⟨_, Reads.none⟩
  | .bl b, _, _, _, h, r => by cases h; cases r; exact ⟨_, Reads.bool b⟩
  | .int i, _, _, _, h, r => by cases h; obtain ⟨t, rfl⟩ := r; exact ⟨_, Reads.int i t⟩
  | .str x, _, _, _, h, r => by cases h; obtain ⟨t, rfl⟩ := r; exact ⟨_, Reads.str x t⟩
  | .lst ds, _, _, p, h, r => by
    cases h with
    | lst hs _ ha =>
      cases r
      obtain ⟨its, rv, ⟨o, n, ho, hc, _, hd⟩, _⟩ := I.list (SqL.of (e _ _ hs))
      obtain ⟨as, hr⟩ := DDs.reads I e ds _ its (by simpa [D.plain] using p) ha rv
      exact ⟨_, Reads.list ho hc hd hr⟩
  | .tup ds, _, _, p, h, r => by
    cases h with
    | tup hs _ ha =>
      cases r
      obtain ⟨its, rv, ⟨o, ho, hc, n, hd⟩, _⟩ := I.tuple (SqT.of (e _ _ hs))
      obtain ⟨as, hr⟩ := DDs.reads I e ds _ its (by simpa [D.plain] using p) ha rv
      exact ⟨_, Reads.tuple ho hc hd hr⟩
  | .dic _, _, _, p, _, _ => by cases p
  | .dit _, _, _, p, _, _ => by cases p
  | .obj _ _, _, _, p, _, _ => by cases p
theorem DDs.reads (I : Inv X pins σ H s) (e : Same G H) : ∀ (ds : List D) (vs : List V) (us : List Value), plainL ds = true → DDs X.K G vs ds → Vals vs us → ∃ as, ReadsAll s.heap us (pyL ds) as
  | [], _, _, _, h, r => by cases h; cases r; exact ⟨_, .nil⟩
  | d :: ds, _, _, p, h, r => by
    cases h with
    | cons h1 h2 =>
      cases r with
      | cons r1 r2 =>
        rw [plainL, Bool.and_eq_true] at p
        obtain ⟨as, q1⟩ := DD.reads I e d _ _ p.1 h1 r1
        obtain ⟨bs, q2⟩ := DDs.reads I e ds _ _ p.2 h2 r2
        exact ⟨_, .cons q1 q2⟩
end
mutual
theorem DD.lay {K : PySem.W.Frag} : ∀ (d : D) (v : V), d.plain = true → DD K G v d → d.py.canLay0 = true
  | .non, _, _, _ => rfl
  | .bl b, _, _, _ => rfl
  | .int i, _, _, _ => rfl
  | .str x, _, _, h => by cases h with | str _ h => exact h.2
  | .lst ds, _, p, h => by cases h with | lst _ _ ha => exact DDs.lay ds _ (by simpa [D.plain] using p) ha
  | .tup ds, _, p, h => by cases h with | tup _ _ ha => exact DDs.lay ds _ (by simpa [D.plain] using p) ha
  | .dic _, _, p, _ => by cases p
  | .dit _, _, p, _ => by cases p
  | .obj _ _, _, p, _ => by cases p
theorem DDs.lay {K : PySem.W.Frag} : ∀ (ds : List D) (vs : List V), plainL ds = true → DDs K G vs ds → PyData.canLayAll0 (pyL ds) = true
  | [], _, _, _ => rfl
  | d :: ds, _, p, h => by
    cases h with
    | cons h1 h2 =>
      rw [plainL, Bool.and_eq_true] at p
      show (PyData.canLay0 d.py && PyData.canLayAll0 (pyL ds)) = true
      rw [DD.lay d _ p.1 h1, DDs.lay ds _ p.2 h2]; rfl
end
end

def rd (E : Env) : W → Res D
  | .dat d => .ok d
  | .own i => match E[i]? with
    | some (.own d) => .ok d
    | _ => .stuck
def ofO {α : Type} : Option α → Res α
  | some a => .ok a
  | none => .stuck
@[simp] theorem ofO_some {α : Type} (a : α) : ofO (some a) = .ok a := rfl
@[simp] theorem rd_dat (E : Env) (d : D) : rd E (.dat d) = .ok d := rfl
theorem rd_own (E : Env) (i : Nat) : (∃ d, E[i]? = some (.own d) ∧ rd E (.own i) = .ok d) ∨ rd E (.own i) = .stuck := by
  cases h : E[i]? with
  | none => exact .inr (by unfold rd; simp [h])
  | some c =>
    cases c with
    | own d => exact .inl ⟨d, rfl, by unfold rd; simp [h]⟩
    | no => exact .inr (by unfold rd; simp [h])
    | dat d => exact .inr (by unfold rd; simp [h])
    | deck a q l b => exact .inr (by unfold rd; simp [h])
    | slf a d => exact .inr (by unfold rd; simp [h])
    | cls C => exact .inr (by unfold rd; simp [h])
theorem rd_no (E : Env) (w : W) : (∃ d, rd E w = .ok d) ∨ rd E w = .stuck := by
  cases w with
  | dat d => exact .inl ⟨d, rfl⟩
  | own i => exact (rd_own E i).imp (fun ⟨d, _, h⟩ => ⟨d, h⟩) id
/-- what is read: data, or the frame's own -/
inductive BD (K : PySem.W.Frag) (G H : Hp) (v : V) (d : D) : Prop
  | dat : DD K G v d → BD K G H v d
  | own {a : Addr} : v = .ref a → OwnAt K G H a d → BD K G H v d
section
variable {K : PySem.W.Frag} {Wi : Wish} {F : Fr} {G G1 G2 H H1 H2 : Hp} {σ : L2.St} {E E1 E2 : Env} {as as2 : Nat → List Addr} {Q : VK} {v : V} {w : W} {d : D}
theorem WOk.rd (h : WOk K G1 E1 σ v w) (s : Same G1 G2) (st : StE K F G2 H2 σ E2 as2) (e : DL.rd E2 w = .ok d) : BD K G2 H2 v d := by
  cases w with
  | dat d' => cases e; exact .dat (DD.up s h)
  | own i =>
    rcases rd_own E2 i with ⟨d', e1, z⟩ | z
    · rw [z] at e; cases e
      obtain ⟨x, e2, a, x1, x2, x3⟩ := st.cell i _ e1
      rw [h] at e2; cases e2
      cases x2
      exact .own rfl x3
    · rw [z] at e; cases e
theorem Po.rd {g : D → Res (W × Env)} (h : Po K Wi F G σ Q ((DL.rd E w).bind g)) : ∃ d, DL.rd E w = .ok d ∧ Po K Wi F G σ Q (g d) := by
  rcases rd_no E w with ⟨d, e⟩ | e
  · rw [e] at h; exact ⟨d, e, h⟩
  · rw [e] at h; exact h.elim
theorem PoS.rd {Dn : Ends} {g : D → Res (Fl × Env)} (h : PoS K Wi F G Dn ((DL.rd E w).bind g)) : ∃ d, DL.rd E w = .ok d ∧ PoS K Wi F G Dn (g d) := by
  rcases rd_no E w with ⟨d, e⟩ | e
  · rw [e] at h; exact ⟨d, e, h⟩
  · rw [e] at h; exact h.elim
theorem Po.of {α : Type} {o : Option α} {g : α → Res (W × Env)} (h : Po K Wi F G σ Q ((ofO o).bind g)) : ∃ d, o = some d ∧ Po K Wi F G σ Q (g d) := by
  cases o with
  | none => exact h.elim
  | some d => exact ⟨d, rfl, h⟩
theorem PoS.of {α : Type} {o : Option α} {Dn : Ends} {g : α → Res (Fl × Env)} (h : PoS K Wi F G Dn ((ofO o).bind g)) : ∃ d, o = some d ∧ PoS K Wi F G Dn (g d) := by
  cases o with
  | none => exact h.elim
  | some d => exact ⟨d, rfl, h⟩
theorem Po.mono {Q' : VK} (i : ∀ v H, Q v H → Q' v H) : ∀ {r : Res (W × Env)}, Po K Wi F G σ Q r → Po K Wi F G σ Q' r
  | .ok (_, _), h => fun v G' H' as' s st wo => i _ _ (h v G' H' as' s st wo)
  | .err _ _, h => h
theorem PoA.mono {Q Q' : List V → Hp → Prop} (i : ∀ v H, Q v H → Q' v H) : ∀ {r : Res (List W × Env)}, PoA K Wi F G σ Q r → PoA K Wi F G σ Q' r
  | .ok (_, _), h => fun v G' H' as' s st wo => i _ _ (h v G' H' as' s st wo)
  | .err _ _, h => h
/-- the answer of a value's rule: d -/
def Rz (K : PySem.W.Frag) (G H : Hp) (Q : VK) (d : D) : Prop := ∀ v G' H', Al G H G' H' → DD K G' v d → Q v H'
theorem Po.rz (st : StE K F G H σ E as) (h : Po K Wi F G σ Q (.ok (.dat d, E))) : Rz K G H Q d := fun v G' H' a dd => h v G' H' as a.g (st.al a) dd
end

def OpD (K : PySem.W.Frag) (r : V → V → Hp → VK → Prop) (g : D → D → Option D) : Prop :=
  ∀ (G H : Hp) (x y : V) (a b d : D) (Q : VK), Same G H → BD K G H x a → BD K G H y b → g a b = some d → Rz K G H Q d → r x y H Q
def UnD (K : PySem.W.Frag) (r : V → Hp → VK → Prop) (g : D → Option D) : Prop :=
  ∀ (G H : Hp) (x : V) (a d : D) (Q : VK), Same G H → BD K G H x a → g a = some d → Rz K G H Q d → r x H Q

inductive BDs (K : PySem.W.Frag) (G H : Hp) : List V → List D → Prop
  | nil : BDs K G H [] []
  | cons {v : V} {vs : List V} {d : D} {ds : List D} : BD K G H v d → BDs K G H vs ds → BDs K G H (v :: vs) (d :: ds)
def CallD (K : PySem.W.Frag) (r : List V → Hp → VK → Prop) (g : List D → Option D) : Prop :=
  ∀ (G H : Hp) (xs : List V) (ds : List D) (d : D) (Q : VK), Same G H → BDs K G H xs ds → g ds = some d → Rz K G H Q d → r xs H Q
def rds (E : Env) : List W → Res (List D)
  | [] => .ok []
  | w :: ws => (rd E w).bind fun d => (rds E ws).bind fun ds => .ok (d :: ds)
section
variable {K : PySem.W.Frag} {Wi : Wish} {F : Fr} {G G1 G2 H H1 H2 : Hp} {σ : L2.St} {E E1 E2 : Env} {as as2 : Nat → List Addr} {Q : VK}
theorem rds_no : ∀ (ws : List W), (∃ ds, rds E ws = .ok ds) ∨ rds E ws = .stuck
  | [] => .inl ⟨_, rfl⟩
  | w :: ws => by
    rcases rds_no ws with ⟨ds, h⟩ | h
    · cases e : rd E w with
      | ok d => exact .inl ⟨d :: ds, by rw [rds, e, h]; rfl⟩
      | err x E' => rcases rd_no E w with ⟨d, z⟩ | z <;> rw [z] at e <;> cases e
      | stuck => exact .inr (by rw [rds, e]; rfl)
    · cases e : rd E w with
      | ok d => exact .inr (by rw [rds, e, h]; rfl)
      | err x E' => rcases rd_no E w with ⟨d, z⟩ | z <;> rw [z] at e <;> cases e
      | stuck => exact .inr (by rw [rds, e]; rfl)
theorem Po.rds {ws : List W} {g : List D → Res (W × Env)} (h : Po K Wi F G σ Q ((DL.rds E ws).bind g)) : ∃ ds, DL.rds E ws = .ok ds ∧ Po K Wi F G σ Q (g ds) := by
  rcases rds_no (E := E) ws with ⟨ds, e⟩ | e
  · rw [e] at h; exact ⟨ds, e, h⟩
  · rw [e] at h; exact h.elim
theorem WOks.rds : ∀ {vs : List V} {ws : List W} {ds : List D}, WOks K G1 E1 σ vs ws → Same G1 G2 → StE K F G2 H2 σ E2 as2 → DL.rds E2 ws = .ok ds → BDs K G2 H2 vs ds
  | [], [], ds, _, _, _, e => by cases e; exact .nil
  | v :: vs, w :: ws, ds, h, s, st, e => by
    rw [DL.rds] at e
    cases e1 : DL.rd E2 w with
    | ok d =>
      rw [e1] at e
      cases e2 : DL.rds E2 ws with
      | ok ds' =>
        rw [e2] at e; cases e
        exact .cons (h.1.rd s st e1) (WOks.rds h.2 s st e2)
      | err x E' => rw [e2] at e; cases e
      | stuck => rw [e2] at e; cases e
    | err x E' => rw [e1] at e; cases e
    | stuck => rw [e1] at e; cases e
  | [], _ :: _, _, h, _, _, _ => h.elim
  | _ :: _, [], _, h, _, _, _ => h.elim
end

section
variable {X : Cx} {Wi : Wish} {e a b : Expr} {es : List Expr} {fa fb : EF} {fs : AF} {pos : Pos}
def eC (d : D) : EF := fun E => .ok (.dat d, E)
theorem de_c {v : V} {d : D} (h : PE X e (tC v)) (hd : ∀ G, DD X.K G v d) : DE X Wi e (eC d) := by
  refine PE.imp h fun σ H Q q => ?_
  obtain ⟨F, G, E, as, st, p⟩ := q
  exact Po.rz st p v G H (Al.refl st.s1) (hd G)
theorem de_int {i : Int} {j pos} : DE X Wi (.Constant (.int i) j pos) (eC (.int i)) := de_c pe_int fun _ => .int i
theorem de_bl {i : Bool} {j pos} : DE X Wi (.Constant (.bool i) j pos) (eC (.bl i)) := de_c pe_bl fun _ => .bl i
theorem de_non {j pos} : DE X Wi (.Constant .none j pos) (eC .non) := de_c pe_non fun _ => .non
theorem de_str {x : Str} {j pos} (h : SOk x) : DE X Wi (.Constant (.str x) j pos) (eC (.str x)) := de_c pe_str fun _ => .str x h

def eV (i : Nat) : EF := fun E => match E[i]? with
  | some (.dat d) => .ok (.dat d, E)
  | some (.own _) => .ok (.own i, E)
  | _ => .stuck
theorem de_v {i : Nat} (h : PE X e (tVar i)) : DE X Wi e (eV i) := by
  refine PE.imp h fun σ H Q q => ?_
  obtain ⟨F, G, E, as, st, p⟩ := q
  unfold eV at p
  split at p
  · rename_i d e1
    obtain ⟨v, e2, x⟩ := st.cell i _ e1
    obtain ⟨_, y, rfl, dd⟩ := x
    exact ⟨y, e2, Po.rz st p y G H (Al.refl st.s1) dd⟩
  · rename_i d e1
    obtain ⟨v, e2, x⟩ := st.cell i _ e1
    obtain ⟨a, _, rfl, dd⟩ := x
    exact ⟨_, e2, p _ G H as (Same.refl _) st e2⟩
  · exact p.elim

def eOp (g : D → D → Option D) (fa fb : EF) : EF := fun E => (fa E).bind fun p => (fb p.2).bind fun q => (rd q.2 p.1).bind fun x => (rd q.2 q.1).bind fun y => (ofO (g x y)).bind fun d => .ok (.dat d, q.2)
theorem tOp_of {r : V → V → Hp → VK → Prop} {g : D → D → Option D} (hg : OpD X.K r g) : ∀ σ H Q, tE X.K Wi (eOp g fa fb) σ H Q → tOp r (tE X.K Wi fa) (tE X.K Wi fb) σ H Q := by
  intro σ H Q q
  obtain ⟨F, G, E, as, st, p⟩ := q
  refine ⟨F, G, E, as, st, Po.mono (fun x H1 m => ?_) (Po.bind p)⟩
  obtain ⟨w1, G1, E1, as1, s1, st1, wo1, p1⟩ := m
  refine ⟨F, G1, E1, as1, st1, Po.mono (fun y H2 m => ?_) (Po.bind p1)⟩
  obtain ⟨w2, G2, E2, as2, s2, st2, wo2, p2⟩ := m
  obtain ⟨d1, e1, p2⟩ := Po.rd p2
  obtain ⟨d2, e2, p2⟩ := Po.rd p2
  obtain ⟨d, e3, p2⟩ := Po.of p2
  exact hg G2 H2 x y d1 d2 d Q st2.s1 (wo1.rd s2 st2 e1) (wo2.rd (Same.refl _) st2 e2) e3 (Po.rz st2 p2)
theorem de_op {op : Operator} {r : V → V → Hp → VK → Prop} {g : D → D → Option D} (ho : OpR X (binaryOp op) r) (hg : OpD X.K r g) (ha : DE X Wi a fa) (hb : DE X Wi b fb) : DE X Wi (.BinOp a op b pos) (eOp g fa fb) :=
  PE.imp (pe_op ho ha hb) (tOp_of hg)
theorem de_cmp {op : CmpOp} {r : V → V → Hp → VK → Prop} {g : D → D → Option D} (ho : OpR X (compareOp op) r) (hg : OpD X.K r g) (ha : DE X Wi a fa) (hb : DE X Wi b fb) (hm : behindInMarks op b = false) : DE X Wi (.Compare a [op] [b] pos) (eOp g fa fb) :=
  PE.imp (pe_cmpR ho ha hb hm) (tOp_of hg)
def eUn (g : D → Option D) (fa : EF) : EF := fun E => (fa E).bind fun p => (rd p.2 p.1).bind fun x => (ofO (g x)).bind fun d => .ok (.dat d, p.2)
theorem tUn_of {r : V → Hp → VK → Prop} {g : D → Option D} (hg : UnD X.K r g) : ∀ σ H Q, tE X.K Wi (eUn g fa) σ H Q → tUn r (tE X.K Wi fa) σ H Q := by
  intro σ H Q q
  obtain ⟨F, G, E, as, st, p⟩ := q
  refine ⟨F, G, E, as, st, Po.mono (fun x H1 m => ?_) (Po.bind p)⟩
  obtain ⟨w1, G1, E1, as1, s1, st1, wo1, p1⟩ := m
  obtain ⟨d1, e1, p1⟩ := Po.rd p1
  obtain ⟨d, e3, p1⟩ := Po.of p1
  exact hg G1 H1 x d1 d Q st1.s1 (wo1.rd (Same.refl _) st1 e1) e3 (Po.rz st1 p1)
theorem de_un {op : UnaryOp} {r : V → Hp → VK → Prop} {g : D → Option D} (ho : UnR X (unaryOp op) r) (hg : UnD X.K r g) (ha : DE X Wi a fa) : DE X Wi (.UnaryOp op a pos) (eUn g fa) := PE.imp (pe_un ho ha) (tUn_of hg)

def aN : AF := fun E => .ok ([], E)
def aC (f : EF) (g : AF) : AF := fun E => (f E).bind fun p => (g p.2).bind fun q => .ok (p.1 :: q.1, q.2)
end
end DL
namespace DL
open PySem PySem.Spec PyProof.Rows L2

def PoN (K : PySem.W.Frag) (Wi : Wish) (F : Fr) (G : Hp) (σ : L2.St) (Q : VK) : Res (D × Env) → Prop
  | .ok (d, E') => ∀ p G' H' as', Same G G' → StE K F G' H' σ E' as' → G' p = none → F.H0 p = none → (∀ j, p ∉ as' j) → OwnAt K G' H' p d → Q (.ref p) H'
  | .err x E' => ∀ c dx G' H' as', Same G G' → StE K F G' H' σ E' as' → ExOk K G' x c dx → Wi σ c dx H'
  | .stuck => False
abbrev NF := Env → Res (D × Env)
def tN (K : PySem.W.Frag) (Wi : Wish) (f : NF) : TE := fun σ H Q => ∃ F G E as, StE K F G H σ E as ∧ PoN K Wi F G σ Q (f E)
abbrev DN (X : Cx) (Wi : Wish) (e : Expr) (f : NF) : Prop := PE X e (tN X.K Wi f)
/-- as data -/
def eN (f : NF) : EF := fun E => (f E).bind fun p => .ok (.dat p.1, p.2)

section
variable {K : PySem.W.Frag} {Wi : Wish} {F : Fr} {G G1 G2 H H1 H2 : Hp} {σ : L2.St} {E E1 E2 : Env} {as as2 : Nat → List Addr} {Q : VK} {v : V} {w : W} {d : D}
theorem StE.freezeN (st : StE K F G H σ E as) {p : Addr} (gp : G p = none) (fp : F.H0 p = none) (np : ∀ j, p ∉ as j) (o : OwnAt K G H p d) : ∃ G', Same G G' ∧ DD K G' (.ref p) d ∧ StE K F G' H σ E as := by
  obtain ⟨u, hu⟩ := o.hasO
  have sg : Same G (upd G p u) := fun b z q => by rw [upd_ne (ne_of_none q gp)]; exact q
  refine ⟨upd G p u, sg, ?_, st.len, st.s0.trans sg, fun b z q => ?_, st.keep, st.dom, fun b u h h0 ht x => ?_, fun i c e => ?_, st.sep, fun i b hb => ⟨?_, (st.off i b hb).2⟩, st.tail⟩
  · cases d with
    | lst ds => obtain ⟨vs, e1, z, r⟩ := o; rw [hu] at e1; cases e1; exact .lst upd_same z (r.up sg)
    | dic kd => obtain ⟨vs, e1, r⟩ := o; rw [hu] at e1; cases e1; exact .dic upd_same (r.up sg)
    | dit kd => obtain ⟨vs, e1, r⟩ := o; rw [hu] at e1; cases e1; exact .dit upd_same (r.up sg)
    | obj C fd => obtain ⟨dx, vs, e1, r⟩ := o; rw [hu] at e1; cases e1; exact .obj upd_same (r.up sg)
    | non => exact o.elim
    | bl _ => exact o.elim
    | int _ => exact o.elim
    | str _ => exact o.elim
    | tup _ => exact o.elim
  · by_cases hb : b = p
    · subst hb; rw [upd_same] at q; cases q; exact hu
    · rw [upd_ne hb] at q; exact st.s1 b z q
  · by_cases hb : b = p
    · rw [hb, fp] at h0; cases h0
    · rw [upd_ne hb] at h; exact st.priv b u h h0 ht x
  · obtain ⟨v, e1, x⟩ := st.cell i c e
    exact ⟨v, e1, x.up sg fun _ _ _ q => q⟩
  · rw [upd_ne (fun (z : b = p) => np i (by rw [← z]; exact hb))]; exact (st.off i b hb).1
theorem PoN.po {r : Res (D × Env)} (h : Po K Wi F G σ Q (r.bind fun p => .ok (.dat p.1, p.2))) : PoN K Wi F G σ Q r := by
  match r, h with
  | .ok (d, E'), h =>
    intro p G' H' as' s st gp fp np o
    obtain ⟨G2, s2, dd, st2⟩ := st.freezeN gp fp np o
    exact h _ G2 H' as' (s.trans s2) st2 dd
  | .err x E', h => exact h
/-- the answer of a rule that makes a list or a dict -/
def RzN (K : PySem.W.Frag) (G H : Hp) (Q : VK) (d : D) : Prop := ∀ p H', H p = none → Same H H' → OwnAt K G H' p d → Q (.ref p) H'
theorem OwnAt.data {p : Addr} {u : HO} (o : OwnAt K G H p d) (hu : H p = some u) (gp : G p = none) : DD K (upd G p u) (.ref p) d := by
  have sg : Same G (upd G p u) := fun b z q => by rw [upd_ne (ne_of_none q gp)]; exact q
  cases d with
  | lst ds => obtain ⟨vs, e1, z, r⟩ := o; rw [hu] at e1; cases e1; exact .lst upd_same z (r.up sg)
  | dic kd => obtain ⟨vs, e1, r⟩ := o; rw [hu] at e1; cases e1; exact .dic upd_same (r.up sg)
  | dit kd => obtain ⟨vs, e1, r⟩ := o; rw [hu] at e1; cases e1; exact .dit upd_same (r.up sg)
  | obj C fd => obtain ⟨dx, vs, e1, r⟩ := o; rw [hu] at e1; cases e1; exact .obj upd_same (r.up sg)
  | non => exact o.elim
  | bl _ => exact o.elim
  | int _ => exact o.elim
  | str _ => exact o.elim
  | tup _ => exact o.elim
theorem Al.fresh {p : Addr} {u : HO} (s : Same G H) (hp : H p = none) (h : Same H H2) (e : H2 p = some u) : Al G H (upd G p u) H2 := by
  have gp : G p = none := s.free hp
  refine ⟨fun b z q => ?_, h, fun b z q => ?_, fun b o hb e2 q => ?_⟩
  · rw [upd_ne (ne_of_none q gp)]; exact q
  · by_cases hb : b = p
    · subst hb; rw [upd_same] at q; cases q; exact e
    · rw [upd_ne hb] at q; exact h b z (s b z q)
  · by_cases hb' : b = p
    · rw [hb', hp] at q; cases q
    · rw [upd_ne hb'] at hb; exact absurd e2 hb
theorem Rz.new (s : Same G H) (h : Rz K G H Q d) : RzN K G H Q d := fun p H' hp hs o => by
  obtain ⟨u, hu⟩ := o.hasO
  exact h _ _ _ (Al.fresh s hp hs hu) (o.data hu (s.free hp))
theorem PoN.rz (st : StE K F G H σ E as) (h : PoN K Wi F G σ Q (.ok (d, E))) : RzN K G H Q d := fun p H' hp hs o => by
  have a : Al G H G H' := Al.grow st.s1 hs
  refine h p G H' as (Same.refl _) (st.al a) (st.s1.free hp) (st.dom p hp) (fun j hj => ?_) o
  obtain ⟨u, q⟩ := st.there hj
  rw [hp] at q; cases q
theorem PoN.up {r : Res (D × Env)} (e : Same G G1) (h : PoN K Wi F G σ Q r) : PoN K Wi F G1 σ Q r := by
  match r, h with
  | .ok (w, E'), h => exact fun v G' H' as' s => h v G' H' as' (e.trans s)
  | .err x E', h => exact fun c dx G' H' as' s => h c dx G' H' as' (e.trans s)
theorem Po.bindN {r : Res (W × Env)} {g : W × Env → Res (D × Env)} (h : PoN K Wi F G σ Q (r.bind g)) :
    Po K Wi F G σ (Mid K F G σ fun _ w G1 _ E1 _ => PoN K Wi F G1 σ Q (g (w, E1))) r := by
  match r, h with
  | .ok (w, E'), h => exact fun v G' H' as' s st wo => ⟨w, G', E', as', s, st, wo, PoN.up s h⟩
  | .err x E', h => exact h
theorem PoA.bindN {r : Res (List W × Env)} {g : List W × Env → Res (D × Env)} (h : PoN K Wi F G σ Q (r.bind g)) :
    PoA K Wi F G σ (MidA K F G σ fun _ ws G1 _ E1 _ => PoN K Wi F G1 σ Q (g (ws, E1))) r := by
  match r, h with
  | .ok (w, E'), h => exact fun v G' H' as' s st wo => ⟨w, G', E', as', s, st, wo, PoN.up s h⟩
  | .err x E', h => exact h
theorem PoN.rd {g : D → Res (D × Env)} (h : PoN K Wi F G σ Q ((DL.rd E w).bind g)) : ∃ d, DL.rd E w = .ok d ∧ PoN K Wi F G σ Q (g d) := by
  rcases rd_no E w with ⟨d, e⟩ | e
  · rw [e] at h; exact ⟨d, e, h⟩
  · rw [e] at h; exact h.elim
theorem PoN.rds {ws : List W} {g : List D → Res (D × Env)} (h : PoN K Wi F G σ Q ((DL.rds E ws).bind g)) : ∃ ds, DL.rds E ws = .ok ds ∧ PoN K Wi F G σ Q (g ds) := by
  rcases rds_no (E := E) ws with ⟨ds, e⟩ | e
  · rw [e] at h; exact ⟨ds, e, h⟩
  · rw [e] at h; exact h.elim
theorem PoN.of {α : Type} {o : Option α} {g : α → Res (D × Env)} (h : PoN K Wi F G σ Q ((ofO o).bind g)) : ∃ d, o = some d ∧ PoN K Wi F G σ Q (g d) := by
  cases o with
  | none => exact h.elim
  | some d => exact ⟨d, rfl, h⟩
end
def OpN (K : PySem.W.Frag) (r : V → V → Hp → VK → Prop) (g : D → D → Option D) : Prop :=
  ∀ (G H : Hp) (x y : V) (a b d : D) (Q : VK), Same G H → BD K G H x a → BD K G H y b → g a b = some d → RzN K G H Q d → r x y H Q
def CallN (K : PySem.W.Frag) (r : List V → Hp → VK → Prop) (g : List D → Option D) : Prop :=
  ∀ (G H : Hp) (xs : List V) (ds : List D) (d : D) (Q : VK), Same G H → BDs K G H xs ds → g ds = some d → RzN K G H Q d → r xs H Q
section
variable {X : Cx} {Wi : Wish} {e a b : Expr} {es : List Expr} {fa fb : EF} {fs : AF} {f : NF} {p pos : Pos} {x : Str}
theorem dn_de (h : DN X Wi e f) : DE X Wi e (eN f) := PE.imp h fun σ H Q q => by
  obtain ⟨F, G, E, as, st, p⟩ := q
  exact ⟨F, G, E, as, st, PoN.po p⟩

theorem da_nil : DA X Wi [] aN := by
  refine PA.imp pa_nil fun σ H Q q => ?_
  obtain ⟨F, G, E, as, st, p⟩ := q
  exact p [] G H as (Same.refl _) st True.intro
theorem WOk.up {K : PySem.W.Frag} {G1 G2 : Hp} {E1 E2 : Env} {σ : L2.St} {v : V} {w : W} (s : Same G1 G2) (h : WOk K G1 E1 σ v w) : WOk K G2 E2 σ v w := by
  cases w with
  | dat d => exact DD.up s h
  | own i => exact h
theorem da_cons (ha : DE X Wi a fa) (hr : DA X Wi es fs) (hs : starEach (a :: es) X.env = (false, eval a X.env) :: starEach es X.env := by rfl) : DA X Wi (a :: es) (aC fa fs) := by
  refine PA.imp (pa_cons ha hr hs) fun σ H Q q => ?_
  obtain ⟨F, G, E, as, st, p⟩ := q
  refine ⟨F, G, E, as, st, Po.mono (fun x H1 m => ?_) (Po.bindA p)⟩
  obtain ⟨w1, G1, E1, as1, s1, st1, wo1, p1⟩ := m
  refine ⟨F, G1, E1, as1, st1, ?_⟩
  generalize fs E1 = r at p1 ⊢
  match r, p1 with
  | .ok (ws, E2), p1 => exact fun vs G2 H2 as2 s2 st2 wo2 => p1 (x :: vs) G2 H2 as2 s2 st2 ⟨WOk.up s2 wo1, wo2⟩
  | .err y E2, p1 => exact p1

def eCall (g : List D → Option D) (fs : AF) : EF := fun E => (fs E).bind fun p => (rds p.2 p.1).bind fun ds => (ofO (g ds)).bind fun d => .ok (.dat d, p.2)
def nCall (g : List D → Option D) (fs : AF) : NF := fun E => (fs E).bind fun p => (rds p.2 p.1).bind fun ds => (ofO (g ds)).bind fun d => .ok (d, p.2)
theorem tCB_of {r : List V → Hp → VK → Prop} {g : List D → Option D} (hg : CallD X.K r g) : ∀ σ H Q, tE X.K Wi (eCall g fs) σ H Q → tCB r (tA X.K Wi fs) σ H Q := by
  intro σ H Q q
  obtain ⟨F, G, E, as, st, p⟩ := q
  refine ⟨F, G, E, as, st, PoA.mono (fun x H1 m => ?_) (PoA.bind p)⟩
  obtain ⟨ws, G1, E1, as1, s1, st1, wo1, p1⟩ := m
  obtain ⟨ds, e1, p1⟩ := Po.rds p1
  obtain ⟨d, e3, p1⟩ := Po.of p1
  exact hg G1 H1 x ds d Q st1.s1 (wo1.rds (Same.refl _) st1 e1) e3 (Po.rz st1 p1)
theorem tCBN_of {r : List V → Hp → VK → Prop} {g : List D → Option D} (hg : CallN X.K r g) : ∀ σ H Q, tN X.K Wi (nCall g fs) σ H Q → tCB r (tA X.K Wi fs) σ H Q := by
  intro σ H Q q
  obtain ⟨F, G, E, as, st, p⟩ := q
  refine ⟨F, G, E, as, st, PoA.mono (fun x H1 m => ?_) (PoA.bindN p)⟩
  obtain ⟨ws, G1, E1, as1, s1, st1, wo1, p1⟩ := m
  obtain ⟨ds, e1, p1⟩ := PoN.rds p1
  obtain ⟨d, e3, p1⟩ := PoN.of p1
  exact hg G1 H1 x ds d Q st1.s1 (wo1.rds (Same.refl _) st1 e1) e3 (PoN.rz st1 p1)
theorem de_callB {id : String} {r : List V → Hp → VK → Prop} {g : List D → Option D} (hc : CallR X (.builtin id) r) (hd : CallD X.K r g) (hg : Gl X x) (hm : X.mg x = none) (hv : bootBuiltins x = some (.builtin id)) (ha : DA X Wi (a :: es) fs) (hn : x ≠ "__name__" := by decide) (hdb : (x == ("__debug__" : Str)) = false := by decide)
    (he : starEach (a :: es) X.env = (false, eval a X.env) :: starEach es X.env := by rfl) (hpl : (backTo pos (starEach es X.env)).any (·.1) = false := by rfl) : DE X Wi (.Call (.Name x p) (a :: es) [] pos) (eCall g fs) :=
  PE.imp (pe_callB hc hg hm hv ha hn hdb he hpl) (tCB_of hd)
theorem de_callTy {T : String} {r : List V → Hp → VK → Prop} {g : List D → Option D} (hc : CallR X (.type T) r) (hd : CallD X.K r g) (hg : Gl X x) (hm : X.mg x = none) (hv : bootBuiltins x = some (.type T)) (ha : DA X Wi (a :: es) fs) (hn : x ≠ "__name__" := by decide) (hdb : (x == ("__debug__" : Str)) = false := by decide)
    (he : starEach (a :: es) X.env = (false, eval a X.env) :: starEach es X.env := by rfl) (hpl : (backTo pos (starEach es X.env)).any (·.1) = false := by rfl) : DE X Wi (.Call (.Name x p) (a :: es) [] pos) (eCall g fs) :=
  PE.imp (pe_callTy hc hg hm hv ha hn hdb he hpl) (tCB_of hd)
theorem dn_callB {id : String} {r : List V → Hp → VK → Prop} {g : List D → Option D} (hc : CallR X (.builtin id) r) (hd : CallN X.K r g) (hg : Gl X x) (hm : X.mg x = none) (hv : bootBuiltins x = some (.builtin id)) (ha : DA X Wi (a :: es) fs) (hn : x ≠ "__name__" := by decide) (hdb : (x == ("__debug__" : Str)) = false := by decide)
    (he : starEach (a :: es) X.env = (false, eval a X.env) :: starEach es X.env := by rfl) (hpl : (backTo pos (starEach es X.env)).any (·.1) = false := by rfl) : DN X Wi (.Call (.Name x p) (a :: es) [] pos) (nCall g fs) :=
  PE.imp (pe_callB hc hg hm hv ha hn hdb he hpl) (tCBN_of hd)
theorem dn_callTy {T : String} {r : List V → Hp → VK → Prop} {g : List D → Option D} (hc : CallR X (.type T) r) (hd : CallN X.K r g) (hg : Gl X x) (hm : X.mg x = none) (hv : bootBuiltins x = some (.type T)) (ha : DA X Wi (a :: es) fs) (hn : x ≠ "__name__" := by decide) (hdb : (x == ("__debug__" : Str)) = false := by decide)
    (he : starEach (a :: es) X.env = (false, eval a X.env) :: starEach es X.env := by rfl) (hpl : (backTo pos (starEach es X.env)).any (·.1) = false := by rfl) : DN X Wi (.Call (.Name x p) (a :: es) [] pos) (nCall g fs) :=
  PE.imp (pe_callTy hc hg hm hv ha hn hdb he hpl) (tCBN_of hd)
def nOp (g : D → D → Option D) (fa fb : EF) : NF := fun E => (fa E).bind fun p => (fb p.2).bind fun q => (rd q.2 p.1).bind fun x => (rd q.2 q.1).bind fun y => (ofO (g x y)).bind fun d => .ok (d, q.2)
theorem tOpN_of {r : V → V → Hp → VK → Prop} {g : D → D → Option D} (hg : OpN X.K r g) : ∀ σ H Q, tN X.K Wi (nOp g fa fb) σ H Q → tOp r (tE X.K Wi fa) (tE X.K Wi fb) σ H Q := by
  intro σ H Q q
  obtain ⟨F, G, E, as, st, p⟩ := q
  refine ⟨F, G, E, as, st, Po.mono (fun x H1 m => ?_) (Po.bindN p)⟩
  obtain ⟨w1, G1, E1, as1, s1, st1, wo1, p1⟩ := m
  refine ⟨F, G1, E1, as1, st1, Po.mono (fun y H2 m => ?_) (Po.bindN p1)⟩
  obtain ⟨w2, G2, E2, as2, s2, st2, wo2, p2⟩ := m
  obtain ⟨d1, e1, p2⟩ := PoN.rd p2
  obtain ⟨d2, e2, p2⟩ := PoN.rd p2
  obtain ⟨d, e3, p2⟩ := PoN.of p2
  exact hg G2 H2 x y d1 d2 d Q st2.s1 (wo1.rd s2 st2 e1) (wo2.rd (Same.refl _) st2 e2) e3 (PoN.rz st2 p2)
theorem dn_op {op : Operator} {r : V → V → Hp → VK → Prop} {g : D → D → Option D} (ho : OpR X (binaryOp op) r) (hg : OpN X.K r g) (ha : DE X Wi a fa) (hb : DE X Wi b fb) : DN X Wi (.BinOp a op b pos) (nOp g fa fb) :=
  PE.imp (pe_op ho ha hb) (tOpN_of hg)

def dats : List W → Option (List D)
  | [] => some []
  | .dat d :: ws => (dats ws).map (d :: ·)
  | .own _ :: _ => none
theorem dats_ok {K : PySem.W.Frag} {G : Hp} {E : Env} {σ : L2.St} : ∀ {vs : List V} {ws : List W} {ds : List D}, WOks K G E σ vs ws → dats ws = some ds → DDs K G vs ds
  | [], [], _, _, e => by cases e; exact .nil
  | v :: vs, .dat d :: ws, ds, h, e => by
    rw [dats] at e
    cases q : dats ws with
    | none => rw [q] at e; cases e
    | some r => rw [q] at e; cases e; exact .cons h.1 (dats_ok h.2 q)
  | v :: vs, .own _ :: ws, _, _, e => by cases e
  | [], _ :: _, _, h, _ => h.elim
  | _ :: _, [], _, h, _ => h.elim
def small {α : Type} (l : List α) (r : Option D) : Option D := if l.length ≤ 1000 then r else none
theorem small_some {α : Type} {l : List α} {r : Option D} {d : D} (h : small l r = some d) : l.length ≤ sizeLine ∧ r = some d := by
  unfold small at h
  split at h
  · rename_i q; exact ⟨by rw [sizeLine_eq]; omega, h⟩
  · cases h
def eTup (fs : AF) : EF := fun E => (fs E).bind fun p => (ofO (dats p.1)).bind fun ds => (ofO (small ds (some (.tup ds)))).bind fun d => .ok (.dat d, p.2)
def nLst (fs : AF) : NF := fun E => (fs E).bind fun p => (ofO (dats p.1)).bind fun ds => (ofO (small ds (some (.lst ds)))).bind fun d => .ok (d, p.2)
theorem de_tup {x1} (h : DA X Wi es fs) : DE X Wi (.Tuple es x1 pos) (eTup fs) := by
  refine PE.imp (pe_tup h) fun σ H Q q => ?_
  obtain ⟨F, G, E, as, st, p⟩ := q
  refine ⟨F, G, E, as, st, PoA.mono (fun vs H1 m => ?_) (PoA.bind p)⟩
  obtain ⟨ws, G1, E1, as1, s1, st1, wo1, p1⟩ := m
  obtain ⟨ds, e1, p1⟩ := Po.of p1
  obtain ⟨d, e2, p1⟩ := Po.of p1
  obtain ⟨hz, e3⟩ := small_some e2
  cases e3
  have dd := dats_ok wo1 e1
  have hz : vs.length ≤ sizeLine := by rw [dd.len]; exact hz
  refine ⟨hz, fun q hq => Po.rz st1 p1 _ _ _ (Al.one st1.s1 hq) ?_⟩
  exact .tup upd_same hz (dd.up (Al.one (o := .tup vs) st1.s1 hq).g)
theorem dn_lst (h : DA X Wi es fs) : DN X Wi (.List es pos) (nLst fs) := by
  refine PE.imp (pe_lst h) fun σ H Q q => ?_
  obtain ⟨F, G, E, as, st, p⟩ := q
  refine ⟨F, G, E, as, st, PoA.mono (fun vs H1 m => ?_) (PoA.bindN p)⟩
  obtain ⟨ws, G1, E1, as1, s1, st1, wo1, p1⟩ := m
  obtain ⟨ds, e1, p1⟩ := PoN.of p1
  obtain ⟨d, e2, p1⟩ := PoN.of p1
  obtain ⟨hz, e3⟩ := small_some e2
  cases e3
  have dd := dats_ok wo1 e1
  have hz : vs.length ≤ sizeLine := by rw [dd.len]; exact hz
  refine ⟨hz, fun q hq => PoN.rz st1 p1 q _ hq (fun b u z => ?_) ⟨vs, upd_same, hz, dd⟩⟩
  rw [upd_ne (ne_of_none z hq)]; exact z

theorem de_ix {r : V → V → Hp → VK → Prop} {g : D → D → Option D} (hr : IxR X r) (hg : OpD X.K r g) (ha : DE X Wi a fa) (hb : DE X Wi b fb) (hs : PlainIx b) : DE X Wi (.Subscript a b pos) (eOp g fa fb) :=
  PE.imp (pe_ix hr ha hb hs) (tOp_of hg)
end

/-- a slice's end -/
abbrev OF := Env → Res (Option Int × Env)
def oNo : OF := fun E => .ok (none, E)
def asI : D → Option Int
  | .int i => some i
  | _ => none
def oSo (f : EF) : OF := fun E => (f E).bind fun p => (rd p.2 p.1).bind fun d => (ofO (asI d)).bind fun i => .ok (some i, p.2)
def SlD (K : PySem.W.Frag) (r : V → Option Int → Option Int → Hp → VK → Prop) (g : D → Option Int → Option Int → Option D) : Prop :=
  ∀ (G H : Hp) (x : V) (a d : D) (lo hi : Option Int) (Q : VK), Same G H → BD K G H x a → g a lo hi = some d → Rz K G H Q d → r x lo hi H Q
def PoO (K : PySem.W.Frag) (Wi : Wish) (F : Fr) (G : Hp) (σ : L2.St) (Q : Option Int → Hp → Prop) : Res (Option Int × Env) → Prop
  | .ok (o, E') => ∀ G' H' as', Same G G' → StE K F G' H' σ E' as' → Q o H'
  | .err x E' => ∀ c dx G' H' as', Same G G' → StE K F G' H' σ E' as' → ExOk K G' x c dx → Wi σ c dx H'
  | .stuck => False
def tO (K : PySem.W.Frag) (Wi : Wish) (f : OF) : TO := fun σ H Q => ∃ F G E as, StE K F G H σ E as ∧ PoO K Wi F G σ Q (f E)
abbrev DO (X : Cx) (Wi : Wish) (e : Option Expr) (f : OF) : Prop := PO X e (tO X.K Wi f)
theorem PO.imp {X : Cx} {e : Option Expr} {t t' : TO} (h : PO X e t) (i : ∀ σ H Q, t' σ H Q → t σ H Q) : PO X e t' :=
  ⟨fun pins s σ H Q I q => h.run pins s σ H Q I (i σ H Q q)⟩
section
variable {X : Cx} {Wi : Wish} {e a b : Expr} {fa fb : EF} {p pos p2 : Pos} {lo hi : Option Expr} {ol oh : OF}
theorem do_no : DO X Wi none oNo := PO.imp po_none fun σ H Q q => by
  obtain ⟨F, G, E, as, st, p⟩ := q
  exact p G H as (Same.refl _) st
theorem do_so (h : DE X Wi e fa) : DO X Wi (some e) (oSo fa) := PO.imp (po_some h) fun σ H Q q => by
  obtain ⟨F, G, E, as, st, p⟩ := q
  refine ⟨F, G, E, as, st, ?_⟩
  have p : PoO X.K Wi F G σ Q ((fa E).bind fun p => (rd p.2 p.1).bind fun d => (ofO (asI d)).bind fun i => .ok (some i, p.2)) := p
  generalize fa E = r at p ⊢
  match r, p with
  | .ok (w, E1), p =>
    intro v G1 H1 as1 s1 st1 wo1
    have p : PoO X.K Wi F G σ Q ((rd E1 w).bind fun d => (ofO (asI d)).bind fun i => .ok (some i, E1)) := p
    rcases rd_no E1 w with ⟨d, e1⟩ | e1
    · have b1 := wo1.rd (Same.refl _) st1 e1
      rw [e1] at p
      cases d with
      | int i =>
        have p : PoO X.K Wi F G σ Q (.ok (some i, E1)) := p
        cases b1 with
        | dat dd => cases dd; exact ⟨i, rfl, p G1 H1 as1 s1 st1⟩
        | own _ o => exact o.elim
      | _ => exact p.elim
    · rw [e1] at p; exact p.elim
  | .err x E1, p => exact p
def eSl (g : D → Option Int → Option Int → Option D) (fa : EF) (ol oh : OF) : EF := fun E => (fa E).bind fun p => (ol p.2).bind fun q => (oh q.2).bind fun r => (rd r.2 p.1).bind fun x => (ofO (g x q.1 r.1)).bind fun d => .ok (.dat d, r.2)
def MidO (K : PySem.W.Frag) (F : Fr) (G : Hp) (σ : L2.St) (R : Option Int → Hp → Hp → Env → (Nat → List Addr) → Prop) (o : Option Int) (H1 : Hp) : Prop :=
  ∃ G1 E1 as1, Same G G1 ∧ StE K F G1 H1 σ E1 as1 ∧ R o G1 H1 E1 as1
theorem PoO.bind {K : PySem.W.Frag} {F : Fr} {G : Hp} {σ : L2.St} {Q : VK} {r : Res (Option Int × Env)} {g : Option Int × Env → Res (W × Env)} (h : Po K Wi F G σ Q (r.bind g)) :
    PoO K Wi F G σ (MidO K F G σ fun o G1 _ E1 _ => Po K Wi F G1 σ Q (g (o, E1))) r := by
  match r, h with
  | .ok (w, E'), h => exact fun G' H' as' s st => ⟨G', E', as', s, st, Po.up s h⟩
  | .err x E', h => exact h
theorem PoO.bindN {K : PySem.W.Frag} {F : Fr} {G : Hp} {σ : L2.St} {Q : VK} {r : Res (Option Int × Env)} {g : Option Int × Env → Res (D × Env)} (h : PoN K Wi F G σ Q (r.bind g)) :
    PoO K Wi F G σ (MidO K F G σ fun o G1 _ E1 _ => PoN K Wi F G1 σ Q (g (o, E1))) r := by
  match r, h with
  | .ok (w, E'), h => exact fun G' H' as' s st => ⟨G', E', as', s, st, PoN.up s h⟩
  | .err x E', h => exact h
theorem PoO.mono {K : PySem.W.Frag} {F : Fr} {G : Hp} {σ : L2.St} {Q Q' : Option Int → Hp → Prop} (i : ∀ v H, Q v H → Q' v H) : ∀ {r : Res (Option Int × Env)}, PoO K Wi F G σ Q r → PoO K Wi F G σ Q' r
  | .ok (_, _), h => fun G' H' as' s st => i _ _ (h G' H' as' s st)
  | .err _ _, h => h
theorem de_slice {r : V → Option Int → Option Int → Hp → VK → Prop} {g : D → Option Int → Option Int → Option D} (hr : SlR X r) (hg : SlD X.K r g) (he : DE X Wi e fa) (hl : DO X Wi lo ol) (hh : DO X Wi hi oh) : DE X Wi (.Subscript e (.Slice lo hi none p2) pos) (eSl g fa ol oh) := by
  refine PE.imp (pe_slice hr he hl hh) fun σ H Q q => ?_
  obtain ⟨F, G, E, as, st, p⟩ := q
  refine ⟨F, G, E, as, st, Po.mono (fun x H1 m => ?_) (Po.bind p)⟩
  obtain ⟨w1, G1, E1, as1, s1, st1, wo1, p1⟩ := m
  refine ⟨F, G1, E1, as1, st1, PoO.mono (fun l H2 m => ?_) (PoO.bind p1)⟩
  obtain ⟨G2, E2, as2, s2, st2, p2⟩ := m
  refine ⟨F, G2, E2, as2, st2, PoO.mono (fun u H3 m => ?_) (PoO.bind p2)⟩
  obtain ⟨G3, E3, as3, s3, st3, p3⟩ := m
  obtain ⟨d1, e1, p3⟩ := Po.rd p3
  obtain ⟨d, e3, p3⟩ := Po.of p3
  exact hg G3 H3 x d1 d l u Q st3.s1 (wo1.rd (s2.trans s3) st3 e1) e3 (Po.rz st3 p3)
end

abbrev BF := Env → Res (Bool × Env)
def PoT (K : PySem.W.Frag) (Wi : Wish) (F : Fr) (G : Hp) (σ : L2.St) (Q : Bool → Hp → Prop) : Res (Bool × Env) → Prop
  | .ok (o, E') => ∀ G' H' as', Same G G' → StE K F G' H' σ E' as' → Q o H'
  | .err x E' => ∀ c dx G' H' as', Same G G' → StE K F G' H' σ E' as' → ExOk K G' x c dx → Wi σ c dx H'
  | .stuck => False
def tT (K : PySem.W.Frag) (Wi : Wish) (f : BF) : TT := fun σ H Q => ∃ F G E as, StE K F G H σ E as ∧ PoT K Wi F G σ Q (f E)
abbrev DT (X : Cx) (Wi : Wish) (e : Expr) (f : BF) : Prop := PT X e (tT X.K Wi f)
abbrev DW (X : Cx) (Wi : Wish) (e : Expr) (f : BF) : Prop := PW X e (tT X.K Wi f)
theorem PW.imp {X : Cx} {e : Expr} {t t' : TT} (h : PW X e t) (i : ∀ σ H Q, t' σ H Q → t σ H Q) : PW X e t' :=
  ⟨fun w pins s σ H Q I q => h.run w pins s σ H Q I (i σ H Q q)⟩
def asB : D → Option Bool
  | .bl b => some b
  | _ => none
def MidT (K : PySem.W.Frag) (F : Fr) (G : Hp) (σ : L2.St) (R : Bool → Hp → Hp → Env → (Nat → List Addr) → Prop) (o : Bool) (H1 : Hp) : Prop :=
  ∃ G1 E1 as1, Same G G1 ∧ StE K F G1 H1 σ E1 as1 ∧ R o G1 H1 E1 as1
section
variable {K : PySem.W.Frag} {Wi : Wish} {F : Fr} {G G1 H : Hp} {σ : L2.St} {Q : Bool → Hp → Prop}
theorem PoT.up {r : Res (Bool × Env)} (e : Same G G1) (h : PoT K Wi F G σ Q r) : PoT K Wi F G1 σ Q r := by
  match r, h with
  | .ok (w, E'), h => exact fun G' H' as' s => h G' H' as' (e.trans s)
  | .err x E', h => exact fun c dx G' H' as' s => h c dx G' H' as' (e.trans s)
theorem PoT.mono {Q' : Bool → Hp → Prop} (i : ∀ v H, Q v H → Q' v H) : ∀ {r : Res (Bool × Env)}, PoT K Wi F G σ Q r → PoT K Wi F G σ Q' r
  | .ok (_, _), h => fun G' H' as' s st => i _ _ (h G' H' as' s st)
  | .err _ _, h => h
theorem PoT.bind {r : Res (Bool × Env)} {g : Bool × Env → Res (Bool × Env)} (h : PoT K Wi F G σ Q (r.bind g)) :
    PoT K Wi F G σ (MidT K F G σ fun o G1 _ E1 _ => PoT K Wi F G1 σ Q (g (o, E1))) r := by
  match r, h with
  | .ok (w, E'), h => exact fun G' H' as' s st => ⟨G', E', as', s, st, PoT.up s h⟩
  | .err x E', h => exact h
theorem PoT.bindE {QE : VK} {r : Res (Bool × Env)} {g : Bool × Env → Res (W × Env)} (h : Po K Wi F G σ QE (r.bind g)) :
    PoT K Wi F G σ (MidT K F G σ fun o G1 _ E1 _ => Po K Wi F G1 σ QE (g (o, E1))) r := by
  match r, h with
  | .ok (w, E'), h => exact fun G' H' as' s st => ⟨G', E', as', s, st, Po.up s h⟩
  | .err x E', h => exact h
theorem PoT.bindS {Dn : Ends} {r : Res (Bool × Env)} {g : Bool × Env → Res (Fl × Env)} (h : PoS K Wi F G Dn (r.bind g)) :
    PoT K Wi F G σ (MidT K F G σ fun o G1 _ E1 _ => PoS K Wi F G1 Dn (g (o, E1))) r := by
  match r, h with
  | .ok (w, E'), h => exact fun G' H' as' s st => ⟨G', E', as', s, st, PoS.up s h⟩
  | .err x E', h => exact fun c dx G' H' as' s st xo => h c dx σ G' H' as' s st xo
theorem Po.bindT {r : Res (W × Env)} {g : W × Env → Res (Bool × Env)} (h : PoT K Wi F G σ Q (r.bind g)) :
    Po K Wi F G σ (Mid K F G σ fun _ w G1 _ E1 _ => PoT K Wi F G1 σ Q (g (w, E1))) r := by
  match r, h with
  | .ok (w, E'), h => exact fun v G' H' as' s st wo => ⟨w, G', E', as', s, st, wo, PoT.up s h⟩
  | .err x E', h => exact h
end
/-- a value that is a bool -/
def tB (f : EF) : BF := fun E => (f E).bind fun p => (rd p.2 p.1).bind fun d => (ofO (asB d)).bind fun b => .ok (b, p.2)
def tNt (f : BF) : BF := fun E => (f E).bind fun p => .ok (!p.1, p.2)
def tAnd' (f g : BF) : BF := fun E => (f E).bind fun p => if p.1 = true then g p.2 else .ok (false, p.2)
def tOr' (f g : BF) : BF := fun E => (f E).bind fun p => if p.1 = true then .ok (true, p.2) else g p.2
def eIf (c : BF) (f g : EF) : EF := fun E => (c E).bind fun p => if p.1 = true then f p.2 else g p.2
section
variable {X : Cx} {Wi : Wish} {e a b c : Expr} {fa fb : EF} {ta tb : BF} {rest : List Expr} {pos : Pos}
theorem tB_of : ∀ σ H Q, tT X.K Wi (tB fa) σ H Q → tE X.K Wi fa σ H fun x H1 => ∃ k, x = .bl k ∧ Q k H1 := by
  intro σ H Q q
  obtain ⟨F, G, E, as, st, p⟩ := q
  refine ⟨F, G, E, as, st, Po.mono (fun x H1 m => ?_) (Po.bindT p)⟩
  obtain ⟨w1, G1, E1, as1, s1, st1, wo1, p1⟩ := m
  rcases rd_no E1 w1 with ⟨d, e1⟩ | e1
  · have b1 := wo1.rd (Same.refl _) st1 e1
    rw [e1] at p1
    cases d with
    | bl k =>
      cases b1 with
      | dat dd => cases dd; exact ⟨k, rfl, p1 G1 H1 as1 (Same.refl _) st1⟩
      | own _ o => exact o.elim
    | _ => exact p1.elim
  · rw [e1] at p1; exact p1.elim
theorem dt_val (h : DE X Wi e fa) (he : ∀ whole, isTrue e X.env whole = (do let v ← whole; standAt e.pos; holding [v] (truthy v)) := by intro _; rfl) : DT X Wi e (tB fa) :=
  PT.imp (pt_val h he) tB_of
theorem dt_cmp {op : CmpOp} {r : V → V → Hp → VK → Prop} {g : D → D → Option D} (ho : OpR X (compareOp op) r) (hg : OpD X.K r g) (ha : DE X Wi a fa) (hb : DE X Wi b fb) (hm : behindInMarks op b = false) : DT X Wi (.Compare a [op] [b] pos) (tB (eOp g fa fb)) :=
  PT.imp (pt_cmpR ho ha hb hm) fun σ H Q q => tOp_of hg σ H _ (tB_of σ H Q q)
theorem dt_not (h : DT X Wi a ta) : DT X Wi (.UnaryOp .Not a pos) (tNt ta) := PT.imp (pt_not h) fun σ H Q q => by
  obtain ⟨F, G, E, as, st, p⟩ := q
  refine ⟨F, G, E, as, st, PoT.mono (fun x H1 m => ?_) (PoT.bind p)⟩
  obtain ⟨G1, E1, as1, s1, st1, p1⟩ := m
  exact p1 G1 H1 as1 (Same.refl _) st1
theorem dw_one {op} (h : DT X Wi a ta) : DW X Wi (.BoolOp op [a] pos) ta := by
  cases op with
  | And => exact pw_and1 h
  | Or => exact pw_or1 h
theorem dw_and (h : DT X Wi a ta) (hb : DW X Wi (.BoolOp .And (b :: rest) pos) tb) : DW X Wi (.BoolOp .And (a :: b :: rest) pos) (tAnd' ta tb) := PW.imp (pw_and h hb) fun σ H Q q => by
  obtain ⟨F, G, E, as, st, p⟩ := q
  refine ⟨F, G, E, as, st, PoT.mono (fun x H1 m => ?_) (PoT.bind p)⟩
  obtain ⟨G1, E1, as1, s1, st1, p1⟩ := m
  cases x with
  | true => exact ⟨F, G1, E1, as1, st1, p1⟩
  | false => exact p1 G1 H1 as1 (Same.refl _) st1
theorem dw_or (h : DT X Wi a ta) (hb : DW X Wi (.BoolOp .Or (b :: rest) pos) tb) : DW X Wi (.BoolOp .Or (a :: b :: rest) pos) (tOr' ta tb) := PW.imp (pw_or h hb) fun σ H Q q => by
  obtain ⟨F, G, E, as, st, p⟩ := q
  refine ⟨F, G, E, as, st, PoT.mono (fun x H1 m => ?_) (PoT.bind p)⟩
  obtain ⟨G1, E1, as1, s1, st1, p1⟩ := m
  cases x with
  | false => exact ⟨F, G1, E1, as1, st1, p1⟩
  | true => exact p1 G1 H1 as1 (Same.refl _) st1
theorem de_ifx (hc : DT X Wi c ta) (ha : DE X Wi a fa) (hb : DE X Wi b fb) : DE X Wi (.IfExp c a b pos) (eIf ta fa fb) := PE.imp (pe_ifExp hc ha hb) fun σ H Q q => by
  obtain ⟨F, G, E, as, st, p⟩ := q
  refine ⟨F, G, E, as, st, PoT.mono (fun x H1 m => ?_) (PoT.bindE p)⟩
  obtain ⟨G1, E1, as1, s1, st1, p1⟩ := m
  cases x with
  | true => exact ⟨F, G1, E1, as1, st1, p1⟩
  | false => exact ⟨F, G1, E1, as1, st1, p1⟩
def vAnd (f g : EF) : EF := fun E => (tB f E).bind fun p => if p.1 = true then g p.2 else .ok (.dat (.bl false), p.2)
theorem tB_E {f : EF} {g : Bool × Env → Res (W × Env)} {Q : VK} {σ : L2.St} {H : Hp} (q : tE X.K Wi (fun E => (tB f E).bind g) σ H Q) :
    tE X.K Wi f σ H fun x H1 => ∃ k, x = .bl k ∧ ∃ F G1 E1 as1, StE X.K F G1 H1 σ E1 as1 ∧ Po X.K Wi F G1 σ Q (g (k, E1)) := by
  obtain ⟨F, G, E, as, st, p⟩ := q
  refine tB_of (Q := fun k H1 => ∃ F G1 E1 as1, StE X.K F G1 H1 σ E1 as1 ∧ Po X.K Wi F G1 σ Q (g (k, E1))) σ H ⟨F, G, E, as, st, PoT.mono (fun x H1 m => ?_) (PoT.bindE p)⟩
  obtain ⟨G1, E1, as1, s1, st1, p1⟩ := m
  exact ⟨F, G1, E1, as1, st1, p1⟩
theorem de_and (ha : DE X Wi a fa) (hb : DE X Wi (.BoolOp .And (b :: rest) pos) fb) : DE X Wi (.BoolOp .And (a :: b :: rest) pos) (vAnd fa fb) := PE.imp (pe_and ha hb) fun σ H Q q => by
  have z := tB_E q
  obtain ⟨F, G, E, as, st, p⟩ := z
  refine ⟨F, G, E, as, st, Po.mono (fun x H1 m => ?_) p⟩
  obtain ⟨k, e, F1, G1, E1, as1, st1, p1⟩ := m
  refine ⟨k, e, ?_⟩
  cases k with
  | true => exact ⟨F1, G1, E1, as1, st1, p1⟩
  | false => exact Po.rz st1 p1 _ _ _ (Al.refl st1.s1) (.bl false)
theorem de_one {op} (ha : DE X Wi a fa) : DE X Wi (.BoolOp op [a] pos) fa := pe_one ha
def vNot (f : EF) : EF := fun E => (tB f E).bind fun p => .ok (.dat (.bl (!p.1)), p.2)
theorem de_not (ha : DE X Wi a fa) : DE X Wi (.UnaryOp .Not a pos) (vNot fa) := PE.imp (pe_not ha) fun σ H Q q => by
  have z := tB_E q
  obtain ⟨F, G, E, as, st, p⟩ := z
  refine ⟨F, G, E, as, st, Po.mono (fun x H1 m => ?_) p⟩
  obtain ⟨k, e, F1, G1, E1, as1, st1, p1⟩ := m
  exact ⟨k, e, Po.rz st1 p1 _ _ _ (Al.refl st1.s1) (.bl _)⟩
end
end DL
namespace DL
open PySem PySem.Spec PyProof.Rows L2

def sNx : SF := fun E => .ok (.nx, E)
def sSeq (f g : SF) : SF := fun E => (f E).bind fun p => match p.1 with
  | .nx => g p.2
  | fl => .ok (fl, p.2)
def sEx (f : EF) : SF := fun E => (f E).bind fun p => .ok (.nx, p.2)
/-- a value handed back: the own object of a slot becomes data -/
def sRet (f : EF) : SF := fun E => (f E).bind fun p => match p.1 with
  | .dat d => .ok (.rt d, p.2)
  | .own i => match p.2[i]? with
    | some (.own d) => .ok (.rt d, p.2.set i (.dat d))
    | _ => .stuck
def sIf (c : BF) (f g : SF) : SF := fun E => (c E).bind fun p => if p.1 = true then f p.2 else g p.2
def sSet (i : Nat) (f : EF) : SF := fun E => (f E).bind fun p => match p.1 with
  | .dat d => .ok (.nx, p.2.set i (.dat d))
  | .own _ => .stuck
def sSetN (i : Nat) (f : NF) : SF := fun E => (f E).bind fun p => if i < p.2.length then .ok (.nx, p.2.set i (.own p.1)) else .stuck

section
variable {X : Cx} {Wi : Wish} {e : Expr} {st : Stmt} {rest bs cs : List Stmt} {f g : SF} {fe : EF} {c : Expr} {fc : BF} {pos pos' : Pos}
theorem dss_nil : DSs X Wi [] sNx := PSs.imp pss_nil fun D σ H q => by
  obtain ⟨F, G, E, as, st, p⟩ := q
  exact p σ G H as (Same.refl _) st
theorem sSeq_of : ∀ D σ H, tS X.K Wi (sSeq f g) D σ H → tSeq (tS X.K Wi f) (tS X.K Wi g) D σ H := by
  intro D σ H q
  obtain ⟨F, G, E, as, st, p⟩ := q
  refine ⟨F, G, E, as, st, ?_⟩
  have p : PoS X.K Wi F G D ((f E).bind fun p => match p.1 with
    | .nx => g p.2
    | fl => .ok (fl, p.2)) := p
  generalize f E = r at p ⊢
  match r, p with
  | .ok (.nx, E1), p => exact fun σ' G' H' as' s st' => ⟨F, G', E1, as', st', PoS.up s p⟩
  | .ok (.bk, E1), p => exact p
  | .ok (.ct, E1), p => exact p
  | .ok (.rt d, E1), p => exact p
  | .err x E1, p => exact p
theorem dss_cons (h1 : DS X Wi st f) (h2 : DSs X Wi rest g) : DSs X Wi (st :: rest) (sSeq f g) := PSs.imp (pss_cons h1 h2) sSeq_of
theorem dss_one (h1 : DS X Wi st f) : DSs X Wi [st] f := pss_one h1
theorem ds_expr (he : DE X Wi e fe) (hs : swapsWith e none pos.line X.env = pure false := by rfl) : DS X Wi (.Expr e pos) (sEx fe) := PS.imp (ps_expr he hs) fun D σ H q => by
  obtain ⟨F, G, E, as, st, p⟩ := q
  refine ⟨F, G, E, as, st, Po.mono (fun x H1 m => ?_) (Po.bindS p)⟩
  obtain ⟨w1, G1, E1, as1, s1, st1, wo1, p1⟩ := m
  exact p1 σ G1 H1 as1 (Same.refl _) st1
theorem ds_ret (he : DE X Wi e fe) : DS X Wi (.Return (some e) pos) (sRet fe) := PS.imp (ps_ret he) fun D σ H q => by
  obtain ⟨F, G, E, as, st, p⟩ := q
  refine ⟨F, G, E, as, st, Po.mono (fun x H1 m => ?_) (Po.bindS p)⟩
  obtain ⟨w1, G1, E1, as1, s1, st1, wo1, p1⟩ := m
  cases w1 with
  | dat d => exact p1 x σ G1 H1 as1 (Same.refl _) st1 wo1
  | own i =>
    have p1 : PoS X.K Wi F G1 D (match E1[i]? with
      | some (.own d) => .ok (.rt d, E1.set i (.dat d))
      | _ => .stuck) := p1
    rcases rd_own E1 i with ⟨d, e1, _⟩ | z
    · rw [e1] at p1
      obtain ⟨v, e2, a, x1, x2, x3⟩ := st1.cell i _ e1
      have wo : σ[i]? = some (some x) := wo1
      rw [wo] at e2; cases e2; cases x2
      obtain ⟨G2, s2, dd, st2⟩ := st1.freeze e1 wo
      exact p1 (.ref a) σ G2 H1 _ s2 st2 dd
    · cases h : E1[i]? with
      | none => rw [h] at p1; exact p1.elim
      | some c =>
        rw [h] at p1
        cases c with
        | own d => rw [show rd E1 (.own i) = .ok d by simp [rd, h]] at z; cases z
        | _ => exact p1.elim
theorem ds_if (hc : DT X Wi c fc) (ha : DSs X Wi bs f) (hb : DSs X Wi cs g) : DS X Wi (.If c bs cs pos) (sIf fc f g) := PS.imp (ps_if hc ha hb) fun D σ H q => by
  obtain ⟨F, G, E, as, st, p⟩ := q
  refine ⟨F, G, E, as, st, PoT.mono (fun x H1 m => ?_) (PoT.bindS p)⟩
  obtain ⟨G1, E1, as1, s1, st1, p1⟩ := m
  cases x with
  | true => exact ⟨F, G1, E1, as1, st1, p1⟩
  | false => exact ⟨F, G1, E1, as1, st1, p1⟩
theorem tAsg_of {i : Nat} {te : TE} (h : ∀ σ H Q, tE X.K Wi fe σ H Q → te σ H Q) : ∀ D σ H, tS X.K Wi (sSet i fe) D σ H → tAsg te (gName i) D σ H := by
  intro D σ H q
  obtain ⟨F, G, E, as, st, p⟩ := q
  refine h _ _ _ ⟨F, G, E, as, st, Po.mono (fun x H1 m => ?_) (Po.bindS p)⟩
  obtain ⟨w1, G1, E1, as1, s1, st1, wo1, p1⟩ := m
  cases w1 with
  | dat d => exact p1 _ G1 H1 _ (Same.refl _) (st1.setD wo1)
  | own j => exact p1.elim
theorem PoN.bindS {K : PySem.W.Frag} {F : Fr} {G : Hp} {σ : L2.St} {D : Ends} {r : Res (DL.D × Env)} {g : DL.D × Env → Res (Fl × Env)} (h : PoS K Wi F G D (r.bind g)) :
    PoN K Wi F G σ (fun v H1 => ∃ d p G1 E1 as1, v = .ref p ∧ Same G G1 ∧ StE K F G1 H1 σ E1 as1 ∧ G1 p = none ∧ F.H0 p = none ∧ (∀ j, p ∉ as1 j) ∧ OwnAt K G1 H1 p d ∧ PoS K Wi F G1 D (g (d, E1))) r := by
  match r, h with
  | .ok (w, E'), h => exact fun p G' H' as' s st gp fp np o => ⟨w, p, G', E', as', rfl, s, st, gp, fp, np, o, PoS.up s h⟩
  | .err x E', h => exact fun c dx G' H' as' s st xo => h c dx σ G' H' as' s st xo
theorem tAsgN_of {i : Nat} {te : TE} {fn : NF} (h : ∀ σ H Q, tN X.K Wi fn σ H Q → te σ H Q) : ∀ D σ H, tS X.K Wi (sSetN i fn) D σ H → tAsg te (gName i) D σ H := by
  intro D σ H q
  obtain ⟨F, G, E, as, st, p⟩ := q
  have pp := PoN.bindS (K := X.K) (σ := σ) p
  refine h _ _ _ ⟨F, G, E, as, st, ?_⟩
  revert pp
  generalize fn E = r
  intro pp
  match r, pp with
  | .ok (w, E'), pp =>
    intro p G' H' as' s st gp fp np o
    obtain ⟨d, p', G1, E1, as1, e, s1, st1, gp1, fp1, np1, o1, p1⟩ := pp p G' H' as' s st gp fp np o
    cases e
    have p1 : PoS X.K Wi F G1 D (if i < E1.length then .ok (.nx, E1.set i (.own d)) else .stuck) := p1
    by_cases hi : i < E1.length
    · rw [if_pos hi] at p1
      refine p1 _ G1 H' _ (Same.refl _) (st1.setC (i := i) (l := [p]) ⟨p, rfl, rfl, o1⟩ (fun a ha => ?_) (.inl hi))
      rw [List.mem_singleton.mp ha]
      exact ⟨fun j _ => np1 j, gp1, .inl fp1⟩
    · rw [if_neg hi] at p1; exact p1.elim
  | .err x E', pp => exact pp
theorem ds_set {i : Nat} {x : Str} (hN : X.N.Nodup) (hi : X.N[i]? = some x) (hx : Loc X.env.scope x) (he : DE X Wi e fe) (hs : swapsWith e (some (.Name x pos')) pos.line X.env = pure false := by rfl)
    (hf : X.fn x = true ∨ X.env.scope.names.lookup x = some .local := by first | exact .inl rfl | exact .inr rfl | assumption) : DS X Wi (.Assign [.Name x pos'] e pos) (sSet i fe) :=
  PS.imp (ps_set hN hi hx he hs hf) (tAsg_of fun _ _ _ q => q)
theorem ds_setN {i : Nat} {x : Str} {fn : NF} (hN : X.N.Nodup) (hi : X.N[i]? = some x) (hx : Loc X.env.scope x) (he : DN X Wi e fn) (hs : swapsWith e (some (.Name x pos')) pos.line X.env = pure false := by rfl)
    (hf : X.fn x = true ∨ X.env.scope.names.lookup x = some .local := by first | exact .inl rfl | exact .inr rfl | assumption) : DS X Wi (.Assign [.Name x pos'] e pos) (sSetN i fn) :=
  PS.imp (ps_set hN hi hx he hs hf) (tAsgN_of fun _ _ _ q => q)
end

abbrev GF := D → Env → Option Env
def tG (K : PySem.W.Frag) (ts : List Nat) (g : GF) : TG := fun v σ H Q => ∃ F G E as d, StE K F G H σ E as ∧ DD K G v d ∧ ∃ E', g d E = some E' ∧
  ∀ σ' as', StE K F G H σ' E' as' → (∀ j, j ∉ ts → σ'[j]? = σ[j]?) → σ'.length = σ.length → Q σ' H
def tGs (K : PySem.W.Frag) (ts : List Nat) (g : List D → Env → Option Env) : TGs := fun vs σ H Q => ∃ F G E as ds, StE K F G H σ E as ∧ DDs K G vs ds ∧ ∃ E', g ds E = some E' ∧
  ∀ σ' as', StE K F G H σ' E' as' → (∀ j, j ∉ ts → σ'[j]? = σ[j]?) → σ'.length = σ.length → Q σ' H
abbrev DG (X : Cx) (tg : Expr) (ts : List Nat) (g : GF) : Prop := PG X tg (tG X.K ts g)
abbrev DGs (X : Cx) (tgs : List Expr) (ts : List Nat) (g : List D → Env → Option Env) : Prop := PGs X tgs (tGs X.K ts g)
theorem PG.imp {X : Cx} {e : Expr} {t t' : TG} (h : PG X e t) (i : ∀ v σ H Q, t' v σ H Q → t v σ H Q) : PG X e t' :=
  ⟨fun pins s σ H v u Q I r q => h.run pins s σ H v u Q I r (i _ _ _ _ q)⟩
theorem PGs.imp {X : Cx} {e : List Expr} {t t' : TGs} (h : PGs X e t) (i : ∀ v σ H Q, t' v σ H Q → t v σ H Q) : PGs X e t' :=
  ⟨fun pins s σ H v u Q I r q => h.run pins s σ H v u Q I r (i _ _ _ _ q)⟩
def gN (i : Nat) : GF := fun d E => some (E.set i (.dat d))
def gNil' : List D → Env → Option Env
  | [], E => some E
  | _ :: _, _ => none
def gCons' (g : GF) (gs : List D → Env → Option Env) : List D → Env → Option Env
  | [], _ => none
  | d :: ds, E => (g d E).bind fun E1 => gs ds E1
def gT (gs : List D → Env → Option Env) : GF
  | .tup ds, E => gs ds E
  | _, _ => none
section
variable {X : Cx} {es : List Expr} {e : Expr} {ts us : List Nat} {g : GF} {gs : List D → Env → Option Env} {pos : Pos}
theorem dg_name {i : Nat} {x : Str} (hN : X.N.Nodup) (hi : X.N[i]? = some x) (hx : Loc X.env.scope x) (hf : X.fn x = true ∨ X.env.scope.names.lookup x = some .local := by first | exact .inl rfl | exact .inr rfl | assumption) :
    DG X (.Name x pos) [i] (gN i) := PG.imp (pg_name hN hi hx hf) fun v σ H Q q => by
  obtain ⟨F, G, E, as, d, st, dd, E', e, k⟩ := q
  cases e
  exact k _ _ (st.setD dd) (fun j hj => List.getElem?_set_ne (fun z => hj (by rw [z]; exact List.mem_singleton.mpr rfl))) (List.length_set ..)
theorem dgs_nil : DGs X [] [] gNil' := PGs.imp pgs_nil fun v σ H Q q => by
  obtain ⟨F, G, E, as, ds, st, dd, E', e, k⟩ := q
  cases dd with
  | nil => cases e; exact ⟨rfl, k _ _ st (fun _ _ => rfl) rfl⟩
  | cons _ _ => cases e
theorem dgs_cons (h1 : DG X e ts g) (h2 : DGs X es us gs) (hs : (assignEach (e :: es) X.env).map (·.2) = assign e X.env :: (assignEach es X.env).map (·.2) := by rfl) : DGs X (e :: es) (ts ++ us) (gCons' g gs) :=
  PGs.imp (pgs_cons h1 h2 hs) fun v σ H Q q => by
    obtain ⟨F, G, E, as, ds, st, dd, E', e, k⟩ := q
    cases dd with
    | nil => cases e
    | cons a b =>
      rename_i v vs d ds
      have e : ((g d E).bind fun E1 => gs ds E1) = some E' := e
      cases h : g d E with
      | none => rw [h] at e; cases e
      | some E1 =>
        rw [h] at e
        refine ⟨v, vs, rfl, F, G, E, as, d, st, a, E1, h, fun σ1 as1 st1 k1 l1 => ?_⟩
        refine ⟨F, G, E1, as1, ds, st1, b, E', e, fun σ2 as2 st2 k2 l2 => k σ2 as2 st2 (fun j hj => ?_) (l2.trans l1)⟩
        exact (k2 j fun z => hj (List.mem_append_right _ z)).trans (k1 j fun z => hj (List.mem_append_left _ z))
theorem dg_tup {k : Nat} {ts : List Nat} (hc : X.calm = true) (h : DGs X es ts gs) (n : Nat) (hn : es.length = n := by rfl) (hg : PG X (.Tuple es k pos) (gTup X.K n (tGs X.K ts gs))) (hl : ∀ ds E E', gs ds E = some E' → ds.length = n) : DG X (.Tuple es k pos) ts (gT gs) :=
  PG.imp hg fun v σ H Q q => by
    obtain ⟨F, G, E, as, d, st, dd, E', e, k⟩ := q
    cases dd with
    | tup a b c =>
      refine ⟨_, _, rfl, SqT.of (st.s1 _ _ a), (c.len).trans (hl _ _ _ e), F, G, E, as, _, st, c, E', e, k⟩
    | _ => cases e
end

abbrev IF := Env → Res (List D × Env)
structure JD (K : PySem.W.Frag) (G0 : Hp) (J : It) (items : List D) : Prop where
  le : items.length ≤ sizeLine
  stop : ∀ G H, Same G0 G → Same G H → J.stop items.length H
  go : ∀ G H i, Same G0 G → Same G H → i < items.length → J.go i H
  yld : ∀ G H i d x H', Same G0 G → Same G H → items[i]? = some d → J.yld i H x H' → ∃ G', Al G H G' H' ∧ DD K G' x d
def PoI (K : PySem.W.Frag) (Wi : Wish) (F : Fr) (G : Hp) (σ : L2.St) (R : It → Hp → Prop) : Res (List D × Env) → Prop
  | .ok (ds, E') => ∀ J G' H' as', Same G G' → StE K F G' H' σ E' as' → JD K G' J ds → R J H'
  | .err x E' => ∀ c dx G' H' as', Same G G' → StE K F G' H' σ E' as' → ExOk K G' x c dx → Wi σ c dx H'
  | .stuck => False
def tI (K : PySem.W.Frag) (Wi : Wish) (f : IF) : TI := fun σ H R => ∃ F G E as, StE K F G H σ E as ∧ PoI K Wi F G σ R (f E)
abbrev DI (X : Cx) (Wi : Wish) (tg iter : Expr) (f : IF) : Prop := PI X tg iter (tI X.K Wi f)
theorem PI.imp {X : Cx} {tg e : Expr} {t t' : TI} (h : PI X tg e t) (i : ∀ σ H Q, t' σ H Q → t σ H Q) : PI X tg e t' :=
  ⟨fun pins s σ H R I q => h.run pins s σ H R I (i _ _ _ q)⟩
section
variable {K : PySem.W.Frag} {Wi : Wish} {F : Fr} {G G1 H : Hp} {σ : L2.St}
theorem PoI.mono {R R' : It → Hp → Prop} (i : ∀ v H, R v H → R' v H) : ∀ {r : Res (List D × Env)}, PoI K Wi F G σ R r → PoI K Wi F G σ R' r
  | .ok (_, _), h => fun J G' H' as' s st jd => i _ _ (h J G' H' as' s st jd)
  | .err _ _, h => h
def MidI (K : PySem.W.Frag) (F : Fr) (G : Hp) (σ : L2.St) (R : It → List D → Hp → Hp → Env → (Nat → List Addr) → Prop) (J : It) (H1 : Hp) : Prop :=
  ∃ ds G1 E1 as1, Same G G1 ∧ StE K F G1 H1 σ E1 as1 ∧ JD K G1 J ds ∧ R J ds G1 H1 E1 as1
theorem PoI.bindS {Dn : Ends} {r : Res (List D × Env)} {g : List D × Env → Res (Fl × Env)} (h : PoS K Wi F G Dn (r.bind g)) :
    PoI K Wi F G σ (MidI K F G σ fun _ ds G1 _ E1 _ => PoS K Wi F G1 Dn (g (ds, E1))) r := by
  match r, h with
  | .ok (w, E'), h => exact fun J G' H' as' s st jd => ⟨w, G', E', as', s, st, jd, PoS.up s h⟩
  | .err x E', h => exact fun c dx G' H' as' s st xo => h c dx σ G' H' as' s st xo
theorem PoI.bindN {Q : VK} {r : Res (List D × Env)} {g : List D × Env → Res (D × Env)} (h : PoN K Wi F G σ Q (r.bind g)) :
    PoI K Wi F G σ (MidI K F G σ fun _ ds G1 _ E1 _ => PoN K Wi F G1 σ Q (g (ds, E1))) r := by
  match r, h with
  | .ok (w, E'), h => exact fun J G' H' as' s st jd => ⟨w, G', E', as', s, st, jd, PoN.up s h⟩
  | .err x E', h => exact h
end

def forL (g : GF) (body : SF) : List D → SF
  | [], E => .ok (.nx, E)
  | d :: ds, E => (ofO (g d E)).bind fun E1 => (body E1).bind fun p => match p.1 with
    | .nx => forL g body ds p.2
    | .ct => forL g body ds p.2
    | .bk => .ok (.nx, p.2)
    | .rt d => .ok (.rt d, p.2)
def sFor (fi : IF) (g : GF) (body : SF) : SF := fun E => (fi E).bind fun p => forL g body p.1 p.2
theorem ds_for {X : Cx} {Wi : Wish} {tg iter : Expr} {body : List Stmt} {fi : IF} {g : GF} {ts : List Nat} {fb : SF} {pos : Pos} (hp : PassesOwn (model X.prog X.w) X.A X.env X.xe) (hc : X.calm = true) (hi : DI X Wi tg iter fi) (hg : DG X tg ts g) (hb : DSs X Wi body fb) (hs : ∀ x, foldedSetIterable iter X.env x = pure x := by intro _; rfl) : DS X Wi (.For tg iter body [] pos) (sFor fi g fb) :=
  PS.imp (ps_for hp hc hi hg hb hs) fun D σ H q => by
    obtain ⟨F, G, E, as, st, p⟩ := q
    refine ⟨F, G, E, as, st, PoI.mono (fun J H1 m => ?_) (PoI.bindS p)⟩
    obtain ⟨ds, G1, E1, as1, s1, st1, jd, p1⟩ := m
    refine ⟨fun i m σ H => ∃ G2 E2 as2, m = ds.length - i ∧ i ≤ ds.length ∧ Same G1 G2 ∧ StE X.K F G2 H σ E2 as2 ∧ PoS X.K Wi F G2 D (forL g fb (ds.drop i) E2), ⟨ds.length, G1, E1, as1, by simp, Nat.zero_le _, Same.refl _, st1, p1⟩, ?_⟩
    rintro i m σ H ⟨G2, E2, as2, rfl, hi, s2, st2, p2⟩
    by_cases hlt : i < ds.length
    · refine .inr ⟨jd.go G2 H i s2 st2.s1 hlt, fun σ' H' => ∃ G3 E3 as3, i + 1 ≤ ds.length ∧ Same G1 G3 ∧ StE X.K F G3 H' σ' E3 as3 ∧ PoS X.K Wi F G3 D (forL g fb (ds.drop (i + 1)) E3), fun σ' H' z => ?_, fun x H' y => ?_⟩
      · obtain ⟨G3, E3, as3, a, b, c, d⟩ := z
        exact ⟨ds.length - (i + 1), by omega, G3, E3, as3, rfl, a, b, c, d⟩
      · have hx : ds[i]? = some ds[i] := List.getElem?_eq_getElem hlt
        obtain ⟨G3, al, dd⟩ := jd.yld G2 H i _ x H' s2 st2.s1 hx y
        have st3 := st2.al al
        have hd : ds.drop i = ds[i] :: ds.drop (i + 1) := List.drop_eq_getElem_cons hlt
        rw [hd] at p2
        obtain ⟨E3, e3, p3⟩ := PoS.of (PoS.up al.g p2)
        refine ⟨F, G3, E2, as2, ds[i], st3, dd, E3, e3, fun σ4 as4 st4 _ _ => ⟨F, G3, E3, as4, st4, ?_⟩⟩
        generalize fb E3 = r at p3 ⊢
        match r, p3 with
        | .ok (.nx, E5), p3 => exact fun σ5 G5 H5 as5 s5 st5 => ⟨G5, E5, as5, hlt, (s2.trans al.g).trans s5, st5, PoS.up s5 p3⟩
        | .ok (.ct, E5), p3 => exact fun σ5 G5 H5 as5 s5 st5 => ⟨G5, E5, as5, hlt, (s2.trans al.g).trans s5, st5, PoS.up s5 p3⟩
        | .ok (.bk, E5), p3 => exact p3
        | .ok (.rt d, E5), p3 => exact p3
        | .err x E5, p3 => exact p3
    · have e : i = ds.length := by omega
      subst e
      refine .inl ⟨jd.stop G2 H s2 st2.s1, ?_⟩
      rw [List.drop_length] at p2
      exact p2 σ G2 H as2 (Same.refl _) st2

def whileL (c : BF) (body : SF) : Nat → SF
  | 0, _ => .stuck
  | n + 1, E => (c E).bind fun p => if p.1 = true then (body p.2).bind fun q => match q.1 with
      | .nx => whileL c body n q.2
      | .ct => whileL c body n q.2
      | .bk => .ok (.nx, q.2)
      | .rt d => .ok (.rt d, q.2)
    else .ok (.nx, p.2)
theorem ds_while {X : Cx} {Wi : Wish} {c : Expr} {body : List Stmt} {fc : BF} {fb : SF} {pos : Pos} (n : Nat) (hp : PassesOwn (model X.prog X.w) X.A X.env X.xe) (hc : DT X Wi c fc) (hb : DSs X Wi body fb) : DS X Wi (.While c body [] pos) (whileL fc fb n) :=
  PS.imp (ps_while hp hc hb) fun D σ H q => by
    obtain ⟨F, G, E, as, st, p⟩ := q
    refine ⟨fun m σ H => ∃ G E as, StE X.K F G H σ E as ∧ PoS X.K Wi F G D (whileL fc fb m E), ⟨n, G, E, as, st, p⟩, ?_⟩
    rintro m σ H ⟨G, E, as, st, p⟩
    cases m with
    | zero => exact p.elim
    | succ m =>
      refine ⟨F, G, E, as, st, PoT.mono (fun b H1 z => ?_) (PoT.bindS p)⟩
      obtain ⟨G1, E1, as1, s1, st1, p1⟩ := z
      cases b with
      | false => exact p1 σ G1 H1 as1 (Same.refl _) st1
      | true =>
        refine ⟨fun σ' H' => ∃ G3 E3 as3, StE X.K F G3 H' σ' E3 as3 ∧ PoS X.K Wi F G3 D (whileL fc fb m E3), fun σ' H' z => ⟨m, Nat.lt_succ_self _, z⟩, F, G1, E1, as1, st1, ?_⟩
        have p1 : PoS X.K Wi F G1 D ((fb E1).bind fun q => match q.1 with
          | .nx => whileL fc fb m q.2
          | .ct => whileL fc fb m q.2
          | .bk => .ok (.nx, q.2)
          | .rt d => .ok (.rt d, q.2)) := p1
        generalize fb E1 = r at p1 ⊢
        match r, p1 with
        | .ok (.nx, E5), p3 => exact fun σ5 G5 H5 as5 s5 st5 => ⟨G5, E5, as5, st5, PoS.up s5 p3⟩
        | .ok (.ct, E5), p3 => exact fun σ5 G5 H5 as5 s5 st5 => ⟨G5, E5, as5, st5, PoS.up s5 p3⟩
        | .ok (.bk, E5), p3 => exact p3
        | .ok (.rt d, E5), p3 => exact p3
        | .err x E5, p3 => exact p3
end DL
namespace DL
open PySem PySem.Spec PyProof.Rows L2

def plainC : Option Cell → Bool
  | some .no => true
  | some (.dat _) => true
  | none => true
  | _ => false
/-- the block's own names are not known ahead of a turn -/
def wipeE (E : Env) : List Nat → Env
  | [] => E
  | v :: vs => (wipeE E vs).set v .no
/-- behind a turn they are what they were outside -/
def backE (E0 E : Env) : List Nat → Env
  | [] => E
  | v :: vs => (backE E0 E vs).set v (E0[v]?.getD .no)
def noErr {α : Type} : Res α → Res α
  | .ok a => .ok a
  | _ => .stuck
def asDat : W → Option D
  | .dat d => some d
  | .own _ => none
def compL (vs : List Nat) (g : GF) (fc : BF) (fe : EF) (E0 : Env) : List D → List D → Env → Res (D × Env)
  | [], acc, E => .ok (.lst acc, E)
  | d :: ds, acc, E => (ofO (g d (wipeE E vs))).bind fun E1 => (noErr (fc E1)).bind fun p =>
      if p.1 = true then (noErr (fe p.2)).bind fun q => (ofO (asDat q.1)).bind fun y => compL vs g fc fe E0 ds (acc ++ [y]) (backE E0 q.2 vs)
      else compL vs g fc fe E0 ds acc (backE E0 p.2 vs)
def nComp (vs : List Nat) (fi : IF) (g : GF) (fc : BF) (fe : EF) : NF := fun E => (fi E).bind fun p => if vs.all (fun v => plainC p.2[v]?) = true then compL vs g fc fe p.2 p.1 [] p.2 else .stuck
def tYes' : BF := fun E => .ok (true, E)
/-- no exception leaves -/
def W0 : Wish := fun _ _ _ _ => False

section
variable {K : PySem.W.Frag} {Wi : Wish} {F : Fr} {G G1 H H1 : Hp} {σ : L2.St} {E E0 : Env} {as : Nat → List Addr} {Q : VK}
def dropA (as : Nat → List Addr) : List Nat → Nat → List Addr
  | [] => as
  | v :: vs => drp (dropA as vs) v []
theorem StE.wipe (st : StE K F G H σ E as) : ∀ vs : List Nat, StE K F G H (L2.wipe σ vs) (wipeE E vs) (dropA as vs)
  | [] => st
  | v :: vs => (StE.wipe st vs).setN
theorem StE.wr (st : StE K F G H σ E as) {p : Addr} {o : HO} (gp : G p = none) (fp : F.H0 p = none) (np : ∀ j, p ∉ as j) (hp : H p ≠ none) : StE K F G (upd H p o) σ E as := by
  refine ⟨st.len, st.s0, fun b z q => ?_, fun b u q x => ?_, fun b q => ?_, st.priv, fun i c e => ?_, st.sep, st.off, st.tail⟩
  · rw [upd_ne (ne_of_none q gp)]; exact st.s1 b z q
  · rw [upd_ne (ne_of_none q fp)]; exact st.keep b u q x
  · by_cases hb : b = p
    · subst hb; exact fp
    · rw [upd_ne hb] at q; exact st.dom b q
  · obtain ⟨v, e1, x⟩ := st.cell i c e
    refine ⟨v, e1, x.up (Same.refl _) fun b hb u q => ?_⟩
    rw [upd_ne (fun (z : b = p) => np i (by rw [← z]; exact hb))]; exact q
/-- the block's slots are put back: the slots of the frame are σ, where the block had σ' -/
theorem StE.back {σ' : L2.St} {E1 : Env} {as1 : Nat → List Addr} {vs : List Nat} (hc : ∀ v ∈ vs, plainC E0[v]? = true ∧ ∀ d, E0[v]? = some (.dat d) → ∃ x, σ[v]? = some (some x) ∧ DD K G x d) (s : Same G G1)
    (st1 : StE K F G1 H1 σ' E1 as1) (hσ : ∀ j, j ∉ vs → σ'[j]? = σ[j]?) (hl : σ'.length = σ.length) : ∃ as2, StE K F G1 H1 σ (backE E0 E1 vs) as2 ∧ ∀ j p, p ∈ as2 j → ∃ k, p ∈ as1 k := by
  have key : ∀ us : List Nat, (∀ v ∈ us, v ∈ vs) → ∃ σ2 as2, StE K F G1 H1 σ2 (backE E0 E1 us) as2 ∧ (∀ j, j ∈ us → σ2[j]? = σ[j]?) ∧ (∀ j, j ∉ us → σ2[j]? = σ'[j]?) ∧ σ2.length = σ.length ∧ ∀ j p, p ∈ as2 j → ∃ k, p ∈ as1 k := by
    intro us
    induction us with
    | nil => intro _; exact ⟨σ', as1, st1, fun j hj => (by cases hj), fun j _ => rfl, hl, fun j p h => ⟨j, h⟩⟩
    | cons v us ih =>
      intro hs
      obtain ⟨σ2, as2, st2, h1, h2, h3, h4⟩ := ih fun u hu => hs u (List.mem_cons_of_mem _ hu)
      obtain ⟨pl, hd⟩ := hc v (hs v List.mem_cons_self)
      refine ⟨σ2.set v (σ[v]?.getD none), drp as2 v [], ?_, fun j hj => ?_, fun j hj => ?_, by rw [List.length_set, h3], fun j p hp => ?_⟩
      · show StE K F G1 H1 _ ((backE E0 E1 us).set v (E0[v]?.getD .no)) _
        cases hq : E0[v]? with
        | none => exact st2.setN
        | some c =>
          rw [hq] at pl
          cases c with
          | no => exact st2.setN
          | dat d =>
            obtain ⟨x, e1, dd⟩ := hd d hq
            rw [e1]
            exact st2.setD (dd.up s)
          | own d => cases pl
          | deck a q l b => cases pl
          | slf a d => cases pl
          | cls C => cases pl
      · by_cases e : j = v
        · subst e
          by_cases hj2 : j < σ2.length
          · rw [List.getElem?_set_self hj2]
            rw [h3] at hj2
            rw [List.getElem?_eq_getElem hj2]; rfl
          · rw [List.getElem?_eq_none (by rw [List.length_set]; omega), List.getElem?_eq_none (by omega)]
        · rw [List.getElem?_set_ne (Ne.symm e)]
          rcases List.mem_cons.mp hj with z | z
          · exact absurd z e
          · exact h1 j z
      · rw [List.getElem?_set_ne (fun z => hj (by rw [z]; exact List.mem_cons_self))]
        exact h2 j fun z => hj (List.mem_cons_of_mem _ z)
      · by_cases e : j = v
        · rw [e, drp_same] at hp; cases hp
        · rw [drp_ne e] at hp; exact h4 j p hp
  obtain ⟨σ2, as2, st2, h1, h2, h3, h4⟩ := key vs fun _ h => h
  have e : σ2 = σ := by
    refine List.ext_getElem? fun j => ?_
    by_cases hj : j ∈ vs
    · exact h1 j hj
    · exact (h2 j hj).trans (hσ j hj)
  rw [e] at st2
  exact ⟨as2, st2, h4⟩
theorem Po.noErr {r : Res (W × Env)} (h : ∀ p, r = .ok p → Po K W0 F G σ Q (.ok p)) (hr : ∃ p, DL.noErr r = .ok p) : Po K W0 F G σ Q r := by
  obtain ⟨p, hp⟩ := hr
  cases r with
  | ok a => exact h a rfl
  | err x E => cases hp
  | stuck => cases hp
theorem wipe_get : ∀ {vs : List Nat} {j : Nat}, j ∉ vs → (L2.wipe σ vs)[j]? = σ[j]?
  | [], _, _ => rfl
  | v :: vs, j, h => by
    rw [L2.wipe, List.getElem?_set_ne (fun z => h (by rw [z]; exact List.mem_cons_self))]
    exact wipe_get fun z => h (List.mem_cons_of_mem _ z)
theorem wipe_in : ∀ {vs : List Nat} {j : Nat}, j ∈ vs → j < σ.length → (L2.wipe σ vs)[j]? = some none
  | v :: vs, j, h, hl => by
    rw [L2.wipe]
    by_cases e : v = j
    · subst e; rw [List.getElem?_set_self (by rw [wipe_length]; exact hl)]
    · rw [List.getElem?_set_ne e]
      rcases List.mem_cons.mp h with z | z
      · exact absurd z.symm e
      · exact wipe_in z hl
theorem wipe_eq {σ' : L2.St} {vs : List Nat} (h : ∀ j, j ∉ vs → σ'[j]? = (L2.wipe σ vs)[j]?) (hl : σ'.length = (L2.wipe σ vs).length) : L2.wipe σ' vs = L2.wipe σ vs := by
  rw [wipe_length] at hl
  refine List.ext_getElem? fun j => ?_
  by_cases hj : j ∈ vs
  · by_cases hb : j < σ.length
    · rw [wipe_in hj (by omega), wipe_in hj hb]
    · rw [List.getElem?_eq_none (by rw [wipe_length]; omega), List.getElem?_eq_none (by rw [wipe_length]; omega)]
  · rw [wipe_get hj]; exact h j hj
end

theorem PoN.noErr {α : Type} {K : PySem.W.Frag} {Wi : Wish} {F : Fr} {G : Hp} {σ : L2.St} {Q : VK} {r : Res α} {g : α → Res (D × Env)} (h : PoN K Wi F G σ Q ((DL.noErr r).bind g)) : ∃ a, r = .ok a ∧ PoN K Wi F G σ Q (g a) := by
  cases r with
  | ok a => exact ⟨a, rfl, h⟩
  | err x E => exact h.elim
  | stuck => exact h.elim

theorem tLc_of {K : PySem.W.Frag} {Wi : Wish} {fi : IF} {g : GF} {ts vs : List Nat} {fc : BF} {fe : EF} {tt : TT} {te : TE} (hts : ∀ t ∈ ts, t ∈ vs)
    (ht : ∀ σ H Q, tT K W0 fc σ H Q → tt σ H Q) (he : ∀ σ H Q, tE K W0 fe σ H Q → te σ H Q) :
    ∀ σ H Q, tN K Wi (nComp vs fi g fc fe) σ H Q → tLc (tI K Wi fi) (tG K ts g) tt te vs σ H Q := by
  intro σ H Q q
  obtain ⟨F, G, E, as, st, p⟩ := q
  refine ⟨F, G, E, as, st, PoI.mono (fun J H1 m => ?_) (PoI.bindN p)⟩
  obtain ⟨ds, G1, E1, as1, s1, st1, jd, p1⟩ := m
  intro D0 hD
  have p1 : PoN K Wi F G1 σ Q (if vs.all (fun v => plainC E1[v]?) = true then compL vs g fc fe E1 ds [] E1 else .stuck) := p1
  by_cases hpl : vs.all (fun v => plainC E1[v]?) = true
  · rw [if_pos hpl] at p1
    have hpl' : ∀ v ∈ vs, plainC E1[v]? = true := List.all_eq_true.mp hpl
    have al0 : Al G1 H1 G1 (upd H1 D0 (.lst [])) := Al.grow st1.s1 fun b u q => by rw [upd_ne (ne_of_none q hD)]; exact q
    refine ⟨fun i m H => m = ds.length - i ∧ i ≤ ds.length ∧ ∃ acc av G2 E2 as2, Same G1 G2 ∧ StE K F G2 H σ E2 as2 ∧ H D0 = some (.lst av) ∧ DDs K G2 av acc ∧ G2 D0 = none ∧ (∀ j, D0 ∉ as2 j) ∧ av.length ≤ i ∧
      PoN K Wi F G2 σ Q (compL vs g fc fe E1 (ds.drop i) acc E2), ⟨ds.length, by simp, Nat.zero_le _, [], [], G1, E1, as1, Same.refl _, st1.al al0, upd_same, .nil, st1.s1.free hD, fun j hj => ?_, Nat.le_refl _, p1⟩, ?_⟩
    · obtain ⟨o, q⟩ := st1.there hj
      rw [hD] at q; cases q
    · rintro i m H ⟨rfl, hi, acc, av, G2, E2, as2, s2, st2, hd, dda, gD, nD, la, p2⟩
      have fD : F.H0 D0 = none := st1.dom D0 hD
      by_cases hlt : i < ds.length
      · refine .inr ⟨jd.go G2 H i s2 st2.s1 hlt, fun H' => i + 1 ≤ ds.length ∧ ∃ acc av G2 E2 as2, Same G1 G2 ∧ StE K F G2 H' σ E2 as2 ∧ H' D0 = some (.lst av) ∧ DDs K G2 av acc ∧ G2 D0 = none ∧ (∀ j, D0 ∉ as2 j) ∧ av.length ≤ i + 1 ∧
          PoN K Wi F G2 σ Q (compL vs g fc fe E1 (ds.drop (i + 1)) acc E2), fun H' z => ⟨ds.length - (i + 1), by omega, rfl, z⟩, fun x H' y => ?_⟩
        have hx : ds[i]? = some ds[i] := List.getElem?_eq_getElem hlt
        obtain ⟨G3, al, dd⟩ := jd.yld G2 H i _ x H' s2 st2.s1 hx y
        have st3 := st2.al al
        have hdr : ds.drop i = ds[i] :: ds.drop (i + 1) := List.drop_eq_getElem_cons hlt
        rw [hdr] at p2
        have p2 := PoN.up al.g p2
        obtain ⟨E4, e4, p4⟩ := PoN.of p2
        have gD3 : G3 D0 = none := by
          cases q : G3 D0 with
          | none => rfl
          | some u => exact absurd (al.new D0 _ (by rw [q]; exact fun z => nomatch z) gD hd) (fun z => nomatch z)
        have hd3 : H' D0 = some (.lst av) := al.h _ _ hd
        -- the turn, in a frame of its own
        have stw := st3.wipe vs
        have nDw : ∀ j, D0 ∉ dropA as2 vs j := by
          have key : ∀ us : List Nat, ∀ j, D0 ∉ dropA as2 us j := by
            intro us
            induction us with
            | nil => exact nD
            | cons v us ih =>
              intro j hj
              by_cases e : j = v
              · rw [dropA, e, drp_same] at hj; cases hj
              · rw [dropA, drp_ne e] at hj; exact ih j hj
          exact key vs
        have sti := stw.in_
        have nOwn : D0 ∉ own (dropA as2 vs) (wipeE E2 vs).length := fun z => by
          obtain ⟨j, hj⟩ := of_own z
          exact nDw j hj
        obtain ⟨a, ea, p5⟩ := PoN.noErr p4
        refine ⟨_, G3, wipeE E2 vs, dropA as2 vs, ds[i], sti, dd, E4, e4, fun σ4 as4 st4 k4 l4 => ⟨wipe_eq (fun j hj => k4 j fun z => hj (hts j z)) l4, ?_⟩⟩
        refine ht _ _ _ ⟨_, G3, E4, as4, st4, ?_⟩
        rw [ea]
        intro G5 H5 as5 s5 st5
        -- what stands behind an expression of the turn
        have hσ : ∀ j, j ∉ vs → σ4[j]? = σ[j]? := fun j hj => (k4 j fun z => hj (hts j z)).trans (wipe_get hj)
        have hlen : σ4.length = σ.length := l4.trans (wipe_length σ vs)
        have keepD : ∀ {G6 H6 : Hp} {E6 : Env} {as6 : Nat → List Addr}, StE K (inner G3 H' (dropA as2 vs) (wipeE E2 vs).length) G6 H6 σ4 E6 as6 → H6 D0 = some (.lst av) ∧ G6 D0 = none := fun {G6 H6 E6 as6} st6 => by
          refine ⟨st6.keep D0 _ hd3 nOwn, ?_⟩
          cases q : G6 D0 with
          | none => rfl
          | some u => exact absurd gD3 (st6.priv D0 _ (by rw [q]; exact fun z => nomatch z) hd3 rfl nOwn)
        have hcell : ∀ v ∈ vs, plainC E1[v]? = true ∧ ∀ d, E1[v]? = some (.dat d) → ∃ x, σ[v]? = some (some x) ∧ DD K G1 x d := fun v hv => ⟨hpl' v hv, fun d hd => by
          obtain ⟨x, e1, _, z, rfl, dd⟩ := st1.cell v _ hd
          exact ⟨z, e1, dd⟩⟩
        have backD : ∀ {G6 H6 : Hp} {E6 : Env} {as6 : Nat → List Addr}, Same G3 G6 → StE K (inner G3 H' (dropA as2 vs) (wipeE E2 vs).length) G6 H6 σ4 E6 as6 → ∃ as7, StE K F G6 H6 σ (backE E1 E6 vs) as7 ∧ ∀ j, D0 ∉ as7 j := fun {G6 H6 E6 as6} s6 st6 => by
          obtain ⟨as7, st7, h7⟩ := StE.back hcell ((s2.trans al.g).trans s6) (stw.out st6) hσ hlen
          refine ⟨as7, st7, fun j hj => ?_⟩
          obtain ⟨k, hk⟩ := h7 j D0 hj
          rcases (st6.off k D0 hk).2 with z | z
          · have z : H' D0 = none := z
            rw [hd3] at z; cases z
          · exact nOwn z
        obtain ⟨b, E5⟩ := a
        cases b with
        | true =>
          rw [if_pos rfl]
          have p5 : PoN K Wi F G3 σ Q ((DL.noErr (fe E5)).bind fun q => (ofO (asDat q.1)).bind fun y => compL vs g fc fe E1 (ds.drop (i + 1)) (acc ++ [y]) (backE E1 q.2 vs)) := p5
          obtain ⟨q, eq, p6⟩ := PoN.noErr p5
          obtain ⟨w, E6⟩ := q
          refine he _ _ _ ⟨_, G5, E5, as5, st5, ?_⟩
          rw [eq]
          intro v G7 H7 as7 s7 st7 wo7
          cases w with
          | own j => exact p6.elim
          | dat y =>
            obtain ⟨hD7, gD7⟩ := keepD st7
            obtain ⟨as8, st8, n8⟩ := backD (s5.trans s7) st7
            refine ⟨av, hD7, Nat.lt_of_le_of_lt la (Nat.lt_of_lt_of_le hlt jd.le), hlt, acc ++ [y], av ++ [v], G7, backE E1 E6 vs, as8, ((s2.trans al.g).trans s5).trans s7, st8.wr gD7 fD n8 (by rw [hD7]; exact fun z => nomatch z), upd_same, (dda.up ((al.g.trans s5).trans s7)).app (.one wo7), gD7, n8, by rw [List.length_append]; exact Nat.succ_le_succ la, ?_⟩
            exact PoN.up (s5.trans s7) p6
        | false =>
          rw [if_neg Bool.false_ne_true]
          have p5 : PoN K Wi F G3 σ Q (compL vs g fc fe E1 (ds.drop (i + 1)) acc (backE E1 E5 vs)) := p5
          obtain ⟨hD7, gD7⟩ := keepD st5
          obtain ⟨as8, st8, n8⟩ := backD s5 st5
          exact ⟨hlt, acc, av, G5, backE E1 E5 vs, as8, (s2.trans al.g).trans s5, st8, hD7, dda.up (al.g.trans s5), gD7, n8, Nat.le_succ_of_le la, PoN.up s5 p5⟩
      · have e : i = ds.length := by omega
        subst e
        refine .inl ⟨jd.stop G2 H s2 st2.s1, ?_⟩
        rw [List.drop_length] at p2
        exact p2 D0 G2 H as2 (Same.refl _) st2 gD fD nD ⟨av, hd, Nat.le_trans la jd.le, dda⟩
  · rw [if_neg hpl] at p1; exact p1.elim
end DL
namespace DL
open PySem PySem.Spec PyProof.Rows L2

abbrev DQs (X : Cx) (ifs : List Expr) (f : BF) : Prop := PTs X ifs (tT X.K W0 f)
theorem PTs.imp {X : Cx} {e : List Expr} {t t' : TT} (h : PTs X e t) (i : ∀ σ H Q, t' σ H Q → t σ H Q) : PTs X e t' :=
  ⟨fun pins s σ H Q I q => h.run pins s σ H Q I (i σ H Q q)⟩
theorem dts_nil {X : Cx} : DQs X [] tYes' := PTs.imp pts_nil fun σ H Q q => by
  obtain ⟨F, G, E, as, st, p⟩ := q
  exact p G H as (Same.refl _) st
theorem dts_one {X : Cx} {c : Expr} {f : BF} (h : DT X W0 c f) : DQs X [c] f := pts_one h
section
variable {X : Cx} {Wi : Wish} {elt tg iter : Expr} {ifs : List Expr} {scope : Scope} {own : List (Str × Nat)} {pos spos py : Pos} {fi : IF} {g : GF} {ts : List Nat} {fc : BF} {fe : EF}
theorem dn_comp (hc : X.calm = true) (hN : X.N.Nodup) (hi : DI X Wi tg iter fi) (ok : BlkOk X.N X.env.scope scope own)
    (hg : ∀ (s : Shared) (H : Hp) (C : Addr) (cl : List (Str × Addr)) (fp : List Addr), DG (X.blk s H scope (compEnvC scope cl C X.env) fp) tg ts g)
    (ht : ∀ (s : Shared) (H : Hp) (C : Addr) (cl : List (Str × Addr)) (fp : List Addr), DQs (X.blk s H scope (compEnvC scope cl C X.env) fp) ifs fc)
    (he : ∀ (s : Shared) (H : Hp) (C : Addr) (cl : List (Str × Addr)) (fp : List Addr), DE (X.blk s H scope (compEnvC scope cl C X.env) fp) W0 elt fe)
    (hts : ∀ t ∈ ts, t ∈ own.map (·.2) := by decide) (hs : ∀ x, foldedSetIterable iter X.env x = pure x := by intro _; rfl) :
    DN X Wi (.ListComp elt [⟨tg, iter, ifs, 0⟩] scope pos) (nComp (own.map (·.2)) fi g fc fe) :=
  PE.imp (pe_lc hc hN hi ok hg ht he hs) (tLc_of hts (fun _ _ _ q => q) fun _ _ _ q => q)
/-- .. as data -/
theorem ds_setC {i : Nat} {y : Str} (hc : X.calm = true) (hN : X.N.Nodup) (hy : X.N[i]? = some y) (hyl : X.env.scope.names.lookup y = some .local)
    (hsw : swapsWith (.ListComp elt [⟨tg, iter, ifs, 0⟩] scope pos) (some (.Name y py)) spos.line X.env = pure true) (hi : DI X Wi tg iter fi) (ok : BlkOk X.N X.env.scope scope own)
    (hg : ∀ (s : Shared) (H : Hp) (C : Addr) (cl : List (Str × Addr)) (fp : List Addr), DG (X.blk s H scope (compEnvC scope cl C X.env) fp) tg ts g)
    (ht : ∀ (s : Shared) (H : Hp) (C : Addr) (cl : List (Str × Addr)) (fp : List Addr), DQs (X.blk s H scope (compEnvC scope cl C X.env) fp) ifs fc)
    (he : ∀ (s : Shared) (H : Hp) (C : Addr) (cl : List (Str × Addr)) (fp : List Addr), DE (X.blk s H scope (compEnvC scope cl C X.env) fp) W0 elt fe)
    (hts : ∀ t ∈ ts, t ∈ own.map (·.2) := by decide) (hs : ∀ x, foldedSetIterable iter X.env x = pure x := by intro _; rfl) :
    DS X Wi (.Assign [.Name y py] (.ListComp elt [⟨tg, iter, ifs, 0⟩] scope pos) spos) (sSet i (eN (nComp (own.map (·.2)) fi g fc fe))) :=
  PS.imp (ps_setLc hc hN hy hyl hsw hi ok hg ht he hs) (tAsg_of fun σ H Q q => by
    obtain ⟨F, G, E, as, st, p⟩ := q
    exact tLc_of hts (fun _ _ _ q => q) (fun _ _ _ q => q) σ H Q ⟨F, G, E, as, st, PoN.po p⟩)
end

/-- a def that is called where no repr is under way -/
structure FnG (P : Program) (w : World) (K : PySem.W.Frag) (mg : Str → Option Value) (base : Heap) (CX : CXT) (k : Nat) (f : Addr) (fd : FuncData) (ps : List Str) (sp : Sp) : Prop where
  len : ∀ vs H Q E, sp vs H Q E → vs.length = ps.length
  go : ∀ (A : Around) (outer : List PySem.Env) (s : Shared) (H : Hp) (args : Args) (us : List Value) (vs : List V) (Q : VK) (E : XK), A.guards = some [] → Room k A → Env0 P w K mg base A outer s H →
    BindsTo s fd args (ps.zip us) → Vals vs us → sp vs H Q E → codeAny (model P w) A (.call (.ref f) args) (CR CX outer P w H s Q E) s
section
variable {P : Program} {w : World} {K : PySem.W.Frag} {mg : Str → Option Value} {base : Heap} {CX : CXT} {k j : Nat} {f : Addr} {fd : FuncData} {ps : List Str} {sp sp' : Sp}
theorem FnG.of (F : FnOk P w K mg base CX k f fd ps sp) : FnG P w K mg base CX k f fd ps sp := ⟨F.len, fun A outer s H args us vs Q E _ hr => F.run A outer s H args us vs Q E hr⟩
theorem FnG.mono (F : FnG P w K mg base CX j f fd ps sp) (h : j ≤ k) : FnG P w K mg base CX k f fd ps sp := ⟨F.len, fun A outer s H args us vs Q E hg hr => F.go A outer s H args us vs Q E hg (hr.mono h)⟩
theorem FnG.imp (F : FnG P w K mg base CX k f fd ps sp) (h : ∀ vs H Q E, sp' vs H Q E → sp vs H Q E) : FnG P w K mg base CX k f fd ps sp' :=
  ⟨fun vs H Q E q => F.len vs H Q E (h _ _ _ _ q), fun A outer s H args us vs Q E hg hr he hb hv hs => F.go A outer s H args us vs Q E hg hr he hb hv (h _ _ _ _ hs)⟩
/-- by the body -/
theorem FnG.body {x qual : Str} {st : Stmt} {N : List Str} (F : Fun K x qual st f fd) (S : FnScope N ps (defScope st)) (len : ∀ vs H Q E, sp vs H Q E → vs.length = ps.length)
    (hb : ∀ (cdv : Value) (A : Around) (outer : List PySem.Env) (s : Shared) (H : Hp) (vs : List V) (Q : VK) (E : XK), A.guards = some [] → Room k (A.deeper (envOfC qual (defScope st) s.heap.objs.size f cdv)) → sp vs H Q E →
      ∃ t, PSs (cxOf CX P w K mg base N qual (defScope st) f cdv A outer s H E) (defBody st) t ∧ t { nx := fun _ H' => Q .non H', rt := Q } (L2.start N vs) H) : FnG P w K mg base CX (k + 1) f fd ps sp := by
  obtain ⟨oc, od, kV, doc, pm, an, cdv, ct, osl, rfl, lk, hcd⟩ := F.ex
  constructor
  · exact len
  intro A outer s H args us vs Q E hg hr e0 bt r hsp
  have KX : K.In s.heap := e0.mod.kin.keeps fun b o e => (e0.bs b o e).1
  have lim : s.heap.NoLimit := e0.mod.nolimit.keeps fun b o e => (e0.bs b o e).1
  have kinds : ∀ y ∈ ps.zip us, (defScope st).names.lookup y.1 = some .local ∨ ((defScope st).names.lookup y.1 = some .cell ∧ ((cellsFrom (s.heap.objs.size + 1) (defScope st).names []).lookup y.1).isSome = true) := by
    rintro ⟨n, v⟩ hy
    cases S.par n (List.of_mem_zip hy).1 with
    | inl q => exact .inl q
    | inr q => exact .inr ⟨q, PySem.W.cellsFrom_some _ _ _ (.inl q)⟩
  refine codeAny_call_function hr.depth (KX _ _ lk) rfl S.co S.gen rfl (PySem.W.codeRec_of KX hcd) (bt _ _ _ _ (wpAny_newFunctionEnv_cells S.kind kinds fun env he s1 x => ?_))
  subst he
  obtain ⟨t, ht, hq⟩ := hb cdv A outer s H vs Q E hg (hr.deeper _) hsp
  refine ⟨lim.keeps x.toInCall.keep, codeAny_func (wpAny_mono (ht.run [] s1 (L2.start N vs) H _ (inv_start S hr.hd e0 (len _ _ _ _ hsp) r x) hq) (fun fl s' hs => ?_) fun e s' hs => hs)⟩
  cases fl with
  | ret u =>
    obtain ⟨v, σ', H', J, rv, q⟩ := hs
    exact ⟨v, H', J.os, J.bare, J.base, J.hok, rv, q⟩
  | next =>
    obtain ⟨σ', H', J, q⟩ := hs
    exact ⟨V.non, H', J.os, J.bare, J.base, J.hok, rfl, q⟩
  | brk =>
    obtain ⟨_, _, _, q⟩ := hs
    exact q.elim
  | cont =>
    obtain ⟨_, _, _, q⟩ := hs
    exact q.elim
end

/-- a promise over data: the mirror fm -/
def spP (K : PySem.W.Frag) (n : Nat) (fm : List D → Res D) : Sp := fun vs H Q E => ∃ G ds, Same G H ∧ DDs K G vs ds ∧ ds.length = n ∧ match fm ds with
  | .ok d => Rz K G H Q d
  | .err x _ => ∀ c dx G' H', Al G H G' H' → ExOk K G' x c dx → E c dx H'
  | .stuck => False
structure Dk where
  l : List Int
  b : Int
/-- the answer of a def that draws -/
def KRz (K : PySem.W.Frag) (G H : Hp) (a q : Addr) (Q : VK) : Res (D × Dk) → Prop
  | .ok (d, k') => ∀ v G' H', Same G G' → Same G' H' → (∀ b o, H b = some o → b ≠ a → b ≠ q → H' b = some o) → (∀ b o, G' b ≠ none → H b = some o → isT o = false → b ≠ a → b ≠ q → G b ≠ none) → G' a = none → G' q = none → DeckAt H' a q k'.l k'.b → DD K G' v d → Q v H'
  | _ => False
/-- .. whose first argument is the deck -/
def spK (K : PySem.W.Frag) (n : Nat) (fm : Addr → Addr → Dk → List D → Res (D × Dk)) : Sp := fun vs H Q E => ∃ G a q k vr ds, vs = .ref a :: vr ∧ Same G H ∧ G a = none ∧ G q = none ∧ DeckAt H a q k.l k.b ∧ DDs K G vr ds ∧ ds.length = n ∧
  KRz K G H a q Q (fm a q k ds)

def nos (n : Nat) : Env := List.replicate n .no
/-- what a body hands back -/
def outF : Res (Fl × Env) → Res D
  | .ok (.rt d, _) => .ok d
  | .ok (.nx, _) => .ok .non
  | .err x _ => .err x []
  | _ => .stuck
def deckOf (E : Env) : Option (Addr × Addr × Dk) := match E.head? with
  | some (Cell.deck a q l b) => some (a, q, ⟨l, b⟩)
  | _ => none
def outD (a q : Addr) (d : D) (E : Env) : Res (D × Dk) := (ofO (deckOf E)).bind fun z => if z.1 = a ∧ z.2.1 = q then .ok (d, z.2.2) else .stuck
def outK (a q : Addr) : Res (Fl × Env) → Res (D × Dk)
  | .ok (.rt d, E) => outD a q d E
  | .ok (.nx, E) => outD a q .non E
  | _ => .stuck
theorem outD_ok {K : PySem.W.Frag} {G H : Hp} {Q : VK} {a q : Addr} {d : D} {E : Env} (h : KRz K G H a q Q (outD a q d E)) : ∃ l b, E[0]? = some (.deck a q l b) ∧ KRz K G H a q Q (.ok (d, ⟨l, b⟩)) := by
  unfold outD deckOf at h
  cases E with
  | nil => exact h.elim
  | cons c r =>
    cases c with
    | deck a' q' l b =>
      have h : KRz K G H a q Q (if a' = a ∧ q' = q then Res.ok (d, (⟨l, b⟩ : Dk)) else .stuck) := h
      by_cases hq : a' = a ∧ q' = q
      · rw [if_pos hq] at h
        obtain ⟨h1, h2⟩ := hq
        rw [h1, h2]
        exact ⟨l, b, rfl, h⟩
      · rw [if_neg hq] at h; exact h.elim
    | no => exact h.elim
    | dat _ => exact h.elim
    | own _ => exact h.elim
    | slf _ _ => exact h.elim
    | cls _ => exact h.elim
def runP (fb : SF) (n : Nat) (ds : List D) : Res D := outF (fb (ds.map .dat ++ nos n))
def runK (fb : SF) (n : Nat) (a q : Addr) (k : Dk) (ds : List D) : Res (D × Dk) := outK a q (fb (.deck a q k.l k.b :: ds.map .dat ++ nos n))

section
variable {K : PySem.W.Frag} {G H : Hp}
theorem DDs.cell : ∀ {vs : List V} {ds : List D} {i : Nat} {c : Cell}, DDs K G vs ds → (ds.map Cell.dat)[i]? = some c → ∃ v d, vs[i]? = some v ∧ c = .dat d ∧ DD K G v d
  | vs, ds, i, c, h, e => by
    rw [List.getElem?_map] at e
    cases q : ds[i]? with
    | none => rw [q] at e; cases e
    | some d =>
      rw [q] at e
      obtain ⟨v, e1, dd⟩ := h.get q
      exact ⟨v, d, e1, (Option.some.inj e).symm, dd⟩
theorem start_get {N : List Str} {vs : List V} {i : Nat} {v : V} (h : vs[i]? = some v) : (L2.start N vs)[i]? = some (some v) := by
  unfold L2.start
  have hi := (List.getElem?_eq_some_iff.mp h).1
  rw [List.getElem?_append_left (by simpa using hi), List.getElem?_map, h]; rfl
theorem start_len {N : List Str} {vs : List V} (h : vs.length ≤ N.length) : (L2.start N vs).length = N.length := by
  unfold L2.start
  rw [List.length_append, List.length_map, List.length_replicate]; omega
theorem StE.start {N : List Str} {vs : List V} {ds : List D} {n : Nat} (s : Same G H) (dd : DDs K G vs ds) (hn : ds.length + n = N.length) : StE K ⟨H, G, []⟩ G H (L2.start N vs) (ds.map .dat ++ nos n) fun _ => [] := by
  have hl : vs.length = ds.length := dd.len
  refine ⟨by rw [start_len (by omega), List.length_append, List.length_map]; unfold nos; rw [List.length_replicate]; omega, Same.refl _, s, fun _ _ h _ => h, fun _ h => h, fun _ _ h _ _ _ => h, fun i c e => ?_, fun _ _ _ h => (by cases h), fun _ _ h => (by cases h), fun _ _ => rfl⟩
  by_cases hi : i < ds.length
  · rw [List.getElem?_append_left (by simpa using hi)] at e
    obtain ⟨v, d, e1, rfl, dd'⟩ := dd.cell e
    exact ⟨_, start_get e1, rfl, v, rfl, dd'⟩
  · rw [List.getElem?_append_right (by simpa using hi)] at e
    have hc : c = .no := by
      unfold nos at e
      rw [List.getElem?_replicate] at e
      split at e
      · exact (Option.some.inj e).symm
      · cases e
    subst hc
    have hb : i < N.length := by
      have := (List.getElem?_eq_some_iff.mp e).1
      unfold nos at this
      rw [List.length_replicate, List.length_map] at this; omega
    exact ⟨_, List.getElem?_eq_getElem (by rw [start_len (by omega)]; exact hb), rfl⟩
theorem StE.startK {N : List Str} {vs : List V} {ds : List D} {n : Nat} {a q : Addr} {k : Dk} (s : Same G H) (ga : G a = none) (gq : G q = none) (dk : DeckAt H a q k.l k.b) (dd : DDs K G vs ds) (hn : ds.length + 1 + n = N.length) :
    StE K ⟨H, G, [a, q]⟩ G H (L2.start N (.ref a :: vs)) (.deck a q k.l k.b :: ds.map .dat ++ nos n) fun i => if i = 0 then [a, q] else [] := by
  have hl : vs.length = ds.length := dd.len
  refine ⟨?_, Same.refl _, s, fun _ _ h _ => h, fun _ h => h, fun _ _ h _ _ _ => h, fun i c e => ?_, fun i j b h1 h2 => ?_, fun i b h => ?_, fun i h => ?_⟩
  · rw [start_len (by simp only [List.length_cons]; omega), List.length_append, List.length_cons, List.length_map]; unfold nos; rw [List.length_replicate]; omega
  · cases i with
    | zero =>
      cases e
      exact ⟨_, start_get (v := .ref a) rfl, rfl, rfl, dk⟩
    | succ i =>
      have e : (ds.map Cell.dat ++ nos n)[i]? = some c := e
      by_cases hi : i < ds.length
      · rw [List.getElem?_append_left (by simpa using hi)] at e
        obtain ⟨v, d, e1, rfl, dd'⟩ := dd.cell e
        exact ⟨_, start_get (v := v) e1, rfl, v, rfl, dd'⟩
      · rw [List.getElem?_append_right (by simpa using hi)] at e
        have hc : c = .no := by
          unfold nos at e
          rw [List.getElem?_replicate] at e
          split at e
          · exact (Option.some.inj e).symm
          · cases e
        subst hc
        have hb : i + 1 < N.length := by
          have := (List.getElem?_eq_some_iff.mp e).1
          unfold nos at this
          rw [List.length_replicate, List.length_map] at this; omega
        exact ⟨_, List.getElem?_eq_getElem (by rw [start_len (by simp only [List.length_cons]; omega)]; exact hb), rfl⟩
  · by_cases hi : i = 0
    · by_cases hj : j = 0
      · rw [hi, hj]
      · rw [if_neg hj] at h2; cases h2
    · rw [if_neg hi] at h1; cases h1
  · by_cases hi : i = 0
    · rw [if_pos hi] at h
      refine ⟨?_, .inr h⟩
      rcases List.mem_cons.mp h with z | z
      · rw [z]; exact ga
      · rw [List.mem_singleton.mp z]; exact gq
    · rw [if_neg hi] at h; cases h
  · have : i ≠ 0 := fun z => by subst z; simp at h
    rw [if_neg this]
end

section
variable {P : Program} {w : World} {K : PySem.W.Frag} {mg : Str → Option Value} {base : Heap} {k : Nat} {f : Addr} {fd : FuncData} {ps N : List Str} {x qual : Str} {st : Stmt} {fb : SF}
theorem spP_len {n : Nat} {fm : List D → Res D} (hn : n = ps.length) : ∀ vs H Q E, spP K n fm vs H Q E → vs.length = ps.length := fun vs H Q E h => by
  obtain ⟨G, ds, _, dd, e, _⟩ := h
  rw [dd.len, e, hn]
theorem spK_len {n : Nat} {fm : Addr → Addr → Dk → List D → Res (D × Dk)} (hn : n + 1 = ps.length) : ∀ vs H Q E, spK K n fm vs H Q E → vs.length = ps.length := fun vs H Q E h => by
  obtain ⟨G, a, q, k, vr, ds, rfl, _, _, _, _, dd, e, _⟩ := h
  rw [List.length_cons, dd.len, e, hn]
/-- no exception leaves the def -/
theorem fn_P (F : Fun K x qual st f fd) (S : FnScope N ps (defScope st)) (n : Nat) (hn : ps.length + n = N.length)
    (hb : ∀ (cdv : Value) (A : Around) (outer : List PySem.Env) (s : Shared) (H : Hp) (E : XK), A.guards = some [] → Room k (A.deeper (envOfC qual (defScope st) s.heap.objs.size f cdv)) →
      DSs (cxOf CX0 P w K mg base N qual (defScope st) f cdv A outer s H E).nox W0 (defBody st) fb) : FnG P w K mg base CX0 (k + 1) f fd ps (spP K ps.length fun ds => noErr (runP fb n ds)) := by
  refine FnG.body F S (spP_len rfl) fun cdv A outer s H vs Q E hg hr hsp => ?_
  obtain ⟨G, ds, sm, dd, hl, q⟩ := hsp
  refine ⟨_, PSs.nox (hb cdv A outer s H E hg hr), ⟨H, G, []⟩, G, _, _, StE.start sm dd (n := n) (by omega), ?_⟩
  have done : ∀ {d : D}, Rz K G H Q d → ∀ v σ' G' H' as' E', Same G G' → StE K ⟨H, G, []⟩ G' H' σ' E' as' → DD K G' v d → Q v H' := fun {d} z v σ' G' H' as' E' s1 st1 dd1 =>
    z v G' H' ⟨s1, fun b o h => st1.keep b o h (fun z => by cases z), st1.s1, fun b o h e hb => (by
      cases ht : isT o with
      | true => rfl
      | false => exact absurd e (st1.priv b o h hb ht (fun z => by cases z)))⟩ dd1
  have q : (match noErr (outF (fb (ds.map .dat ++ nos n))) with
    | .ok d => Rz K G H Q d
    | .err x _ => ∀ c dx G' H', Al G H G' H' → ExOk K G' x c dx → E c dx H'
    | .stuck => False) := q
  show PoS K W0 ⟨H, G, []⟩ G _ (fb (ds.map .dat ++ nos n))
  generalize fb (ds.map .dat ++ nos n) = r at q ⊢
  match r, q with
  | .ok (.rt d, E'), q => exact fun v σ' G' H' as' s1 st1 dd1 => done q v σ' G' H' as' E' s1 st1 dd1
  | .ok (.nx, E'), q => exact fun σ' G' H' as' s1 st1 => done q .non σ' G' H' as' E' s1 st1 .non
  | .ok (.bk, E'), q => exact q.elim
  | .ok (.ct, E'), q => exact q.elim
  | .err x E', q => exact q.elim
theorem fn_K (F : Fun K x qual st f fd) (S : FnScope N ps (defScope st)) (m n : Nat) (hm : m + 1 = ps.length) (hn : ps.length + n = N.length)
    (hb : ∀ (cdv : Value) (A : Around) (outer : List PySem.Env) (s : Shared) (H : Hp) (E : XK), A.guards = some [] → Room k (A.deeper (envOfC qual (defScope st) s.heap.objs.size f cdv)) →
      DSs (cxOf CX0 P w K mg base N qual (defScope st) f cdv A outer s H E).nox W0 (defBody st) fb) : FnG P w K mg base CX0 (k + 1) f fd ps (spK K m (runK fb n)) := by
  refine FnG.body F S (spK_len hm) fun cdv A outer s H vs Q E hg hr hsp => ?_
  obtain ⟨G, a, q, k0, vr, ds, rfl, sm, ga, gq, dk, dd, hl, z⟩ := hsp
  refine ⟨_, PSs.nox (hb cdv A outer s H E hg hr), ⟨H, G, [a, q]⟩, G, _, _, StE.startK sm ga gq dk dd (n := n) (by omega), ?_⟩
  have done : ∀ {d : D} {E' : Env}, KRz K G H a q Q (outD a q d E') → ∀ v σ' G' H' as', Same G G' → StE K ⟨H, G, [a, q]⟩ G' H' σ' E' as' → DD K G' v d → Q v H' := fun {d E'} z v σ' G' H' as' s1 st1 dd1 => by
    obtain ⟨l, b, e, z⟩ := outD_ok z
    obtain ⟨u, e1, ea, _, dk'⟩ := st1.cell 0 _ e
    have nin : ∀ b, b ≠ a → b ≠ q → b ∉ [a, q] := fun b h1 h2 h => by
      rcases List.mem_cons.mp h with y | y
      · exact h1 y
      · exact h2 (List.mem_singleton.mp y)
    exact z v G' H' s1 st1.s1 (fun b o h h1 h2 => st1.keep b o h (nin b h1 h2)) (fun b o h h0 ht h1 h2 => st1.priv b o h h0 ht (nin b h1 h2)) (st1.off 0 a (by rw [ea]; simp)).1 (st1.off 0 q (by rw [ea]; simp)).1 dk' dd1
  have z : KRz K G H a q Q (outK a q (fb (.deck a q k0.l k0.b :: ds.map .dat ++ nos n))) := z
  show PoS K W0 ⟨H, G, [a, q]⟩ G _ (fb (.deck a q k0.l k0.b :: ds.map .dat ++ nos n))
  generalize fb (.deck a q k0.l k0.b :: ds.map .dat ++ nos n) = r at z ⊢
  match r, z with
  | .ok (.rt d, E'), z => exact fun v σ' G' H' as' s1 st1 dd1 => done (d := d) z v σ' G' H' as' s1 st1 dd1
  | .ok (.nx, E'), z => exact fun σ' G' H' as' s1 st1 => done (d := .non) z .non σ' G' H' as' s1 st1 .non
  | .ok (.bk, E'), z => exact z.elim
  | .ok (.ct, E'), z => exact z.elim
  | .err x E', z => exact z.elim
end
end DL
namespace DL
open PySem PySem.Spec PyProof.Rows L2

/-- what leaves a callee reaches what is wished for here -/
def PassW (CX : CXT) (X : Cx) (Wi : Wish) : Prop := ∀ (σ : L2.St) (pins : List (Addr × Obj)) (H : Hp) (s : Shared) (e : Value) (s' : Shared), Inv X pins σ H s → CX X.stack H s (Wi σ) e s' → X.xe e s'
theorem passW0 {X : Cx} {Wi : Wish} : PassW CX0 X Wi := fun _ _ _ _ _ _ _ h => h.elim
def CallEnd (X : Cx) (pins : List (Addr × Obj)) (σ : L2.St) (Q : VK) (r : Result) (s' : Shared) : Prop := match r with
  | .ok (.ret u) => EP X pins σ Q u s'
  | .ok _ => False
  | .error e => X.xe e s'
section
variable {X : Cx} {CX : CXT} {k : Nat} {f C : Addr} {fd : FuncData} {ps ks : List Str} {sp : Sp} {Wi : Wish} {σ : L2.St} {pins : List (Addr × Obj)} {H : Hp} {s : Shared} {Q : VK} {us : List Value} {vs : List V}
theorem ends_of (hx : PassW CX X Wi) (I : Inv X pins σ H s) {r : Result} {s' : Shared} (hq : CR CX X.stack X.prog X.w H s Q (Wi σ) r s') : CallEnd X pins σ Q r s' := by
  cases r with
  | error e => exact hx σ pins H s e s' I hq
  | ok fl =>
    cases fl with
    | ret u => exact I.after hq
    | next => exact hq.elim
    | brk => exact hq.elim
    | cont => exact hq.elim
theorem call_go (F : FnG X.prog X.w X.K X.mg X.base CX k f fd ps sp) (hg : X.A.guards = some []) (hr : Room k X.A) (hx : PassW CX X Wi) (I : Inv X pins σ H s) {args : Args} (hb : BindsTo s fd args (ps.zip us)) (r : Vals vs us) (h : sp vs H Q (Wi σ)) :
    codeAny (model X.prog X.w) X.A (.call (.ref f) args) (CallEnd X pins σ Q) s :=
  codeAny_mono (F.go X.A X.stack s H args us vs Q (Wi σ) hg hr I.env0 hb r h) fun _ _ hq => ends_of hx I hq
theorem code_call {f : Value} {us : List Value} {kw : List (Str × Value)} (h : codeAny (model X.prog X.w) X.A (.call f ⟨us, kw⟩) (CallEnd X pins σ Q) s) : wpAny (model X.prog X.w) X.A (call f us kw) (EP X pins σ Q) X.xe s := by
  refine wpAny_call (codeAny_mono h fun r s' hq => ?_)
  cases r with
  | error e => exact hq
  | ok fl =>
    cases fl with
    | ret u => exact hq
    | next => exact hq.elim
    | brk => exact hq.elim
    | cont => exact hq.elim
theorem make_guards {A : Around} {C : Addr} {us : List Value} {kw : List (Str × Value)} (hg : A.guards = some []) : (A.under (.builtin "type.__call__" ⟨.ref C :: us, kw⟩)).guards = some [] := by
  have e : (Code.builtin "type.__call__" ⟨.ref C :: us, kw⟩).guards = [] := if_neg (by simp [Code.isGuard, guardIds])
  show pushGuards (Code.builtin "type.__call__" ⟨.ref C :: us, kw⟩).guards A.guards = some []
  rw [e, hg]; rfl
/-- a call by place -/
theorem run_F (F : FnG X.prog X.w X.K X.mg X.base CX k f fd ps sp) (hg : X.A.guards = some []) (hr : Room k X.A) (hb : Binds X.K fd ps []) (hx : PassW CX X Wi) (I : Inv X pins σ H s) (r : Vals vs us) (h : sp vs H Q (Wi σ)) :
    wpAny (model X.prog X.w) X.A (call (.ref f) us) (EP X pins σ Q) X.xe s := by
  have hl : us.length = ps.length := by rw [← r.length]; exact F.len _ _ _ _ h
  have b := hb s us I.kIn (by rw [List.append_nil]; exact hl)
  rw [List.append_nil] at b
  exact code_call (call_go F hg hr hx I b r h)
/-- an instance is made -/
theorem run_M (M : Mk X.K C f) (F : FnG X.prog X.w X.K X.mg X.base CX k f fd ps sp) (hg : X.A.guards = some []) (hr : Room (k + 1) X.A) (hb : Binds X.K fd ps []) (hx : PassW CX X Wi) (I : Inv X pins σ H s) (r : Vals vs us)
    (h : ∀ x dx, H x = none → H dx = none → dx ≠ x → sp (.ref x :: vs) (upd (upd H dx (.own x)) x (.ins C dx [])) (fun v H2 => v = .non ∧ Q (.ref x) H2) (Wi σ)) :
    wpAny (model X.prog X.w) X.A (call (.ref C) us) (EP X pins σ Q) X.xe s := by
  have hq := h (s.heap.objs.size + 1) s.heap.objs.size (I.hok.fresh (Nat.le_succ _)) (I.hok.fresh (Nat.le_refl _)) (Nat.ne_of_lt (Nat.lt_succ_self _))
  have I2 := Inv.made (C := C) I
  have r2 : Vals (V.ref (s.heap.objs.size + 1) :: vs) (Value.ref (s.heap.objs.size + 1) :: us) := .cons rfl r
  have hl : (Value.ref (s.heap.objs.size + 1) :: us).length = ps.length := r2.length.symm.trans (F.len _ _ _ _ hq)
  have b := hb _ (Value.ref (s.heap.objs.size + 1) :: us) I2.kIn (by rw [List.append_nil]; exact hl)
  rw [List.append_nil] at b
  refine wpAny_call (make_map (f := f) I.kIn M.makes M.init (beq_iff_eq.mp M.fn) (codeAny_mono (F.go _ X.stack _ _ _ _ _ _ (Wi σ) (make_guards hg) (hr.make C us []) (I2.env0.make C us []) b r2 hq) fun r s' hq' => ?_))
  have z := ends_of hx I2 hq'
  cases r with
  | error e => exact z
  | ok fl =>
    cases fl with
    | ret u =>
      obtain ⟨v, H', I3, rv, ev, q3⟩ := z
      subst ev
      exact ⟨rv, ⟨V.ref (s.heap.objs.size + 1), H', I3, rfl, q3⟩⟩
    | next => exact z.elim
    | brk => exact z.elim
    | cont => exact z.elim
end

/-- what a call by the mirror's answer r leaves -/
def ret (r : Res D) (E : Env) : Res (W × Env) := match r with
  | .ok d => .ok (.dat d, E)
  | .err x _ => .err x E
  | .stuck => .stuck
def eF (n : Nat) (fm : List D → Res D) (fs : AF) : EF := fun E => (fs E).bind fun p => (ofO (dats p.1)).bind fun ds => if ds.length = n then ret (fm ds) p.2 else .stuck
section
variable {K : PySem.W.Frag} {Wi : Wish} {F : Fr} {G H : Hp} {σ : L2.St} {E : Env} {as : Nat → List Addr} {Q : VK}
theorem spP_of {n : Nat} {fm : List D → Res D} {vs : List V} {ds : List D} (st : StE K F G H σ E as) (dd : DDs K G vs ds) (hn : ds.length = n) (p : Po K Wi F G σ Q (ret (fm ds) E)) : spP K n fm vs H Q (Wi σ) := by
  refine ⟨G, ds, st.s1, dd, hn, ?_⟩
  unfold ret at p
  generalize fm ds = r at p ⊢
  match r, p with
  | .ok d, p => exact Po.rz st p
  | .err x _, p => exact fun c dx G' H' al xo => p c dx G' H' as al.g (st.al al) xo
end
def tCallG (sp : Sp) (Wi : Wish) (t : TA) : TE := fun σ H Q => t σ H fun vs H1 => sp vs H1 Q (Wi σ)
section
variable {X : Cx} {CX : CXT} {k n : Nat} {f C : Addr} {fd : FuncData} {ps ks : List Str} {Wi : Wish} {x m : Str} {p pos apos : Pos} {e o : Expr} {es : List Expr} {fs : AF} {fo : EF} {fm : List D → Res D} {sp : Sp} {t : TA}
theorem tCallG_of : ∀ σ H Q, tE X.K Wi (eF n fm fs) σ H Q → tCallG (spP X.K n fm) Wi (tA X.K Wi fs) σ H Q := by
  intro σ H Q q
  obtain ⟨F, G, E, as, st, p⟩ := q
  refine ⟨F, G, E, as, st, PoA.mono (fun vs H1 m => ?_) (PoA.bind p)⟩
  obtain ⟨ws, G1, E1, as1, s1, st1, wo1, p1⟩ := m
  obtain ⟨ds, e1, p1⟩ := Po.of p1
  by_cases hn : ds.length = n
  · rw [if_pos hn] at p1
    exact spP_of st1 (dats_ok wo1 e1) hn p1
  · rw [if_neg hn] at p1; exact p1.elim
/-- f(e, ..) -/
theorem pe_F (F : FnG X.prog X.w X.K X.mg X.base CX k f fd ps sp) (hg : X.A.guards = some []) (hr : Room k X.A) (gl : Gl X x) (hm : X.mg x = some (.ref f)) (hk : PySem.W.keepIn X.K (.ref f) = true) (hb : Binds X.K fd ps []) (hx : PassW CX X Wi)
    (ha : PA X (e :: es) t) (hdb : (x == ("__debug__" : Str)) = false := by decide) (he : starEach (e :: es) X.env = (false, eval e X.env) :: starEach es X.env := by rfl) (hpl : (backTo pos (starEach es X.env)).any (·.1) = false := by rfl) :
    PE X (.Call (.Name x p) (e :: es) [] pos) (tCallG sp Wi t) := ⟨fun pins s σ H Q I h =>
  wpAny_Call_Name_kw (ld_glob I gl hm (PySem.W.callWith_K (h₀ := X.base) I.ok.mod.kin hk (thn (ha.run pos pins s σ H _ I h) fun us s1 ⟨vs, H1, I1, r, q⟩ => ⟨I1.kIn, run_F F hg hr hb hx I1 r q⟩) he hpl) hdb)⟩
theorem de_F (F : FnG X.prog X.w X.K X.mg X.base CX k f fd ps (spP X.K n fm)) (hg : X.A.guards = some []) (hr : Room k X.A) (gl : Gl X x) (hm : X.mg x = some (.ref f)) (hk : PySem.W.keepIn X.K (.ref f) = true) (hb : Binds X.K fd ps []) (hx : PassW CX X Wi)
    (ha : DA X Wi (e :: es) fs) (hdb : (x == ("__debug__" : Str)) = false := by decide) (he : starEach (e :: es) X.env = (false, eval e X.env) :: starEach es X.env := by rfl) (hpl : (backTo pos (starEach es X.env)).any (·.1) = false := by rfl) :
    DE X Wi (.Call (.Name x p) (e :: es) [] pos) (eF n fm fs) := PE.imp (pe_F F hg hr gl hm hk hb hx ha hdb he hpl) tCallG_of

/-- the deck in a slot -/
def deckAt (E : Env) (i : Nat) : Option (Addr × Addr × Dk) := match E[i]? with
  | some (.deck a q l b) => some (a, q, ⟨l, b⟩)
  | _ => none
theorem deckAt_ok {E : Env} {i : Nat} {a q : Addr} {k : Dk} (h : deckAt E i = some (a, q, k)) : E[i]? = some (.deck a q k.l k.b) := by
  unfold deckAt at h
  cases e : E[i]? with
  | none => rw [e] at h; cases h
  | some c =>
    rw [e] at h
    cases c with
    | deck a' q' l b => cases h; rfl
    | no => cases h
    | dat _ => cases h
    | own _ => cases h
    | slf _ _ => cases h
    | cls _ => cases h
def retK (i : Nat) (a q : Addr) (r : Res (D × Dk)) (E : Env) : Res (W × Env) := match r with
  | .ok (d, k) => .ok (.dat d, E.set i (.deck a q k.l k.b))
  | _ => .stuck
/-- f(deck, e, ..): the deck in slot i -/
def eK (i n : Nat) (fm : Addr → Addr → Dk → List D → Res (D × Dk)) (fs : AF) : EF := fun E => (ofO (deckAt E i)).bind fun _ => (fs E).bind fun p => (ofO (dats p.1)).bind fun ds => (ofO (deckAt p.2 i)).bind fun z =>
  if ds.length = n then retK i z.1 z.2.1 (fm z.1 z.2.1 z.2.2 ds) p.2 else .stuck
theorem StE.deckC {K : PySem.W.Frag} {F : Fr} {G H G' H' : Hp} {σ : L2.St} {E : Env} {as : Nat → List Addr} {i : Nat} {a q : Addr} {l l' : List Int} {b b' : Int} (st : StE K F G H σ E as) (e : E[i]? = some (.deck a q l b)) (s : Same G G') (s1 : Same G' H')
    (kp : ∀ b o, H b = some o → b ≠ a → b ≠ q → H' b = some o) (pv : ∀ b o, G' b ≠ none → H b = some o → isT o = false → b ≠ a → b ≠ q → G b ≠ none) (ga : G' a = none) (gq : G' q = none) (dk : DeckAt H' a q l' b') :
    StE K F G' H' σ (E.set i (.deck a q l' b')) as := by
  obtain ⟨v, e1, ea, ev, dk0⟩ := st.cell i _ e
  have ma : a ∈ as i := by rw [ea]; simp
  have mq : q ∈ as i := by rw [ea]; simp
  have dom' : ∀ b, H' b = none → H b = none := fun c h => by
    cases hc : H c with
    | none => rfl
    | some o =>
      by_cases h1 : c = a
      · rw [h1, dk.1] at h; cases h
      · by_cases h2 : c = q
        · rw [h2, dk.2] at h; cases h
        · rw [kp c o hc h1 h2] at h; cases h
  refine ⟨by rw [List.length_set]; exact st.len, st.s0.trans s, s1, fun c o h x => ?_, fun c h => st.dom c (dom' c h), fun c o h h0 ht x => ?_, fun j c' q' => ?_, st.sep, fun j c h => ⟨?_, (st.off j c h).2⟩, fun j hj => st.tail j (by rw [List.length_set] at hj; exact hj)⟩
  · have na : c ≠ a := fun z => by
      rw [z] at h x
      rcases (st.off i a ma).2 with y | y
      · rw [y] at h; cases h
      · exact x y
    have nq : c ≠ q := fun z => by
      rw [z] at h x
      rcases (st.off i q mq).2 with y | y
      · rw [y] at h; cases h
      · exact x y
    exact kp c o (st.keep c o h x) na nq
  · by_cases h1 : c = a
    · rw [h1, ga] at h; exact absurd rfl h
    · by_cases h2 : c = q
      · rw [h2, gq] at h; exact absurd rfl h
      · exact st.priv c o (pv c o h (st.keep c o h0 x) ht h1 h2) h0 ht x
  · rcases get_set q' with ⟨rfl, rfl⟩ | ⟨hj, q'⟩
    · exact ⟨v, e1, ea, ev, dk⟩
    · obtain ⟨w, e2, y⟩ := st.cell j c' q'
      refine ⟨w, e2, y.up s fun c hc o h => kp c o h (fun z => ?_) fun z => ?_⟩
      · exact hj (st.sep j i c hc (by rw [z]; exact ma))
      · exact hj (st.sep j i c hc (by rw [z]; exact mq))
  · by_cases h1 : c = a
    · rw [h1]; exact ga
    · by_cases h2 : c = q
      · rw [h2]; exact gq
      · cases hc : G' c with
        | none => rfl
        | some u =>
          obtain ⟨o, ho, ht⟩ := st.thereM h
          exact absurd (st.off j c h).1 (pv c o (by rw [hc]; exact fun z => nomatch z) ho ht h1 h2)
theorem tCallK_of {i : Nat} {fk : Addr → Addr → Dk → List D → Res (D × Dk)} : ∀ σ H Q, tE X.K Wi (eK i n fk fs) σ H Q → tCallG (spK X.K n fk) Wi (tCons (tVar i) (tA X.K Wi fs)) σ H Q := by
  intro σ H Q q
  obtain ⟨F, G, E, as, st, p⟩ := q
  obtain ⟨⟨a0, q0, k0⟩, e0, p⟩ := Po.of p
  obtain ⟨v0, hv, _, ev0, _⟩ := st.cell i _ (deckAt_ok e0)
  cases ev0
  refine ⟨_, hv, F, G, E, as, st, PoA.mono (fun vs H1 m => ?_) (PoA.bind p)⟩
  obtain ⟨ws, G1, E1, as1, s1, st1, wo1, p1⟩ := m
  obtain ⟨ds, e1, p1⟩ := Po.of p1
  obtain ⟨⟨a, q, k1⟩, e2, p1⟩ := Po.of p1
  have p1 : Po X.K Wi F G1 σ Q (if ds.length = n then retK i a q (fk a q k1 ds) E1 else .stuck) := p1
  by_cases hn : ds.length = n
  · rw [if_pos hn] at p1
    have hi := deckAt_ok e2
    obtain ⟨u, e3, ea, ev, dk⟩ := st1.cell i _ hi
    rw [hv] at e3; cases e3; cases ev
    have ga := (st1.off i a0 (by rw [ea]; simp)).1
    have gq := (st1.off i q (by rw [ea]; simp)).1
    refine ⟨G1, a0, q, k1, vs, ds, rfl, st1.s1, ga, gq, dk, dats_ok wo1 e1, hn, ?_⟩
    unfold retK at p1
    generalize fk a0 q k1 ds = r at p1 ⊢
    match r, p1 with
    | .ok (d, k'), p1 => exact fun w G' H' s2 s3 kp pv ga' gq' dk' dd => p1 w G' H' as1 s2 (st1.deckC hi s2 s3 kp pv ga' gq' dk') dd
    | .err y _, p1 => exact p1.elim
    | .stuck, p1 => exact p1.elim
  · rw [if_neg hn] at p1; exact p1.elim
theorem de_K {i : Nat} {fk : Addr → Addr → Dk → List D → Res (D × Dk)} (F : FnG X.prog X.w X.K X.mg X.base CX k f fd ps (spK X.K n fk)) (hg : X.A.guards = some []) (hr : Room k X.A) (gl : Gl X x) (hm : X.mg x = some (.ref f)) (hk : PySem.W.keepIn X.K (.ref f) = true) (hb : Binds X.K fd ps []) (hx : PassW CX X Wi)
    (hv : PE X e (tVar i)) (ha : DA X Wi es fs) (hdb : (x == ("__debug__" : Str)) = false := by decide) (he : starEach (e :: es) X.env = (false, eval e X.env) :: starEach es X.env := by rfl) (hpl : (backTo pos (starEach es X.env)).any (·.1) = false := by rfl) :
    DE X Wi (.Call (.Name x p) (e :: es) [] pos) (eK i n fk fs) := PE.imp (pe_F F hg hr gl hm hk hb hx (pa_cons hv ha he) hdb he hpl) tCallK_of

def eFld (C : Addr) (f : Str) (fo : EF) : EF := fun E => (fo E).bind fun p => match p.1 with
  | .dat (.obj C' fs) => if C' = C then (ofO (fs.lookup f)).bind fun d => .ok (.dat d, p.2) else .stuck
  | _ => .stuck
theorem de_fld {f : Str} (he : DE X Wi o fo) (c : Cls X.K C) (hn : NoAttr X.K C f) (hb : attributeBase o f X.env (eval o X.env) = eval o X.env := by rfl) : DE X Wi (.Attribute o f pos) (eFld C f fo) := PE.imp (pe_fld he hb) fun σ H Q q => by
  obtain ⟨F, G, E, as, st, p⟩ := q
  refine ⟨F, G, E, as, st, Po.mono (fun x H1 m => ?_) (Po.bind p)⟩
  obtain ⟨w1, G1, E1, as1, s1, st1, wo1, p1⟩ := m
  cases w1 with
  | own _ => exact p1.elim
  | dat d =>
    cases d with
    | obj C' fs =>
      have p2 : Po X.K Wi F G1 σ Q (if C' = C then (ofO (fs.lookup f)).bind fun d => .ok (.dat d, E1) else .stuck) := p1
      by_cases hC : C' = C
      · rw [if_pos hC] at p2
        subst hC
        obtain ⟨d, e1, p3⟩ := Po.of p2
        have dd : DD X.K G1 x (.obj C' fs) := wo1
        cases dd with
        | obj ga df =>
          obtain ⟨v, e2, dv⟩ := df.look e1
          exact ⟨_, C', _, _, v, rfl, st1.s1 _ _ ga, c, hn, e2, Po.rz st1 p3 _ _ _ (Al.refl st1.s1) dv⟩
      · rw [if_neg hC] at p2; exact p2.elim
    | _ => exact p1.elim
end
end DL
namespace DL
open PySem PySem.Spec PyProof.Rows L2 TL

theorem strOk_iff {x : Str} : PyData.strOk x = true ↔ ∀ c ∈ tl x, c < 0x110000 := by
  unfold PyData.strOk tl
  rw [← Array.all_toList, List.all_eq_true]
  simp
theorem SOk.app {x y : Str} (hx : SOk x) (hy : SOk y) (h : x.length + y.length ≤ sizeLine) : SOk (x ++ y) := by
  have e : (x ++ y).length = x.length + y.length := strLen_append x y
  refine ⟨by rw [e]; exact h, strOk_iff.mpr fun c hc => ?_⟩
  rw [tl_append] at hc
  rcases List.mem_append.mp hc with h | h
  · exact strOk_iff.mp hx.2 c h
  · exact strOk_iff.mp hy.2 c h
theorem len_tl (x : Str) : x.length = (tl x).length := by simp [Str.length, tl]
theorem SOk.sub {x y : Str} (hx : SOk x) (h : ∀ c ∈ tl y, c ∈ tl x) (hl : y.length ≤ x.length) : SOk y :=
  ⟨Nat.le_trans hl hx.1, strOk_iff.mpr fun c hc => strOk_iff.mp hx.2 c (h c hc)⟩
theorem SOk.cut {x : Str} (hx : SOk x) (lo hi : Option Int) : SOk (cutS x lo hi) := by
  have e : tl (cutS x lo hi) = ((tl x).drop (HT.sIx x.length 0 lo)).take (HT.sIx x.length x.length hi - HT.sIx x.length 0 lo) := tl_mk _
  refine hx.sub (fun c hc => ?_) ?_
  · rw [e] at hc
    exact List.mem_of_mem_drop (List.mem_of_mem_take hc)
  · rw [len_tl, len_tl, e]
    simp only [List.length_take, List.length_drop]; omega
theorem SOk.sign {x : Str} {c : Nat} (hx : SOk x) (h : c ∈ tl x) : SOk ⟨#[c]⟩ := by
  refine ⟨by show 1 ≤ sizeLine; decide, strOk_iff.mpr fun d hd => ?_⟩
  have e : tl ⟨#[c]⟩ = [c] := rfl
  rw [e] at hd
  rw [List.mem_singleton.mp hd]
  exact strOk_iff.mp hx.2 c h

section
variable {X : Cx} {pins : List (Addr × Obj)} {σ : L2.St} {G H : Hp} {s : Shared} {v : V} {u : Value} {d : D}
theorem BD.reads (I : Inv X pins σ H s) (e : Same G H) (p : d.plain = true) (h : BD X.K G H v d) (r : RelV v u) : ∃ as, Reads s.heap u d.py as := by
  cases h with
  | dat dd => exact DD.reads I e d v u p dd r
  | own ev o =>
    subst ev
    cases r
    cases d with
    | lst ds =>
      obtain ⟨vs, e1, z, ha⟩ := o
      obtain ⟨its, rv, ⟨o, n, ho, hc, _, hd⟩, _⟩ := I.list (SqL.of e1)
      obtain ⟨as, hr⟩ := DDs.reads I e ds _ its (by simpa [D.plain] using p) ha rv
      exact ⟨_, Reads.list ho hc hd hr⟩
    | dic _ => cases p
    | dit _ => cases p
    | _ => first | exact o.elim | cases p
theorem BD.lay {K : PySem.W.Frag} (p : d.plain = true) (h : BD K G H v d) : d.py.canLay0 = true := by
  cases h with
  | dat dd => exact DD.lay d v p dd
  | own ev o =>
    cases d with
    | lst ds =>
      obtain ⟨vs, e1, z, ha⟩ := o
      exact DDs.lay ds _ (by simpa [D.plain] using p) ha
    | dic _ => cases p
    | dit _ => cases p
    | _ => first | exact o.elim | cases p
/-- a list -/
theorem BD.lst {K : PySem.W.Frag} (s : Same G H) {ds : List D} (h : BD K G H v (.lst ds)) : ∃ a vs, v = .ref a ∧ H a = some (.lst vs) ∧ vs.length ≤ sizeLine ∧ DDs K G vs ds := by
  cases h with
  | dat dd => cases dd with | lst g z r => exact ⟨_, _, rfl, s _ _ g, z, r⟩
  | own ev o => obtain ⟨vs, e1, z, r⟩ := o; exact ⟨_, vs, ev, e1, z, r⟩
theorem BD.tup {K : PySem.W.Frag} (s : Same G H) {ds : List D} (h : BD K G H v (.tup ds)) : ∃ a vs, v = .ref a ∧ H a = some (.tup vs) ∧ vs.length ≤ sizeLine ∧ DDs K G vs ds ∧ G a = some (.tup vs) := by
  cases h with
  | dat dd => cases dd with | tup g z r => exact ⟨_, _, rfl, s _ _ g, z, r, g⟩
  | own ev o => exact o.elim
theorem BD.int {K : PySem.W.Frag} {i : Int} (h : BD K G H v (.int i)) : v = .int i := by
  cases h with
  | dat dd => cases dd; rfl
  | own ev o => exact o.elim
theorem BD.bl {K : PySem.W.Frag} {i : Bool} (h : BD K G H v (.bl i)) : v = .bl i := by
  cases h with
  | dat dd => cases dd; rfl
  | own ev o => exact o.elim
theorem BD.non {K : PySem.W.Frag} (h : BD K G H v .non) : v = .non := by
  cases h with
  | dat dd => cases dd; rfl
  | own ev o => exact o.elim
theorem BD.str {K : PySem.W.Frag} {x : Str} (h : BD K G H v (.str x)) : v = .str x ∧ SOk x := by
  cases h with
  | dat dd => cases dd with | str _ h => exact ⟨rfl, h⟩
  | own ev o => exact o.elim
theorem BD.dic {K : PySem.W.Frag} (s : Same G H) {kd : List (Key × D)} (h : BD K G H v (.dic kd)) : ∃ a kv, v = .ref a ∧ H a = some (.dK kv) ∧ DKs K G kv kd := by
  cases h with
  | dat dd => cases dd with | dic g r => exact ⟨_, _, rfl, s _ _ g, r⟩
  | own ev o => obtain ⟨kv, e1, r⟩ := o; exact ⟨_, kv, ev, e1, r⟩
theorem BD.dit {K : PySem.W.Frag} (s : Same G H) {kd : List (List Key × D)} (h : BD K G H v (.dit kd)) : ∃ a kv, v = .ref a ∧ H a = some (.dT kv) ∧ DTs K G kv kd := by
  cases h with
  | dat dd => cases dd with | dit g r => exact ⟨_, _, rfl, s _ _ g, r⟩
  | own ev o => obtain ⟨kv, e1, r⟩ := o; exact ⟨_, kv, ev, e1, r⟩
end

def gAdd : D → D → Option D
  | .int i, .int j => some (.int (i + j))
  | .str x, .str y => if x.length + y.length ≤ sizeLine then some (.str (x ++ y)) else none
  | .lst x, .lst y => if x.length + y.length ≤ sizeLine then some (.lst (x ++ y)) else none
  | .tup x, .tup y => if x.length + y.length ≤ sizeLine then some (.tup (x ++ y)) else none
  | _, _ => none
def rAddA (K : PySem.W.Frag) : R2 := fun x y H Q => (∃ i j, x = .int i ∧ y = .int j ∧ Q (.int (i + j)) H) ∨ (∃ i j, x = .str i ∧ y = .str j ∧ i.length + j.length ≤ sizeLine ∧ Q (.str (i ++ j)) H) ∨ rCat x y H Q ∨ rCatA K x y H Q
theorem op_addA {X : Cx} : OpR X (binaryOp .Add) (rAddA X.K) := op_add.or (op_add_str.or (op_cat.or op_catA))
theorem ifs_some {c : Prop} [Decidable c] {a d : D} (h : (if c then some a else none) = some d) : c ∧ d = a := by
  by_cases q : c
  · rw [if_pos q] at h; cases h; exact ⟨q, rfl⟩
  · rw [if_neg q] at h; cases h
theorem opd_add {K : PySem.W.Frag} : OpD K (rAddA K) gAdd := by
  intro G H x y a b d Q s ha hb e z
  cases a with
  | int i =>
    cases b with
    | int j => cases e; exact .inl ⟨i, j, ha.int, hb.int, z _ _ _ (Al.refl s) (.int _)⟩
    | _ => cases e
  | str i =>
    cases b with
    | str j =>
      obtain ⟨hl, rfl⟩ := ifs_some e
      exact .inr (.inl ⟨i, j, ha.str.1, hb.str.1, hl, z _ _ _ (Al.refl s) (.str _ (ha.str.2.app hb.str.2 hl))⟩)
    | _ => cases e
  | lst i =>
    cases b with
    | lst j =>
      obtain ⟨hl, rfl⟩ := ifs_some e
      obtain ⟨p, vs, rfl, h1, z1, d1⟩ := ha.lst s
      obtain ⟨q, ws, rfl, h2, z2, d2⟩ := hb.lst s
      have hl' : vs.length + ws.length ≤ sizeLine := by rw [d1.len, d2.len]; exact hl
      exact .inr (.inr (.inl ⟨p, q, vs, ws, rfl, rfl, h1, h2, hl', fun r hr => z.new s r _ hr (Al.one s hr).h ⟨_, upd_same, by rw [List.length_append]; exact hl', d1.app d2⟩⟩))
    | _ => cases e
  | tup i =>
    cases b with
    | tup j =>
      obtain ⟨hl, rfl⟩ := ifs_some e
      obtain ⟨p, vs, rfl, h1, z1, d1, g1⟩ := ha.tup s
      obtain ⟨q, ws, rfl, h2, z2, d2, g2⟩ := hb.tup s
      have hl' : vs.length + ws.length ≤ sizeLine := by rw [d1.len, d2.len]; exact hl
      refine .inr (.inr (.inr ?_))
      have both : ∀ r, H r = none → Q (.ref r) (upd H r (.tup (vs ++ ws))) := fun r hr => z _ _ _ (Al.one s hr) (.tup upd_same (by rw [List.length_append]; exact hl') ((d1.app d2).up (Al.one s hr).g))
      have hv : vs = [] → Q (.ref q) H := fun e => by
        subst e
        have e2 : i = [] := by have := d1.len; simpa using this.symm
        subst e2
        exact z _ _ _ (Al.refl s) (.tup g2 z2 d2)
      have hw : ws = [] → Q (.ref p) H := fun e => by
        subst e
        have e2 : j = [] := by have := d2.len; simpa using this.symm
        subst e2
        exact z _ _ _ (Al.refl s) (by rw [List.append_nil]; exact .tup g1 z1 d1)
      exact ⟨p, q, vs, ws, rfl, rfl, SqT.of h1, SqT.of h2, hl', hv, fun _ e => hw e, fun _ _ r hr => both r hr⟩
    | _ => cases e
  | _ => cases b <;> cases e

def gSub : D → D → Option D
  | .int i, .int j => some (.int (i - j))
  | _, _ => none
theorem opd_sub {K : PySem.W.Frag} : OpD K (rI0 fun i j => .int (i - j)) gSub := by
  intro G H x y a b d Q s ha hb e z
  cases a with
  | int i =>
    cases b with
    | int j => cases e; exact ⟨i, j, ha.int, hb.int, z _ _ _ (Al.refl s) (.int _)⟩
    | _ => cases e
  | _ => cases b <;> cases e

def okCmp (a b : D) : Bool := a.plain && b.plain && decide (min a.py.depth b.py.depth ≤ 60)
def gEq (a b : D) : Option D := if okCmp a b = true then some (.bl (PyData.eqv a.py b.py)) else none
def gNe (a b : D) : Option D := if okCmp a b = true then some (.bl (!PyData.eqv a.py b.py)) else none
def rCm (K : PySem.W.Frag) (f : PyData → PyData → Bool) (ok : PyData → PyData → Prop) : R2 := fun x y H Q => ∃ G a b, Same G H ∧ BD K G H x a ∧ BD K G H y b ∧ a.plain = true ∧ b.plain = true ∧ min a.py.depth b.py.depth ≤ 60 ∧ ok a.py b.py ∧ Q (.bl (f a.py b.py)) H
theorem okCmp_iff {a b : D} (h : okCmp a b = true) : a.plain = true ∧ b.plain = true ∧ min a.py.depth b.py.depth ≤ 60 := by
  unfold okCmp at h
  rw [Bool.and_eq_true, Bool.and_eq_true] at h
  exact ⟨h.1.1, h.1.2, of_decide_eq_true h.2⟩
theorem opd_eq {K : PySem.W.Frag} : OpD K (rCm K PyData.eqv fun _ _ => True) gEq := by
  intro G H x y a b d Q s ha hb e z
  obtain ⟨h, rfl⟩ := ifs_some e
  obtain ⟨h1, h2, h3⟩ := okCmp_iff h
  exact ⟨G, a, b, s, ha, hb, h1, h2, h3, trivial, z _ _ _ (Al.refl s) (.bl _)⟩
theorem opd_ne {K : PySem.W.Frag} : OpD K (rCm K (fun a b => !PyData.eqv a b) fun _ _ => True) gNe := by
  intro G H x y a b d Q s ha hb e z
  obtain ⟨h, rfl⟩ := ifs_some e
  obtain ⟨h1, h2, h3⟩ := okCmp_iff h
  exact ⟨G, a, b, s, ha, hb, h1, h2, h3, trivial, z _ _ _ (Al.refl s) (.bl _)⟩
def notN : PyData → Bool
  | .none => false
  | _ => true
theorem notN_ne {d : PyData} (h : notN d = true) : d ≠ .none := fun e => by rw [e] at h; cases h
def gLt (a b : D) : Option D := if (okCmp a b && PySem.W.alike a.py b.py && notN a.py) = true then some (.bl (PySem.W.dataLt a.py b.py)) else none
theorem opd_lt {K : PySem.W.Frag} : OpD K (rCm K PySem.W.dataLt fun a b => PySem.W.alike a b = true ∧ a ≠ .none) gLt := by
  intro G H x y a b d Q s ha hb e z
  obtain ⟨h, rfl⟩ := ifs_some e
  rw [Bool.and_eq_true, Bool.and_eq_true] at h
  obtain ⟨h1, h2, h3⟩ := okCmp_iff h.1.1
  exact ⟨G, a, b, s, ha, hb, h1, h2, h3, ⟨h.1.2, notN_ne h.2⟩, z _ _ _ (Al.refl s) (.bl _)⟩
section
variable {X : Cx} (hu : X.A.units + 64 < cLine)
include hu
theorem op_eqq : OpR X (compareOp .Eq) (rCm X.K PyData.eqv fun _ _ => True) := by
  intro pins s σ H x y v u Q I rx ry ⟨G, a, b, sm, ha, hb, p1, p2, hd, _, q⟩
  obtain ⟨as, r1⟩ := ha.reads I sm p1 rx
  obtain ⟨bs, r2⟩ := hb.reads I sm p2 ry
  exact SeqAt.compareEq_reads r1 r2 (ha.lay p1) (hb.lay p2) (by omega) ⟨.bl _, H, I, rfl, q⟩
theorem op_neq : OpR X (compareOp .NotEq) (rCm X.K (fun a b => !PyData.eqv a b) fun _ _ => True) := by
  intro pins s σ H x y v u Q I rx ry ⟨G, a, b, sm, ha, hb, p1, p2, hd, _, q⟩
  obtain ⟨as, r1⟩ := ha.reads I sm p1 rx
  obtain ⟨bs, r2⟩ := hb.reads I sm p2 ry
  exact SeqAt.compareNe_reads r1 r2 (ha.lay p1) (hb.lay p2) (by omega) ⟨.bl _, H, I, rfl, q⟩
theorem op_ltt : OpR X (compareOp .Lt) (rCm X.K PySem.W.dataLt fun a b => PySem.W.alike a b = true ∧ a ≠ .none) := by
  intro pins s σ H x y v u Q I rx ry ⟨G, a, b, sm, ha, hb, p1, p2, hd, hk, q⟩
  obtain ⟨as, r1⟩ := ha.reads I sm p1 rx
  obtain ⟨bs, r2⟩ := hb.reads I sm p2 ry
  exact PySem.W.lt_data r1 r2 hk.1 hk.2 (by omega) ⟨.bl _, H, I, rfl, q⟩
end
end DL
namespace DL
open PySem PySem.Spec PyProof.Rows L2 TL

def inS (x y : Str) : Bool := !(Builtin.Str.occurrences y x 0 y.length 1).isEmpty
def gInQ (neg : Bool) : D → D → Option D
  | .str x, .str y => some (.bl (if neg then !(inS x y) else inS x y))
  | d, .lst ds => if (d.plain && plainL ds && decide (min (PyData.depthAll (pyL ds)) d.py.depth ≤ 60)) = true then some (.bl (if neg then !((pyL ds).any fun y => PyData.eqv y d.py) else (pyL ds).any fun y => PyData.eqv y d.py)) else none
  | d, .tup ds => if (d.plain && plainL ds && decide (min (PyData.depthAll (pyL ds)) d.py.depth ≤ 60)) = true then some (.bl (if neg then !((pyL ds).any fun y => PyData.eqv y d.py) else (pyL ds).any fun y => PyData.eqv y d.py)) else none
  | _, _ => none
def rInQ (K : PySem.W.Frag) (neg : Bool) : R2 := fun x y H Q => (∃ a b, x = .str a ∧ y = .str b ∧ Q (.bl (if neg then !(inS a b) else inS a b)) H) ∨
  ∃ G d ds c, (c = D.lst ds ∨ c = D.tup ds) ∧ Same G H ∧ BD K G H x d ∧ BD K G H y c ∧ d.plain = true ∧ plainL ds = true ∧ min (PyData.depthAll (pyL ds)) d.py.depth ≤ 60 ∧
    Q (.bl (if neg then !((pyL ds).any fun y => PyData.eqv y d.py) else (pyL ds).any fun y => PyData.eqv y d.py)) H
theorem opd_in {K : PySem.W.Frag} {neg : Bool} : OpD K (rInQ K neg) (gInQ neg) := by
  intro G H x y a b d Q s ha hb e z
  have seq : ∀ (ds : List D) (c : D), (c = D.lst ds ∨ c = D.tup ds) → BD K G H y c →
      (if (a.plain && plainL ds && decide (min (PyData.depthAll (pyL ds)) a.py.depth ≤ 60)) = true then some (D.bl (if neg then !((pyL ds).any fun y => PyData.eqv y a.py) else (pyL ds).any fun y => PyData.eqv y a.py)) else none) = some d → rInQ K neg x y H Q := fun ds c hc hb e => by
    obtain ⟨h, rfl⟩ := ifs_some e
    rw [Bool.and_eq_true, Bool.and_eq_true] at h
    exact .inr ⟨G, a, ds, c, hc, s, ha, hb, h.1.1, h.1.2, of_decide_eq_true h.2, z _ _ _ (Al.refl s) (.bl _)⟩
  cases b with
  | str y =>
    cases a with
    | str x => cases e; exact .inl ⟨x, y, ha.str.1, hb.str.1, z _ _ _ (Al.refl s) (.bl _)⟩
    | _ => cases e
  | lst ds =>
    refine seq ds _ (.inl rfl) hb ?_
    cases a <;> exact e
  | tup ds =>
    refine seq ds _ (.inr rfl) hb ?_
    cases a <;> exact e
  | _ => cases a <;> cases e
section
variable {X : Cx} (hu : X.A.units + 64 < cLine)
include hu
theorem op_inq : OpR X (compareOp .In) (rInQ X.K false) := by
  intro pins s σ H x y v u Q I rx ry h
  rcases h with ⟨a, b, rfl, rfl, q⟩ | ⟨G, d, ds, c, hc, sm, hx, hy, p1, p2, hd, q⟩
  · exact op_in_str pins s σ H _ _ v u Q I rx ry ⟨a, b, rfl, rfl, q⟩
  · have pc : c.plain = true := by rcases hc with rfl | rfl <;> simpa [D.plain] using p2
    obtain ⟨as, r1⟩ := hx.reads I sm p1 rx
    obtain ⟨bs, r2⟩ := hy.reads I sm pc ry
    have l1 := hx.lay p1
    have l2 := hy.lay pc
    rcases hc with rfl | rfl
    · exact PySem.SeqAt.in_list_reads r2 r1 l2 l1 (by omega) ⟨.bl _, H, I, rfl, q⟩
    · exact PySem.SeqAt.in_tuple_reads r2 r1 l2 l1 (by omega) ⟨.bl _, H, I, rfl, q⟩
theorem op_notinq : OpR X (compareOp .NotIn) (rInQ X.K true) := by
  intro pins s σ H x y v u Q I rx ry h
  rcases h with ⟨a, b, rfl, rfl, q⟩ | ⟨G, d, ds, c, hc, sm, hx, hy, p1, p2, hd, q⟩
  · exact op_notIn_str pins s σ H _ _ v u Q I rx ry ⟨a, b, rfl, rfl, q⟩
  · have pc : c.plain = true := by rcases hc with rfl | rfl <;> simpa [D.plain] using p2
    obtain ⟨as, r1⟩ := hx.reads I sm p1 rx
    obtain ⟨bs, r2⟩ := hy.reads I sm pc ry
    have l1 := hx.lay p1
    have l2 := hy.lay pc
    rcases hc with rfl | rfl
    · exact PySem.SeqAt.notIn_list_reads r2 r1 l2 l1 (by omega) ⟨.bl _, H, I, rfl, q⟩
    · exact PySem.SeqAt.notIn_tuple_reads r2 r1 l2 l1 (by omega) ⟨.bl _, H, I, rfl, q⟩
end

def gLen : List D → Option D
  | [.str x] => some (.int x.length)
  | [.lst ds] => some (.int ds.length)
  | [.tup ds] => some (.int ds.length)
  | _ => none
theorem BDs.one {K : PySem.W.Frag} {G H : Hp} {xs : List V} {d : D} (h : BDs K G H xs [d]) : ∃ x, xs = [x] ∧ BD K G H x d := by
  cases h with
  | cons a b => cases b; exact ⟨_, rfl, a⟩
theorem calld_len {K : PySem.W.Frag} : CallD K (fun xs H Q => ∃ x n, xs = [x] ∧ LenV K x H n ∧ Q (.int n) H) gLen := by
  intro G H xs ds d Q s h e z
  match ds, e with
  | [.str x], e =>
    cases e
    obtain ⟨v, rfl, b⟩ := h.one
    obtain ⟨rfl, ok⟩ := b.str
    exact ⟨_, _, rfl, ⟨ok.1, rfl⟩, z _ _ _ (Al.refl s) (.int _)⟩
  | [.lst ds], e =>
    cases e
    obtain ⟨v, rfl, b⟩ := h.one
    obtain ⟨a, vs, rfl, h1, z1, d1⟩ := b.lst s
    exact ⟨_, _, rfl, .inl ⟨vs, SqL.of h1, rfl⟩, by rw [d1.len]; exact z _ _ _ (Al.refl s) (.int _)⟩
  | [.tup ds], e =>
    cases e
    obtain ⟨v, rfl, b⟩ := h.one
    obtain ⟨a, vs, rfl, h1, z1, d1, _⟩ := b.tup s
    exact ⟨_, _, rfl, .inr ⟨vs, SqT.of h1, rfl⟩, by rw [d1.len]; exact z _ _ _ (Al.refl s) (.int _)⟩
def bls : List D → Option (List Bool)
  | [] => some []
  | .bl b :: r => (bls r).map (b :: ·)
  | _ => none
theorem bls_ok {K : PySem.W.Frag} {G : Hp} : ∀ {vs : List V} {ds : List D} {bs : List Bool}, DDs K G vs ds → bls ds = some bs → vs = bs.map V.bl
  | [], [], _, _, e => by cases e; rfl
  | v :: vs, d :: ds, bs, .cons a r, e => by
    cases d with
    | bl b =>
      have e : (bls ds).map (b :: ·) = some bs := e
      cases q : bls ds with
      | none => rw [q] at e; cases e
      | some l => rw [q] at e; cases e; cases a; rw [List.map_cons, bls_ok r q]
    | _ => cases e
def gAll : List D → Option D
  | [.lst ds] => (bls ds).map fun l => .bl (l.all id)
  | _ => none
theorem calld_all {K : PySem.W.Frag} : CallD K (rAll K) gAll := by
  intro G H xs ds d Q s h e z
  match ds, e with
  | [.lst ds], e =>
    have e : (bls ds).map (fun l => D.bl (l.all id)) = some d := e
    obtain ⟨v, rfl, b⟩ := h.one
    obtain ⟨a, vs, rfl, h1, z1, d1⟩ := b.lst s
    cases q : bls ds with
    | none => rw [q] at e; cases e
    | some l =>
      rw [q] at e; cases e
      exact ⟨a, l, rfl, SqL.of (by rw [h1, bls_ok d1 q]), z _ _ _ (Al.refl s) (.bl _)⟩
def gIx : D → D → Option D
  | .lst ds, .int i => atI ds i
  | .tup ds, .int i => atI ds i
  | .str x, .int i => (atI (tl x) i).map fun c => .str ⟨#[c]⟩
  | _, _ => none
theorem atI_dd {K : PySem.W.Frag} {G : Hp} {vs : List V} {ds : List D} {i : Int} {d : D} (h : DDs K G vs ds) (e : atI ds i = some d) : ∃ v, atI vs i = some v ∧ DD K G v d := by
  unfold atI at e ⊢
  rw [h.len]
  cases q : ixN ds.length i with
  | none => rw [q] at e; cases e
  | some j =>
    rw [q] at e
    exact h.get e
theorem opd_ix {K : PySem.W.Frag} : OpD K (rIx K) gIx := by
  intro G H x y a b d Q s ha hb e z
  cases b with
  | int i =>
    cases a with
    | lst ds =>
      obtain ⟨p, vs, rfl, h1, z1, d1⟩ := ha.lst s
      obtain ⟨v, e1, dd⟩ := atI_dd d1 (show atI ds i = some d from e)
      exact .inl ⟨p, vs, i, v, rfl, hb.int, SqL.of h1, e1, z _ _ _ (Al.refl s) dd⟩
    | tup ds =>
      obtain ⟨p, vs, rfl, h1, z1, d1, _⟩ := ha.tup s
      obtain ⟨v, e1, dd⟩ := atI_dd d1 (show atI ds i = some d from e)
      exact .inr (.inl ⟨p, vs, i, v, rfl, hb.int, SqT.of h1, e1, z _ _ _ (Al.refl s) dd⟩)
    | str t =>
      obtain ⟨rfl, ok⟩ := ha.str
      have e : (atI (tl t) i).map (fun c => D.str ⟨#[c]⟩) = some d := e
      cases q : atI (tl t) i with
      | none => rw [q] at e; cases e
      | some c =>
        rw [q] at e; cases e
        obtain ⟨j, _, hj, _⟩ := atI_get q
        exact .inr (.inr ⟨t, i, c, rfl, hb.int, ok.1, q, z _ _ _ (Al.refl s) (.str _ (ok.sign (List.mem_of_getElem? hj)))⟩)
    | _ => cases e
  | _ => cases a <;> cases e
def cutD (xs : List D) (lo hi : Option Int) : List D := (xs.drop (HT.sIx xs.length 0 lo)).take (HT.sIx xs.length xs.length hi - HT.sIx xs.length 0 lo)
theorem DDs.cut {K : PySem.W.Frag} {G : Hp} {vs : List V} {ds : List D} (h : DDs K G vs ds) (lo hi : Option Int) : DDs K G (cutV vs lo hi) (cutD ds lo hi) := by
  unfold cutV cutD
  rw [h.len]
  exact (h.drop _).take _
def gSl : D → Option Int → Option Int → Option D
  | .lst ds, lo, hi => some (.lst (cutD ds lo hi))
  | .tup ds, lo, hi => some (.tup (cutD ds lo hi))
  | .str x, lo, hi => some (.str (cutS x lo hi))
  | _, _, _ => none
def rSl3 (K : PySem.W.Frag) : V → Option Int → Option Int → Hp → VK → Prop := fun x lo hi H Q => rSlL K x lo hi H Q ∨ rSlA K x lo hi H Q ∨ rSlS x lo hi H Q
theorem sl_3 {X : Cx} : SlR X (rSl3 X.K) := sl_list.or (sl_tupA.or sl_str)
theorem sld_sl {K : PySem.W.Frag} : SlD K (rSl3 K) gSl := by
  intro G H x a d lo hi Q s ha e z
  cases a with
  | lst ds =>
    cases e
    obtain ⟨p, vs, rfl, h1, z1, d1⟩ := ha.lst s
    exact .inl ⟨p, vs, rfl, SqL.of h1, fun q hq => z.new s q _ hq (Al.one s hq).h ⟨_, upd_same, Nat.le_trans (cutV_length vs lo hi) z1, d1.cut lo hi⟩⟩
  | tup ds =>
    cases e
    obtain ⟨p, vs, rfl, h1, z1, d1, g1⟩ := ha.tup s
    refine .inr (.inl ⟨p, vs, rfl, SqT.of h1, fun hw => ?_, fun _ q hq => z _ _ _ (Al.one s hq) (.tup upd_same (Nat.le_trans (cutV_length vs lo hi) z1) ((d1.cut lo hi).up (Al.one s hq).g))⟩)
    have e2 : cutD ds lo hi = ds := by
      unfold cutD
      rw [← d1.len, hw.1, hw.2, List.drop_zero, Nat.sub_zero, d1.len, List.take_length]
    exact z _ _ _ (Al.refl s) (by rw [e2]; exact .tup g1 z1 d1)
  | str t =>
    cases e
    obtain ⟨rfl, ok⟩ := ha.str
    exact .inr (.inr ⟨t, rfl, ok.1, z _ _ _ (Al.refl s) (.str _ (ok.cut lo hi))⟩)
  | _ => cases e

def gTuple : List D → Option D
  | [.lst ds] => some (.tup ds)
  | [.tup ds] => some (.tup ds)
  | _ => none
theorem calld_tuple {K : PySem.W.Frag} : CallD K (fun xs H Q => ∃ p ys, xs = [.ref p] ∧ ((SqL K H p ys ∧ ∀ l, H l = none → Q (.ref l) (upd H l (.tup ys))) ∨ (SqT K H p ys ∧ Q (.ref p) H))) gTuple := by
  intro G H xs ds d Q s h e z
  match ds, e with
  | [.lst ds], e =>
    cases e
    obtain ⟨v, rfl, b⟩ := h.one
    obtain ⟨a, vs, rfl, h1, z1, d1⟩ := b.lst s
    exact ⟨a, vs, rfl, .inl ⟨SqL.of h1, fun q hq => z _ _ _ (Al.one s hq) (.tup upd_same z1 (d1.up (Al.one s hq).g))⟩⟩
  | [.tup ds], e =>
    cases e
    obtain ⟨v, rfl, b⟩ := h.one
    obtain ⟨a, vs, rfl, h1, z1, d1, g1⟩ := b.tup s
    exact ⟨a, vs, rfl, .inr ⟨SqT.of h1, z _ _ _ (Al.refl s) (.tup g1 z1 d1)⟩⟩
/-- list(..) of a list, a tuple, a text, a dict -/
def gList : List D → Option D
  | [.lst ds] => some (.lst ds)
  | [.tup ds] => some (.lst ds)
  | _ => none
theorem calln_list {K : PySem.W.Frag} : CallN K (fun xs H Q => ∃ p ys, xs = [.ref p] ∧ (SqL K H p ys ∨ SqT K H p ys) ∧ ∀ l, H l = none → Q (.ref l) (upd H l (.lst ys))) gList := by
  intro G H xs ds d Q s h e z
  match ds, e with
  | [.lst ds], e =>
    cases e
    obtain ⟨v, rfl, b⟩ := h.one
    obtain ⟨a, vs, rfl, h1, z1, d1⟩ := b.lst s
    exact ⟨a, vs, rfl, .inl (SqL.of h1), fun q hq => z q _ hq (Al.one s hq).h ⟨_, upd_same, z1, d1⟩⟩
  | [.tup ds], e =>
    cases e
    obtain ⟨v, rfl, b⟩ := h.one
    obtain ⟨a, vs, rfl, h1, z1, d1, g1⟩ := b.tup s
    exact ⟨a, vs, rfl, .inr (SqT.of h1), fun q hq => z q _ hq (Al.one s hq).h ⟨_, upd_same, z1, d1⟩⟩
def leD (a b : D) : Bool := PySem.W.dataLe false D.py a b
def okSort (ds : List D) : Bool := ds.all D.plain && (ds.all fun a => ds.all fun b => PySem.W.alike a.py b.py) && (ds.all (fun a => match a.py with | .tuple (_ :: _) => true | _ => false) || ds.all fun a => match a.py with | .none => false | .tuple _ => false | _ => true) && ds.all fun a => decide (a.py.depth ≤ 60)
def gSorted : List D → Option D
  | [.lst ds] => if okSort ds = true then some (.lst (ds.mergeSort leD)) else none
  | _ => none
def rSortD (K : PySem.W.Frag) : List V → Hp → VK → Prop := fun xs H Q => ∃ G a vs ds, xs = [.ref a] ∧ Same G H ∧ H a = some (.lst vs) ∧ vs.length ≤ sizeLine ∧ DDs K G vs ds ∧ okSort ds = true ∧ ∀ p ws, H p = none → DDs K G ws (ds.mergeSort leD) → Q (.ref p) (upd H p (.lst ws))
theorem calln_sorted {K : PySem.W.Frag} : CallN K (rSortD K) gSorted := by
  intro G H xs ds d Q s h e z
  match ds, e with
  | [.lst ds], e =>
    obtain ⟨h0, rfl⟩ := ifs_some (show (if okSort ds = true then some (D.lst (ds.mergeSort leD)) else none) = some d from e)
    obtain ⟨v, rfl, b⟩ := h.one
    obtain ⟨a, vs, rfl, h1, z1, d1⟩ := b.lst s
    refine ⟨G, a, vs, ds, rfl, s, h1, z1, d1, h0, fun q ws hq dd => z q _ hq (Al.one s hq).h ⟨ws, upd_same, ?_, dd⟩⟩
    rw [dd.len, (List.mergeSort_perm ds leD).length_eq, ← d1.len]; exact z1
theorem each_of {X : Cx} {pins : List (Addr × Obj)} {σ : L2.St} {G H : Hp} {s : Shared} (I : Inv X pins σ H s) (sm : Same G H) : ∀ {vs : List V} {us : List Value} {ds : List D}, Vals vs us → DDs X.K G vs ds → ds.all D.plain = true →
    PySem.W.EachIs (fun u d => ∃ v, RelV v u ∧ DD X.K G v d) us ds ∧ PySem.W.EachIs (fun u d => ∃ as, Reads s.heap u (D.py d) as) us ds
  | _, _, _, .nil, .nil, _ => ⟨.nil, .nil⟩
  | _, _, _, .cons r rs, .cons a b, p => by
    rw [List.all_cons, Bool.and_eq_true] at p
    obtain ⟨h1, h2⟩ := each_of I sm rs b p.2
    exact ⟨.cons ⟨_, r, a⟩ h1, .cons (DD.reads I sm _ _ _ p.1 a r) h2⟩
theorem of_each {K : PySem.W.Frag} {G : Hp} : ∀ {us : List Value} {ds : List D}, PySem.W.EachIs (fun u d => ∃ v, RelV v u ∧ DD K G v d) us ds → ∃ vs, Vals vs us ∧ DDs K G vs ds
  | _, _, .nil => ⟨[], .nil, .nil⟩
  | _, _, .cons ⟨v, r, a⟩ t => by
    obtain ⟨vs, h1, h2⟩ := of_each t
    exact ⟨v :: vs, .cons r h1, .cons a h2⟩
theorem call_sortD {X : Cx} (hu : X.A.units + 64 < cLine) : CallR X (.builtin "sorted") (rSortD X.K) := by
  intro pins s σ H xs us Q I r h
  obtain ⟨G, a, vs, ds, rfl, sm, hv, hz, dd, ok, q⟩ := h
  obtain ⟨its, rv, hl, _⟩ := I.list (SqL.of hv)
  rw [Vals.ref1 r]
  unfold okSort at ok
  simp only [Bool.and_eq_true] at ok
  obtain ⟨⟨⟨o1, o2⟩, o3⟩, o4⟩ := ok
  obtain ⟨e1, e2⟩ := each_of I sm rv dd o1
  have mem : ∀ d ∈ ds.map D.py, ∃ b ∈ ds, b.py = d := fun d hd => List.mem_map.mp hd
  refine PySem.W.sorted_data (bs := ds) (enc := D.py) hl.isList e1 e2 (fun d hd d' hd' => ?_) ?_ (by rw [← dd.len]; exact hz) (fun b hb => ?_) fun out ho eo => ?_
  · obtain ⟨b, hb, rfl⟩ := mem d hd
    obtain ⟨b', hb', rfl⟩ := mem d' hd'
    exact List.all_eq_true.mp (List.all_eq_true.mp o2 b hb) b' hb'
  · rw [Bool.or_eq_true] at o3
    rcases o3 with o3 | o3
    · refine .inl fun d hd => ?_
      obtain ⟨b, hb, rfl⟩ := mem d hd
      have z := List.all_eq_true.mp o3 b hb
      split at z
      · rename_i x r e; exact ⟨x, r, e⟩
      · cases z
    · refine .inr fun d hd => ?_
      obtain ⟨b, hb, rfl⟩ := mem d hd
      have z := List.all_eq_true.mp o3 b hb
      refine ⟨fun e => ?_, fun xs e => ?_⟩
      · rw [e] at z; cases z
      · rw [e] at z; cases z
  · have z := of_decide_eq_true (List.all_eq_true.mp o4 b hb)
    omega
  · obtain ⟨ws, w1, w2⟩ := of_each eo
    obtain ⟨ep, he'⟩ := PyProof.Rows.sortedAll_at s.heap its out.toArray
    have hlen : ws.length ≤ sizeLine := by rw [w1.length, ho, ← dd.len]; exact hz
    exact ⟨.ref _, upd H (s.heap.objs.size + 1) (.lst ws), I.laid (t' := s.toks) (fun _ _ => PyProof.Rows.sortedAll_old) (Nat.le_succ _) ⟨hlen, out, ep, w1, he'⟩, rfl, q _ ws (I.hok.fresh (Nat.le_succ _)) w2⟩
end DL
namespace DL
open PySem PySem.Spec PyProof.Rows L2 TL

def Cp (l : List Nat) : Prop := ∀ c ∈ l, c < 0x110000
theorem Cp.app {a b : List Nat} (ha : Cp a) (hb : Cp b) : Cp (a ++ b) := fun c h => (List.mem_append.mp h).elim (ha c) (hb c)
theorem cp_string (s : String) : Cp (tl (Str.ofString s)) := by
  rw [tl_ofString]
  intro c hc
  obtain ⟨k, _, rfl⟩ := List.mem_map.mp hc
  have h := k.valid
  show k.val.toNat < _
  rcases h with h | h
  · have : k.val.toNat < 0xd800 := h
    omega
  · exact h.2
theorem cp_reprChar {q c : Nat} (hq : q < 0x110000) (hc : c < 0x110000) : Cp (Builtin.Str.reprChar q c) := by
  have hex : ∀ w, Cp (List.replicate (w - ((Nat.toDigits 16 c).map Char.toNat).length) 48 ++ (Nat.toDigits 16 c).map Char.toNat) := fun w => by
    refine Cp.app (fun d hd => ?_) fun d hd => ?_
    · rw [(List.mem_replicate.mp hd).2]; decide
    · obtain ⟨k, _, rfl⟩ := List.mem_map.mp hd
      rcases k.valid with h | h
      · have : k.val.toNat < 0xd800 := h
        show k.val.toNat < _
        omega
      · exact h.2
  have two : ∀ a b : Nat, a < 0x110000 → b < 0x110000 → Cp [a, b] := fun a b ha hb d hd => by
    rcases List.mem_cons.mp hd with e | hd
    · rw [e]; exact ha
    · rw [List.mem_singleton.mp hd]; exact hb
  unfold Builtin.Str.reprChar
  dsimp only
  split
  · exact two _ _ (by decide) hc
  split
  · exact two _ _ (by decide) (by decide)
  split
  · exact two _ _ (by decide) (by decide)
  split
  · exact two _ _ (by decide) (by decide)
  split
  · intro d hd; rw [List.mem_singleton.mp hd]; exact hc
  split
  · exact (two _ _ (by decide) (by decide)).app (hex 2)
  split
  · exact (two _ _ (by decide) (by decide)).app (hex 4)
  · exact (two _ _ (by decide) (by decide)).app (hex 8)
theorem cp_fold {q : Nat} (hq : q < 0x110000) : ∀ (l : List Nat) (acc : Array Nat), Cp l → Cp acc.toList → Cp (l.foldl (fun out c => out ++ (Builtin.Str.reprChar q c).toArray) acc).toList
  | [], acc, _, h => h
  | c :: r, acc, hl, h => by
    rw [List.foldl_cons]
    refine cp_fold hq r _ (fun d hd => hl d (List.mem_cons_of_mem _ hd)) ?_
    rw [Array.toList_append]
    exact h.app (cp_reprChar hq (hl c List.mem_cons_self))
theorem cp_reprText {x : Str} (h : Cp (tl x)) : Cp (tl (reprText x)) := by
  have hq : reprQuote x < 0x110000 := by unfold reprQuote; split <;> decide
  unfold reprText
  show Cp (Array.push _ _).toList
  rw [Array.toList_push, ← Array.foldl_toList]
  refine (cp_fold hq _ _ h fun c hc => ?_).app fun c hc => ?_
  · have hc : c ∈ [reprQuote x] := hc
    rw [List.mem_singleton.mp hc]; exact hq
  · rw [List.mem_singleton.mp hc]; exact hq
theorem cp_add {x y : Str} (hx : Cp (tl x)) (hy : Cp (tl y)) : Cp (tl (x ++ y)) := by rw [tl_append]; exact hx.app hy
theorem cp_from : ∀ (ts : List Str) (k : Nat) (acc : Str), Cp (tl acc) → (∀ t ∈ ts, Cp (tl t)) → Cp (tl (textFrom k acc ts))
  | [], _, _, h, _ => h
  | t :: ts, k, acc, h, ht => cp_from ts (k + 1) _ (cp_add (cp_add h (by split <;> exact cp_string _)) (ht t List.mem_cons_self)) fun u hu => ht u (List.mem_cons_of_mem _ hu)
theorem cp_join {y : Str} (hy : Cp (tl y)) : ∀ (ts : List Str), (∀ t ∈ ts, Cp (tl t)) → Cp (tl (Str.join y ts))
  | [], _ => fun c hc => (by cases hc)
  | [t], h => h t List.mem_cons_self
  | t :: u :: r, h => cp_add (cp_add (h t List.mem_cons_self) hy) (cp_join hy (u :: r) fun v hv => h v (List.mem_cons_of_mem _ hv))
mutual
theorem cp_shown : ∀ d : PyData, d.canLay0 = true → Cp (tl d.shown)
  | .none, _ => cp_string _
  | .bool b, _ => by cases b <;> exact cp_string _
  | .int i, _ => cp_string _
  | .str x, h => cp_reprText (strOk_iff.mp h)
  | .list xs, h => cp_add (cp_from _ 0 _ (cp_string _) (cp_shownAll xs h)) (cp_string _)
  | .tuple xs, h => cp_add (cp_add (cp_string _) (cp_join (cp_string _) _ (cp_shownAll xs h))) (by split <;> exact cp_string _)
  | .dict _, h => by cases h
theorem cp_shownAll : ∀ ds : List PyData, PyData.canLayAll0 ds = true → ∀ t ∈ PyData.shownAll ds, Cp (tl t)
  | [], _, t, ht => by cases ht
  | d :: ds, h, t, ht => by
    have h : (PyData.canLay0 d && PyData.canLayAll0 ds) = true := h
    rw [Bool.and_eq_true] at h
    rcases List.mem_cons.mp ht with e | ht
    · rw [e]; exact cp_shown d h.1
    · exact cp_shownAll ds h.2 t ht
end
mutual
theorem plain_hasDict : ∀ d : D, d.plain = true → d.py.hasDict = false
  | .non, _ => rfl
  | .bl _, _ => rfl
  | .int _, _ => rfl
  | .str _, _ => rfl
  | .lst xs, h => plainL_hasDict xs (by simpa [D.plain] using h)
  | .tup xs, h => plainL_hasDict xs (by simpa [D.plain] using h)
  | .dic _, h => by cases h
  | .dit _, h => by cases h
  | .obj _ _, h => by cases h
theorem plainL_hasDict : ∀ ds : List D, plainL ds = true → PyData.hasDictAll (pyL ds) = false
  | [], _ => rfl
  | d :: ds, h => by
    rw [plainL, Bool.and_eq_true] at h
    show (PyData.hasDict d.py || PyData.hasDictAll (pyL ds)) = false
    rw [plain_hasDict d h.1, plainL_hasDict ds h.2]; rfl
end
/-- repr, str of data -/
def okShow (d : D) : Bool := d.plain && d.py.showable && decide (d.py.shown.length ≤ sizeLine) && decide (d.py.depth ≤ 60)
def gRepr : List D → Option D
  | [d] => if okShow d = true then some (.str d.py.shown) else none
  | _ => none
def rReprD (K : PySem.W.Frag) : List V → Hp → VK → Prop := fun xs H Q => ∃ G x d, xs = [x] ∧ Same G H ∧ BD K G H x d ∧ okShow d = true ∧ Q (.str d.py.shown) H
theorem calld_repr {K : PySem.W.Frag} : CallD K (rReprD K) gRepr := by
  intro G H xs ds d Q s h e z
  match ds, e with
  | [a], e =>
    obtain ⟨h0, rfl⟩ := ifs_some (show (if okShow a = true then some (D.str a.py.shown) else none) = some d from e)
    obtain ⟨v, rfl, b⟩ := h.one
    refine ⟨G, v, a, rfl, s, b, h0, z _ _ _ (Al.refl s) (.str _ ?_)⟩
    unfold okShow at h0
    simp only [Bool.and_eq_true, decide_eq_true_eq] at h0
    exact ⟨h0.1.2, strOk_iff.mpr (cp_shown _ (b.lay h0.1.1.1))⟩
theorem call_reprD {X : Cx} (hu : X.A.units + 64 < cLine) (hg : X.A.guards = some []) : CallR X (.builtin "repr") (rReprD X.K) := by
  intro pins s σ H xs us Q I r h
  obtain ⟨G, x, d, rfl, sm, b, ok, q⟩ := h
  obtain ⟨u, rfl, rx⟩ := vals1 r
  unfold okShow at ok
  simp only [Bool.and_eq_true, decide_eq_true_eq] at ok
  obtain ⟨⟨⟨o1, o2⟩, o3⟩, o4⟩ := ok
  obtain ⟨as, rd⟩ := b.reads I sm o1 rx
  have seq : ∀ a, u = .ref a → wpAny (model X.prog X.w) X.A (call (.builtin "repr") [u]) (EP X pins σ Q) X.xe s := fun a e => by
    subst e
    refine repr_of_reads' (h₀ := s.heap) rd o2 (fun hd => ?_) hg (by omega) (fun _ _ h => h) (fun h' t tk hk => ⟨.str _, H, I.kept (t' := tk) hk, ⟨_, rfl⟩, q⟩) o3
    rw [plain_hasDict d o1] at hd; cases hd
  cases d with
  | non => cases b.non; cases rx; exact PySem.P.repr_of_none ⟨.str _, H, I.tok _, ⟨_, rfl⟩, q⟩
  | bl k => cases b.bl; cases rx; exact PySem.P.repr_of_bool ⟨.str _, H, I.tok _, ⟨_, rfl⟩, q⟩
  | int i =>
    cases b.int
    obtain ⟨t, rfl⟩ := rx
    exact PySem.P.repr_of_int (of_decide_eq_true o2) ⟨.str _, H, I.tok _, ⟨_, rfl⟩, q⟩
  | str z =>
    cases b.str.1
    obtain ⟨t, rfl⟩ := rx
    exact PySem.P.repr_of_str ⟨.str _, H, I.tok _, ⟨_, rfl⟩, q⟩ o3
  | lst ds =>
    obtain ⟨a, vs, rfl, _⟩ := b.lst sm
    exact seq a rx
  | tup ds =>
    obtain ⟨a, vs, rfl, _⟩ := b.tup sm
    exact seq a rx
  | dic _ => cases o1
  | dit _ => cases o1
  | obj _ _ => cases o1

def strsD : List D → Option (List Str)
  | [] => some []
  | .str x :: r => (strsD r).map (x :: ·)
  | _ => none
theorem strsD_ok {K : PySem.W.Frag} {G : Hp} : ∀ {vs : List V} {ds : List D} {ys : List Str}, DDs K G vs ds → strsD ds = some ys → vs = ys.map V.str ∧ ∀ y ∈ ys, SOk y
  | [], [], _, _, e => by cases e; exact ⟨rfl, fun _ h => (by cases h)⟩
  | v :: vs, d :: ds, ys, .cons a r, e => by
    cases d with
    | str x =>
      have e : (strsD ds).map (x :: ·) = some ys := e
      cases q : strsD ds with
      | none => rw [q] at e; cases e
      | some l =>
        rw [q] at e; cases e
        cases a with
        | str _ ok =>
          obtain ⟨h1, h2⟩ := strsD_ok r q
          refine ⟨by rw [List.map_cons, h1], fun y hy => ?_⟩
          rcases List.mem_cons.mp hy with z | z
          · rw [z]; exact ok
          · exact h2 y z
    | _ => cases e
def gJoin (sep : D) (xs : List D) : Option D := match sep, xs with
  | .str a, [.lst ds] => (strsD ds).bind fun ys => if (ys.map (·.length)).sum + ys.length * a.length ≤ 16777216 then some (.str (Str.join a ys)) else none
  | .str a, [.tup ds] => (strsD ds).bind fun ys => if (ys.map (·.length)).sum + ys.length * a.length ≤ 16777216 then some (.str (Str.join a ys)) else none
  | _, _ => none
theorem join_len (a : Str) : ∀ ys : List Str, (Str.join a ys).length ≤ (ys.map (·.length)).sum + ys.length * a.length
  | [] => Nat.zero_le _
  | [y] => by simp [Str.join]
  | y :: z :: r => by
    have ih := join_len a (z :: r)
    show (y ++ a ++ Str.join a (z :: r)).length ≤ _
    rw [strLen_append, strLen_append]
    simp only [List.map_cons, List.sum_cons, List.length_cons] at ih ⊢
    have e : (r.length + 1 + 1) * a.length = (r.length + 1) * a.length + a.length := Nat.succ_mul _ _
    rw [e]; omega
theorem sok_join {a : Str} {ys : List Str} (ha : SOk a) (hy : ∀ y ∈ ys, SOk y) (hl : (ys.map (·.length)).sum + ys.length * a.length ≤ 16777216) : SOk (Str.join a ys) :=
  ⟨by rw [sizeLine_eq]; exact Nat.le_trans (join_len a ys) hl, strOk_iff.mpr (cp_join (strOk_iff.mp ha.2) ys fun y h => strOk_iff.mp (hy y h).2)⟩
section
variable {X : Cx} {Wi : Wish} {o e : Expr} {fo fe : EF} {apos pos : Pos}
/-- o.m(e), o a text -/
def eM1 (g : D → List D → Option D) (fo fe : EF) : EF := fun E => (fo E).bind fun p => (rd p.2 p.1).bind fun x => match x with
  | .str s => (fe p.2).bind fun q => (rd q.2 q.1).bind fun y => (ofO (g (.str s) [y])).bind fun d => .ok (.dat d, q.2)
  | _ => .stuck
def M1D (K : PySem.W.Frag) (r : V → List V → Hp → VK → Prop) (g : D → List D → Option D) : Prop :=
  ∀ (G H : Hp) (x : Str) (y : V) (b d : D) (Q : VK), Same G H → SOk x → BD K G H y b → g (.str x) [b] = some d → Rz K G H Q d → r (.str x) [y] H Q
theorem tM1_of {r : V → List V → Hp → VK → Prop} {g : D → List D → Option D} (hg : M1D X.K r g) : ∀ σ H Q, tE X.K Wi (eM1 g fo fe) σ H Q → tM1 r (tE X.K Wi fo) (tE X.K Wi fe) σ H Q := by
  intro σ H Q q
  obtain ⟨F, G, E, as, st, p⟩ := q
  refine ⟨F, G, E, as, st, Po.mono (fun x H1 m => ?_) (Po.bind p)⟩
  obtain ⟨w1, G1, E1, as1, s1, st1, wo1, p1⟩ := m
  obtain ⟨d1, e1, p1⟩ := Po.rd p1
  cases d1 with
  | str t =>
    obtain ⟨rfl, ok⟩ := (wo1.rd (Same.refl _) st1 e1).str
    refine ⟨⟨t, rfl⟩, F, G1, E1, as1, st1, Po.mono (fun y H2 m => ?_) (Po.bind p1)⟩
    obtain ⟨w2, G2, E2, as2, s2, st2, wo2, p2⟩ := m
    obtain ⟨d2, e2, p2⟩ := Po.rd p2
    obtain ⟨d, e3, p2⟩ := Po.of p2
    exact hg G2 H2 t y d2 d Q st2.s1 ok (wo2.rd (Same.refl _) st2 e2) e3 (Po.rz st2 p2)
  | _ => exact p1.elim
theorem m1d_join {K : PySem.W.Frag} : M1D K (fun x xs H Q => ∃ a p, ∃ ys : List Str, x = .str a ∧ xs = [.ref p] ∧ (SqL K H p (ys.map V.str) ∨ SqT K H p (ys.map V.str)) ∧
      (ys.map (·.length)).sum + ys.length * a.length ≤ 16777216 ∧ Q (.str (Txt.join a ys)) H) gJoin := by
  intro G H x y b d Q s ok hb e z
  have fin : ∀ {ds : List D} {vs : List V} {p : Addr}, DDs K G vs ds → y = .ref p → (SqL K H p vs ∨ SqT K H p vs) → ((strsD ds).bind fun ys => if (ys.map (·.length)).sum + ys.length * x.length ≤ 16777216 then some (D.str (Str.join x ys)) else none) = some d →
      ∃ a p, ∃ ys : List Str, V.str x = .str a ∧ [y] = [.ref p] ∧ (SqL K H p (ys.map V.str) ∨ SqT K H p (ys.map V.str)) ∧ (ys.map (·.length)).sum + ys.length * a.length ≤ 16777216 ∧ Q (.str (Txt.join a ys)) H := fun {ds vs p} dd ey sq e => by
    cases q : strsD ds with
    | none => rw [q] at e; cases e
    | some ys =>
      rw [q] at e
      obtain ⟨hl, rfl⟩ := ifs_some (show (if (ys.map (·.length)).sum + ys.length * x.length ≤ 16777216 then some (D.str (Str.join x ys)) else none) = some d from e)
      obtain ⟨ev, hy⟩ := strsD_ok dd q
      rw [ev] at sq
      exact ⟨x, p, ys, rfl, by rw [ey], sq, hl, by rw [join_eq]; exact z _ _ _ (Al.refl s) (.str _ (sok_join ok hy hl))⟩
  cases b with
  | lst ds =>
    obtain ⟨p, vs, rfl, h1, z1, d1⟩ := hb.lst s
    exact fin d1 rfl (.inl (SqL.of h1)) e
  | tup ds =>
    obtain ⟨p, vs, rfl, h1, z1, d1, _⟩ := hb.tup s
    exact fin d1 rfl (.inr (SqT.of h1)) e
  | _ => cases e
theorem de_join (ho : DE X Wi o fo) (he : DE X Wi e fe) (hs : starEach [e] X.env = [(false, eval e X.env)] := by rfl) (hbase : attributeBase o "join" X.env (eval o X.env) = eval o X.env := by rfl) (hline : (apos.endLine == pos.line) = true := by rfl) :
    DE X Wi (.Call (.Attribute o "join" apos) [e] [] pos) (eM1 gJoin fo fe) := PE.imp (pe_join ho he hs hbase hline) (tM1_of m1d_join)
end
end DL
namespace DL
open PySem PySem.Spec PyProof.Rows L2 TL

def sgn (c : Nat) : Str := ⟨#[c]⟩
def signs (x : Str) : List D := (tl x).map fun c => D.str (sgn c)
def sqD : D → Option (List D)
  | .lst ds => some ds
  | .tup ds => some ds
  | .str x => some (signs x)
  | _ => none
theorem sok_sgn {x : Str} (h : SOk x) {c : Nat} (hc : c ∈ tl x) : SOk (sgn c) := by
  refine ⟨?_, strOk_iff.mpr fun d hd => ?_⟩
  · show (1 : Nat) ≤ sizeLine
    decide
  · have e : tl (sgn c) = [c] := rfl
    rw [e, List.mem_singleton] at hd
    rw [hd]; exact strOk_iff.mp h.2 c hc
theorem signs_len (x : Str) : (signs x).length = x.length := by
  unfold signs; rw [List.length_map]; rfl
theorem signs_get {x : Str} {i c : Nat} (h : x.cps[i]? = some c) : (signs x)[i]? = some (.str (sgn c)) := by
  unfold signs tl
  rw [List.getElem?_map, Array.getElem?_toList, h]; rfl
theorem signs_mem {x : Str} {i c : Nat} (h : x.cps[i]? = some c) : c ∈ tl x := by
  unfold tl
  exact List.mem_of_getElem? (i := i) (by rw [Array.getElem?_toList]; exact h)

/-- a source of items: where it lies -/
inductive Src where
  | li (a : Addr) | tu (a : Addr) | tx (x : Str) (t : Tok)
def Src.at : Src → Addr → Nat → Heap → Prop
  | .li a, it, i, h => h.IsListIter it a i
  | .tu a, it, i, h => h.IsTupleIter it a i
  | .tx x t, it, i, h => h.IsStrIter it (strIterType x) x t i
def Src.obj : Src → Obj
  | .li a => { cls := .type "list_iterator", data := .fields #[.ref a, .int 0 0] }
  | .tu a => { cls := .type "tuple_iterator", data := .fields #[.ref a, .int 0 0] }
  | .tx x t => { cls := .type (strIterType x), data := .fields #[.str x t, .int 0 0] }
theorem Src.new (k : Src) {h : Heap} {it : Addr} (e : h.get? it = some k.obj) : k.at it 0 h := by
  cases k with
  | li a => exact ⟨_, e, rfl, rfl⟩
  | tu a => exact ⟨_, e, rfl, rfl⟩
  | tx x t => exact ⟨_, e, rfl, rfl⟩
theorem Src.live {k : Src} {it : Addr} {i : Nat} {h : Heap} (st : k.at it i h) : ∃ o, h.get? it = some o ∧ ∀ v, o.data ≠ .cell v := by
  cases k with
  | li a => obtain ⟨o, e, c, d⟩ := st; exact ⟨o, e, fun v z => by rw [d] at z; cases z⟩
  | tu a => obtain ⟨o, e, c, d⟩ := st; exact ⟨o, e, fun v z => by rw [d] at z; cases z⟩
  | tx x t => obtain ⟨o, e, c, d⟩ := st; exact ⟨o, e, fun v z => by rw [d] at z; cases z⟩
theorem Src.stay {k : Src} {it : Addr} {i : Nat} {h h' : Heap} (st : k.at it i h) (hk : ∀ o, h.get? it = some o → h'.get? it = some o) : k.at it i h' := by
  cases k with
  | li a => obtain ⟨o, e, r⟩ := st; exact ⟨o, hk o e, r⟩
  | tu a => obtain ⟨o, e, r⟩ := st; exact ⟨o, hk o e, r⟩
  | tx x t => obtain ⟨o, e, r⟩ := st; exact ⟨o, hk o e, r⟩
/-- the source k stands for the items ds of data -/
def SrcOk (K : PySem.W.Frag) (G : Hp) (ds : List D) : Src → Prop
  | .li a => ∃ vs, G a = some (.lst vs) ∧ vs.length ≤ sizeLine ∧ DDs K G vs ds
  | .tu a => ∃ vs, G a = some (.tup vs) ∧ vs.length ≤ sizeLine ∧ DDs K G vs ds
  | .tx x _ => SOk x ∧ ds = signs x
theorem SrcOk.up {K : PySem.W.Frag} {G G' : Hp} {ds : List D} (e : Same G G') : ∀ {k : Src}, SrcOk K G ds k → SrcOk K G' ds k
  | .li a, ⟨vs, h, z, r⟩ => ⟨vs, e _ _ h, z, r.up e⟩
  | .tu a, ⟨vs, h, z, r⟩ => ⟨vs, e _ _ h, z, r.up e⟩
  | .tx _ _, h => h
theorem SrcOk.le {K : PySem.W.Frag} {G : Hp} {ds : List D} : ∀ {k : Src}, SrcOk K G ds k → ds.length ≤ sizeLine
  | .li a, ⟨vs, h, z, r⟩ => by rw [← r.len]; exact z
  | .tu a, ⟨vs, h, z, r⟩ => by rw [← r.len]; exact z
  | .tx x _, ⟨h, e⟩ => by rw [e, signs_len]; exact h.1
/-- a value that can be walked -/
theorem src_of {K : PySem.W.Frag} {G : Hp} {v : V} {u : Value} {d : D} {ds : List D} (h : DD K G v d) (r : RelV v u) (e : sqD d = some ds) : ∃ k, SrcOk K G ds k ∧
    (match k with | .li a => u = .ref a | .tu a => u = .ref a | .tx x t => u = .str x t) := by
  cases h with
  | lst g z q => cases e; cases r; exact ⟨.li _, ⟨_, g, z, q⟩, rfl⟩
  | tup g z q => cases e; cases r; exact ⟨.tu _, ⟨_, g, z, q⟩, rfl⟩
  | str x ok => cases e; obtain ⟨t, rfl⟩ := r; exact ⟨.tx x t, ⟨ok, rfl⟩, rfl⟩
  | _ => cases e
/-- how its iterator draws, in a state that keeps it -/
structure Drawn (X : Cx) (G : Hp) (H : Hp) (k : Src) (ds : List D) (it : Addr) where
  fp : List Addr
  P : Nat → Value → Prop
  St : Nat → Heap → Prop
  draws : Draws X.prog X.w X.A.in1 it fp ds.length P St
  mem : it ∈ fp
  old : ∀ b ∈ fp, b = it ∨ H b ≠ none
  item : ∀ i u, P i u → ∃ v d, ds[i]? = some d ∧ RelV v u ∧ DD X.K G v d
  back : ∀ i h, St i h → k.at it i h
theorem Src.drawn {X : Cx} {pins : List (Addr × Obj)} {σ : L2.St} {G H : Hp} {s : Shared} {k : Src} {ds : List D} {it : Addr} {i : Nat} (hh : X.A.handled = none) (I : Inv X pins σ H s) (e : Same G H) (ok : SrcOk X.K G ds k) (hn : H it = none) (st : k.at it i s.heap) :
    ∃ Z : Drawn X G H k ds it, Z.St i s.heap := by
  have hh1 : X.A.in1.handled = none := hh
  cases k with
  | li a =>
    obtain ⟨vs, g, z, q⟩ := ok
    have hne : a ≠ it := fun w => by rw [w] at g; rw [e _ _ g] at hn; cases hn
    obtain ⟨its, rv, p, _⟩ := I.list (SqL.of (e _ _ g))
    have hl : its.toArray.size = ds.length := by rw [List.size_toArray, ← rv.length, q.len]
    have D0 := Draws.list (prog := X.prog) (w := X.w) hh1 it a hne its.toArray
    rw [hl] at D0
    refine ⟨⟨_, _, _, D0, by simp, fun b hb => ?_, fun j u hj => ?_, fun j h hj => hj.1⟩, st, p.isList⟩
    · have hb' : b = it ∨ b = a := by simpa using hb
      rcases hb' with w | w
      · exact .inl w
      · rw [w]; exact .inr (by rw [e _ _ g]; exact fun z => nomatch z)
    · have hj : its[j]? = some u := by simpa using hj
      obtain ⟨v, e1, r1⟩ : ∃ v, vs[j]? = some v ∧ RelV v u := by
        have hlt : j < vs.length := by rw [rv.length]; exact (List.getElem?_eq_some_iff.mp hj).1
        obtain ⟨u', hu', ru'⟩ := rv.get (List.getElem?_eq_getElem hlt)
        rw [hj] at hu'; cases hu'
        exact ⟨_, List.getElem?_eq_getElem hlt, ru'⟩
      obtain ⟨d, e2, dd⟩ := q.getV e1
      exact ⟨v, d, e2, r1, dd⟩
  | tu a =>
    obtain ⟨vs, g, z, q⟩ := ok
    have hne : a ≠ it := fun w => by rw [w] at g; rw [e _ _ g] at hn; cases hn
    obtain ⟨its, rv, p, _⟩ := I.tuple (SqT.of (e _ _ g))
    have hl : its.toArray.size = ds.length := by rw [List.size_toArray, ← rv.length, q.len]
    have D0 := Draws.tuple (prog := X.prog) (w := X.w) hh1 it a hne its.toArray
    rw [hl] at D0
    refine ⟨⟨_, _, _, D0, by simp, fun b hb => ?_, fun j u hj => ?_, fun j h hj => hj.1⟩, st, p⟩
    · have hb' : b = it ∨ b = a := by simpa using hb
      rcases hb' with w | w
      · exact .inl w
      · rw [w]; exact .inr (by rw [e _ _ g]; exact fun z => nomatch z)
    · have hj : its[j]? = some u := by simpa using hj
      obtain ⟨v, e1, r1⟩ : ∃ v, vs[j]? = some v ∧ RelV v u := by
        have hlt : j < vs.length := by rw [rv.length]; exact (List.getElem?_eq_some_iff.mp hj).1
        obtain ⟨u', hu', ru'⟩ := rv.get (List.getElem?_eq_getElem hlt)
        rw [hj] at hu'; cases hu'
        exact ⟨_, List.getElem?_eq_getElem hlt, ru'⟩
      obtain ⟨d, e2, dd⟩ := q.getV e1
      exact ⟨v, d, e2, r1, dd⟩
  | tx x t =>
    obtain ⟨ok, rfl⟩ := ok
    have D0 := Draws.text (prog := X.prog) (w := X.w) hh1 it x t
    have hl : x.cps.size = (signs x).length := (signs_len x).symm
    rw [hl] at D0
    refine ⟨⟨_, _, _, D0, by simp, fun b hb => ?_, fun j u hj => ?_, fun j h hj => hj⟩, st⟩
    · exact .inl (by simpa using hb)
    · obtain ⟨c, t', hc, rfl⟩ := hj
      exact ⟨.str (sgn c), .str (sgn c), signs_get hc, ⟨t', rfl⟩, .str _ (sok_sgn ok (signs_mem hc))⟩

def ItZ (K : PySem.W.Frag) (G0 : Hp) (d1 d2 : List D) : It :=
  ⟨fun i H => Same G0 H ∧ i < min d1.length d2.length, fun i H v H' => ∃ T x y a b, v = .ref T ∧ H T = none ∧ H' = upd H T (.tup [x, y]) ∧ d1[i]? = some a ∧ DD K G0 x a ∧ d2[i]? = some b ∧ DD K G0 y b,
    fun i H => Same G0 H ∧ i = min d1.length d2.length⟩
structure Apart5 (z TI TO i1 i2 : Addr) : Prop where
  a1 : TI ≠ z
  a2 : TO ≠ z
  a3 : TI ≠ TO
  a4 : TI ≠ i1
  a5 : z ≠ i1
  a6 : TO ≠ i1
  a7 : TI ≠ i2
  a8 : z ≠ i2
  a9 : TO ≠ i2
  a10 : i1 ≠ i2
theorem turn_Z {P : Program} {w : World} {K : PySem.W.Frag} {elts : List Expr} {kk : Nat} {tpos : Pos} {z TI TO i1 i2 : Addr} {G0 : Hp} {k1 k2 : Src} {d1 d2 : List D} (D : Apart5 z TI TO i1 i2) (o1 : SrcOk K G0 d1 k1) (o2 : SrcOk K G0 d2 k2) :
    Turn P w K (.Tuple elts kk tpos) (ItZ K G0 d1 d2) [z, TI, TO, i1, i2] z (fun i h => IsZip h z TI TO .none ∧ IsTupOf2 h TI (.ref i1) (.ref i2) ∧ (∃ x y, IsTupOf2 h TO x y) ∧ k1.at i1 i h ∧ k2.at i2 i h) where
  mem := by simp
  obj := fun i h st c hc => by
    obtain ⟨hz, hTI, ⟨x, y, hTO⟩, h1, h2⟩ := st
    have e' : c = z ∨ c = TI ∨ c = TO ∨ c = i1 ∨ c = i2 := by simpa using hc
    rcases e' with q | q | q | q | q
    · rw [q]; exact ⟨_, hz, fun v q => nomatch q⟩
    · rw [q]; exact ⟨_, hTI, fun v q => nomatch q⟩
    · rw [q]; exact ⟨_, hTO, fun v q => nomatch q⟩
    · rw [q]; exact Src.live h1
    · rw [q]; exact Src.live h2
  keep := fun i h h' st k => by
    obtain ⟨hz, hTI, ⟨x, y, hTO⟩, h1, h2⟩ := st
    exact ⟨k z (by simp) _ hz, k TI (by simp) _ hTI, ⟨x, y, k TO (by simp) _ hTO⟩, Src.stay h1 fun o q => k i1 (by simp) o q, Src.stay h2 fun o q => k i2 (by simp) o q⟩
  item := by
    intro X hP hw hK hc i pins s σ H E I hf st hg
    subst hP hw hK
    obtain ⟨hz, hTI, hTO, h1, h2⟩ := st
    obtain ⟨sm, hi⟩ := hg
    have nz : ∀ b ∈ [z, TI, TO, i1, i2], H b = none := fun b hb => (hf b hb).1
    obtain ⟨Z1, st1⟩ := k1.drawn (I.ok.hd hc) I sm o1 (nz i1 (by simp)) h1
    obtain ⟨Z2, st2⟩ := k2.drawn (I.ok.hd hc) I sm o2 (nz i2 (by simp)) h2
    have nf : ∀ {b it : Addr} {fp : List Addr}, (∀ c ∈ fp, c = it ∨ H c ≠ none) → b ≠ it → H b = none → b ∉ fp := fun ho hne hb hm => by
      rcases ho _ hm with w | w
      · exact hne w
      · exact w hb
    have S : ZipSep2 z TI TO i1 i2 Z1.fp Z2.fp := ⟨D.a1, D.a2, D.a3, D.a4, Z1.mem, nf Z1.old D.a5 (nz z (by simp)), nf Z1.old D.a6 (nz TO (by simp)), D.a7, Z2.mem, nf Z2.old D.a8 (nz z (by simp)), nf Z2.old D.a9 (nz TO (by simp)),
      nf Z2.old D.a10 (nz i1 (by simp)), nf Z1.old D.a10.symm (nz i2 (by simp))⟩
    have W := GoesN.zip2 (elts := elts) (x1 := kk) (pos := tpos) S Z1.draws Z2.draws
    have new5 : ∀ c ∈ [z, TI, TO, i1, i2], c < s.heap.objs.size := fun c hcm => by
      obtain ⟨o, ho⟩ : ∃ o, s.heap.get? c = some o := by
        have e' : c = z ∨ c = TI ∨ c = TO ∨ c = i1 ∨ c = i2 := by simpa using hcm
        rcases e' with q | q | q | q | q
        · rw [q]; exact ⟨_, hz⟩
        · rw [q]; exact ⟨_, hTI⟩
        · obtain ⟨x, y, hTO⟩ := hTO; rw [q]; exact ⟨_, hTO⟩
        · rw [q]; obtain ⟨o, e, _⟩ := Src.live h1; exact ⟨o, e⟩
        · rw [q]; obtain ⟨o, e, _⟩ := Src.live h2; exact ⟨o, e⟩
      exact Heap.lt_size ho
    refine wpAny_mono (W.goes i s (fun v s2 => ∃ x H', Inv X pins σ H' s2 ∧ RelV x v ∧ (ItZ X.K G0 d1 d2).yld i H x H' ∧ (IsZip s2.heap z TI TO .none ∧ IsTupOf2 s2.heap TI (.ref i1) (.ref i2) ∧ (∃ x y, IsTupOf2 s2.heap TO x y) ∧ k1.at i1 (i + 1) s2.heap ∧ k2.at i2 (i + 1) s2.heap) ∧ ∀ b ∈ [z, TI, TO, i1, i2], H' b = none) E hi ⟨hz, hTI, hTO, st1, st2⟩ fun v h' tk hY st' hk htk => ?_) (fun r s1 q => q) fun _ _ q => q
    obtain ⟨T, x, y, rfl, hT, p1, p2, tup⟩ := hY
    obtain ⟨vx, dx, e1, r1, dd1⟩ := Z1.item i x p1
    obtain ⟨vy, dy, e2, r2, dd2⟩ := Z2.item i y p2
    obtain ⟨z', TI', TO', s1', s2'⟩ := st'
    have new : ObjOk X.prog X.w (upd H T (.tup [vx, vy])) h' T (.tup [vx, vy]) := ⟨by show 2 ≤ sizeLine; decide, [x, y], .cons r1 (.cons r2 .nil), tup⟩
    have I1 : Inv X pins σ (upd H T (.tup [vx, vy])) { s with heap := h', toks := tk } :=
      I.turnedNew (ch := [z, TI, TO, i1, i2]) (fun c o hb q => hk c o (fun hm => hb (by
        have e' : c = z ∨ c = TO ∨ c = i1 ∨ c = i2 := by simpa using hm
        rcases e' with q | q | q | q <;> rw [q] <;> simp)) q) hf hT new
    refine ⟨.ref T, _, I1, rfl, ⟨T, vx, vy, dx, dy, rfl, I.hok.fresh hT, rfl, e1, dd1, e2, dd2⟩, ⟨z', TI', TO', Z1.back _ _ s1', Z2.back _ _ s2'⟩, fun c hcm => ?_⟩
    rw [upd_ne (Nat.ne_of_lt (Nat.lt_of_lt_of_le (new5 c hcm) hT))]
    exact nz c hcm
  done := by
    intro X hP hw hK hc i pins s σ H E I hf st hg
    subst hP hw hK
    obtain ⟨hz, hTI, hTO, h1, h2⟩ := st
    obtain ⟨sm, hi⟩ := hg
    have nz : ∀ b ∈ [z, TI, TO, i1, i2], H b = none := fun b hb => (hf b hb).1
    obtain ⟨Z1, st1⟩ := k1.drawn (I.ok.hd hc) I sm o1 (nz i1 (by simp)) h1
    obtain ⟨Z2, st2⟩ := k2.drawn (I.ok.hd hc) I sm o2 (nz i2 (by simp)) h2
    have nf : ∀ {b it : Addr} {fp : List Addr}, (∀ c ∈ fp, c = it ∨ H c ≠ none) → b ≠ it → H b = none → b ∉ fp := fun ho hne hb hm => by
      rcases ho _ hm with w | w
      · exact hne w
      · exact w hb
    have S : ZipSep2 z TI TO i1 i2 Z1.fp Z2.fp := ⟨D.a1, D.a2, D.a3, D.a4, Z1.mem, nf Z1.old D.a5 (nz z (by simp)), nf Z1.old D.a6 (nz TO (by simp)), D.a7, Z2.mem, nf Z2.old D.a8 (nz z (by simp)), nf Z2.old D.a9 (nz TO (by simp)),
      nf Z2.old D.a10 (nz i1 (by simp)), nf Z1.old D.a10.symm (nz i2 (by simp))⟩
    have W := GoesN.zip2 (elts := elts) (x1 := kk) (pos := tpos) S Z1.draws Z2.draws
    subst hi
    refine W.stops s (fun s2 => Inv X pins σ H s2) E ⟨hz, hTI, hTO, st1, st2⟩ fun h' tk hk htk => ?_
    exact I.turnedL (ch := [z, TI, TO, i1, i2]) (fun c o hb q => hk c o (fun hm => hb (by
        have e' : c = z ∨ c = TO ∨ c = i1 ∨ c = i2 := by simpa using hm
        rcases e' with q | q | q | q <;> rw [q] <;> simp)) q) hf
  self := fun A i s Q E st h => wpAny_pyIter_zip st.1 h
theorem jd_Z {K : PySem.W.Frag} {G0 : Hp} {d1 d2 : List D} (hl : d1.length ≤ sizeLine) : JD K G0 (ItZ K G0 d1 d2) ((List.zip d1 d2).map fun p => .tup [p.1, p.2]) := by
  have en : ((List.zip d1 d2).map fun p => D.tup [p.1, p.2]).length = min d1.length d2.length := by rw [List.length_map, List.length_zip]
  refine ⟨by rw [en]; omega, fun G H s1 s2 => ⟨s1.trans s2, en⟩, fun G H i s1 s2 hi => ⟨s1.trans s2, by rw [en] at hi; exact hi⟩, fun G H i d x H' s1 s2 e y => ?_⟩
  obtain ⟨T, vx, vy, a, b, rfl, hT, rfl, e1, dd1, e2, dd2⟩ := y
  have ed : d = .tup [a, b] := by
    rw [List.getElem?_map, (List.getElem?_zip_eq_some (z := (a, b))).mpr ⟨e1, e2⟩] at e
    exact (Option.some.inj e).symm
  subst ed
  refine ⟨upd G T (.tup [vx, vy]), Al.one s2 hT, ?_⟩
  have sg : Same G0 (upd G T (.tup [vx, vy])) := s1.trans fun b u q => by rw [upd_ne (ne_of_none q (s2.free hT))]; exact q
  exact .tup upd_same (by show 2 ≤ sizeLine; decide) (.cons (dd1.up sg) (.cons (dd2.up sg) .nil))
/-- zip(a, b) -/
def iZ (fs : AF) : IF := fun E => (fs E).bind fun p => match p.1 with
  | [.dat a, .dat b] => (ofO (sqD a)).bind fun x => (ofO (sqD b)).bind fun y => .ok ((List.zip x y).map fun p => .tup [p.1, p.2], p.2)
  | _ => .stuck
theorem PoI.ofO {K : PySem.W.Frag} {Wi : Wish} {F : Fr} {G : Hp} {σ : L2.St} {R : It → Hp → Prop} {α : Type} {o : Option α} {g : α → Res (List D × Env)} (h : PoI K Wi F G σ R ((DL.ofO o).bind g)) : ∃ d, o = some d ∧ PoI K Wi F G σ R (g d) := by
  cases o with
  | none => exact h.elim
  | some d => exact ⟨d, rfl, h⟩
theorem PoI.up {K : PySem.W.Frag} {Wi : Wish} {F : Fr} {G G1 : Hp} {σ : L2.St} {R : It → Hp → Prop} {r : Res (List D × Env)} (e : Same G G1) (h : PoI K Wi F G σ R r) : PoI K Wi F G1 σ R r := by
  match r, h with
  | .ok (w, E'), h => exact fun J G' H' as' s => h J G' H' as' (e.trans s)
  | .err x E', h => exact fun c dx G' H' as' s => h c dx G' H' as' (e.trans s)
theorem PoA.bindI {K : PySem.W.Frag} {Wi : Wish} {F : Fr} {G : Hp} {σ : L2.St} {R : It → Hp → Prop} {r : Res (List W × Env)} {g : List W × Env → Res (List D × Env)} (h : PoI K Wi F G σ R (r.bind g)) :
    PoA K Wi F G σ (MidA K F G σ fun _ ws G1 _ E1 _ => PoI K Wi F G1 σ R (g (ws, E1))) r := by
  match r, h with
  | .ok (w, E'), h => exact fun v G' H' as' s st wo => ⟨w, G', E', as', s, st, wo, PoI.up s h⟩
  | .err x E', h => exact h
theorem Po.bindI {K : PySem.W.Frag} {Wi : Wish} {F : Fr} {G : Hp} {σ : L2.St} {R : It → Hp → Prop} {r : Res (W × Env)} {g : W × Env → Res (List D × Env)} (h : PoI K Wi F G σ R (r.bind g)) :
    Po K Wi F G σ (Mid K F G σ fun _ ws G1 _ E1 _ => PoI K Wi F G1 σ R (g (ws, E1))) r := by
  match r, h with
  | .ok (w, E'), h => exact fun v G' H' as' s st wo => ⟨w, G', E', as', s, st, wo, PoI.up s h⟩
  | .err x E', h => exact h
theorem begins_src {v : Value} {k : Src} (e : match k with | .li a => v = .ref a | .tu a => v = .ref a | .tx x t => v = .str x t) {X : Cx} {pins : List (Addr × Obj)} {σ : L2.St} {G H : Hp} {s : Shared} {ds : List D} (I : Inv X pins σ H s) (sm : Same G H) (ok : SrcOk X.K G ds k) :
    ∃ HB : Heap → Prop, Begins v k.obj HB ∧ HB s.heap := by
  cases k with
  | li a =>
    obtain ⟨vs, g, z, q⟩ := ok
    obtain ⟨its, rv, p, _⟩ := I.list (SqL.of (sm _ _ g))
    cases e
    exact ⟨_, begins_list a its.toArray, p.isList⟩
  | tu a =>
    obtain ⟨vs, g, z, q⟩ := ok
    obtain ⟨its, rv, p, _⟩ := I.tuple (SqT.of (sm _ _ g))
    cases e
    exact ⟨_, begins_tuple a its.toArray, p⟩
  | tx x t => cases e; exact ⟨_, begins_text x t, trivial⟩
theorem di_zip {X : Cx} {Wi : Wish} {e e2 : Expr} {fs : AF} {p pos tpos : Pos} {elts : List Expr} {kk : Nat} (hg : Gl X "zip") (hm : X.mg "zip" = none) (ha : DA X Wi [e, e2] fs)
    (hs : starEach [e, e2] X.env = (false, eval e X.env) :: starEach [e2] X.env := by rfl) (hpl : (backTo pos (starEach [e2] X.env)).any (·.1) = false := by rfl) :
    DI X Wi (.Tuple elts kk tpos) (.Call (.Name "zip" p) [e, e2] [] pos) (iZ fs) := by
  refine ⟨fun pins s σ H R I h => ?_⟩
  obtain ⟨F, G, E, as, st, pq⟩ := h
  refine Call_ (ld_blt I hg hm PyProof.Rows.boot_zip (PyProof.Rows.callWith_type1 (thn (ha.run pos pins s σ H _ I ⟨F, G, E, as, st, PoA.bindI pq⟩) fun us s1 ⟨vs, H1, I1, r1, q1⟩ => ?_) hs hpl))
  obtain ⟨ws, G1, E1, as1, sm1, st1, wo1, p1⟩ := q1
  match ws, p1 with
  | [.dat a, .dat b], p1 =>
    obtain ⟨d1, e1, p1⟩ := PoI.ofO p1
    obtain ⟨d2, e2', p1⟩ := PoI.ofO p1
    match vs, wo1 with
    | [x, y], wo1 =>
      cases r1 with
      | cons rx rr =>
        cases rr with
        | cons ry rr =>
          cases rr
          obtain ⟨k1, ok1, u1⟩ := src_of wo1.1 rx e1
          obtain ⟨k2, ok2, u2⟩ := src_of wo1.2.1 ry e2'
          obtain ⟨B1, b1, hb1⟩ := begins_src u1 I1 st1.s1 ok1
          obtain ⟨B2, b2, hb2⟩ := begins_src u2 I1 st1.s1 ok2
          refine zip_begins2 b1 b2 hb1 hb2 fun h' hz hTI hTO g1 g2 hsz hk => wpAny_pyIter_zip hz ?_
          have I2 : Inv X pins σ H1 { s1 with heap := h' } := I1.kept (t' := s1.toks) hk
          have D5 : Apart5 (s1.heap.objs.size + 4) (s1.heap.objs.size + 2) (s1.heap.objs.size + 3) s1.heap.objs.size (s1.heap.objs.size + 1) := by
            constructor <;> (intro q; have q' : (_ : Nat) = _ := q; omega)
          refine ⟨s1.heap.objs.size + 4, [s1.heap.objs.size + 4, s1.heap.objs.size + 2, s1.heap.objs.size + 3, s1.heap.objs.size, s1.heap.objs.size + 1], _, _, H1, rfl, I2, turn_Z D5 ok1 ok2, ⟨hz, hTI, ⟨_, _, hTO⟩, k1.new g1, k2.new g2⟩, fun c hcm => ?_, p1 _ G1 H1 as1 (Same.refl _) st1 (jd_Z ok1.le)⟩
          have e' : c = s1.heap.objs.size + 4 ∨ c = s1.heap.objs.size + 2 ∨ c = s1.heap.objs.size + 3 ∨ c = s1.heap.objs.size ∨ c = s1.heap.objs.size + 1 := by simpa using hcm
          have hle : s1.heap.objs.size ≤ c := by
            rcases e' with z | z | z | z | z
            · rw [z]; exact Nat.le_add_right _ _
            · rw [z]; exact Nat.le_add_right _ _
            · rw [z]; exact Nat.le_add_right _ _
            · rw [z]; exact Nat.le_refl _
            · rw [z]; exact Nat.le_add_right _ _
          exact I1.fpOk hle (I1.hok.fresh hle)
end DL
namespace DL
open PySem PySem.Spec PyProof.Rows L2 TL

def numD (k : Int) : List D → List D
  | [] => []
  | d :: ds => .tup [.int k, d] :: numD (k + 1) ds
theorem numD_len : ∀ (ds : List D) (k : Int), (numD k ds).length = ds.length
  | [], _ => rfl
  | _ :: ds, k => congrArg Nat.succ (numD_len ds (k + 1))
theorem numD_get : ∀ (ds : List D) (k : Int) (i : Nat), (numD k ds)[i]? = ds[i]?.map fun d => .tup [.int (k + (i : Nat)), d]
  | [], _, i => by simp [numD]
  | d :: ds, k, 0 => by simp [numD]
  | d :: ds, k, i + 1 => by
    have h := numD_get ds (k + 1) i
    rw [numD, List.getElem?_cons_succ, List.getElem?_cons_succ, h]
    have e : k + 1 + ((i : Nat) : Int) = k + ((i + 1 : Nat) : Int) := by omega
    rw [e]
def ItN (K : PySem.W.Frag) (G0 : Hp) (k0 : Int) (d1 : List D) : It :=
  ⟨fun i H => Same G0 H ∧ i < d1.length, fun i H v H' => ∃ T x a, v = .ref T ∧ H T = none ∧ H' = upd H T (.tup [.int (k0 + (i : Nat)), x]) ∧ d1[i]? = some a ∧ DD K G0 x a, fun i H => Same G0 H ∧ i = d1.length⟩
theorem turn_N {P : Program} {w : World} {K : PySem.W.Frag} {elts : List Expr} {kk : Nat} {tpos : Pos} {e it : Addr} {G0 : Hp} {k1 : Src} {d1 : List D} {k0 : Int} (ne : e ≠ it) (o1 : SrcOk K G0 d1 k1) :
    Turn P w K (.Tuple elts kk tpos) (ItN K G0 k0 d1) [e, it] e (fun i h => (∃ old, IsEnum h e it (k0 + ((i : Nat) : Int)) old) ∧ k1.at it i h) where
  mem := by simp
  obj := fun i h st c hc => by
    obtain ⟨⟨old, hz⟩, h1⟩ := st
    have e' : c = e ∨ c = it := by simpa using hc
    rcases e' with q | q
    · rw [q]; exact ⟨_, hz, fun v q => nomatch q⟩
    · rw [q]; exact Src.live h1
  keep := fun i h h' st k => by
    obtain ⟨⟨old, hz⟩, h1⟩ := st
    exact ⟨⟨old, k e (by simp) _ hz⟩, Src.stay h1 fun o q => k it (by simp) o q⟩
  item := by
    intro X hP hw hK hc i pins s σ H E I hf st hg
    subst hP hw hK
    obtain ⟨hz, h1⟩ := st
    obtain ⟨sm, hi⟩ := hg
    have nz : ∀ b ∈ [e, it], H b = none := fun b hb => (hf b hb).1
    obtain ⟨Z1, st1⟩ := k1.drawn (I.ok.hd hc) I sm o1 (nz it (by simp)) h1
    have nf : e ∉ Z1.fp := fun hm => by
      rcases Z1.old _ hm with w | w
      · exact ne w
      · exact w (nz e (by simp))
    have W := GoesN.enumFrom (elts := elts) (x1 := kk) (pos := tpos) k0 Z1.draws e ne nf Z1.mem
    have new2 : ∀ c ∈ [e, it], c < s.heap.objs.size := fun c hcm => by
      obtain ⟨o, ho⟩ : ∃ o, s.heap.get? c = some o := by
        have e' : c = e ∨ c = it := by simpa using hcm
        rcases e' with q | q
        · obtain ⟨old, hz⟩ := hz; rw [q]; exact ⟨_, hz⟩
        · rw [q]; obtain ⟨o, e, _⟩ := Src.live h1; exact ⟨o, e⟩
      exact Heap.lt_size ho
    refine wpAny_mono (W.goes i s (fun v s2 => ∃ x H', Inv X pins σ H' s2 ∧ RelV x v ∧ (ItN X.K G0 k0 d1).yld i H x H' ∧ ((∃ old, IsEnum s2.heap e it (k0 + ((i + 1 : Nat) : Int)) old) ∧ k1.at it (i + 1) s2.heap) ∧ ∀ b ∈ [e, it], H' b = none) E hi ⟨hz, st1⟩ fun v h' tk hY st' hk htk => ?_) (fun r s1 q => q) fun _ _ q => q
    obtain ⟨T, t, x, rfl, hT, p1, tup⟩ := hY
    obtain ⟨vx, dx, e1, r1, dd1⟩ := Z1.item i x p1
    obtain ⟨z', s1'⟩ := st'
    have new : ObjOk X.prog X.w (upd H T (.tup [.int (k0 + (i : Nat)), vx])) h' T (.tup [.int (k0 + (i : Nat)), vx]) := ⟨by show 2 ≤ sizeLine; decide, [.int (k0 + (i : Nat)) t, x], .cons ⟨t, rfl⟩ (.cons r1 .nil), tup⟩
    have I1 : Inv X pins σ (upd H T (.tup [.int (k0 + (i : Nat)), vx])) { s with heap := h', toks := tk } := I.turnedNew (ch := [e, it]) (fun c o hb q => hk c o hb q) hf hT new
    refine ⟨.ref T, _, I1, rfl, ⟨T, vx, dx, rfl, I.hok.fresh hT, rfl, e1, dd1⟩, ⟨z', Z1.back _ _ s1'⟩, fun c hcm => ?_⟩
    rw [upd_ne (Nat.ne_of_lt (Nat.lt_of_lt_of_le (new2 c hcm) hT))]
    exact nz c hcm
  done := by
    intro X hP hw hK hc i pins s σ H E I hf st hg
    subst hP hw hK
    obtain ⟨hz, h1⟩ := st
    obtain ⟨sm, hi⟩ := hg
    have nz : ∀ b ∈ [e, it], H b = none := fun b hb => (hf b hb).1
    obtain ⟨Z1, st1⟩ := k1.drawn (I.ok.hd hc) I sm o1 (nz it (by simp)) h1
    have nf : e ∉ Z1.fp := fun hm => by
      rcases Z1.old _ hm with w | w
      · exact ne w
      · exact w (nz e (by simp))
    have W := GoesN.enumFrom (elts := elts) (x1 := kk) (pos := tpos) k0 Z1.draws e ne nf Z1.mem
    subst hi
    refine W.stops s (fun s2 => Inv X pins σ H s2) E ⟨hz, st1⟩ fun h' tk hk htk => ?_
    exact I.turnedL (ch := [e, it]) (fun c o hb q => hk c o hb q) hf
  self := fun A i s Q E st h => by
    obtain ⟨⟨old, hz⟩, _⟩ := st
    exact wpAny_pyIter_enum hz h
theorem jd_N {K : PySem.W.Frag} {G0 : Hp} {k0 : Int} {d1 : List D} (hl : d1.length ≤ sizeLine) : JD K G0 (ItN K G0 k0 d1) (numD k0 d1) := by
  have en := numD_len d1 k0
  refine ⟨by rw [en]; exact hl, fun G H s1 s2 => ⟨s1.trans s2, en⟩, fun G H i s1 s2 hi => ⟨s1.trans s2, by rw [en] at hi; exact hi⟩, fun G H i d x H' s1 s2 e y => ?_⟩
  obtain ⟨T, vx, a, rfl, hT, rfl, e1, dd1⟩ := y
  have ed : d = .tup [.int (k0 + (i : Nat)), a] := by
    rw [numD_get, e1] at e
    exact (Option.some.inj e).symm
  subst ed
  refine ⟨upd G T (.tup [.int (k0 + (i : Nat)), vx]), Al.one s2 hT, ?_⟩
  have sg : Same G0 (upd G T (.tup [.int (k0 + (i : Nat)), vx])) := s1.trans fun b u q => by rw [upd_ne (ne_of_none q (s2.free hT))]; exact q
  exact .tup upd_same (by show 2 ≤ sizeLine; decide) (.cons (.int _) (.cons (dd1.up sg) .nil))

section
variable {prog : Program} {w : World} {A : Around} {E : Value → Shared → Prop} {s : Shared}
set_option maxHeartbeats 1000000 in
/-- enumerate(v): its object -/
theorem enum_new1 {v : Value} {ob : Obj} {HB : Heap → Prop} (B : Begins v ob HB) :
    Meets (Builtin.«enumerate.__new__» ⟨[.type "enumerate", v], []⟩) (fun _ R s => HB s.heap ∧
      R (.ok (.ret (.ref (s.heap.push ob).objs.size))) { s with heap := (s.heap.push ob).push { cls := .type "enumerate", data := .fields #[.none, .bool false, .ref s.heap.objs.size, rawInt 0, .none, .none] } }) :=
  .of_wp fun prog w A R s hs => by
    obtain ⟨hp, gn, dr, tk, os⟩ := s; obtain ⟨b1, fin⟩ := hs
    have isSub := sub_enumerate
    have begun : ∀ {A' : Around} {E : Value → Shared → Prop} {Q : Value → Shared → Prop}, Q (.ref hp.objs.size) ⟨hp.push ob, gn, dr, tk, os⟩ → wpAny (model prog w) A' (pyIter v) Q E ⟨hp, gn, dr, tk, os⟩ :=
      fun q => B.iter prog w _ _ ⟨hp, gn, dr, tk, os⟩ _ b1 q
    wp_walk using begun
    refine wpAny_stack_any fun sk => wpAny_pure ?_
    split
    · rename_i cl _ _ _ _ _
      cases (cl == Value.type "enumerate") <;> (wp_walk using begun; exact ⟨_, rfl, fin⟩)
    · wp_walk using begun
      exact ⟨_, rfl, fin⟩
theorem enum_begins1 {v : Value} {ob : Obj} {HB : Heap → Prop} {Q : Value → Shared → Prop} (B : Begins v ob HB) (b1 : HB s.heap)
    (fin : ∀ h', IsEnum h' (s.heap.objs.size + 1) s.heap.objs.size 0 .none → h'.get? s.heap.objs.size = some ob → (∀ b o, s.heap.get? b = some o → h'.get? b = some o) → Q (.ref (s.heap.objs.size + 1)) { s with heap := h' }) :
    wpAny (model prog w) A (call (.type "enumerate") [v]) Q E s := by
  refine callType_new F.called_enumerate (by decide) (F.typeCall_enumerate_1 _) (F.newCall_enumerate_1 _) (fun o => F.args_object_init_2 o _) F.entry_enumerate_new (enum_new1 B) ⟨b1, ?_⟩
  have size1 : (s.heap.push ob).objs.size = s.heap.objs.size + 1 := Heap.size_push ..
  have isE := Heap.get?_push_size (s.heap.push ob) (o := { cls := .type "enumerate", data := .fields #[.none, .bool false, .ref s.heap.objs.size, rawInt 0, .none, .none] }) rfl
  show _ ∧ _
  rw [size1] at isE ⊢
  exact ⟨⟨_, isE, rfl⟩, fin _ isE (Heap.get?_push_of_some _ (Heap.get?_push_size _ B.free)) fun b o q => Heap.get?_push_of_some _ (Heap.get?_push_of_some _ q)⟩
end
def iN (fs : AF) : IF := fun E => (fs E).bind fun p => match p.1 with
  | [.dat a] => (ofO (sqD a)).bind fun x => .ok (numD 0 x, p.2)
  | _ => .stuck
def iNk (k0 : Int) (fs : AF) : IF := fun E => (fs E).bind fun p => match p.1 with
  | [.dat a] => (ofO (sqD a)).bind fun x => .ok (numD k0 x, p.2)
  | _ => .stuck
section
variable {X : Cx} {Wi : Wish} {e : Expr} {fs : AF} {p pos tpos : Pos} {elts : List Expr} {kk : Nat}
/-- behind the call the iterator stands -/
theorem enum_pie {pins : List (Addr × Obj)} {σ : L2.St} {G1 H1 : Hp} {s1 : Shared} {E1 : Env} {as1 : Nat → List Addr} {F : Fr} {R : It → Hp → Prop} {k1 : Src} {d1 : List D} {k0 : Int} {h' : Heap} (I1 : Inv X pins σ H1 s1) (ok1 : SrcOk X.K G1 d1 k1) (st1 : StE X.K F G1 H1 σ E1 as1)
    (hz : IsEnum h' (s1.heap.objs.size + 1) s1.heap.objs.size k0 .none) (g1 : h'.get? s1.heap.objs.size = some k1.obj) (hk : ∀ b o, s1.heap.get? b = some o → h'.get? b = some o) (p1 : PoI X.K Wi F G1 σ R (.ok (numD k0 d1, E1))) :
    wpAny (model X.prog X.w) X.A (pyIter (.ref (s1.heap.objs.size + 1))) (PIE X pins σ (.Tuple elts kk tpos) R) X.xe { s1 with heap := h' } := by
  refine wpAny_pyIter_enum hz ?_
  have I2 : Inv X pins σ H1 { s1 with heap := h' } := I1.kept (t' := s1.toks) hk
  have e0 : k0 + ((0 : Nat) : Int) = k0 := by omega
  refine ⟨s1.heap.objs.size + 1, [s1.heap.objs.size + 1, s1.heap.objs.size], _, _, H1, rfl, I2, turn_N (k0 := k0) (Nat.succ_ne_self _) ok1, ⟨⟨_, by rw [e0]; exact hz⟩, k1.new g1⟩, fun c hcm => ?_, p1 _ G1 H1 as1 (Same.refl _) st1 (jd_N ok1.le)⟩
  have e' : c = s1.heap.objs.size + 1 ∨ c = s1.heap.objs.size := by simpa using hcm
  have hle : s1.heap.objs.size ≤ c := by
    rcases e' with z | z
    · rw [z]; exact Nat.le_add_right _ _
    · rw [z]; exact Nat.le_refl _
  exact I1.fpOk hle (I1.hok.fresh hle)
theorem di_enum (hg : Gl X "enumerate") (hm : X.mg "enumerate" = none) (ha : DA X Wi [e] fs) (hs : starEach [e] X.env = [(false, eval e X.env)] := by rfl) : DI X Wi (.Tuple elts kk tpos) (.Call (.Name "enumerate" p) [e] [] pos) (iN fs) := by
  refine ⟨fun pins s σ H R I h => ?_⟩
  obtain ⟨F, G, E, as, st, pq⟩ := h
  refine Call_ (ld_blt I hg hm PyProof.Rows.boot_enumerate (PyProof.Rows.callWith_type1 (thn (ha.run pos pins s σ H _ I ⟨F, G, E, as, st, PoA.bindI pq⟩) fun us s1 ⟨vs, H1, I1, r1, q1⟩ => ?_) hs rfl))
  obtain ⟨ws, G1, E1, as1, sm1, st1, wo1, p1⟩ := q1
  match ws, p1 with
  | [.dat a], p1 =>
    obtain ⟨d1, e1, p1⟩ := PoI.ofO p1
    match vs, wo1 with
    | [x], wo1 =>
      cases r1 with
      | cons rx rr =>
        cases rr
        obtain ⟨k1, ok1, u1⟩ := src_of wo1.1 rx e1
        obtain ⟨B1, b1, hb1⟩ := begins_src u1 I1 st1.s1 ok1
        exact enum_begins1 b1 hb1 fun h' hz g1 hk => enum_pie I1 ok1 st1 hz g1 hk p1
/-- a built-in class, called with keywords -/
theorem callWith_typeKw {M : Model} {A : Around} {EE : Value → Shared → Prop} {s : Shared} {env : PySem.Env} {T : String} {rest : List Expr} {kws : List Keyword} {Q : Value → Shared → Prop}
    (h : wpAny M A (spliced (backTo pos (starEach (e :: rest) env))) (fun vs s₁ => wpAny M A (evalAll ((backToKw pos (keywordEach kws env)).map (·.2)))
      (fun kvs s₂ => wpAny M A (call (.type T) vs (((backToKw pos (keywordEach kws env)).filterMap (·.1)).zip kvs)) Q EE s₂) EE s₁) EE s)
    (he : backTo pos (starEach (e :: rest) env) = (false, eval e env) :: backTo pos (starEach rest env)) (hplain : (backTo pos (starEach (e :: rest) env)).any (·.1) = false)
    (hall : (backToKw pos (keywordEach kws env)).all (·.1.isSome) = true) (hkw : (backToKw pos (keywordEach kws env)).any (·.1.isNone) = false) :
    wpAny M A (callWith pos (.type T) [] (backTo pos (starEach (e :: rest) env)) (backToKw pos (keywordEach kws env))) Q EE s := by
  unfold callWith
  rw [he] at h
  have ev := evalArgs_kwB (f := Value.type T) (Q := fun a s1 => wpAny M A (call (.type T) a.pos a.kw) Q EE s1) hall h
  rw [← he] at ev
  refine wpAny_bind (wpAny_holding (wpAny_mono ev (fun a s1 h1 => wpAny_bind (wpAny_standAt ?_)) fun _ _ x => x))
  simp only [hplain, hkw, Bool.or_false]
  refine wpAny_bind (wpAny_pure ?_)
  refine wpAny_bind (wpAny_mono h1 (fun r s2 hr => ?_) fun _ _ x => x)
  exact wpAny_bind (wpAny_holding (wpAny_point (wpAny_pure hr)))
theorem di_enumK {k0 : Int} {j : Nat} {kp kp2 : Pos} (h0 : -(2 ^ 63) ≤ k0 := by decide) (h1 : k0 < 2 ^ 63 := by decide) (hg : Gl X "enumerate") (hm : X.mg "enumerate" = none) (ha : DA X Wi [e] fs) (hs : starEach [e] X.env = [(false, eval e X.env)] := by rfl)
    (he : backTo pos (starEach [e] X.env) = (false, eval e X.env) :: backTo pos (starEach [] X.env) := by rfl) (hpl : (backTo pos (starEach [e] X.env)).any (·.1) = false := by rfl) :
    DI X Wi (.Tuple elts kk tpos) (.Call (.Name "enumerate" p) [e] [⟨some "start", .Constant (.int k0) j kp2, kp⟩] pos) (iNk k0 fs) := by
  refine ⟨fun pins s σ H R I h => ?_⟩
  obtain ⟨F, G, E, as, st, pq⟩ := h
  refine wpAny_Call_Name_kw (ld_blt I hg hm PyProof.Rows.boot_enumerate (callWith_typeKw (thn (ha.run pos pins s σ H _ I ⟨F, G, E, as, st, PoA.bindI pq⟩) fun us s1 ⟨vs, H1, I1, r1, q1⟩ => ?_) he hpl rfl rfl))
  refine thn ((pk_cons (nm := some "start") (kpos := kp) pe_int pk_nil).run pos pins s1 σ H1 (fun zs H2 => zs = [.int k0] ∧ H2 = H1) I1 (show tCons (tC (.int k0)) tNil σ H1 _ from ⟨rfl, rfl⟩)) fun kvs s2 ⟨zs, H2, I2, r2, ez, eh⟩ => ?_
  subst ez eh
  obtain ⟨ws, G1, E1, as1, sm1, st1, wo1, p1⟩ := q1
  match ws, p1 with
  | [.dat a], p1 =>
    obtain ⟨d1, e1, p1⟩ := PoI.ofO p1
    match vs, wo1 with
    | [x], wo1 =>
      cases r1 with
      | cons rx rr =>
        cases rr
        cases r2 with
        | cons rk rr2 =>
          cases rr2
          obtain ⟨t, rfl⟩ := rk
          obtain ⟨k1, ok1, u1⟩ := src_of wo1.1 rx e1
          obtain ⟨B1, b1, hb1⟩ := begins_src u1 I2 st1.s1 ok1
          exact enum_begins_start b1 hb1 h0 h1 fun h' hz g1 _ hk => enum_pie I2 ok1 st1 hz g1 hk p1
end

/-- over data -/
def iSq (f : EF) : IF := fun E => (f E).bind fun p => (ofO (asDat p.1)).bind fun d => (ofO (sqD d)).bind fun ds => .ok (ds, p.2)
section
variable {X : Cx} {Wi : Wish} {tg e e2 : Expr} {f : EF} {fs : AF} {p pos : Pos}
theorem jd_l {K : PySem.W.Frag} {G0 : Hp} {a : Addr} {vs : List V} {ds : List D} (g : G0 a = some (.lst vs)) (z : vs.length ≤ sizeLine) (q : DDs K G0 vs ds) : JD K G0 (Itl K a) ds := by
  refine ⟨by rw [← q.len]; exact z, fun G H s1 s2 => ⟨vs, SqL.of (s2 _ _ (s1 _ _ g)), by rw [q.len]; exact Nat.le_refl _⟩, fun G H i s1 s2 hi => ?_, fun G H i d x H' s1 s2 e y => ?_⟩
  · have hlt : i < vs.length := by rw [q.len]; exact hi
    exact ⟨vs, vs[i], SqL.of (s2 _ _ (s1 _ _ g)), List.getElem?_eq_getElem hlt⟩
  · obtain ⟨rfl, y⟩ := y
    obtain ⟨v, e1, dd⟩ := q.get e
    have e2 := y vs (SqL.of (s2 _ _ (s1 _ _ g)))
    rw [e1] at e2; cases e2
    exact ⟨G, Al.refl s2, dd.up s1⟩
theorem jd_t {K : PySem.W.Frag} {G0 : Hp} {a : Addr} {vs : List V} {ds : List D} (g : G0 a = some (.tup vs)) (z : vs.length ≤ sizeLine) (q : DDs K G0 vs ds) : JD K G0 (Itt K a) ds := by
  refine ⟨by rw [← q.len]; exact z, fun G H s1 s2 => ⟨vs, SqT.of (s2 _ _ (s1 _ _ g)), by rw [q.len]; exact Nat.le_refl _⟩, fun G H i s1 s2 hi => ?_, fun G H i d x H' s1 s2 e y => ?_⟩
  · have hlt : i < vs.length := by rw [q.len]; exact hi
    exact ⟨vs, vs[i], SqT.of (s2 _ _ (s1 _ _ g)), List.getElem?_eq_getElem hlt⟩
  · obtain ⟨rfl, y⟩ := y
    obtain ⟨v, e1, dd⟩ := q.get e
    have e2 := y vs (SqT.of (s2 _ _ (s1 _ _ g)))
    rw [e1] at e2; cases e2
    exact ⟨G, Al.refl s2, dd.up s1⟩
theorem jd_x {K : PySem.W.Frag} {G0 : Hp} {x : Str} (ok : SOk x) : JD K G0 (Its x) (signs x) := by
  refine ⟨by rw [signs_len]; exact ok.1, fun G H s1 s2 => by rw [signs_len]; exact Nat.le_refl _, fun G H i s1 s2 hi => by rw [signs_len] at hi; exact hi, fun G H i d v H' s1 s2 e y => ?_⟩
  obtain ⟨rfl, c, hc, rfl⟩ := y
  rw [signs_get hc] at e; cases e
  exact ⟨G, Al.refl s2, .str _ (sok_sgn ok (signs_mem hc))⟩
theorem di_seq (he : DE X Wi e f) : DI X Wi tg e (iSq f) := by
  refine ⟨fun pins s σ H R I h => ?_⟩
  obtain ⟨F, G, E, as, st, pq⟩ := h
  have pq : PoI X.K Wi F G σ R ((f E).bind fun p => (ofO (asDat p.1)).bind fun d => (ofO (sqD d)).bind fun ds => .ok (ds, p.2)) := pq
  cases hf : f E with
  | stuck => rw [hf] at pq; exact pq.elim
  | err x E' =>
    rw [hf] at pq
    refine (pi_list he).run pins s σ H R I ⟨F, G, E, as, st, ?_⟩
    rw [hf]; exact pq
  | ok wE =>
    obtain ⟨w, E1⟩ := wE
    rw [hf] at pq
    cases w with
    | own i => exact pq.elim
    | dat d =>
      obtain ⟨ds, e1, pq⟩ := PoI.ofO (show PoI X.K Wi F G σ R ((ofO (sqD d)).bind fun ds => .ok (ds, E1)) from pq)
      cases d with
      | lst l =>
        cases e1
        refine (pi_list he).run pins s σ H R I ⟨F, G, E, as, st, ?_⟩
        rw [hf]
        intro v G' H' as' sm st' wo
        have wo : DD X.K G' v (.lst ds) := wo
        cases wo with
        | lst g z q => exact ⟨_, rfl, ⟨_, SqL.of (st'.s1 _ _ g)⟩, pq _ G' H' as' sm st' (jd_l g z q)⟩
      | tup l =>
        cases e1
        refine (pi_tup he).run pins s σ H R I ⟨F, G, E, as, st, ?_⟩
        rw [hf]
        intro v G' H' as' sm st' wo
        have wo : DD X.K G' v (.tup ds) := wo
        cases wo with
        | tup g z q => exact ⟨_, rfl, ⟨_, SqT.of (st'.s1 _ _ g)⟩, pq _ G' H' as' sm st' (jd_t g z q)⟩
      | str x =>
        cases e1
        refine (pi_str he).run pins s σ H R I ⟨F, G, E, as, st, ?_⟩
        rw [hf]
        intro v G' H' as' sm st' wo
        have wo : DD X.K G' v (.str x) := wo
        cases wo with
        | str _ ok => exact ⟨x, rfl, pq _ G' H' as' sm st' (jd_x ok)⟩
      | _ => cases e1
def rgD (lo : Int) (n : Nat) : List D := (List.range n).map fun i => .int (lo + (i : Nat))
theorem jd_r {K : PySem.W.Frag} {G0 : Hp} {lo : Int} {n : Nat} (h : n ≤ sizeLine) : JD K G0 (Itr lo n) (rgD lo n) := by
  have en : (rgD lo n).length = n := by unfold rgD; rw [List.length_map, List.length_range]
  refine ⟨by rw [en]; exact h, fun G H s1 s2 => by rw [en]; exact Nat.le_refl _, fun G H i s1 s2 hi => by rw [en] at hi; exact hi, fun G H i d v H' s1 s2 e y => ?_⟩
  obtain ⟨rfl, rfl⟩ := y
  unfold rgD at e
  rw [List.getElem?_map] at e
  cases q : (List.range n)[i]? with
  | none => rw [q] at e; cases e
  | some j =>
    have ej : j = i := by
      have := List.getElem?_range (i := i) (n := n) (by have := (List.getElem?_eq_some_iff.mp q).1; rw [List.length_range] at this; exact this)
      rw [this] at q; exact (Option.some.inj q).symm
    rw [q, ej] at e; cases e
    exact ⟨G, Al.refl s2, .int _⟩
def iR1 (fs : AF) : IF := fun E => (fs E).bind fun p => match p.1 with
  | [.dat (.int j)] => if j ≤ 16777216 ∧ -(2 ^ 62) ≤ j then .ok (rgD 0 j.toNat, p.2) else .stuck
  | _ => .stuck
theorem di_range1 (hg : Gl X "range") (hm : X.mg "range" = none) (ha : DA X Wi [e] fs) (hs : starEach [e] X.env = [(false, eval e X.env)] := by rfl) : DI X Wi tg (.Call (.Name "range" p) [e] [] pos) (iR1 fs) :=
  PI.imp (pi_range1 hg hm ha hs) fun σ H Q q => by
    obtain ⟨F, G, E, as, st, pq⟩ := q
    refine ⟨F, G, E, as, st, PoA.mono (fun vs H1 m => ?_) (PoA.bindI pq)⟩
    obtain ⟨ws, G1, E1, as1, s1, st1, wo1, p1⟩ := m
    match ws, p1 with
    | [.dat (.int j)], p1 =>
      have p1 : PoI X.K Wi F G1 σ Q (if j ≤ 16777216 ∧ -(2 ^ 62) ≤ j then .ok (rgD 0 j.toNat, E1) else .stuck) := p1
      by_cases hj : j ≤ 16777216 ∧ -(2 ^ 62) ≤ j
      · rw [if_pos hj] at p1
        match vs, wo1 with
        | [v], wo1 =>
          have w1 : DD X.K G1 v (.int j) := wo1.1
          cases w1
          exact ⟨j, rfl, hj.2, by omega, p1 _ G1 H1 as1 (Same.refl _) st1 (jd_r (by rw [sizeLine_eq]; omega))⟩
      · rw [if_neg hj] at p1; exact p1.elim
end
end DL
namespace DL
open PySem PySem.Spec PyProof.Rows L2 TL

section
variable {κ : Type} [DecidableEq κ]
def lkM (l : List (κ × D)) (k : κ) : Option D := (l.find? fun kv => decide (kv.1 = k)).map (·.2)
def putM (l : List (κ × D)) (k : κ) (d : D) : List (κ × D) := if (l.any fun kv => decide (kv.1 = k)) = true then l.map (fun kv => if kv.1 = k then (kv.1, d) else kv) else l ++ [(k, d)]
end
def keyO : D → Option Key
  | .int i => some (.inl i)
  | .str x => some (.inr x)
  | _ => none
def keysO : List D → Option (List Key)
  | [] => some []
  | d :: r => (keyO d).bind fun k => (keysO r).map (k :: ·)
def kD : Key → D
  | .inl i => .int i
  | .inr x => .str x
section
variable {K : PySem.W.Frag} {G H : Hp}
theorem keyO_ok {v : V} {d : D} {k : Key} (h : DD K G v d) (e : keyO d = some k) : v = kV k ∧ KOk k := by
  cases h with
  | int i => cases e; exact ⟨rfl, trivial⟩
  | str x ok => cases e; exact ⟨rfl, ok⟩
  | _ => cases e
theorem keyB_ok {v : V} {d : D} {k : Key} (h : BD K G H v d) (e : keyO d = some k) : v = kV k ∧ KOk k := by
  cases h with
  | dat h => exact keyO_ok h e
  | own _ o => cases d <;> first | cases e; done | exact o.elim
theorem keysO_ok : ∀ {vs : List V} {ds : List D} {ks : List Key}, DDs K G vs ds → keysO ds = some ks → vs = ks.map kV ∧ ∀ x ∈ ks, KOk x
  | [], [], _, _, e => by cases e; exact ⟨rfl, fun _ h => (by cases h)⟩
  | v :: vs, d :: ds, ks, .cons a r, e => by
    have e : ((keyO d).bind fun k => (keysO ds).map (k :: ·)) = some ks := e
    cases q : keyO d with
    | none => rw [q] at e; cases e
    | some k =>
      rw [q] at e
      have e : (keysO ds).map (k :: ·) = some ks := e
      cases q2 : keysO ds with
      | none => rw [q2] at e; cases e
      | some r' =>
        rw [q2] at e; cases e
        obtain ⟨h1, h2⟩ := keyO_ok a q
        obtain ⟨h3, h4⟩ := keysO_ok r q2
        refine ⟨by rw [h1, h3]; rfl, fun x hx => ?_⟩
        rcases List.mem_cons.mp hx with z | z
        · rw [z]; exact h2
        · exact h4 x z
theorem kD_dd {k : Key} (h : KOk k) : DD K G (kV k) (kD k) := by
  cases k with
  | inl i => exact .int i
  | inr x => exact .str x h
theorem keysD_dd : ∀ {k : List Key}, (∀ x ∈ k, KOk x) → DDs K G (k.map kV) (k.map kD)
  | [], _ => .nil
  | k :: r, h => .cons (kD_dd (h k List.mem_cons_self)) (keysD_dd fun x hx => h x (List.mem_cons_of_mem _ hx))
theorem DKs.look : ∀ {kv : List (Key × V)} {kd : List (Key × D)} (k : Key), DKs K G kv kd → (∀ d, lkM kd k = some d → ∃ v, valV kv k = some v ∧ DD K G v d) ∧ (lkM kd k = none → valV kv k = none)
  | _, _, _, .nil => ⟨fun _ h => (by cases h), fun _ => rfl⟩
  | _, _, k, .cons (k := j) c a b => by
    by_cases h : j = k
    · subst h
      unfold lkM valV
      rw [List.find?_cons_of_pos (by simp), List.find?_cons_of_pos (by simp)]
      exact ⟨fun d e => ⟨_, rfl, by cases e; exact a⟩, fun e => by cases e⟩
    · have ih := DKs.look k b
      unfold lkM valV at ih ⊢
      rw [List.find?_cons_of_neg (by simpa using h), List.find?_cons_of_neg (by simpa using h)]
      exact ih
theorem DTs.look : ∀ {kv : List (List Key × V)} {kd : List (List Key × D)} (k : List Key), DTs K G kv kd → (∀ d, lkM kd k = some d → ∃ v, valV kv k = some v ∧ DD K G v d) ∧ (lkM kd k = none → valV kv k = none)
  | _, _, _, .nil => ⟨fun _ h => (by cases h), fun _ => rfl⟩
  | _, _, k, .cons (k := j) c a b => by
    by_cases h : j = k
    · subst h
      unfold lkM valV
      rw [List.find?_cons_of_pos (by simp), List.find?_cons_of_pos (by simp)]
      exact ⟨fun d e => ⟨_, rfl, by cases e; exact a⟩, fun e => by cases e⟩
    · have ih := DTs.look k b
      unfold lkM valV at ih ⊢
      rw [List.find?_cons_of_neg (by simpa using h), List.find?_cons_of_neg (by simpa using h)]
      exact ih
theorem DKs.any (k : Key) : ∀ {kv : List (Key × V)} {kd : List (Key × D)}, DKs K G kv kd → (kv.any fun x => decide (x.1 = k)) = (kd.any fun x => decide (x.1 = k))
  | _, _, .nil => rfl
  | _, _, .cons _ _ b => by rw [List.any_cons, List.any_cons, DKs.any k b]
theorem DTs.any (k : List Key) : ∀ {kv : List (List Key × V)} {kd : List (List Key × D)}, DTs K G kv kd → (kv.any fun x => decide (x.1 = k)) = (kd.any fun x => decide (x.1 = k))
  | _, _, .nil => rfl
  | _, _, .cons _ _ b => by rw [List.any_cons, List.any_cons, DTs.any k b]
theorem DKs.over (k : Key) {v : V} {d : D} (h : DD K G v d) : ∀ {kv : List (Key × V)} {kd : List (Key × D)}, DKs K G kv kd → DKs K G (kv.map fun x => if x.1 = k then (x.1, v) else x) (kd.map fun x => if x.1 = k then (x.1, d) else x)
  | _, _, .nil => .nil
  | _, _, .cons (k := j) c a b => by
    rw [List.map_cons, List.map_cons]
    by_cases e : j = k
    · rw [if_pos e, if_pos e]; exact .cons c h (DKs.over k h b)
    · rw [if_neg e, if_neg e]; exact .cons c a (DKs.over k h b)
theorem DTs.over (k : List Key) {v : V} {d : D} (h : DD K G v d) : ∀ {kv : List (List Key × V)} {kd : List (List Key × D)}, DTs K G kv kd → DTs K G (kv.map fun x => if x.1 = k then (x.1, v) else x) (kd.map fun x => if x.1 = k then (x.1, d) else x)
  | _, _, .nil => .nil
  | _, _, .cons (k := j) c a b => by
    rw [List.map_cons, List.map_cons]
    by_cases e : j = k
    · rw [if_pos e, if_pos e]; exact .cons c h (DTs.over k h b)
    · rw [if_neg e, if_neg e]; exact .cons c a (DTs.over k h b)
theorem DKs.app : ∀ {kv kw : List (Key × V)} {kd ke : List (Key × D)}, DKs K G kv kd → DKs K G kw ke → DKs K G (kv ++ kw) (kd ++ ke)
  | _, _, _, _, .nil, h => h
  | _, _, _, _, .cons c a b, h => .cons c a (DKs.app b h)
theorem DTs.app : ∀ {kv kw : List (List Key × V)} {kd ke : List (List Key × D)}, DTs K G kv kd → DTs K G kw ke → DTs K G (kv ++ kw) (kd ++ ke)
  | _, _, _, _, .nil, h => h
  | _, _, _, _, .cons c a b, h => .cons c a (DTs.app b h)
theorem DKs.put {kv : List (Key × V)} {kd : List (Key × D)} {k : Key} {v : V} {d : D} (hk : KOk k) (h : DD K G v d) (r : DKs K G kv kd) : DKs K G (putK kv k v) (putM kd k d) := by
  unfold putK putM
  rw [DKs.any k r]
  split
  · exact DKs.over k h r
  · exact DKs.app r (.cons hk h .nil)
theorem DTs.put {kv : List (List Key × V)} {kd : List (List Key × D)} {k : List Key} {v : V} {d : D} (hk : KsOk k) (h : DD K G v d) (r : DTs K G kv kd) : DTs K G (putK kv k v) (putM kd k d) := by
  unfold putK putM
  rw [DTs.any k r]
  split
  · exact DTs.over k h r
  · exact DTs.app r (.cons hk h .nil)
end
/-- d[k] -/
def gGet : D → D → Option D
  | .dic kd, y => (keyO y).bind fun k => lkM kd k
  | .dit kd, .tup ds => (keysO ds).bind fun k => lkM kd k
  | _, _ => none
theorem opd_get {K : PySem.W.Frag} : OpD K (fun x y H Q => ∃ a v, x = .ref a ∧ DGet H a y (some v) ∧ Q v H) gGet := by
  intro G H x y a b d Q s ha hb e z
  cases a with
  | dic kd =>
    obtain ⟨p, kv, rfl, h1, r⟩ := ha.dic s
    have e : ((keyO b).bind fun k => lkM kd k) = some d := by cases b <;> exact e
    cases q : keyO b with
    | none => rw [q] at e; cases e
    | some k =>
      rw [q] at e
      obtain ⟨rfl, _⟩ := keyB_ok hb q
      obtain ⟨v, e1, dd⟩ := (DKs.look k r).1 d e
      exact ⟨p, v, rfl, .inl ⟨kv, k, .inl h1, rfl, e1.symm⟩, z _ _ _ (Al.refl s) dd⟩
  | dit kd =>
    obtain ⟨p, kv, rfl, h1, r⟩ := ha.dit s
    cases b with
    | tup ds =>
      have e : ((keysO ds).bind fun k => lkM kd k) = some d := e
      cases q : keysO ds with
      | none => rw [q] at e; cases e
      | some k =>
        rw [q] at e
        obtain ⟨w, vs, rfl, h2, _, dd2, _⟩ := hb.tup s
        obtain ⟨e2, _⟩ := keysO_ok dd2 q
        rw [e2] at h2
        obtain ⟨v, e1, dd⟩ := (DTs.look k r).1 d e
        exact ⟨p, v, rfl, .inr ⟨kv, k, w, .inl h1, rfl, h2, e1.symm⟩, z _ _ _ (Al.refl s) dd⟩
    | _ => cases e
  | _ => cases b <;> cases e
section
variable {X : Cx} {Wi : Wish} {o i e value : Expr} {fo fi fv : EF} {pos pos' : Pos}
theorem de_dget (hu : X.A.units + 1 < cLine) (ho : DE X Wi o fo) (hi : DE X Wi i fi) (hs : NoSl i := by intro _ _; rfl) : DE X Wi (.Subscript o i pos) (eOp gGet fo fi) := PE.imp (pe_dget hu ho hi hs) (tOp_of opd_get)

/-- a global that is data -/
theorem de_g {x : Str} {v : V} {u : Value} {d : D} (hg : Gl X x) (hm : X.mg x = some u) (r : RelV v u) (hd : ∀ G, DD X.K G v d) (hdb : (x == ("__debug__" : Str)) = false := by decide) : DE X Wi (.Name x pos) (eC d) := de_c (pe_glob hg hm r hdb) hd
/-- a name whose own object becomes data as it is read -/
def eVf (i : Nat) : EF := fun E => match E[i]? with
  | some (.dat d) => .ok (.dat d, E)
  | some (.own d) => .ok (.dat d, E.set i (.dat d))
  | _ => .stuck
theorem de_vf {i : Nat} (h : PE X e (tVar i)) : DE X Wi e (eVf i) := by
  refine PE.imp h fun σ H Q q => ?_
  obtain ⟨F, G, E, as, st, p⟩ := q
  unfold eVf at p
  split at p
  · rename_i d e1
    obtain ⟨v, e2, x⟩ := st.cell i _ e1
    obtain ⟨_, y, rfl, dd⟩ := x
    exact ⟨y, e2, Po.rz st p y G H (Al.refl st.s1) dd⟩
  · rename_i d e1
    obtain ⟨v, e2, x⟩ := st.cell i _ e1
    obtain ⟨a, _, rfl, dd⟩ := x
    obtain ⟨G2, s2, dd2, st2⟩ := st.freeze e1 e2
    exact ⟨_, e2, p _ G2 H _ s2 st2 dd2⟩
  · exact p.elim

theorem BD.obj {K : PySem.W.Frag} {G H : Hp} {v : V} (s : Same G H) {C : Addr} {fd : List (Str × D)} (h : BD K G H v (.obj C fd)) : ∃ a dx vf, v = .ref a ∧ H a = some (.ins C dx vf) ∧ DFs K G vf fd := by
  cases h with
  | dat dd => cases dd with | obj g r => exact ⟨_, _, _, rfl, s _ _ g, r⟩
  | own ev o => obtain ⟨dx, vf, e1, r⟩ := o; exact ⟨_, dx, vf, ev, e1, r⟩

def tyN : D → Option String
  | .non => some "NoneType"
  | .bl _ => some "bool"
  | .int _ => some "int"
  | .str _ => some "str"
  | .lst _ => some "list"
  | .tup _ => some "tuple"
  | .dic _ => some "dict"
  | .dit _ => some "dict"
  | .obj _ _ => none
/-- what isinstance answers: f for the built-in ones, g for the own ones -/
def gIs (f : String → Option Bool) (g : Addr → Option Bool) : D → Option D
  | .obj C _ => (g C).map .bl
  | d => ((tyN d).bind f).map .bl
/-- instances of C as isinstance sees them -/
structure InsOk (K : PySem.W.Frag) (C : Addr) : Prop where
  cl : Cls K C
  ha : PySem.W.findIn K (.ref C) "__class__" = some (some (.builtin "object.__class__"))
  hn : PySem.W.specialIn K (.builtin "object.__class__") "__get__" = some (some (.builtin "getset_descriptor.__get__"))
  ht : PySem.W.takesIn K (.builtin "object.__class__") = some true
  hm : PySem.W.mroIn K C (.type "object") = some true
def eIs (f : String → Option Bool) (g : Addr → Option Bool) (fa : EF) : EF := fun E => (fa E).bind fun p => (rd p.2 p.1).bind fun d => (ofO (gIs f g d)).bind fun b => .ok (.dat b, p.2)
theorem tyx_of {K : PySem.W.Frag} {G H : Hp} {v : V} {d : D} {n : String} (s : Same G H) (h : BD K G H v d) (e : tyN d = some n) : TyX K H v (.type n) := by
  cases d with
  | non => cases e; cases h.non; exact .base .non
  | bl b => cases e; cases h.bl; exact .base (.bl b)
  | int i => cases e; cases h.int; exact .base (.int i)
  | str x => cases e; cases h.str.1; exact .base (.str x)
  | lst ds => cases e; obtain ⟨a, vs, rfl, h1, _⟩ := h.lst s; exact .base (.lst h1)
  | tup ds => cases e; obtain ⟨a, vs, rfl, h1, _⟩ := h.tup s; exact .base (.tup h1)
  | dic ds => cases e; obtain ⟨a, vs, rfl, h1, _⟩ := h.dic s; exact .base (.dK h1)
  | dit ds => cases e; obtain ⟨a, vs, rfl, h1, _⟩ := h.dit s; exact .base (.dT h1)
  | obj _ _ => cases e
theorem de_is {c : Expr} {cv : V} {u : Value} {f : String → Option Bool} {g : Addr → Option Bool} {p : Pos} (hu : ClsV cv u) (hf : ∀ n b, f n = some b → PySem.W.kitOne X.K (.type n) u = some b) (hgg : ∀ C b, g C = some b → InsOk X.K C ∧ PySem.W.kitOne X.K (.ref C) u = some b)
    (hg : Gl X "isinstance") (hm : X.mg "isinstance" = none) (ha : DE X Wi e fo) (hc : PE X c (tC cv))
    (hs : starEach [e, c] X.env = (false, eval e X.env) :: starEach [c] X.env := by rfl) (hs2 : starEach [c] X.env = (false, eval c X.env) :: starEach [] X.env := by rfl) (hpl : (backTo pos (starEach [c] X.env)).any (·.1) = false := by rfl) :
    DE X Wi (.Call (.Name "isinstance" p) [e, c] [] pos) (eIs f g fo) := by
  refine PE.imp (pe_callB call_isi hg hm PyProof.Rows.boot_isinstance (pa_cons ha (pa_cons hc pa_nil hs2) hs) (by decide) (by decide) hs hpl) fun σ H Q q => ?_
  obtain ⟨F, G, E, as, st, pq⟩ := q
  refine ⟨F, G, E, as, st, Po.mono (fun x H1 m => ?_) (Po.bind pq)⟩
  obtain ⟨w1, G1, E1, as1, s1, st1, wo1, p1⟩ := m
  obtain ⟨d1, e1, p1⟩ := Po.rd p1
  obtain ⟨d, e2, p1⟩ := Po.of p1
  have b1 := wo1.rd (Same.refl _) st1 e1
  have fin : ∀ b, d = .bl b → Q (.bl b) H1 := fun b eb => by subst eb; exact Po.rz st1 p1 _ _ _ (Al.refl st1.s1) (.bl b)
  have prim : ∀ n, tyN d1 = some n → ((tyN d1).bind f).map D.bl = some d → ∃ x1 c1 t u b, [x, cv] = [x1, c1] ∧ ClsV c1 u ∧ TyX X.K H1 x1 t ∧ PySem.W.kitOne X.K t u = some b ∧ Q (.bl b) H1 := fun n en ed => by
    rw [en] at ed
    cases q : f n with
    | none => rw [show (some n).bind f = f n from rfl, q] at ed; cases ed
    | some b =>
      rw [show (some n).bind f = f n from rfl, q] at ed
      exact ⟨x, cv, _, u, b, rfl, hu, tyx_of st1.s1 b1 en, hf _ _ q, fin b (Option.some.inj ed).symm⟩
  cases d1 with
  | obj C fs =>
    have e2 : (g C).map D.bl = some d := e2
    cases q : g C with
    | none => rw [q] at e2; cases e2
    | some b =>
      rw [q] at e2
      obtain ⟨ok, kq⟩ := hgg C b q
      obtain ⟨a, dx, vf, rfl, h1, _⟩ := b1.obj st1.s1
      exact ⟨_, cv, _, u, b, rfl, hu, .base (.ins h1 ok.cl ok.ha ok.hn ok.ht ok.hm), kq, fin b (Option.some.inj e2).symm⟩
  | non => exact prim _ rfl e2
  | bl b => exact prim _ rfl e2
  | int i => exact prim _ rfl e2
  | str x => exact prim _ rfl e2
  | lst ds => exact prim _ rfl e2
  | tup ds => exact prim _ rfl e2
  | dic ds => exact prim _ rfl e2
  | dit ds => exact prim _ rfl e2

theorem StE.ownA {K : PySem.W.Frag} {F : Fr} {G H : Hp} {σ : L2.St} {E : Env} {as : Nat → List Addr} {i : Nat} {d : D} {v : V} (st : StE K F G H σ E as) (e : E[i]? = some (.own d)) (hv : σ[i]? = some (some v)) : ∃ a, v = .ref a ∧ a ∈ as i ∧ OwnAt K G H a d := by
  obtain ⟨u, e1, a, x1, x2, x3⟩ := st.cell i _ e
  rw [hv] at e1; cases e1; cases x2
  exact ⟨a, rfl, by rw [x1]; exact List.mem_singleton.mpr rfl, x3⟩
def ownL (E : Env) (i : Nat) : Option (List D) := match E[i]? with
  | some (.own (.lst ds)) => some ds
  | _ => none
theorem ownL_ok {E : Env} {i : Nat} {ds : List D} (h : ownL E i = some ds) : E[i]? = some (.own (.lst ds)) := by
  unfold ownL at h
  split at h
  · rename_i l e; cases h; exact e
  · cases h
/-- what a method of a list does with it: the answer, what it is then -/
def OwnM (K : PySem.W.Frag) (r : V → List V → Hp → VK → Prop) (g : List D → List D → Option (D × List D)) : Prop :=
  ∀ (G H : Hp) (a : Addr) (vs xs : List V) (ds es l : List D) (d : D) (Q : VK), Same G H → H a = some (.lst vs) → G a = none → vs.length ≤ sizeLine → DDs K G vs ds → DDs K G xs es → g ds es = some (d, l) →
    (∀ v ws, DD K G v d → ws.length ≤ sizeLine → DDs K G ws l → Q v (upd H a (.lst ws))) → r (.ref a) xs H Q
/-- x.m(..), x the own list of slot i -/
def eOM (i : Nat) (g : List D → List D → Option (D × List D)) (fs : AF) : EF := fun E => (ofO (ownL E i)).bind fun _ => (fs E).bind fun p => (ofO (dats p.1)).bind fun es => (ofO (ownL p.2 i)).bind fun ds => (ofO (g ds es)).bind fun r => .ok (.dat r.1, p.2.set i (.own (.lst r.2)))
theorem tBM_own {i : Nat} {r : V → List V → Hp → VK → Prop} {g : List D → List D → Option (D × List D)} {fs : AF} (hg : OwnM X.K r g) : ∀ σ H Q, tE X.K Wi (eOM i g fs) σ H Q → tBM X.K "list" r (tVar i) (tA X.K Wi fs) σ H Q := by
  intro σ H Q q
  obtain ⟨F, G, E, as, st, p⟩ := q
  obtain ⟨d0, e0, p⟩ := Po.of p
  have e0 := ownL_ok e0
  obtain ⟨v, hv, a, xa, xv, xo⟩ := st.cell i _ e0
  subst xv
  obtain ⟨vs0, hl0, _⟩ := xo
  refine ⟨_, hv, .inl ⟨rfl, _, SqL.of hl0⟩, F, G, E, as, st, PoA.mono (fun vs H1 m => ?_) (PoA.bind p)⟩
  obtain ⟨ws, G1, E1, as1, s1, st1, wo1, p1⟩ := m
  obtain ⟨es, e1, p1⟩ := Po.of p1
  obtain ⟨ds, e2, p1⟩ := Po.of p1
  obtain ⟨⟨d, l⟩, e3, p1⟩ := Po.of p1
  have e2 := ownL_ok e2
  obtain ⟨a', ea, ma, xo⟩ := st1.ownA e2 hv
  cases ea
  obtain ⟨vs1, hl1, z1, dd1⟩ := xo
  refine hg G1 H1 a vs1 vs ds es l d Q st1.s1 hl1 (st1.off i a ma).1 z1 dd1 (dats_ok wo1 e1) e3 fun v ws dv hz dw => ?_
  exact p1 v G1 _ as1 (Same.refl _) (st1.write e2 ma ⟨ws, upd_same, hz, dw⟩) dv
theorem de_om {name : Str} {id : String} {i : Nat} {r : V → List V → Hp → VK → Prop} {g : List D → List D → Option (D × List D)} {fs : AF} {es : List Expr} {apos cpos : Pos} (slot : Slot "list" name id) (hty : typeOf (.builtin id) = pure (.type "method_descriptor")) (hm : MtR X id r) (hg : OwnM X.K r g) (hv : PE X o (tVar i)) (ha : DA X Wi (e :: es) fs)
    (hbase : attributeBase o name X.env (eval o X.env) = eval o X.env := by rfl)
    (hfew : ((backTo cpos (starEach (e :: es) X.env)).all (fun x => !x.1) && (backToKw cpos (keywordEach [] X.env)).all (fun x => x.1.isSome)
      && decide ((e :: es).length + ([] : List Keyword).length + (if ([] : List Keyword).isEmpty then 0 else 1) < 30)) = true := by rfl)
    (hline : (apos.endLine == cpos.line) = true := by rfl) (hs : starEach (e :: es) X.env = (false, eval e X.env) :: starEach es X.env := by rfl) (hpl : (backTo cpos (starEach es X.env)).any (·.1) = false := by rfl) :
    DE X Wi (.Call (.Attribute o name apos) (e :: es) [] cpos) (eOM i g fs) :=
  PE.imp (pe_bm PySem.F.plainAttrs_list slot hty hm hv ha hbase hfew hline hs hpl) (tBM_own hg)
def gApp (ds es : List D) : Option (D × List D) := match es with
  | [y] => if ds.length < 16777216 then some (.non, ds ++ [y]) else none
  | _ => none
theorem own_app {K : PySem.W.Frag} : OwnM K rAppend gApp := by
  intro G H a vs xs ds es l d Q s hl ga z dd de e k
  match es, e with
  | [y], e =>
    have e : (if ds.length < 16777216 then some (D.non, ds ++ [y]) else none) = some (d, l) := e
    by_cases h : ds.length < 16777216
    · rw [if_pos h] at e; cases e
      cases de with
      | cons a1 b1 =>
        cases b1
        have hv : vs.length < sizeLine := by rw [dd.len, sizeLine_eq]; exact h
        refine ⟨a, vs, _, rfl, rfl, hl, hv, k _ _ .non ?_ (dd.app (.one a1))⟩
        rw [List.length_append, List.length_singleton]; omega
    · rw [if_neg h] at e; cases e
def gPop (ds es : List D) : Option (D × List D) := match es with
  | [] => (ds[ds.length - 1]?).map fun d => (d, ds.dropLast)
  | [.int i] => if -(2 ^ 63) ≤ i ∧ i < 2 ^ 63 then (seqIndex? i ds.length).bind fun k => (ds[k]?).map fun d => (d, ds.eraseIdx k) else none
  | _ => none
theorem own_popAt {K : PySem.W.Frag} : OwnM K rPopAt (fun ds es => if es.length = 1 then gPop ds es else none) := by
  intro G H a vs xs ds es l d Q s hl ga z dd de e k
  match es, e with
  | [y], e =>
    have e : gPop ds [y] = some (d, l) := e
    cases y with
    | int i =>
      have e : (if -(2 ^ 63) ≤ i ∧ i < 2 ^ 63 then (seqIndex? i ds.length).bind fun k => (ds[k]?).map fun d => (d, ds.eraseIdx k) else none) = some (d, l) := e
      by_cases h : -(2 ^ 63) ≤ i ∧ i < 2 ^ 63
      · rw [if_pos h] at e
        cases q : seqIndex? i ds.length with
        | none => rw [q] at e; cases e
        | some j =>
          rw [q] at e
          have e : (ds[j]?).map (fun d => (d, ds.eraseIdx j)) = some (d, l) := e
          cases q2 : ds[j]? with
          | none => rw [q2] at e; cases e
          | some d' =>
            rw [q2] at e; cases e
            cases de with
            | cons a1 b1 =>
              cases b1
              cases a1
              obtain ⟨v, e1, dv⟩ := dd.get q2
              refine ⟨a, vs, i, j, v, rfl, rfl, hl, h.1, h.2, by rw [dd.len]; exact q, e1, k v _ dv ?_ (dd.erase j)⟩
              exact Nat.le_trans (List.length_eraseIdx_le ..) z
      · rw [if_neg h] at e; cases e
    | _ => cases e
end
end DL
namespace DL
open PySem PySem.Spec PyProof.Rows L2 TL

inductive EN where
  | e (f : EF) | n (f : NF)
def evN : List EN → Env → Res (List (Bool × D) × Env)
  | [], E => .ok ([], E)
  | .e f :: r, E => (f E).bind fun p => (ofO (asDat p.1)).bind fun d => (evN r p.2).bind fun q => .ok ((false, d) :: q.1, q.2)
  | .n f :: r, E => (f E).bind fun p => (evN r p.2).bind fun q => .ok ((true, p.1) :: q.1, q.2)
inductive NWs (K : PySem.W.Frag) (F : Fr) (G H : Hp) (as : Nat → List Addr) : List V → List (Bool × D) → List Addr → Prop
  | nil : NWs K F G H as [] [] []
  | da {v : V} {d : D} {vs : List V} {ds : List (Bool × D)} {ps : List Addr} : DD K G v d → NWs K F G H as vs ds ps → NWs K F G H as (v :: vs) ((false, d) :: ds) ps
  | nw {p : Addr} {d : D} {vs : List V} {ds : List (Bool × D)} {ps : List Addr} : G p = none → F.H0 p = none → (∀ j, p ∉ as j) → OwnAt K G H p d → p ∉ ps → NWs K F G H as vs ds ps → NWs K F G H as (.ref p :: vs) ((true, d) :: ds) (p :: ps)
def PoW (K : PySem.W.Frag) (Wi : Wish) (F : Fr) (G : Hp) (σ : L2.St) (Q : List V → Hp → Prop) : Res (List (Bool × D) × Env) → Prop
  | .ok (ds, E') => ∀ vs ps G' H' as', Same G G' → StE K F G' H' σ E' as' → NWs K F G' H' as' vs ds ps → Q vs H'
  | .err x E' => ∀ c dx G' H' as', Same G G' → StE K F G' H' σ E' as' → ExOk K G' x c dx → Wi σ c dx H'
  | .stuck => False
def tW (K : PySem.W.Frag) (Wi : Wish) (l : List EN) : TA := fun σ H Q => ∃ F G E as, StE K F G H σ E as ∧ PoW K Wi F G σ Q (evN l E)
abbrev DWs (X : Cx) (Wi : Wish) (es : List Expr) (l : List EN) : Prop := PA X es (tW X.K Wi l)
section
variable {K : PySem.W.Frag} {Wi : Wish} {F : Fr} {G G1 H : Hp} {σ : L2.St} {E : Env} {as : Nat → List Addr} {Q : List V → Hp → Prop}
theorem NWs.len : ∀ {vs : List V} {ds : List (Bool × D)} {ps : List Addr}, NWs K F G H as vs ds ps → vs.length = ds.length
  | _, _, _, .nil => rfl
  | _, _, _, .da _ r => congrArg Nat.succ (NWs.len r)
  | _, _, _, .nw _ _ _ _ _ r => congrArg Nat.succ (NWs.len r)
theorem NWs.notIn {p : Addr} (h : F.H0 p ≠ none) : ∀ {vs : List V} {ds : List (Bool × D)} {ps : List Addr}, NWs K F G H as vs ds ps → p ∉ ps
  | _, _, _, .nil => fun z => by cases z
  | _, _, _, .da _ r => NWs.notIn h r
  | _, _, _, .nw _ f _ _ _ r => fun z => by
    rcases List.mem_cons.mp z with z | z
    · rw [z] at h; exact h f
    · exact NWs.notIn h r z
theorem NWs.frame {F' : Fr} (h : ∀ p, F.H0 p = none → F'.H0 p = none) : ∀ {vs : List V} {ds : List (Bool × D)} {ps : List Addr}, NWs K F G H as vs ds ps → NWs K F' G H as vs ds ps
  | _, _, _, .nil => .nil
  | _, _, _, .da a r => .da a (NWs.frame h r)
  | _, _, _, .nw a f b c d r => .nw a (h _ f) b c d (NWs.frame h r)
theorem NWs.moved {as' : Nat → List Addr} : ∀ {vs : List V} {ds : List (Bool × D)} {ps : List Addr}, (∀ p ∈ ps, (∀ j, p ∉ as j) → ∀ j, p ∉ as' j) → NWs K F G H as vs ds ps → NWs K F G H as' vs ds ps
  | _, _, _, _, .nil => .nil
  | _, _, _, h, .da a r => .da a (NWs.moved h r)
  | _, _, _, h, .nw a f b c d r => .nw a f (h _ List.mem_cons_self b) c d (NWs.moved (fun p hp => h p (List.mem_cons_of_mem _ hp)) r)
theorem PoW.up {r : Res (List (Bool × D) × Env)} (e : Same G G1) (h : PoW K Wi F G σ Q r) : PoW K Wi F G1 σ Q r := by
  match r, h with
  | .ok (w, E'), h => exact fun v ps G' H' as' s => h v ps G' H' as' (e.trans s)
  | .err x E', h => exact fun c dx G' H' as' s => h c dx G' H' as' (e.trans s)
theorem Po.bindW {r : Res (W × Env)} {g : W × Env → Res (List (Bool × D) × Env)} (h : PoW K Wi F G σ Q (r.bind g)) :
    Po K Wi F G σ (Mid K F G σ fun _ w G1 _ E1 _ => PoW K Wi F G1 σ Q (g (w, E1))) r := by
  match r, h with
  | .ok (w, E'), h => exact fun v G' H' as' s st wo => ⟨w, G', E', as', s, st, wo, PoW.up s h⟩
  | .err x E', h => exact h
theorem PoW.of {α : Type} {o : Option α} {g : α → Res (List (Bool × D) × Env)} (h : PoW K Wi F G σ Q ((ofO o).bind g)) : ∃ d, o = some d ∧ PoW K Wi F G σ Q (g d) := by
  cases o with
  | none => exact h.elim
  | some d => exact ⟨d, rfl, h⟩
end
section
variable {X : Cx} {Wi : Wish} {a : Expr} {es : List Expr} {f : EF} {fn : NF} {l : List EN}
theorem dws_nil : DWs X Wi [] [] := PA.imp pa_nil fun σ H Q q => by
  obtain ⟨F, G, E, as, st, p⟩ := q
  exact p [] [] G H as (Same.refl _) st .nil
theorem dws_e (ha : DE X Wi a f) (hr : DWs X Wi es l) (hs : starEach (a :: es) X.env = (false, eval a X.env) :: starEach es X.env := by rfl) : DWs X Wi (a :: es) (.e f :: l) :=
  PA.imp (pa_cons ha hr hs) fun σ H Q q => by
    obtain ⟨F, G, E, as, st, p⟩ := q
    refine ⟨F, G, E, as, st, Po.mono (fun x H1 m => ?_) (Po.bindW p)⟩
    obtain ⟨w1, G1, E1, as1, s1, st1, wo1, p1⟩ := m
    obtain ⟨d, e1, p1⟩ := PoW.of p1
    cases w1 with
    | own _ => cases e1
    | dat d' =>
      cases e1
      have dd : DD X.K G1 x d := wo1
      refine ⟨F, G1, E1, as1, st1, ?_⟩
      have p1 : PoW X.K Wi F G1 σ Q ((evN l E1).bind fun q => .ok ((false, d) :: q.1, q.2)) := p1
      generalize evN l E1 = r at p1 ⊢
      match r, p1 with
      | .ok (ds, E2), p1 => exact fun vs ps G2 H2 as2 s2 st2 nw => p1 (x :: vs) ps G2 H2 as2 s2 st2 (.da (dd.up s2) nw)
      | .err y E2, p1 => exact p1
theorem PoN.match {K : PySem.W.Frag} {F : Fr} {G : Hp} {σ : L2.St} {Q : List V → Hp → Prop} {r : Res (D × Env)} {g : D × Env → Res (List (Bool × D) × Env)} (h : PoW K Wi F G σ Q (r.bind g)) :
    PoN K Wi F G σ (fun v H1 => ∃ p d G1 E1 as1, v = .ref p ∧ Same G G1 ∧ StE K F G1 H1 σ E1 as1 ∧ G1 p = none ∧ F.H0 p = none ∧ (∀ j, p ∉ as1 j) ∧ OwnAt K G1 H1 p d ∧ PoW K Wi F G1 σ Q (g (d, E1))) r := by
  match r, h with
  | .ok (w, E'), h => exact fun p G' H' as' s st gp fp np o => ⟨p, w, G', E', as', rfl, s, st, gp, fp, np, o, PoW.up s h⟩
  | .err x E', h => exact h
theorem PoN.mono {K : PySem.W.Frag} {F : Fr} {G : Hp} {σ : L2.St} {Q Q' : VK} (i : ∀ v H, Q v H → Q' v H) : ∀ {r : Res (D × Env)}, PoN K Wi F G σ Q r → PoN K Wi F G σ Q' r
  | .ok (_, _), h => fun p G' H' as' s st gp fp np o => i _ _ (h p G' H' as' s st gp fp np o)
  | .err _ _, h => h
/-- a new object of the outer frame stays through what an inner frame does -/
theorem StE.stays {K : PySem.W.Frag} {G H G2 H2 : Hp} {as as2 : Nat → List Addr} {σ2 : L2.St} {E2 : Env} {n : Nat} {p : Addr} {d : D} (gp : G p = none) (np : ∀ j, p ∉ as j) (o : OwnAt K G H p d) (s2 : Same G G2) (st2 : StE K (inner G H as n) G2 H2 σ2 E2 as2) :
    G2 p = none ∧ (∀ j, p ∉ as2 j) ∧ OwnAt K G2 H2 p d := by
  obtain ⟨u, hu, ht⟩ := o.hasM
  have no : p ∉ own as n := fun z => by obtain ⟨j, hj⟩ := of_own z; exact np j hj
  refine ⟨?_, fun j hj => ?_, o.up s2 fun v q => st2.keep p v q no⟩
  · cases q : G2 p with
    | none => rfl
    | some z => exact absurd gp (st2.priv p u (by rw [q]; exact fun z => nomatch z) hu ht no)
  · rcases (st2.off j p hj).2 with z | z
    · have z : H p = none := z
      rw [hu] at z; cases z
    · exact no z
theorem dws_n (ha : DN X Wi a fn) (hr : DWs X Wi es l) (hs : starEach (a :: es) X.env = (false, eval a X.env) :: starEach es X.env := by rfl) : DWs X Wi (a :: es) (.n fn :: l) :=
  PA.imp (pa_cons ha hr hs) fun σ H Q q => by
    obtain ⟨F, G, E, as, st, p⟩ := q
    refine ⟨F, G, E, as, st, PoN.mono (fun x H1 m => ?_) (PoN.match p)⟩
    obtain ⟨p, d, G1, E1, as1, rfl, s1, st1, gp, fp, np, o, p1⟩ := m
    refine ⟨inner G1 H1 as1 E1.length, G1, E1, as1, st1.in_, ?_⟩
    have p1 : PoW X.K Wi F G1 σ Q ((evN l E1).bind fun q => .ok ((true, d) :: q.1, q.2)) := p1
    generalize evN l E1 = r at p1 ⊢
    match r, p1 with
    | .ok (ds, E2), p1 =>
      intro vs ps G2 H2 as2 s2 st2 nw
      obtain ⟨u, hu⟩ := o.hasO
      obtain ⟨g2, n2, o2⟩ := StE.stays gp np o s2 st2
      refine p1 (.ref p :: vs) (p :: ps) G2 H2 as2 s2 (st1.out st2) (.nw g2 fp n2 o2 (nw.notIn (by show H1 p ≠ none; rw [hu]; exact fun z => nomatch z)) (nw.frame fun b hb => st1.dom b hb))
    | .err y E2, p1 => exact fun c dx G2 H2 as2 s2 st2 xo => p1 c dx G2 H2 as2 s2 (st1.out st2) xo
end
def setL : List Nat → L2.St → List V → L2.St
  | i :: is, σ, v :: vs => setL is (σ.set i (some v)) vs
  | _, σ, _ => σ
def setE : List Nat → Env → List (Bool × D) → Env
  | i :: is, E, (true, d) :: ds => setE is (E.set i (.own d)) ds
  | i :: is, E, (false, d) :: ds => setE is (E.set i (.dat d)) ds
  | _, E, _ => E
theorem StE.setW {K : PySem.W.Frag} {F : Fr} {G H : Hp} : ∀ {is : List Nat} {vs : List V} {ds : List (Bool × D)} {ps : List Addr} {σ : L2.St} {E : Env} {as : Nat → List Addr}, StE K F G H σ E as → NWs K F G H as vs ds ps → vs.length = is.length → (∀ i ∈ is, i < E.length) →
    ∃ as', StE K F G H (setL is σ vs) (setE is E ds) as'
  | [], _, _, _, _, _, as, st, .nil, _, _ => ⟨as, st⟩
  | i :: is, _, _, _, σ, E, as, st, .da (v := v) (d := d) (ps := ps) a r, hl, hi => by
    refine StE.setW (is := is) (st.setD a) (NWs.moved (fun p hp h j => ?_) r) (Nat.succ.inj hl) fun j hj => by rw [List.length_set]; exact hi j (List.mem_cons_of_mem _ hj)
    by_cases e : j = i
    · rw [e, drp_same]; exact fun z => by cases z
    · rw [drp_ne e]; exact h j
  | i :: is, _, _, _, σ, E, as, st, .nw (p := p) (d := d) (ps := ps) g f n o q r, hl, hi => by
    have st2 := st.setC (i := i) (x := some (.ref p)) (c := .own d) (l := [p]) ⟨p, rfl, rfl, o⟩ (fun b hb => by
      rw [List.mem_singleton.mp hb]
      exact ⟨fun j _ => n j, g, .inl f⟩) (.inl (hi i List.mem_cons_self))
    refine StE.setW (is := is) st2 (NWs.moved (fun b hb h j => ?_) r) (Nat.succ.inj hl) fun j hj => by rw [List.length_set]; exact hi j (List.mem_cons_of_mem _ hj)
    by_cases e : j = i
    · rw [e, drp_same]
      intro z
      rw [List.mem_singleton.mp z] at hb
      exact q hb
    · rw [drp_ne e]; exact h j
def sPar (is : List Nat) (l : List EN) : SF := fun E => (evN l E).bind fun p => if p.1.length = is.length ∧ (is.all fun i => decide (i < p.2.length)) = true then .ok (.nx, setE is p.2 p.1) else .stuck
section
variable {X : Cx} {Wi : Wish} {e a b c : Expr} {es : List Expr} {f : EF} {l : List EN} {pos : Pos}
theorem sPar_of {is : List Nat} {D0 : Ends} {σ : L2.St} {H : Hp} (q : tS X.K Wi (sPar is l) D0 σ H) : tW X.K Wi l σ H fun vs H1 => vs.length = is.length ∧ ∀ H2, Same H1 H2 → D0.nx (setL is σ vs) H2 := by
  obtain ⟨F, G, E, as, st, p⟩ := q
  refine ⟨F, G, E, as, st, ?_⟩
  have p : PoS X.K Wi F G D0 ((evN l E).bind fun p => if p.1.length = is.length ∧ (is.all fun i => decide (i < p.2.length)) = true then .ok (.nx, setE is p.2 p.1) else .stuck) := p
  generalize evN l E = r at p ⊢
  match r, p with
  | .ok (ds, E2), p =>
    intro vs ps G2 H2 as2 s2 st2 nw
    have p : PoS X.K Wi F G D0 (if ds.length = is.length ∧ (is.all fun i => decide (i < E2.length)) = true then .ok (.nx, setE is E2 ds) else .stuck) := p
    by_cases hl : ds.length = is.length ∧ (is.all fun i => decide (i < E2.length)) = true
    · rw [if_pos hl] at p
      have hv := nw.len.trans hl.1
      obtain ⟨as', st'⟩ := StE.setW st2 nw hv fun i hi => of_decide_eq_true (List.all_eq_true.mp hl.2 i hi)
      exact ⟨hv, fun H3 s3 => p _ G2 H3 as' s2 (st'.al (Al.grow st'.s1 s3))⟩
    · rw [if_neg hl] at p; exact p.elim
  | .err y E2, p => exact fun c dx G2 H2 as2 s2 st2 xo => p c dx σ G2 H2 as2 s2 st2 xo
theorem ds_par2 {i j : Nat} {x y : Str} {px py pt : Pos} {kt k2 pt2} (hc : X.calm = true) (hN : X.N.Nodup) (hi : X.N[i]? = some x) (hj : X.N[j]? = some y) (hij : i ≠ j) (hx : X.env.scope.names.lookup x = some .local) (hy : X.env.scope.names.lookup y = some .local) (ha : DWs X Wi [a, b] l)
    (hw : swappedStores [.Tuple [.Name x px, .Name y py] kt pt] (.Tuple [a, b] k2 pt2) X.env = pure (some [x, y]))
    (hs : swapsWithSole [.Tuple [.Name x px, .Name y py] kt pt] (.Tuple [a, b] k2 pt2) pos.line X.env = pure false := by rfl) :
    DS X Wi (.Assign [.Tuple [.Name x px, .Name y py] kt pt] (.Tuple [a, b] k2 pt2) pos) (sPar [i, j] l) := PS.imp (ps_par hc hN hi hj hij hx hy ha hw hs) fun D0 σ H q => by
  obtain ⟨F, G, E, as, st, p⟩ := sPar_of q
  refine ⟨F, G, E, as, st, ?_⟩
  revert p
  generalize evN l E = r
  intro p
  match r, p with
  | .ok (ds, E2), p =>
    intro vs ps G2 H2 as2 s2 st2 nw
    obtain ⟨hl, k⟩ := p vs ps G2 H2 as2 s2 st2 nw
    match vs, hl with
    | [u, v], _ => exact ⟨u, v, rfl, k H2 (Same.refl _)⟩
  | .err y E2, p => exact p
theorem ds_par3 {i j k : Nat} {x y z : Str} {px py pz pt : Pos} {kt k2 pt2} (hc : X.calm = true) (hN : X.N.Nodup) (hi : X.N[i]? = some x) (hj : X.N[j]? = some y) (hk : X.N[k]? = some z) (hij : i ≠ j) (hik : i ≠ k) (hjk : j ≠ k)
    (hx : X.env.scope.names.lookup x = some .local) (hy : X.env.scope.names.lookup y = some .local) (hz : X.env.scope.names.lookup z = some .local) (ha : DWs X Wi [a, b, c] l)
    (hw : swappedStores [.Tuple [.Name x px, .Name y py, .Name z pz] kt pt] (.Tuple [a, b, c] k2 pt2) X.env = pure (some [x, y, z]))
    (hs : swapsWithSole [.Tuple [.Name x px, .Name y py, .Name z pz] kt pt] (.Tuple [a, b, c] k2 pt2) pos.line X.env = pure false := by rfl) :
    DS X Wi (.Assign [.Tuple [.Name x px, .Name y py, .Name z pz] kt pt] (.Tuple [a, b, c] k2 pt2) pos) (sPar [i, j, k] l) := PS.imp (ps_par3 hc hN hi hj hk hij hik hjk hx hy hz ha hw hs) fun D0 σ H q => by
  obtain ⟨F, G, E, as, st, p⟩ := sPar_of q
  refine ⟨F, G, E, as, st, ?_⟩
  revert p
  generalize evN l E = r
  intro p
  match r, p with
  | .ok (ds, E2), p =>
    intro vs ps G2 H2 as2 s2 st2 nw
    obtain ⟨hl, k⟩ := p vs ps G2 H2 as2 s2 st2 nw
    match vs, hl with
    | [u, v, w], _ => exact ⟨u, v, w, rfl, k H2 (Same.refl _)⟩
  | .err y E2, p => exact p
/-- the stores of names, from the left -/
def tSets (is : List Nat) : TGs := fun vs σ H Q => vs.length = is.length ∧ Q (setL is σ vs) H
theorem pns_nil : PGs X [] (tSets []) := PGs.imp pgs_nil fun vs σ H Q q => by
  obtain ⟨hl, k⟩ := q
  match vs, hl with
  | [], _ => exact ⟨rfl, k⟩
theorem pns_cons {i : Nat} {is : List Nat} {x : Str} (hN : X.N.Nodup) (hi : X.N[i]? = some x) (hx : Loc X.env.scope x) (h2 : PGs X es (tSets is)) (hf : X.fn x = true ∨ X.env.scope.names.lookup x = some .local := by first | exact .inl rfl | exact .inr rfl | assumption)
    (hs : (assignEach (.Name x pos :: es) X.env).map (·.2) = assign (.Name x pos) X.env :: (assignEach es X.env).map (·.2) := by rfl) : PGs X (.Name x pos :: es) (tSets (i :: is)) :=
  PGs.imp (pgs_cons (pg_name hN hi hx hf) h2 hs) fun vs σ H Q q => by
    obtain ⟨hl, k⟩ := q
    match vs, hl with
    | v :: vs, hl => exact ⟨v, vs, rfl, Nat.succ.inj hl, k⟩
theorem ds_parT {is : List Nat} {tgs es : List Expr} {pt pt2 : Pos} {kt k2} (hc : X.calm = true) (ht : PGs X tgs (tSets is)) (ha : DWs X Wi es l) (hn : (assignEach tgs X.env).length = is.length := by rfl) (hst : (assignEach tgs X.env).findIdx? (·.1) = none := by rfl)
    (hs : swapsWithSole [.Tuple tgs kt pt] (.Tuple es k2 pt2) pos.line X.env = pure false := by rfl) (hw : swappedStores [.Tuple tgs kt pt] (.Tuple es k2 pt2) X.env = pure none := by rfl)
    (h1 : (assignEach [.Tuple tgs kt pt] X.env).map (·.2) = [assign (.Tuple tgs kt pt) X.env] := by rfl) (h9 : is.length ≤ 9 := by decide) :
    DS X Wi (.Assign [.Tuple tgs kt pt] (.Tuple es k2 pt2) pos) (sPar is l) := PS.imp (ps_asg (pe_tup ha) (pg_tup hc ht hn hst) hs hw h1) fun D0 σ H q => by
  obtain ⟨F, G, E, as, st, p⟩ := sPar_of q
  refine ⟨F, G, E, as, st, ?_⟩
  revert p
  generalize evN l E = r
  intro p
  match r, p with
  | .ok (ds, E2), p =>
    intro vs ps G2 H2 as2 s2 st2 nw
    obtain ⟨hl, k⟩ := p vs ps G2 H2 as2 s2 st2 nw
    refine ⟨by rw [hl, sizeLine_eq]; omega, fun q hq => ⟨q, vs, rfl, SqT.of upd_same, hl, hl, k _ fun b u z => ?_⟩⟩
    rw [upd_ne (ne_of_none z hq)]; exact z
  | .err y E2, p => exact p
/-- a, b = e, e data -/
def sAsg (g : GF) (f : EF) : SF := fun E => (f E).bind fun p => (ofO (asDat p.1)).bind fun d => (ofO (g d p.2)).bind fun E1 => .ok (.nx, E1)
theorem ds_asg {tg : Expr} {ts : List Nat} {g : GF} (he : DE X Wi e f) (hg : DG X tg ts g) (hs : swapsWithSole [tg] e pos.line X.env = pure false := by rfl) (hw : swappedStores [tg] e X.env = pure none := by rfl) (h1 : (assignEach [tg] X.env).map (·.2) = [assign tg X.env] := by rfl) :
    DS X Wi (.Assign [tg] e pos) (sAsg g f) := PS.imp (ps_asg he hg hs hw h1) fun D0 σ H q => by
  obtain ⟨F, G, E, as, st, p⟩ := q
  refine ⟨F, G, E, as, st, Po.mono (fun x H1 m => ?_) (Po.bindS p)⟩
  obtain ⟨w1, G1, E1, as1, s1, st1, wo1, p1⟩ := m
  obtain ⟨d, e1, p1⟩ := PoS.of p1
  obtain ⟨E2, e2, p2⟩ := PoS.of p1
  clear p1
  cases w1 with
  | own _ => cases e1
  | dat d' =>
    cases e1
    have e2 : g d E1 = some E2 := e2
    have p2 : PoS X.K Wi F G1 D0 (.ok (.nx, E2)) := p2
    exact ⟨F, G1, E1, as1, d, st1, wo1, E2, e2, fun σ' as' st' _ _ => p2 σ' G1 H1 as' (Same.refl _) st'⟩
end

def putO (d k v : D) : Option D := match d with
  | .dic kd => (keyO k).bind fun j => if kd.length < 16777216 then some (.dic (putM kd j v)) else none
  | .dit kd => match k with
    | .tup ds => (keysO ds).bind fun j => if kd.length < 16777216 then some (.dit (putM kd j v)) else none
    | _ => none
  | _ => none
def ownO (E : Env) (i : Nat) : Option D := match E[i]? with
  | some (.own d) => some d
  | _ => none
theorem ownO_ok {E : Env} {i : Nat} {d : D} (h : ownO E i = some d) : E[i]? = some (.own d) := by
  unfold ownO at h
  split at h
  · rename_i l e; cases h; exact e
  · cases h
def sPut (i : Nat) (fk fv : EF) : SF := fun E => (fv E).bind fun p => (ofO (asDat p.1)).bind fun v => (ofO (ownO p.2 i)).bind fun _ => (fk p.2).bind fun q => (rd q.2 q.1).bind fun k => (ofO (ownO q.2 i)).bind fun d => (ofO (putO d k v)).bind fun d' => .ok (.nx, q.2.set i (.own d'))
theorem ds_put {X : Cx} {Wi : Wish} {o ie value : Expr} {i : Nat} {fk fv : EF} {pos pos' : Pos} (hu : X.A.units + 1 < cLine) (ho : PE X o (tVar i)) (hi : DE X Wi ie fk) (hv : DE X Wi value fv) (hs : swapsWith value (some (.Subscript o ie pos')) pos.line X.env = pure false := by rfl) :
    DS X Wi (.Assign [.Subscript o ie pos'] value pos) (sPut i fk fv) := PS.imp (ps_dput hu ho hi hv hs) fun D0 σ H q => by
  obtain ⟨F, G, E, as, st, p⟩ := q
  refine ⟨F, G, E, as, st, Po.mono (fun y H1 m => ?_) (Po.bindS p)⟩
  obtain ⟨w1, G1, E1, as1, s1, st1, wo1, p1⟩ := m
  obtain ⟨v, e1, p1⟩ := PoS.of p1
  obtain ⟨d0, e0, p1⟩ := PoS.of p1
  obtain ⟨x, hx, a, xa, xv, _⟩ := st1.cell i _ (ownO_ok e0)
  subst xv
  refine ⟨_, hx, F, G1, E1, as1, st1, Po.mono (fun kx H2 m => ?_) (Po.bindS p1)⟩
  obtain ⟨w2, G2, E2, as2, s2, st2, wo2, p2⟩ := m
  obtain ⟨k, e2, p2⟩ := PoS.rd p2
  obtain ⟨d, e3, p2⟩ := PoS.of p2
  obtain ⟨d', e4, p2⟩ := PoS.of p2
  have e3 := ownO_ok e3
  have kb := wo2.rd (Same.refl _) st2 e2
  cases w1 with
  | own _ => cases e1
  | dat vd =>
    cases e1
    have dv : DD X.K G2 y v := DD.up s2 wo1
    obtain ⟨a', ea, ma, xo⟩ := st2.ownA e3 hx
    cases ea
    unfold putO at e4
    cases d with
    | dic kd =>
      obtain ⟨kv, h1, r⟩ := xo
      have e4 : ((keyO k).bind fun j => if kd.length < 16777216 then some (D.dic (putM kd j v)) else none) = some d' := e4
      cases q : keyO k with
      | none => rw [q] at e4; cases e4
      | some j =>
        rw [q] at e4
        obtain ⟨hl, rfl⟩ := ifs_some (show (if kd.length < 16777216 then some (D.dic (putM kd j v)) else none) = some d' from e4)
        obtain ⟨rfl, hk⟩ := keyB_ok kb q
        have hlv : kv.length < sizeLine := by rw [r.len, sizeLine_eq]; exact hl
        exact ⟨a, _, rfl, .inl ⟨kv, j, h1, rfl, hlv, rfl⟩, p2 σ G2 _ as2 (Same.refl _) (st2.write e3 ma ⟨_, upd_same, DKs.put hk dv r⟩)⟩
    | dit kd =>
      obtain ⟨kv, h1, r⟩ := xo
      cases k with
      | tup ds =>
        have e4 : ((keysO ds).bind fun j => if kd.length < 16777216 then some (D.dit (putM kd j v)) else none) = some d' := e4
        cases q : keysO ds with
        | none => rw [q] at e4; cases e4
        | some j =>
          rw [q] at e4
          obtain ⟨hl, rfl⟩ := ifs_some (show (if kd.length < 16777216 then some (D.dit (putM kd j v)) else none) = some d' from e4)
          obtain ⟨b, vs, rfl, h2, z2, dd2, _⟩ := kb.tup st2.s1
          obtain ⟨e5, hk⟩ := keysO_ok dd2 q
          rw [e5] at h2
          have hks : KsOk j := ⟨by rw [e5, List.length_map] at z2; exact z2, hk⟩
          have hlv : kv.length < sizeLine := by rw [r.len, sizeLine_eq]; exact hl
          exact ⟨a, _, rfl, .inr ⟨kv, j, b, h1, rfl, h2, hlv, rfl⟩, p2 σ G2 _ as2 (Same.refl _) (st2.write e3 ma ⟨_, upd_same, DTs.put hks dv r⟩)⟩
      | _ => cases e4
    | _ => cases e4
section
variable {X : Cx} {Wi : Wish} {pos : Pos}
def nDT : NF := fun E => .ok (.dit [], E)
theorem dn_dt : DN X Wi (.Dict [] [] pos) nDT := PE.imp pe_dnewT fun σ H Q q => by
  obtain ⟨F, G, E, as, st, p⟩ := q
  exact fun p' hp => PoN.rz st p p' _ hp (fun b u z => by rw [upd_ne (ne_of_none z hp)]; exact z) ⟨_, upd_same, .nil⟩
/-- [] -/
def nNil : NF := fun E => .ok (.lst [], E)
theorem dn_nil : DN X Wi (.List [] pos) nNil := PE.imp (pe_lst pa_nil) fun σ H Q q => by
  obtain ⟨F, G, E, as, st, p⟩ := q
  exact ⟨Nat.zero_le _, fun p' hp => PoN.rz st p p' _ hp (fun b u z => by rw [upd_ne (ne_of_none z hp)]; exact z) ⟨_, upd_same, Nat.zero_le _, .nil⟩⟩
end
end DL
namespace DL
open PySem PySem.Spec PyProof.Rows L2 TL

def disL : List (Str × EF) → Env → Res (List (Key × D) × Env)
  | [], E => .ok ([], E)
  | (k, f) :: r, E => (f E).bind fun p => (ofO (asDat p.1)).bind fun d => (disL r p.2).bind fun q => .ok ((.inr k, d) :: q.1, q.2)
def PoD (K : PySem.W.Frag) (Wi : Wish) (F : Fr) (G : Hp) (σ : L2.St) (Q : List (Key × V) → Hp → Prop) : Res (List (Key × D) × Env) → Prop
  | .ok (ds, E') => ∀ kv G' H' as', Same G G' → StE K F G' H' σ E' as' → DKs K G' kv ds → Q kv H'
  | .err x E' => ∀ c dx G' H' as', Same G G' → StE K F G' H' σ E' as' → ExOk K G' x c dx → Wi σ c dx H'
  | .stuck => False
section
variable {K : PySem.W.Frag} {Wi : Wish} {F : Fr} {G G1 H : Hp} {σ : L2.St} {Q : List (Key × V) → Hp → Prop}
theorem PoD.up {r : Res (List (Key × D) × Env)} (e : Same G G1) (h : PoD K Wi F G σ Q r) : PoD K Wi F G1 σ Q r := by
  match r, h with
  | .ok (w, E'), h => exact fun v G' H' as' s => h v G' H' as' (e.trans s)
  | .err x E', h => exact fun c dx G' H' as' s => h c dx G' H' as' (e.trans s)
theorem Po.bindD {r : Res (W × Env)} {g : W × Env → Res (List (Key × D) × Env)} (h : PoD K Wi F G σ Q (r.bind g)) :
    Po K Wi F G σ (Mid K F G σ fun _ w G1 _ E1 _ => PoD K Wi F G1 σ Q (g (w, E1))) r := by
  match r, h with
  | .ok (w, E'), h => exact fun v G' H' as' s st wo => ⟨w, G', E', as', s, st, wo, PoD.up s h⟩
  | .err x E', h => exact h
theorem PoD.of {α : Type} {o : Option α} {g : α → Res (List (Key × D) × Env)} (h : PoD K Wi F G σ Q ((ofO o).bind g)) : ∃ d, o = some d ∧ PoD K Wi F G σ Q (g d) := by
  cases o with
  | none => exact h.elim
  | some d => exact ⟨d, rfl, h⟩
def disT (K : PySem.W.Frag) (Wi : Wish) (l : List (Str × EF)) : List (TE × TE) := l.map fun p => (tC (.str p.1), tE K Wi p.2)
theorem dis_ok : ∀ (l : List (Str × EF)) {Q : List (Key × V) → Hp → Prop} {G H : Hp} {E : Env} {as : Nat → List Addr}, (∀ p ∈ l, SOk p.1) → StE K F G H σ E as → PoD K Wi F G σ Q (disL l E) →
    tPairs (disT K Wi l) σ H fun ps H2 => ∃ kv, ps = kv.map (fun x => (kV x.1, x.2)) ∧ Q kv H2
  | [], Q, G, H, E, as, _, st, p => ⟨[], rfl, p [] G H as (Same.refl _) st .nil⟩
  | (k, f) :: r, Q, G, H, E, as, hk, st, p => by
    show tE K Wi f σ H fun y H2 => tPairs (disT K Wi r) σ H2 fun ps H3 => ∃ kv, (V.str k, y) :: ps = kv.map (fun x => (kV x.1, x.2)) ∧ Q kv H3
    refine ⟨F, G, E, as, st, Po.mono (fun y H1 m => ?_) (Po.bindD p)⟩
    obtain ⟨w1, G1, E1, as1, s1, st1, wo1, p1⟩ := m
    obtain ⟨d, e1, p2⟩ := PoD.of p1
    clear p1
    cases w1 with
    | own _ => cases e1
    | dat d' =>
      cases e1
      have dd : DD K G1 y d := wo1
      have p2 : PoD K Wi F G1 σ Q ((disL r E1).bind fun q => .ok ((.inr k, d) :: q.1, q.2)) := p2
      have hk1 : SOk k := hk (k, f) List.mem_cons_self
      have z := dis_ok r (Q := fun kv H2 => Q ((.inr k, y) :: kv) H2) (fun p hp => hk p (List.mem_cons_of_mem _ hp)) st1 (by
        generalize disL r E1 = rr at p2 ⊢
        match rr, p2 with
        | .ok (ds, E2), p2 => exact fun kv G2 H2 as2 s2 st2 dk => p2 ((.inr k, y) :: kv) G2 H2 as2 s2 st2 (.cons hk1 (dd.up s2) dk)
        | .err x E2, p2 => exact p2)
      have mono : ∀ (trs : List (TE × TE)), trs = disT K Wi r → ∀ H0 (Q1 Q2 : List (V × V) → Hp → Prop), tPairs trs σ H0 Q1 → tPairs trs σ H0 Q1 := fun _ _ _ _ _ h => h
      revert z
      have fix : ∀ (l : List (Str × EF)) (H0 : Hp) (Q1 Q2 : List (V × V) → Hp → Prop), (∀ ps H, Q1 ps H → Q2 ps H) → tPairs (disT K Wi l) σ H0 Q1 → tPairs (disT K Wi l) σ H0 Q2 := by
        intro l
        induction l with
        | nil => exact fun H0 Q1 Q2 i h => i _ _ h
        | cons q l ih =>
          intro H0 Q1 Q2 i h
          obtain ⟨F3, G3, E3, as3, st3, p3⟩ := h
          exact ⟨F3, G3, E3, as3, st3, Po.mono (fun v H2 m => ih H2 _ _ (fun ps H h => i _ _ h) m) p3⟩
      exact fun z => fix r H1 _ _ (fun ps H3 ⟨kv, e, q⟩ => ⟨(.inr k, y) :: kv, by rw [e]; rfl, q⟩) z
end
def mergeM (kd more : List (Key × D)) : List (Key × D) := more.foldl (fun acc kv => putM acc kv.1 kv.2) kd
theorem DKs.merge {K : PySem.W.Frag} {G : Hp} : ∀ {more : List (Key × V)} {md : List (Key × D)} {kv : List (Key × V)} {kd : List (Key × D)}, DKs K G more md → DKs K G kv kd → DKs K G (mergeK kv more) (mergeM kd md)
  | _, _, _, _, .nil, h => h
  | _, _, _, _, .cons c a b, h => by
    have z := DKs.merge b (h.put c a)
    exact z
def nDis (l : List (Str × EF)) : NF := fun E => (disL l E).bind fun p => if p.1.length ≤ 15 then .ok (.dic (mergeM [] p.1), p.2) else .stuck
/-- the pairs of a display of constant texts -/
structure DPs (X : Cx) (Wi : Wish) (pos : Pos) (keys : List (Option Expr)) (values : List Expr) (l : List (Str × EF)) : Prop where
  ps : PPs X pos keys values (disT X.K Wi l)
  ok : ∀ p ∈ l, SOk p.1
section
variable {X : Cx} {Wi : Wish} {pos : Pos} {keys : List (Option Expr)} {values : List Expr} {l : List (Str × EF)}
theorem dps_nil : DPs X Wi pos [] [] [] := ⟨pps_nil, fun _ h => (by cases h)⟩
theorem dps_cons {k : Str} {j} {p : Pos} {v : Expr} {f : EF} (hk : SOk k) (hv : DE X Wi v f) (hr : DPs X Wi pos keys values l) : DPs X Wi pos (some (.Constant (.str k) j p) :: keys) (v :: values) ((k, f) :: l) :=
  ⟨pps_cons pe_str hv hr.ps, fun p hp => by
    rcases List.mem_cons.mp hp with z | z
    · rw [z]; exact hk
    · exact hr.ok p z⟩
theorem dn_dis (h : DPs X Wi pos keys values l) (hall : keys.all (·.isSome) = true := by rfl) (hl : keys.length = values.length := by rfl) (h0 : keys ≠ [] := by intro z; cases z) (h15 : keys.length ≤ 15 := by decide) : DN X Wi (.Dict keys values pos) (nDis l) :=
  PE.imp (pe_disp h.ps hall hl h0 h15) fun σ H Q q => by
    obtain ⟨F, G, E, as, st, p⟩ := q
    intro a ha
    have ga : G a = none := st.s1.free ha
    have fa : F.H0 a = none := st.dom a ha
    have na : ∀ j, a ∉ as j := fun j hj => by obtain ⟨u, q⟩ := st.there hj; rw [ha] at q; cases q
    have st1 := st.al (Al.grow st.s1 (H' := upd H a (.dK [])) fun b u q => by rw [upd_ne (ne_of_none q ha)]; exact q)
    have o1 : OwnAt X.K G (upd H a (.dK [])) a (.dic []) := ⟨_, upd_same, .nil⟩
    have z := dis_ok (K := X.K) (Wi := Wi) (F := inner G (upd H a (.dK [])) as E.length) (σ := σ) l (Q := fun kv H2 => H2 a = some (.dK []) ∧ kv.length ≤ 15 ∧ Q (.ref a) (upd H2 a (.dK (mergeK [] kv)))) h.ok st1.in_ (by
      have p : PoN X.K Wi F G σ Q ((disL l E).bind fun p => if p.1.length ≤ 15 then .ok (.dic (mergeM [] p.1), p.2) else .stuck) := p
      generalize disL l E = rr at p ⊢
      match rr, p with
      | .ok (ds, E2), p =>
        intro kv G2 H2 as2 s2 st2 dk
        have p : PoN X.K Wi F G σ Q (if ds.length ≤ 15 then .ok (.dic (mergeM [] ds), E2) else .stuck) := p
        by_cases hds : ds.length ≤ 15
        · rw [if_pos hds] at p
          obtain ⟨g2, n2, kv0, h2, _⟩ := StE.stays ga na o1 s2 st2
          have keepA : H2 a = some (.dK []) := st2.keep a _ upd_same fun z => by obtain ⟨j, hj⟩ := of_own z; exact na j hj
          refine ⟨keepA, by rw [dk.len]; exact hds, ?_⟩
          exact p a G2 _ as2 s2 ((st1.out st2).wr g2 fa n2 (by rw [keepA]; exact fun z => nomatch z)) g2 fa n2 ⟨_, upd_same, DKs.merge dk .nil⟩
        · rw [if_neg hds] at p; exact p.elim
      | .err x E2, p => exact fun c dx G2 H2 as2 s2 st2 xo => p c dx G2 H2 as2 s2 (st1.out st2) xo)
    have fix : ∀ (l : List (Str × EF)) (H0 : Hp) (Q1 Q2 : List (V × V) → Hp → Prop), (∀ ps H, Q1 ps H → Q2 ps H) → tPairs (disT X.K Wi l) σ H0 Q1 → tPairs (disT X.K Wi l) σ H0 Q2 := by
      intro l
      induction l with
      | nil => exact fun H0 Q1 Q2 i h => i _ _ h
      | cons q l ih =>
        intro H0 Q1 Q2 i h
        obtain ⟨F3, G3, E3, as3, st3, p3⟩ := h
        exact ⟨F3, G3, E3, as3, st3, Po.mono (fun v H2 m => ih H2 _ _ (fun ps H h => i _ _ h) m) p3⟩
    exact fix l _ _ _ (fun ps H3 ⟨kv, e, h1, h2, h3⟩ => ⟨h1, kv, e, h2, h3⟩) z
end

/-- list(d), d with tuples as keys -/
def nListT (fs : AF) : NF := fun E => (fs E).bind fun p => (rds p.2 p.1).bind fun ds => match ds with
  | [.dit kd] => if kd.length ≤ 16777216 then .ok (.lst (kd.map fun x => .tup (x.1.map kD)), p.2) else .stuck
  | _ => .stuck
theorem dts_keys {K : PySem.W.Frag} {G G' H : Hp} : ∀ {kv : List (List Key × V)} {kd : List (List Key × D)} {bs : List Addr}, (∀ b ∈ bs, G' b = H b) → DTs K G kv kd → Paired (fun (p : List Key × V) b => H b = some (.tup (p.1.map kV))) kv bs → DDs K G' (bs.map V.ref) (kd.map fun x => .tup (x.1.map kD))
  | _, _, _, _, .nil, .nil => .nil
  | _, _, _, hb, .cons c a b, .cons e r => .cons (.tup ((hb _ List.mem_cons_self).trans e) (by rw [List.length_map]; exact c.1) (keysD_dd c.2)) (dts_keys (fun x hx => hb x (List.mem_cons_of_mem _ hx)) b r)
theorem isKeys_tup {H : Hp} : ∀ {kv : List (List Key × V)} {bs : List Addr}, Paired (fun (p : List Key × V) b => H b = some (.tup (p.1.map kV))) kv bs → ∀ b ∈ bs, ∃ k : List Key, H b = some (.tup (k.map kV))
  | _, _, .nil, _, hb => by cases hb
  | _, _, .cons e r, b, hb => by
    rcases List.mem_cons.mp hb with z | z
    · rw [z]; exact ⟨_, e⟩
    · exact isKeys_tup r b z
theorem isKeys_len {H : Hp} : ∀ {kv : List (List Key × V)} {bs : List Addr}, Paired (fun (p : List Key × V) b => H b = some (.tup (p.1.map kV))) kv bs → bs.length = kv.length
  | _, _, .nil => rfl
  | _, _, .cons e r => congrArg Nat.succ (isKeys_len r)
theorem dn_listT {X : Cx} {Wi : Wish} {a : Expr} {fs : AF} {p pos : Pos} (hc : X.calm = true) (hg : Gl X "list") (hm : X.mg "list" = none) (ha : DA X Wi [a] fs) (he : starEach [a] X.env = (false, eval a X.env) :: starEach [] X.env := by rfl) (hpl : (backTo pos (starEach [] X.env)).any (·.1) = false := by rfl) :
    DN X Wi (.Call (.Name "list" p) [a] [] pos) (nListT fs) := PE.imp (pe_callTy (call_list_dT hc) hg hm PyProof.Rows.boot_list ha (by decide) (by decide) he hpl) fun σ H Q q => by
  obtain ⟨F, G, E, as, st, p⟩ := q
  refine ⟨F, G, E, as, st, PoA.mono (fun x H1 m => ?_) (PoA.bindN p)⟩
  obtain ⟨ws, G1, E1, as1, s1, st1, wo1, p1⟩ := m
  obtain ⟨ds, e1, p1⟩ := PoN.rds p1
  have bd := wo1.rds (Same.refl _) st1 e1
  match ds, p1 with
  | [.dit kd], p1 =>
    have p1 : PoN X.K Wi F G1 σ Q (if kd.length ≤ 16777216 then .ok (.lst (kd.map fun x => .tup (x.1.map kD)), E1) else .stuck) := p1
    by_cases hl : kd.length ≤ 16777216
    · rw [if_pos hl] at p1
      obtain ⟨v, rfl, b⟩ := bd.one
      obtain ⟨d, kv, rfl, h1, r⟩ := b.dit st1.s1
      refine ⟨d, kv, rfl, .inl h1, fun q bs hq kb => ?_⟩
      have al : Al G1 H1 (fun a => if a ∈ bs then H1 a else G1 a) (upd H1 q (.lst (bs.map V.ref))) := by
        refine ⟨fun b u e => ?_, fun b u e => by rw [upd_ne (ne_of_none e hq)]; exact e, fun b u e => ?_, fun b o hb e q' => ?_⟩
        · by_cases hb : b ∈ bs
          · show (if b ∈ bs then H1 b else G1 b) = some u
            rw [if_pos hb]; exact st1.s1 _ _ e
          · show (if b ∈ bs then H1 b else G1 b) = some u
            rw [if_neg hb]; exact e
        · have e : (if b ∈ bs then H1 b else G1 b) = some u := e
          have e2 : H1 b = some u := by
            by_cases hb : b ∈ bs
            · rw [if_pos hb] at e; exact e
            · rw [if_neg hb] at e; exact st1.s1 _ _ e
          rw [upd_ne (ne_of_none e2 hq)]; exact e2
        · by_cases hb2 : b ∈ bs
          · obtain ⟨k, hk⟩ := isKeys_tup kb b hb2
            rw [hk] at q'; cases q'; rfl
          · have hb : (if b ∈ bs then H1 b else G1 b) ≠ none := hb
            rw [if_neg hb2] at hb; exact absurd e hb
      refine p1 q _ _ as1 al.g (st1.al al) ?_ (st1.dom q hq) (fun j hj => ?_) ⟨_, upd_same, ?_, dts_keys (fun b hb => if_pos hb) r kb⟩
      · show (if q ∈ bs then H1 q else G1 q) = none
        split
        · exact hq
        · exact st1.s1.free hq
      · obtain ⟨u, z⟩ := st1.there hj
        rw [hq] at z; cases z
      · rw [List.length_map, isKeys_len kb, r.len, sizeLine_eq]; exact hl
    · rw [if_neg hl] at p1; exact p1.elim
def gListX : List D → Option D
  | [.str x] => some (.lst (signs x))
  | _ => none
def rListX : List V → Hp → VK → Prop := fun xs H Q => ∃ x : Str, xs = [.str x] ∧ SOk x ∧ ∀ l, H l = none → Q (.ref l) (upd H l (.lst ((tl x).map fun c => V.str (sgn c))))
theorem signs_dd {K : PySem.W.Frag} {G : Hp} {x : Str} (ok : SOk x) : DDs K G ((tl x).map fun c => V.str (sgn c)) (signs x) := by
  unfold signs
  have key : ∀ l : List Nat, (∀ c ∈ l, SOk (sgn c)) → DDs K G (l.map fun c => V.str (sgn c)) (l.map fun c => D.str (sgn c)) := by
    intro l
    induction l with
    | nil => exact fun _ => .nil
    | cons c l ih => exact fun h => .cons (.str _ (h c List.mem_cons_self)) (ih fun d hd => h d (List.mem_cons_of_mem _ hd))
  exact key _ fun c hc => sok_sgn ok hc
theorem calln_listX {K : PySem.W.Frag} : CallN K rListX gListX := by
  intro G H xs ds d Q s h e z
  match ds, e with
  | [.str x], e =>
    cases e
    obtain ⟨v, rfl, b⟩ := h.one
    obtain ⟨rfl, ok⟩ := b.str
    exact ⟨x, rfl, ok, fun q hq => z q _ hq (Al.one s hq).h ⟨_, upd_same, by rw [List.length_map]; exact ok.1, signs_dd ok⟩⟩
theorem signs_vals {x : Str} {acc : Array Value} (h : ItemsOf (SignAt x) acc x.cps.size) : Vals ((tl x).map fun c => V.str (sgn c)) acc.toList := by
  refine vals_of_at (by rw [List.length_map, Array.length_toList]; exact h.1.symm) fun j a u h1 h2 => ?_
  obtain ⟨c, t, hc, rfl⟩ := h.2 j u (by rw [← Array.getElem?_toList]; exact h2)
  have e : (tl x)[j]? = some c := by unfold tl; rw [Array.getElem?_toList]; exact hc
  rw [List.getElem?_map, e] at h1
  cases h1
  exact ⟨t, rfl⟩
theorem call_listX {X : Cx} (hc : X.calm = true) : CallR X (.type "list") rListX := by
  intro pins s σ H xs us Q I r h
  obtain ⟨x, rfl, ok, q⟩ := h
  obtain ⟨u, rfl, rx⟩ := vals1 r
  obtain ⟨t, rfl⟩ := rx
  refine call_list_str (I.ok.hd hc) x t (fun h' tk acc' c' kp e hacc => ?_) ok.1
  exact ⟨.ref _, _, I.laid (t' := tk) kp (Nat.le_refl _) (show ObjOk X.prog X.w _ h' _ (.lst ((tl x).map fun c => V.str (sgn c))) from ⟨by rw [List.length_map]; exact ok.1, acc'.toList, c', signs_vals hacc, by rw [Array.toArray_toList]; exact e⟩), rfl, q _ (I.hok.fresh (Nat.le_refl _))⟩

theorem WOks.app {K : PySem.W.Frag} {G : Hp} {E : Env} {σ : L2.St} : ∀ {vs us : List V} {ds : List D} {ws : List W}, DDs K G vs ds → WOks K G E σ us ws → WOks K G E σ (vs ++ us) (ds.map W.dat ++ ws)
  | _, _, _, _, .nil, h => h
  | _, _, _, _, .cons a b, h => ⟨a, WOks.app b h⟩
section
variable {X : Cx} {Wi : Wish} {e : Expr} {es : List Expr} {te : TE} {t : TA} {f : EF} {g : AF} {p : Pos}
theorem PoA.of {K : PySem.W.Frag} {F : Fr} {G : Hp} {σ : L2.St} {Q : List V → Hp → Prop} {α : Type} {o : Option α} {g : α → Res (List W × Env)} (h : PoA K Wi F G σ Q ((ofO o).bind g)) : ∃ d, o = some d ∧ PoA K Wi F G σ Q (g d) := by
  cases o with
  | none => exact h.elim
  | some d => exact ⟨d, rfl, h⟩
end

end DL
namespace DL
open PySem PySem.Spec PyProof.Rows L2 TL

/-- the promise of an __init__: the fields fm, or an exception -/
def spI (K : PySem.W.Frag) (n : Nat) (C : Addr) (fm : List D → Res (List (Str × D))) : Sp := fun vs H Q E => ∃ G a dx vr ds, vs = .ref a :: vr ∧ Same G H ∧ G a = none ∧ H a = some (.ins C dx []) ∧ DDs K G vr ds ∧ ds.length = n ∧ match fm ds with
  | .ok fs => ∀ G' H' dx' vf, Same G G' → Same G' H' → (∀ b o, H b = some o → b ≠ a → H' b = some o) → (∀ b o, G' b ≠ none → H b = some o → isT o = false → b ≠ a → G b ≠ none) → G' a = none → H' a = some (.ins C dx' vf) → DFs K G' vf fs → Q .non H'
  | .err x _ => ∀ c dx G' H', Same G G' → Same G' H' → (∀ b o, H b = some o → b ≠ a → H' b = some o) → (∀ b o, G' b ≠ none → H b = some o → isT o = false → b ≠ a → G b ≠ none) → ExOk K G' x c dx → E c dx H'
  | .stuck => False
def slfO (E : Env) (a : Addr) : Option (Addr × List (Str × D)) := match E.head? with
  | some (.slf b (.obj C fs)) => if b = a then some (C, fs) else none
  | _ => none
def outI (a C : Addr) : Res (Fl × Env) → Res (List (Str × D))
  | .ok (.rt .non, E) => (ofO (slfO E a)).bind fun z => if z.1 = C then .ok z.2 else .stuck
  | .ok (.nx, E) => (ofO (slfO E a)).bind fun z => if z.1 = C then .ok z.2 else .stuck
  | .err x _ => .err x []
  | _ => .stuck
theorem slfO_ok {E : Env} {a C : Addr} {fs : List (Str × D)} (h : slfO E a = some (C, fs)) : E[0]? = some (.slf a (.obj C fs)) := by
  unfold slfO at h
  cases E with
  | nil => cases h
  | cons c r =>
    cases c with
    | slf b d =>
      cases d with
      | obj C' fs' =>
        have h : (if b = a then some (C', fs') else none) = some (C, fs) := h
        by_cases e : b = a
        · rw [if_pos e] at h; cases h; rw [e]; rfl
        · rw [if_neg e] at h; cases h
      | _ => cases h
    | _ => cases h
theorem StE.startI {K : PySem.W.Frag} {G H : Hp} {N : List Str} {vs : List V} {ds : List D} {n : Nat} {a C dx : Addr} (s : Same G H) (ga : G a = none) (ha : H a = some (.ins C dx [])) (dd : DDs K G vs ds) (hn : ds.length + 1 + n = N.length) :
    StE K ⟨H, G, [a]⟩ G H (L2.start N (.ref a :: vs)) (.slf a (.obj C []) :: ds.map .dat ++ nos n) fun i => if i = 0 then [a] else [] := by
  have hl : vs.length = ds.length := dd.len
  refine ⟨?_, Same.refl _, s, fun _ _ h _ => h, fun _ h => h, fun _ _ h _ _ _ => h, fun i c e => ?_, fun i j b h1 h2 => ?_, fun i b h => ?_, fun i h => ?_⟩
  · rw [start_len (by simp only [List.length_cons]; omega), List.length_append, List.length_cons, List.length_map]; unfold nos; rw [List.length_replicate]; omega
  · cases i with
    | zero =>
      cases e
      exact ⟨_, start_get (v := .ref a) rfl, rfl, rfl, dx, [], ha, .nil⟩
    | succ i =>
      have e : (ds.map Cell.dat ++ nos n)[i]? = some c := e
      by_cases hi : i < ds.length
      · rw [List.getElem?_append_left (by simpa using hi)] at e
        obtain ⟨v, d, e1, rfl, dd'⟩ := dd.cell e
        exact ⟨_, start_get (v := v) e1, rfl, v, rfl, dd'⟩
      · rw [List.getElem?_append_right (by simpa using hi)] at e
        have hc : c = .no := by
          unfold nos at e
          rw [List.getElem?_replicate] at e
          split at e
          · exact (Option.some.inj e).symm
          · cases e
        subst hc
        have hb : i + 1 < N.length := by
          have := (List.getElem?_eq_some_iff.mp e).1
          unfold nos at this
          rw [List.length_replicate, List.length_map] at this; omega
        exact ⟨_, List.getElem?_eq_getElem (by rw [start_len (by simp only [List.length_cons]; omega)]; exact hb), rfl⟩
  · by_cases hi : i = 0
    · by_cases hj : j = 0
      · rw [hi, hj]
      · rw [if_neg hj] at h2; cases h2
    · rw [if_neg hi] at h1; cases h1
  · by_cases hi : i = 0
    · rw [if_pos hi] at h
      rw [List.mem_singleton.mp h]
      exact ⟨ga, .inr (List.mem_singleton.mpr rfl)⟩
    · rw [if_neg hi] at h; cases h
  · have : i ≠ 0 := fun z => by subst z; simp at h
    rw [if_neg this]
section
variable {P : Program} {w : World} {K : PySem.W.Frag} {mg : Str → Option Value} {base : Heap} {k : Nat} {f : Addr} {fd : FuncData} {ps N : List Str} {x qual : Str} {st : Stmt} {fb : SF}
theorem spI_len {n : Nat} {C : Addr} {fm : List D → Res (List (Str × D))} (hn : n + 1 = ps.length) : ∀ vs H Q E, spI K n C fm vs H Q E → vs.length = ps.length := fun vs H Q E h => by
  obtain ⟨G, a, dx, vr, ds, rfl, _, _, _, dd, e, _⟩ := h
  rw [List.length_cons, dd.len, e, hn]
/-- an exception that leaves: what the caller wishes -/
def WiX (E : XK) : Wish := fun _ => E
end

def setF (f : Str) (d : D) : List (Str × D) → List (Str × D)
  | [] => [(f, d)]
  | (g, x) :: r => if g = f then (g, d) :: r else (g, x) :: setF f d r
theorem DFs.len {K : PySem.W.Frag} {G : Hp} : ∀ {vs : List (Str × V)} {ds : List (Str × D)}, DFs K G vs ds → vs.length = ds.length
  | _, _, .nil => rfl
  | _, _, .cons _ b => congrArg Nat.succ (DFs.len b)
theorem DFs.put {K : PySem.W.Frag} {G : Hp} {f : Str} {v : V} {d : D} (h : DD K G v d) : ∀ {vs : List (Str × V)} {ds : List (Str × D)}, DFs K G vs ds → DFs K G (putF f v vs) (setF f d ds)
  | _, _, .nil => .cons h .nil
  | _, _, .cons (k := g) (vs := vs) (ds := ds) a b => by
    show DFs K G (if g = f then (g, v) :: vs else (g, _) :: putF f v vs) (if g = f then (g, d) :: ds else (g, _) :: setF f d ds)
    by_cases e : g = f
    · rw [if_pos e, if_pos e]; exact .cons h b
    · rw [if_neg e, if_neg e]; exact .cons a (DFs.put h b)
def slfAt (E : Env) (i : Nat) (C : Addr) : Option (Addr × List (Str × D)) := match E[i]? with
  | some (.slf a (.obj C' fs)) => if C' = C ∧ fs.length < 1000 then some (a, fs) else none
  | _ => none
theorem slfAt_ok {E : Env} {i : Nat} {C a : Addr} {fs : List (Str × D)} (h : slfAt E i C = some (a, fs)) : E[i]? = some (.slf a (.obj C fs)) ∧ fs.length < 1000 := by
  unfold slfAt at h
  split at h
  · rename_i b C' fs' e
    split at h
    · rename_i q; cases h; rw [e, q.1]; exact ⟨rfl, q.2⟩
    · cases h
  · cases h
def sFldD (i : Nat) (C : Addr) (f : Str) (fe : EF) : SF := fun E => (fe E).bind fun p => (ofO (asDat p.1)).bind fun d => (ofO (slfAt p.2 i C)).bind fun z => .ok (.nx, p.2.set i (.slf z.1 (.obj C (setF f d z.2))))
theorem StE.writeS {K : PySem.W.Frag} {F : Fr} {G H : Hp} {σ : L2.St} {E : Env} {as : Nat → List Addr} {i : Nat} {a : Addr} {d d' : D} {o : HO} (st : StE K F G H σ E as) (e : E[i]? = some (.slf a d)) (h : OwnAt K G (upd H a o) a d') : StE K F G (upd H a o) σ (E.set i (.slf a d')) as := by
  obtain ⟨v, e1, x1, x2, x3⟩ := st.cell i _ e
  have ha : a ∈ as i := by rw [x1]; exact List.mem_singleton.mpr rfl
  have of := st.off i a ha
  refine ⟨by rw [List.length_set]; exact st.len, st.s0, fun b u q => ?_, fun b u q x => ?_, fun b q => ?_, st.priv, fun j c' q => ?_, st.sep, st.off, fun j hj => st.tail j (by rw [List.length_set] at hj; exact hj)⟩
  · rw [upd_ne (ne_of_none q of.1)]; exact st.s1 b u q
  · have hb : b ≠ a := fun z => by
      subst z
      rcases of.2 with z | z
      · rw [z] at q; cases q
      · exact x z
    rw [upd_ne hb]; exact st.keep b u q x
  · by_cases hb : b = a
    · subst hb; rw [upd_same] at q; cases q
    · rw [upd_ne hb] at q; exact st.dom b q
  · rcases get_set q with ⟨rfl, rfl⟩ | ⟨hj, q⟩
    · exact ⟨v, e1, x1, x2, h⟩
    · obtain ⟨w, e2, y⟩ := st.cell j c' q
      refine ⟨w, e2, y.up (Same.refl _) fun b hb u q => ?_⟩
      have : b ≠ a := fun z => by subst z; exact hj (st.sep j i b hb ha)
      rw [upd_ne this]; exact q
theorem ds_fld {X : Cx} {Wi : Wish} {o value : Expr} {i : Nat} {C : Addr} {f : Str} {fe : EF} {pos pos' : Pos} (c : Cls X.K C) (n : NoAttr X.K C f) (ho : PE X o (tVar i)) (hv : DE X Wi value fe) (hs : swapsWith value (some (.Attribute o f pos')) pos.line X.env = pure false := by rfl) :
    DS X Wi (.Assign [.Attribute o f pos'] value pos) (sFldD i C f fe) := PS.imp (ps_fld ho hv hs) fun D0 σ H q => by
  obtain ⟨F, G, E, as, st, p⟩ := q
  refine ⟨F, G, E, as, st, Po.mono (fun y H1 m => ?_) (Po.bindS p)⟩
  obtain ⟨w1, G1, E1, as1, s1, st1, wo1, p1⟩ := m
  obtain ⟨d, e1, p2⟩ := PoS.of p1
  obtain ⟨⟨a, fs⟩, e2, p3⟩ := PoS.of p2
  clear p1 p2
  obtain ⟨e3, hl⟩ := slfAt_ok e2
  obtain ⟨v, hv, x1, x2, dx, vf, h1, df⟩ := st1.cell i _ e3
  subst x2
  cases w1 with
  | own _ => cases e1
  | dat d' =>
    cases e1
    have dd : DD X.K G1 y d := wo1
    exact ⟨_, hv, a, C, dx, vf, rfl, h1, c, n, by rw [df.len]; exact hl, p3 σ G1 _ as1 (Same.refl _) (st1.writeS e3 ⟨dx, _, upd_same, DFs.put dd df⟩)⟩

section
variable {X : Cx} {CX : CXT} {k n : Nat} {f C : Addr} {fd : FuncData} {ps ks : List Str} {Wi : Wish} {x m : Str} {p pos apos kpos : Pos} {e o : Expr} {es : List Expr} {kws : List Keyword} {fs fk : AF} {fo : EF} {fm : List D → Res (List (Str × D))} {gm : List D → Res D} {sp : Sp} {t tk : TA}
def nMk (C : Addr) (n : Nat) (fm : List D → Res (List (Str × D))) (fs : AF) : NF := fun E => (fs E).bind fun p => (ofO (dats p.1)).bind fun ds => if ds.length = n then (match fm ds with
  | .ok l => .ok (.obj C l, p.2)
  | .err x _ => .err x p.2
  | .stuck => .stuck) else .stuck
theorem mk_of {K : PySem.W.Frag} {F : Fr} {G H : Hp} {σ : L2.St} {E : Env} {as : Nat → List Addr} {Q : VK} {vs : List V} {ds : List D} (st : StE K F G H σ E as) (dd : DDs K G vs ds) (hn : ds.length = n) (p : PoN K Wi F G σ Q (match fm ds with
  | .ok l => .ok (.obj C l, E)
  | .err x _ => .err x E
  | .stuck => .stuck)) : ∀ x dx, H x = none → H dx = none → dx ≠ x → spI K n C fm (.ref x :: vs) (upd (upd H dx (.own x)) x (.ins C dx [])) (fun v H2 => v = .non ∧ Q (.ref x) H2) (Wi σ) := by
  intro x dx hx hdx ne
  have up : ∀ b o, H b = some o → upd (upd H dx (.own x)) x (.ins C dx []) b = some o := fun b o h => by rw [upd_ne (ne_of_none h hx), upd_ne (ne_of_none h hdx)]; exact h
  have gx : G x = none := st.s1.free hx
  refine ⟨G, x, dx, vs, ds, rfl, fun b o h => up b o (st.s1 b o h), gx, upd_same, dd, hn, ?_⟩
  have al : ∀ {G' H' : Hp}, Same G G' → Same G' H' → (∀ b o, upd (upd H dx (.own x)) x (.ins C dx []) b = some o → b ≠ x → H' b = some o) → (∀ b o, G' b ≠ none → upd (upd H dx (.own x)) x (.ins C dx []) b = some o → isT o = false → b ≠ x → G b ≠ none) → Al G H G' H' := fun {G' H'} s1 s2 kp pv =>
    ⟨s1, fun b o h => kp b o (up b o h) (ne_of_none h hx), s2, fun b o h e q => by
      cases ht : isT o with
      | true => rfl
      | false => exact absurd e (pv b o h (up b o q) ht (ne_of_none q hx))⟩
  generalize fm ds = r at p ⊢
  match r, p with
  | .ok l, p =>
    intro G' H' dx' vf s1 s2 kp pv ga ha df
    have a := al s1 s2 kp pv
    exact ⟨rfl, p x G' H' as s1 (st.al a) ga (st.dom x hx) (fun j hj => by obtain ⟨u, q⟩ := st.there hj; rw [hx] at q; cases q) ⟨dx', vf, ha, df⟩⟩
  | .err y _, p =>
    intro c dx2 G' H' s1 s2 kp pv xo
    exact p c dx2 G' H' as s1 (st.al (al s1 s2 kp pv)) xo
def pick {α : Type} (pm : List Nat) (l : List α) : List α := pm.filterMap fun i => l[i]?
/-- how the positional values and those of the keywords ks come to the parameters -/
structure KW (fd : FuncData) (ps : List Str) (n : Nat) (ks : List Str) (pm : List Nat) : Prop where
  to : ∀ us ws : List Value, us.length = n → ws.length = ks.length → bindArgs fd ⟨us, ks.zip ws⟩ = pure (ps.zip (pick pm (us ++ ws)))
theorem vals_pick {vs : List V} {us : List Value} (r : Vals vs us) : ∀ pm : List Nat, Vals (pick pm vs) (pick pm us)
  | [] => .nil
  | i :: pm => by
    have ih := vals_pick r pm
    unfold pick at ih ⊢
    rw [List.filterMap_cons, List.filterMap_cons]
    cases q : vs[i]? with
    | none =>
      have q2 : us[i]? = none := by
        rw [List.getElem?_eq_none_iff] at q ⊢
        rw [← r.length]; exact q
      rw [q2]; exact ih
    | some v =>
      obtain ⟨u, q2, ru⟩ := r.get q
      rw [q2]; exact .cons ru ih
theorem dds_pick {K : PySem.W.Frag} {G : Hp} {vs : List V} {ds : List D} (r : DDs K G vs ds) : ∀ pm : List Nat, DDs K G (pick pm vs) (pick pm ds)
  | [] => .nil
  | i :: pm => by
    have ih := dds_pick r pm
    unfold pick at ih ⊢
    rw [List.filterMap_cons, List.filterMap_cons]
    cases q : vs[i]? with
    | none =>
      have q2 : ds[i]? = none := by
        rw [List.getElem?_eq_none_iff] at q ⊢
        rw [← r.len]; exact q
      rw [q2]; exact ih
    | some v =>
      obtain ⟨d, q2, dd⟩ := r.getV q
      rw [q2]; exact .cons dd ih
theorem run_KW {pins : List (Addr × Obj)} {σ : L2.St} {H : Hp} {s : Shared} {Q : VK} {us ws : List Value} {vs zs : List V} {pm : List Nat} (F : FnG X.prog X.w X.K X.mg X.base CX k f fd ps sp) (hg : X.A.guards = some []) (hr : Room k X.A) (kb : KW fd ps n ks pm) (hx : PassW CX X Wi) (I : Inv X pins σ H s) (r : Vals vs us) (rz : Vals zs ws)
    (l1 : vs.length = n) (l2 : zs.length = ks.length) (h : sp (pick pm (vs ++ zs)) H Q (Wi σ)) : wpAny (model X.prog X.w) X.A (call (.ref f) us (ks.zip ws)) (EP X pins σ Q) X.xe s :=
  code_call (call_go F hg hr hx I (.of_eq (kb.to us ws (by rw [← r.length]; exact l1) (by rw [← rz.length]; exact l2))) (vals_pick (r.append rz) pm) h)
abbrev DK (X : Cx) (Wi : Wish) (kws : List Keyword) (f : AF) : Prop := PK X kws (tA X.K Wi f)
theorem PK.imp {X : Cx} {e : List Keyword} {t t' : TA} (h : PK X e t) (i : ∀ σ H Q, t' σ H Q → t σ H Q) : PK X e t' :=
  ⟨fun pos pins s σ H Q I q => h.run pos pins s σ H Q I (i σ H Q q)⟩
theorem dk_nil : DK X Wi [] aN := PK.imp pk_nil fun σ H Q q => by
  obtain ⟨F, G, E, as, st, p⟩ := q
  exact p [] G H as (Same.refl _) st True.intro
theorem dk_cons {nm : Option Str} {fa : EF} (ha : DE X Wi e fa) (hr : DK X Wi kws fs) : DK X Wi (⟨nm, e, kpos⟩ :: kws) (aC fa fs) := PK.imp (pk_cons ha hr) fun σ H Q q => by
  obtain ⟨F, G, E, as, st, p⟩ := q
  refine ⟨F, G, E, as, st, Po.mono (fun x H1 m => ?_) (Po.bindA p)⟩
  obtain ⟨w1, G1, E1, as1, s1, st1, wo1, p1⟩ := m
  refine ⟨F, G1, E1, as1, st1, ?_⟩
  generalize fs E1 = r at p1 ⊢
  match r, p1 with
  | .ok (ws, E2), p1 => exact fun vs G2 H2 as2 s2 st2 wo2 => p1 (x :: vs) G2 H2 as2 s2 st2 ⟨WOk.up s2 wo1, wo2⟩
  | .err y E2, p1 => exact p1
theorem PoA.bindA {K : PySem.W.Frag} {F : Fr} {G : Hp} {σ : L2.St} {Q : List V → Hp → Prop} {r : Res (List W × Env)} {g : List W × Env → Res (List W × Env)} (h : PoA K Wi F G σ Q (r.bind g)) :
    PoA K Wi F G σ (MidA K F G σ fun _ ws G1 _ E1 _ => PoA K Wi F G1 σ Q (g (ws, E1))) r := by
  match r, h with
  | .ok (w, E'), h => exact fun v G' H' as' s st wo => ⟨w, G', E', as', s, st, wo, PoA.up s h⟩
  | .err x E', h => exact h
/-- f(e, .., k = v, ..) -/
def eFK (n kn : Nat) (pm : List Nat) (np : Nat) (fm : List D → Res D) (fs fk : AF) : EF := fun E => (fs E).bind fun p => (fk p.2).bind fun q => (ofO (dats p.1)).bind fun ds => (ofO (dats q.1)).bind fun es =>
  if ds.length = n ∧ es.length = kn ∧ (pick pm (ds ++ es)).length = np then ret (fm (pick pm (ds ++ es))) q.2 else .stuck
theorem tFK_of {np kn : Nat} {pm : List Nat} : ∀ σ H Q, tE X.K Wi (eFK n kn pm np gm fs fk) σ H Q → tA X.K Wi fs σ H fun vs H1 => tA X.K Wi fk σ H1 fun zs H2 => vs.length = n ∧ zs.length = kn ∧ spP X.K np gm (pick pm (vs ++ zs)) H2 Q (Wi σ) := by
  intro σ H Q q
  obtain ⟨F, G, E, as, st, p⟩ := q
  refine ⟨F, G, E, as, st, PoA.mono (fun vs H1 m => ?_) (PoA.bind p)⟩
  obtain ⟨ws, G1, E1, as1, s1, st1, wo1, p1⟩ := m
  refine ⟨F, G1, E1, as1, st1, PoA.mono (fun zs H2 m => ?_) (PoA.bind p1)⟩
  obtain ⟨ys, G2, E2, as2, s2, st2, wo2, p2⟩ := m
  obtain ⟨ds, e1, p3⟩ := Po.of p2
  obtain ⟨es, e2, p4⟩ := Po.of p3
  clear p1 p2 p3
  have d1 := (dats_ok wo1 e1).up s2
  have d2 := dats_ok wo2 e2
  have p4 : Po X.K Wi F G2 σ Q (if ds.length = n ∧ es.length = kn ∧ (pick pm (ds ++ es)).length = np then ret (gm (pick pm (ds ++ es))) E2 else .stuck) := p4
  by_cases h : ds.length = n ∧ es.length = kn ∧ (pick pm (ds ++ es)).length = np
  · rw [if_pos h] at p4
    exact ⟨d1.len.trans h.1, d2.len.trans h.2.1, spP_of st2 (dds_pick (d1.app d2) pm) h.2.2 p4⟩
  · rw [if_neg h] at p4; exact p4.elim
/-- f(k = v, ..) -/
theorem de_FK0 {np : Nat} {pm : List Nat} (F : FnG X.prog X.w X.K X.mg X.base CX k f fd ps (spP X.K np gm)) (hg : X.A.guards = some []) (hr : Room k X.A) (gl : Gl X x) (hm : X.mg x = some (.ref f)) (hk : PySem.W.keepIn X.K (.ref f) = true) (kb : KW fd ps 0 ks pm) (hx : PassW CX X Wi) (hkw : DK X Wi kws fk)
    (hall : (backToKw pos (keywordEach kws X.env)).all (·.1.isSome) = true := by rfl) (hks : (backToKw pos (keywordEach kws X.env)).filterMap (·.1) = ks := by rfl) (hdb : (x == ("__debug__" : Str)) = false := by decide)
    (hpl : ((backTo pos (starEach [] X.env)).any (·.1) || (backToKw pos (keywordEach kws X.env)).any (·.1.isNone)) = false := by rfl) :
    DE X Wi (.Call (.Name x p) [] kws pos) (eFK 0 ks.length pm np gm aN fk) := by
  refine ⟨fun pins s σ H Q I q => ?_⟩
  refine wpAny_Call_Name_kw (ld_glob I gl hm ?_ hdb)
  have z := tFK_of σ H Q q
  obtain ⟨F1, G1, E1, as1, st1, p1⟩ := z
  refine PySem.W.callWith_KW0 (h₀ := X.base) I.ok.mod.kin hk hall ?_ hpl
  refine thn (hkw.run pos pins s σ H _ I (p1 [] G1 H as1 (Same.refl _) st1 trivial)) fun ws s2 ⟨zs, H2, I2, rz, l1, l2, q2⟩ => ⟨I2.kIn, ?_⟩
  rw [hks]
  exact run_KW F hg hr kb hx I2 .nil rz l1 l2 q2
end

section
variable {X : Cx} {CX : CXT} {Wi : Wish} {a b : Expr} {fa fb : EF} {pos : Pos} {n : Nat} {C f : Addr} {fd : FuncData} {ps : List Str} {oc : List Addr} {gm : List D → Res D}
end
/-- a statement that is not come to -/
def sNever : SF := fun _ => .stuck
theorem tS_never {X : Cx} {Wi : Wish} {st : Stmt} (D0 : Ends) (σ : L2.St) (H : Hp) (q : tS X.K Wi sNever D0 σ H) : False := by
  obtain ⟨F, G, E, as, s, p⟩ := q
  exact p
end DL
namespace DL
open PySem PySem.Spec PyProof.Rows L2 TL

/-- an __init__ that no exception leaves -/
def RunI0 (fb : SF) (n : Nat) (C : Addr) (fm : List D → Res (List (Str × D))) : Prop := ∀ a ds, match fm ds with
  | .ok fs => noErr (outI a C (fb (.slf a (.obj C []) :: ds.map .dat ++ nos n))) = .ok fs
  | .err _ _ => False
  | .stuck => True
section
variable {P : Program} {w : World} {K : PySem.W.Frag} {mg : Str → Option Value} {base : Heap} {k : Nat} {f : Addr} {fd : FuncData} {ps N : List Str} {x qual : Str} {st : Stmt} {fb : SF}
theorem fn_I0 {C : Addr} {fm : List D → Res (List (Str × D))} (F : Fun K x qual st f fd) (S : FnScope N ps (defScope st)) (m n : Nat) (hm : m + 1 = ps.length) (hn : ps.length + n = N.length) (hr : RunI0 fb n C fm)
    (hb : ∀ (cdv : Value) (A : Around) (outer : List PySem.Env) (s : Shared) (H : Hp) (E : XK), A.guards = some [] → Room k (A.deeper (envOfC qual (defScope st) s.heap.objs.size f cdv)) →
      DSs (cxOf CX0 P w K mg base N qual (defScope st) f cdv A outer s H E).nox W0 (defBody st) fb) : FnG P w K mg base CX0 (k + 1) f fd ps (spI K m C fm) := by
  refine FnG.body F S (spI_len hm) fun cdv A outer s H vs Q E hg hr' hsp => ?_
  obtain ⟨G, a, dx, vr, ds, rfl, sm, ga, ha, dd, hl, z⟩ := hsp
  refine ⟨_, PSs.nox (hb cdv A outer s H E hg hr'), ⟨H, G, [a]⟩, G, _, _, StE.startI sm ga ha dd (n := n) (by omega), ?_⟩
  have hra := hr a ds
  have z2 : (match noErr (outI a C (fb (.slf a (.obj C []) :: ds.map .dat ++ nos n))) with
      | .ok fs => ∀ G' H' dx' vf, Same G G' → Same G' H' → (∀ b o, H b = some o → b ≠ a → H' b = some o) → (∀ b o, G' b ≠ none → H b = some o → isT o = false → b ≠ a → G b ≠ none) → G' a = none → H' a = some (.ins C dx' vf) → DFs K G' vf fs → Q .non H'
      | .err x _ => ∀ c dx G' H', Same G G' → Same G' H' → (∀ b o, H b = some o → b ≠ a → H' b = some o) → (∀ b o, G' b ≠ none → H b = some o → isT o = false → b ≠ a → G b ≠ none) → ExOk K G' x c dx → E c dx H'
      | .stuck => False) := by
    cases q : fm ds with
    | ok fs => rw [q] at hra z; rw [hra]; exact z
    | err x E => rw [q] at hra; exact hra.elim
    | stuck => rw [q] at z; exact z.elim
  clear z
  have z := z2
  clear z2
  have nin : ∀ b, b ≠ a → b ∉ [a] := fun b h h2 => h (List.mem_singleton.mp h2)
  show PoS K W0 ⟨H, G, [a]⟩ G _ (fb (.slf a (.obj C []) :: ds.map .dat ++ nos n))
  generalize fb (.slf a (.obj C []) :: ds.map .dat ++ nos n) = r at z ⊢
  have fin : ∀ {E' : Env}, (match noErr ((ofO (slfO E' a)).bind (fun z => if z.1 = C then Res.ok z.2 else .stuck)) with
      | .ok fs => ∀ G' H' dx' vf, Same G G' → Same G' H' → (∀ b o, H b = some o → b ≠ a → H' b = some o) → (∀ b o, G' b ≠ none → H b = some o → isT o = false → b ≠ a → G b ≠ none) → G' a = none → H' a = some (.ins C dx' vf) → DFs K G' vf fs → Q .non H'
      | .err x _ => ∀ c dx G' H', Same G G' → Same G' H' → (∀ b o, H b = some o → b ≠ a → H' b = some o) → (∀ b o, G' b ≠ none → H b = some o → isT o = false → b ≠ a → G b ≠ none) → ExOk K G' x c dx → E c dx H'
      | .stuck => False) → ∀ σ' G' H' as', Same G G' → StE K ⟨H, G, [a]⟩ G' H' σ' E' as' → Q .non H' := fun {E'} z σ' G' H' as' s1 st1 => by
    cases q : slfO E' a with
    | none => rw [q] at z; exact z.elim
    | some y =>
      obtain ⟨C', fs⟩ := y
      rw [q] at z
      by_cases hC : C' = C
      · subst hC
        simp only [ofO_some, Res.ok_bind, if_pos, noErr] at z
        obtain ⟨v, e1, ea, ev, dx', vf, o1, o2⟩ := st1.cell 0 _ (slfO_ok q)
        exact z G' H' dx' vf s1 st1.s1 (fun b o h h1 => st1.keep b o h (nin b h1)) (fun b o h h0 ht h1 => st1.priv b o h h0 ht (nin b h1)) (st1.off 0 a (by rw [ea]; simp)).1 o1 o2
      · simp only [ofO_some, Res.ok_bind, if_neg hC, noErr] at z
  match r, z with
  | .ok (.rt .non, E'), z => exact fun v σ' G' H' as' s1 st1 dd1 => by cases dd1; exact fin z σ' G' H' as' s1 st1
  | .ok (.nx, E'), z => exact fun σ' G' H' as' s1 st1 => fin z σ' G' H' as' s1 st1
  | .ok (.bk, E'), z => exact z.elim
  | .ok (.ct, E'), z => exact z.elim
  | .err x E', z => exact z.elim
theorem ds_never {X : Cx} {Wi : Wish} {s : Stmt} : DS X Wi s sNever := PS.imp ps_never fun D0 σ H q => tS_never (st := s) D0 σ H q
end
/-- a test of a whole and/or -/
theorem dt_w {X : Cx} {Wi : Wish} {e : Expr} {t : BF} (h : DW X Wi e t) : DT X Wi e t := PW.pt h
/-- names -/
theorem dv (i : Nat) {X : Cx} {Wi : Wish} {x : Str} {pos : Pos} (hN : X.N[i]? = some x := by rfl) (hv : Vis X.env.scope x := by first | exact Or.inl rfl | exact Or.inr (Or.inl rfl) | exact Or.inr (Or.inr rfl)) (hd : (x == ("__debug__" : Str)) = false := by decide)
    (hcd : (x == ("__classdict__" : Str)) = false := by decide) : DE X Wi (.Name x pos) (eV i) := de_v (pv i hN hv hd hcd)
theorem dvf (i : Nat) {X : Cx} {Wi : Wish} {x : Str} {pos : Pos} (hN : X.N[i]? = some x := by rfl) (hv : Vis X.env.scope x := by first | exact Or.inl rfl | exact Or.inr (Or.inl rfl) | exact Or.inr (Or.inr rfl)) (hd : (x == ("__debug__" : Str)) = false := by decide)
    (hcd : (x == ("__classdict__" : Str)) = false := by decide) : DE X Wi (.Name x pos) (eVf i) := de_vf (pv i hN hv hd hcd)

def gI2 (c : Int → Int → Bool) (f : Int → Int → D) : D → D → Option D
  | .int i, .int j => if c i j = true then some (f i j) else none
  | _, _ => none
theorem opd_i2 {K : PySem.W.Frag} {R : Int → Int → Prop} {c : Int → Int → Bool} {f : Int → Int → D} {fv : Int → Int → V} (hc : ∀ i j, c i j = true → R i j) (hf : ∀ G i j, DD K G (fv i j) (f i j)) : OpD K (rI R fv) (gI2 c f) := by
  intro G H x y a b d Q s ha hb e z
  cases a with
  | int i =>
    cases b with
    | int j =>
      obtain ⟨h, rfl⟩ := ifs_some (show (if c i j = true then some (f i j) else none) = some d from e)
      exact ⟨i, j, ha.int, hb.int, hc i j h, z _ _ _ (Al.refl s) (hf _ _ _)⟩
    | _ => cases e
  | _ => cases b <;> cases e
theorem opd_i0 {K : PySem.W.Frag} {f : Int → Int → D} {fv : Int → Int → V} (hf : ∀ G i j, DD K G (fv i j) (f i j)) : OpD K (rI0 fv) (gI2 (fun _ _ => true) f) := by
  intro G H x y a b d Q s ha hb e z
  cases a with
  | int i =>
    cases b with
    | int j =>
      obtain ⟨h, rfl⟩ := ifs_some (show (if true = true then some (f i j) else none) = some d from e)
      exact ⟨i, j, ha.int, hb.int, z _ _ _ (Al.refl s) (hf _ _ _)⟩
    | _ => cases e
  | _ => cases b <;> cases e
def gLe := gI2 (fun _ _ => true) fun i j => .bl (decide (i ≤ j))
def gGt := gI2 (fun _ _ => true) fun i j => .bl (decide (j < i))
theorem opd_le {K : PySem.W.Frag} : OpD K (rI0 fun i j => .bl (decide (i ≤ j))) gLe := opd_i0 fun _ _ _ => .bl _
theorem opd_gt {K : PySem.W.Frag} : OpD K (rI0 fun i j => .bl (decide (j < i))) gGt := opd_i0 fun _ _ _ => .bl _
def gMod := gI2 (fun _ j => decide (0 < j)) fun i j => .int (i % j)
theorem opd_mod {K : PySem.W.Frag} : OpD K (rI (fun _ j => 0 < j) fun i j => .int (i % j)) gMod := opd_i2 (fun i j h => of_decide_eq_true h) fun _ _ _ => .int _
def gNeg : D → Option D
  | .int i => some (.int (-i))
  | _ => none
theorem und_neg {K : PySem.W.Frag} : UnD K (rU fun i => .int (-i)) gNeg := by
  intro G H x a d Q s ha e z
  cases a with
  | int i => cases e; exact ⟨i, ha.int, z _ _ _ (Al.refl s) (.int _)⟩
  | _ => cases e
def isNon : D → Bool
  | .non => true
  | _ => false
def gIsN (neg : Bool) (a b : D) : Option D := if isNon b = true then some (.bl (if neg then !isNon a else isNon a)) else none
theorem isNon_ok {K : PySem.W.Frag} {G H : Hp} {v : V} {d : D} (h : BD K G H v d) : decide (v = .non) = isNon d := by
  cases h with
  | dat h => cases h <;> simp [isNon]
  | own ev o => subst ev; cases d <;> first | exact o.elim | simp [isNon]
theorem opd_isN {K : PySem.W.Frag} : OpD K (fun x y H Q => y = .non ∧ Q (.bl (decide (x = .non))) H) (gIsN false) := by
  intro G H x y a b d Q s ha hb e z
  obtain ⟨h, rfl⟩ := ifs_some e
  cases b with
  | non => exact ⟨hb.non, by rw [isNon_ok ha]; exact z _ _ _ (Al.refl s) (.bl _)⟩
  | _ => cases h
theorem opd_notN {K : PySem.W.Frag} : OpD K (fun x y H Q => y = .non ∧ Q (.bl (!decide (x = .non))) H) (gIsN true) := by
  intro G H x y a b d Q s ha hb e z
  obtain ⟨h, rfl⟩ := ifs_some e
  cases b with
  | non => exact ⟨hb.non, by rw [isNon_ok ha]; exact z _ _ _ (Al.refl s) (.bl _)⟩
  | _ => cases h
end DL
namespace DL
open PySem PySem.Spec PyProof.Rows L2 TL

def gPopAt : List D → List D → Option (D × List D) := fun ds es => if es.length = 1 then gPop ds es else none
theorem glen0 : ∀ (ds : List D) (E E' : Env), gNil' ds E = some E' → ds.length = 0
  | [], _, _, _ => rfl
  | _ :: _, _, _, h => by cases h
theorem glenS {g : GF} {gs : List D → Env → Option Env} {n : Nat} (h : ∀ (ds : List D) (E E' : Env), gs ds E = some E' → ds.length = n) : ∀ (ds : List D) (E E' : Env), gCons' g gs ds E = some E' → ds.length = n + 1
  | [], _, _, e => by cases e
  | d :: ds, E, E', e => by
    have e : ((g d E).bind fun E1 => gs ds E1) = some E' := e
    cases q : g d E with
    | none => rw [q] at e; cases e
    | some E1 => rw [q] at e; exact congrArg Nat.succ (h ds E1 E' e)
theorem glen2 {g1 g2 : GF} : ∀ (ds : List D) (E E' : Env), gCons' g1 (gCons' g2 gNil') ds E = some E' → ds.length = 2 := glenS (glenS glen0)
theorem de_gs {X : Cx} {Wi : Wish} {x v : Str} {pos : Pos} (hg : Gl X x) (hm : ∃ t, X.mg x = some (.str v t)) (ok : SOk v) (hdb : (x == ("__debug__" : Str)) = false := by decide) : DE X Wi (.Name x pos) (eC (.str v)) := by
  obtain ⟨t, hm⟩ := hm
  exact de_g (v := .str v) hg hm ⟨t, rfl⟩ (fun _ => .str v ok) hdb
theorem de_gi {X : Cx} {Wi : Wish} {x : Str} {v : Int} {pos : Pos} (hg : Gl X x) (hm : ∃ t, X.mg x = some (.int v t)) (hdb : (x == ("__debug__" : Str)) = false := by decide) : DE X Wi (.Name x pos) (eC (.int v)) := by
  obtain ⟨t, hm⟩ := hm
  exact de_g (v := .int v) hg hm ⟨t, rfl⟩ (fun _ => .int v) hdb

theorem eqv_nil (l : List Int) : PyData.eqv (D.lst (l.map D.int)).py (D.lst []).py = l.isEmpty := by
  cases l <;> rfl
theorem dds_ints {K : PySem.W.Frag} {G : Hp} : ∀ l : List Int, DDs K G (l.map V.int) (l.map D.int)
  | [] => .nil
  | i :: l => .cons (.int i) (dds_ints l)
theorem plain_ints : ∀ l : List Int, plainL (l.map D.int) = true
  | [] => rfl
  | _ :: l => plain_ints l
section
variable {P : Program} {w : World} {K : PySem.W.Frag} {mg : Str → Option Value} {base : Heap} {f : Addr} {fd : FuncData} {x qual : Str} {st : Stmt}
end
end DL
namespace DL
open PySem PySem.Spec PyProof.Rows L2 TL

section
variable {P : Program} {w : World} {K : PySem.W.Frag} {mg mb : Str → Option Value} {k : Nat} {fa a : Addr} {fd : FuncData} {x : Str} {sp : Sp} {s : Shared} {us : List Value} {ns : List Int} {H : Hp}
/-- the script's list is all that may be tracked -/
theorem hid_there (ea : s.heap.get? a = some { cls := .type "list", data := .seq us.toArray }) (one : ∀ b, H b ≠ none → b = a) {b : Addr} {o : Obj} (hb : s.heap.get? b = some o) (nl : ∀ its n, o.data ≠ .seq its n) : (hidT s.heap H).get? b = some o := by
  refine hidT_get hb ?_
  cases q : H b with
  | none => rfl
  | some u =>
    have z := one b (by rw [q]; exact fun y => nomatch y)
    rw [z, ea] at hb
    exact absurd rfl (nl us.toArray _ |> fun h y => h (by rw [← Option.some.inj hb]))
theorem hid_ns (ea : s.heap.get? a = some { cls := .type "list", data := .seq us.toArray }) (one : ∀ b, H b ≠ none → b = a) {b : Addr} {m : Str → Option Value} (n : s.heap.Ns b m) : (hidT s.heap H).Ns b m := by
  obtain ⟨o, es, ep, h1, h2, h3⟩ := n
  exact ⟨o, es, ep, hid_there ea one h1 (fun its c y => by rw [h2] at y; cases y), h2, h3⟩
theorem hid_in (kin : K.In s.heap) (one : ∀ b, H b ≠ none → b = a) (ka : H a ≠ none → K.lookup a = none) : K.In (hidT s.heap H) := fun b o hb => by
  refine hidT_get (kin b o hb) ?_
  cases q : H b with
  | none => rfl
  | some u =>
    have ne : H b ≠ none := by rw [q]; exact fun y => nomatch y
    have z := one b ne
    rw [z] at ne hb
    rw [ka ne] at hb; cases hb
/-- how the law ends -/
def Ended (s : Shared) (r : Result) (s' : Shared) : Prop := r = .ok (.ret (.bool true)) ∧ OldK s.heap s'.heap ∧ s'.os = s.os ∧ AllBare s'.gens
theorem law_go (kin : K.In s.heap) (gl : s.heap.Ns mainGlobals mg) (bl : s.heap.Ns builtinsNs mb) (bb : ∀ x : Str, x ≠ "__name__" → mb x = bootBuiltins x) (nl : s.heap.NoLimit) (ng : s.gens = #[]) (ea : s.heap.get? a = some { cls := .type "list", data := .seq us.toArray }) (hr : Room k callerA)
    (F : ∀ base : Heap, K.In base → base.Ns mainGlobals mg → FnG P w K mg base CX0 k fa fd [x] sp) (bind : ∀ (s : Shared) (u : Value), BindsTo s fd ⟨[u], []⟩ [(x, u)]) (only : Only H) (ok : HOk P w H s.heap) (one : ∀ b, H b ≠ none → b = a) (ka : H a ≠ none → K.lookup a = none)
    (hsp : sp [.ref a] H (fun v _ => v = .bl true) fun _ _ _ => False) : codeAny (model P w) callerA (.call (.ref fa) ⟨[.ref a], []⟩) (Ended s) s := by
  have kin2 := hid_in (s := s) kin one ka
  have gl2 := hid_ns ea one gl
  have modl : Mod K mg (hidT s.heap H) := by
    obtain ⟨mc, n1, n2⟩ := nl
    exact ⟨kin2, gl2, ⟨mb, hid_ns ea one bl, bb⟩, ⟨mc, hid_ns ea one n1, n2⟩⟩
  have en : Env0 P w K mg (hidT s.heap H) callerA [] s H := ⟨rfl, modl, fun _ _ e => of_hidT e, Nat.le_of_eq (hidT_size _ _), trivial, fun b hb => (nomatch (show b ∈ ([] : List Addr) from hb)), ok, .of_eq ng⟩
  refine codeAny_mono ((F _ kin2 gl2).go callerA [] s H ⟨[.ref a], []⟩ [.ref a] [.ref a] _ _ rfl hr en (bind s (.ref a)) (.cons rfl .nil) hsp) fun r s' z => ?_
  match r, z with
  | .error _, z => exact z.elim
  | .ok .next, z => exact z.elim
  | .ok .brk, z => exact z.elim
  | .ok .cont, z => exact z.elim
  | .ok (.ret u), z =>
    obtain ⟨v, H', os, bare, un, ok', ru, ev⟩ := z
    have ev : v = .bl true := ev
    subst ev
    cases ru
    refine ⟨rfl, OldK.of_keep fun b o e => ?_, os, bare⟩
    rcases only b with z | ⟨ob, xs, z⟩
    · exact un.keep b o e z (fun y => nomatch (show b ∈ ([] : List Addr) from y)) (fun y => nomatch y)
    · have h1 := (ok b _ z).1
      have h2 := (ok' b _ (un.frzs b ob _ z)).1
      rw [e] at h1; cases h1
      exact h2
/-- .. whatever the script's list is -/
theorem law_callG (kin : K.In s.heap) (gl : s.heap.Ns mainGlobals mg) (bl : s.heap.Ns builtinsNs mb) (bb : ∀ x : Str, x ≠ "__name__" → mb x = bootBuiltins x) (nl : s.heap.NoLimit) (ng : s.gens = #[]) (ea : s.heap.get? a = some { cls := .type "list", data := .seq us.toArray }) (ei : IntsAre us ns) (hz : ns.length ≤ sizeLine) (hr : Room k callerA)
    (F : ∀ base : Heap, K.In base → base.Ns mainGlobals mg → FnG P w K mg base CX0 k fa fd [x] sp) (bind : ∀ (s : Shared) (u : Value), BindsTo s fd ⟨[u], []⟩ [(x, u)])
    (hsp : ∀ H : Hp, SqL K H a (ns.map V.int) → sp [.ref a] H (fun v _ => v = .bl true) fun _ _ _ => False) : codeAny (model P w) callerA (.call (.ref fa) ⟨[.ref a], []⟩) (Ended s) s := by
  have rv := vals_ints ei
  have lu := ei.length
  cases q : K.lookup a with
  | some o =>
    have eo := kin a o q
    rw [ea] at eo; cases eo
    have sq : SqL K (fun _ => none) a (ns.map V.int) := .inr ⟨_, us.toArray, _, q, rfl, rfl, rfl, by rw [List.size_toArray, lu]; exact hz, by simpa using rv⟩
    exact law_go kin gl bl bb nl ng ea hr F bind (H := fun _ => none) (fun _ => .inl rfl) (fun b u z => (nomatch (show (none : Option HO) = some u from z))) (fun _ z => absurd rfl z) (fun z => absurd rfl z) (hsp _ sq)
  | none =>
    let HA : Hp := fun b => if b = a then some (.frz { cls := .type "list", data := .seq us.toArray } (.lst (ns.map V.int))) else none
    have at_ : HA a = some (.frz { cls := .type "list", data := .seq us.toArray } (.lst (ns.map V.int))) := if_pos rfl
    have off : ∀ b, b ≠ a → HA b = none := fun b h => if_neg h
    refine law_go kin gl bl bb nl ng ea hr F bind (H := HA) (fun b => ?_) (fun b u z => ?_) (fun b z => ?_) (fun _ => q) (hsp HA (.inl (.inr ⟨_, at_⟩)))
    · by_cases e : b = a
      · exact .inr ⟨_, _, e ▸ at_⟩
      · exact .inl (off b e)
    · by_cases e : b = a
      · subst e
        rw [at_] at z; cases z
        exact ⟨ea, by rw [List.length_map]; exact hz, us, _, rv, ea⟩
      · rw [off b e] at z; cases z
    · exact Decidable.byContradiction fun e => z (off b e)
end
end DL
namespace DL
open PySem PySem.Spec PyProof.Rows L2 TL

/-- a new deck -/
def spDeck (K : PySem.W.Frag) : Sp := fun vs H Q _ => ∃ (a : Addr) (ns : List Int), vs = [.ref a] ∧ SqL K H a (ns.map V.int) ∧ ns.length ≤ 63 ∧ ∀ (p q : Addr) (l : List Int) (b : Int) (H' : Hp), Same H H' → H p = none → H q = none → p ≠ q → l.length ≤ 63 → DeckAt H' p q l b → Q (.ref p) H'
def cutI (xs : List Int) (lo hi : Option Int) : List Int := (xs.drop (HT.sIx xs.length 0 lo)).take (HT.sIx xs.length xs.length hi - HT.sIx xs.length 0 lo)
theorem cutV_ints (xs : List Int) (lo hi : Option Int) : cutV (xs.map V.int) lo hi = (cutI xs lo hi).map V.int := by
  unfold cutV cutI
  rw [List.length_map, List.map_take, List.map_drop]
theorem cutI_len (xs : List Int) (lo hi : Option Int) : (cutI xs lo hi).length ≤ xs.length := by
  unfold cutI
  rw [List.length_take, List.length_drop]; omega
theorem int_at {ns : List Int} {i : Nat} {x : V} (h : (ns.map V.int)[i]? = some x) : ∃ c, x = .int c ∧ i < ns.length := by
  rw [List.getElem?_map] at h
  cases e : ns[i]? with
  | none => rw [e] at h; cases h
  | some c => rw [e] at h; cases h; exact ⟨c, rfl, (List.getElem?_eq_some_iff.mp e).1⟩
/-- the law's frame behind its first statement -/
theorem StE.law {K : PySem.W.Frag} {H : Hp} {σ : L2.St} {p q : Addr} {l : List Int} {b : Int} {n : Nat} (hl : σ.length = n + 2) (h1 : σ[1]? = some (some (.ref p))) (npq : p ≠ q) (dk : DeckAt H p q l b) :
    StE K ⟨fun _ => none, fun _ => none, []⟩ (fun _ => none) H σ (.no :: .deck p q l b :: nos n) fun i => if i = 1 then [p, q] else [] := by
  refine ⟨by rw [hl]; unfold nos; simp, Same.refl _, fun _ _ h => (nomatch h), fun _ _ h => (nomatch h), fun _ _ => rfl, fun _ _ h => absurd rfl h, fun i c e => ?_, fun i j a h1 h2 => ?_, fun i a h => ⟨rfl, .inl rfl⟩, fun i h => ?_⟩
  · match i, e with
    | 0, e => cases e; exact ⟨_, List.getElem?_eq_getElem (by omega), rfl⟩
    | 1, e => cases e; exact ⟨_, h1, rfl, rfl, dk⟩
    | i + 2, e =>
      have e : (nos n)[i]? = some c := e
      unfold nos at e
      rw [List.getElem?_replicate] at e
      split at e
      · rename_i hi
        cases e
        exact ⟨_, List.getElem?_eq_getElem (by omega), if_neg (by omega)⟩
      · cases e
  · by_cases hi : i = 1
    · by_cases hj : j = 1
      · rw [hi, hj]
      · rw [if_neg hj] at h2; cases h2
    · rw [if_neg hi] at h1; cases h1
  · have : i ≠ 1 := fun z => by subst z; simp at h
    rw [if_neg this]
theorem law_read {K : PySem.W.Frag} {N : List Str} {n : Nat} {fb : SF} {H : Hp} {Q : VK} {nx : L2.St → Hp → Prop} {bk ct : L2.St → Hp → Prop} {a : Addr} {ns : List Int} (hN : N.length = n + 2)
    (hm : ∀ (p q : Addr) (l : List Int) (b : Int), l.length ≤ 63 → ∃ E, fb (.no :: .deck p q l b :: nos n) = .ok (.rt (.bl true), E)) (hS : SqL K H a (ns.map V.int)) (hl : ns.length ≤ 63) (z : ∀ H', Q (.bl true) H') :
    tSeq (tAsg (tCallG (spDeck K) W0 (tCons (tVar 0) tNil)) (gName 1)) (tS K W0 fb) { nx := nx, rt := Q, bk := bk, ct := ct } (L2.start N [.ref a]) H := by
  have len : (L2.start N [.ref a]).length = n + 2 := by
    rw [start_len (by simp only [List.length_cons, List.length_nil]; omega)]; exact hN
  refine ⟨_, start_get (v := .ref a) rfl, a, ns, rfl, hS, hl, fun p q l b H' s hp hq npq hll dk => ?_⟩
  refine ⟨_, _, _, _, StE.law (q := q) (l := l) (b := b) (n := n) (by rw [List.length_set]; exact len) (List.getElem?_set_self (by rw [len]; omega)) npq dk, ?_⟩
  obtain ⟨E, e⟩ := hm p q l b hll
  rw [e]
  intro v σ' G' H'' as' _ _ dd
  cases dd
  exact z _
end DL
namespace DL
open PySem PySem.Spec PyProof.Rows L2 TL
section
variable {X : Cx} {Wi : Wish} {a b c : Expr} {fa fb fc : EF} {pos : Pos} {g g' : D → D → Option D} {r r' : R2}
def eCh (g g' : D → D → Option D) (fa fb fc : EF) : EF := fun E => (fa E).bind fun p => (fb p.2).bind fun q => (rd q.2 p.1).bind fun x => (rd q.2 q.1).bind fun y => (ofO ((g x y).bind asB)).bind fun k =>
  if k = true then (fc q.2).bind fun r => (rd r.2 q.1).bind fun y' => (rd r.2 r.1).bind fun z => (ofO (g' y' z)).bind fun d => .ok (.dat d, r.2) else .ok (.dat (.bl false), q.2)
theorem tCh_of (hg : OpD X.K r g) (hg' : OpD X.K r' g') : ∀ σ H Q, tE X.K Wi (eCh g g' fa fb fc) σ H Q → tChain r r' (tE X.K Wi fa) (tE X.K Wi fb) (tE X.K Wi fc) σ H Q := by
  intro σ H Q q
  obtain ⟨F, G, E, as, st, p⟩ := q
  refine ⟨F, G, E, as, st, Po.mono (fun x H1 m => ?_) (Po.bind p)⟩
  obtain ⟨w1, G1, E1, as1, s1, st1, wo1, p1⟩ := m
  refine ⟨F, G1, E1, as1, st1, Po.mono (fun y H2 m => ?_) (Po.bind p1)⟩
  obtain ⟨w2, G2, E2, as2, s2, st2, wo2, p2⟩ := m
  obtain ⟨d1, e1, p2⟩ := Po.rd p2
  obtain ⟨d2, e2, p2⟩ := Po.rd p2
  obtain ⟨k, e3, p2⟩ := Po.of p2
  have e4 : g d1 d2 = some (.bl k) := by
    cases h : g d1 d2 with
    | none => rw [h] at e3; cases e3
    | some d =>
      rw [h] at e3
      cases d with
      | bl b => cases e3; rfl
      | _ => cases e3
  refine hg G2 H2 x y d1 d2 (.bl k) _ st2.s1 (wo1.rd s2 st2 e1) (wo2.rd (Same.refl _) st2 e2) e4 fun v G' H' al dd => ?_
  cases dd
  refine ⟨k, rfl, ?_⟩
  cases k with
  | false => exact Po.rz st2 p2 (.bl false) G' H' al (.bl false)
  | true =>
    have p2 := Po.up al.g p2
    rw [if_pos rfl] at p2
    refine ⟨F, G', E2, as2, st2.al al, Po.mono (fun w' H4 m => ?_) (Po.bind p2)⟩
    obtain ⟨w3, G3, E3, as3, s3, st4, wo3, p3⟩ := m
    obtain ⟨d2', e5, p3⟩ := Po.rd p3
    obtain ⟨d3, e6, p3⟩ := Po.rd p3
    obtain ⟨d, e7, p3⟩ := Po.of p3
    exact hg' G3 H4 y w' d2' d3 d Q st4.s1 (wo2.rd (al.g.trans s3) st4 e5) (wo3.rd (Same.refl _) st4 e6) e7 (Po.rz st4 p3)
theorem dt_chain {op op' : CmpOp} (ho : OpR X (compareOp op) r) (hg : OpD X.K r g) (ho' : OpR X (compareOp op') r') (hg' : OpD X.K r' g') (ha : DE X Wi a fa) (hb : DE X Wi b fb) (hc : DE X Wi c fc)
    (hm : lastMarks [op, op'] [b, c] = false := by with_unfolding_all rfl) : DT X Wi (.Compare a [op, op'] [b, c] pos) (tB (eCh g g' fa fb fc)) :=
  PT.imp (pt_chain ho ho' ha hb hc hm) fun σ H Q q => tCh_of hg hg' σ H _ (tB_of σ H Q q)
end
end DL
namespace DL
open PySem PySem.Spec PyProof.Rows L2 TL
section
variable {X : Cx}
end
end DL
namespace DL
open PySem PySem.Spec PyProof.Rows L2 TL
section
variable {X : Cx} {Wi : Wish} {tg elt : Expr} {ifs : List Expr} {scope : Scope} {own : List (Str × Nat)} {pos : Pos} {g : GF} {fc : BF} {fe : EF} {ts : List Nat}
end
end DL
namespace DL
open PySem PySem.Spec PyProof.Rows L2 TL
section
variable {prog : Program} {w : World} {A : Around} {E : Value → Shared → Prop} {s : Shared} {K : PySem.W.Frag} {x C L f : Addr} {h₀ : Heap} {m : Str → Option Value} {ox : Obj} {od : Option Obj} {b tb : Value}
end
section
variable {X : Cx} {CX : CXT} {Wi : Wish} {pins : List (Addr × Obj)} {σ : L2.St} {H : Hp} {s : Shared} {Q : VK} {k : Nat} {f : Addr} {fd : FuncData} {ps : List Str} {sp : Sp} {us : List Value} {vs : List V}
end
section
variable {X : Cx} {CX : CXT} {Wi : Wish} {a b : Expr} {fa fb : EF} {pos : Pos} {n : Nat} {C f : Addr} {fd : FuncData} {ps : List Str} {oc : List Addr} {gm : List D → Res D}
end
end DL
namespace DL
open PySem PySem.Spec PyProof.Rows L2 TL
section
variable {X : Cx} {Wi : Wish} {o e : Expr}
end
def gIsB (neg : Bool) : D → D → Option D
  | .bl a, .bl b => some (.bl (if neg then !decide (a = b) else decide (a = b)))
  | _, _ => none
theorem opd_notB {K : PySem.W.Frag} : OpD K rNotB (gIsB true) := by
  intro G H x y a b d Q s ha hb e z
  match a, b, e with
  | .bl p, .bl q, e =>
    cases e
    cases ha with
    | own _ h => exact h.elim
    | dat ha =>
      cases ha
      cases hb with
      | own _ h => exact h.elim
      | dat hb => cases hb; exact ⟨p, q, rfl, rfl, z _ G H (Al.refl s) (.bl _)⟩
section
variable {X : Cx} {CX : CXT} {Wi : Wish} {k : Nat} {C pr g a dx : Addr} {fs : List (Str × V)} {f : Str} {fd : FuncData} {ps : List Str} {sp : Sp} {e : Expr} {pos : Pos}
end
section
variable {X : Cx} {Wi : Wish} {tg elt : Expr} {ifs : List Expr} {scope : Scope} {own : List (Str × Nat)} {pos spos py : Pos} {g : GF} {fc : BF} {fe : EF} {ts : List Nat}
end
end DL
namespace DL
open PySem PySem.Spec PyProof.Rows L2 TL
end DL
namespace DL
open PySem PySem.Spec PyProof.Rows L2 TL
section
variable {X : Cx} {Wi : Wish} {elt tg iter tg1 iter1 : Expr} {ifs ifs1 : List Expr} {scope : Scope} {own : List (Str × Nat)} {vs1 : List Nat} {pos spos py : Pos} {fi fi1 : IF} {g g1 : GF} {ts ts1 : List Nat} {fc fc1 : BF} {fe : EF}
end
section
variable {X : Cx} {Wi : Wish} {o e : Expr} {fo fe : EF} {apos pos : Pos}
/-- a text's method that makes a list of texts -/
def nM1 (g : D → List D → Option D) (fo fe : EF) : NF := fun E => (fo E).bind fun p => (rd p.2 p.1).bind fun x => match x with
  | .str s => (fe p.2).bind fun q => (rd q.2 q.1).bind fun y => (ofO (g (.str s) [y])).bind fun d => .ok (d, q.2)
  | _ => .stuck
def M1N (K : PySem.W.Frag) (r : V → List V → Hp → VK → Prop) (g : D → List D → Option D) : Prop :=
  ∀ (G H : Hp) (x : Str) (y : V) (b d : D) (Q : VK), Same G H → SOk x → BD K G H y b → g (.str x) [b] = some d → RzN K G H Q d → r (.str x) [y] H Q
theorem tM1N_of {r : V → List V → Hp → VK → Prop} {g : D → List D → Option D} (hg : M1N X.K r g) : ∀ σ H Q, tN X.K Wi (nM1 g fo fe) σ H Q → tM1 r (tE X.K Wi fo) (tE X.K Wi fe) σ H Q := by
  intro σ H Q q
  obtain ⟨F, G, E, as, st, p⟩ := q
  refine ⟨F, G, E, as, st, Po.mono (fun x H1 m => ?_) (Po.bindN p)⟩
  obtain ⟨w1, G1, E1, as1, s1, st1, wo1, p1⟩ := m
  obtain ⟨d1, e1, p1⟩ := PoN.rd p1
  cases d1 with
  | str t =>
    obtain ⟨rfl, ok⟩ := (wo1.rd (Same.refl _) st1 e1).str
    refine ⟨⟨t, rfl⟩, F, G1, E1, as1, st1, Po.mono (fun y H2 m => ?_) (Po.bindN p1)⟩
    obtain ⟨w2, G2, E2, as2, s2, st2, wo2, p2⟩ := m
    obtain ⟨d2, e2, p2⟩ := PoN.rd p2
    obtain ⟨d, e3, p2⟩ := PoN.of p2
    exact hg G2 H2 t y d2 d Q st2.s1 ok (wo2.rd (Same.refl _) st2 e2) e3 (PoN.rz st2 p2)
  | _ => exact p1.elim
def gSplit : D → List D → Option D
  | .str x, [.str y] => if ((y.length == 0) = false ∧ x.length ≤ 1000000) ∧ ((Txt.split x y).all fun t => decide (t.length ≤ 16777216) && PyData.strOk t) = true ∧ (Txt.split x y).length ≤ 16777216 then some (.lst ((Txt.split x y).map D.str)) else none
  | _, _ => none
theorem dds_strs {K : PySem.W.Frag} {G : Hp} : ∀ {l : List Str}, (∀ t ∈ l, SOk t) → DDs K G (l.map V.str) (l.map D.str)
  | [], _ => .nil
  | t :: l, h => .cons (.str t (h t List.mem_cons_self)) (dds_strs fun u hu => h u (List.mem_cons_of_mem _ hu))
theorem m1n_split {K : PySem.W.Frag} : M1N K (fun x xs H Q => ∃ a b, x = .str a ∧ xs = [.str b] ∧ (b.length == 0) = false ∧ a.length + 2 ≤ sizeLine ∧ rNewStrs (Txt.split a b) H Q) gSplit := by
  intro G H x y b d Q s ok hb e z
  cases b with
  | str t =>
    obtain ⟨rfl, _⟩ := hb.str
    obtain ⟨⟨⟨h1, h2⟩, h3, h4⟩, rfl⟩ := ifs_some (show (if ((t.length == 0) = false ∧ x.length ≤ 1000000) ∧ ((Txt.split x t).all fun t => decide (t.length ≤ 16777216) && PyData.strOk t) = true ∧ (Txt.split x t).length ≤ 16777216 then some (D.lst ((Txt.split x t).map D.str)) else none) = some d from e)
    refine ⟨x, t, rfl, rfl, h1, by rw [sizeLine_eq]; omega, fun p hp => z p _ hp (Al.one s hp).h ⟨_, upd_same, ?_, dds_strs fun u hu => ?_⟩⟩
    · rw [List.length_map, sizeLine_eq]; exact h4
    · have := List.all_eq_true.mp h3 u hu
      rw [Bool.and_eq_true, decide_eq_true_eq] at this
      exact ⟨by rw [sizeLine_eq]; exact this.1, this.2⟩
  | _ => cases e
theorem dn_split (ho : DE X Wi o fo) (he : DE X Wi e fe) (hs : starEach [e] X.env = [(false, eval e X.env)] := by rfl) (hbase : attributeBase o "split" X.env (eval o X.env) = eval o X.env := by rfl) (hline : (apos.endLine == pos.line) = true := by rfl) :
    DN X Wi (.Call (.Attribute o "split" apos) [e] [] pos) (nM1 gSplit fo fe) := PE.imp (pe_split ho he hs hbase hline) (tM1N_of m1n_split)
end
end DL
namespace DL
open PySem PySem.Spec PyProof.Rows L2 TL
def stepAt (k : Int) (n : Nat) : Int × Nat := ((Builtin.Slice.sliceAdjust none none k (n : Int)).1, Builtin.Slice.slicePlaces (Builtin.Slice.sliceAdjust none none k (n : Int)).1 (Builtin.Slice.sliceAdjust none none k (n : Int)).2 k)
def pickL {α : Type} (k : Int) (xs : List α) : List α := (List.range (stepAt k xs.length).2).filterMap fun (m : Nat) => xs[((stepAt k xs.length).1 + (m : Int) * k).toNat]?
theorem pickL_len {α : Type} (k : Int) (xs : List α) : (pickL k xs).length ≤ (stepAt k xs.length).2 := by
  refine Nat.le_trans (List.length_filterMap_le _ _) ?_
  rw [List.length_range]; exact Nat.le_refl _
theorem step_len {k : Int} (hk : k = -1 ∨ k = 2) (n : Nat) : (stepAt k n).2 ≤ n := by
  unfold stepAt Builtin.Slice.slicePlaces Builtin.Slice.sliceAdjust
  rcases hk with rfl | rfl
  · simp
    split <;> omega
  · simp
    split <;> omega
section
variable {prog : Program} {w : World} {A : Around} {E : Value → Shared → Prop} {s : Shared}
theorem applied_step {sl : Addr} {vs : Value} {k : Int} {n : Nat} {Q : Int × Int × Nat → Shared → Prop} (hs : s.heap.IsSliceOf sl .none .none vs) (ps : IsPart vs (some k)) (hk : k = -1 ∨ k = 2)
    (h : Q ((stepAt k n).1, k, (stepAt k n).2) s) : wpAny (model prog w) A (Builtin.Slice.sliceApplied (.ref sl) (pure (n : Int))) Q E s := by
  obtain ⟨o, e1, e2, e3⟩ := hs
  unfold Builtin.Slice.sliceApplied Builtin.Slice.sliceFields
  refine wpAny_bind (wpAny_bind (wpAny_field e1 e3 (x := .none) rfl (wpAny_bind (wpAny_field e1 e3 (x := .none) rfl (wpAny_bind (wpAny_field e1 e3 (x := vs) rfl (wpAny_pure ?_)))))))
  refine wpAny_bind (HT.slicePart_ ps ?_)
  show wpAny _ _ (if (k == 0) = true then _ else _) _ _ s
  rw [if_neg (by rcases hk with rfl | rfl <;> decide)]
  refine wpAny_bind (HT.slicePart_ .none (wpAny_bind (HT.slicePart_ .none (wpAny_bind (wpAny_pure ?_)))))
  exact wpAny_pure h
theorem tuple_step {t sl : Addr} {items : Array Value} {vs : Value} {k : Int} {Q : Value → Shared → Prop} (ht : IsTup s.heap t items) (hs : s.heap.IsSliceOf sl .none .none vs) (ps : IsPart vs (some k)) (hk : k = -1 ∨ k = 2) (hz : items.size ≤ sizeLine)
    (h : Q (.ref s.heap.objs.size) { s with heap := s.heap.push { cls := .type "tuple", data := .seq (pickL k items.toList).toArray } }) : wpAny (model prog w) A (getItem (.ref t) (.ref sl)) Q E s := by
  have hT : s.TypeIs (.ref sl) "slice" := by
    obtain ⟨o, e1, e2, _⟩ := hs
    exact ⟨o, e1, e2⟩
  have hsz : sizeOk (.seq (pickL k items.toList).toArray) := by
    show (pickL k items.toList).toArray.size ≤ sizeLine
    have h1 := pickL_len k items.toList
    have h2 := step_len hk items.toList.length
    have h3 : (pickL k items.toList).toArray.size = (pickL k items.toList).length := List.size_toArray
    have h4 : items.toList.length = items.size := Array.length_toList
    rw [h4] at h1 h2
    omega
  have entry : wpAny (model prog w) A.in1 (Builtin.«tuple.__getitem__» ⟨[.ref t, .ref sl], []⟩) (fun fin s' => ∃ v, fin = .done (.ret v) ∧ Q v s') E s := by
    show wpAny _ _ (Builtin.Tuple.tupleItemsOf (.ref t) >>= _) _ _ s
    refine wpAny_bind (tupleItemsOf_ ht (wpAny_bind (wpAny_typeOf hT ?_)))
    rw [if_pos (by decide)]
    refine wpAny_bind (applied_step hs ps hk ?_)
    have hno : ¬ (((stepAt k items.size).1 == 0 && k == 1 && (stepAt k items.size).2 == items.size) = true) := by
      have : (k == 1) = false := by rcases hk with rfl | rfl <;> decide
      rw [this]; simp
    show wpAny _ _ (if ((stepAt k items.size).1 == 0 && k == 1 && (stepAt k items.size).2 == items.size) = true then _ else _) _ _ s
    rw [if_neg hno]
    have e : ((List.range (stepAt k items.size).2).filterMap fun (m : Nat) => items[((stepAt k items.size).1 + (m : Int) * k).toNat]?) = pickL k items.toList := by
      unfold pickL
      rw [Array.length_toList]
      simp only [Array.getElem?_toList]
    rw [e]
    first
      | exact wpAny_bind (m := Builtin.Tuple.tupleExact _) (wpAny_newObj_type (wpAny_pure ⟨_, rfl, wpAny_pure h⟩) hsz)
      | exact wpAny_bind (m := Builtin.Tuple.tupleExact _) (wpAny_newObj_type (wpAny_pure ⟨_, rfl, h⟩) hsz)
      | exact wpAny_bind (m := Builtin.Tuple.tupleExact _) (wpAny_newObj_type (wpAny_bind (wpAny_pure (wpAny_pure ⟨_, rfl, h⟩))) hsz)
  unfold getItem
  try with_reducible refine wpAny_holding ?_
  first | refine wpAny_bind (wpAny_pure ?_) | skip
  refine wpAny_bind (wpAny_sequenceKey ht.typeIs (by decide) ?_)
  exact wpAny_bind (wpAny_callSpecial?_slot (name := Str.ofString "__getitem__") ht.typeIs PyProof.Rows.slot_tuple_getitem (wpAny_call_entry PyProof.Rows.slot_tuple_getitem ht.typeIs entry_tuple_getitem (wpAny_mono entry (fun fin s' ⟨v, e, q⟩ => ⟨v, e, wpAny_pure q⟩) fun _ _ e => e) (args_tuple_getitem _ _)))
end
theorem vals_pickL {k : Int} {vs : List V} {us : List Value} (r : Vals vs us) : Vals (pickL k vs) (pickL k us) := by
  unfold pickL
  rw [r.length]
  generalize List.range (stepAt k us.length).2 = rg
  induction rg with
  | nil => exact .nil
  | cons m rg ih =>
    rw [List.filterMap_cons, List.filterMap_cons]
    have key : ∀ {vs : List V} {us : List Value} (i : Nat), Vals vs us → (vs[i]? = none ∧ us[i]? = none) ∨ ∃ v u, vs[i]? = some v ∧ us[i]? = some u ∧ RelV v u := by
      intro vs us i r
      induction r generalizing i with
      | nil => exact .inl ⟨rfl, rfl⟩
      | cons a _ ih2 =>
        cases i with
        | zero => exact .inr ⟨_, _, rfl, rfl, a⟩
        | succ i => simpa using ih2 i
    rcases key ((stepAt k us.length).1 + (m : Int) * k).toNat r with ⟨h1, h2⟩ | ⟨v, u, h1, h2, h3⟩
    · rw [h1, h2]; exact ih
    · rw [h1, h2]; exact .cons h3 ih
theorem dds_pickL {K : PySem.W.Frag} {G : Hp} {k : Int} {vs : List V} {ds : List D} (r : DDs K G vs ds) : DDs K G (pickL k vs) (pickL k ds) := by
  unfold pickL
  rw [r.len]
  generalize List.range (stepAt k ds.length).2 = rg
  induction rg with
  | nil => exact .nil
  | cons m rg ih =>
    rw [List.filterMap_cons, List.filterMap_cons]
    cases h : ds[((stepAt k ds.length).1 + (m : Int) * k).toNat]? with
    | none =>
      have : vs[((stepAt k ds.length).1 + (m : Int) * k).toNat]? = none := by
        rw [List.getElem?_eq_none_iff] at h ⊢
        rw [r.len]; exact h
      rw [this]; exact ih
    | some d =>
      obtain ⟨v, e1, e2⟩ := r.get h
      rw [e1]; exact .cons e2 ih
def rStep (K : PySem.W.Frag) (k : Int) : V → Hp → VK → Prop := fun x H Q => (k = -1 ∨ k = 2) ∧ ((∃ a xs, x = .ref a ∧ SqT K H a xs ∧ ∀ p, H p = none → Q (.ref p) (upd H p (.tup (pickL k xs)))) ∨
  (k = -1 ∧ ∃ a xs, x = .ref a ∧ SqL K H a xs ∧ ∀ p, H p = none → Q (.ref p) (upd H p (.lst xs.reverse))) ∨
  (k = -1 ∧ ∃ z : Str, x = .str z ∧ z.length ≤ sizeLine ∧ Q (.str ⟨z.cps.toList.reverse.toArray⟩) H))
theorem rev_str (z : Str) : ((Builtin.Str.strSliceIndices none none (-1) z.length).filterMap (z.cps[·]?)) = z.cps.toList.reverse := by
  have h := step_rev_list z 0
  have h2 : (Txt.sliceBy z none none (-1, 0)).cps.toList = (Builtin.Str.strSliceIndices none none (-1) z.length).filterMap (z.cps[·]?) := by
    unfold Txt.sliceBy slicePicked
    simp
  rw [h2] at h
  rw [h]
  refine List.ext_getElem (by simp [Str.length]) fun i h1 h2 => ?_
  rw [List.getElem_map, List.getElem_range, List.getElem_reverse]
  rw [List.length_map, List.length_range] at h1
  have hl : z.length = z.cps.size := rfl
  simp only [Array.getD_eq_getD_getElem?, Array.length_toList, Array.getElem_toList]
  rw [Array.getElem?_eq_getElem (by omega)]
  rfl
section
variable {X : Cx} {Wi : Wish} {e se : Expr} {te tse : TE} {k : Int} {p3 pos : Pos} {fe : EF}
theorem pe_stepS (he : PE X e te) (hse : PE X se tse) (hk : ∀ σ H Q, Q (.int k) H → tse σ H Q) : PE X (.Subscript e (.Slice none none (some se) p3) pos) (tUn (rStep X.K k) te) := by
  refine ⟨fun pins s σ H Q I h => ?_⟩
  refine Subscript_ (thn (he.run pins s σ H _ I h) fun v s1 ⟨x, H1, I1, r1, q1⟩ => ?_)
  have hst : PO X (some se) (tPart tse) := po_some hse
  refine wpAny_Slice (thn (po_none.run pins s1 σ H1 (fun o H2 => o = none ∧ H2 = H1) I1 ⟨rfl, rfl⟩) fun vl s2 ⟨l, H2, I2, pl, el, e2⟩ => ?_)
  subst el e2
  refine thn (po_none.run pins s2 σ H2 (fun o H3 => o = none ∧ H3 = H2) I2 ⟨rfl, rfl⟩) fun vu s3 ⟨u, H3, I3, pu, eu, e3⟩ => ?_
  subst eu e3
  refine thn (hst.run pins s3 σ H3 (fun o H4 => o = some k ∧ H4 = H3) I3 (hk _ _ _ ⟨k, rfl, rfl, rfl⟩)) fun vs s4 ⟨o, H4, I4, ps, eo, e4⟩ => ?_
  subst eo e4
  cases pl
  cases pu
  have I5 : Inv X pins σ H4 { s4 with heap := s4.heap.push { cls := .type "slice", data := .fields #[.none, .none, vs] } } := I4.kept (t' := s4.toks) fun b ob q => Heap.get?_push_of_some _ q
  obtain ⟨hk2, q1⟩ := q1
  rcases q1 with ⟨a, xs, rfl, hx, q⟩ | ⟨rfl, a, xs, rfl, hx, q⟩ | ⟨rfl, z, rfl, hz, q⟩
  · cases r1
    obtain ⟨its, r, ht, hz⟩ := I5.tuple hx
    have hlen := r.length
    show wpAny (model X.prog X.w) X.A (subscriptTail e (.Slice none none (some se) p3) (.ref a) (.ref s4.heap.objs.size)) (EP X pins σ Q) X.xe { s4 with heap := s4.heap.push { cls := .type "slice", data := .fields #[.none, .none, vs] } }
    refine tail_any (ops := [.ref a, .ref s4.heap.objs.size]) ht.typeIs PyProof.Rows.slot_tuple_getitem.lookup ?_ (by with_unfolding_all rfl)
    refine tuple_step ht (Heap.IsSliceOf.new ..) ps hk2 (by rw [List.size_toArray]; omega) ?_
    refine ⟨.ref _, _, I5.laid (t' := s4.toks) (o := .tup (pickL k xs)) (fun b ob q => Heap.get?_push_of_some _ q) (Nat.le_refl _) ?_, rfl, q _ (I5.hok.fresh (Nat.le_refl _))⟩
    refine ⟨?_, pickL k its, vals_pickL r, ⟨_, Heap.get?_push_size _ rfl, rfl, 0, by simp⟩⟩
    exact Nat.le_trans (pickL_len k xs) (Nat.le_trans (step_len hk2 _) hz)
  · cases r1
    obtain ⟨its, r, ht, hz⟩ := I5.list hx
    have hlen := r.length
    show wpAny (model X.prog X.w) X.A (subscriptTail e (.Slice none none (some se) p3) (.ref a) (.ref s4.heap.objs.size)) (EP X pins σ Q) X.xe { s4 with heap := s4.heap.push { cls := .type "slice", data := .fields #[.none, .none, vs] } }
    refine tail_any (ops := [.ref a, .ref s4.heap.objs.size]) ht.isList.typeIs PySem.slot_list_getitem.lookup ?_ (by with_unfolding_all rfl)
    refine wpAny_getItem_list_slice ht.isList (Heap.IsSliceOf.new ..) .none .none ps (by decide) ?_ (by rw [List.size_toArray]; omega)
    rw [PySem.W.krv_pick]
    exact ⟨.ref _, _, I5.laid (t' := s4.toks) (o := .lst xs.reverse) (fun b ob q => Heap.get?_push_of_some _ q) (Nat.le_refl _) ⟨by rw [List.length_reverse]; exact hz, _, 0, r.reverse, Heap.get?_push_size _ rfl⟩, rfl, q _ (I5.hok.fresh (Nat.le_refl _))⟩
  · obtain ⟨t, rfl⟩ := r1
    cases ps with
    | int _ tk =>
      show wpAny (model X.prog X.w) X.A (subscriptTail e (.Slice none none (some se) p3) (.str z t) (.ref s4.heap.objs.size)) (EP X pins σ Q) X.xe { s4 with heap := s4.heap.push { cls := .type "slice", data := .fields #[.none, .none, .int (-1) tk] } }
      refine tail_any (ops := [.str z t, .ref s4.heap.objs.size]) (typeIs_str _ _ _) F.slot_str_getitem.lookup ?_ (by with_unfolding_all rfl)
      refine wpAny_getItem_str_slice (l := none) (u := none) (st := some (-1, tk)) ⟨_, Heap.get?_push_size _ rfl, rfl, rfl⟩ rfl ?_
      have e1 := rev_str z
      have e2 : sliceMade z t none none (some (-1, tk)) = .str ⟨z.cps.toList.reverse.toArray⟩ := by
        unfold sliceMade slicePicked
        show (if ((-1 : Int) == 1 && (Builtin.Str.strSliceIndices none none (-1) z.length).length == z.length) = true then Made.val (.str z t) else Made.str ⟨((Builtin.Str.strSliceIndices none none (-1) z.length).filterMap (z.cps[·]?)).toArray⟩) = _
        rw [if_neg (by simp), e1]
      rw [e2]
      refine ⟨?_, .str _, _, I5.tok _, ⟨_, rfl⟩, q⟩
      show (z.cps.toList.reverse.toArray).size ≤ sizeLine
      rw [List.size_toArray, List.length_reverse, Array.length_toList]
      exact hz
def gStep (k : Int) : D → Option D
  | .tup xs => if k = -1 ∨ k = 2 then some (.tup (pickL k xs)) else none
  | .lst xs => if k = -1 then some (.lst xs.reverse) else none
  | .str x => if k = -1 then some (.str ⟨(tl x).reverse.toArray⟩) else none
  | _ => none
theorem und_step {K : PySem.W.Frag} {k : Int} : UnD K (rStep K k) (gStep k) := by
  intro G H x a d Q s h e z
  cases a with
  | tup xs =>
    obtain ⟨hk, rfl⟩ := ifs_some (show (if k = -1 ∨ k = 2 then some (D.tup (pickL k xs)) else none) = some d from e)
    obtain ⟨a, vs, rfl, h1, z1, d1, _⟩ := h.tup s
    refine ⟨hk, .inl ⟨a, vs, rfl, SqT.of h1, fun p hp => z _ (upd G p (.tup (pickL k vs))) _ (Al.one s hp) (.tup upd_same ?_ ((dds_pickL d1).up (Al.one s hp).g))⟩⟩
    exact Nat.le_trans (pickL_len k vs) (Nat.le_trans (step_len hk _) z1)
  | lst xs =>
    obtain ⟨hk, rfl⟩ := ifs_some (show (if k = -1 then some (D.lst xs.reverse) else none) = some d from e)
    obtain ⟨a, vs, rfl, h1, z1, d1⟩ := h.lst s
    refine ⟨.inl hk, .inr (.inl ⟨hk, a, vs, rfl, SqL.of h1, fun p hp => z _ (upd G p (.lst vs.reverse)) _ (Al.one s hp) (.lst upd_same ?_ (d1.rev.up (Al.one s hp).g))⟩)⟩
    rw [List.length_reverse]; exact z1
  | str x =>
    obtain ⟨hk, rfl⟩ := ifs_some (show (if k = -1 then some (D.str ⟨(tl x).reverse.toArray⟩) else none) = some d from e)
    obtain ⟨rfl, ok⟩ := h.str
    refine ⟨.inl hk, .inr (.inr ⟨hk, x, rfl, ok.1, z _ _ _ (Al.refl s) (.str _ (ok.sub (fun c hc => ?_) ?_))⟩)⟩
    · exact List.mem_reverse.mp (by simpa [tl] using hc)
    · show ((tl x).reverse.toArray).size ≤ x.cps.size
      rw [List.size_toArray, List.length_reverse]
      show x.cps.toList.length ≤ _
      rw [Array.length_toList]; exact Nat.le_refl _
  | _ => cases e
theorem de_step (he : DE X Wi e fe) (hse : PE X se tse) (hk : ∀ σ H Q, Q (.int k) H → tse σ H Q) : DE X Wi (.Subscript e (.Slice none none (some se) p3) pos) (eUn (gStep k) fe) := PE.imp (pe_stepS he hse hk) (tUn_of und_step)
theorem de_rev {e : Expr} {p1 p2 : Pos} {j : Nat} (he : DE X Wi e fe) : DE X Wi (.Subscript e (.Slice none none (some (.UnaryOp .USub (.Constant (.int 1) j p1) p2)) p3) pos) (eUn (gStep (-1)) fe) :=
  de_step he (pe_un un_neg pe_int) fun _ _ _ q => ⟨1, rfl, q⟩
end
end DL
namespace DL
open PySem PySem.Spec PyProof.Rows L2 TL
end DL
namespace DL
open PySem PySem.Spec PyProof.Rows L2 TL
section
variable {X : Cx} {pins : List (Addr × Obj)} {σ : L2.St} {G H : Hp} {s : Shared} {v : V} {u : Value} {d : D}
section
variable {P : Program} {w : World} {h : Heap} {a : Addr} {o : Obj} {n : Nat}
end
end
section
variable {X : Cx} {Wi : Wish} {o : Expr} {fo : EF} {apos pos : Pos}
end
end DL
namespace DL
open PySem PySem.Spec PyProof.Rows L2 TL
end DL
namespace DL
open PySem PySem.Spec PyProof.Rows L2 TL PpSet
section
variable {X : Cx} {elt tg iter : Expr} {ifs : List Expr} {scope : Scope} {own : List (Str × Nat)} {pos : Pos} {wi : TI} {g : TG} {tt : TT} {te : TE}
end
end DL
namespace DL
open PySem PySem.Spec PyProof.Rows L2

abbrev exTl : List Value := [.type "Exception", .type "BaseException", .type "object"]
/-- what the class must say -/
structure ExCls (K : PySem.W.Frag) (C : Addr) : Prop where
  ei : PySem.W.excInitIn K C exTl "Exception.__new__" = true
  ov : PySem.W.excOver K C exTl = true
  ex : PySem.W.subIn K (.ref C) (.type "BaseException") = some true
  xx : PySem.W.subIn K (.ref C) (.type "Exception") = some true
  ty : PySem.W.typeIn K (.ref C) = some (.type "type")
  kp : PySem.W.keepIn K (.ref C) = true
  hd : PySem.W.hasDictIn K C = true
  sa : PySem.W.findIn K (.ref C) "__setattr__" = some (some (.builtin "object.__setattr__"))
  me : PySem.W.mroIn K C (.ref C) = some true
  su : PySem.W.ks_superIn K C C "__init__" = some (some (.builtin "Exception.__init__"))
  th : PySem.W.nsIn K cStatics "thirdparty.any" = some none
  ga : PySem.W.findIn K (.ref C) "__getattribute__" = some (some (.builtin "BaseException.__getattribute__"))
  gg : PySem.W.findIn K (.ref C) "__getattr__" = some none
/-- its __init__, a def that closes over the class -/
structure ExFn (P : Program) (K : PySem.W.Frag) (mg : Str → Option Value) (C fI : Addr) (qual : Str) (st : Stmt) : Prop where
  ini : PySem.W.findIn K (.ref C) "__init__" = some (some (.ref fI))
  tyI : PySem.W.typeIn K (.ref fI) = some (.type "function")
  fn : ∃ (oc kV dc pm cd ct clc cll : Value) (od an cld cdd : Option Addr) (osl csl ccs : Array (Option Value)) (cda cc : Addr) (vs : Array Value) (file : Str) (tf : Tok),
    K.lookup fI = some ⟨oc, od, .func (PySem.W.fnX "__init__" qual (defArgs st) (defBody st) (defScope st) [("__class__", cc)] .none kV dc pm an cd ct), osl⟩ ∧ cd = .ref cda ∧ PySem.W.codeIn K cd qual = true ∧
    K.lookup cda = some ⟨clc, cdd, .fields vs, ccs⟩ ∧ vs[2]? = some (.str file tf) ∧ ((P.main.file : Str) == file) = true ∧ K.lookup cc = some ⟨cll, cld, .cell (some (.ref C)), csl⟩
  gs : mg "super" = none
  top : (P.main.scope.names.lookup ("super" : Str)).isSome = false

section
variable {prog : Program} {w : World} {A : Around} {K : PySem.W.Frag} {E : Value → Shared → Prop} {h : Heap} {g : Array GenState} {dr : PySem.Drawn} {t : Nat} {os : OsState} {C x : Addr}
theorem ExCls.obj (T : ExCls K C) (X : K.In h) : ∃ nm N qn bs bm hdct sn sub ab col dd k0 k1 k2 k3 k5, h.get? C = some (excClassObj nm qn C N bs bm hdct sn sub ab col dd k0 k1 k2 k3 k5 "Exception.__new__") ∧ ∀ Y : String, bm.contains (.type Y) = exTl.contains (.type Y) := PySem.W.excInit_of X T.ei
theorem cls_obj {D : Addr} {cd : ClassData} (X : K.In h) (hD : PySem.W.clsIn K D = some cd) : ∃ o, h.get? D = some o ∧ o.data = .cls cd := by
  unfold PySem.W.clsIn at hD
  split at hD
  · rename_i c d cd' sl ho
    cases hD
    exact ⟨_, X _ _ ho, rfl⟩
  · cases hD
/-- the first field of an exception -/
theorem set_exc1 {f : Str} {v : Value} {t0 : Addr} {Q : Unit → Shared → Prop} (T : ExCls K C) (X : K.In h) (hx : h.get? x = some (HandSPX.excO C t0)) (hf : PySem.W.findIn K (.ref C) f = some none)
    (hq : ∀ h' tk' dx, (∀ b o, b ≠ x → h.get? b = some o → h'.get? b = some o) → h.objs.size ≤ dx → dx ≠ x → h'.get? x = some { cls := .ref C, dict := some dx, data := .fields #[.ref t0, .none, .none, .none, .bool false, .none] } →
      h'.Ns1 dx (fun y => if y = f then some v else none) → Q () ⟨h', g, dr, tk', os⟩) : wpAny (model prog w) A (setAttr (.ref x) f v) Q E ⟨h, g, dr, t, os⟩ := by
  obtain ⟨cd, hcd, hdd⟩ := PySem.W.any_some T.hd
  have hxs : x ≠ h.objs.size := Nat.ne_of_lt (Heap.lt_size hx)
  have I : PySem.W.InstAt h x (HandSPX.excO C t0) C none := ⟨hx, rfl, rfl, trivial⟩
  refine PySem.W.set_plain X I T.sa (PySem.W.osa_openX (s := ⟨h, g, dr, t + 1, os⟩) (r := none) PySem.F.store_Exception X I T.ov (by unfold PySem.W.takerIn; rw [hf]; rfl) fun b => ?_)
  have hcls : PySem.W.Looks (model prog w) h (classData C) cd := PySem.W.looks_clsIn X hcd
  obtain ⟨nm, bs, mro, ns, qn, hd, sn, sb, ab, col, del⟩ := cd
  dsimp only at hdd
  subst hdd
  show wpAny _ _ (Builtin.ObjectAttr.storeInOwnDict (.ref x) (.ref C) (.str f t) f v b) _ _ _
  unfold Builtin.ObjectAttr.storeInOwnDict Builtin.ObjectAttr.ownDictForStores
  repeat (first | with_reducible refine HandSPX.store_in_new ?_ ?_ | with_reducible refine wpAny_loadPart_at hx ?_ | with_reducible refine hcls.at ?_ | wp_step)
  · exact ⟨_, #[], _, (Heap.get?_update_ne _ _ _ _ hxs.symm).trans (Heap.get?_push_at rfl rfl), rfl, fun e he => absurd he (by simp), fun _ => rfl⟩
  · intro h' tk' hn' hs
    have hx1 : (h.push { cls := .type "dict", data := .dict #[] }).get? x = some (HandSPX.excO C t0) := Heap.get?_push_of_some _ hx
    refine hq h' tk' h.objs.size (fun b o hb ho => ?_) (Nat.le_refl _) hxs.symm ?_ hn'
    · exact (hs.2 b (Nat.ne_of_lt (Heap.lt_size ho))).trans ((Heap.get?_update_ne _ _ _ _ hb).trans (Heap.get?_push_of_some _ ho))
    · exact (hs.2 x hxs).trans (Heap.get?_update_self _ hx1 rfl)

/-- super().__init__(text) -/
def exSup (msg : Str) (k : Nat) (p0 p1 p2 p3 p4 p5 : Pos) : Stmt := .Expr (.Call (.Attribute (.Call (.Name "super" p0) [] [] p1) "__init__" p2) [.Constant (.str msg) k p3] [] p4) p5
/-- self.f = a parameter -/
def exPut (f par : Str) (p6 p7 p8 p9 : Pos) : Stmt := .Assign [.Attribute (.Name "self" p6) f p7] (.Name par p8) p9
theorem call_mw {u t0 : Addr} {v : Value} {Q : Value → Shared → Prop} (T : ExCls K C) (X : K.In h) (he : h.get? x = some (HandSPX.excO C t0)) (hu : h.get? u = some (PySem.W.kxs_mw "Exception.__init__" x))
    (hq : ∀ h' t1, (∀ b o, b ≠ x → h.get? b = some o → h'.get? b = some o) → h'.get? x = some (HandSPX.excO C t1) → Q .none ⟨h', g, dr, t, os⟩) : wpAny (model prog w) A (call (.ref u) [v]) Q E ⟨h, g, dr, t, os⟩ := by
  obtain ⟨nm, N, qn, bs, bm, hdct, sn, sub, ab, col, dd, k0, k1, k2, k3, k5, hC, hT⟩ := T.obj X
  exact ESX.call_bw hC he hu (by show 1 ≤ sizeLine; rw [sizeLine_eq]; decide) hq
theorem sup_init {body : List Stmt} {qual : Str} {scope : Scope} {L fI cda cc : Addr} {msg : Str} {k : Nat} {p0 p1 p2 p3 p4 p5 : Pos} {m mg mb : Str → Option Value} {t0 : Addr} {Q : Flow → Shared → Prop} {fd : FuncData} {fo co cco : Obj} {ar : Arg} {vs : Array Value} {file : Str} {tf : Tok}
    (T : ExCls K C) (X : K.In h) (hns : h.Ns L m) (hse : m ar.arg = some (.ref x)) (hx : h.get? x = some (HandSPX.excO C t0)) (hg : h.Ns mainGlobals mg) (gs : mg "super" = none) (hb : h.Ns builtinsNs mb) (bs : mb "super" = some (.type "super"))
    (hf : h.get? fI = some fo) (hfd : fo.data = .func fd) (hp : (fd.params.posonlyargs ++ fd.params.args).head? = some ar) (hcc : h.get? cda = some co) (hoc : co.data = .fields vs) (hvs : vs[2]? = some (.str file tf)) (hfile : ((prog.main.file : Str) == file) = true)
    (hcell : h.get? cc = some cco) (hcd : cco.data = .cell (some (.ref C))) (htop : (prog.main.scope.names.lookup ("super" : Str)).isSome = false)
    (hks : scope.names.lookup ("super" : Str) = some .globalImplicit) (hkc : scope.names.lookup ("__class__" : Str) = some .free) (hka : scope.names.lookup ar.arg = some .local) (hk : scope.kind = .function)
    (hsw : swapsWith (.Call (.Attribute (.Call (.Name "super" p0) [] [] p1) "__init__" p2) [.Constant (.str msg) k p3] [] p4) none p5.line (PySem.W.ksEnv qual scope L fI (.ref cda) cc) = pure false)
    (hin : interactive (PySem.W.ksEnv qual scope L fI (.ref cda) cc) = false) {pl : Sem Bool}
    (hev : eval (.Call (.Attribute (.Call (.Name "super" p0) [] [] p1) "__init__" p2) [.Constant (.str msg) k p3] [] p4) (PySem.W.ksEnv qual scope L fI (.ref cda) cc) = (do
      let o ← attributeBase (.Call (.Name "super" p0) [] [] p1) "__init__" (PySem.W.ksEnv qual scope L fI (.ref cda) cc) (eval (.Call (.Name "super" p0) [] [] p1) (PySem.W.ksEnv qual scope L fI (.ref cda) cc))
      standAt p2.atName
      let (f, first) ← holding [o] (getMethod o "__init__" pl)
      callWith p4 f first (backTo p4 (starEach [.Constant (.str msg) k p3] (PySem.W.ksEnv qual scope L fI (.ref cda) cc))) []))
    (hq : ∀ h' t1 tk', (∀ b o, b ≠ x → h.get? b = some o → h'.get? b = some o) → h'.get? x = some (HandSPX.excO C t1) → Q .next ⟨h', g, dr, tk', os⟩) :
    _root_.PySem.wpAt (model prog w) A (.func body (PySem.W.ksEnv qual scope L fI (.ref cda) cc)) (exec (exSup msg k p0 p1 p2 p3 p4 p5) (PySem.W.ksEnv qual scope L fI (.ref cda) cc)) Q E ⟨h, g, dr, t, os⟩ := by
  obtain ⟨cd, hcl, hdd⟩ := PySem.W.any_some T.hd
  obtain ⟨oD, hD1, hD2⟩ := cls_obj X hcl
  have hsu := T.su
  unfold PySem.W.ks_superIn at hsu
  rw [hcl] at hsu
  have I : PySem.W.InstAt h x (HandSPX.excO C t0) C none := ⟨hx, rfl, rfl, trivial⟩
  have nx : x ≠ C := PySem.W.ks_ne X I hcl
  refine ks_wpAt_Expr_any (ks_wpAt_MethodCall (pl := pl) ?_ hev) hin hsw
  refine ks_wpAt_super_base (env := PySem.W.ksEnv qual scope L fI (.ref cda) cc) hks hkc (by decide) rfl hf hfd hp rfl hcc hoc hvs hfile htop ?_
  refine PySem.W.ks_loadName_global hk hks (Calls.loadGlobal_builtin (env := PySem.W.ksEnv qual scope L fI (.ref cda) cc) hg gs hb bs ⟨rfl, ?_⟩)
  refine wpAny_loadName_free hk hkc rfl ⟨cco, hcell, hcd⟩ ?_
  refine wpAny_loadName_local hk hka hns hse ?_
  refine ks_wpAny_isType_cls hD1 hD2 ⟨rfl, ?_⟩
  refine ks_wpAny_call_super hD1 hD2 hx rfl (fun c z => nomatch z) (PySem.W.looks_mroIn X T.me) (fun h1 e1 k1 => ?_)
  have X1 : K.In h1 := X.keeps k1
  have I1 : PySem.W.InstAt h1 x (HandSPX.excO C t0) C none := ⟨k1 _ _ hx, rfl, rfl, trivial⟩
  have isx : PySem.W.Looks (model prog w) h1 (isInstance (.ref x) (.type "Exception")) true := I1.type.andThen (PySem.W.looks_subIn X1 T.xx)
  refine PySem.W.kxs_getMethod PySem.W.kxs_Exception e1 (PySem.W.looks_opaque X1 T.th) (l₀ := cd.mro) ?_ rfl X1 hsu isx nx (by decide) ?_
  · exact fun A Q E s k q => wpAny_bind ((PySem.W.looks_clsIn X1 hcl) A _ E s k (wpAny_pure q))
  · have k2 : ∀ b o, h1.get? b = some o → (h1.push (PySem.W.kxs_mw "Exception.__init__" x)).get? b = some o := fun b o e => Heap.get?_push_of_some _ e
    refine PySem.W.kxs_callWith (i := "Exception.__init__") (x := x) rfl ?_
    refine Calls.evalArgs_plain ?_
    refine spliced_more (wpAny_Constant_str (spliced_none ?_))
    refine ⟨Heap.get?_push_at rfl rfl, ?_⟩
    refine call_mw T (X1.keeps k2) (k2 _ _ (k1 _ _ hx)) (Heap.get?_push_at rfl rfl) fun h' t1 k3 e3 => ?_
    exact hq h' t1 _ (fun b o hb ho => k3 b o hb (k2 _ _ (k1 _ _ ho))) e3

/-- the text of super().__init__(msg), where it stands -/
structure SupAt (qual : Str) (scope : Scope) (msg : Str) (k : Nat) (p0 p1 p2 p3 p4 p5 : Pos) : Prop where
  sw : ∀ (L fI cda cc : Addr), swapsWith (.Call (.Attribute (.Call (.Name "super" p0) [] [] p1) "__init__" p2) [.Constant (.str msg) k p3] [] p4) none p5.line (PySem.W.ksEnv qual scope L fI (.ref cda) cc) = pure false
  it : ∀ (L fI cda cc : Addr), interactive (PySem.W.ksEnv qual scope L fI (.ref cda) cc) = false
  ev : ∃ pl : Sem Bool, ∀ (L fI cda cc : Addr), eval (.Call (.Attribute (.Call (.Name "super" p0) [] [] p1) "__init__" p2) [.Constant (.str msg) k p3] [] p4) (PySem.W.ksEnv qual scope L fI (.ref cda) cc) = (do
      let o ← attributeBase (.Call (.Name "super" p0) [] [] p1) "__init__" (PySem.W.ksEnv qual scope L fI (.ref cda) cc) (eval (.Call (.Name "super" p0) [] [] p1) (PySem.W.ksEnv qual scope L fI (.ref cda) cc))
      standAt p2.atName
      let (f, first) ← holding [o] (getMethod o "__init__" pl)
      callWith p4 f first (backTo p4 (starEach [.Constant (.str msg) k p3] (PySem.W.ksEnv qual scope L fI (.ref cda) cc))) [])
/-- what the scope of such an __init__ says -/
structure SupSc (scope : Scope) : Prop where
  ks : scope.names.lookup ("super" : Str) = some .globalImplicit
  kc : scope.names.lookup ("__class__" : Str) = some .free
  ka : scope.names.lookup ("self" : Str) = some .local
  kk : scope.kind = .function
  nc : ∀ x ∈ scope.names, x.2 ≠ .cell
  co : scope.isCoroutine = false
  gn : scope.isGenerator = false
/-- def __init__(self, par): super().__init__(msg); self.f = par -/
structure ExText1 (qual : Str) (st : Stmt) (f par : Str) : Prop where
  sc : SupSc (defScope st)
  lp : (defScope st).names.lookup par = some .local
  np : par ≠ "self"
  ha : ∃ ar : Arg, ((defArgs st).posonlyargs ++ (defArgs st).args).head? = some ar ∧ ar.arg = "self"
  bd : ∀ (cc : Addr) (kV dc pm cd ct : Value) (an : Option Addr) (x u : Value), bindArgs (PySem.W.fnX "__init__" qual (defArgs st) (defBody st) (defScope st) [("__class__", cc)] .none kV dc pm an cd ct) ⟨[x, u], []⟩ = pure [(("self" : Str), x), (par, u)]
  body : ∃ msg k p0 p1 p2 p3 p4 p5 p6 p7 p8 p9, defBody st = [exSup msg k p0 p1 p2 p3 p4 p5, exPut f par p6 p7 p8 p9] ∧ SupAt qual (defScope st) msg k p0 p1 p2 p3 p4 p5 ∧
    ∀ (L fI cda cc : Addr), swapsWith (.Name par p8) (some (.Attribute (.Name "self" p6) f p7)) p9.line (PySem.W.ksEnv qual (defScope st) L fI (.ref cda) cc) = pure false
  nd : (par == ("__debug__" : Str)) = false
/-- def __init__(self): super().__init__(msg) -/
structure ExText0 (qual : Str) (st : Stmt) : Prop where
  sc : SupSc (defScope st)
  ha : ∃ ar : Arg, ((defArgs st).posonlyargs ++ (defArgs st).args).head? = some ar ∧ ar.arg = "self"
  bd : ∀ (cc : Addr) (kV dc pm cd ct : Value) (an : Option Addr) (x : Value), bindArgs (PySem.W.fnX "__init__" qual (defArgs st) (defBody st) (defScope st) [("__class__", cc)] .none kV dc pm an cd ct) ⟨[x], []⟩ = pure [(("self" : Str), x)]
  body : ∃ msg k p0 p1 p2 p3 p4 p5, defBody st = [exSup msg k p0 p1 p2 p3 p4 p5] ∧ SupAt qual (defScope st) msg k p0 p1 p2 p3 p4 p5
theorem ini_code1 {mg mb : Str → Option Value} {fI t0 : Addr} {qual : Str} {st : Stmt} {f par : Str} {v : Value} {R : Result → Shared → Prop} {hp : Heap} (T : ExCls K C) (F : ExFn prog K mg C fI qual st) (S : ExText1 qual st f par) (XP : K.In hp) (xp : hp.get? x = none) (kp : ∀ b o, hp.get? b = some o → h.get? b = some o)
    (hx : h.get? x = some (HandSPX.excO C t0))
    (hf : PySem.W.findIn K (.ref C) f = some none) (hg : h.Ns mainGlobals mg) (hb : h.Ns builtinsNs mb) (bs : mb "super" = some (.type "super")) (lim : h.NoLimit) (room : A.depth < recursionLimit)
    (hq : ∀ h' tk' dx t1, (∀ b o, b ≠ x → h.get? b = some o → h'.get? b = some o) → h.objs.size ≤ dx → dx ≠ x → h'.get? x = some { cls := .ref C, dict := some dx, data := .fields #[.ref t1, .none, .none, .none, .bool false, .none] } →
      h'.Ns1 dx (fun y => if y = f then some v else none) → R (.ok (.ret .none)) ⟨h', g, dr, tk', os⟩) : codeAny (model prog w) A (.call (.ref fI) ⟨[.ref x, v], []⟩) R ⟨h, g, dr, t, os⟩ := by
  obtain ⟨oc, kV, dc, pm, cd, ct, clc, cll, od, an, cld, cdd, osl, csl, ccs, cda, cc, vs, file, tf, lk, rfl, hcod, lcd, hvs, hfile, lcc⟩ := F.fn
  obtain ⟨msg, k, p0, p1, p2, p3, p4, p5, p6, p7, p8, p9, hbody, sup, sw2⟩ := S.body
  obtain ⟨ar, har, haS⟩ := S.ha
  obtain ⟨pl, hev⟩ := sup.ev
  have X : K.In h := XP.keeps kp
  have nK : ∀ b o, K.lookup b = some o → b ≠ x := fun b o e z => by
    have := XP _ _ e
    rw [z, xp] at this; cases this
  have lpar : ∀ y ∈ [(("self" : Str), Value.ref x), (par, v)], (defScope st).names.lookup y.1 = some .local := fun y hy => by
    rcases List.mem_cons.mp hy with e | hy
    · rw [e]; exact S.sc.ka
    · rw [List.mem_singleton.mp hy]; exact S.lp
  refine ks_codeAny_call_defAt (binds := [(("self" : Str), .ref x), (par, v)]) room (X _ _ lk) rfl lim (PySem.W.codeRec_of X hcod) rfl (.of_eq (S.bd _ _ _ _ _ _ _ _ _)) S.sc.nc lpar (fun h0 hns k0 => ?_) S.sc.co S.sc.gn S.sc.kk
  have X0 := X.keeps k0
  have hself : ([(("self" : Str), Value.ref x), (par, v)] : List (Str × Value)).reverse.lookup ("self" : Str) = some (.ref x) := by
    show List.lookup ("self" : Str) [(par, v), (("self" : Str), Value.ref x)] = _
    rw [List.lookup_cons]
    have e : (("self" : Str) == par) = false := by simpa using Ne.symm S.np
    rw [e]; simp
  have hpar : ([(("self" : Str), Value.ref x), (par, v)] : List (Str × Value)).reverse.lookup par = some v := by
    show List.lookup par [(par, v), (("self" : Str), Value.ref x)] = _
    rw [List.lookup_cons]; simp
  rw [hbody]
  refine ks_wpAt_execs_cons ?_
  refine sup_init (fd := PySem.W.fnX "__init__" qual (defArgs st) (defBody st) (defScope st) [("__class__", cc)] .none kV dc pm an (.ref cda) ct) (ar := ar) T X0 hns (by rw [haS]; exact hself) (k0 _ _ hx) (hg.keeps k0) F.gs (hb.keeps k0) bs (X0 _ _ lk) rfl har (X0 _ _ lcd) rfl hvs hfile (X0 _ _ lcc) rfl F.top S.sc.ks S.sc.kc (by rw [haS]; exact S.sc.ka) S.sc.kk (sup.sw _ _ _ _) (sup.it _ _ _ _) (hev _ _ _ _) fun h1 t1 tk1 k1 e1 => ?_
  have hlx : h.objs.size ≠ x := Nat.ne_of_gt (Heap.lt_size hx)
  have hn1 : h1.Ns h.objs.size (fun y => List.lookup y [(("self" : Str), Value.ref x), (par, v)].reverse) := by
    obtain ⟨o, es, ep, ho, hr⟩ := hns
    exact ⟨o, es, ep, k1 _ _ hlx ho, hr⟩
  have X1 : K.In h1 := fun b o e => k1 b o (nK b o e) (X0 b o e)
  have lo1 : h.objs.size < h1.objs.size := by
    obtain ⟨o, es, ep, ho, hr⟩ := hn1
    exact Heap.lt_size ho
  refine ks_wpAt_execs_cons ?_
  refine ks_wpAt_Assign_Attr ?_ (sw2 _ _ _ _)
  refine wpAt_of_wpAny (wpAny_Name (wpAny_loadName_local S.sc.kk S.lp hn1 hpar ?_) S.nd)
  refine wpAny_Name (wpAny_loadName_local S.sc.kk S.sc.ka hn1 hself ?_) (by decide)
  refine set_exc1 T X1 e1 hf fun h2 tk2 dx k2 l2 n2 e2 hd2 => ?_
  refine wpAt_of_wpAny (wpAny_execs_nil ?_)
  exact hq h2 tk2 dx t1 (fun b o hb ho => k2 b o hb (k1 b o hb (k0 b o ho))) (Nat.le_trans (Nat.le_of_lt lo1) l2) n2 e2 hd2
end
end DL
namespace DL
open PySem PySem.Spec PyProof.Rows L2

section
variable {X : Cx} {pins : List (Addr × Obj)} {σ : L2.St} {H : Hp} {Q : XK} {C fI : Addr} {qual : Str} {st : Stmt} {f par x : Str} {e : Expr} {te : TE} {p pos : Pos}
theorem boot_super : bootBuiltins "super" = some (.type "super") := by kernel_rfl
/-- behind __init__, with one field -/
theorem mk_one {hp hp2 h2 : Heap} {g g2 : Array GenState} {d d2 : PySem.Drawn} {t t2 : Nat} {os os2 : OsState} {a dx t1 : Addr} {v : V} {u : Value} (T : ExCls X.K C) (I1 : Inv X pins σ H ⟨hp, g, d, t, os⟩) (ha : hp.objs.size ≤ a) (k1 : ∀ b o, hp.get? b = some o → hp2.get? b = some o)
    (hx2 : ∃ t0, hp2.get? a = some (HandSPX.excO C t0)) (k2 : ∀ b o, b ≠ a → hp2.get? b = some o → h2.get? b = some o) (hd : hp2.objs.size ≤ dx) (na : dx ≠ a) (ex : h2.get? a = some { cls := .ref C, dict := some dx, data := .fields #[.ref t1, .none, .none, .none, .bool false, .none] })
    (ens : h2.Ns1 dx (fun y => if y = f then some u else none)) (rv : RelV v u) (eo : os2 = os) (eb : AllBare g2) (q : Q (.ref C) (some dx) (upd H dx (.xd [(f, v)]))) : MkP X pins σ Q (.ref a) ⟨h2, g2, d2, t2, os2⟩ := by
  obtain ⟨t0, hx2⟩ := hx2
  have I2 : Inv X pins σ (upd H a (exo a C none)) ⟨hp2, g, d, t, os⟩ := I1.laid (t' := t) (a := a) (o := exo a C none) (h' := hp2) k1 ha (exo_ok hx2)
  have na0 : H a = none := I1.hok.fresh ha
  have nd0 : H dx = none := by
    have z : upd H a (exo a C none) dx = none := I2.hok.fresh hd
    rw [upd_ne na] at z; exact z
  have lt2 : ∀ {b : Addr} {o : Obj}, hp2.get? b = some o → b ≠ dx := fun {b o} z => Nat.ne_of_lt (Nat.lt_of_lt_of_le (Heap.lt_size z) hd)
  obtain ⟨H2, hH2⟩ : ∃ H2, H2 = upd (upd (upd H a (exo a C none)) dx (exd dx [(f, v)])) a (exo a C (some dx)) := ⟨_, rfl⟩
  have at_a : H2 a = some (exo a C (some dx)) := by rw [hH2, upd_same]
  have at_d : H2 dx = some (exd dx [(f, v)]) := by rw [hH2, upd_ne na, upd_same]
  have at_o : ∀ {b : Addr}, b ≠ a → b ≠ dx → H2 b = H b := fun {b} h1 h2 => by rw [hH2, upd_ne h1, upd_ne h2, upd_ne h1]
  have old : ∀ {b : Addr} {o : HO}, upd H a (exo a C none) b = some o → o ≠ exo a C none → b ≠ a := fun {b o} z n e => by
    rw [e, upd_same] at z; exact n (Option.some.inj z).symm
  have oth : ∀ {b : Addr} {o : HO}, upd H a (exo a C none) b = some o → o ≠ exo a C none → H2 b = some o := fun {b o} z n => by
    have h1 := old z n
    rw [upd_ne h1] at z
    rw [at_o h1 (ne_of_none z nd0)]; exact z
  have un : Un (frs X.stack) [] (upd H a (exo a C none)) H2 hp2 h2 := by
    refine { keep := fun b o z n _ _ => ?_, slot := fun b o z n _ _ => ⟨o.slots, ?_⟩, free := fun b o z n _ => ?_, there := fun b o z _ => ?_, tups := fun b xs z => oth z (fun w => exo_tup w.symm), frzs := fun b o v z => oth z (fun w => exo_frz w.symm), tbls := fun b ps z => ⟨#[], ?_⟩ }
    · exact k2 b o (fun w => by rw [w, upd_same] at n; cases n) z
    · exact k2 b o (fun w => by rw [w, upd_same] at n; cases n) z
    · have h1 : b ≠ a := fun w => by rw [w, upd_same] at n; cases n
      rw [upd_ne h1] at n
      rw [at_o h1 (lt2 z)]; exact n
    · by_cases h1 : b = a
      · exact ⟨_, by rw [h1]; exact ex⟩
      · exact ⟨o, k2 b o h1 z⟩
    · rw [oth z (fun w => exo_tbl w.symm)]; simp
  have hok : HOk X.prog X.w H2 h2 := fun b o z => by
    by_cases h1 : b = a
    · rw [h1, at_a] at z; cases z
      rw [h1]; exact exo_ok ex
    · by_cases h2' : b = dx
      · rw [h2', at_d] at z; cases z
        rw [h2']
        exact exd_ok ens (fun y => by
          show RelO (List.lookup y [(f, v)]) (if y = f then some u else none)
          rw [List.lookup_cons]
          by_cases hy : y = f
          · subst hy; simp; exact rv
          · rw [if_neg hy]
            have : (y == f) = false := by simpa using hy
            rw [this]; trivial)
      · have z0 := z
        rw [at_o h1 h2'] at z0
        have zi : upd H a (exo a C none) b = some o := by rw [upd_ne h1]; exact z0
        exact (I2.hok b o zi).stay (fun c w hc r => k2 c w (by
            rcases hc with hc | hc
            · rw [hc]; exact h1
            · exact old hc (fun w => exo_own w.symm)) r) (fun c hc => oth hc (fun w => exo_own w.symm)) fun c xs hc => oth hc (fun w => exo_tup w.symm)
  refine L2.mk_end (raises_own T.ex T.ty) I1 ha k1 un hok eo eb at_a at_d nd0 ?_
  have eq : upd (del H2 a) dx (.xd [(f, v)]) = upd H dx (.xd [(f, v)]) := by
    funext b
    by_cases h2' : b = dx
    · rw [h2', upd_same, upd_same]
    · rw [upd_ne h2', upd_ne h2']
      by_cases h1 : b = a
      · rw [h1, del_same, na0]
      · rw [del_ne h1, at_o h1 h2']
  rw [eq]; exact q
theorem vals_one {v : V} {us : List Value} (r : Vals [v] us) : ∃ u, us = [u] ∧ RelV v u := by
  cases r with
  | cons r1 r2 => cases r2; exact ⟨_, rfl, r1⟩
theorem pmk_ex1 {ta : TA} (T : ExCls X.K C) (F : ExFn X.prog X.K X.mg C fI qual st) (S : ExText1 qual st f par) (hf : PySem.W.findIn X.K (.ref C) f = some none) (hr : Room 1 X.A) (hg : Gl X x) (hm : X.mg x = some (.ref C)) (pa : PA X [e] ta)
    (hdb : (x == ("__debug__" : Str)) = false := by decide) (hst : starEach [e] X.env = (false, eval e X.env) :: starEach [] X.env := by rfl) (hpl : (backTo pos (starEach [] X.env)).any (·.1) = false := by rfl) :
    PMk X (.Call (.Name x p) [e] [] pos) (fun σ H Q => ta σ H fun vs H1 => ∃ v, vs = [v] ∧ ∀ d, H1 d = none → Q (.ref C) (some d) (upd H1 d (.xd [(f, v)]))) := by
  intro pins s σ H Q I h
  refine wpAny_Call_Name_kw (ld_glob I hg hm ?_ hdb)
  refine PySem.W.callWith_K (h₀ := X.base) I.ok.mod.kin T.kp (thn (pa.run pos pins s σ H _ I h) fun us s1 ⟨vs, H1, I1, r1, v, ev, q⟩ => ⟨I1.kIn, ?_⟩) hst hpl
  subst ev
  obtain ⟨u, rfl, rv⟩ := vals_one r1
  show wpAny _ _ (call (.ref C) [u]) _ _ _
  obtain ⟨nm, N, qn, bs, bm, hdct, sn, sub, ab, col, dd, k0, k1, k2, k3, k5, hC, hT⟩ := T.obj I1.kIn
  obtain ⟨mb, b1, b2⟩ := I1.mod.blt
  have lim := I1.mod.nolimit.keeps I1.bk
  obtain ⟨hp, g, dr, tk, os⟩ := s1
  have kk : ∀ b o, hp.get? b = some o → ((hp.push (PySem.W.kdv_tup [u])).push (HandSPX.excO C hp.objs.size)).get? b = some o := fun b o z => Heap.get?_push_of_some _ (Heap.get?_push_of_some _ z)
  have hx2 : ((hp.push (PySem.W.kdv_tup [u])).push (HandSPX.excO C hp.objs.size)).get? (hp.objs.size + 1) = some (HandSPX.excO C hp.objs.size) := by heap_get
  have fresh : hp.get? (hp.objs.size + 1) = none := Heap.get?_none_of_le (Nat.le_succ _)
  refine wpAny_call (HandSPX.call_own PySem.F.excBase_Exception hT hC (PySem.W.looks_findIn I1.kIn F.ini) (fun self => PySem.W.bind_fn I1.kIn self F.tyI) (by show 1 ≤ sizeLine; rw [sizeLine_eq]; decide) ?_)
  refine ini_code1 T F S I1.kIn fresh kk hx2 hf ((I1.mod.glob.keeps I1.bk).keeps kk) ((b1.keeps I1.bk).keeps kk) ((b2 _ (by decide)).trans boot_super) (lim.keeps kk) (hr.make C [u] []).depth fun h2 tk' dx t1 kz ld nd ex ens => ?_
  have lo : hp.objs.size ≤ dx := Nat.le_trans (by rw [Heap.size_push, Heap.size_push]; omega) ld
  refine ⟨rfl, ?_⟩
  show MkP X pins σ Q _ _
  exact mk_one (d2 := dr) (t2 := tk') T I1 (Nat.le_succ _) kk ⟨_, hx2⟩ kz ld nd ex ens rv rfl I1.bare (q dx (I1.hok.fresh lo))
end
end DL
namespace DL
open PySem PySem.Spec PyProof.Rows L2

/-- the wish of what flies here, as the layer's own takes it -/
abbrev wxOf (Wi : Wish) : WX := fun c d σ H => Wi σ c d H
theorem passT {X : Cx} {Wi : Wish} (tk : Takes X (wxOf Wi)) : PassW (L2.CX X.prog X.w) X Wi := fun σ pins H s e s' I c => tk e s' (XE.of_call I (fun cls d H' h => h) c)
section
variable {P : Program} {w : World} {K : PySem.W.Frag} {mg : Str → Option Value} {base : Heap} {k : Nat} {f : Addr} {fd : FuncData} {ps N : List Str} {x qual : Str} {st : Stmt} {fb : SF} {sp : Sp}
/-- a def that lets nothing out, where others may -/
theorem FnG.any {CX : CXT} (F : FnG P w K mg base CX0 k f fd ps sp) : FnG P w K mg base CX k f fd ps sp :=
  ⟨F.len, fun A outer s H args us vs Q E hg hr he hb hv hs => codeAny_mono (F.go A outer s H args us vs Q E hg hr he hb hv hs) fun r s' q => by
    cases r with
    | error e => exact False.elim q
    | ok fl =>
      cases fl with
      | ret u => exact q
      | next => exact q
      | brk => exact q
      | cont => exact q⟩
/-- a def that may let an exception out -/
theorem fn_PX (F : Fun K x qual st f fd) (S : FnScope N ps (defScope st)) (n : Nat) (hn : ps.length + n = N.length)
    (hb : ∀ (cdv : Value) (A : Around) (outer : List PySem.Env) (s : Shared) (H : Hp) (E : XK), A.guards = some [] → Room k (A.deeper (envOfC qual (defScope st) s.heap.objs.size f cdv)) →
      Takes (cxOf (L2.CX P w) P w K mg base N qual (defScope st) f cdv A outer s H E) (wxOf (WiX E)) →
      DSs (cxOf (L2.CX P w) P w K mg base N qual (defScope st) f cdv A outer s H E) (WiX E) (defBody st) fb) : FnG P w K mg base (L2.CX P w) (k + 1) f fd ps (spP K ps.length fun ds => runP fb n ds) := by
  refine FnG.body F S (spP_len rfl) fun cdv A outer s H vs Q E hg hr hsp => ?_
  obtain ⟨G, ds, sm, dd, hl, q⟩ := hsp
  refine ⟨_, hb cdv A outer s H E hg hr (takes_of rfl rfl rfl rfl), ⟨H, G, []⟩, G, _, _, StE.start sm dd (n := n) (by omega), ?_⟩
  have al : ∀ {σ' : L2.St} {G' H' : Hp} {as' : Nat → List Addr} {E' : Env}, Same G G' → StE K ⟨H, G, []⟩ G' H' σ' E' as' → Al G H G' H' := fun {σ' G' H' as' E'} s1 st1 =>
    ⟨s1, fun b o h => st1.keep b o h (fun z => by cases z), st1.s1, fun b o h e hb => (by
      cases ht : isT o with
      | true => rfl
      | false => exact absurd e (st1.priv b o h hb ht (fun z => by cases z)))⟩
  have q : (match outF (fb (ds.map .dat ++ nos n)) with
    | .ok d => Rz K G H Q d
    | .err x _ => ∀ c dx G' H', Al G H G' H' → ExOk K G' x c dx → E c dx H'
    | .stuck => False) := q
  show PoS K (WiX E) ⟨H, G, []⟩ G _ (fb (ds.map .dat ++ nos n))
  generalize fb (ds.map .dat ++ nos n) = r at q ⊢
  match r, q with
  | .ok (.rt d, E'), q => exact fun v σ' G' H' as' s1 st1 dd1 => q v G' H' (al s1 st1) dd1
  | .ok (.nx, E'), q => exact fun σ' G' H' as' s1 st1 => q .non G' H' (al s1 st1) .non
  | .ok (.bk, E'), q => exact q.elim
  | .ok (.ct, E'), q => exact q.elim
  | .err x E', q => exact fun c dx σ' G' H' as' s1 st1 xo => q c dx G' H' (al s1 st1) xo
end
end DL
namespace DL
open PySem PySem.Spec PyProof.Rows L2

def sRaise1 (C : Addr) (f : Str) (fs : AF) : SF := fun E => (fs E).bind fun p => (ofO (dats p.1)).bind fun ds => match ds with
  | [d] => .err ⟨C, [(f, d)]⟩ p.2
  | _ => .stuck
theorem PoA.bindS {K : PySem.W.Frag} {Wi : Wish} {F : Fr} {G : Hp} {σ : L2.St} {Dn : Ends} {r : Res (List W × Env)} {g : List W × Env → Res (Fl × Env)} (h : PoS K Wi F G Dn (r.bind g)) :
    PoA K Wi F G σ (MidA K F G σ fun _ ws G1 _ E1 _ => PoS K Wi F G1 Dn (g (ws, E1))) r := by
  match r, h with
  | .ok (w, E'), h => exact fun v G' H' as' s st wo => ⟨w, G', E', as', s, st, wo, PoS.up s h⟩
  | .err x E', h => exact fun c dx G' H' as' s st xo => h c dx σ G' H' as' s st xo
section
variable {X : Cx} {Wi : Wish} {C fI : Addr} {qual : Str} {st : Stmt} {f par x : Str} {e : Expr} {fs : AF} {p pos pos' : Pos}
theorem ds_raise1 (hc : X.calm = true) (tk : Takes X (wxOf Wi)) (T : ExCls X.K C) (F : ExFn X.prog X.K X.mg C fI qual st) (S : ExText1 qual st f par) (hf : PySem.W.findIn X.K (.ref C) f = some none) (hr : Room 1 X.A) (hg : Gl X x) (hm : X.mg x = some (.ref C)) (ha : DA X Wi [e] fs)
    (hdb : (x == ("__debug__" : Str)) = false := by decide) (hst : starEach [e] X.env = (false, eval e X.env) :: starEach [] X.env := by rfl) (hpl : (backTo pos (starEach [] X.env)).any (·.1) = false := by rfl) :
    DS X Wi (.Raise (some (.Call (.Name x p) [e] [] pos)) none pos') (sRaise1 C f fs) := PS.imp (ps_raise hc tk (pmk_ex1 T F S hf hr hg hm ha hdb hst hpl)) fun Dn σ H q => by
  obtain ⟨F0, G, E, as, st0, pq⟩ := q
  refine ⟨F0, G, E, as, st0, PoA.mono (fun vs H1 m => ?_) (PoA.bindS pq)⟩
  obtain ⟨ws, G1, E1, as1, s1, st1, wo, p1⟩ := m
  obtain ⟨ds, e1, p1⟩ := PoS.of p1
  have dd := dats_ok wo e1
  match ds, p1, dd with
  | [], p1, _ => exact p1.elim
  | _ :: _ :: _, p1, _ => exact p1.elim
  | [d], p1, dd =>
    cases dd with
    | cons h1 h2 =>
      cases h2
      rename_i v
      refine ⟨v, rfl, fun dx hdx => ?_⟩
      have al := Al.one (o := .xd [(f, v)]) st1.s1 hdx
      have p1 : ∀ c dx σ' G' H' as', Same G1 G' → StE X.K F0 G' H' σ' E1 as' → ExOk X.K G' ⟨C, [(f, d)]⟩ c dx → Wi σ' c dx H' := p1
      exact p1 (.ref C) (some dx) σ _ _ _ al.g (st1.al al) ⟨rfl, [(f, v)], upd_same, .cons (h1.up al.g) .nil⟩
end

abbrev HdT := Value × Option Nat × (Addr → Value → Option Addr → TS)
def inSlot : Option Nat → Ends → Ends
  | none, D => D
  | some i, D => { nx := fun σ H => D.nx (σ.set i none) H, rt := D.rt, bk := fun σ H => D.bk (σ.set i none) H, ct := fun σ H => D.ct (σ.set i none) H }
def putSlot (a : Addr) : Option Nat → L2.St → L2.St
  | none, σ => σ
  | some i, σ => σ.set i (some (.ref a))
/-- what the clauses wish of an exception of the body -/
def wHds (K : PySem.W.Frag) (Wout : WX) (D : Ends) : List HdT → WX
  | [] => Wout
  | (c, i, ts) :: r => fun cls d σ H => ∃ b, PySem.W.exmOne K cls c = some b ∧ (b = true → ∀ a, H a = none → ts a cls d (inSlot i D) (putSlot a i σ) H) ∧ (b = false → wHds K Wout D r cls d σ H)
inductive HdsX (X : Cx) : List ExceptHandler → List HdT → Prop
  | nil : HdsX X [] []
  | bare {x : Str} {c : Value} {ts : Addr → Value → Option Addr → TS} {b : Stmt} {su : List Stmt} {np pos' : Pos} {hds : List ExceptHandler} {l : List HdT} (hc : Names X x c)
      (hsu : ∀ (a : Addr) (oe : Obj) (cls : Value) (d : Option Addr) (pn : List (Addr × Obj)), Zc cls d oe → (∃ vs, oe.data = .fields vs) → PSs (X.suite a ((a, oe) :: pn)) (b :: su) (ts a cls d)) (r : HdsX X hds l) :
      HdsX X (.ExceptHandler (some (.Name x np)) none (b :: su) pos' :: hds) ((c, none, ts) :: l)
  | as_ {x n : Str} {i : Nat} {c : Value} {ts : Addr → Value → Option Addr → TS} {b : Stmt} {su : List Stmt} {np pos' : Pos} {hds : List ExceptHandler} {l : List HdT} (hc : Names X x c) (hi : X.N[i]? = some n) (hl : X.env.kindOf n = some .local)
      (hsu : ∀ (a : Addr) (oe : Obj) (cls : Value) (d : Option Addr) (pn : List (Addr × Obj)), Zc cls d oe → (∃ vs, oe.data = .fields vs) → PSs (X.suite a ((a, oe) :: pn)) (b :: su) (ts a cls d)) (r : HdsX X hds l) :
      HdsX X (.ExceptHandler (some (.Name x np)) (some n) (b :: su) pos' :: hds) ((c, some i, ts) :: l)
section
variable {X : Cx} {body : List Stmt} {h0 : ExceptHandler} {hds : List ExceptHandler} {l : List HdT} {pos : Pos} {tb : WX → TS} {Wout : WX}
theorem ps_try_hds (hs : X.stack = X.env :: X.outer) (hf : X.env.frame = some X.env.locals) (hN : X.N.Nodup) (tk : Takes X Wout)
    (hb : ∀ (W : WX) (pn : List (Addr × Obj)) (xe : Value → Shared → Prop), Takes (X.tr pn xe) W → PassesOwn (model X.prog X.w) X.A X.env xe → PSs (X.tr pn xe) body (tb W))
    (hh : HdsX X (h0 :: hds) l) : PS X (.Try body (h0 :: hds) [] [] pos) (fun D σ H => tb (wHds X.K Wout D l) D σ H) := by
  constructor
  intro pins s σ H D I h
  have okX := I.ok
  have frX : X.A.frames = some (X.env :: X.outer) := okX.frames.trans (congrArg some hs)
  refine wpAny_Try_except ?_
  refine wpAny_mono ((hb (wHds X.K Wout D l) (X.pn ++ pins) (fun e t1 => wpAny (model X.prog X.w) X.A (noteFrame e X.env) (fun _ t2 => wpAny (model X.prog X.w) X.A (setFlight e none) (fun _ t3 =>
    wpAny (model X.prog X.w) X.A (handleBy e X.env (h0 :: hds)) (SP X pins D) X.xe t3) X.xe t2) X.xe t1) (fun u t' xx => ?_) PassesOwn.looking).run [] s σ H D (I.toTry _) h) (fun fl t1 hsp => ?_) (fun e t1 he => he)
  · obtain ⟨a, B, sI, pins1, σ1, H1, cls, d, rfl, J0, nb, up, sky, na, os, ag, w⟩ := xx
    have J : Inv X pins σ1 H1 sI := J0.ofTry okX
    have sky1 : Sky B (X.env :: X.outer) a (Zc cls d) X.env.locals t'.heap := by rw [← hs]; exact sky
    show wpAny (model X.prog X.w) X.A (noteFrame (.ref a) X.env) _ _ _
    refine Sky.land Zc.steady frX hf sky1 fun q3 fl3 up3 => ?_
    have J3 : Inv X pins σ1 H1 { t' with heap := q3 } := J.landed nb fl3.1 (up.trans up3) os ag
    obtain ⟨oe3, vs3, he3, hz3, hd3⟩ := fl3.there
    have nfr : a ∉ frs (X.env :: X.outer) := fun hm => by
      obtain ⟨_, o1, e1, hnf⟩ := fl3.2.2.1.mem hm
      rw [he3] at e1; cases e1
      exact hnf _ hd3
    have nL : a ≠ X.env.locals := fun z => nfr (List.mem_filterMap.mpr ⟨X.env, List.mem_cons_self, hf.trans (congrArg some z.symm)⟩)
    have nF : a ∉ X.fs := fun hm => by
      obtain ⟨e1, h1, q⟩ := List.mem_filterMap.mp hm
      exact nfr (List.mem_filterMap.mpr ⟨e1, .tail _ h1, q⟩)
    have S3 := J3.suite he3 hd3 na nL nF
    have LT : PySem.W.Looks (model X.prog X.w) q3 (typeOf (.ref a)) cls := fun A Q E s k q => wpAny_typeOf_ref (k _ _ he3) (by rw [hz3.1]; exact q)
    have test : ∀ {x : Str} {c : Value} {np : Pos} {Q : Value → Shared → Prop} {E : Value → Shared → Prop}, Names X x c → Q c { t' with heap := q3 } → wpAny (model X.prog X.w) (X.A.mark (some (.ref a))) (eval (.Name x np) X.env) Q E { t' with heap := q3 } := fun {x c np Q E} hc q => by
      obtain ⟨g1, g2, g3⟩ := hc
      rcases g3 with g3 | ⟨g3, g4, g5⟩
      · exact ld_glob (X := X.suite a ((a, oe3) :: (X.pn ++ pins))) S3 g1 g3 q g2
      · exact ld_blt (X := X.suite a ((a, oe3) :: (X.pn ++ pins))) S3 g1 g3 g4 q g5 g2
    have go : ∀ {hs1 : List ExceptHandler} {l1 : List HdT}, HdsX X hs1 l1 → wHds X.K Wout D l1 cls d σ1 H1 → wpAny (model X.prog X.w) X.A (handleBy (.ref a) X.env hs1) (SP X pins D) X.xe { t' with heap := q3 } := by
      intro hs1 l1 hk
      induction hk with
      | nil =>
        intro w
        refine wpAny_handleBy_nil ?_
        obtain ⟨k1, k2, k3, oe, vs, T, oT, ts1, he, hz, hd, h1, hr⟩ := id fl3
        unfold PySem.passOn
        refine wpAny_bind (wpAny_field he hd h1 ?_)
        rw [if_neg (show ¬ ((Value.ref T == Value.none) = true) from by simp)]
        have fin : wpAny (model X.prog X.w) X.A (setFlight (.ref a) X.env.frame) (fun _ t4 => wpAny (model X.prog X.w) X.A (throw (.ref a) : Sem Flow) (SP X pins D) X.xe t4) X.xe { t' with heap := q3 } := by
          rw [hf]
          exact HandSPX.setFlight_upZ fl3 fun q4 hh4 up4 => wpAny_throw (tk _ _ ⟨a, B, sI, pins, σ1, H1, cls, d, rfl, J, nb, (up.trans up3).trans up4, .inr (.inr (by rw [hs]; exact hh4)), na, os, ag, w⟩)
        first
          | exact wpAny_bind (wpAny_pure (wpAny_bind fin))
          | exact wpAny_bind fin
      | @bare x c ts b0 su np pos1 hds2 l2 hc hsu r ih =>
        intro w
        obtain ⟨b, hb1, hyes, hno⟩ := w
        refine wpAny_handleBy_cons (codeAny_handlers_test ?_) (by intro q; cases q)
        refine test hc ((PySem.W.exm_one (M := model X.prog X.w) (J3.kIn) LT hb1).here ?_)
        cases b with
        | true =>
          refine codeAny_handlers_suite ?_
          refine HandSPX.lands_againZ fl3 fun q4 fl4 up4 => ?_
          have J4 : Inv X pins σ1 H1 { t' with heap := q4 } := J.landed nb fl4.1 ((up.trans up3).trans up4) os ag
          obtain ⟨oe4, vs4, he4, hz4, hd4⟩ := fl4.there
          have S4 := J4.suite he4 hd4 na nL nF
          refine wpAny_mono ((hsu a oe4 cls d (X.pn ++ pins) hz4 ⟨_, hd4⟩).run [] _ _ H1 _ S4 (hyes rfl a na)) (fun f t6 hsp => ?_) (fun _ _ z => z.elim)
          cases f with
          | ret u =>
            obtain ⟨v6, σ6, H6, S6, r6, q6⟩ := hsp
            exact ⟨_, _, _, S6.unsuite okX, r6, q6⟩
          | next => exact let ⟨σ6, H6, S6, q6⟩ := hsp; ⟨σ6, H6, S6.unsuite okX, q6⟩
          | brk => exact let ⟨σ6, H6, S6, q6⟩ := hsp; ⟨σ6, H6, S6.unsuite okX, q6⟩
          | cont => exact let ⟨σ6, H6, S6, q6⟩ := hsp; ⟨σ6, H6, S6.unsuite okX, q6⟩
        | false =>
          show wpAny _ X.A (handleBy (.ref a) X.env hds2) _ _ _
          exact ih (hno rfl)
      | @as_ x n i c ts b0 su np pos1 hds2 l2 hc hi hl hsu r ih =>
        intro w
        obtain ⟨b, hb1, hyes, hno⟩ := w
        refine wpAny_handleBy_cons (codeAny_handlers_test ?_) (by intro q; cases q)
        refine test hc ((PySem.W.exm_one (M := model X.prog X.w) (J3.kIn) LT hb1).here ?_)
        cases b with
        | true =>
          refine codeAny_handlers_suite_as ?_
          refine HandSPX.lands_againZ fl3 fun q4 fl4 up4 => ?_
          have J4 : Inv X pins σ1 H1 { t' with heap := q4 } := J.landed nb fl4.1 ((up.trans up3).trans up4) os ag
          obtain ⟨oe4, vs4, he4, hz4, hd4⟩ := fl4.there
          have S4 := J4.suite he4 hd4 na nL nF
          refine store_ok (X := X.suite a ((a, oe4) :: (X.pn ++ pins))) (v := .ref a) S4 hN hi (.inl hl) rfl (fun t5 S5 => ?_) (.inr hl)
          refine wpAny_mono ((hsu a oe4 cls d (X.pn ++ pins) hz4 ⟨_, hd4⟩).run [] t5 _ H1 _ S5 (hyes rfl a na)) (fun f t6 hsp => ?_) (fun _ _ z => z.elim)
          have out : ∀ {σ6 : L2.St} {H6 : Hp} {Q : Shared → Prop}, Inv (X.suite a ((a, oe4) :: (X.pn ++ pins))) [] σ6 H6 t6 → (∀ t7, Inv X pins (σ6.set i none) H6 t7 → Q t7) →
              wpAny (model X.prog X.w) X.A (do bindName X.env n .none; unbindBehindTheSuite X.env n pos1) (fun _ t7 => Q t7) X.xe t6 := fun {σ6 H6 Q} S6 hq => gone_ok (S6.unsuite okX) hN hi hl hq
          cases f with
          | ret u =>
            obtain ⟨v6, σ6, H6, S6, r6, q6⟩ := hsp
            exact out S6 fun t7 J7 => ⟨_, _, _, J7, r6, q6⟩
          | next => exact let ⟨σ6, H6, S6, q6⟩ := hsp; out S6 fun t7 J7 => ⟨_, _, J7, q6⟩
          | brk => exact let ⟨σ6, H6, S6, q6⟩ := hsp; out S6 fun t7 J7 => ⟨_, _, J7, q6⟩
          | cont => exact let ⟨σ6, H6, S6, q6⟩ := hsp; out S6 fun t7 J7 => ⟨_, _, J7, q6⟩
        | false =>
          show wpAny _ X.A (handleBy (.ref a) X.env hds2) _ _ _
          exact ih (hno rfl)
    exact go hh w
  · cases fl with
    | ret u => exact let ⟨v, σ1, H1, J1, r, q⟩ := hsp; ⟨v, σ1, H1, J1.ofTry okX, r, q⟩
    | next => exact let ⟨σ1, H1, J1, q⟩ := hsp; wpAny_execs_nil ⟨σ1, H1, J1.ofTry okX, q⟩
    | brk => exact let ⟨σ1, H1, J1, q⟩ := hsp; ⟨σ1, H1, J1.ofTry okX, q⟩
    | cont => exact let ⟨σ1, H1, J1, q⟩ := hsp; ⟨σ1, H1, J1.ofTry okX, q⟩
end
end DL
namespace DL
open PySem PySem.Spec PyProof.Rows L2

/-- a clause: the classes it takes, those it lets pass, its name's slot, what its suite does -/
structure Hd where
  yes : List Addr
  no : List Addr
  i : Option Nat
  su : ExV → SF
def clr : Option Nat → Env → Env
  | none, E => E
  | some i, E => E.set i .no
def fits : Option Nat → Env → Bool
  | none, _ => true
  | some i, E => decide (i < E.length)
def goH : List Hd → ExV → Env → Res (Fl × Env)
  | [], x, E => .err x E
  | h :: r, x, E => if x.cls ∈ h.no then goH r x E else if x.cls ∈ h.yes ∧ fits h.i E = true then (noErr (h.su x (clr h.i E))).bind fun p => .ok (p.1, clr h.i p.2) else .stuck
def sTry (fb : SF) (hs : List Hd) : SF := fun E => match fb E with
  | .ok p => .ok p
  | .err x E' => goH hs x E'
  | .stuck => .stuck
/-- what is known of the exception within its suite -/
def XH (K : PySem.W.Frag) (i : Option Nat) (a : Addr) (cls : Value) (d : Option Addr) (σ : L2.St) (G H : Hp) (x : ExV) : Prop := (∀ j, i = some j → σ[j]? = some (some (.ref a))) ∧ Same G H ∧ ExOk K G x cls d
theorem ExOk.up {K : PySem.W.Frag} {G G' : Hp} {x : ExV} {c : Value} {d : Option Addr} (s : Same G G') (h : ExOk K G x c d) : ExOk K G' x c d := by
  obtain ⟨h1, h2⟩ := h
  refine ⟨h1, ?_⟩
  cases d with
  | none => exact h2
  | some d => obtain ⟨fs, e, q⟩ := h2; exact ⟨fs, s _ _ e, q.up s⟩
theorem XH.up {K : PySem.W.Frag} {i : Option Nat} {a : Addr} {cls : Value} {d : Option Addr} {σ : L2.St} {G H G' H' : Hp} {x : ExV} (al : Al G H G' H') (h : XH K i a cls d σ G H x) : XH K i a cls d σ G' H' x := ⟨h.1, al.s, h.2.2.up al.g⟩
def tSu (K : PySem.W.Frag) (i : Option Nat) (su : ExV → SF) (a : Addr) (cls : Value) (d : Option Addr) : TS := fun Dn σ H => ∃ F G E as x, StE K F G H σ E as ∧ XH K i a cls d σ G H x ∧ PoS K W0 F G Dn (su x E)
/-- a suite: whatever the exception -/
def DSu (X : Cx) (i : Option Nat) (suite : List Stmt) (su : ExV → SF) : Prop := ∀ (a : Addr) (oe : Obj) (cls : Value) (d : Option Addr) (pn : List (Addr × Obj)), Zc cls d oe → (∃ vs, oe.data = .fields vs) → PSs (X.suite a ((a, oe) :: pn)) suite (tSu X.K i su a cls d)
inductive HdsD (X : Cx) : List ExceptHandler → List Value → List Hd → Prop
  | nil : HdsD X [] [] []
  | bare {x : Str} {c : Value} {yes no : List Addr} {su : ExV → SF} {b : Stmt} {ss : List Stmt} {np pos' : Pos} {hds : List ExceptHandler} {cs : List Value} {l : List Hd} (hc : Names X x c)
      (hy : ∀ C ∈ yes, PySem.W.exmOne X.K (.ref C) c = some true) (hn : ∀ C ∈ no, PySem.W.exmOne X.K (.ref C) c = some false) (hsu : DSu X none (b :: ss) su) (r : HdsD X hds cs l) :
      HdsD X (.ExceptHandler (some (.Name x np)) none (b :: ss) pos' :: hds) (c :: cs) (⟨yes, no, none, su⟩ :: l)
  | as_ {x n : Str} {i : Nat} {c : Value} {yes no : List Addr} {su : ExV → SF} {b : Stmt} {ss : List Stmt} {np pos' : Pos} {hds : List ExceptHandler} {cs : List Value} {l : List Hd} (hc : Names X x c) (hi : X.N[i]? = some n) (hl : X.env.kindOf n = some .local)
      (hy : ∀ C ∈ yes, PySem.W.exmOne X.K (.ref C) c = some true) (hn : ∀ C ∈ no, PySem.W.exmOne X.K (.ref C) c = some false) (hsu : DSu X (some i) (b :: ss) su) (r : HdsD X hds cs l) :
      HdsD X (.ExceptHandler (some (.Name x np)) (some n) (b :: ss) pos' :: hds) (c :: cs) (⟨yes, no, some i, su⟩ :: l)
def hdT (K : PySem.W.Frag) : List Value → List Hd → List HdT
  | c :: cs, h :: l => (c, h.i, fun a cls d => tSu K h.i h.su a cls d) :: hdT K cs l
  | _, _ => []
theorem HdsD.x {X : Cx} {hds : List ExceptHandler} {cs : List Value} {l : List Hd} (h : HdsD X hds cs l) : HdsX X hds (hdT X.K cs l) := by
  induction h with
  | nil => exact .nil
  | bare hc hy hn hsu r ih => exact .bare hc (fun a oe cls d pn hz hf => hsu a oe cls d pn hz hf) ih
  | as_ hc hi hl hy hn hsu r ih => exact .as_ hc hi hl (fun a oe cls d pn hz hf => hsu a oe cls d pn hz hf) ih
section
variable {K : PySem.W.Frag} {Wi : Wish} {F : Fr} {G G' H' : Hp} {Dn : Ends} {σ' : L2.St} {E' : Env} {as' : Nat → List Addr} {x : ExV} {c : Value} {dx : Option Addr}
/-- the suite's end is the try's -/
theorem suite_end {i : Option Nat} {su : ExV → SF} (hw : PoS K Wi F G Dn ((noErr (su x (clr i E'))).bind fun p => .ok (p.1, clr i p.2))) (s : Same G G') (st : StE K F G' H' σ' E' as') (hf : fits i E' = true) (xo : ExOk K G' x c dx) (a : Addr) :
    tSu K i su a c dx (inSlot i Dn) (putSlot a i σ') H' := by
  obtain ⟨as2, st0⟩ : ∃ as2, StE K F G' H' (putSlot a i σ') (clr i E') as2 := by
    cases i with
    | none => exact ⟨_, st⟩
    | some i => exact ⟨_, st.setN⟩
  refine ⟨F, G', clr i E', as2, x, st0, ⟨fun j hj => ?_, st.s1, xo⟩, ?_⟩
  · subst hj
    have hl : j < E'.length := of_decide_eq_true hf
    exact List.getElem?_set_self (by rw [st.len]; exact hl)
  · have back : ∀ {σ2 : L2.St} {G2 H2 : Hp} {E2 : Env} {as2 : Nat → List Addr}, StE K F G2 H2 σ2 E2 as2 → (i = none ∧ clr i E2 = E2) ∨ ∃ j, i = some j ∧ ∃ as3, StE K F G2 H2 (σ2.set j none) (clr i E2) as3 := fun {σ2 G2 H2 E2 as2} st2 => by
      cases i with
      | none => exact .inl ⟨rfl, rfl⟩
      | some j => exact .inr ⟨j, rfl, _, st2.setN⟩
    have hw := PoS.up s hw
    generalize su x (clr i E') = r at hw ⊢
    match r, hw with
    | .ok (.nx, E2), hw =>
      intro σ2 G2 H2 as2 s2 st2
      rcases back st2 with ⟨rfl, e⟩ | ⟨j, rfl, as3, st3⟩
      · exact hw σ2 G2 H2 as2 s2 st2
      · exact hw _ G2 H2 as3 s2 st3
    | .ok (.bk, E2), hw =>
      intro σ2 G2 H2 as2 s2 st2
      rcases back st2 with ⟨rfl, e⟩ | ⟨j, rfl, as3, st3⟩
      · exact hw σ2 G2 H2 as2 s2 st2
      · exact hw _ G2 H2 as3 s2 st3
    | .ok (.ct, E2), hw =>
      intro σ2 G2 H2 as2 s2 st2
      rcases back st2 with ⟨rfl, e⟩ | ⟨j, rfl, as3, st3⟩
      · exact hw σ2 G2 H2 as2 s2 st2
      · exact hw _ G2 H2 as3 s2 st3
    | .ok (.rt d, E2), hw =>
      intro v σ2 G2 H2 as2 s2 st2 dd
      rcases back st2 with ⟨rfl, e⟩ | ⟨j, rfl, as3, st3⟩
      · exact hw v σ2 G2 H2 as2 s2 st2 dd
      · exact hw v _ G2 H2 as3 s2 st3 dd
    | .err y E2, hw => exact hw.elim
    | .stuck, hw => exact hw.elim
theorem goH_of {X : Cx} {hds : List ExceptHandler} {cs : List Value} {l : List Hd} (hh : HdsD X hds cs l) (hw : PoS X.K Wi F G Dn (goH l x E')) (s : Same G G') (st : StE X.K F G' H' σ' E' as') (xo : ExOk X.K G' x c dx) : wHds X.K (wxOf Wi) Dn (hdT X.K cs l) c dx σ' H' := by
  induction hh with
  | nil => exact hw c dx σ' G' H' as' s st xo
  | @bare nm cv yes no su b ss np pos' hds cs l hc hy hn hsu r ih =>
    have hw : PoS X.K Wi F G Dn (if x.cls ∈ no then goH l x E' else if x.cls ∈ yes ∧ fits none E' = true then (noErr (su x (clr none E'))).bind fun p => .ok (p.1, clr none p.2) else .stuck) := hw
    have ec : c = .ref x.cls := xo.1
    by_cases h1 : x.cls ∈ no
    · rw [if_pos h1] at hw
      exact ⟨false, by rw [ec]; exact hn _ h1, (fun z => by cases z), fun _ => ih hw⟩
    · rw [if_neg h1] at hw
      by_cases h2 : x.cls ∈ yes ∧ fits none E' = true
      · rw [if_pos h2] at hw
        exact ⟨true, by rw [ec]; exact hy _ h2.1, fun _ a _ => suite_end (i := none) hw s st rfl xo a, (fun z => by cases z)⟩
      · rw [if_neg h2] at hw; exact hw.elim
  | @as_ nm n i cv yes no su b ss np pos' hds cs l hc hi hl hy hn hsu r ih =>
    have hw : PoS X.K Wi F G Dn (if x.cls ∈ no then goH l x E' else if x.cls ∈ yes ∧ fits (some i) E' = true then (noErr (su x (clr (some i) E'))).bind fun p => .ok (p.1, clr (some i) p.2) else .stuck) := hw
    have ec : c = .ref x.cls := xo.1
    by_cases h1 : x.cls ∈ no
    · rw [if_pos h1] at hw
      exact ⟨false, by rw [ec]; exact hn _ h1, (fun z => by cases z), fun _ => ih hw⟩
    · rw [if_neg h1] at hw
      by_cases h2 : x.cls ∈ yes ∧ fits (some i) E' = true
      · rw [if_pos h2] at hw
        exact ⟨true, by rw [ec]; exact hy _ h2.1, fun _ a _ => suite_end (i := some i) hw s st h2.2 xo a, (fun z => by cases z)⟩
      · rw [if_neg h2] at hw; exact hw.elim
end
theorem ds_try {X : Cx} {Wi : Wish} {body : List Stmt} {h0 : ExceptHandler} {hds : List ExceptHandler} {cs : List Value} {l : List Hd} {pos : Pos} {fb : SF} (hs : X.stack = X.env :: X.outer) (hf : X.env.frame = some X.env.locals) (hN : X.N.Nodup) (tk : Takes X (wxOf Wi))
    (hb : ∀ (Wb : Wish) (pn : List (Addr × Obj)) (xe : Value → Shared → Prop), Takes (X.tr pn xe) (wxOf Wb) → PassesOwn (model X.prog X.w) X.A X.env xe → DSs (X.tr pn xe) Wb body fb)
    (hh : HdsD X (h0 :: hds) cs l) : DS X Wi (.Try body (h0 :: hds) [] [] pos) (sTry fb l) :=
  PS.imp (ps_try_hds (tb := fun W => tS X.K (fun σ c d H => W c d σ H) fb) hs hf hN tk (fun W pn xe tk' hp => hb (fun σ c d H => W c d σ H) pn xe tk' hp) hh.x) fun Dn σ H q => by
    obtain ⟨F, G, E, as, st, p⟩ := q
    refine ⟨F, G, E, as, st, ?_⟩
    have p : PoS X.K Wi F G Dn (match fb E with
      | .ok p => .ok p
      | .err x E' => goH l x E'
      | .stuck => .stuck) := p
    generalize fb E = r at p ⊢
    match r, p with
    | .ok (.nx, E2), p => exact p
    | .ok (.bk, E2), p => exact p
    | .ok (.ct, E2), p => exact p
    | .ok (.rt d, E2), p => exact p
    | .err x E2, p => exact fun c dx σ' G' H' as' s st xo => goH_of hh p s st xo

def suPl (fb : SF) : ExV → SF := fun _ => fb
theorem all_nil {p : Addr → Prop} : ∀ C ∈ ([] : List Addr), p C := fun _ h => by cases h
theorem all_cons {p : Addr → Prop} {a : Addr} {l : List Addr} (h : p a) (r : ∀ C ∈ l, p C) : ∀ C ∈ a :: l, p C := fun C hC => by
  rcases List.mem_cons.mp hC with e | hC
  · rw [e]; exact h
  · exact r C hC
/-- a class of the program in a clause -/
theorem exm_own {K : PySem.W.Frag} {C : Addr} {v : Value} {b : Bool} (T : ExCls K C) (h : PySem.W.subIn K v (.ref C) = some b) : PySem.W.exmOne K v (.ref C) = some b := PySem.W.exm_ref T.ex T.hd T.ty h
/-- a suite that does not ask of the exception -/
theorem su_plain {X : Cx} {i : Option Nat} {ss : List Stmt} {fb : SF} (h : ∀ (a : Addr) (q : Addr × Obj) (pn : List (Addr × Obj)), DSs (X.suite a (q :: pn)) W0 ss fb) : DSu X i ss (suPl fb) := fun a oe cls d pn _ _ =>
  PSs.imp (h a (a, oe) pn) fun Dn σ H q => by
    obtain ⟨F, G, E, as, x, st, xh, p⟩ := q
    exact ⟨F, G, E, as, st, p⟩
section
variable {X : Cx} {i : Option Nat} {e c b : Expr} {es : List Expr} {g gc gb : ExV → Option D} {gs : ExV → Option (List D)} {pos p : Pos}
/-- what isinstance asks of an exception's class -/
structure ExIs (K : PySem.W.Frag) (C : Addr) : Prop where
  ca : PySem.W.findIn K (.ref C) "__class__" = some (some (.builtin "object.__class__"))
  cn : PySem.W.specialIn K (.builtin "object.__class__") "__get__" = some (some (.builtin "getset_descriptor.__get__"))
  ct : PySem.W.takesIn K (.builtin "object.__class__") = some true
  mo : PySem.W.mroIn K C (.type "object") = some true
end
end DL
namespace DL
open PySem PySem.Spec PyProof.Rows L2 TL

section
variable {M : Model} {A : Around} {E : Value → Shared → Prop} {s : Shared} {Q : Value → Shared → Prop}
end

section
variable {X : Cx} {Wi : Wish}
end

section
variable {X : Cx} {Wi : Wish} {e e1 o : Expr} {es : List Expr} {te : TE} {ta : TA} {f fo : EF} {fs : AF} {y z : Str} {j k : Nat} {c0 c1 apos pos : Pos}
end

end DL
namespace DL
open PySem PySem.Spec PyProof.Rows L2 TL
section
variable {X : Cx} {CX : CXT} {k n : Nat} {f C : Addr} {fd : FuncData} {ps ks : List Str} {Wi : Wish} {x m : Str} {p pos apos kpos : Pos} {e o : Expr} {es : List Expr} {kws : List Keyword} {fs fk : AF} {fo : EF} {fm : List D → Res (List (Str × D))} {gm : List D → Res D} {sp : Sp}
end

def spC (K : PySem.W.Frag) (C : Addr) (n : Nat) (fm : List D → Res D) : Sp := fun vs H Q E => ∃ vr, vs = .ref C :: vr ∧ spP K n fm vr H Q E
theorem StE.startC {K : PySem.W.Frag} {G H : Hp} {N : List Str} {vs : List V} {ds : List D} {n : Nat} {C : Addr} (s : Same G H) (dd : DDs K G vs ds) (hn : ds.length + 1 + n = N.length) :
    StE K ⟨H, G, []⟩ G H (L2.start N (.ref C :: vs)) (.cls C :: ds.map .dat ++ nos n) fun _ => [] := by
  have hl : vs.length = ds.length := dd.len
  refine ⟨?_, Same.refl _, s, fun _ _ h _ => h, fun _ h => h, fun _ _ h _ _ _ => h, fun i c e => ?_, fun _ _ _ h => (by cases h), fun _ _ h => (by cases h), fun _ _ => rfl⟩
  · rw [start_len (by simp only [List.length_cons]; omega), List.length_append, List.length_cons, List.length_map]; unfold nos; rw [List.length_replicate]; omega
  · cases i with
    | zero =>
      cases e
      exact ⟨_, start_get (v := .ref C) rfl, rfl, rfl⟩
    | succ i =>
      have e : (ds.map Cell.dat ++ nos n)[i]? = some c := e
      by_cases hi : i < ds.length
      · rw [List.getElem?_append_left (by simpa using hi)] at e
        obtain ⟨v, d, e1, rfl, dd'⟩ := dd.cell e
        exact ⟨_, start_get (v := v) e1, rfl, v, rfl, dd'⟩
      · rw [List.getElem?_append_right (by simpa using hi)] at e
        have hc : c = .no := by
          unfold nos at e
          rw [List.getElem?_replicate] at e
          split at e
          · exact (Option.some.inj e).symm
          · cases e
        subst hc
        have hb : i + 1 < N.length := by
          have := (List.getElem?_eq_some_iff.mp e).1
          unfold nos at this
          rw [List.length_replicate, List.length_map] at this; omega
        exact ⟨_, List.getElem?_eq_getElem (by rw [start_len (by simp only [List.length_cons]; omega)]; exact hb), rfl⟩
def runC (fb : SF) (n : Nat) (C : Addr) (ds : List D) : Res D := outF (fb (.cls C :: ds.map .dat ++ nos n))
section
variable {P : Program} {w : World} {K : PySem.W.Frag} {mg : Str → Option Value} {base : Heap} {k : Nat} {f : Addr} {fd : FuncData} {ps N : List Str} {x qual : Str} {st : Stmt} {fb : SF}
theorem fn_CX {C : Addr} (F : Fun K x qual st f fd) (S : FnScope N ps (defScope st)) (m n : Nat) (hm : m + 1 = ps.length) (hn : ps.length + n = N.length)
    (hb : ∀ (cdv : Value) (A : Around) (outer : List PySem.Env) (s : Shared) (H : Hp) (E : XK), A.guards = some [] → Room k (A.deeper (envOfC qual (defScope st) s.heap.objs.size f cdv)) →
      Takes (cxOf (L2.CX P w) P w K mg base N qual (defScope st) f cdv A outer s H E) (wxOf (WiX E)) →
      DSs (cxOf (L2.CX P w) P w K mg base N qual (defScope st) f cdv A outer s H E) (WiX E) (defBody st) fb) : FnG P w K mg base (L2.CX P w) (k + 1) f fd ps (spC K C m fun ds => runC fb n C ds) := by
  refine FnG.body F S (fun vs H Q E h => ?_) fun cdv A outer s H vs Q E hg hr hsp => ?_
  · obtain ⟨vr, rfl, G, ds, sm, dd, hl, q⟩ := h
    rw [List.length_cons, dd.len, hl]; exact hm
  obtain ⟨vr, rfl, G, ds, sm, dd, hl, q⟩ := hsp
  refine ⟨_, hb cdv A outer s H E hg hr (takes_of rfl rfl rfl rfl), ⟨H, G, []⟩, G, _, _, StE.startC sm dd (n := n) (by omega), ?_⟩
  have al : ∀ {σ' : L2.St} {G' H' : Hp} {as' : Nat → List Addr} {E' : Env}, Same G G' → StE K ⟨H, G, []⟩ G' H' σ' E' as' → Al G H G' H' := fun {σ' G' H' as' E'} s1 st1 =>
    ⟨s1, fun b o h => st1.keep b o h (fun z => by cases z), st1.s1, fun b o h e hb => (by
      cases ht : isT o with
      | true => rfl
      | false => exact absurd e (st1.priv b o h hb ht (fun z => by cases z)))⟩
  have q : (match outF (fb (.cls C :: ds.map .dat ++ nos n)) with
    | .ok d => Rz K G H Q d
    | .err x _ => ∀ c dx G' H', Al G H G' H' → ExOk K G' x c dx → E c dx H'
    | .stuck => False) := q
  show PoS K (WiX E) ⟨H, G, []⟩ G _ (fb (.cls C :: ds.map .dat ++ nos n))
  generalize fb (.cls C :: ds.map .dat ++ nos n) = r at q ⊢
  match r, q with
  | .ok (.rt d, E'), q => exact fun v σ' G' H' as' s1 st1 dd1 => q v G' H' (al s1 st1) dd1
  | .ok (.nx, E'), q => exact fun σ' G' H' as' s1 st1 => q .non G' H' (al s1 st1) .non
  | .ok (.bk, E'), q => exact q.elim
  | .ok (.ct, E'), q => exact q.elim
  | .err x E', q => exact fun c dx σ' G' H' as' s1 st1 xo => q c dx G' H' (al s1 st1) xo
end
section
variable {X : Cx} {CX : CXT} {k n i : Nat} {f g C q0 : Addr} {mc : Value} {fd : FuncData} {ps ks : List Str} {Wi : Wish} {x m : Str} {p pos apos kpos : Pos} {e o : Expr} {es : List Expr} {kws : List Keyword} {fs fk : AF} {fo : EF} {fm : List D → Res (List (Str × D))} {gm : List D → Res D} {sp : Sp}
def clsAt (E : Env) (i : Nat) (C : Addr) : Option Unit := match E[i]? with
  | some (.cls C') => if C' = C then some () else none
  | _ => none
theorem clsAt_ok {E : Env} {u : Unit} (h : clsAt E i C = some u) : E[i]? = some (.cls C) := by
  unfold clsAt at h
  split at h
  · rename_i C' e
    by_cases z : C' = C
    · rw [e, z]
    · rw [if_neg z] at h; cases h
  · cases h
/-- cls(e, ..) in a classmethod -/
def nMkC (i : Nat) (C : Addr) (n : Nat) (fm : List D → Res (List (Str × D))) (fs : AF) : NF := fun E => (ofO (clsAt E i C)).bind fun _ => nMk C n fm fs E
theorem dn_mkC (M : Mk X.K C f) (F : FnG X.prog X.w X.K X.mg X.base CX k f fd ps (spI X.K n C fm)) (hg : X.A.guards = some []) (hr : Room (k + 1) X.A) (hN : X.N[i]? = some x) (hv : Vis X.env.scope x) (hb : Binds X.K fd ps []) (hx : PassW CX X Wi) (ha : DA X Wi (e :: es) fs)
    (hdb : (x == ("__debug__" : Str)) = false := by decide) (hcd : (x == ("__classdict__" : Str)) = false := by decide) (he : starEach (e :: es) X.env = (false, eval e X.env) :: starEach es X.env := by rfl) (hpl : (backTo pos (starEach es X.env)).any (·.1) = false := by rfl) :
    DN X Wi (.Call (.Name x p) (e :: es) [] pos) (nMkC i C n fm fs) := by
  refine ⟨fun pins s σ H Q I q => ?_⟩
  obtain ⟨F0, G, E, as, st, pq⟩ := q
  obtain ⟨u, e0, pq⟩ := PoN.of pq
  obtain ⟨v, hv1, _, hv2⟩ := st.cell i _ (clsAt_ok e0)
  subst hv2
  refine wpAny_Call_Name_kw (thn ((pe_var (pos := p) hN hv hdb hcd).run pins s σ H (fun v H1 => v = .ref C ∧ H1 = H) I ⟨.ref C, hv1, rfl, rfl⟩) fun u s0 z => ?_)
  obtain ⟨v, H0, I0, r0, e1, e2⟩ := z
  subst e1
  subst e2
  cases r0
  refine PySem.W.callWith_K (h₀ := X.base) I0.ok.mod.kin M.kp (thn (ha.run pos pins s0 σ H0 _ I0 ⟨F0, G, E, as, st, PoA.bindN pq⟩) fun us s1 ⟨vs, H1, I1, r, m⟩ => ⟨I1.kIn, ?_⟩) he hpl
  obtain ⟨ws, G1, E1, as1, s1', st1, wo1, p1⟩ := m
  obtain ⟨ds, e1, p1⟩ := PoN.of p1
  by_cases hn : ds.length = n
  · rw [if_pos hn] at p1
    exact run_M M F hg hr hb hx I1 r (mk_of st1 (dats_ok wo1 e1) hn p1)
  · rw [if_neg hn] at p1; exact p1.elim
theorem run_cmG {pins : List (Addr × Obj)} {σ : L2.St} {H : Hp} {s : Shared} {Q : VK} {us us' : List Value} {kw : List (Str × Value)} {vs : List V} (F : FnG X.prog X.w X.K X.mg X.base CX k g fd ps (spC X.K C n gm)) (hg : X.A.guards = some []) (hr : Room k X.A) (hb : BindsTo s fd ⟨.ref C :: us, kw⟩ (ps.zip (.ref C :: us'))) (hx : PassW CX X Wi)
    (I : Inv X ((q0, PySem.W.methodObj (.ref g) (.ref C)) :: pins) σ H s) (r : Vals vs us') (h : spP X.K n gm vs H Q (Wi σ)) : wpAny (model X.prog X.w) X.A (call (.ref q0) us kw) (EP X pins σ Q) X.xe s := by
  have z : wpAny (model X.prog X.w) X.A (call (.ref q0) us kw) (EP X ((q0, PySem.W.methodObj (.ref g) (.ref C)) :: pins) σ Q) X.xe s :=
    code_call (PySem.W.method_call (ClX.pin_at I) (call_go (vs := .ref C :: vs) F hg hr hx I hb (.cons rfl r) ⟨vs, rfl, h⟩))
  exact thn z fun _ _ y => ClX.unpinE y
/-- C.m(e, ..), m a classmethod -/
theorem de_CM {pl : Sem Bool} (cr : ClX.CRead X.K C mc) (c : ClX.CMet X.K C mc m q0 g) (F : FnG X.prog X.w X.K X.mg X.base CX k g fd ps (spC X.K C n gm)) (hg : X.A.guards = some []) (hr : Room k X.A) (gl : Gl X x) (hm : X.mg x = some (.ref C)) (hb : Binds X.K fd ps []) (hx : PassW CX X Wi) (ha : DA X Wi (e :: es) fs)
    (hdb : (x == ("__debug__" : Str)) = false := by decide) (he : starEach (e :: es) X.env = (false, eval e X.env) :: starEach es X.env := by rfl) (hpl : (backTo pos (starEach es X.env)).any (·.1) = false := by rfl)
    (ht : eval (.Call (.Attribute (.Name x p) m apos) (e :: es) [] pos) X.env = (do
      let ov ← eval (.Name x p) X.env
      standAt apos.atName
      let (f, first) ← holding [ov] (getMethod ov m pl)
      callWith pos f first (backTo pos (starEach (e :: es) X.env)) (backToKw pos (keywordEach [] X.env))) := by rfl) :
    DE X Wi (.Call (.Attribute (.Name x p) m apos) (e :: es) [] pos) (eF n gm fs) := by
  refine ⟨fun pins s σ H Q I q => ?_⟩
  refine PySem.W.methodCall_KW (pl := pl) (ld_glob I gl hm ?_ hdb) ht
  refine ClX.getmethcm_ok I cr c fun s2 I2 => ?_
  refine ClX.callwith_cm I2 (ClX.base_none I (Nat.le_refl _)) c.fi (thn (ha.run pos _ s2 σ H _ I2 (tCallG_of σ H Q q)) fun us s3 ⟨vs, H2, I3, rv, q2⟩ => ⟨⟨ClX.pin_at I3, I3.kIn⟩, ?_⟩) he hpl
  have hl : (Value.ref C :: us).length = ps.length := by
    have z : spC X.K C n gm (.ref C :: vs) H2 Q (Wi σ) := ⟨vs, rfl, q2⟩
    have l := F.len _ _ _ _ z
    rw [List.length_cons] at l ⊢
    rw [← rv.length]; exact l
  have b := hb s3 (Value.ref C :: us) I3.kIn (by rw [List.append_nil]; exact hl)
  rw [List.append_nil] at b
  exact run_cmG F hg hr b hx I3 rv q2
end
end DL
namespace DL
open PySem PySem.Spec PyProof.Rows L2 TL
section
variable {X : Cx} {CX : CXT} {Wi : Wish} {a b : Expr} {fa fb : EF} {pos : Pos} {n : Nat} {C f : Addr} {fd : FuncData} {ps : List Str} {ts : List String} {gm : List D → Res D}
end
end DL
namespace DL
open PySem PySem.Spec PyProof.Rows L2 TL
section
variable {X : Cx} {Wi : Wish} {e : Expr} {fe : EF} {pos : Pos}
inductive DJ (X : Cx) (Wi : Wish) : List Expr → List EF → Prop where
  | nil : DJ X Wi [] []
  | cons {e : Expr} {f : EF} {es : List Expr} {fs : List EF} (h : DE X Wi e f) (r : DJ X Wi es fs) : DJ X Wi (e :: es) (f :: fs)
end
section
variable {X : Cx} {CX : CXT} {Wi : Wish} {a b : Expr} {fa fb : EF} {pos : Pos} {n : Nat} {C f : Addr} {fd : FuncData} {ps : List Str} {ts : List String} {oc : List Addr} {gm : List D → Res D}
end
end DL
namespace DL
open PySem PySem.Spec PyProof.Rows L2 TL
theorem DDs.set {K : PySem.W.Frag} {G : Hp} {v : V} {d : D} (h : DD K G v d) : ∀ {vs : List V} {ds : List D} (n : Nat), DDs K G vs ds → DDs K G (vs.set n v) (ds.set n d)
  | _, _, _, .nil => .nil
  | _, _, 0, .cons _ b => .cons h b
  | _, _, n + 1, .cons a b => .cons a (DDs.set h n b)
end DL
namespace DL
open PySem PySem.Spec PyProof.Rows L2 TL
end DL
namespace DL
open PySem PySem.Spec PyProof.Rows L2 TL
def gAddL : D → D → Option D
  | .lst x, .lst y => gAdd (.lst x) (.lst y)
  | _, _ => none
theorem opn_addL {K : PySem.W.Frag} : OpN K (rAddA K) gAddL := by
  intro G H x y a b d Q s ha hb e z
  cases a with
  | lst i =>
    cases b with
    | lst j =>
      obtain ⟨hl, rfl⟩ := ifs_some (show (if i.length + j.length ≤ sizeLine then some (D.lst (i ++ j)) else none) = some d from e)
      obtain ⟨p, vs, rfl, h1, z1, d1⟩ := ha.lst s
      obtain ⟨q, ws, rfl, h2, z2, d2⟩ := hb.lst s
      have hl' : vs.length + ws.length ≤ sizeLine := by rw [d1.len, d2.len]; exact hl
      exact .inr (.inr (.inl ⟨p, q, vs, ws, rfl, rfl, h1, h2, hl', fun r hr => z r _ hr (Al.one s hr).h ⟨_, upd_same, by rw [List.length_append]; exact hl', d1.app d2⟩⟩))
    | _ => cases e
  | _ => cases e
end DL
namespace DL
open PySem PySem.Spec PyProof.Rows L2 TL
section
variable {X : Cx} {Wi : Wish} {e se : Expr} {te tse : TE} {p3 pos : Pos} {fe : EF}
end
end DL
namespace DL
open PySem PySem.Spec PyProof.Rows L2 TL
section
variable {X : Cx} {CX : CXT} {Wi : Wish} {a b : Expr} {fa fb : EF} {pos : Pos} {n : Nat} {C f : Addr} {fd : FuncData} {ps : List Str} {ts : List String} {cs : List Addr} {gm : List D → Res D}
end
end DL
namespace DL
open PySem PySem.Spec PyProof.Rows L2 TL
section
variable {prog : Program} {w : World} {A : Around} {E : Value → Shared → Prop} {s : Shared} {z TI TO T i1 i2 : Addr} {fp1 fp2 : List Addr} {n1 n2 i : Nat} {P1 P2 : Nat → Value → Prop} {St1 St2 : Nat → Heap → Prop} {f : Bool} {oT : Obj}
end
section
variable {prog : Program} {w : World}
end
end DL
namespace DL
open PySem PySem.Spec PyProof.Rows L2 TL
/-- how an iterator draws, whatever is around -/
structure DrawnA (prog : Program) (w : World) (K : PySem.W.Frag) (G H : Hp) (h0 : Heap) (ds : List D) (it : Addr) where
  fp : List Addr
  P : Nat → Value → Prop
  St : Nat → Heap → Prop
  draws : ∀ A : Around, A.handled = none → Draws prog w A it fp ds.length P St
  mem : it ∈ fp
  old : ∀ b ∈ fp, b = it ∨ H b ≠ none
  item : ∀ i u, P i u → ∃ v d, ds[i]? = some d ∧ RelV v u ∧ DD K G v d
  there : ∀ b ∈ fp, ∃ o, h0.get? b = some o
/-- a list or a tuple: the values it holds -/
structure DrawnV (prog : Program) (w : World) (K : PySem.W.Frag) (G H : Hp) (h0 : Heap) (ds : List D) (it : Addr) where
  fp : List Addr
  its : List Value
  vs : List V
  St : Nat → Heap → Prop
  draws : ∀ A : Around, A.handled = none → Draws prog w A it fp ds.length (fun i u => its[i]? = some u) St
  mem : it ∈ fp
  old : ∀ b ∈ fp, b = it ∨ H b ≠ none
  vals : Vals vs its
  data : DDs K G vs ds
  there : ∀ b ∈ fp, ∃ o, h0.get? b = some o
theorem DDs.all {K : PySem.W.Frag} {G : Hp} : ∀ {vs : List V} {ds : List D}, DDs K G vs ds → ∀ d ∈ ds, ∃ v, DD K G v d
  | _, _, .nil, d, h => nomatch h
  | _, _, .cons a b, d, h => by
    rcases List.mem_cons.mp h with e | h
    · exact ⟨_, by rw [e]; exact a⟩
    · exact DDs.all b d h
theorem SrcOk.all {K : PySem.W.Frag} {G : Hp} {ds : List D} : ∀ {k : Src}, SrcOk K G ds k → ∀ d ∈ ds, ∃ v, DD K G v d
  | .li a, ⟨vs, g, z, q⟩ => q.all
  | .tu a, ⟨vs, g, z, q⟩ => q.all
  | .tx x t, ⟨ok, e⟩ => fun d hd => by
    rw [e] at hd
    obtain ⟨c, hc, rfl⟩ := List.mem_map.mp hd
    exact ⟨.str (sgn c), .str _ (sok_sgn ok hc)⟩
end DL
namespace DL
open PySem PySem.Spec PyProof.Rows L2 TL
section
variable {prog : Program} {w : World} {A : Around} {E : Value → Shared → Prop} {s : Shared} {K : Type} [DecidableEq K] {knd : KeyKind prog w K}
end
section
variable {X : Cx} {Wi : Wish} {e1 e2 : Expr} {t1 t2 : TE} {pos : Pos} {f1 f2 : EF}
end
end DL
namespace DL
open PySem PySem.Spec PyProof.Rows L2 TL
abbrev row3 (q : Addr) (m d : Int) : List (Key × V) := [(.inr "left", .ref q), (.inr "mixed", .int m), (.inr "draws", .int d)]
theorem k3_lm : ¬ ((Sum.inr "left" : Key) = .inr "mixed") := by decide +kernel
theorem k3_ld : ¬ ((Sum.inr "left" : Key) = .inr "draws") := by decide +kernel
theorem k3_md : ¬ ((Sum.inr "mixed" : Key) = .inr "draws") := by decide +kernel
theorem lk3_left {q : Addr} {m d : Int} : valV (κ := Key) (row3 q m d) (.inr "left") = some (.ref q) := by
  unfold valV
  rw [List.find?_cons_of_pos (by simp)]; rfl
theorem lk3_mixed {q : Addr} {m d : Int} : valV (κ := Key) (row3 q m d) (.inr "mixed") = some (.int m) := by
  have h := k3_lm
  unfold valV
  rw [List.find?_cons_of_neg (by simpa using h), List.find?_cons_of_pos (by simp)]; rfl
theorem lk3_draws {q : Addr} {m d : Int} : valV (κ := Key) (row3 q m d) (.inr "draws") = some (.int d) := by
  have h := k3_ld
  have h2 := k3_md
  unfold valV
  rw [List.find?_cons_of_neg (by simpa using h), List.find?_cons_of_neg (by simpa using h2), List.find?_cons_of_pos (by simp)]; rfl
theorem put3_draws {q : Addr} {m d c : Int} : putK (κ := Key) (row3 q m d) (.inr "draws") (.int c) = row3 q m c := by
  have h := k3_ld
  have h2 := k3_md
  unfold putK
  simp [h, h2]
theorem merge3 {q : Addr} {m d : Int} : mergeK [] (row3 q m d) = row3 q m d := by
  have h1 := k3_lm
  have h2 := k3_ld
  have h3 := k3_md
  unfold mergeK putK
  simp [h1, h2, h3, putK]
end DL
namespace DL
open PySem PySem.Spec PyProof.Rows L2 TL
def put2 (k1 k2 : Str) (d v : D) : Option D := match d, v with
  | .dic kd, .tup [x, y] => if kd.length + 1 < 16777216 then some (.dic (putM (putM kd (.inr k1) x) (.inr k2) y)) else none
  | _, _ => none
def sPut2 (i : Nat) (k1 k2 : Str) (f : EF) : SF := fun E => (f E).bind fun p => (ofO (asDat p.1)).bind fun v => (ofO (ownO p.2 i)).bind fun d => (ofO (put2 k1 k2 d v)).bind fun d' => .ok (.nx, p.2.set i (.own d'))
theorem len_putM (kd : List (Key × D)) (k : Key) (v : D) : (putM kd k v).length ≤ kd.length + 1 := by
  unfold putM
  split
  · rw [List.length_map]; exact Nat.le_succ _
  · rw [List.length_append, List.length_singleton]; exact Nat.le_refl _
theorem put2_ok {k1 k2 : Str} {d v d' : D} (h : put2 k1 k2 d v = some d') : ∃ kd x y, d = .dic kd ∧ v = .tup [x, y] ∧ kd.length + 1 < 16777216 ∧ d' = .dic (putM (putM kd (.inr k1) x) (.inr k2) y) := by
  unfold put2 at h
  split at h
  · obtain ⟨hl, e⟩ := ifs_some h
    exact ⟨_, _, _, rfl, rfl, hl, e⟩
  · cases h
theorem ds_put2 {X : Cx} {Wi : Wish} {o1 o2 e : Expr} {i : Nat} {f : EF} {k1 k2 : Str} {c1 c2 : Nat} {q1 q2 r1 r2 pt pos : Pos} {kt : Nat} (hc : X.calm = true) (hu : X.A.units + 1 < cLine) (h1 : PE X o1 (tVar i)) (h2 : PE X o2 (tVar i)) (s1 : SOk k1) (s2 : SOk k2) (he : DE X Wi e f)
    (ht : PG X (.Tuple [.Subscript o1 (.Constant (.str k1) c1 q1) r1, .Subscript o2 (.Constant (.str k2) c2 q2) r2] kt pt) (gTup X.K 2 (L2.gCons (L2.gSub (tVar i) (tC (.str k1)) rSetD) (L2.gCons (L2.gSub (tVar i) (tC (.str k2)) rSetD) L2.gNil))) := by exact pg_tup hc (pgs_cons (pg_sub h1 pe_str (set_dict hu)) (pgs_cons (pg_sub h2 pe_str (set_dict hu)) pgs_nil)))
    (hs : swapsWithSole [.Tuple [.Subscript o1 (.Constant (.str k1) c1 q1) r1, .Subscript o2 (.Constant (.str k2) c2 q2) r2] kt pt] e pos.line X.env = pure false := by rfl) (hw : swappedStores [.Tuple [.Subscript o1 (.Constant (.str k1) c1 q1) r1, .Subscript o2 (.Constant (.str k2) c2 q2) r2] kt pt] e X.env = pure none := by rfl)
    (h9 : (assignEach [.Tuple [.Subscript o1 (.Constant (.str k1) c1 q1) r1, .Subscript o2 (.Constant (.str k2) c2 q2) r2] kt pt] X.env).map (·.2) = [assign (.Tuple [.Subscript o1 (.Constant (.str k1) c1 q1) r1, .Subscript o2 (.Constant (.str k2) c2 q2) r2] kt pt) X.env] := by rfl) :
    DS X Wi (.Assign [.Tuple [.Subscript o1 (.Constant (.str k1) c1 q1) r1, .Subscript o2 (.Constant (.str k2) c2 q2) r2] kt pt] e pos) (sPut2 i k1 k2 f) := PS.imp (ps_asg he ht hs hw h9) fun D0 σ H q => by
  obtain ⟨F, G, E, as, st, p⟩ := q
  refine ⟨F, G, E, as, st, Po.mono (fun x H1 m => ?_) (Po.bindS p)⟩
  obtain ⟨w1, G1, E1, as1, sm, st1, wo1, p1⟩ := m
  obtain ⟨v, e1, p1⟩ := PoS.of p1
  obtain ⟨d, e2, p1⟩ := PoS.of p1
  obtain ⟨d', e3, p2⟩ := PoS.of p1
  clear p1
  cases w1 with
  | own _ => cases e1
  | dat v' =>
    cases e1
    have dv : DD X.K G1 x v := wo1
    have e2 := ownO_ok e2
    obtain ⟨xo, hx, a, _, ex, _⟩ := st1.cell i _ e2
    subst ex
    obtain ⟨a', ea, ma, xo⟩ := st1.ownA e2 hx
    cases ea
    obtain ⟨kd, y1, y2, rfl, rfl, hl, rfl⟩ := put2_ok e3
    · obtain ⟨kv, hd, r⟩ := xo
      cases dv with
      | tup g z dd =>
        rename_i t vs
        match vs, dd with
        | [v1, v2], .cons d1 (.cons d2 .nil) =>
          have hlv : kv.length = kd.length := r.len
          have r1 : DKs X.K G1 (putK kv (.inr k1) v1) (putM kd (.inr k1) y1) := DKs.put s1 d1 r
          have r2 := DKs.put (k := .inr k2) s2 d2 r1
          have hl1 : (putK kv (.inr k1) v1).length < sizeLine := by
            rw [r1.len, sizeLine_eq]
            have := len_putM kd (.inr k1) y1
            omega
          refine ⟨t, [v1, v2], rfl, SqT.of (st1.s1 _ _ g), rfl, v1, [v2], rfl, _, hx, a, _, rfl, .inl ⟨kv, .inr k1, hd, rfl, by rw [hlv, sizeLine_eq]; omega, rfl⟩, v2, [], rfl, _, hx, a, _, rfl, .inl ⟨_, .inr k2, upd_same, rfl, hl1, rfl⟩, rfl, ?_⟩
          rw [upd_upd]
          exact p2 σ G1 _ as1 (Same.refl _) (st1.write e2 ma ⟨_, upd_same, r2⟩)
end DL
namespace DL
open PySem PySem.Spec PyProof.Rows L2 TL
def TabOk (K : PySem.W.Frag) (w : World) (mg : Str → Option Value) (x : Str) (tab : List (Str × Int)) : Prop :=
  ∃ d es n, mg x = some (.ref d) ∧ KDict K w d es n ∧ ∀ p ∈ tab, ∃ t, PySem.W.nsIn K d p.1 = some (some (.int p.2 t))
theorem tab_nil {K : PySem.W.Frag} {d : Addr} : ∀ p ∈ ([] : List (Str × Int)), ∃ t, PySem.W.nsIn K d p.1 = some (some (.int p.2 t)) := fun _ h => nomatch h
theorem tab_cons {K : PySem.W.Frag} {d : Addr} {x : Str} {i : Int} {t : Tok} {tab : List (Str × Int)} (h : PySem.W.nsIn K d x = some (some (.int i t))) (r : ∀ p ∈ tab, ∃ t, PySem.W.nsIn K d p.1 = some (some (.int p.2 t))) : ∀ p ∈ (x, i) :: tab, ∃ t, PySem.W.nsIn K d p.1 = some (some (.int p.2 t)) := fun p m => by
  rcases List.mem_cons.mp m with e | m
  · subst e; exact ⟨_, h⟩
  · exact r p m
/-- x in the dict (x not in it: neg), asked of its words alone -/
def gTabIn (neg : Bool) (tab : List (Str × Int)) : D → Option D
  | .str x => if (tab.lookup x).isSome = true then some (.bl (!neg)) else none
  | _ => none
def gTabAt (tab : List (Str × Int)) : D → Option D
  | .str x => (tab.lookup x).map .int
  | _ => none
theorem lookup_mem {x : Str} {i : Int} : ∀ {tab : List (Str × Int)}, tab.lookup x = some i → (x, i) ∈ tab
  | [], h => by cases h
  | (y, j) :: r, h => by
    rw [List.lookup_cons] at h
    split at h
    · rename_i e
      cases h
      rw [eq_of_beq e]; exact List.mem_cons_self
    · exact List.mem_cons_of_mem _ (lookup_mem h)
section
variable {X : Cx} {Wi : Wish} {a : Expr} {f : EF} {x : Str} {tab : List (Str × Int)} {p pos : Pos}
theorem de_tabAt (T : TabOk X.K X.w X.mg x tab) (hg : Gl X x) (ha : DE X Wi a f) (hs : PlainIx a) (hdb : (x == ("__debug__" : Str)) = false := by decide) : DE X Wi (.Subscript (.Name x p) a pos) (eUn (gTabAt tab) f) := by
  obtain ⟨d, es, n, hm, kd, hv⟩ := T
  refine PE.imp (pe_ix ix_kdict (pe_glob hg hm (v := .ref d) rfl hdb) ha hs) fun σ H Q q => tUn_of (r := fun y H Q => ∃ p z v, V.ref d = .ref p ∧ y = .str z ∧ KDct X.K X.w p z v ∧ Q v H) (fun G H y b e Q s hb he z => ?_) σ H Q q
  cases b with
  | str z' =>
    obtain ⟨rfl, _⟩ := hb.str
    have he : (tab.lookup z').map D.int = some e := he
    cases hi : tab.lookup z' with
    | none => rw [hi] at he; cases he
    | some i =>
      rw [hi] at he
      cases he
      obtain ⟨t, ht⟩ := hv _ (lookup_mem hi)
      exact ⟨d, z', .int i, rfl, rfl, ⟨es, n, _, kd.at_, kd.lit, ht, ⟨t, rfl⟩⟩, z _ _ _ (Al.refl s) (.int _)⟩
  | _ => cases he
theorem dt_tabNot (T : TabOk X.K X.w X.mg x tab) (hg : Gl X x) (ha : DE X Wi a f) (hdb : (x == ("__debug__" : Str)) = false := by decide) : DT X Wi (.Compare a [.NotIn] [.Name x p] pos) (tB (eUn (gTabIn true tab) f)) := by
  obtain ⟨d, es, n, hm, kd, hv⟩ := T
  refine PT.imp (pt_cmpR (op_notIn_kd kd) ha (pe_glob hg hm (v := .ref d) rfl hdb) rfl) fun σ H Q q => tUn_of (r := fun y H Q => ∃ (z : Str) (r : Option Value), y = .str z ∧ V.ref d = .ref d ∧ PySem.W.nsIn X.K d z = some r ∧ Q (.bl (!r.isSome)) H) (fun G H y b e Q s hb he z => ?_) σ H _ (tB_of σ H Q q)
  cases b with
  | str z' =>
    obtain ⟨rfl, _⟩ := hb.str
    have he : (if (tab.lookup z').isSome = true then some (D.bl false) else none) = some e := he
    obtain ⟨h1, rfl⟩ := ifs_some he
    obtain ⟨i, hi⟩ := Option.isSome_iff_exists.mp h1
    obtain ⟨t, ht⟩ := hv _ (lookup_mem hi)
    exact ⟨z', _, rfl, rfl, ht, z _ _ _ (Al.refl s) (.bl _)⟩
  | _ => cases he
end
end DL
namespace DL
open PySem PySem.Spec PyProof.Rows L2 TL
def gTupRg : D → Option D
  | .int n => if 0 ≤ n ∧ n ≤ 16777216 then some (.tup ((List.range n.toNat).map fun i => D.int (i : Nat))) else none
  | _ => none
theorem rgV_eq (n : Int) : rgV 0 n = ((List.range n.toNat).map fun i : Nat => (i : Int)).map V.int := by
  unfold rgV
  rw [List.map_map, Int.sub_zero]
  exact List.map_congr_left fun i _ => congrArg V.int (Int.zero_add _)
theorem rgD_eq (n : Int) : ((List.range n.toNat).map fun i => D.int (i : Nat)) = ((List.range n.toNat).map fun i : Nat => (i : Int)).map D.int := by
  rw [List.map_map]; rfl
theorem und_tupRg {K : PySem.W.Frag} : UnD K (fun x H Q => ∃ n, x = .int n ∧ RgOk 0 n ∧ ∀ q, H q = none → Q (.ref q) (upd H q (.tup (rgV 0 n)))) gTupRg := by
  intro G H x a d Q s ha e z
  cases a with
  | int n =>
    obtain ⟨⟨h0, h1⟩, rfl⟩ := ifs_some (show (if 0 ≤ n ∧ n ≤ 16777216 then some (D.tup ((List.range n.toNat).map fun i => D.int (i : Nat))) else none) = some d from e)
    refine ⟨n, ha.int, .of_le (by decide) h1 (by decide) h0, fun q hq => z _ _ _ (Al.one s hq) (.tup upd_same ?_ ?_)⟩
    · rw [rgV_length, sizeLine_eq]; omega
    · rw [rgV_eq, rgD_eq]; exact dds_ints _
  | _ => cases e
section
variable {X : Cx} {Wi : Wish} {a : Expr} {f : EF} {p pos p2 pos2 : Pos}
theorem de_tupRg (hc : X.calm = true) (hg : Gl X "tuple") (hm : X.mg "tuple" = none) (hg2 : Gl X "range") (hm2 : X.mg "range" = none) (ha : DE X Wi a f) (na : starEach [a] X.env = (false, eval a X.env) :: starEach [] X.env := by rfl)
    (nb : starEach [Expr.Call (.Name "range" p2) [a] [] pos2] X.env = (false, eval (Expr.Call (.Name "range" p2) [a] [] pos2) X.env) :: starEach [] X.env := by rfl) :
    DE X Wi (.Call (.Name "tuple" p) [.Call (.Name "range" p2) [a] [] pos2] [] pos) (eUn gTupRg f) :=
  PE.imp (pe_tupRg hc hg hm (prg_1 hg2 hm2 ha na) nb) fun σ H Q q => by
    obtain ⟨F, G, E, as, st, p⟩ := tUn_of und_tupRg σ H Q q
    exact ⟨F, G, E, as, st, Po.mono (fun x H1 ⟨n, e, ok, k⟩ => ⟨n, e, ok, k⟩) p⟩
end
end DL
namespace DL
open PySem PySem.Spec PyProof.Rows L2 TL
def rSortDT (K : PySem.W.Frag) : List V → Hp → VK → Prop := fun xs H Q => ∃ d kvs, xs = [V.ref d] ∧ Rd H d (.dT kvs) ∧ ∀ bs, IsKeys H kvs bs → ∃ G ds, Same G H ∧ DDs K G (bs.map V.ref) ds ∧ okSort ds = true ∧
  ∀ p ws, H p = none → DDs K G ws (ds.mergeSort leD) → Q (.ref p) (upd H p (.lst ws))
theorem each_fresh {h : Heap} {f : Heap} {a : Addr} (up : ∀ b o, h.get? b = some o → f.get? b = some o) (na : h.get? a = none) {us : List Value} {ds : List D} (e : PySem.W.EachIs (fun u d => ∃ as, Reads h u (D.py d) as) us ds) : PySem.W.EachIs (fun u d => ∃ as, Reads f u (D.py d) as ∧ a ∉ as) us ds := by
  induction e with
  | nil => exact .nil
  | cons h1 _ ih =>
    obtain ⟨as, r⟩ := h1
    refine .cons ⟨as, Reads.keeps up r, fun z => ?_⟩ ih
    obtain ⟨o, q⟩ := PyProof.On.reads_mem_get r a z
    rw [na] at q; cases q
theorem call_sortDT {X : Cx} (hc : X.calm = true) (hu : X.A.units + 64 < cLine) : CallR X (.builtin "sorted") (rSortDT X.K) := by
  intro pins s σ H xs us Q I r h
  obtain ⟨d, kvs, rfl, hd, q⟩ := h
  rw [Vals.ref1 r]
  obtain ⟨z, hs, ks, pr, o, es, ep, ho, hx, hdt, he, hn⟩ := (show ObjOk X.prog X.w H s.heap d (.dT kvs) from hd.ok I.hok)
  have l1 : es.size = ks.length := size_of_entries he
  have l2 : kvs.length = ks.length := Paired.length pr
  refine Calls.call_function_entry kind_sorted plain_sorted entry_sorted (args_sorted1 _) ?_
  unfold Builtin.«sorted»
  refine wpAny_bind (m := checkCount "sorted" 1 1 _) (wpAny_pure ?_)
  refine wpAny_bind (PySem.W.kdu_collect (A := X.A.in1) (kdl_raw hs hx hdt) (I.ok.hd hc) ho (by omega) fun h' tk acc kp it => ?_)
  have al : acc.toList.length = ks.length := by rw [Array.length_toList, it.1]; exact l1
  have ea : acc.toList = (ks.map fun x => x.2.1).map Value.ref := by
    rw [List.map_map]
    refine List.ext_getElem? fun j => ?_
    rw [List.getElem?_map]
    cases hj : acc.toList[j]? with
    | none =>
      have h1 := List.getElem?_eq_none_iff.mp hj
      rw [List.getElem?_eq_none (show ks.length ≤ j by omega)]; rfl
    | some v =>
      obtain ⟨en, hen, rfl⟩ := it.2 j v (by rw [← Array.getElem?_toList]; exact hj)
      have qe := entry_at he j
      rw [hen] at qe
      cases hb : ks[j]? with
      | none => rw [hb] at qe; cases qe
      | some b => rw [hb] at qe; cases qe; rfl
  obtain ⟨G, ds, sm, dd, ok, q⟩ := q _ (isKeys_of pr)
  obtain ⟨bs, ebs⟩ : ∃ bs, bs = ks.map fun x => x.2.1 := ⟨_, rfl⟩
  rw [← ebs] at ea dd
  have rv : Vals (bs.map V.ref) acc.toList := by rw [ea]; exact vals_refs _
  have I1 : Inv X pins σ H { s with heap := h', toks := tk } := I.kept kp
  unfold okSort at ok
  simp only [Bool.and_eq_true] at ok
  obtain ⟨⟨⟨o1, o2⟩, o3⟩, o4⟩ := ok
  obtain ⟨e1, e2⟩ := each_of I1 sm rv dd o1
  have dl : ds.length = ks.length := by rw [← dd.len, List.length_map, ebs, List.length_map]
  refine wpAny_bind (wpAny_newList ?_ (by rw [al]; omega))
  have hoL : (h'.push (seqObj "list" acc.toList.toArray 0)).get? h'.objs.size = some (seqObj "list" acc.toList.toArray 0) := Heap.get?_push_size _ rfl
  have na : h'.get? h'.objs.size = none := by
    cases e : h'.get? h'.objs.size with
    | none => rfl
    | some u => exact absurd (Heap.lt_size e) (Nat.lt_irrefl _)
  have mem : ∀ d ∈ ds.map D.py, ∃ b ∈ ds, b.py = d := fun d hd => List.mem_map.mp hd
  show wpAny _ _ _ _ _ { s with heap := h'.push (seqObj "list" acc.toList.toArray 0), toks := tk }
  refine wpAny_bind (wpAny_holding (PySem.W.list_sort_data (s := { s with heap := h'.push (seqObj "list" acc.toList.toArray 0), toks := tk }) (bs := ds) (enc := D.py) (a := h'.objs.size) hoL e1 (each_fresh (fun b u e => Heap.get?_push_of_some _ e) na e2) (fun d hd d' hd' => ?_) ?_ (by omega) (fun b hb => ?_) fun out hol eo => ?_))
  · obtain ⟨b, hb, rfl⟩ := mem d hd
    obtain ⟨b', hb', rfl⟩ := mem d' hd'
    exact List.all_eq_true.mp (List.all_eq_true.mp o2 b hb) b' hb'
  · rw [Bool.or_eq_true] at o3
    rcases o3 with o3 | o3
    · refine .inl fun d hd => ?_
      obtain ⟨b, hb, rfl⟩ := mem d hd
      have z := List.all_eq_true.mp o3 b hb
      split at z
      · rename_i x r e; exact ⟨x, r, e⟩
      · cases z
    · refine .inr fun d hd => ?_
      obtain ⟨b, hb, rfl⟩ := mem d hd
      have z := List.all_eq_true.mp o3 b hb
      refine ⟨fun e => ?_, fun xs e => ?_⟩
      · rw [e] at z; cases z
      · rw [e] at z; cases z
  · have z := of_decide_eq_true (List.all_eq_true.mp o4 b hb)
    have h1 : X.A.in1.units ≤ X.A.units + 1 := by first | exact Nat.le_refl _ | decide
    show X.A.in1.units + 1 + _ < cLine
    omega
  · obtain ⟨ws, w1, w2⟩ := of_each eo
    obtain ⟨c, hcx⟩ := sortedHeap_at (vs := acc.toList) (out := out.toArray) hoL
    have hlen : ws.length ≤ sizeLine := by rw [w1.length, hol]; omega
    refine wpAny_pure ⟨_, rfl, .ref h'.objs.size, upd H h'.objs.size (.lst ws), I1.laid (t' := tk) (fun b u e => ?_) (Nat.le_refl _) (show ObjOk X.prog X.w _ _ _ (.lst ws) from ⟨hlen, out, c, w1, hcx⟩), rfl, q _ ws (I1.hok.fresh (Nat.le_refl _)) w2⟩
    have hb : b < h'.objs.size := Heap.lt_size e
    rw [sortedHeap_old (Nat.ne_of_lt hb) (by rw [size_push']; exact Nat.lt_succ_of_lt hb)]
    exact Heap.get?_push_of_some _ e
def nSortT (fs : AF) : NF := fun E => (fs E).bind fun p => (rds p.2 p.1).bind fun ds => match ds with
  | [.dit kd] => if kd.length ≤ 16777216 then (ofO (gSorted [.lst (kd.map fun x => .tup (x.1.map kD))])).bind fun d => .ok (d, p.2) else .stuck
  | _ => .stuck
theorem dn_sortT {X : Cx} {Wi : Wish} {a : Expr} {fs : AF} {p pos : Pos} (hc : X.calm = true) (hu : X.A.units + 64 < cLine) (hg : Gl X "sorted") (hm : X.mg "sorted" = none) (ha : DA X Wi [a] fs) (he : starEach [a] X.env = (false, eval a X.env) :: starEach [] X.env := by rfl) (hpl : (backTo pos (starEach [] X.env)).any (·.1) = false := by rfl) :
    DN X Wi (.Call (.Name "sorted" p) [a] [] pos) (nSortT fs) := PE.imp (pe_callB (call_sortDT hc hu) hg hm PyProof.Rows.boot_sorted ha (he := he) (hpl := hpl)) fun σ H Q q => by
  obtain ⟨F, G, E, as, st, p⟩ := q
  refine ⟨F, G, E, as, st, PoA.mono (fun x H1 m => ?_) (PoA.bindN p)⟩
  obtain ⟨ws, G1, E1, as1, s1, st1, wo1, p1⟩ := m
  obtain ⟨ds, e1, p1⟩ := PoN.rds p1
  have bd := wo1.rds (Same.refl _) st1 e1
  match ds, p1 with
  | [.dit kd], p1 =>
    have p1 : PoN X.K Wi F G1 σ Q (if kd.length ≤ 16777216 then (ofO (gSorted [.lst (kd.map fun x => .tup (x.1.map kD))])).bind fun d => .ok (d, E1) else .stuck) := p1
    by_cases hl : kd.length ≤ 16777216
    · rw [if_pos hl] at p1
      obtain ⟨dres, e2, p1⟩ := PoN.of p1
      obtain ⟨v, rfl, b⟩ := bd.one
      obtain ⟨d, kv, rfl, h1, r⟩ := b.dit st1.s1
      refine ⟨d, kv, rfl, .inl h1, fun bs kb => ?_⟩
      obtain ⟨hok, rfl⟩ := ifs_some (show (if okSort (kd.map fun x => .tup (x.1.map kD)) = true then some (D.lst ((kd.map fun x => D.tup (x.1.map kD)).mergeSort leD)) else none) = some dres from e2)
      have sm2 : Same G1 (fun a => if a ∈ bs then H1 a else G1 a) := fun b u e => by
        by_cases hb : b ∈ bs
        · show (if b ∈ bs then H1 b else G1 b) = some u
          rw [if_pos hb]; exact st1.s1 _ _ e
        · show (if b ∈ bs then H1 b else G1 b) = some u
          rw [if_neg hb]; exact e
      have sm3 : Same (fun a => if a ∈ bs then H1 a else G1 a) H1 := fun b u e => by
        have e : (if b ∈ bs then H1 b else G1 b) = some u := e
        by_cases hb : b ∈ bs
        · rw [if_pos hb] at e; exact e
        · rw [if_neg hb] at e; exact st1.s1 _ _ e
      refine ⟨fun a => if a ∈ bs then H1 a else G1 a, _, sm3, dts_keys (fun b hb => if_pos hb) r kb, hok, fun q vs hq dvs => ?_⟩
      have al : Al G1 H1 (fun a => if a ∈ bs then H1 a else G1 a) (upd H1 q (.lst vs)) := by
        refine ⟨sm2, fun b u e => by rw [upd_ne (ne_of_none e hq)]; exact e, fun b u e => ?_, fun b o hb e q' => ?_⟩
        · have e2 := sm3 _ _ e
          rw [upd_ne (ne_of_none e2 hq)]; exact e2
        · by_cases hb2 : b ∈ bs
          · obtain ⟨k, hk⟩ := isKeys_tup kb b hb2
            rw [hk] at q'; cases q'; rfl
          · have hb : (if b ∈ bs then H1 b else G1 b) ≠ none := hb
            rw [if_neg hb2] at hb; exact absurd e hb
      refine p1 q _ _ as1 al.g (st1.al al) ?_ (st1.dom q hq) (fun j hj => ?_) ⟨vs, upd_same, ?_, dvs⟩
      · show (if q ∈ bs then H1 q else G1 q) = none
        split
        · exact hq
        · exact st1.s1.free hq
      · obtain ⟨u, z⟩ := st1.there hj
        rw [hq] at z; cases z
      · rw [dvs.len, (List.mergeSort_perm _ leD).length_eq, List.length_map, sizeLine_eq]; exact hl
    · rw [if_neg hl] at p1; exact p1.elim
end DL
namespace DL
open PySem PySem.Spec PyProof.Rows L2 TL
def orS (fb : EF) (E : Env) : D → Res (W × Env)
  | .str x => if (tl x).isEmpty = true then fb E else .ok (.dat (.str x), E)
  | _ => .stuck
def eOrS (fa fb : EF) : EF := fun E => (fa E).bind fun p => (rd p.2 p.1).bind fun d => orS fb p.2 d
theorem de_orS {X : Cx} {Wi : Wish} {a b : Expr} {pos : Pos} {fa fb : EF} (ha : DE X Wi a fa) (hb : DE X Wi b fb) : DE X Wi (.BoolOp .Or [a, b] pos) (eOrS fa fb) := PE.imp (pe_orT ha (pe_one hb)) fun σ H Q q => by
  obtain ⟨F, G, E, as, st, p⟩ := q
  refine ⟨F, G, E, as, st, Po.mono (fun x H1 m => ?_) (Po.bind p)⟩
  obtain ⟨w1, G1, E1, as1, s1, st1, wo1, p1⟩ := m
  obtain ⟨d, e1, p1⟩ := Po.rd p1
  have bd := wo1.rd (Same.refl _) st1 e1
  cases d with
  | str z =>
    obtain ⟨rfl, ok⟩ := bd.str
    have hz1 : z.length ≤ sizeLine := by
      have h : z.cps.toList.length ≤ sizeLine := ok.1
      rw [Array.length_toList] at h; exact h
    have p1 : Po X.K Wi F G1 σ Q (if (tl z).isEmpty = true then fb E1 else .ok (.dat (.str z), E1)) := p1
    by_cases hz : (tl z).isEmpty = true
    · rw [if_pos hz] at p1
      have hz0 : z.cps.toList = [] := List.isEmpty_iff.mp hz
      have hs : z.cps.size = 0 := by rw [← Array.length_toList, hz0]; rfl
      refine ⟨false, ?_, F, G1, E1, as1, st1, p1⟩
      simp [TruV]; exact ⟨hz1, hs⟩
    · rw [if_neg hz] at p1
      have hz0 : z.cps.toList ≠ [] := fun e => hz (List.isEmpty_iff.mpr e)
      have hs : z.cps.size ≠ 0 := fun e => hz0 (List.eq_nil_of_length_eq_zero (by rw [Array.length_toList]; exact e))
      refine ⟨true, ?_, Po.rz st1 p1 _ _ _ (Al.refl st1.s1) (.str z ok)⟩
      simp [TruV]; exact ⟨hz1, hs⟩
  | _ => exact p1.elim
end DL
namespace DL
open PySem PySem.Spec PyProof.Rows L2 TL
def boolD : Res D → Option Bool
  | .ok (.bl b) => some b
  | _ => none
theorem boolD_ok {r : Res D} {b : Bool} (h : boolD r = some b) : r = .ok (.bl b) := by
  unfold boolD at h
  split at h
  · cases h; rfl
  · cases h
def eFL (n : Nat) (fm : List D → Res D) (fs : AF) : EF := fun E => (fs E).bind fun p => (rds p.2 p.1).bind fun ds => if ds.length = n then (ofO (boolD (fm ds))).bind fun b => .ok (.dat (.bl b), p.2) else .stuck
/-- what is data, with the objects at xs besides -/
def mixG (G H : Hp) (xs : List Addr) : Hp := fun b => if b ∈ xs then H b else G b
theorem mix_up {G H : Hp} (s : Same G H) (xs : List Addr) : Same G (mixG G H xs) := fun b u e => by
  unfold mixG
  split
  · exact s _ _ e
  · exact e
theorem mix_low {G H : Hp} (s : Same G H) (xs : List Addr) : Same (mixG G H xs) H := fun b u e => by
  unfold mixG at e
  split at e
  · exact e
  · exact s _ _ e
theorem mix_at {G H : Hp} {a : Addr} {xs : List Addr} (h : a ∈ xs) : mixG G H xs a = H a := if_pos h
theorem own_lend {K : PySem.W.Frag} {G H : Hp} {a : Addr} {d : D} {xs : List Addr} (s : Same G H) (o : OwnAt K G H a d) (h : a ∈ xs) : DD K (mixG G H xs) (.ref a) d := by
  have up := mix_up s xs
  cases d with
  | lst ds => obtain ⟨vs, e, z, r⟩ := o; exact .lst ((mix_at h).trans e) z (r.up up)
  | dic kd => obtain ⟨kv, e, r⟩ := o; exact .dic ((mix_at h).trans e) (r.up up)
  | dit kd => obtain ⟨kv, e, r⟩ := o; exact .dit ((mix_at h).trans e) (r.up up)
  | obj C fd => obtain ⟨dx, fs, e, r⟩ := o; exact .obj ((mix_at h).trans e) (r.up up)
  | _ => exact o.elim
theorem bds_lend {K : PySem.W.Frag} {G H : Hp} (s : Same G H) {vs : List V} {ds : List D} (h : BDs K G H vs ds) : ∃ xs : List Addr, ∀ ys, (∀ x ∈ xs, x ∈ ys) → DDs K (mixG G H ys) vs ds := by
  induction h with
  | nil => exact ⟨[], fun _ _ => .nil⟩
  | cons b _ ih =>
    obtain ⟨xs, hx⟩ := ih
    cases b with
    | dat h => exact ⟨xs, fun ys hy => .cons (h.up (mix_up s ys)) (hx ys hy)⟩
    | own e o =>
      rename_i a
      subst e
      exact ⟨a :: xs, fun ys hy => .cons (own_lend s o (hy a List.mem_cons_self)) (hx ys fun x m => hy x (List.mem_cons_of_mem _ m))⟩
section
variable {X : Cx} {CX : CXT} {k n : Nat} {f C : Addr} {fd : FuncData} {ps ks : List Str} {Wi : Wish} {x m : Str} {p pos apos : Pos} {e o : Expr} {es : List Expr} {fs : AF} {fo : EF} {fm : List D → Res D} {sp : Sp} {t : TA}
theorem tCallL_of : ∀ σ H Q, tE X.K Wi (eFL n fm fs) σ H Q → tCallG (spP X.K n fm) Wi (tA X.K Wi fs) σ H Q := by
  intro σ H Q q
  obtain ⟨F, G, E, as, st, p⟩ := q
  refine ⟨F, G, E, as, st, PoA.mono (fun vs H1 m => ?_) (PoA.bind p)⟩
  obtain ⟨ws, G1, E1, as1, s1, st1, wo1, p1⟩ := m
  obtain ⟨ds, e1, p1⟩ := Po.rds p1
  have bd := wo1.rds (Same.refl _) st1 e1
  by_cases hn : ds.length = n
  · rw [if_pos hn] at p1
    obtain ⟨b, eb, p1⟩ := Po.of p1
    obtain ⟨xs, hx⟩ := bds_lend st1.s1 bd
    refine ⟨mixG G1 H1 xs, ds, mix_low st1.s1 xs, hx xs fun _ h => h, hn, ?_⟩
    rw [boolD_ok eb]
    intro v G' H' al dd
    cases dd
    have al2 : Al G1 H1 G1 H' := Al.grow st1.s1 al.h
    exact p1 (.bl b) G1 H' as1 (Same.refl _) (st1.al al2) (.bl b)
  · rw [if_neg hn] at p1; exact p1.elim
theorem de_FL (F : FnG X.prog X.w X.K X.mg X.base CX k f fd ps (spP X.K n fm)) (hg : X.A.guards = some []) (hr : Room k X.A) (gl : Gl X x) (hm : X.mg x = some (.ref f)) (hk : PySem.W.keepIn X.K (.ref f) = true) (hb : Binds X.K fd ps []) (hx : PassW CX X Wi)
    (ha : DA X Wi (e :: es) fs) (hdb : (x == ("__debug__" : Str)) = false := by decide) (he : starEach (e :: es) X.env = (false, eval e X.env) :: starEach es X.env := by rfl) (hpl : (backTo pos (starEach es X.env)).any (·.1) = false := by rfl) :
    DE X Wi (.Call (.Name x p) (e :: es) [] pos) (eFL n fm fs) := PE.imp (pe_F F hg hr gl hm hk hb hx ha hdb he hpl) tCallL_of
end
end DL
namespace DL
open PySem PySem.Spec PyProof.Rows L2 TL
/-- a walk over a head by a run -/
theorem walk_GX {l : PySem.W.OpenLaw} {n k : Nat} {q : Program} {loose : List Str} {XP : (Str → Option Value) → Heap → Prop} {YP : World → Heap → Prop} {d : DefRec} {sp : PySem.W.Frag → Sp} {x : Str} (most : l.most = some n) (small : n ≤ sizeLine) (nodef : d.params.defaults = []) (hr : Room k callerA)
    (F : ∀ (w : World) (mg : Str → Option Value) (fa : Addr) (h : Heap), YP w h → h.Ns mainGlobals mg → mg d.name = some (.ref fa) → ∃ K : PySem.W.Frag, K.In h ∧ ∃ fd : FuncData, (∀ (s : Shared) (u : Value), BindsTo s fd ⟨[u], []⟩ [(x, u)]) ∧ ∀ base : Heap, K.In base → base.Ns mainGlobals mg → FnG l.prog w K mg base CX0 k fa fd [x] (sp K))
    (hsp : ∀ (K : PySem.W.Frag) (H : Hp) (a : Addr) (ns : List Int), ns.length ≤ n → SqL K H a (ns.map V.int) → sp K [.ref a] H (fun v _ => v = .bl true) fun _ _ _ => False) :
    PySem.W.WalkO q loose XP YP l.row.toRowW d [] (fun f vs => PySem.call f vs) := by
  refine Att.attach_call most nodef fun w s0 s mg mb fa o pm cd doc a us ns G Y ho hd hcd hmg hobj hints hlen hgens => ?_
  obtain ⟨K, kh, fd, bind, hF⟩ := F w mg fa _ Y G.T.g hmg
  exact law_callG kh G.T.g G.T.b G.T.builtins G.T.nolimit hgens hobj hints (Nat.le_trans hlen small) hr hF bind fun H sq => hsp K H a ns hlen sq
end DL
namespace DL
open PySem PySem.Spec PyProof.Rows L2 TL

def T (l : List Nat) : Str := ⟨l.toArray⟩
def dS (l : List Nat) : D := .str (T l)
def dC (c : Nat) : D := .str (sgn c)
theorem tl_T (l : List Nat) : tl (T l) = l := rfl
theorem T_tl (x : Str) : T (tl x) = x := by
  unfold T tl
  cases x; simp
theorem T_inj {a b : List Nat} : T a = T b ↔ a = b := ⟨fun h => by have := congrArg tl h; exact this, fun h => by rw [h]⟩
theorem sgn_T (c : Nat) : sgn c = T [c] := rfl
theorem T_app (a b : List Nat) : T a ++ T b = T (a ++ b) := by
  have h := tl_append (T a) (T b)
  rw [← T_tl (T a ++ T b), h]; rfl
theorem T_len (l : List Nat) : (T l).length = l.length := rfl
theorem inS_one (c : Nat) (l : List Nat) : inS (sgn c) (T l) = decide (c ∈ l) := PySem.StrLaws.found_one (T l) c
theorem gIn_one (neg : Bool) (c : Nat) (l : List Nat) : gInQ neg (dC c) (dS l) = some (.bl (if neg then !decide (c ∈ l) else decide (c ∈ l))) := by
  show some (D.bl (if neg then !(inS (sgn c) (T l)) else inS (sgn c) (T l))) = _
  rw [inS_one]
theorem eqv_str (x y : Str) : PyData.eqv (.str x) (.str y) = decide (x = y) := by
  show (x == y) = _
  by_cases h : x = y
  · subst h; simp
  · rw [decide_eq_false h]
    exact beq_eq_false_iff_ne.mpr h
end DL
namespace DL
open PySem PySem.Spec PyProof.Rows L2 TL
def kc_eCh (g' : D → D → Option D) (q : W × Env) : W × Env → Res (W × Env) := fun r => (rd r.2 q.1).bind fun y' => (rd r.2 r.1).bind fun z => (ofO (g' y' z)).bind fun d => .ok (.dat d, r.2)
@[simp] theorem ap_kc_eCh (g' : D → D → Option D) (q : W × Env) (r : W × Env) : kc_eCh g' q r = (rd r.2 q.1).bind fun y' => (rd r.2 r.1).bind fun z => (ofO (g' y' z)).bind fun d => .ok (.dat d, r.2) := rfl
def k5_eOp (q : W × Env) : D → Res (W × Env) := fun d => .ok (.dat d, q.2)
def k4_eOp (g : D → D → Option D) (q : W × Env) (x : D) : D → Res (W × Env) := fun y => (ofO (g x y)).bind (k5_eOp q)
def k3_eOp (g : D → D → Option D) (q : W × Env) : D → Res (W × Env) := fun x => (rd q.2 q.1).bind (k4_eOp g q x)
def k2_eOp (g : D → D → Option D) (p : W × Env) : W × Env → Res (W × Env) := fun q => (rd q.2 p.1).bind (k3_eOp g q)
def k1_eOp (g : D → D → Option D) (fb : EF) : W × Env → Res (W × Env) := fun p => (fb p.2).bind (k2_eOp g p)
@[simp] theorem ap_k5_eOp (q : W × Env) (d : D) : k5_eOp q d = .ok (.dat d, q.2) := rfl
@[simp] theorem ap_k4_eOp (g : D → D → Option D) (q : W × Env) (x : D) (y : D) : k4_eOp g q x y = (ofO (g x y)).bind (k5_eOp q) := rfl
@[simp] theorem ap_k3_eOp (g : D → D → Option D) (q : W × Env) (x : D) : k3_eOp g q x = (rd q.2 q.1).bind (k4_eOp g q x) := rfl
@[simp] theorem ap_k2_eOp (g : D → D → Option D) (p : W × Env) (q : W × Env) : k2_eOp g p q = (rd q.2 p.1).bind (k3_eOp g q) := rfl
@[simp] theorem ap_k1_eOp (g : D → D → Option D) (fb : EF) (p : W × Env) : k1_eOp g fb p = (fb p.2).bind (k2_eOp g p) := rfl
@[simp] theorem ap_eOp (g : D → D → Option D) (fa : EF) (fb : EF) (E : Env) : eOp g fa fb E = (fa E).bind (k1_eOp g fb) := rfl
def k3_eUn (p : W × Env) : D → Res (W × Env) := fun d => .ok (.dat d, p.2)
def k2_eUn (g : D → Option D) (p : W × Env) : D → Res (W × Env) := fun x => (ofO (g x)).bind (k3_eUn p)
def k1_eUn (g : D → Option D) : W × Env → Res (W × Env) := fun p => (rd p.2 p.1).bind (k2_eUn g p)
@[simp] theorem ap_k3_eUn (p : W × Env) (d : D) : k3_eUn p d = .ok (.dat d, p.2) := rfl
@[simp] theorem ap_k2_eUn (g : D → Option D) (p : W × Env) (x : D) : k2_eUn g p x = (ofO (g x)).bind (k3_eUn p) := rfl
@[simp] theorem ap_k1_eUn (g : D → Option D) (p : W × Env) : k1_eUn g p = (rd p.2 p.1).bind (k2_eUn g p) := rfl
@[simp] theorem ap_eUn (g : D → Option D) (fa : EF) (E : Env) : eUn g fa E = (fa E).bind (k1_eUn g) := rfl
def k5_eCh (g' : D → D → Option D) (fc : EF) (q : W × Env) : Bool → Res (W × Env) := fun k => if k = true then (fc q.2).bind (kc_eCh g' q) else .ok (.dat (.bl false), q.2)
def k4_eCh (g : D → D → Option D) (g' : D → D → Option D) (fc : EF) (q : W × Env) (x : D) : D → Res (W × Env) := fun y => (ofO ((g x y).bind asB)).bind (k5_eCh g' fc q)
def k3_eCh (g : D → D → Option D) (g' : D → D → Option D) (fc : EF) (q : W × Env) : D → Res (W × Env) := fun x => (rd q.2 q.1).bind (k4_eCh g g' fc q x)
def k2_eCh (g : D → D → Option D) (g' : D → D → Option D) (fc : EF) (p : W × Env) : W × Env → Res (W × Env) := fun q => (rd q.2 p.1).bind (k3_eCh g g' fc q)
def k1_eCh (g : D → D → Option D) (g' : D → D → Option D) (fb : EF) (fc : EF) : W × Env → Res (W × Env) := fun p => (fb p.2).bind (k2_eCh g g' fc p)
@[simp] theorem ap_k5_eCh (g' : D → D → Option D) (fc : EF) (q : W × Env) (k : Bool) : k5_eCh g' fc q k = if k = true then (fc q.2).bind (kc_eCh g' q) else .ok (.dat (.bl false), q.2) := rfl
@[simp] theorem ap_k4_eCh (g : D → D → Option D) (g' : D → D → Option D) (fc : EF) (q : W × Env) (x : D) (y : D) : k4_eCh g g' fc q x y = (ofO ((g x y).bind asB)).bind (k5_eCh g' fc q) := rfl
@[simp] theorem ap_k3_eCh (g : D → D → Option D) (g' : D → D → Option D) (fc : EF) (q : W × Env) (x : D) : k3_eCh g g' fc q x = (rd q.2 q.1).bind (k4_eCh g g' fc q x) := rfl
@[simp] theorem ap_k2_eCh (g : D → D → Option D) (g' : D → D → Option D) (fc : EF) (p : W × Env) (q : W × Env) : k2_eCh g g' fc p q = (rd q.2 p.1).bind (k3_eCh g g' fc q) := rfl
@[simp] theorem ap_k1_eCh (g : D → D → Option D) (g' : D → D → Option D) (fb : EF) (fc : EF) (p : W × Env) : k1_eCh g g' fb fc p = (fb p.2).bind (k2_eCh g g' fc p) := rfl
@[simp] theorem ap_eCh (g : D → D → Option D) (g' : D → D → Option D) (fa : EF) (fb : EF) (fc : EF) (E : Env) : eCh g g' fa fb fc E = (fa E).bind (k1_eCh g g' fb fc) := rfl
def k2_aC (p : W × Env) : List W × Env → Res (List W × Env) := fun q => .ok (p.1 :: q.1, q.2)
def k1_aC (fs : AF) : W × Env → Res (List W × Env) := fun p => (fs p.2).bind (k2_aC p)
@[simp] theorem ap_k2_aC (p : W × Env) (q : List W × Env) : k2_aC p q = .ok (p.1 :: q.1, q.2) := rfl
@[simp] theorem ap_k1_aC (fs : AF) (p : W × Env) : k1_aC fs p = (fs p.2).bind (k2_aC p) := rfl
@[simp] theorem ap_aC (fa : EF) (fs : AF) (E : Env) : aC fa fs E = (fa E).bind (k1_aC fs) := rfl
def k3_eCall (p : List W × Env) : D → Res (W × Env) := fun d => .ok (.dat d, p.2)
def k2_eCall (h : List D → Option D) (p : List W × Env) : List D → Res (W × Env) := fun ds => (ofO (h ds)).bind (k3_eCall p)
def k1_eCall (h : List D → Option D) : List W × Env → Res (W × Env) := fun p => (rds p.2 p.1).bind (k2_eCall h p)
@[simp] theorem ap_k3_eCall (p : List W × Env) (d : D) : k3_eCall p d = .ok (.dat d, p.2) := rfl
@[simp] theorem ap_k2_eCall (h : List D → Option D) (p : List W × Env) (ds : List D) : k2_eCall h p ds = (ofO (h ds)).bind (k3_eCall p) := rfl
@[simp] theorem ap_k1_eCall (h : List D → Option D) (p : List W × Env) : k1_eCall h p = (rds p.2 p.1).bind (k2_eCall h p) := rfl
@[simp] theorem ap_eCall (h : List D → Option D) (fs : AF) (E : Env) : eCall h fs E = (fs E).bind (k1_eCall h) := rfl
def k3_nCall (p : List W × Env) : D → Res (D × Env) := fun d => .ok (d, p.2)
def k2_nCall (h : List D → Option D) (p : List W × Env) : List D → Res (D × Env) := fun ds => (ofO (h ds)).bind (k3_nCall p)
def k1_nCall (h : List D → Option D) : List W × Env → Res (D × Env) := fun p => (rds p.2 p.1).bind (k2_nCall h p)
@[simp] theorem ap_k3_nCall (p : List W × Env) (d : D) : k3_nCall p d = .ok (d, p.2) := rfl
@[simp] theorem ap_k2_nCall (h : List D → Option D) (p : List W × Env) (ds : List D) : k2_nCall h p ds = (ofO (h ds)).bind (k3_nCall p) := rfl
@[simp] theorem ap_k1_nCall (h : List D → Option D) (p : List W × Env) : k1_nCall h p = (rds p.2 p.1).bind (k2_nCall h p) := rfl
@[simp] theorem ap_nCall (h : List D → Option D) (fs : AF) (E : Env) : nCall h fs E = (fs E).bind (k1_nCall h) := rfl
def k1_eN  : D × Env → Res (W × Env) := fun p => .ok (.dat p.1, p.2)
@[simp] theorem ap_k1_eN  (p : D × Env) : k1_eN p = .ok (.dat p.1, p.2) := rfl
@[simp] theorem ap_eN (fn : NF) (E : Env) : eN fn E = (fn E).bind k1_eN := rfl
def k3_eTup (p : List W × Env) : D → Res (W × Env) := fun d => .ok (.dat d, p.2)
def k2_eTup (p : List W × Env) : List D → Res (W × Env) := fun ds => (ofO (small ds (some (.tup ds)))).bind (k3_eTup p)
def k1_eTup  : List W × Env → Res (W × Env) := fun p => (ofO (dats p.1)).bind (k2_eTup p)
@[simp] theorem ap_k3_eTup (p : List W × Env) (d : D) : k3_eTup p d = .ok (.dat d, p.2) := rfl
@[simp] theorem ap_k2_eTup (p : List W × Env) (ds : List D) : k2_eTup p ds = (ofO (small ds (some (.tup ds)))).bind (k3_eTup p) := rfl
@[simp] theorem ap_k1_eTup  (p : List W × Env) : k1_eTup p = (ofO (dats p.1)).bind (k2_eTup p) := rfl
@[simp] theorem ap_eTup (fs : AF) (E : Env) : eTup fs E = (fs E).bind k1_eTup := rfl
def k3_nLst (p : List W × Env) : D → Res (D × Env) := fun d => .ok (d, p.2)
def k2_nLst (p : List W × Env) : List D → Res (D × Env) := fun ds => (ofO (small ds (some (.lst ds)))).bind (k3_nLst p)
def k1_nLst  : List W × Env → Res (D × Env) := fun p => (ofO (dats p.1)).bind (k2_nLst p)
@[simp] theorem ap_k3_nLst (p : List W × Env) (d : D) : k3_nLst p d = .ok (d, p.2) := rfl
@[simp] theorem ap_k2_nLst (p : List W × Env) (ds : List D) : k2_nLst p ds = (ofO (small ds (some (.lst ds)))).bind (k3_nLst p) := rfl
@[simp] theorem ap_k1_nLst  (p : List W × Env) : k1_nLst p = (ofO (dats p.1)).bind (k2_nLst p) := rfl
@[simp] theorem ap_nLst (fs : AF) (E : Env) : nLst fs E = (fs E).bind k1_nLst := rfl
def k2_nListT (p : List W × Env) : List D → Res (D × Env) := fun ds => match ds with | [.dit kd] => if kd.length ≤ 16777216 then .ok (.lst (kd.map fun x => .tup (x.1.map kD)), p.2) else .stuck | _ => .stuck
def k1_nListT  : List W × Env → Res (D × Env) := fun p => (rds p.2 p.1).bind (k2_nListT p)
@[simp] theorem ap_k2_nListT (p : List W × Env) (ds : List D) : k2_nListT p ds = match ds with | [.dit kd] => if kd.length ≤ 16777216 then .ok (.lst (kd.map fun x => .tup (x.1.map kD)), p.2) else .stuck | _ => .stuck := rfl
@[simp] theorem ap_k1_nListT  (p : List W × Env) : k1_nListT p = (rds p.2 p.1).bind (k2_nListT p) := rfl
@[simp] theorem ap_nListT (fs : AF) (E : Env) : nListT fs E = (fs E).bind k1_nListT := rfl
def k3_tB (p : W × Env) : Bool → Res (Bool × Env) := fun b => .ok (b, p.2)
def k2_tB (p : W × Env) : D → Res (Bool × Env) := fun d => (ofO (asB d)).bind (k3_tB p)
def k1_tB  : W × Env → Res (Bool × Env) := fun p => (rd p.2 p.1).bind (k2_tB p)
@[simp] theorem ap_k3_tB (p : W × Env) (b : Bool) : k3_tB p b = .ok (b, p.2) := rfl
@[simp] theorem ap_k2_tB (p : W × Env) (d : D) : k2_tB p d = (ofO (asB d)).bind (k3_tB p) := rfl
@[simp] theorem ap_k1_tB  (p : W × Env) : k1_tB p = (rd p.2 p.1).bind (k2_tB p) := rfl
@[simp] theorem ap_tB (fa : EF) (E : Env) : tB fa E = (fa E).bind k1_tB := rfl
def k1_tNt  : Bool × Env → Res (Bool × Env) := fun p => .ok (!p.1, p.2)
@[simp] theorem ap_k1_tNt  (p : Bool × Env) : k1_tNt p = .ok (!p.1, p.2) := rfl
@[simp] theorem ap_tNt (t : BF) (E : Env) : tNt t E = (t E).bind k1_tNt := rfl
def k1_tAnd_ (u : BF) : Bool × Env → Res (Bool × Env) := fun p => if p.1 = true then u p.2 else .ok (false, p.2)
@[simp] theorem ap_k1_tAnd_ (u : BF) (p : Bool × Env) : k1_tAnd_ u p = if p.1 = true then u p.2 else .ok (false, p.2) := rfl
@[simp] theorem ap_tAnd_ (t : BF) (u : BF) (E : Env) : tAnd' t u E = (t E).bind (k1_tAnd_ u) := rfl
def k1_tOr_ (u : BF) : Bool × Env → Res (Bool × Env) := fun p => if p.1 = true then .ok (true, p.2) else u p.2
@[simp] theorem ap_k1_tOr_ (u : BF) (p : Bool × Env) : k1_tOr_ u p = if p.1 = true then .ok (true, p.2) else u p.2 := rfl
@[simp] theorem ap_tOr_ (t : BF) (u : BF) (E : Env) : tOr' t u E = (t E).bind (k1_tOr_ u) := rfl
def k1_eIf (fa : EF) (fb : EF) : Bool × Env → Res (W × Env) := fun p => if p.1 = true then fa p.2 else fb p.2
@[simp] theorem ap_k1_eIf (fa : EF) (fb : EF) (p : Bool × Env) : k1_eIf fa fb p = if p.1 = true then fa p.2 else fb p.2 := rfl
@[simp] theorem ap_eIf (t : BF) (fa : EF) (fb : EF) (E : Env) : eIf t fa fb E = (t E).bind (k1_eIf fa fb) := rfl
def k1_vAnd (fb : EF) : Bool × Env → Res (W × Env) := fun p => if p.1 = true then fb p.2 else .ok (.dat (.bl false), p.2)
@[simp] theorem ap_k1_vAnd (fb : EF) (p : Bool × Env) : k1_vAnd fb p = if p.1 = true then fb p.2 else .ok (.dat (.bl false), p.2) := rfl
@[simp] theorem ap_vAnd (fa : EF) (fb : EF) (E : Env) : vAnd fa fb E = (tB fa E).bind (k1_vAnd fb) := rfl
def k1_vNot  : Bool × Env → Res (W × Env) := fun p => .ok (.dat (.bl (!p.1)), p.2)
@[simp] theorem ap_k1_vNot  (p : Bool × Env) : k1_vNot p = .ok (.dat (.bl (!p.1)), p.2) := rfl
@[simp] theorem ap_vNot (fa : EF) (E : Env) : vNot fa E = (tB fa E).bind k1_vNot := rfl
def k3_eIs (p : W × Env) : D → Res (W × Env) := fun d => .ok (.dat d, p.2)
def k2_eIs (f : String → Option Bool) (h : Addr → Option Bool) (p : W × Env) : D → Res (W × Env) := fun x => (ofO (gIs f h x)).bind (k3_eIs p)
def k1_eIs (f : String → Option Bool) (h : Addr → Option Bool) : W × Env → Res (W × Env) := fun p => (rd p.2 p.1).bind (k2_eIs f h p)
@[simp] theorem ap_k3_eIs (p : W × Env) (d : D) : k3_eIs p d = .ok (.dat d, p.2) := rfl
@[simp] theorem ap_k2_eIs (f : String → Option Bool) (h : Addr → Option Bool) (p : W × Env) (x : D) : k2_eIs f h p x = (ofO (gIs f h x)).bind (k3_eIs p) := rfl
@[simp] theorem ap_k1_eIs (f : String → Option Bool) (h : Addr → Option Bool) (p : W × Env) : k1_eIs f h p = (rd p.2 p.1).bind (k2_eIs f h p) := rfl
@[simp] theorem ap_eIs (f : String → Option Bool) (h : Addr → Option Bool) (fa : EF) (E : Env) : eIs f h fa E = (fa E).bind (k1_eIs f h) := rfl
def k2_eF (n : Nat) (fm : List D → Res D) (p : List W × Env) : List D → Res (W × Env) := fun ds => if ds.length = n then ret (fm ds) p.2 else .stuck
def k1_eF (n : Nat) (fm : List D → Res D) : List W × Env → Res (W × Env) := fun p => (ofO (dats p.1)).bind (k2_eF n fm p)
@[simp] theorem ap_k2_eF (n : Nat) (fm : List D → Res D) (p : List W × Env) (ds : List D) : k2_eF n fm p ds = if ds.length = n then ret (fm ds) p.2 else .stuck := rfl
@[simp] theorem ap_k1_eF (n : Nat) (fm : List D → Res D) (p : List W × Env) : k1_eF n fm p = (ofO (dats p.1)).bind (k2_eF n fm p) := rfl
@[simp] theorem ap_eF (n : Nat) (fm : List D → Res D) (fs : AF) (E : Env) : eF n fm fs E = (fs E).bind (k1_eF n fm) := rfl
def k4_eK (i : Nat) (n : Nat) (fm : Addr → Addr → Dk → List D → Res (D × Dk)) (p : List W × Env) (ds : List D) : Addr × Addr × Dk → Res (W × Env) := fun z => if ds.length = n then retK i z.1 z.2.1 (fm z.1 z.2.1 z.2.2 ds) p.2 else .stuck
def k3_eK (i : Nat) (n : Nat) (fm : Addr → Addr → Dk → List D → Res (D × Dk)) (p : List W × Env) : List D → Res (W × Env) := fun ds => (ofO (deckAt p.2 i)).bind (k4_eK i n fm p ds)
def k2_eK (i : Nat) (n : Nat) (fm : Addr → Addr → Dk → List D → Res (D × Dk)) : List W × Env → Res (W × Env) := fun p => (ofO (dats p.1)).bind (k3_eK i n fm p)
def k1_eK (i : Nat) (n : Nat) (fm : Addr → Addr → Dk → List D → Res (D × Dk)) (fs : AF) (E : Env) : Addr × Addr × Dk → Res (W × Env) := fun _ => (fs E).bind (k2_eK i n fm)
@[simp] theorem ap_k4_eK (i : Nat) (n : Nat) (fm : Addr → Addr → Dk → List D → Res (D × Dk)) (p : List W × Env) (ds : List D) (z : Addr × Addr × Dk) : k4_eK i n fm p ds z = if ds.length = n then retK i z.1 z.2.1 (fm z.1 z.2.1 z.2.2 ds) p.2 else .stuck := rfl
@[simp] theorem ap_k3_eK (i : Nat) (n : Nat) (fm : Addr → Addr → Dk → List D → Res (D × Dk)) (p : List W × Env) (ds : List D) : k3_eK i n fm p ds = (ofO (deckAt p.2 i)).bind (k4_eK i n fm p ds) := rfl
@[simp] theorem ap_k2_eK (i : Nat) (n : Nat) (fm : Addr → Addr → Dk → List D → Res (D × Dk)) (p : List W × Env) : k2_eK i n fm p = (ofO (dats p.1)).bind (k3_eK i n fm p) := rfl
@[simp] theorem ap_k1_eK (i : Nat) (n : Nat) (fm : Addr → Addr → Dk → List D → Res (D × Dk)) (fs : AF) (E : Env) (_z : Addr × Addr × Dk) : k1_eK i n fm fs E _z = (fs E).bind (k2_eK i n fm) := rfl
@[simp] theorem ap_eK (i : Nat) (n : Nat) (fm : Addr → Addr → Dk → List D → Res (D × Dk)) (fs : AF) (E : Env) : eK i n fm fs E = (ofO (deckAt E i)).bind (k1_eK i n fm fs E) := rfl
def k4_eFK (n : Nat) (kn : Nat) (pm : List Nat) (np : Nat) (fm : List D → Res D) (q : List W × Env) (ds : List D) : List D → Res (W × Env) := fun es => if ds.length = n ∧ es.length = kn ∧ (pick pm (ds ++ es)).length = np then ret (fm (pick pm (ds ++ es))) q.2 else .stuck
def k3_eFK (n : Nat) (kn : Nat) (pm : List Nat) (np : Nat) (fm : List D → Res D) (q : List W × Env) : List D → Res (W × Env) := fun ds => (ofO (dats q.1)).bind (k4_eFK n kn pm np fm q ds)
def k2_eFK (n : Nat) (kn : Nat) (pm : List Nat) (np : Nat) (fm : List D → Res D) (p : List W × Env) : List W × Env → Res (W × Env) := fun q => (ofO (dats p.1)).bind (k3_eFK n kn pm np fm q)
def k1_eFK (n : Nat) (kn : Nat) (pm : List Nat) (np : Nat) (fm : List D → Res D) (fk : AF) : List W × Env → Res (W × Env) := fun p => (fk p.2).bind (k2_eFK n kn pm np fm p)
@[simp] theorem ap_k4_eFK (n : Nat) (kn : Nat) (pm : List Nat) (np : Nat) (fm : List D → Res D) (q : List W × Env) (ds : List D) (es : List D) : k4_eFK n kn pm np fm q ds es = if ds.length = n ∧ es.length = kn ∧ (pick pm (ds ++ es)).length = np then ret (fm (pick pm (ds ++ es))) q.2 else .stuck := rfl
@[simp] theorem ap_k3_eFK (n : Nat) (kn : Nat) (pm : List Nat) (np : Nat) (fm : List D → Res D) (q : List W × Env) (ds : List D) : k3_eFK n kn pm np fm q ds = (ofO (dats q.1)).bind (k4_eFK n kn pm np fm q ds) := rfl
@[simp] theorem ap_k2_eFK (n : Nat) (kn : Nat) (pm : List Nat) (np : Nat) (fm : List D → Res D) (p : List W × Env) (q : List W × Env) : k2_eFK n kn pm np fm p q = (ofO (dats p.1)).bind (k3_eFK n kn pm np fm q) := rfl
@[simp] theorem ap_k1_eFK (n : Nat) (kn : Nat) (pm : List Nat) (np : Nat) (fm : List D → Res D) (fk : AF) (p : List W × Env) : k1_eFK n kn pm np fm fk p = (fk p.2).bind (k2_eFK n kn pm np fm p) := rfl
@[simp] theorem ap_eFK (n : Nat) (kn : Nat) (pm : List Nat) (np : Nat) (fm : List D → Res D) (fs : AF) (fk : AF) (E : Env) : eFK n kn pm np fm fs fk E = (fs E).bind (k1_eFK n kn pm np fm fk) := rfl
def k1_eFld (C : Addr) (f : Str) : W × Env → Res (W × Env) := fun p => match p.1 with | .dat (.obj C' fs) => if C' = C then (ofO (fs.lookup f)).bind fun d => .ok (.dat d, p.2) else .stuck | _ => .stuck
@[simp] theorem ap_k1_eFld (C : Addr) (f : Str) (p : W × Env) : k1_eFld C f p = match p.1 with | .dat (.obj C' fs) => if C' = C then (ofO (fs.lookup f)).bind fun d => .ok (.dat d, p.2) else .stuck | _ => .stuck := rfl
@[simp] theorem ap_eFld (C : Addr) (f : Str) (fa : EF) (E : Env) : eFld C f fa E = (fa E).bind (k1_eFld C f) := rfl
def k2_eM1 (h : D → List D → Option D) (fb : EF) (p : W × Env) : D → Res (W × Env) := fun x => match x with | .str s => (fb p.2).bind fun q => (rd q.2 q.1).bind fun y => (ofO (h (.str s) [y])).bind fun d => .ok (.dat d, q.2) | _ => .stuck
def k1_eM1 (h : D → List D → Option D) (fb : EF) : W × Env → Res (W × Env) := fun p => (rd p.2 p.1).bind (k2_eM1 h fb p)
@[simp] theorem ap_k1_eM1 (h : D → List D → Option D) (fb : EF) (p : W × Env) : k1_eM1 h fb p = (rd p.2 p.1).bind (k2_eM1 h fb p) := rfl
@[simp] theorem ap_eM1 (h : D → List D → Option D) (fa : EF) (fb : EF) (E : Env) : eM1 h fa fb E = (fa E).bind (k1_eM1 h fb) := rfl
def k3_oSo (p : W × Env) : Int → Res (Option Int × Env) := fun i => .ok (some i, p.2)
def k2_oSo (p : W × Env) : D → Res (Option Int × Env) := fun d => (ofO (asI d)).bind (k3_oSo p)
def k1_oSo  : W × Env → Res (Option Int × Env) := fun p => (rd p.2 p.1).bind (k2_oSo p)
@[simp] theorem ap_k3_oSo (p : W × Env) (i : Int) : k3_oSo p i = .ok (some i, p.2) := rfl
@[simp] theorem ap_k2_oSo (p : W × Env) (d : D) : k2_oSo p d = (ofO (asI d)).bind (k3_oSo p) := rfl
@[simp] theorem ap_k1_oSo  (p : W × Env) : k1_oSo p = (rd p.2 p.1).bind (k2_oSo p) := rfl
@[simp] theorem ap_oSo (fa : EF) (E : Env) : oSo fa E = (fa E).bind k1_oSo := rfl
def k5_eSl (r : Option Int × Env) : D → Res (W × Env) := fun d => .ok (.dat d, r.2)
def k4_eSl (h : D → Option Int → Option Int → Option D) (q : Option Int × Env) (r : Option Int × Env) : D → Res (W × Env) := fun x => (ofO (h x q.1 r.1)).bind (k5_eSl r)
def k3_eSl (h : D → Option Int → Option Int → Option D) (p : W × Env) (q : Option Int × Env) : Option Int × Env → Res (W × Env) := fun r => (rd r.2 p.1).bind (k4_eSl h q r)
def k2_eSl (h : D → Option Int → Option Int → Option D) (oh : OF) (p : W × Env) : Option Int × Env → Res (W × Env) := fun q => (oh q.2).bind (k3_eSl h p q)
def k1_eSl (h : D → Option Int → Option Int → Option D) (ol : OF) (oh : OF) : W × Env → Res (W × Env) := fun p => (ol p.2).bind (k2_eSl h oh p)
@[simp] theorem ap_k5_eSl (r : Option Int × Env) (d : D) : k5_eSl r d = .ok (.dat d, r.2) := rfl
@[simp] theorem ap_k4_eSl (h : D → Option Int → Option Int → Option D) (q : Option Int × Env) (r : Option Int × Env) (x : D) : k4_eSl h q r x = (ofO (h x q.1 r.1)).bind (k5_eSl r) := rfl
@[simp] theorem ap_k3_eSl (h : D → Option Int → Option Int → Option D) (p : W × Env) (q : Option Int × Env) (r : Option Int × Env) : k3_eSl h p q r = (rd r.2 p.1).bind (k4_eSl h q r) := rfl
@[simp] theorem ap_k2_eSl (h : D → Option Int → Option Int → Option D) (oh : OF) (p : W × Env) (q : Option Int × Env) : k2_eSl h oh p q = (oh q.2).bind (k3_eSl h p q) := rfl
@[simp] theorem ap_k1_eSl (h : D → Option Int → Option Int → Option D) (ol : OF) (oh : OF) (p : W × Env) : k1_eSl h ol oh p = (ol p.2).bind (k2_eSl h oh p) := rfl
@[simp] theorem ap_eSl (h : D → Option Int → Option Int → Option D) (fa : EF) (ol : OF) (oh : OF) (E : Env) : eSl h fa ol oh E = (fa E).bind (k1_eSl h ol oh) := rfl
def k3_iSq (p : W × Env) : List D → Res (List D × Env) := fun ds => .ok (ds, p.2)
def k2_iSq (p : W × Env) : D → Res (List D × Env) := fun d => (ofO (sqD d)).bind (k3_iSq p)
def k1_iSq  : W × Env → Res (List D × Env) := fun p => (ofO (asDat p.1)).bind (k2_iSq p)
@[simp] theorem ap_k3_iSq (p : W × Env) (ds : List D) : k3_iSq p ds = .ok (ds, p.2) := rfl
@[simp] theorem ap_k2_iSq (p : W × Env) (d : D) : k2_iSq p d = (ofO (sqD d)).bind (k3_iSq p) := rfl
@[simp] theorem ap_k1_iSq  (p : W × Env) : k1_iSq p = (ofO (asDat p.1)).bind (k2_iSq p) := rfl
@[simp] theorem ap_iSq (fa : EF) (E : Env) : iSq fa E = (fa E).bind k1_iSq := rfl
def k1_iZ  : List W × Env → Res (List D × Env) := fun p => match p.1 with | [.dat a, .dat b] => (ofO (sqD a)).bind fun x => (ofO (sqD b)).bind fun y => .ok ((List.zip x y).map fun p => .tup [p.1, p.2], p.2) | _ => .stuck
@[simp] theorem ap_k1_iZ  (p : List W × Env) : k1_iZ p = match p.1 with | [.dat a, .dat b] => (ofO (sqD a)).bind fun x => (ofO (sqD b)).bind fun y => .ok ((List.zip x y).map fun p => .tup [p.1, p.2], p.2) | _ => .stuck := rfl
@[simp] theorem ap_iZ (fs : AF) (E : Env) : iZ fs E = (fs E).bind k1_iZ := rfl
def k1_iN  : List W × Env → Res (List D × Env) := fun p => match p.1 with | [.dat a] => (ofO (sqD a)).bind fun x => .ok (numD 0 x, p.2) | _ => .stuck
@[simp] theorem ap_k1_iN  (p : List W × Env) : k1_iN p = match p.1 with | [.dat a] => (ofO (sqD a)).bind fun x => .ok (numD 0 x, p.2) | _ => .stuck := rfl
@[simp] theorem ap_iN (fs : AF) (E : Env) : iN fs E = (fs E).bind k1_iN := rfl
def k1_iNk (k0 : Int) : List W × Env → Res (List D × Env) := fun p => match p.1 with | [.dat a] => (ofO (sqD a)).bind fun x => .ok (numD k0 x, p.2) | _ => .stuck
@[simp] theorem ap_k1_iNk (k0 : Int) (p : List W × Env) : k1_iNk k0 p = match p.1 with | [.dat a] => (ofO (sqD a)).bind fun x => .ok (numD k0 x, p.2) | _ => .stuck := rfl
@[simp] theorem ap_iNk (k0 : Int) (fs : AF) (E : Env) : iNk k0 fs E = (fs E).bind (k1_iNk k0) := rfl
def k1_iR1  : List W × Env → Res (List D × Env) := fun p => match p.1 with | [.dat (.int j)] => if j ≤ 16777216 ∧ -(2 ^ 62) ≤ j then .ok (rgD 0 j.toNat, p.2) else .stuck | _ => .stuck
@[simp] theorem ap_k1_iR1  (p : List W × Env) : k1_iR1 p = match p.1 with | [.dat (.int j)] => if j ≤ 16777216 ∧ -(2 ^ 62) ≤ j then .ok (rgD 0 j.toNat, p.2) else .stuck | _ => .stuck := rfl
@[simp] theorem ap_iR1 (fs : AF) (E : Env) : iR1 fs E = (fs E).bind k1_iR1 := rfl
def k1_nComp (vs : List Nat) (h : GF) (fc : BF) (fe : EF) : List D × Env → Res (D × Env) := fun p => if vs.all (fun v => plainC p.2[v]?) = true then compL vs h fc fe p.2 p.1 [] p.2 else .stuck
@[simp] theorem ap_k1_nComp (vs : List Nat) (h : GF) (fc : BF) (fe : EF) (p : List D × Env) : k1_nComp vs h fc fe p = if vs.all (fun v => plainC p.2[v]?) = true then compL vs h fc fe p.2 p.1 [] p.2 else .stuck := rfl
@[simp] theorem ap_nComp (vs : List Nat) (fi : IF) (h : GF) (fc : BF) (fe : EF) (E : Env) : nComp vs fi h fc fe E = (fi E).bind (k1_nComp vs h fc fe) := rfl
def k2_nM1 (h : D → List D → Option D) (fb : EF) (p : W × Env) : D → Res (D × Env) := fun x => match x with | .str s => (fb p.2).bind fun q => (rd q.2 q.1).bind fun y => (ofO (h (.str s) [y])).bind fun d => .ok (d, q.2) | _ => .stuck
def k1_nM1 (h : D → List D → Option D) (fb : EF) : W × Env → Res (D × Env) := fun p => (rd p.2 p.1).bind (k2_nM1 h fb p)
@[simp] theorem ap_k1_nM1 (h : D → List D → Option D) (fb : EF) (p : W × Env) : k1_nM1 h fb p = (rd p.2 p.1).bind (k2_nM1 h fb p) := rfl
@[simp] theorem ap_nM1 (h : D → List D → Option D) (fa : EF) (fb : EF) (E : Env) : nM1 h fa fb E = (fa E).bind (k1_nM1 h fb) := rfl
def k1_sSeq (s2 : SF) : Fl × Env → Res (Fl × Env) := fun p => match p.1 with | .nx => s2 p.2 | fl => .ok (fl, p.2)
@[simp] theorem ap_k1_sSeq (s2 : SF) (p : Fl × Env) : k1_sSeq s2 p = match p.1 with | .nx => s2 p.2 | fl => .ok (fl, p.2) := rfl
@[simp] theorem ap_sSeq (s1 : SF) (s2 : SF) (E : Env) : sSeq s1 s2 E = (s1 E).bind (k1_sSeq s2) := rfl
def k1_sEx  : W × Env → Res (Fl × Env) := fun p => .ok (.nx, p.2)
@[simp] theorem ap_k1_sEx  (p : W × Env) : k1_sEx p = .ok (.nx, p.2) := rfl
@[simp] theorem ap_sEx (fa : EF) (E : Env) : sEx fa E = (fa E).bind k1_sEx := rfl
def k1_sRet  : W × Env → Res (Fl × Env) := fun p => match p.1 with | .dat d => .ok (.rt d, p.2) | .own i => match p.2[i]? with | some (.own d) => .ok (.rt d, p.2.set i (.dat d)) | _ => .stuck
@[simp] theorem ap_k1_sRet  (p : W × Env) : k1_sRet p = match p.1 with | .dat d => .ok (.rt d, p.2) | .own i => match p.2[i]? with | some (.own d) => .ok (.rt d, p.2.set i (.dat d)) | _ => .stuck := rfl
@[simp] theorem ap_sRet (fa : EF) (E : Env) : sRet fa E = (fa E).bind k1_sRet := rfl
def k1_sIf (s1 : SF) (s2 : SF) : Bool × Env → Res (Fl × Env) := fun p => if p.1 = true then s1 p.2 else s2 p.2
@[simp] theorem ap_k1_sIf (s1 : SF) (s2 : SF) (p : Bool × Env) : k1_sIf s1 s2 p = if p.1 = true then s1 p.2 else s2 p.2 := rfl
@[simp] theorem ap_sIf (t : BF) (s1 : SF) (s2 : SF) (E : Env) : sIf t s1 s2 E = (t E).bind (k1_sIf s1 s2) := rfl
def k1_sSet (i : Nat) : W × Env → Res (Fl × Env) := fun p => match p.1 with | .dat d => .ok (.nx, p.2.set i (.dat d)) | .own _ => .stuck
@[simp] theorem ap_k1_sSet (i : Nat) (p : W × Env) : k1_sSet i p = match p.1 with | .dat d => .ok (.nx, p.2.set i (.dat d)) | .own _ => .stuck := rfl
@[simp] theorem ap_sSet (i : Nat) (fa : EF) (E : Env) : sSet i fa E = (fa E).bind (k1_sSet i) := rfl
def k1_sSetN (i : Nat) : D × Env → Res (Fl × Env) := fun p => if i < p.2.length then .ok (.nx, p.2.set i (.own p.1)) else .stuck
@[simp] theorem ap_k1_sSetN (i : Nat) (p : D × Env) : k1_sSetN i p = if i < p.2.length then .ok (.nx, p.2.set i (.own p.1)) else .stuck := rfl
@[simp] theorem ap_sSetN (i : Nat) (fn : NF) (E : Env) : sSetN i fn E = (fn E).bind (k1_sSetN i) := rfl
def k1_sFor (h : GF) (s1 : SF) : List D × Env → Res (Fl × Env) := fun p => forL h s1 p.1 p.2
@[simp] theorem ap_k1_sFor (h : GF) (s1 : SF) (p : List D × Env) : k1_sFor h s1 p = forL h s1 p.1 p.2 := rfl
@[simp] theorem ap_sFor (fi : IF) (h : GF) (s1 : SF) (E : Env) : sFor fi h s1 E = (fi E).bind (k1_sFor h s1) := rfl
def k3_sAsg  : Env → Res (Fl × Env) := fun E1 => .ok (.nx, E1)
def k2_sAsg (h : GF) (p : W × Env) : D → Res (Fl × Env) := fun d => (ofO (h d p.2)).bind k3_sAsg
def k1_sAsg (h : GF) : W × Env → Res (Fl × Env) := fun p => (ofO (asDat p.1)).bind (k2_sAsg h p)
@[simp] theorem ap_k3_sAsg  (E1 : Env) : k3_sAsg E1 = .ok (.nx, E1) := rfl
@[simp] theorem ap_k2_sAsg (h : GF) (p : W × Env) (d : D) : k2_sAsg h p d = (ofO (h d p.2)).bind k3_sAsg := rfl
@[simp] theorem ap_k1_sAsg (h : GF) (p : W × Env) : k1_sAsg h p = (ofO (asDat p.1)).bind (k2_sAsg h p) := rfl
@[simp] theorem ap_sAsg (h : GF) (fa : EF) (E : Env) : sAsg h fa E = (fa E).bind (k1_sAsg h) := rfl
def k5_eOM (i : Nat) (p : List W × Env) : D × List D → Res (W × Env) := fun r => .ok (.dat r.1, p.2.set i (.own (.lst r.2)))
def k4_eOM (i : Nat) (h : List D → List D → Option (D × List D)) (p : List W × Env) (es : List D) : List D → Res (W × Env) := fun ds => (ofO (h ds es)).bind (k5_eOM i p)
def k3_eOM (i : Nat) (h : List D → List D → Option (D × List D)) (p : List W × Env) : List D → Res (W × Env) := fun es => (ofO (ownL p.2 i)).bind (k4_eOM i h p es)
def k2_eOM (i : Nat) (h : List D → List D → Option (D × List D)) : List W × Env → Res (W × Env) := fun p => (ofO (dats p.1)).bind (k3_eOM i h p)
def k1_eOM (i : Nat) (h : List D → List D → Option (D × List D)) (fs : AF) (E : Env) : List D → Res (W × Env) := fun _ => (fs E).bind (k2_eOM i h)
@[simp] theorem ap_k5_eOM (i : Nat) (p : List W × Env) (r : D × List D) : k5_eOM i p r = .ok (.dat r.1, p.2.set i (.own (.lst r.2))) := rfl
@[simp] theorem ap_k4_eOM (i : Nat) (h : List D → List D → Option (D × List D)) (p : List W × Env) (es : List D) (ds : List D) : k4_eOM i h p es ds = (ofO (h ds es)).bind (k5_eOM i p) := rfl
@[simp] theorem ap_k3_eOM (i : Nat) (h : List D → List D → Option (D × List D)) (p : List W × Env) (es : List D) : k3_eOM i h p es = (ofO (ownL p.2 i)).bind (k4_eOM i h p es) := rfl
@[simp] theorem ap_k2_eOM (i : Nat) (h : List D → List D → Option (D × List D)) (p : List W × Env) : k2_eOM i h p = (ofO (dats p.1)).bind (k3_eOM i h p) := rfl
@[simp] theorem ap_k1_eOM (i : Nat) (h : List D → List D → Option (D × List D)) (fs : AF) (E : Env) (_z : List D) : k1_eOM i h fs E _z = (fs E).bind (k2_eOM i h) := rfl
@[simp] theorem ap_eOM (i : Nat) (h : List D → List D → Option (D × List D)) (fs : AF) (E : Env) : eOM i h fs E = (ofO (ownL E i)).bind (k1_eOM i h fs E) := rfl
def k7_sPut (i : Nat) (q : W × Env) : D → Res (Fl × Env) := fun e => .ok (.nx, q.2.set i (.own e))
def k6_sPut (i : Nat) (v : D) (q : W × Env) (k : D) : D → Res (Fl × Env) := fun d => (ofO (putO d k v)).bind (k7_sPut i q)
def k5_sPut (i : Nat) (v : D) (q : W × Env) : D → Res (Fl × Env) := fun k => (ofO (ownO q.2 i)).bind (k6_sPut i v q k)
def k4_sPut (i : Nat) (v : D) : W × Env → Res (Fl × Env) := fun q => (rd q.2 q.1).bind (k5_sPut i v q)
def k3_sPut (i : Nat) (fk : EF) (p : W × Env) (v : D) : D → Res (Fl × Env) := fun _ => (fk p.2).bind (k4_sPut i v)
def k2_sPut (i : Nat) (fk : EF) (p : W × Env) : D → Res (Fl × Env) := fun v => (ofO (ownO p.2 i)).bind (k3_sPut i fk p v)
def k1_sPut (i : Nat) (fk : EF) : W × Env → Res (Fl × Env) := fun p => (ofO (asDat p.1)).bind (k2_sPut i fk p)
@[simp] theorem ap_k7_sPut (i : Nat) (q : W × Env) (e : D) : k7_sPut i q e = .ok (.nx, q.2.set i (.own e)) := rfl
@[simp] theorem ap_k6_sPut (i : Nat) (v : D) (q : W × Env) (k : D) (d : D) : k6_sPut i v q k d = (ofO (putO d k v)).bind (k7_sPut i q) := rfl
@[simp] theorem ap_k5_sPut (i : Nat) (v : D) (q : W × Env) (k : D) : k5_sPut i v q k = (ofO (ownO q.2 i)).bind (k6_sPut i v q k) := rfl
@[simp] theorem ap_k4_sPut (i : Nat) (v : D) (q : W × Env) : k4_sPut i v q = (rd q.2 q.1).bind (k5_sPut i v q) := rfl
@[simp] theorem ap_k3_sPut (i : Nat) (fk : EF) (p : W × Env) (v : D) (_z : D) : k3_sPut i fk p v _z = (fk p.2).bind (k4_sPut i v) := rfl
@[simp] theorem ap_k2_sPut (i : Nat) (fk : EF) (p : W × Env) (v : D) : k2_sPut i fk p v = (ofO (ownO p.2 i)).bind (k3_sPut i fk p v) := rfl
@[simp] theorem ap_k1_sPut (i : Nat) (fk : EF) (p : W × Env) : k1_sPut i fk p = (ofO (asDat p.1)).bind (k2_sPut i fk p) := rfl
@[simp] theorem ap_sPut (i : Nat) (fk : EF) (fv : EF) (E : Env) : sPut i fk fv E = (fv E).bind (k1_sPut i fk) := rfl
def k1_sPar (is : List Nat) : List (Bool × D) × Env → Res (Fl × Env) := fun p => if p.1.length = is.length ∧ (is.all fun i => decide (i < p.2.length)) = true then .ok (.nx, setE is p.2 p.1) else .stuck
@[simp] theorem ap_k1_sPar (is : List Nat) (p : List (Bool × D) × Env) : k1_sPar is p = if p.1.length = is.length ∧ (is.all fun i => decide (i < p.2.length)) = true then .ok (.nx, setE is p.2 p.1) else .stuck := rfl
@[simp] theorem ap_sPar (is : List Nat) (l : List EN) (E : Env) : sPar is l E = (evN l E).bind (k1_sPar is) := rfl
def k1_nDis  : List (Key × D) × Env → Res (D × Env) := fun p => if p.1.length ≤ 15 then .ok (.dic (mergeM [] p.1), p.2) else .stuck
@[simp] theorem ap_k1_nDis  (p : List (Key × D) × Env) : k1_nDis p = if p.1.length ≤ 15 then .ok (.dic (mergeM [] p.1), p.2) else .stuck := rfl
@[simp] theorem ap_nDis (l : List (Str × EF)) (E : Env) : nDis l E = (disL l E).bind k1_nDis := rfl
def k2_nMk (C : Addr) (n : Nat) (fm : List D → Res (List (Str × D))) (p : List W × Env) : List D → Res (D × Env) := fun ds => if ds.length = n then (match fm ds with | .ok l => .ok (.obj C l, p.2) | .err x _ => .err x p.2 | .stuck => .stuck) else .stuck
def k1_nMk (C : Addr) (n : Nat) (fm : List D → Res (List (Str × D))) : List W × Env → Res (D × Env) := fun p => (ofO (dats p.1)).bind (k2_nMk C n fm p)
@[simp] theorem ap_k2_nMk (C : Addr) (n : Nat) (fm : List D → Res (List (Str × D))) (p : List W × Env) (ds : List D) : k2_nMk C n fm p ds = if ds.length = n then (match fm ds with | .ok l => .ok (.obj C l, p.2) | .err x _ => .err x p.2 | .stuck => .stuck) else .stuck := rfl
@[simp] theorem ap_k1_nMk (C : Addr) (n : Nat) (fm : List D → Res (List (Str × D))) (p : List W × Env) : k1_nMk C n fm p = (ofO (dats p.1)).bind (k2_nMk C n fm p) := rfl
@[simp] theorem ap_nMk (C : Addr) (n : Nat) (fm : List D → Res (List (Str × D))) (fs : AF) (E : Env) : nMk C n fm fs E = (fs E).bind (k1_nMk C n fm) := rfl
def k3_sFldD (i : Nat) (C : Addr) (f : Str) (p : W × Env) (d : D) : Addr × List (Str × D) → Res (Fl × Env) := fun z => .ok (.nx, p.2.set i (.slf z.1 (.obj C (setF f d z.2))))
def k2_sFldD (i : Nat) (C : Addr) (f : Str) (p : W × Env) : D → Res (Fl × Env) := fun d => (ofO (slfAt p.2 i C)).bind (k3_sFldD i C f p d)
def k1_sFldD (i : Nat) (C : Addr) (f : Str) : W × Env → Res (Fl × Env) := fun p => (ofO (asDat p.1)).bind (k2_sFldD i C f p)
@[simp] theorem ap_k3_sFldD (i : Nat) (C : Addr) (f : Str) (p : W × Env) (d : D) (z : Addr × List (Str × D)) : k3_sFldD i C f p d z = .ok (.nx, p.2.set i (.slf z.1 (.obj C (setF f d z.2)))) := rfl
@[simp] theorem ap_k2_sFldD (i : Nat) (C : Addr) (f : Str) (p : W × Env) (d : D) : k2_sFldD i C f p d = (ofO (slfAt p.2 i C)).bind (k3_sFldD i C f p d) := rfl
@[simp] theorem ap_k1_sFldD (i : Nat) (C : Addr) (f : Str) (p : W × Env) : k1_sFldD i C f p = (ofO (asDat p.1)).bind (k2_sFldD i C f p) := rfl
@[simp] theorem ap_sFldD (i : Nat) (C : Addr) (f : Str) (fa : EF) (E : Env) : sFldD i C f fa E = (fa E).bind (k1_sFldD i C f) := rfl
@[simp] theorem ap_k2_eM1s (h : D → List D → Option D) (fb : EF) (p : W × Env) (s : Str) : k2_eM1 h fb p (.str s) = (fb p.2).bind fun q => (rd q.2 q.1).bind fun y => (ofO (h (.str s) [y])).bind fun d => .ok (.dat d, q.2) := rfl
@[simp] theorem ap_k2_nM1s (h : D → List D → Option D) (fb : EF) (p : W × Env) (s : Str) : k2_nM1 h fb p (.str s) = (fb p.2).bind fun q => (rd q.2 q.1).bind fun y => (ofO (h (.str s) [y])).bind fun d => .ok (d, q.2) := rfl
@[simp] theorem ap_k2_eM1d (h : D → List D → Option D) (fb : EF) (p : W × Env) (l : List Nat) : k2_eM1 h fb p (dS l) = (fb p.2).bind fun q => (rd q.2 q.1).bind fun y => (ofO (h (dS l) [y])).bind fun d => .ok (.dat d, q.2) := rfl
@[simp] theorem ap_k2_nM1d (h : D → List D → Option D) (fb : EF) (p : W × Env) (l : List Nat) : k2_nM1 h fb p (dS l) = (fb p.2).bind fun q => (rd q.2 q.1).bind fun y => (ofO (h (dS l) [y])).bind fun d => .ok (d, q.2) := rfl
@[simp] theorem ap_k2_eM1c (h : D → List D → Option D) (fb : EF) (p : W × Env) (l : Nat) : k2_eM1 h fb p (dC l) = (fb p.2).bind fun q => (rd q.2 q.1).bind fun y => (ofO (h (dC l) [y])).bind fun d => .ok (.dat d, q.2) := rfl
@[simp] theorem ap_k2_nM1c (h : D → List D → Option D) (fb : EF) (p : W × Env) (l : Nat) : k2_nM1 h fb p (dC l) = (fb p.2).bind fun q => (rd q.2 q.1).bind fun y => (ofO (h (dC l) [y])).bind fun d => .ok (d, q.2) := rfl
@[simp] theorem ap_eC (d : D) (E : Env) : eC d E = .ok (.dat d, E) := rfl
@[simp] theorem ap_aN (E : Env) : aN E = .ok ([], E) := rfl
@[simp] theorem ap_nNil (E : Env) : nNil E = .ok (.lst [], E) := rfl
@[simp] theorem ap_nDT (E : Env) : nDT E = .ok (.dit [], E) := rfl
@[simp] theorem ap_oNo (E : Env) : oNo E = .ok (none, E) := rfl
@[simp] theorem ap_tYes (E : Env) : tYes' E = .ok (true, E) := rfl
@[simp] theorem ap_sNx (E : Env) : sNx E = .ok (.nx, E) := rfl
@[simp] theorem ap_evN0 (E : Env) : evN [] E = .ok ([], E) := rfl
def k2_evNe (d : D) : List (Bool × D) × Env → Res (List (Bool × D) × Env) := fun q => .ok ((false, d) :: q.1, q.2)
@[simp] theorem ap_k2_evNe (d : D) (q : List (Bool × D) × Env) : k2_evNe d q = .ok ((false, d) :: q.1, q.2) := rfl
def k1_evNe (r : List EN) : W × Env → Res (List (Bool × D) × Env) := fun p => (ofO (asDat p.1)).bind fun d => (evN r p.2).bind (k2_evNe d)
@[simp] theorem ap_k1_evNe (r : List EN) (d : D) (E : Env) : k1_evNe r (.dat d, E) = (evN r E).bind (k2_evNe d) := rfl
@[simp] theorem ap_evNe (f : EF) (r : List EN) (E : Env) : evN (.e f :: r) E = (f E).bind (k1_evNe r) := rfl
def k2_evNn (d : D) : List (Bool × D) × Env → Res (List (Bool × D) × Env) := fun q => .ok ((true, d) :: q.1, q.2)
@[simp] theorem ap_k2_evNn (d : D) (q : List (Bool × D) × Env) : k2_evNn d q = .ok ((true, d) :: q.1, q.2) := rfl
def k1_evNn (r : List EN) : D × Env → Res (List (Bool × D) × Env) := fun p => (evN r p.2).bind (k2_evNn p.1)
@[simp] theorem ap_k1_evNn (r : List EN) (p : D × Env) : k1_evNn r p = (evN r p.2).bind (k2_evNn p.1) := rfl
@[simp] theorem ap_evNn (f : NF) (r : List EN) (E : Env) : evN (.n f :: r) E = (f E).bind (k1_evNn r) := rfl
@[simp] theorem ap_disL0 (E : Env) : disL [] E = .ok ([], E) := rfl
def k2_disL (k : Str) (d : D) : List (Key × D) × Env → Res (List (Key × D) × Env) := fun q => .ok ((.inr k, d) :: q.1, q.2)
@[simp] theorem ap_k2_disL (k : Str) (d : D) (q : List (Key × D) × Env) : k2_disL k d q = .ok ((.inr k, d) :: q.1, q.2) := rfl
def k1_disL (k : Str) (r : List (Str × EF)) : W × Env → Res (List (Key × D) × Env) := fun p => (ofO (asDat p.1)).bind fun d => (disL r p.2).bind (k2_disL k d)
@[simp] theorem ap_k1_disL (k : Str) (r : List (Str × EF)) (d : D) (E : Env) : k1_disL k r (.dat d, E) = (disL r E).bind (k2_disL k d) := rfl
@[simp] theorem ap_disL (k : Str) (f : EF) (r : List (Str × EF)) (E : Env) : disL ((k, f) :: r) E = (f E).bind (k1_disL k r) := rfl
@[simp] theorem setE_own (i : Nat) (is : List Nat) (E : Env) (d : D) (ds : List (Bool × D)) : setE (i :: is) E ((true, d) :: ds) = setE is (E.set i (.own d)) ds := rfl
@[simp] theorem setE_dat (i : Nat) (is : List Nat) (E : Env) (d : D) (ds : List (Bool × D)) : setE (i :: is) E ((false, d) :: ds) = setE is (E.set i (.dat d)) ds := rfl
@[simp] theorem setE_nil (E : Env) (ds : List (Bool × D)) : setE [] E ds = E := rfl
@[simp] theorem kit_ss : kitB "str" "str" = some true := by decide +kernel
@[simp] theorem kit_tt : kitB "tuple" "tuple" = some true := by decide +kernel
@[simp] theorem ret_ok {d : D} {E : Env} : ret (.ok d) E = .ok (.dat d, E) := rfl
@[simp] theorem retK_ok {i : Nat} {a q : Addr} {d : D} {l : List Int} {b : Int} {E : Env} : retK i a q (.ok (d, ⟨l, b⟩)) E = .ok (.dat d, E.set i (.deck a q l b)) := rfl
@[simp] theorem noErr_ok {α : Type} (a : α) : noErr (.ok a) = .ok a := rfl
@[simp] theorem asB_bl (b : Bool) : asB (.bl b) = some b := rfl
@[simp] theorem asI_int (i : Int) : asI (.int i) = some i := rfl
@[simp] theorem asDat_dat (d : D) : asDat (.dat d) = some d := rfl
@[simp] theorem outF_rt (d : D) (E : Env) : outF (.ok (.rt d, E)) = .ok d := rfl
@[simp] theorem outF_nx (E : Env) : outF (.ok (.nx, E)) = .ok .non := rfl
@[simp] theorem dats_nil : dats [] = some [] := rfl
@[simp] theorem dats_cons (d : D) (ws : List W) : dats (.dat d :: ws) = (dats ws).map (d :: ·) := rfl
@[simp] theorem rds_nil (E : Env) : rds E [] = .ok [] := rfl
@[simp] theorem rds_dat (E : Env) (d : D) (ws : List W) : rds E (.dat d :: ws) = (rds E ws).bind fun ds => .ok (d :: ds) := rfl
@[simp] theorem sqD_str (x : Str) : sqD (.str x) = some (signs x) := rfl
@[simp] theorem sqD_lst (x : List D) : sqD (.lst x) = some x := rfl
@[simp] theorem sqD_tup (x : List D) : sqD (.tup x) = some x := rfl
@[simp] theorem bind_ite {α β : Type} {c : Prop} [Decidable c] {x y : Res α} {f : α → Res β} : (if c then x else y).bind f = if c then x.bind f else y.bind f := by
  split <;> rfl
end DL
namespace DL
open PySem PySem.Spec PyProof.Rows L2 TL
theorem compL_map {α : Type} {vs : List Nat} {g : GF} {fc : BF} {fe : EF} {E0 E : Env} (f : α → D) (E1 : α → Env) (p : α → Bool) (y : α → D) (l : List α) (h : ∀ a ∈ l, g (f a) (wipeE E vs) = some (E1 a) ∧ fc (E1 a) = .ok (p a, E1 a) ∧ (p a = true → fe (E1 a) = .ok (.dat (y a), E1 a)) ∧ backE E0 (E1 a) vs = E) (acc : List D) :
    compL vs g fc fe E0 (l.map f) acc E = .ok (.lst (acc ++ (l.filter p).map y), E) := by
  induction l generalizing acc with
  | nil => simp [compL]
  | cons d ds ih =>
    obtain ⟨h1, h2, h3, h4⟩ := h d List.mem_cons_self
    have ih := ih fun d hd => h d (List.mem_cons_of_mem _ hd)
    rw [List.map_cons, compL, h1]
    cases hp : p d with
    | false =>
      simp only [ofO_some, Res.ok_bind, h2, hp, noErr, if_neg Bool.false_ne_true, h4, ih, List.filter_cons]
    | true =>
      simp only [ofO_some, Res.ok_bind, h2, hp, noErr, if_pos, h3 hp, asDat, h4, ih, List.filter_cons, List.map_cons, List.append_assoc, List.singleton_append]
theorem bls_map {α : Type} (q : α → Bool) : ∀ l : List α, bls (l.map fun a => D.bl (q a)) = some (l.map q)
  | [] => rfl
  | a :: l => by
    show (bls (l.map fun a => D.bl (q a))).map (q a :: ·) = _
    rw [bls_map q l]; rfl
@[simp] theorem gAll_map {α : Type} (q : α → Bool) (l : List α) : gAll [.lst (l.map fun a => D.bl (q a))] = some (.bl (l.all q)) := by
  show (bls (l.map fun a => D.bl (q a))).map (fun l => D.bl (l.all id)) = _
  rw [bls_map]
  show some (D.bl ((l.map q).all id)) = _
  rw [List.all_map]; rfl
theorem zip_two {α β : Type} (f : α → D) (g : β → D) (a : List α) (b : List β) : (List.zip (a.map f) (b.map g)).map (fun p => D.tup [p.1, p.2]) = (List.zip a b).map fun p => .tup [f p.1, g p.2] := by
  rw [List.zip_map, List.map_map]; rfl
/-- strictly ascending -/
def ascB {α : Type} (lt : α → α → Bool) : List α → Bool
  | [] => true
  | [_] => true
  | a :: b :: r => lt a b && ascB lt (b :: r)
theorem ascB_zip {α : Type} (lt : α → α → Bool) : ∀ l : List α, (List.zip l.dropLast l.tail).all (fun p => lt p.1 p.2) = ascB lt l
  | [] => rfl
  | [_] => rfl
  | a :: b :: r => by
    have ih := ascB_zip lt (b :: r)
    rw [ascB, ← ih]; rfl
theorem sl_init {α : Type} (xs : List α) : (xs.drop (HT.sIx xs.length 0 none)).take (HT.sIx xs.length xs.length (some (-1)) - HT.sIx xs.length 0 none) = xs.dropLast := by
  have e0 : HT.sIx xs.length 0 none = 0 := rfl
  rw [e0, List.drop_zero, List.dropLast_eq_take]
  have e1 : HT.sIx xs.length xs.length (some (-1)) = xs.length - 1 := by
    unfold HT.sIx
    cases h : xs.length <;> simp <;> omega
  rw [e1]; simp
theorem sl_tail {α : Type} (xs : List α) : (xs.drop (HT.sIx xs.length 0 (some 1))).take (HT.sIx xs.length xs.length none - HT.sIx xs.length 0 (some 1)) = xs.tail := by
  have e0 : HT.sIx xs.length xs.length none = xs.length := rfl
  rw [e0]
  have e1 : HT.sIx xs.length 0 (some 1) = min 1 xs.length := by
    unfold HT.sIx
    cases h : xs.length <;> simp <;> omega
  rw [e1, ← List.drop_one]
  cases xs with
  | nil => rfl
  | cons a r => simp
@[simp] theorem gSl_init_str (l : List Nat) : gSl (.str (T l)) none (some (-1)) = some (.str (T l.dropLast)) := by
  have h := sl_init l
  show some (D.str (T ((l.drop (HT.sIx l.length 0 none)).take (HT.sIx l.length l.length (some (-1)) - HT.sIx l.length 0 none)))) = _
  rw [h]
@[simp] theorem gSl_tail_str (l : List Nat) : gSl (.str (T l)) (some 1) none = some (.str (T l.tail)) := by
  have h := sl_tail l
  show some (D.str (T ((l.drop (HT.sIx l.length 0 (some 1))).take (HT.sIx l.length l.length none - HT.sIx l.length 0 (some 1))))) = _
  rw [h]
@[simp] theorem gSl_init_tup (l : List D) : gSl (.tup l) none (some (-1)) = some (.tup l.dropLast) := congrArg (fun x => some (D.tup x)) (sl_init l)
@[simp] theorem gSl_tail_tup (l : List D) : gSl (.tup l) (some 1) none = some (.tup l.tail) := congrArg (fun x => some (D.tup x)) (sl_tail l)
theorem eqv_int (i j : Int) : PyData.eqv (.int i) (.int j) = decide (i = j) := by
  show (i == j) = _
  by_cases h : i = j
  · subst h; simp
  · rw [decide_eq_false h]; exact beq_eq_false_iff_ne.mpr h
@[simp] theorem gNe_int (i j : Int) : gNe (.int i) (.int j) = some (.bl (!decide (i = j))) := by
  show some (D.bl (!PyData.eqv (.int i) (.int j))) = _
  rw [eqv_int]
@[simp] theorem gEq_int (i j : Int) : gEq (.int i) (.int j) = some (.bl (decide (i = j))) := by
  show some (D.bl (PyData.eqv (.int i) (.int j))) = _
  rw [eqv_int]
theorem gNe_str (x y : Str) : gNe (.str x) (.str y) = some (.bl (!decide (x = y))) := by
  show some (D.bl (!PyData.eqv (.str x) (.str y))) = _
  rw [eqv_str]
@[simp] theorem gIx_2_0 (a b : D) : gIx (.tup [a, b]) (.int 0) = some a := rfl
@[simp] theorem gIx_2_1 (a b : D) : gIx (.tup [a, b]) (.int 1) = some b := rfl
@[simp] theorem gLen_tup (l : List D) : gLen [.tup l] = some (.int l.length) := rfl
@[simp] theorem gLen_lst (l : List D) : gLen [.lst l] = some (.int l.length) := rfl
@[simp] theorem gLen_str (l : List Nat) : gLen [.str (T l)] = some (.int l.length) := rfl
end DL
namespace DL
open PySem PySem.Spec PyProof.Rows L2 TL

theorem strsD_signs : ∀ l : List Nat, strsD (l.map dC) = some (l.map sgn)
  | [] => rfl
  | c :: l => by
    show (strsD (l.map dC)).map (sgn c :: ·) = _
    rw [strsD_signs l]; rfl
theorem join_signs : ∀ l : List Nat, Str.join (T []) (l.map sgn) = T l
  | [] => rfl
  | [c] => rfl
  | c :: d :: r => by
    have ih := join_signs (d :: r)
    show sgn c ++ T [] ++ Str.join (T []) ((d :: r).map sgn) = _
    rw [ih, sgn_T, T_app, T_app]; rfl
theorem sum_ones : ∀ l : List Nat, ((l.map sgn).map (·.length)).sum = l.length
  | [] => rfl
  | c :: l => by
    rw [List.map_cons, List.map_cons, List.sum_cons, sum_ones l, List.length_cons]
    show 1 + l.length = _
    omega
theorem gJoin_signs (l : List Nat) (h : l.length ≤ 16777216) : gJoin (.str "") [.lst (l.map dC)] = some (dS l) := by
  show ((strsD (l.map dC)).bind fun ys => if (ys.map (·.length)).sum + ys.length * (T []).length ≤ 16777216 then some (D.str (Str.join (T []) ys)) else none) = _
  rw [strsD_signs]
  show (if ((l.map sgn).map (·.length)).sum + (l.map sgn).length * 0 ≤ 16777216 then some (D.str (Str.join (T []) (l.map sgn))) else none) = _
  rw [sum_ones, if_pos (by omega), join_signs]; rfl
theorem dataLt_sgn (a b : Nat) : PySem.W.dataLt (dC a).py (dC b).py = decide (a < b) := by
  show PySem.W.dataLt (.str (sgn a)) (.str (sgn b)) = _
  rw [PySem.W.dataLt_str]
  show decide ([a] < [b]) = _
  by_cases hab : a < b
  · rw [decide_eq_true hab, decide_eq_true (by exact List.Lex.rel hab)]
  · rw [decide_eq_false hab, decide_eq_false]
    intro z
    cases z with
    | rel q => exact hab q
    | cons q => cases q
end DL
namespace DL
open PySem PySem.Spec PyProof.Rows L2 TL

def Ok {α : Type} (r : Res α) (Q : α → Prop) : Prop := ∃ a, r = .ok a ∧ Q a
section
variable {α β : Type} {r : Res α} {a : α} {f : α → Res β} {P Q : α → Prop} {R : β → Prop}
theorem Ok.ok (h : Q a) : Ok (.ok a) Q := ⟨a, rfl, h⟩
theorem Ok.of (e : r = .ok a) (h : Q a) : Ok r Q := ⟨a, e, h⟩
theorem Ok.bind (h : Ok r fun a => Ok (f a) R) : Ok (r.bind f) R := by
  obtain ⟨a, e, b, e2, q⟩ := h
  exact ⟨b, by rw [e]; exact e2, q⟩
theorem Ok.bindE (e : r = .ok a) (h : Ok (f a) R) : Ok (r.bind f) R := by
  rw [e]; exact h
theorem Ok.mono (h : Ok r P) (i : ∀ a, P a → Q a) : Ok r Q := by
  obtain ⟨a, e, p⟩ := h
  exact ⟨a, e, i a p⟩
/-- with what is wanted behind a name -/
theorem Ok.cps (h : ∀ P : α → Prop, (∀ a, Q a → P a) → Ok r P) : Ok r Q := h Q fun _ h => h
@[simp] theorem Ok_ok : Ok (.ok a) Q ↔ Q a := ⟨fun ⟨b, e, q⟩ => by cases e; exact q, Ok.ok⟩
end
section
variable {α : Type} {E E' E1 : Env} {t : BF} {s1 s2 body : SF} {fi : IF} {g : GF} {Q : Fl × Env → Prop} {b : Bool}
theorem seq_eq (h1 : s1 E = .ok (.nx, E')) (h2 : Ok (s2 E') Q) : Ok (sSeq s1 s2 E) Q := by
  rw [ap_sSeq, h1]; exact h2
theorem seq_ok (h1 : Ok (s1 E) fun p => p.1 = .nx ∧ Ok (s2 p.2) Q) : Ok (sSeq s1 s2 E) Q := by
  obtain ⟨⟨f, E'⟩, e, rfl, h⟩ := h1
  rw [ap_sSeq, e]; exact h
theorem if_ok (e : t E = .ok (b, E')) (h1 : b = true → Ok (s1 E') Q) (h2 : b = false → Ok (s2 E') Q) : Ok (sIf t s1 s2 E) Q := by
  rw [ap_sIf, e]
  cases b with
  | true => exact h1 rfl
  | false => exact h2 rfl
theorem if_yes (e : t E = .ok (true, E')) (h2 : Ok (s1 E') Q) : Ok (sIf t s1 s2 E) Q := if_ok e (fun _ => h2) fun z => nomatch z
/-- a loop over a list by what holds ahead of each item -/
theorem forL_ok (f : α → D) (Iv : List α → Env → Prop) (l : List α) (h0 : Iv l E)
    (step : ∀ a r E, Iv (a :: r) E → ∃ E1, g (f a) E = some E1 ∧ Ok (body E1) fun p => (p.1 = .nx ∨ p.1 = .ct) ∧ Iv r p.2)
    (fin : ∀ E, Iv [] E → Q (.nx, E)) : Ok (forL g body (l.map f) E) Q := by
  induction l generalizing E with
  | nil => exact Ok.ok (fin E h0)
  | cons a r ih =>
    obtain ⟨E1, e1, ⟨fl, E2⟩, e2, h, i⟩ := step a r E h0
    rw [List.map_cons, forL, e1]
    show Ok ((body E1).bind _) Q
    rw [e2]
    rcases h with h | h <;> (dsimp only at h; subst h; exact ih i)
/-- .. by what holds throughout -/
theorem forL_all (f : α → D) (I : Env → Prop) (l : List α) (h0 : I E)
    (step : ∀ a ∈ l, ∀ E, I E → ∃ E1, g (f a) E = some E1 ∧ Ok (body E1) fun p => (p.1 = .nx ∨ p.1 = .ct) ∧ I p.2)
    (fin : ∀ E, I E → Q (.nx, E)) : Ok (forL g body (l.map f) E) Q :=
  forL_ok f (fun r E => (∀ a ∈ r, a ∈ l) ∧ I E) l ⟨fun _ h => h, h0⟩ (fun a r E h => by
    obtain ⟨E1, e1, o⟩ := step a (h.1 a List.mem_cons_self) E h.2
    exact ⟨E1, e1, o.mono fun p h2 => ⟨h2.1, fun x hx => h.1 x (List.mem_cons_of_mem _ hx), h2.2⟩⟩) fun E h => fin E h.2
end
section
variable {α : Type} {E E' E1 : Env} {t : BF} {s1 s2 body : SF} {fi : IF} {g : GF} {Q : Fl × Env → Prop} {b : Bool}
theorem for_ok (f : α → D) (Iv : List α → Env → Prop) (l : List α) (e : fi E = .ok (l.map f, E')) (h0 : Iv l E')
    (step : ∀ a r E, Iv (a :: r) E → ∃ E1, g (f a) E = some E1 ∧ Ok (body E1) fun p => (p.1 = .nx ∨ p.1 = .ct) ∧ Iv r p.2)
    (fin : ∀ E, Iv [] E → Q (.nx, E)) : Ok (sFor fi g body E) Q := by
  rw [ap_sFor, e]; exact forL_ok f Iv l h0 step fin
theorem for_all (f : α → D) (I : Env → Prop) (l : List α) (e : fi E = .ok (l.map f, E')) (h0 : I E')
    (step : ∀ a ∈ l, ∀ E, I E → ∃ E1, g (f a) E = some E1 ∧ Ok (body E1) fun p => (p.1 = .nx ∨ p.1 = .ct) ∧ I p.2)
    (fin : ∀ E, I E → Q (.nx, E)) : Ok (sFor fi g body E) Q := by
  rw [ap_sFor, e]; exact forL_all f I l h0 step fin
theorem seq_for (f : α → D) (Iv : List α → Env → Prop) (l : List α) (e : fi E = .ok (l.map f, E')) (h0 : Iv l E')
    (step : ∀ a r E, Iv (a :: r) E → ∃ E1, g (f a) E = some E1 ∧ Ok (body E1) fun p => (p.1 = .nx ∨ p.1 = .ct) ∧ Iv r p.2)
    (fin : ∀ E, Iv [] E → Ok (s2 E) Q) : Ok (sSeq (sFor fi g body) s2 E) Q :=
  seq_ok (for_ok f Iv l e h0 step fun E h => ⟨rfl, fin E h⟩)
theorem seq_all (f : α → D) (I : Env → Prop) (l : List α) (e : fi E = .ok (l.map f, E')) (h0 : I E')
    (step : ∀ a ∈ l, ∀ E, I E → ∃ E1, g (f a) E = some E1 ∧ Ok (body E1) fun p => (p.1 = .nx ∨ p.1 = .ct) ∧ I p.2)
    (fin : ∀ E, I E → Ok (s2 E) Q) : Ok (sSeq (sFor fi g body) s2 E) Q :=
  seq_ok (for_all f I l e h0 step fun E h => ⟨rfl, fin E h⟩)
end
/-- a loop that may return -/
def foldE {σ α : Type} (st : σ → α → D ⊕ σ) : σ → List α → D ⊕ σ
  | s, [] => .inr s
  | s, a :: r => match st s a with
    | .inl d => .inl d
    | .inr s' => foldE st s' r
section
variable {α σ : Type} {E E' E1 : Env} {s1 s2 body : SF} {fi : IF} {g : GF} {Q : Fl × Env → Prop}
theorem forL_fold (f : α → D) (st : σ → α → D ⊕ σ) (I : List α → σ → Env → Prop) (l : List α) (s : σ) (h0 : I l s E)
    (step : ∀ a r s E, a ∈ l → I (a :: r) s E → ∃ E1, g (f a) E = some E1 ∧ Ok (body E1) fun p => match st s a with | .inr s' => (p.1 = .nx ∨ p.1 = .ct) ∧ I r s' p.2 | .inl d => p.1 = .rt d)
    (fin : match foldE st s l with | .inr s' => ∀ E, I [] s' E → Q (.nx, E) | .inl d => ∀ E, Q (.rt d, E)) : Ok (forL g body (l.map f) E) Q := by
  induction l generalizing E s with
  | nil => exact Ok.ok (fin E h0)
  | cons a r ih =>
    obtain ⟨E1, e1, ⟨fl, E2⟩, e2, h⟩ := step a r s E List.mem_cons_self h0
    rw [List.map_cons, forL, e1]
    show Ok ((body E1).bind _) Q
    rw [e2]
    rw [foldE] at fin
    cases e : st s a with
    | inl d =>
      rw [e] at h fin
      dsimp only at h fin
      subst h
      exact Ok.ok (fin E2)
    | inr s' =>
      rw [e] at h fin
      dsimp only at h fin
      have ih := ih (E := E2) s' h.2 (fun b r s E hb => step b r s E (List.mem_cons_of_mem _ hb)) fin
      rcases h.1 with h | h <;> (subst h; exact ih)
theorem for_fold (f : α → D) (st : σ → α → D ⊕ σ) (I : List α → σ → Env → Prop) (l : List α) (s : σ) (e : fi E = .ok (l.map f, E')) (h0 : I l s E')
    (step : ∀ a r s E, a ∈ l → I (a :: r) s E → ∃ E1, g (f a) E = some E1 ∧ Ok (body E1) fun p => match st s a with | .inr s' => (p.1 = .nx ∨ p.1 = .ct) ∧ I r s' p.2 | .inl d => p.1 = .rt d)
    (fin : match foldE st s l with | .inr s' => ∀ E, I [] s' E → Q (.nx, E) | .inl d => ∀ E, Q (.rt d, E)) : Ok (sFor fi g body E) Q := by
  rw [ap_sFor, e]; exact forL_fold f st I l s h0 step fin
theorem seq_fold (f : α → D) (st : σ → α → D ⊕ σ) (I : List α → σ → Env → Prop) (l : List α) (s : σ) (e : fi E = .ok (l.map f, E')) (h0 : I l s E')
    (step : ∀ a r s E, a ∈ l → I (a :: r) s E → ∃ E1, g (f a) E = some E1 ∧ Ok (body E1) fun p => match st s a with | .inr s' => (p.1 = .nx ∨ p.1 = .ct) ∧ I r s' p.2 | .inl d => p.1 = .rt d)
    (fin : match foldE st s l with | .inr s' => ∀ E, I [] s' E → Ok (s2 E) Q | .inl d => ∀ E, Q (.rt d, E)) : Ok (sSeq (sFor fi g body) s2 E) Q := by
  have h := for_fold (body := body) (g := g) (Q := fun p => match p.1 with | .nx => Ok (s2 p.2) Q | fl => Q (fl, p.2)) f st I l s e h0 step (by
    cases q : foldE st s l with
    | inl d => rw [q] at fin; exact fin
    | inr s' => rw [q] at fin; exact fin)
  rw [ap_sSeq]
  obtain ⟨⟨fl, E2⟩, e2, h⟩ := h
  rw [e2]
  cases fl with
  | nx => exact h
  | bk => exact Ok.ok h
  | ct => exact Ok.ok h
  | rt d => exact Ok.ok h
end
section
variable {α : Type} {vs : List Nat} {g : GF} {fc : BF} {fe : EF} {E0 E : Env} {Q : D × Env → Prop}
theorem compL_ok (f : α → D) (Iv : List α → List D → Env → Prop) (l : List α) (acc : List D) (h0 : Iv l acc E)
    (step : ∀ a r acc E, Iv (a :: r) acc E → ∃ E1, g (f a) (wipeE E vs) = some E1 ∧ Ok (fc E1) fun p => if p.1 = true then Ok (fe p.2) fun q => ∃ y, q.1 = .dat y ∧ Iv r (acc ++ [y]) (backE E0 q.2 vs) else Iv r acc (backE E0 p.2 vs))
    (fin : ∀ acc E, Iv [] acc E → Q (.lst acc, E)) : Ok (compL vs g fc fe E0 (l.map f) acc E) Q := by
  induction l generalizing acc E with
  | nil => exact Ok.ok (fin _ _ h0)
  | cons a r ih =>
    obtain ⟨E1, e1, ⟨b, E2⟩, e2, h⟩ := step a r acc E h0
    rw [List.map_cons, compL, e1]
    show Ok ((noErr (fc E1)).bind _) Q
    rw [e2]
    dsimp only at h
    cases b with
    | false => exact ih _ h
    | true =>
      rw [if_pos rfl] at h
      obtain ⟨⟨w, E3⟩, e3, y, hw, i⟩ := h
      dsimp only at hw
      subst hw
      show Ok ((noErr (fe E2)).bind _) Q
      rw [e3]
      exact ih _ i
/-- a comprehension that hands on some of the items: all of these are so (Pp), all that must be are there (Mm) -/
theorem compL_subM (f : α → D) (I : Env → Prop) (Pp Mm : α → Prop) (l : List α) (h0 : I E)
    (step : ∀ a ∈ l, ∀ E, I E → ∃ E1, g (f a) (wipeE E vs) = some E1 ∧ Ok (fc E1) fun p => I (backE E0 p.2 vs) ∧ (p.1 = true → fe p.2 = .ok (.dat (f a), p.2) ∧ Pp a) ∧ (p.1 = false → ¬ Mm a))
    (fin : ∀ (r : List α) E, r.Sublist l → (∀ a ∈ r, Pp a) → (∀ a ∈ l, Mm a → a ∈ r) → I E → Q (.lst (r.map f), E)) : Ok (compL vs g fc fe E0 (l.map f) [] E) Q := by
  refine compL_ok f (fun r acc E => (∃ d e, acc = d.map f ∧ l = e ++ r ∧ d.Sublist e ∧ (∀ a ∈ d, Pp a) ∧ ∀ a ∈ e, Mm a → a ∈ d) ∧ I E) l [] ⟨⟨[], [], rfl, rfl, List.Sublist.refl _, fun _ h => (by cases h), fun _ h => (by cases h)⟩, h0⟩ (fun a r acc E h => ?_) fun acc E h => ?_
  · obtain ⟨⟨d, e, rfl, hl, hs, hd, hM⟩, hi⟩ := h
    obtain ⟨E1, e1, o⟩ := step a (by rw [hl]; simp) E hi
    refine ⟨E1, e1, o.mono fun p h2 => ?_⟩
    obtain ⟨h2, h3, h5⟩ := h2
    by_cases hb : p.1 = true
    · rw [if_pos hb]
      obtain ⟨h3, h4⟩ := h3 hb
      refine Ok.of h3 ⟨_, rfl, ⟨d ++ [a], e ++ [a], by simp, by simpa using hl, hs.append (List.Sublist.refl _), fun x hx => ?_, fun x hx hm => ?_⟩, h2⟩
      · rcases List.mem_append.mp hx with z | z
        · exact hd x z
        · rw [List.mem_singleton.mp z]; exact h4
      · rcases List.mem_append.mp hx with z | z
        · exact List.mem_append_left _ (hM x z hm)
        · exact List.mem_append_right _ z
    · rw [if_neg hb]
      refine ⟨⟨d, e ++ [a], rfl, by simpa using hl, hs.trans (List.sublist_append_left _ _), hd, fun x hx hm => ?_⟩, h2⟩
      rcases List.mem_append.mp hx with z | z
      · exact hM x z hm
      · rw [List.mem_singleton.mp z] at hm
        exact absurd hm (h5 (by simpa using hb))
  · obtain ⟨⟨d, e, rfl, hl, hs, hd, hM⟩, hi⟩ := h
    rw [List.append_nil] at hl
    subst hl
    exact fin d E hs hd hM hi
/-- .. -/
theorem compL_sub (f : α → D) (I : Env → Prop) (Pp : α → Prop) (l : List α) (h0 : I E)
    (step : ∀ a ∈ l, ∀ E, I E → ∃ E1, g (f a) (wipeE E vs) = some E1 ∧ Ok (fc E1) fun p => I (backE E0 p.2 vs) ∧ (p.1 = true → fe p.2 = .ok (.dat (f a), p.2) ∧ Pp a))
    (fin : ∀ (r : List α) E, r.Sublist l → (∀ a ∈ r, Pp a) → I E → Q (.lst (r.map f), E)) : Ok (compL vs g fc fe E0 (l.map f) [] E) Q :=
  compL_subM f I Pp (fun _ => False) l h0 (fun a ha E h => by
    obtain ⟨E1, e1, o⟩ := step a ha E h
    exact ⟨E1, e1, o.mono fun p h => ⟨h.1, h.2, fun _ z => z⟩⟩) fun r E h1 h2 _ h4 => fin r E h1 h2 h4
end
theorem runK_ok {fb : SF} {n : Nat} {a q : Addr} {l : List Int} {b : Int} {ds : List D} {R : D → List Int → Int → Prop}
    (h : Ok (fb (.deck a q l b :: ds.map .dat ++ nos n)) fun p => ∃ d l' b' E, p = (.rt d, .deck a q l' b' :: E) ∧ R d l' b') : ∃ d l' b', runK fb n a q ⟨l, b⟩ ds = .ok (d, ⟨l', b'⟩) ∧ R d l' b' := by
  obtain ⟨p, e, d, l', b', E, rfl, r⟩ := h
  refine ⟨d, l', b', ?_, r⟩
  unfold runK
  rw [e]
  show outD a q d (.deck a q l' b' :: E) = _
  unfold outD deckOf
  simp
theorem runK_eq {fb : SF} {n : Nat} {a q : Addr} {l l' : List Int} {b b' : Int} {ds : List D} {d : D} {E : Env} (h : fb (.deck a q l b :: ds.map .dat ++ nos n) = .ok (.rt d, .deck a q l' b' :: E)) : runK fb n a q ⟨l, b⟩ ds = .ok (d, ⟨l', b'⟩) := by
  unfold runK
  rw [h]
  show outD a q d (.deck a q l' b' :: E) = _
  unfold outD deckOf
  simp
theorem Ok_bind {α β : Type} {r : Res α} {f : α → Res β} {R : β → Prop} : Ok (r.bind f) R ↔ Ok r fun a => Ok (f a) R := by
  refine ⟨fun ⟨b, e, h⟩ => ?_, Ok.bind⟩
  cases r with
  | ok a => exact ⟨a, rfl, b, e, h⟩
  | err _ _ => cases e
  | stuck => cases e
theorem runP_ok {fb : SF} {n : Nat} {ds : List D} {d : D} (h : Ok (fb (ds.map .dat ++ nos n)) fun p => p.1 = .rt d) : noErr (runP fb n ds) = .ok d := by
  obtain ⟨⟨f, E⟩, e, h⟩ := h
  dsimp only at h
  subst h
  unfold runP
  rw [e]; rfl
end DL
namespace DL
open PySem PySem.Spec PyProof.Rows L2 TL

/-- plain, of this depth, equal just if the same -/
structure Enc {α : Type} [DecidableEq α] (f : α → D) (n : Nat) : Prop where
  plain : ∀ a, (f a).plain = true
  eq : ∀ a b, PyData.eqv (f a).py (f b).py = decide (a = b)
  dep : ∀ a, (f a).py.depth ≤ n
section
variable {α β : Type} [DecidableEq α] [DecidableEq β] {f : α → D} {g : β → D} {n m : Nat}
theorem Enc.str : Enc D.str 0 := ⟨fun _ => rfl, eqv_str, fun _ => Nat.le_refl _⟩
theorem Enc.int : Enc D.int 0 := ⟨fun _ => rfl, eqv_int, fun _ => Nat.le_refl _⟩
theorem Enc.dS : Enc dS 0 := ⟨fun _ => rfl, fun a b => by
  show PyData.eqv (.str (T a)) (.str (T b)) = _
  rw [eqv_str]
  exact decide_eq_decide.mpr T_inj, fun _ => Nat.le_refl _⟩
theorem Enc.dC : Enc dC 0 := ⟨fun _ => rfl, fun a b => by
  show PyData.eqv (.str (T [a])) (.str (T [b])) = _
  rw [eqv_str]
  refine decide_eq_decide.mpr (T_inj.trans ?_)
  simp, fun _ => Nat.le_refl _⟩
theorem Enc.of {γ : Type} [DecidableEq γ] (e : Enc f n) (h : γ → α) (inj : ∀ a b, h a = h b → a = b) : Enc (fun c => f (h c)) n := ⟨fun _ => e.plain _, fun a b => by
  rw [e.eq]
  exact decide_eq_decide.mpr ⟨inj a b, congrArg h⟩, fun _ => e.dep _⟩
theorem Enc.nat : Enc (fun i : Nat => D.int i) 0 := Enc.of Enc.int (fun i : Nat => (i : Int)) fun a b h => by omega
theorem Enc.plainL (e : Enc f n) : ∀ l : List α, plainL (l.map f) = true
  | [] => rfl
  | a :: l => by
    show ((f a).plain && DL.plainL (l.map f)) = true
    rw [e.plain, e.plainL l]; rfl
theorem Enc.eqvAll (e : Enc f n) : ∀ a b : List α, PyData.eqvAll (pyL (a.map f)) (pyL (b.map f)) = decide (a = b)
  | [], [] => rfl
  | x :: a, [] => rfl
  | [], y :: b => rfl
  | x :: a, y :: b => by
    show (PyData.eqv (f x).py (f y).py && PyData.eqvAll (pyL (a.map f)) (pyL (b.map f))) = _
    rw [e.eq, e.eqvAll a b, ← Bool.decide_and]
    exact decide_eq_decide.mpr (by simp)
theorem Enc.depL (e : Enc f n) : ∀ l : List α, PyData.depthAll (pyL (l.map f)) ≤ n
  | [] => Nat.zero_le _
  | a :: l => Nat.max_le.mpr ⟨e.dep a, e.depL l⟩
theorem Enc.lst (e : Enc f n) : Enc (fun l : List α => D.lst (l.map f)) (n + 1) := ⟨fun l => e.plainL l, fun a b => e.eqvAll a b, fun l => Nat.succ_le_succ (e.depL l)⟩
theorem Enc.tup (e : Enc f n) : Enc (fun l : List α => D.tup (l.map f)) (n + 1) := ⟨fun l => e.plainL l, fun a b => e.eqvAll a b, fun l => Nat.succ_le_succ (e.depL l)⟩
theorem Enc.pair (e : Enc f n) (e' : Enc g m) : Enc (fun p : α × β => D.tup [f p.1, g p.2]) (max n m + 1) := ⟨fun p => by
    show ((f p.1).plain && ((g p.2).plain && true)) = true
    rw [e.plain, e'.plain]; rfl, fun a b => by
    show (PyData.eqv (f a.1).py (f b.1).py && (PyData.eqv (g a.2).py (g b.2).py && true)) = _
    rw [e.eq, e'.eq, Bool.and_true, ← Bool.decide_and]
    exact decide_eq_decide.mpr Prod.ext_iff.symm, fun p => by
    show max (f p.1).py.depth (max (g p.2).py.depth 0) + 1 ≤ _
    have h1 := e.dep p.1
    have h2 := e'.dep p.2
    omega⟩
theorem Enc.gEq (e : Enc f n) (a b : α) (hn : n ≤ 60 := by decide) : gEq (f a) (f b) = some (.bl (decide (a = b))) := by
  unfold DL.gEq okCmp
  rw [e.plain, e.plain, e.eq, if_pos]
  rw [Bool.and_self, Bool.true_and, decide_eq_true_eq]
  have h := e.dep a
  omega
theorem Enc.gNe (e : Enc f n) (a b : α) (hn : n ≤ 60 := by decide) : gNe (f a) (f b) = some (.bl (!decide (a = b))) := by
  unfold DL.gNe okCmp
  rw [e.plain, e.plain, e.eq, if_pos]
  rw [Bool.and_self, Bool.true_and, decide_eq_true_eq]
  have h := e.dep a
  omega
theorem Enc.any (e : Enc f n) (a : α) : ∀ l : List α, ((pyL (l.map f)).any fun y => PyData.eqv y (f a).py) = decide (a ∈ l)
  | [] => rfl
  | x :: l => by
    show (PyData.eqv (f x).py (f a).py || (pyL (l.map f)).any fun y => PyData.eqv y (f a).py) = _
    rw [e.eq, e.any a l, ← Bool.decide_or]
    refine decide_eq_decide.mpr ?_
    rw [List.mem_cons, eq_comm]
theorem gInQ_lst (neg : Bool) (ds : List D) : ∀ d : D, gInQ neg d (.lst ds) = if (d.plain && DL.plainL ds && decide (min (PyData.depthAll (pyL ds)) d.py.depth ≤ 60)) = true then some (.bl (if neg then !((pyL ds).any fun y => PyData.eqv y d.py) else (pyL ds).any fun y => PyData.eqv y d.py)) else none
  | .non => rfl | .bl _ => rfl | .int _ => rfl | .str _ => rfl | .lst _ => rfl | .tup _ => rfl | .dic _ => rfl | .dit _ => rfl | .obj _ _ => rfl
theorem Enc.gIn_lst (e : Enc f n) (neg : Bool) (a : α) (l : List α) (hn : n ≤ 60 := by decide) : gInQ neg (f a) (.lst (l.map f)) = some (.bl (if neg then !decide (a ∈ l) else decide (a ∈ l))) := by
  rw [gInQ_lst, e.plain, e.plainL, e.any, if_pos]
  rw [Bool.and_self, Bool.true_and, decide_eq_true_eq]
  have h := e.dep a
  omega
/-- a list against the empty one -/
theorem gEq_nil {l : List D} (h : DL.plainL l = true) : DL.gEq (.lst l) (.lst []) = some (.bl l.isEmpty) := by
  unfold DL.gEq okCmp
  rw [if_pos]
  · cases l <;> rfl
  · have : min (D.lst l).py.depth (D.lst []).py.depth ≤ 60 := Nat.le_trans (Nat.min_le_right _ _) (by decide)
    rw [decide_eq_true this]
    show (DL.plainL l && true && true) = true
    rw [h]; rfl
theorem gNe_nil {l : List D} (h : DL.plainL l = true) : DL.gNe (.lst l) (.lst []) = some (.bl (!l.isEmpty)) := by
  unfold DL.gNe okCmp
  rw [if_pos]
  · cases l <;> rfl
  · have : min (D.lst l).py.depth (D.lst []).py.depth ≤ 60 := Nat.le_trans (Nat.min_le_right _ _) (by decide)
    rw [decide_eq_true this]
    show (DL.plainL l && true && true) = true
    rw [h]; rfl
end
theorem atI_nat {α : Type} (xs : List α) (i : Nat) : atI xs (i : Int) = xs[i]? := by
  unfold atI ixN
  rw [if_pos (Int.natCast_nonneg i)]
  by_cases h : i < xs.length
  · rw [if_pos (by omega)]; rfl
  · rw [if_neg (by omega), List.getElem?_eq_none (by omega)]; rfl
theorem gIx_tup_nat (l : List D) (i : Nat) : gIx (.tup l) (.int i) = l[i]? := atI_nat l i
theorem gIx_lst_nat (l : List D) (i : Nat) : gIx (.lst l) (.int i) = l[i]? := atI_nat l i
theorem gIx_str_nat (l : List Nat) (i : Nat) : gIx (dS l) (.int i) = (l[i]?).map dC := by
  show ((atI l i).map fun c => D.str (sgn c)) = _
  rw [atI_nat]; rfl
structure Shw (d : D) (n m : Nat) : Prop where
  plain : d.plain = true
  short : d.py.leavesShort 700 = true
  show_ : d.py.showable = true
  bulk : d.py.bulk ≤ n
  dep : d.py.depth ≤ m
structure Shws (d : List D) (n m : Nat) : Prop where
  plain : plainL d = true
  short : PyData.leavesShortAll 700 (pyL d) = true
  show_ : PyData.showableAll (pyL d) = true
  bulk : PyData.bulkAll (pyL d) ≤ n
  dep : PyData.depthAll (pyL d) ≤ m
theorem Shw.str {l : List Nat} {n : Nat} (h : ∀ c ∈ l, c < 1114112) (hn : l.length ≤ n) : Shw (dS l) n 0 := ⟨rfl, by
  show (l.all fun c => decide (c < 16 ^ 8)) = true
  rw [List.all_eq_true]
  intro c hc
  have := h c hc
  exact decide_eq_true (by omega), rfl, hn, Nat.le_refl _⟩
theorem Shw.bl (b : Bool) : Shw (.bl b) 0 0 := ⟨rfl, rfl, rfl, Nat.le_refl _, Nat.le_refl _⟩
theorem Shw.non : Shw .non 0 0 := ⟨rfl, rfl, rfl, Nat.le_refl _, Nat.le_refl _⟩
/-- an int of at most 100 digits -/
def I100 (i : Int) : Prop := i.natAbs < 10 ^ 100
theorem Shw.int {i : Int} (h : I100 i) : Shw (.int i) 0 0 := ⟨rfl, by
    have e := int_text_length_le10 (k := 100) (by decide) h
    show decide ((Str.ofString (toString i)).length ≤ 700) = true
    rw [PySem.ofString_length]
    exact decide_eq_true (by omega), by
    show decide (i.natAbs.log2 < 1920) = true
    refine decide_eq_true ?_
    by_cases hz : i.natAbs = 0
    · rw [hz]; decide
    · rw [Nat.log2_lt hz]
      have : (10 : Nat) ^ 100 < 2 ^ 1920 := by decide +kernel
      exact Nat.lt_trans h this, Nat.le_refl _, Nat.le_refl _⟩
theorem I100.nat {i : Nat} (h : i < 1000000) : I100 (i : Int) := by
  show (i : Int).natAbs < 10 ^ 100
  have e : (i : Int).natAbs = i := rfl
  rw [e]
  exact Nat.lt_trans h (by decide +kernel)
theorem Shw.nat {i : Nat} (h : i < 1000000) : Shw (.int (i : Int)) 0 0 := Shw.int (I100.nat h)
theorem Shws.nil : Shws [] 0 0 := ⟨rfl, rfl, rfl, Nat.le_refl _, Nat.le_refl _⟩
theorem Shws.cons {d : D} {ds : List D} {n m n' m' : Nat} (h : Shw d n m) (h' : Shws ds n' m') : Shws (d :: ds) (n + 1 + n') (max m m') := ⟨by
    show (d.plain && plainL ds) = true
    rw [h.plain, h'.plain]; rfl, by
    show (PyData.leavesShort 700 d.py && PyData.leavesShortAll 700 (pyL ds)) = true
    rw [h.short, h'.short]; rfl, by
    show (PyData.showable d.py && PyData.showableAll (pyL ds)) = true
    rw [h.show_, h'.show_]; rfl, by
    show d.py.bulk + 1 + PyData.bulkAll (pyL ds) ≤ _
    have := h.bulk
    have := h'.bulk
    omega, by
    show max d.py.depth (PyData.depthAll (pyL ds)) ≤ _
    have := h.dep
    have := h'.dep
    omega⟩
theorem Shws.map {α : Type} {f : α → D} {n m : Nat} : ∀ {l : List α}, (∀ a ∈ l, Shw (f a) n m) → Shws (l.map f) (l.length * (n + 1)) m
  | [], _ => ⟨rfl, rfl, rfl, Nat.zero_le _, Nat.zero_le _⟩
  | a :: l, h => by
    have h1 := Shws.cons (h a List.mem_cons_self) (Shws.map (l := l) fun b hb => h b (List.mem_cons_of_mem _ hb))
    refine ⟨h1.plain, h1.short, h1.show_, Nat.le_trans h1.bulk ?_, Nat.le_trans h1.dep (by omega)⟩
    rw [List.length_cons, Nat.succ_mul]
    omega
theorem Shws.lst {ds : List D} {n m : Nat} (h : Shws ds n m) : Shw (.lst ds) n (m + 1) := ⟨h.plain, h.short, h.show_, h.bulk, Nat.succ_le_succ h.dep⟩
theorem Shws.tup {ds : List D} {n m : Nat} (h : Shws ds n m) : Shw (.tup ds) n (m + 1) := ⟨h.plain, h.short, h.show_, h.bulk, Nat.succ_le_succ h.dep⟩
theorem Shw.le {d : D} {n m n' m' : Nat} (h : Shw d n m) (hn : n ≤ n') (hm : m ≤ m') : Shw d n' m' := ⟨h.plain, h.short, h.show_, Nat.le_trans h.bulk hn, Nat.le_trans h.dep hm⟩
mutual
theorem eqv_refl : ∀ d : D, d.plain = true → PyData.eqv d.py d.py = true
  | .non, _ => rfl
  | .bl b, _ => by show (b == b) = true; exact beq_self_eq_true b
  | .int i, _ => by show (i == i) = true; exact beq_self_eq_true i
  | .str x, _ => by rw [D.py, eqv_str]; simp
  | .lst l, h => eqvAll_refl l h
  | .tup l, h => eqvAll_refl l h
  | .dic _, h => by cases h
  | .dit _, h => by cases h
  | .obj _ _, h => by cases h
theorem eqvAll_refl : ∀ l : List D, plainL l = true → PyData.eqvAll (pyL l) (pyL l) = true
  | [], _ => rfl
  | d :: l, h => by
    have h : (d.plain && plainL l) = true := h
    rw [Bool.and_eq_true] at h
    show (PyData.eqv d.py d.py && PyData.eqvAll (pyL l) (pyL l)) = true
    rw [eqv_refl d h.1, eqvAll_refl l h.2]; rfl
end
theorem Shw.gEq {d : D} {n m : Nat} (h : Shw d n m) (hm : m ≤ 60) : gEq d d = some (.bl true) := by
  have := h.dep
  unfold DL.gEq okCmp
  rw [h.plain, eqv_refl d h.plain, if_pos]
  rw [Bool.and_self, Bool.true_and, decide_eq_true_eq]; omega
theorem Shw.gNe {d : D} {n m : Nat} (h : Shw d n m) (hm : m ≤ 60) : gNe d d = some (.bl false) := by
  have := h.dep
  unfold DL.gNe okCmp
  rw [h.plain, eqv_refl d h.plain, if_pos]
  · rfl
  rw [Bool.and_self, Bool.true_and, decide_eq_true_eq]; omega
theorem dats_app : ∀ (l : List D) (ws : List W), dats (l.map W.dat ++ ws) = (dats ws).map (l ++ ·)
  | [], ws => by simp
  | d :: l, ws => by
    show (dats (l.map W.dat ++ ws)).map (d :: ·) = _
    rw [dats_app l ws]
    cases dats ws <;> rfl
theorem small_ok {l : List D} {r : Option D} (h : l.length ≤ 1000) : small l r = r := if_pos h
end DL
namespace DL
open PySem PySem.Spec PyProof.Rows L2 TL
structure Ordr {α : Type} (lt : α → α → Bool) : Prop where
  irr : ∀ a, lt a a = false
  tr : ∀ a b c, lt a b = true → lt b c = true → lt a c = true
  tri : ∀ a b, lt a b = true ∨ a = b ∨ lt b a = true
section
variable {α β : Type} {lt : α → α → Bool} {lt2 : β → β → Bool}
theorem Ordr.asym (o : Ordr lt) {a b : α} (h : lt a b = true) : lt b a = false := by
  cases e : lt b a with
  | false => rfl
  | true => have := o.tr a b a h e; rw [o.irr] at this; cases this
theorem Ordr.ne (o : Ordr lt) {a b : α} (h : lt a b = true) : a ≠ b := fun e => by rw [e, o.irr] at h; cases h
def leB (lt : α → α → Bool) (a b : α) : Bool := !lt b a
theorem Ordr.letr (o : Ordr lt) (a b c : α) (h1 : leB lt a b = true) (h2 : leB lt b c = true) : leB lt a c = true := by
  unfold leB at *
  rw [Bool.not_eq_true'] at *
  cases e : lt c a with
  | false => rfl
  | true =>
    rcases o.tri b c with q | q | q
    · rw [o.tr b c a q e] at h1; cases h1
    · rw [q, e] at h1; cases h1
    · rw [q] at h2; cases h2
theorem Ordr.letot (o : Ordr lt) (a b : α) : (leB lt a b || leB lt b a) = true := by
  unfold leB
  cases e : lt b a with
  | false => rfl
  | true => rw [o.asym e]; rfl
def sortB (lt : α → α → Bool) (l : List α) : List α := l.mergeSort (leB lt)
theorem sortB_perm (l : List α) : (sortB lt l).Perm l := List.mergeSort_perm ..
theorem mem_sortB {l : List α} {x : α} : x ∈ sortB lt l ↔ x ∈ l := (sortB_perm l).mem_iff
theorem sortB_len (l : List α) : (sortB lt l).length = l.length := (sortB_perm l).length_eq
theorem Ordr.sorted (o : Ordr lt) (l : List α) : (sortB lt l).Pairwise fun a b => leB lt a b = true := List.pairwise_mergeSort o.letr o.letot l
theorem Ordr.asc (o : Ordr lt) {l : List α} (h : l.Nodup) : (sortB lt l).Pairwise fun a b => lt a b = true := by
  have h2 : (sortB lt l).Nodup := (sortB_perm l).nodup_iff.mpr h
  exact ((o.sorted l).and h2).imp fun {x y} ⟨a, b⟩ => by
    unfold leB at a
    rw [Bool.not_eq_true'] at a
    rcases o.tri x y with q | q | q
    · exact q
    · exact absurd q b
    · rw [q] at a; cases a
theorem Ordr.nodup (o : Ordr lt) {l : List α} (h : l.Pairwise fun a b => lt a b = true) : l.Nodup := h.imp fun q => o.ne q
/-- ascending lists with the same members are the same -/
theorem Ordr.ext (o : Ordr lt) : ∀ {a b : List α}, (a.Pairwise fun a b => lt a b = true) → (b.Pairwise fun a b => lt a b = true) → (∀ x, x ∈ a ↔ x ∈ b) → a = b
  | [], [], _, _, _ => rfl
  | [], y :: b, _, _, h => absurd ((h y).mpr List.mem_cons_self) (by simp)
  | x :: a, [], _, _, h => absurd ((h x).mp List.mem_cons_self) (by simp)
  | x :: a, y :: b, ha, hb, h => by
    rw [List.pairwise_cons] at ha hb
    have e : x = y := by
      rcases List.mem_cons.mp ((h x).mp List.mem_cons_self) with q | q
      · exact q
      · rcases List.mem_cons.mp ((h y).mpr List.mem_cons_self) with q2 | q2
        · exact q2.symm
        · have h1 := ha.1 y q2
          have h2 := hb.1 x q
          rw [o.asym h1] at h2; cases h2
    subst e
    rw [o.ext ha.2 hb.2 fun z => ?_]
    constructor
    · intro hz
      rcases List.mem_cons.mp ((h z).mp (List.mem_cons_of_mem _ hz)) with q | q
      · exact absurd q.symm (o.ne (ha.1 z hz))
      · exact q
    · intro hz
      rcases List.mem_cons.mp ((h z).mpr (List.mem_cons_of_mem _ hz)) with q | q
      · exact absurd q.symm (o.ne (hb.1 z hz))
      · exact q
theorem Ordr.ascB (o : Ordr lt) : ∀ {l : List α}, ascB lt l = true ↔ l.Pairwise fun a b => lt a b = true
  | [] => by simp [DL.ascB]
  | [_] => by simp [DL.ascB]
  | a :: b :: r => by
    rw [DL.ascB, Bool.and_eq_true, o.ascB (l := b :: r), List.pairwise_cons (a := a)]
    constructor
    · rintro ⟨h1, h2⟩
      refine ⟨fun x hx => ?_, h2⟩
      rcases List.mem_cons.mp hx with q | q
      · rw [q]; exact h1
      · exact o.tr a b x h1 ((List.pairwise_cons.mp h2).1 x q)
    · rintro ⟨h1, h2⟩
      exact ⟨h1 b List.mem_cons_self, h2⟩
def ltN (a b : Nat) : Bool := decide (a < b)
theorem ordN : Ordr ltN := ⟨fun a => by simp [ltN], fun a b c => by simp only [ltN, decide_eq_true_eq]; omega, fun a b => by simp only [ltN, decide_eq_true_eq]; omega⟩
def ltI (a b : Int) : Bool := decide (a < b)
theorem ordI : Ordr ltI := ⟨fun a => by simp [ltI], fun a b c => by simp only [ltI, decide_eq_true_eq]; omega, fun a b => by simp only [ltI, decide_eq_true_eq]; omega⟩
def lexB [DecidableEq α] (lt : α → α → Bool) (lt2 : β → β → Bool) (p q : α × β) : Bool := if p.1 = q.1 then lt2 p.2 q.2 else lt p.1 q.1
theorem ordX [DecidableEq α] (o : Ordr lt) (o2 : Ordr lt2) : Ordr (lexB lt lt2) := by
  refine ⟨fun a => by simp [lexB, o2.irr], fun a b c h1 h2 => ?_, fun a b => ?_⟩
  · unfold lexB at *
    by_cases e1 : a.1 = b.1
    · by_cases e2 : b.1 = c.1
      · rw [if_pos e1] at h1
        rw [if_pos e2] at h2
        rw [if_pos (e1.trans e2)]
        exact o2.tr _ _ _ h1 h2
      · rw [if_neg e2] at h2
        rw [if_neg (fun e => e2 (e1.symm.trans e)), e1]; exact h2
    · rw [if_neg e1] at h1
      by_cases e2 : b.1 = c.1
      · rw [if_neg (fun e => e1 (e.trans e2.symm)), ← e2]; exact h1
      · rw [if_neg e2] at h2
        have := o.tr _ _ _ h1 h2
        rw [if_neg (o.ne this)]; exact this
  · unfold lexB
    by_cases e : a.1 = b.1
    · rw [if_pos e, if_pos e.symm]
      rcases o2.tri a.2 b.2 with q | q | q
      · exact .inl q
      · exact .inr (.inl (Prod.ext e q))
      · exact .inr (.inr q)
    · rw [if_neg e, if_neg (Ne.symm e)]
      rcases o.tri a.1 b.1 with q | q | q
      · exact .inl q
      · exact absurd q e
      · exact .inr (.inr q)
/-- lists, item by item -/
def lexL (lt : α → α → Bool) : List α → List α → Bool
  | _, [] => false
  | [], _ :: _ => true
  | a :: r, b :: s => lt a b || (!lt b a && lexL lt r s)
theorem lexL_irr (o : Ordr lt) : ∀ a, lexL lt a a = false
  | [] => rfl
  | a :: r => by simp [lexL, o.irr, lexL_irr o r]
theorem lexL_tr (o : Ordr lt) : ∀ a b c, lexL lt a b = true → lexL lt b c = true → lexL lt a c = true
  | _, b, [], h1, h2 => by cases b <;> simp [lexL] at h2
  | [], b, _ :: _, h1, h2 => rfl
  | _ :: _, [], _ :: _, h1, h2 => by simp [lexL] at h1
  | x :: r, y :: s, z :: t, h1, h2 => by
    simp only [lexL, Bool.or_eq_true, Bool.and_eq_true, Bool.not_eq_true'] at *
    rcases h1 with h1 | ⟨h1, h1'⟩
    · rcases h2 with h2 | ⟨h2, h2'⟩
      · exact .inl (o.tr _ _ _ h1 h2)
      · rcases o.tri y z with q | q | q
        · exact .inl (o.tr _ _ _ h1 q)
        · rw [← q]; exact .inl h1
        · rw [q] at h2; cases h2
    · rcases o.tri x y with q | q | q
      · rcases h2 with h2 | ⟨h2, h2'⟩
        · exact .inl (o.tr _ _ _ q h2)
        · rcases o.tri y z with q' | q' | q'
          · exact .inl (o.tr _ _ _ q q')
          · rw [← q']; exact .inl q
          · rw [q'] at h2; cases h2
      · subst q
        rcases h2 with h2 | ⟨h2, h2'⟩
        · exact .inl h2
        · exact .inr ⟨h2, lexL_tr o r s t h1' h2'⟩
      · rw [q] at h1; cases h1
theorem lexL_tri (o : Ordr lt) : ∀ a b, lexL lt a b = true ∨ a = b ∨ lexL lt b a = true
  | [], [] => .inr (.inl rfl)
  | [], _ :: _ => .inl rfl
  | _ :: _, [] => .inr (.inr rfl)
  | x :: r, y :: s => by
    simp only [lexL, Bool.or_eq_true, Bool.and_eq_true, Bool.not_eq_true']
    rcases o.tri x y with q | q | q
    · exact .inl (.inl q)
    · subst q
      rcases lexL_tri o r s with q | q | q
      · exact .inl (.inr ⟨o.irr _, q⟩)
      · exact .inr (.inl (by rw [q]))
      · exact .inr (.inr (.inr ⟨o.irr _, q⟩))
    · exact .inr (.inr (.inl q))
theorem ordL (o : Ordr lt) : Ordr (lexL lt) := ⟨lexL_irr o, lexL_tr o, lexL_tri o⟩
theorem lexN : ∀ a b : List Nat, decide (a < b) = lexL ltN a b
  | _, [] => by simp [lexL]
  | [], _ :: _ => by simp [lexL]
  | a :: r, b :: s => by
    rw [lexL, ← lexN r s]
    unfold ltN
    rw [Bool.eq_iff_iff]
    simp only [decide_eq_true_eq, Bool.or_eq_true, Bool.and_eq_true, Bool.not_eq_true', decide_eq_false_iff_not, List.cons_lt_cons_iff]
    constructor
    · rintro (h | ⟨h, h2⟩)
      · exact .inl h
      · exact .inr ⟨by omega, h2⟩
    · rintro (h | ⟨h, h2⟩)
      · exact .inl h
      · by_cases z : a < b
        · exact .inl z
        · exact .inr ⟨by omega, h2⟩
end
end DL
namespace DL
open PySem PySem.Spec PyProof.Rows L2 TL
structure EncO {α : Type} (f : α → D) (lt : α → α → Bool) : Prop where
  alike : ∀ a b, PySem.W.alike (f a).py (f b).py = true
  lt : ∀ a b, PySem.W.dataLt (f a).py (f b).py = lt a b
  some : ∀ a, notN (f a).py = true
/-- no tuple: sorted as they are -/
def noTup (d : D) : Bool := match d.py with
  | .tuple _ => false
  | .none => false
  | _ => true
def fullTup (d : D) : Bool := match d.py with
  | .tuple (_ :: _) => true
  | _ => false
section
variable {α β : Type} [DecidableEq α] [DecidableEq β] {f : α → D} {g : β → D} {n m : Nat} {lt : α → α → Bool} {lt2 : β → β → Bool}
theorem EncO.dS : EncO dS (lexL ltN) := ⟨fun _ _ => rfl, fun a b => by
  show PySem.W.dataLt (.str (T a)) (.str (T b)) = _
  rw [PySem.W.dataLt_str, ← lexN]; rfl, fun _ => rfl⟩
theorem EncO.dC : EncO dC ltN := ⟨fun _ _ => rfl, fun a b => dataLt_sgn a b, fun _ => rfl⟩
theorem EncO.int : EncO D.int ltI := ⟨fun _ _ => rfl, fun a b => by
  show PySem.W.dataLt (.int a) (.int b) = _
  rw [PySem.W.dataLt_int]; rfl, fun _ => rfl⟩
theorem EncO.pair (e : Enc f n) (e' : Enc g m) (o : EncO f lt) (o' : EncO g lt2) (irr : ∀ b, lt2 b b = false) : EncO (fun p : α × β => D.tup [f p.1, g p.2]) (lexB lt lt2) := ⟨fun a b => by
    show (PySem.W.alike (f a.1).py (f b.1).py && (PySem.W.alike (g a.2).py (g b.2).py && true)) = true
    rw [o.alike, o'.alike]; rfl, fun a b => by
    show PySem.W.dataLt (.tuple [(f a.1).py, (g a.2).py]) (.tuple [(f b.1).py, (g b.2).py]) = _
    rw [PySem.W.dataLt_pair (o.alike _ _) (o'.alike _ _), e.eq, e'.eq, o.lt, o'.lt]
    unfold lexB
    by_cases h : a.1 = b.1
    · rw [if_pos h, if_pos (decide_eq_true h)]
      by_cases h2 : a.2 = b.2
      · rw [if_pos (decide_eq_true h2), h2, irr]
      · rw [if_neg (by simpa using h2)]
    · rw [if_neg h, if_neg (by simpa using h)], fun _ => rfl⟩
theorem alike_map (o : EncO f lt) : ∀ a b : List α, PySem.W.alikeAll (pyL (a.map f)) (pyL (b.map f)) = true
  | [], _ => by simp [pyL, PySem.W.alikeAll]
  | _ :: _, [] => by simp [pyL, PySem.W.alikeAll]
  | x :: a, y :: b => by
    show PySem.W.alikeAll ((f x).py :: pyL (a.map f)) ((f y).py :: pyL (b.map f)) = true
    rw [PySem.W.alikeAll, o.alike, alike_map o a b]; rfl
theorem rowLt_map (e : Enc f n) (o : EncO f lt) (irr : Ordr lt) : ∀ a b : List α, PySem.W.rowLt (pyL (a.map f)) (pyL (b.map f)) = lexL lt a b
  | [], [] => by
    have e : PySem.W.rowLt [] [] = false := lex_irrefl _
    exact e
  | [], y :: b => by
    show PySem.W.rowLt [] ((f y).py :: pyL (b.map f)) = true
    unfold PySem.W.rowLt
    rw [PySem.W.toks_all_cons]
    simp only [PySem.W.keyToksAll]
    rw [lex_diff (O := itemOrd) (by simp)]
    rfl
  | x :: a, [] => by
    show PySem.W.rowLt ((f x).py :: pyL (a.map f)) [] = false
    unfold PySem.W.rowLt
    rw [PySem.W.toks_all_cons]
    simp only [PySem.W.keyToksAll]
    rw [lex_diff (O := itemOrd) (by simp)]
    rfl
  | x :: a, y :: b => by
    have ih := rowLt_map e o irr a b
    unfold PySem.W.rowLt at ih ⊢
    show PyProof.Rows.lexLt itemOrd (PySem.W.keyToksAll ((f x).py :: pyL (a.map f))) (PySem.W.keyToksAll ((f y).py :: pyL (b.map f))) = _
    rw [PySem.W.dataLt_cons (o.alike x y), e.eq, o.lt, ih, lexL]
    by_cases h : x = y
    · subst h
      rw [if_pos (by simp), irr.irr]; rfl
    · rw [if_neg (by simpa using h)]
      rcases irr.tri x y with q | q | q
      · rw [q]; rfl
      · exact absurd q h
      · rw [q, irr.asym q]; rfl
theorem EncO.tup (e : Enc f n) (o : EncO f lt) (r : Ordr lt) : EncO (fun l : List α => D.tup (l.map f)) (lexL lt) := ⟨fun a b => by
    show PySem.W.alike (.tuple (pyL (a.map f))) (.tuple (pyL (b.map f))) = true
    rw [PySem.W.alike]; exact alike_map o a b, fun a b => by
    show PySem.W.dataLt (.tuple (pyL (a.map f))) (.tuple (pyL (b.map f))) = _
    rw [PySem.W.dataLt_tuple]; exact rowLt_map e o r a b, fun _ => rfl⟩
theorem EncO.gLt (o : EncO f lt) (e : Enc f n) (a b : α) (hn : n ≤ 60 := by decide) : gLt (f a) (f b) = Option.some (.bl (lt a b)) := by
  unfold DL.gLt okCmp
  rw [e.plain, e.plain, o.alike, o.some, o.lt, if_pos]
  rw [Bool.and_self, Bool.true_and, Bool.and_true, Bool.and_true, decide_eq_true_eq]
  have h := e.dep a
  omega
theorem leD_enc (o : EncO f lt) (a b : α) : leD (f a) (f b) = leB lt a b := by
  show (!PySem.W.dataLt (f b).py (f a).py) = _
  rw [o.lt]; rfl
theorem okSort_enc (o : EncO f lt) (e : Enc f n) (l : List α) (hn : n ≤ 60) (h : (∀ a ∈ l, noTup (f a) = true) ∨ ∀ a ∈ l, fullTup (f a) = true) : okSort (l.map f) = true := by
  unfold okSort
  simp only [Bool.and_eq_true, Bool.or_eq_true, List.all_eq_true, List.mem_map]
  refine ⟨⟨⟨?_, ?_⟩, ?_⟩, ?_⟩
  · rintro d ⟨c, _, rfl⟩; exact e.plain c
  · rintro d ⟨c, _, rfl⟩ d' ⟨c', _, rfl⟩; exact o.alike c c'
  · rcases h with h | h
    · refine .inr ?_
      rintro d ⟨c, hc, rfl⟩
      have := h c hc
      unfold noTup at this
      split at this <;> first | exact absurd this Bool.false_ne_true | (split <;> simp_all)
    · refine .inl ?_
      rintro d ⟨c, hc, rfl⟩
      have := h c hc
      unfold fullTup at this
      exact this
  · rintro d ⟨c, _, rfl⟩
    have := e.dep c
    exact decide_eq_true (by omega)
theorem EncO.gSorted (o : EncO f lt) (e : Enc f n) (l : List α) (h : (∀ a ∈ l, noTup (f a) = true) ∨ ∀ a ∈ l, fullTup (f a) = true) (hn : n ≤ 60 := by decide) : gSorted [.lst (l.map f)] = Option.some (.lst ((sortB lt l).map f)) := by
  show (if okSort (l.map f) = true then Option.some (D.lst ((l.map f).mergeSort leD)) else none) = _
  rw [if_pos (okSort_enc o e l hn h)]
  unfold sortB
  rw [List.map_mergeSort (s := leD) fun a _ b _ => (leD_enc o a b).symm]
end
theorem gSorted_dC (l : List Nat) : gSorted [.lst (l.map dC)] = some (.lst ((sortB ltN l).map dC)) := EncO.dC.gSorted Enc.dC l (.inl fun _ _ => rfl)
theorem gSorted_dS (l : List (List Nat)) : gSorted [.lst (l.map dS)] = some (.lst ((sortB (lexL ltN) l).map dS)) := EncO.dS.gSorted Enc.dS l (.inl fun _ _ => rfl)

abbrev Rule := List Nat × Nat
def Asc (l : List Nat) : Prop := l.Pairwise fun a b => ltN a b = true
theorem Asc.nodup {l : List Nat} (h : Asc l) : l.Nodup := ordN.nodup h
theorem Asc.ext {a b : List Nat} (ha : Asc a) (hb : Asc b) (h : ∀ x, x ∈ a ↔ x ∈ b) : a = b := ordN.ext ha hb h
theorem Asc.filter {l : List Nat} (h : Asc l) (p : Nat → Bool) : Asc (l.filter p) := List.Pairwise.filter p h
theorem Asc.sort {l : List Nat} (h : l.Nodup) : Asc (sortB ltN l) := ordN.asc h
def letters : List Nat := tl (Str.ofString "abcdefghijklmnopqrstuvwxyz")
theorem letters_eq : letters = [97, 98, 99, 100, 101, 102, 103, 104, 105, 106, 107, 108, 109, 110, 111, 112, 113, 114, 115, 116, 117, 118, 119, 120, 121, 122] := by decide +kernel
def isLetter (c : Nat) : Bool := decide (c ∈ letters)
def colsB (l : List Nat) : Bool := l.all isLetter && ascB ltN l
def withinB (a b : List Nat) : Bool := colsB a && a.all fun c => decide (c ∈ b)
/-- a rule: its left columns, its right one -/
def dR (r : Rule) : D := .tup [dS r.1, dC r.2]
def ruleB (cols : List Nat) (r : Rule) : Bool := withinB r.1 cols && withinB [r.2] cols && !decide (r.2 ∈ r.1)
def ruleLt : Rule → Rule → Bool := lexB (lexL ltN) ltN
theorem ordR : Ordr ruleLt := ordX (ordL ordN) ordN
theorem Enc.dR : Enc dR 1 := Enc.pair Enc.dS Enc.dC
theorem EncO.dR : EncO dR ruleLt := EncO.pair Enc.dS Enc.dC EncO.dS EncO.dC ordN.irr
theorem gSorted_dR (l : List Rule) : gSorted [.lst (l.map dR)] = some (.lst ((sortB ruleLt l).map dR)) := EncO.dR.gSorted Enc.dR l (.inr fun _ _ => rfl)
theorem gLt_rule (p q : Rule) : gLt (dR p) (dR q) = some (.bl (ruleLt p q)) := EncO.dR.gLt Enc.dR p q
theorem gLt_dC (p q : Nat) : gLt (dC p) (dC q) = some (.bl (ltN p q)) := EncO.dC.gLt Enc.dC p q
def unR : D → Option Rule
  | .tup [.str a, .str b] => match tl b with
    | [c] => some (tl a, c)
    | _ => none
  | _ => none
def unRs : List D → Option (List Rule)
  | [] => some []
  | d :: ds => (unR d).bind fun r => (unRs ds).map (r :: ·)
theorem unRs_map : ∀ l : List Rule, unRs (l.map dR) = some l
  | [] => rfl
  | r :: l => by
    show ((unR (dR r)).bind fun r => (unRs (l.map dR)).map (r :: ·)) = _
    rw [unRs_map l]; rfl
theorem unR_eq {d : D} {r : Rule} (h : unR d = some r) : d = dR r := by
  unfold unR at h
  split at h
  · rename_i a b
    split at h
    · rename_i c e
      cases h
      have : b = sgn c := by rw [← T_tl b, e]; rfl
      rw [this]
      show _ = D.tup [D.str (T (tl a)), D.str (sgn c)]
      rw [T_tl]
    · cases h
  · cases h
theorem unRs_eq : ∀ {ds : List D} {l : List Rule}, unRs ds = some l → ds = l.map dR
  | [], l, h => by cases h; rfl
  | d :: ds, l, h => by
    have h : ((unR d).bind fun r => (unRs ds).map (r :: ·)) = some l := h
    cases q : unR d with
    | none => rw [q] at h; cases h
    | some r =>
      rw [q] at h
      have h : (unRs ds).map (r :: ·) = some l := h
      cases q2 : unRs ds with
      | none => rw [q2] at h; cases h
      | some m => rw [q2] at h; cases h; rw [List.map_cons, ← unR_eq q, unRs_eq q2]
def schemeB (cols : List Nat) (rs : List Rule) : Bool := colsB cols && !cols.isEmpty && rs.all (ruleB cols) && ascB ruleLt rs
def fSch (cols : List Nat) (rs : List Rule) : List (Str × D) := [("columns", dS cols), ("rules", .tup (rs.map dR))]
def iSch (ds : List D) : Res (List (Str × D)) := match ds with
  | [.str x, .tup rs] => match unRs rs with
    | some l => if schemeB (tl x) l = true then .ok (fSch (tl x) l) else .stuck
    | none => .stuck
  | _ => .stuck
theorem col_ne_rul : ¬ (("columns" : Str) = ("rules" : Str)) := by decide +kernel
theorem iSch_ok {ds : List D} {fs : List (Str × D)} (h : iSch ds = .ok fs) : ∃ cols l, ds = [dS cols, .tup (l.map dR)] ∧ schemeB cols l = true ∧ fs = fSch cols l := by
  unfold iSch at h
  split at h
  · rename_i x rs
    split at h
    · rename_i l e
      split at h
      · rename_i hb
        cases h
        exact ⟨tl x, l, by rw [unRs_eq e, dS, T_tl], hb, rfl⟩
      · cases h
    · cases h
  · cases h
theorem iSch_err {ds : List D} {x : ExV} {E : Env} (h : iSch ds = .err x E) : False := by
  unfold iSch at h
  split at h
  · split at h
    · split at h <;> cases h
    · cases h
  · cases h
theorem iSch_eq {cols : List Nat} {l : List Rule} (h : schemeB cols l = true) : iSch [dS cols, .tup (l.map dR)] = .ok (fSch cols l) := by
  show (match unRs (l.map dR) with
    | some l => if schemeB cols l = true then Res.ok (fSch cols l) else .stuck
    | none => .stuck) = _
  rw [unRs_map]
  exact if_pos h
theorem lk_cols (cols : List Nat) (rs : List Rule) : (fSch cols rs).lookup ("columns" : Str) = some (dS cols) := by
  unfold fSch
  rw [List.lookup_cons]; simp
theorem lk_rules (cols : List Nat) (rs : List Rule) : (fSch cols rs).lookup ("rules" : Str) = some (.tup (rs.map dR)) := by
  have h : (("rules" : Str) == ("columns" : Str)) = false := by decide +kernel
  unfold fSch
  rw [List.lookup_cons, h, List.lookup_cons]; simp
structure Sch (cols : List Nat) (R : List Rule) : Prop where
  asc : Asc cols
  let_ : ∀ x ∈ cols, x ∈ letters
  ne : cols ≠ []
  left : ∀ r ∈ R, ∀ x ∈ r.1, x ∈ cols
  lasc : ∀ r ∈ R, Asc r.1
  right : ∀ r ∈ R, r.2 ∈ cols
  not : ∀ r ∈ R, r.2 ∉ r.1
  rasc : R.Pairwise fun a b => ruleLt a b = true
theorem colsB_iff {l : List Nat} : colsB l = true ↔ Asc l ∧ ∀ x ∈ l, x ∈ letters := by
  unfold colsB
  rw [Bool.and_eq_true, ordN.ascB, List.all_eq_true]
  unfold isLetter Asc
  simp only [decide_eq_true_eq]
  exact And.comm
theorem withinB_iff {a b : List Nat} : withinB a b = true ↔ Asc a ∧ (∀ x ∈ a, x ∈ letters) ∧ ∀ x ∈ a, x ∈ b := by
  unfold withinB
  rw [Bool.and_eq_true, colsB_iff, List.all_eq_true]
  simp only [decide_eq_true_eq]
  exact and_assoc
theorem ruleB_iff {cols : List Nat} {r : Rule} (hc : ∀ x ∈ cols, x ∈ letters) : ruleB cols r = true ↔ Asc r.1 ∧ (∀ x ∈ r.1, x ∈ cols) ∧ r.2 ∈ cols ∧ r.2 ∉ r.1 := by
  unfold ruleB
  rw [Bool.and_eq_true, Bool.and_eq_true, withinB_iff, withinB_iff, Bool.not_eq_true', decide_eq_false_iff_not]
  constructor
  · rintro ⟨⟨⟨h1, h2, h3⟩, _, _, h6⟩, h7⟩
    exact ⟨h1, h3, h6 _ List.mem_cons_self, h7⟩
  · rintro ⟨h1, h2, h3, h4⟩
    refine ⟨⟨⟨h1, fun x hx => hc x (h2 x hx), h2⟩, List.pairwise_singleton _ _, fun x hx => ?_, fun x hx => ?_⟩, h4⟩
    · rw [List.mem_singleton.mp hx]; exact hc _ h3
    · rw [List.mem_singleton.mp hx]; exact h3
theorem schemeB_iff {cols : List Nat} {R : List Rule} : schemeB cols R = true ↔ Sch cols R := by
  unfold schemeB
  rw [Bool.and_eq_true, Bool.and_eq_true, Bool.and_eq_true, colsB_iff, ordR.ascB, List.all_eq_true, Bool.not_eq_true', List.isEmpty_eq_false_iff]
  constructor
  · rintro ⟨⟨⟨⟨h1, h2⟩, h3⟩, h4⟩, h5⟩
    have h4 : ∀ r ∈ R, _ := fun r hr => (ruleB_iff h2).mp (h4 r hr)
    exact ⟨h1, h2, h3, fun r hr => (h4 r hr).2.1, fun r hr => (h4 r hr).1, fun r hr => (h4 r hr).2.2.1, fun r hr => (h4 r hr).2.2.2, h5⟩
  · intro h
    exact ⟨⟨⟨⟨h.asc, h.let_⟩, h.ne⟩, fun r hr => (ruleB_iff h.let_).mpr ⟨h.lasc r hr, h.left r hr, h.right r hr, h.not r hr⟩⟩, h.rasc⟩
theorem nodup_sub_len {α : Type} [DecidableEq α] : ∀ {a b : List α}, a.Nodup → (∀ x ∈ a, x ∈ b) → a.length ≤ b.length
  | [], _, _, _ => Nat.zero_le _
  | x :: a, b, hn, hs => by
    rw [List.nodup_cons] at hn
    have hx := hs x List.mem_cons_self
    have h := nodup_sub_len (a := a) (b := b.erase x) hn.2 fun y hy => (List.mem_erase_of_ne (fun e => hn.1 (by rw [← e]; exact hy))).mpr (hs y (List.mem_cons_of_mem _ hy))
    rw [List.length_erase_of_mem hx] at h
    have : 0 < b.length := List.length_pos_of_mem hx
    rw [List.length_cons]; omega
theorem Asc.len {l : List Nat} (h : Asc l) (hl : ∀ x ∈ l, x ∈ letters) : l.length ≤ 26 := by
  have := nodup_sub_len h.nodup hl
  rw [letters_eq] at this
  exact this
theorem Sch.len {cols : List Nat} {R : List Rule} (h : Sch cols R) : cols.length ≤ 26 := h.asc.len h.let_
def dSch (C : Addr) (cols : List Nat) (rs : List Rule) : D := .obj C (fSch cols rs)
end DL
namespace DL
open PySem PySem.Spec PyProof.Rows L2 TL
def compF (vs : List Nat) (g : GF) (fc : BF) (fe : EF) (E0 : Env) (items : List D) : Res (D × Env) := compL vs g fc fe E0 items [] E0
/-- one turn -/
def turnC (vs : List Nat) (g : GF) (fc : BF) (fe : EF) (E : Env) (d : D) : Res (Bool × W × Env × Env) :=
  (ofO (g d (wipeE E vs))).bind fun E1 => (fc E1).bind fun p => (fe p.2).bind fun q => .ok (p.1, q.1, backE E p.2 vs, backE E q.2 vs)
theorem compL_turn {α : Type} {vs : List Nat} {g : GF} {fc : BF} {fe : EF} {E : Env} (f : α → D) (p : α → Bool) (y : α → D) (l : List α) (h : ∀ a ∈ l, turnC vs g fc fe E (f a) = .ok (p a, .dat (y a), E, E)) (acc : List D) :
    compL vs g fc fe E (l.map f) acc E = .ok (.lst (acc ++ (l.filter p).map y), E) := by
  induction l generalizing acc with
  | nil => simp [compL]
  | cons a r ih =>
    have h1 := h a List.mem_cons_self
    have ih := ih fun b hb => h b (List.mem_cons_of_mem _ hb)
    unfold turnC at h1
    cases e1 : g (f a) (wipeE E vs) with
    | none => rw [e1] at h1; cases h1
    | some E1 =>
      rw [e1] at h1
      simp only [ofO_some, Res.ok_bind] at h1
      cases e2 : fc E1 with
      | err _ _ => rw [e2] at h1; cases h1
      | stuck => rw [e2] at h1; cases h1
      | ok q =>
        rw [e2] at h1
        simp only [Res.ok_bind] at h1
        cases e3 : fe q.2 with
        | err _ _ => rw [e3] at h1; cases h1
        | stuck => rw [e3] at h1; cases h1
        | ok z =>
          rw [e3] at h1
          simp only [Res.ok_bind] at h1
          injection h1 with h1
          injection h1 with i1 h1
          injection h1 with i2 h1
          injection h1 with i3 i4
          rw [List.map_cons, compL, e1]
          simp only [ofO_some, Res.ok_bind, e2, noErr]
          cases hp : p a with
          | false => rw [i1, hp, if_neg Bool.false_ne_true, i3, ih, List.filter_cons, hp, if_neg Bool.false_ne_true]
          | true =>
            rw [i1, hp, if_pos rfl, e3]
            simp only [Res.ok_bind, noErr]
            rw [i2]
            simp only [asDat, ofO_some, Res.ok_bind]
            rw [i4, ih, List.filter_cons, hp, if_pos rfl, List.map_cons, List.append_assoc]; rfl

open Classical in
noncomputable def resP {α : Type} (E : Env) (s : α → Res (Bool × W × Env × Env)) (l : List α) (fb : Res (D × Env)) : Res (D × Env) :=
  if h : ∃ py : (α → Bool) × (α → D), ∀ a ∈ l, s a = .ok (py.1 a, .dat (py.2 a), E, E) then .ok (.lst ((l.filter h.choose.1).map h.choose.2), E) else fb
theorem resP_ok {α : Type} {E : Env} {s : α → Res (Bool × W × Env × Env)} {l : List α} {fb : Res (D × Env)} {p : α → Bool} {y : α → D} (h : ∀ a ∈ l, s a = .ok (p a, .dat (y a), E, E)) : resP E s l fb = .ok (.lst ((l.filter p).map y), E) := by
  have ex : ∃ py : (α → Bool) × (α → D), ∀ a ∈ l, s a = .ok (py.1 a, .dat (py.2 a), E, E) := ⟨(p, y), h⟩
  unfold resP
  rw [dif_pos ex]
  have c := ex.choose_spec
  have e1 : l.filter ex.choose.1 = l.filter p := List.filter_congr fun a ha => by
    have := (c a ha).symm.trans (h a ha)
    injection this with this
    injection this with i1 _
  have e2 : (l.filter p).map ex.choose.2 = (l.filter p).map y := List.map_congr_left fun a ha => by
    have := (c a (List.mem_filter.mp ha).1).symm.trans (h a (List.mem_filter.mp ha).1)
    injection this with this
    injection this with _ this
    injection this with this _
    injection this
  rw [e1, e2]
@[simp] theorem resP_simp {α : Type} (E : Env) (p : α → Bool) (y : α → D) (l : List α) (fb : Res (D × Env)) : resP E (fun a => .ok (p a, .dat (y a), E, E)) l fb = .ok (.lst ((l.filter p).map y), E) := resP_ok fun _ _ => rfl
theorem compL_res {α : Type} {vs : List Nat} {g : GF} {fc : BF} {fe : EF} {E : Env} (f : α → D) (l : List α) : compL vs g fc fe E (l.map f) [] E = resP E (fun a => turnC vs g fc fe E (f a)) l (compF vs g fc fe E (l.map f)) := by
  by_cases h : ∃ py : (α → Bool) × (α → D), ∀ a ∈ l, turnC vs g fc fe E (f a) = .ok (py.1 a, .dat (py.2 a), E, E)
  · obtain ⟨⟨p, y⟩, h⟩ := h
    rw [resP_ok h, compL_turn f p y l h]; rfl
  · unfold resP
    rw [dif_neg h]; rfl
def k3_turn (vs : List Nat) (E : Env) (p : Bool × Env) : W × Env → Res (Bool × W × Env × Env) := fun q => .ok (p.1, q.1, backE E p.2 vs, backE E q.2 vs)
@[simp] theorem ap_k3_turn (vs : List Nat) (E : Env) (p : Bool × Env) (q : W × Env) : k3_turn vs E p q = .ok (p.1, q.1, backE E p.2 vs, backE E q.2 vs) := rfl
def k2_turn (vs : List Nat) (fe : EF) (E : Env) : Bool × Env → Res (Bool × W × Env × Env) := fun p => (fe p.2).bind (k3_turn vs E p)
@[simp] theorem ap_k2_turn (vs : List Nat) (fe : EF) (E : Env) (p : Bool × Env) : k2_turn vs fe E p = (fe p.2).bind (k3_turn vs E p) := rfl
def k1_turn (vs : List Nat) (fc : BF) (fe : EF) (E : Env) : Env → Res (Bool × W × Env × Env) := fun E1 => (fc E1).bind (k2_turn vs fe E)
@[simp] theorem ap_k1_turn (vs : List Nat) (fc : BF) (fe : EF) (E E1 : Env) : k1_turn vs fc fe E E1 = (fc E1).bind (k2_turn vs fe E) := rfl
@[simp] theorem ap_turnC {vs : List Nat} {g : GF} {fc : BF} {fe : EF} {E : Env} {d : D} : turnC vs g fc fe E d = (ofO (g d (wipeE E vs))).bind (k1_turn vs fc fe E) := rfl
def k3_comp (vs : List Nat) (g : GF) (fc : BF) (fe : EF) (E0 : Env) (ds acc : List D) (E3 : Env) : D → Res (D × Env) := fun y => compL vs g fc fe E0 ds (acc ++ [y]) (backE E0 E3 vs)
@[simp] theorem ap_k3_comp (vs : List Nat) (g : GF) (fc : BF) (fe : EF) (E0 : Env) (ds acc : List D) (E3 : Env) (y : D) : k3_comp vs g fc fe E0 ds acc E3 y = compL vs g fc fe E0 ds (acc ++ [y]) (backE E0 E3 vs) := rfl
def k2_comp (vs : List Nat) (g : GF) (fc : BF) (fe : EF) (E0 : Env) (ds acc : List D) : W × Env → Res (D × Env) := fun q => (ofO (asDat q.1)).bind (k3_comp vs g fc fe E0 ds acc q.2)
@[simp] theorem ap_k2_comp (vs : List Nat) (g : GF) (fc : BF) (fe : EF) (E0 : Env) (ds acc : List D) (q : W × Env) : k2_comp vs g fc fe E0 ds acc q = (ofO (asDat q.1)).bind (k3_comp vs g fc fe E0 ds acc q.2) := rfl
def k1_comp (vs : List Nat) (g : GF) (fc : BF) (fe : EF) (E0 : Env) (ds acc : List D) : Bool × Env → Res (D × Env) := fun p => if p.1 = true then (noErr (fe p.2)).bind (k2_comp vs g fc fe E0 ds acc) else compL vs g fc fe E0 ds acc (backE E0 p.2 vs)
@[simp] theorem ap_k1_comp (vs : List Nat) (g : GF) (fc : BF) (fe : EF) (E0 : Env) (ds acc : List D) (p : Bool × Env) : k1_comp vs g fc fe E0 ds acc p = if p.1 = true then (noErr (fe p.2)).bind (k2_comp vs g fc fe E0 ds acc) else compL vs g fc fe E0 ds acc (backE E0 p.2 vs) := rfl
def k0_comp (vs : List Nat) (g : GF) (fc : BF) (fe : EF) (E0 : Env) (ds acc : List D) : Env → Res (D × Env) := fun E1 => (noErr (fc E1)).bind (k1_comp vs g fc fe E0 ds acc)
@[simp] theorem ap_k0_comp (vs : List Nat) (g : GF) (fc : BF) (fe : EF) (E0 : Env) (ds acc : List D) (E1 : Env) : k0_comp vs g fc fe E0 ds acc E1 = (noErr (fc E1)).bind (k1_comp vs g fc fe E0 ds acc) := rfl
@[simp] theorem compL_nil (vs : List Nat) (g : GF) (fc : BF) (fe : EF) (E0 E : Env) (acc : List D) : compL vs g fc fe E0 [] acc E = .ok (.lst acc, E) := rfl
@[simp] theorem compL_cons (vs : List Nat) (g : GF) (fc : BF) (fe : EF) (E0 E : Env) (d : D) (ds acc : List D) : compL vs g fc fe E0 (d :: ds) acc E = (ofO (g d (wipeE E vs))).bind (k0_comp vs g fc fe E0 ds acc) := rfl
def k1_forL (g : GF) (body : SF) (ds : List D) : Fl × Env → Res (Fl × Env) := fun p => match p.1 with
    | .nx => forL g body ds p.2
    | .ct => forL g body ds p.2
    | .bk => .ok (.nx, p.2)
    | .rt d => .ok (.rt d, p.2)
@[simp] theorem k1_forL_nx (g : GF) (body : SF) (ds : List D) (E : Env) : k1_forL g body ds (.nx, E) = forL g body ds E := rfl
@[simp] theorem k1_forL_ct (g : GF) (body : SF) (ds : List D) (E : Env) : k1_forL g body ds (.ct, E) = forL g body ds E := rfl
@[simp] theorem k1_forL_bk (g : GF) (body : SF) (ds : List D) (E : Env) : k1_forL g body ds (.bk, E) = .ok (.nx, E) := rfl
@[simp] theorem k1_forL_rt (g : GF) (body : SF) (ds : List D) (E : Env) (d : D) : k1_forL g body ds (.rt d, E) = .ok (.rt d, E) := rfl
def k0_forL (g : GF) (body : SF) (ds : List D) : Env → Res (Fl × Env) := fun E1 => (body E1).bind (k1_forL g body ds)
@[simp] theorem ap_k0_forL (g : GF) (body : SF) (ds : List D) (E1 : Env) : k0_forL g body ds E1 = (body E1).bind (k1_forL g body ds) := rfl
@[simp] theorem forL_nil (g : GF) (body : SF) (E : Env) : forL g body [] E = .ok (.nx, E) := rfl
@[simp] theorem forL_cons (g : GF) (body : SF) (d : D) (ds : List D) (E : Env) : forL g body (d :: ds) E = (ofO (g d E)).bind (k0_forL g body ds) := rfl
@[simp] theorem filter_yes {α : Type} (l : List α) : l.filter (fun _ => true) = l := List.filter_eq_self.mpr fun _ _ => rfl
@[simp] theorem filter_no {α : Type} (l : List α) : l.filter (fun _ => false) = [] := List.filter_eq_nil_iff.mpr fun _ _ h => nomatch h
@[simp] theorem wipeE_nil (E : Env) : wipeE E [] = E := rfl
@[simp] theorem wipeE_cons (E : Env) (v : Nat) (vs : List Nat) : wipeE E (v :: vs) = (wipeE E vs).set v .no := rfl
@[simp] theorem backE_nil (E0 E : Env) : backE E0 E [] = E := rfl
@[simp] theorem backE_cons (E0 E : Env) (v : Nat) (vs : List Nat) : backE E0 E (v :: vs) = (backE E0 E vs).set v (E0[v]?.getD .no) := rfl
@[simp] theorem ap_gN (i : Nat) (d : D) (E : Env) : gN i d E = some (E.set i (.dat d)) := rfl
@[simp] theorem ap_gNil (E : Env) : gNil' [] E = some E := rfl
@[simp] theorem ap_gCons (g : GF) (gs : List D → Env → Option Env) (d : D) (ds : List D) (E : Env) : gCons' g gs (d :: ds) E = (g d E).bind fun E1 => gs ds E1 := rfl
@[simp] theorem ap_gT (gs : List D → Env → Option Env) (ds : List D) (E : Env) : gT gs (.tup ds) E = gs ds E := rfl
@[simp] theorem plain_no : plainC (some .no) = true := rfl
@[simp] theorem plain_dat (d : D) : plainC (some (.dat d)) = true := rfl
@[simp] theorem gNeg_int (i : Int) : gNeg (.int i) = some (.int (-i)) := rfl
end DL
namespace DL
open PySem PySem.Spec PyProof.Rows L2 TL
@[simp] theorem sqD_dS (l : List Nat) : sqD (dS l) = some (l.map dC) := rfl
@[simp] theorem sqD_dC (c : Nat) : sqD (dC c) = some [dC c] := rfl
@[simp] theorem gSl_init_dS (l : List Nat) : gSl (dS l) none (some (-1)) = some (dS l.dropLast) := gSl_init_str l
@[simp] theorem gSl_tail_dS (l : List Nat) : gSl (dS l) (some 1) none = some (dS l.tail) := gSl_tail_str l
@[simp] theorem gLen_dS (l : List Nat) : gLen [dS l] = some (.int l.length) := rfl
@[simp] theorem gLen_dC (c : Nat) : gLen [dC c] = some (.int 1) := rfl
@[simp] theorem gLen_dR (r : Rule) : gLen [dR r] = some (.int 2) := rfl
@[simp] theorem gIs_dS (f : String → Option Bool) (h : Addr → Option Bool) (l : List Nat) : gIs f h (dS l) = (f "str").map .bl := rfl
@[simp] theorem gIs_dC (f : String → Option Bool) (h : Addr → Option Bool) (c : Nat) : gIs f h (dC c) = (f "str").map .bl := rfl
@[simp] theorem gIs_dR (f : String → Option Bool) (h : Addr → Option Bool) (r : Rule) : gIs f h (dR r) = (f "tuple").map .bl := rfl
@[simp] theorem gIs_tup (f : String → Option Bool) (h : Addr → Option Bool) (r : List D) : gIs f h (.tup r) = (f "tuple").map .bl := rfl
@[simp] theorem gIs_lst (f : String → Option Bool) (h : Addr → Option Bool) (r : List D) : gIs f h (.lst r) = (f "list").map .bl := rfl
@[simp] theorem gIs_int (f : String → Option Bool) (h : Addr → Option Bool) (r : Int) : gIs f h (.int r) = (f "int").map .bl := rfl
@[simp] theorem gIs_obj (f : String → Option Bool) (h : Addr → Option Bool) (C : Addr) (fs : List (Str × D)) : gIs f h (.obj C fs) = (h C).map .bl := rfl
@[simp] theorem gIx_dS_n (l : List Nat) (n : Nat) : gIx (dS l) (.int (no_index (OfNat.ofNat n))) = (l[(OfNat.ofNat n : Nat)]?).map dC := gIx_str_nat l n
@[simp] theorem gIx_tup_n (l : List D) (n : Nat) : gIx (.tup l) (.int (no_index (OfNat.ofNat n))) = l[(OfNat.ofNat n : Nat)]? := gIx_tup_nat l n
@[simp] theorem gIx_lst_n (l : List D) (n : Nat) : gIx (.lst l) (.int (no_index (OfNat.ofNat n))) = l[(OfNat.ofNat n : Nat)]? := gIx_lst_nat l n
@[simp] theorem gIx_dR0 (r : Rule) : gIx (dR r) (.int 0) = some (dS r.1) := rfl
@[simp] theorem gIx_dR1 (r : Rule) : gIx (dR r) (.int 1) = some (dC r.2) := rfl
@[simp] theorem gT_dR (gs : List D → Env → Option Env) (r : Rule) (E : Env) : gT gs (dR r) E = gs [dS r.1, dC r.2] E := rfl
@[simp] theorem zip_pairs {α : Type} (f : α → D) (l : List α) : ((l.map f).dropLast.zip (l.map f).tail).map (fun p => D.tup [p.1, p.2]) = (l.dropLast.zip l.tail).map fun p => .tup [f p.1, f p.2] := by
  rw [← List.map_dropLast, ← List.map_tail, zip_two]
@[simp] theorem zip_pairs2 {α : Type} (f : α → D) (l : List α) : ((l.dropLast.map f).zip (l.tail.map f)).map (fun p => D.tup [p.1, p.2]) = (l.dropLast.zip l.tail).map fun p => .tup [f p.1, f p.2] := zip_two ..
@[simp] theorem gIn_dCf (c : Nat) (l : List Nat) : gInQ false (dC c) (dS l) = some (.bl (decide (c ∈ l))) := gIn_one false c l
@[simp] theorem gIn_dCt (c : Nat) (l : List Nat) : gInQ true (dC c) (dS l) = some (.bl (!decide (c ∈ l))) := gIn_one true c l
@[simp] theorem gIn_dClf (c : Nat) (l : List Nat) : gInQ false (dC c) (.lst (l.map dC)) = some (.bl (decide (c ∈ l))) := Enc.dC.gIn_lst false c l
@[simp] theorem gIn_dClt (c : Nat) (l : List Nat) : gInQ true (dC c) (.lst (l.map dC)) = some (.bl (!decide (c ∈ l))) := Enc.dC.gIn_lst true c l
@[simp] theorem gEq_dS (a b : List Nat) : gEq (dS a) (dS b) = some (.bl (decide (a = b))) := Enc.dS.gEq a b
@[simp] theorem gNe_dS (a b : List Nat) : gNe (dS a) (dS b) = some (.bl (!decide (a = b))) := Enc.dS.gNe a b
@[simp] theorem gEq_dC (a b : Nat) : gEq (dC a) (dC b) = some (.bl (decide (a = b))) := Enc.dC.gEq a b
@[simp] theorem gNe_dC (a b : Nat) : gNe (dC a) (dC b) = some (.bl (!decide (a = b))) := Enc.dC.gNe a b
@[simp] theorem gEq_e (a : List Nat) : gEq (dS a) (.str "") = some (.bl (decide (a = []))) := Enc.dS.gEq a []
@[simp] theorem gNe_e (a : List Nat) : gNe (dS a) (.str "") = some (.bl (!decide (a = []))) := Enc.dS.gNe a []
@[simp] theorem gEq_nilC (a : List Nat) : gEq (.lst (a.map dC)) (.lst []) = some (.bl a.isEmpty) := by
  rw [gEq_nil (Enc.dC.plainL a)]; cases a <;> rfl
@[simp] theorem gNe_nilC (a : List Nat) : gNe (.lst (a.map dC)) (.lst []) = some (.bl (!a.isEmpty)) := by
  rw [gNe_nil (Enc.dC.plainL a)]; cases a <;> rfl
@[simp] theorem gEq_rules (a b : List Rule) : gEq (.tup (a.map dR)) (.tup (b.map dR)) = some (.bl (decide (a = b))) := Enc.dR.tup.gEq a b
@[simp] theorem gLt_dC' (p q : Nat) : gLt (dC p) (dC q) = some (.bl (ltN p q)) := gLt_dC p q
@[simp] theorem gLt_dR' (p q : Rule) : gLt (dR p) (dR q) = some (.bl (ruleLt p q)) := gLt_rule p q
@[simp] theorem gSorted_dC' (l : List Nat) : gSorted [.lst (l.map dC)] = some (.lst ((sortB ltN l).map dC)) := gSorted_dC l
@[simp] theorem gSorted_dS' (l : List (List Nat)) : gSorted [.lst (l.map dS)] = some (.lst ((sortB (lexL ltN) l).map dS)) := gSorted_dS l
@[simp] theorem gSorted_dR' (l : List Rule) : gSorted [.lst (l.map dR)] = some (.lst ((sortB ruleLt l).map dR)) := gSorted_dR l
@[simp] theorem gTuple_lst (l : List D) : gTuple [.lst l] = some (.tup l) := rfl
theorem gAdd_dS (a b : List Nat) (h : a.length + b.length ≤ 16777216) : gAdd (dS a) (dS b) = some (dS (a ++ b)) := by
  show (if (T a).length + (T b).length ≤ 16777216 then some (D.str (T a ++ T b)) else none) = _
  rw [if_pos (by rw [T_len, T_len]; exact h), T_app]; rfl
theorem gAdd_dSC (a : List Nat) (b : Nat) (h : a.length ≤ 16777215) : gAdd (dS a) (dC b) = some (dS (a ++ [b])) := gAdd_dS a [b] (by simp; omega)
@[simp] theorem gAdd_int (a b : Int) : gAdd (.int a) (.int b) = some (.int (a + b)) := rfl
@[simp] theorem gSub_int (a b : Int) : gSub (.int a) (.int b) = some (.int (a - b)) := rfl
theorem rgD_map (n : Nat) : rgD 0 n = (List.range n).map fun i : Nat => D.int i := by
  unfold rgD
  simp
@[simp] theorem ap_eV (i : Nat) (E : Env) : eV i E = match E[i]? with
  | some (.dat d) => .ok (.dat d, E)
  | some (.own _) => .ok (.own i, E)
  | _ => .stuck := rfl
@[simp] theorem ap_eVf (i : Nat) (E : Env) : eVf i E = match E[i]? with
  | some (.dat d) => .ok (.dat d, E)
  | some (.own d) => .ok (.dat d, E.set i (.dat d))
  | _ => .stuck := rfl
@[simp] theorem ap_nos (n : Nat) : nos n = List.replicate n .no := rfl
@[simp] theorem compL_res' {α : Type} {vs : List Nat} {g : GF} {fc : BF} {fe : EF} {E : Env} (f : α → D) (l : List α) : compL vs g fc fe E (l.map f) [] E = resP E (fun a => turnC vs g fc fe E (f a)) l (compF vs g fc fe E (l.map f)) := compL_res f l
@[simp] theorem gEq_nilS (a : List (List Nat)) : gEq (.lst (a.map dS)) (.lst []) = some (.bl a.isEmpty) := by
  rw [gEq_nil (Enc.dS.plainL a)]; cases a <;> rfl
@[simp] theorem gNe_nilS (a : List (List Nat)) : gNe (.lst (a.map dS)) (.lst []) = some (.bl (!a.isEmpty)) := by
  rw [gNe_nil (Enc.dS.plainL a)]; cases a <;> rfl
@[simp] theorem dats_app' (l : List D) (ws : List W) : dats (l.map W.dat ++ ws) = (dats ws).map (l ++ ·) := dats_app l ws
@[simp] theorem dats_map (l : List D) : dats (l.map W.dat) = some l := by
  have := dats_app l []
  simpa using this
@[simp] theorem gSorted_dCa (a b : List Nat) : gSorted [.lst (a.map dC ++ b.map dC)] = some (.lst ((sortB ltN (a ++ b)).map dC)) := by
  rw [← List.map_append, gSorted_dC]
@[simp] theorem rd_own_ (E : Env) (i : Nat) : rd E (.own i) = match E[i]? with
  | some (.own d) => .ok d
  | _ => .stuck := rfl
@[simp] theorem rds_own (E : Env) (i : Nat) (ws : List W) : rds E (.own i :: ws) = (rd E (.own i)).bind fun d => (rds E ws).bind fun ds => .ok (d :: ds) := rfl
@[simp] theorem ap_ownL (E : Env) (i : Nat) : ownL E i = match E[i]? with
  | some (.own (.lst ds)) => some ds
  | _ => none := rfl
@[simp] theorem ap_ownO (E : Env) (i : Nat) : ownO E i = match E[i]? with
  | some (.own d) => some d
  | _ => none := rfl
@[simp] theorem ap_deckAt (E : Env) (i : Nat) : deckAt E i = match E[i]? with
  | some (.deck a q l b) => some (a, q, ⟨l, b⟩)
  | _ => none := rfl
theorem gApp_ok (ds : List D) (y : D) (h : ds.length < 16777216) : gApp ds [y] = some (.non, ds ++ [y]) := if_pos h
end DL
namespace DL
open PySem PySem.Spec PyProof.Rows L2 TL
def dN (i : Nat) : D := .int (i : Nat)
theorem Enc.dN : Enc dN 0 := Enc.nat
def stepF (st : List Nat × List Nat) (i : Nat) (r : Rule) : List Nat × List Nat := if !decide (r.2 ∈ st.1) && r.1.all (fun c => decide (c ∈ st.1)) then (st.1 ++ [r.2], st.2 ++ [i]) else st
def passF : List Rule → Nat → List Nat × List Nat → List Nat × List Nat
  | [], _, st => st
  | r :: rs, i, st => passF rs (i + 1) (stepF st i r)
/-- what is settled -/
inductive InClo (R : List Rule) (b : List Nat) : Nat → Prop
  | base {x : Nat} : x ∈ b → InClo R b x
  | step {r : Rule} : r ∈ R → (∀ c ∈ r.1, InClo R b c) → InClo R b r.2
def rightsAt (R : List Rule) (is : List Nat) : List Nat := is.filterMap fun i => R[i]?.map (·.2)
def stepH (R : List Rule) (known : List Nat) (d : D) : D ⊕ List Nat := match d with
  | .int i => if 0 ≤ i ∧ i < (R.length : Int) then (match R[i.toNat]? with
      | some r => if r.1.all (fun x => decide (x ∈ known)) = true then .inr (known ++ [r.2]) else .inl (.bl false)
      | none => .inl (.bl false)) else .inl (.bl false)
  | _ => .inl (.bl false)
/-- is it a derivation -/
def holdsB (R : List Rule) (b : List Nat) (x : Nat) (d : D) : Bool := match d with
  | .tup ds => match foldE (stepH R) b ds with
    | .inl _ => false
    | .inr k => decide (x ∈ k)
  | _ => false
structure IvS (R : List Rule) (b : List Nat) (st : List Nat × List Nat) : Prop where
  eq : st.1 = b ++ rightsAt R st.2
  nd : st.1.Nodup
  lt : ∀ i ∈ st.2, i < R.length
  snd : ∀ x ∈ st.1, InClo R b x
  ld : foldE (stepH R) b (st.2.map dN) = .inr st.1
theorem rightsAt_app (R : List Rule) (a c : List Nat) : rightsAt R (a ++ c) = rightsAt R a ++ rightsAt R c := List.filterMap_append ..
theorem rightsAt_one {R : List Rule} {i : Nat} {r : Rule} (h : R[i]? = some r) : rightsAt R [i] = [r.2] := by
  unfold rightsAt
  simp [h]
theorem rightsAt_len {R : List Rule} : ∀ {is : List Nat}, (∀ i ∈ is, i < R.length) → (rightsAt R is).length = is.length
  | [], _ => rfl
  | i :: is, h => by
    have ih := rightsAt_len (R := R) (is := is) fun j hj => h j (List.mem_cons_of_mem _ hj)
    have hi : i < R.length := h i List.mem_cons_self
    have e : R[i]? = some R[i] := List.getElem?_eq_getElem hi
    have : rightsAt R (i :: is) = rightsAt R [i] ++ rightsAt R is := rightsAt_app R [i] is
    rw [this, rightsAt_one e, List.length_append, ih]
    simp; omega
theorem foldE_snoc {σ α : Type} {st : σ → α → D ⊕ σ} : ∀ {l : List α} {s u : σ} {a : α}, foldE st s l = .inr u → foldE st s (l ++ [a]) = st u a
  | [], s, u, a, h => by
    cases h
    rw [List.nil_append, foldE]
    cases st s a <;> rfl
  | b :: l, s, u, a, h => by
    rw [foldE] at h
    rw [List.cons_append, foldE]
    cases e : st s b with
    | inl d => rw [e] at h; cases h
    | inr v => rw [e] at h; exact foldE_snoc h
theorem step_iv {R : List Rule} {b : List Nat} {st : List Nat × List Nat} {i : Nat} {r : Rule} (h : IvS R b st) (hr : R[i]? = some r) : IvS R b (stepF st i r) := by
  unfold stepF
  split
  · rename_i c
    rw [Bool.and_eq_true] at c
    obtain ⟨c1, c2⟩ := c
    have n : r.2 ∉ st.1 := by simpa using c1
    have c2 : ∀ x ∈ r.1, x ∈ st.1 := fun x hx => of_decide_eq_true (List.all_eq_true.mp c2 x hx)
    refine ⟨?_, ?_, fun j hj => ?_, fun x hx => ?_, ?_⟩
    · rw [rightsAt_app, rightsAt_one hr, ← List.append_assoc, ← h.eq]
    · rw [List.nodup_append]
      refine ⟨h.nd, by simp, fun a ha y hy => ?_⟩
      rw [List.mem_singleton.mp hy]
      intro e
      rw [e] at ha; exact n ha
    · rcases List.mem_append.mp hj with q | q
      · exact h.lt j q
      · rw [List.mem_singleton.mp q]; exact (List.getElem?_eq_some_iff.mp hr).1
    · rcases List.mem_append.mp hx with q | q
      · exact h.snd x q
      · rw [List.mem_singleton.mp q]
        exact .step (List.mem_of_getElem? hr) fun c hc => h.snd c (c2 c hc)
    · have hi : i < R.length := (List.getElem?_eq_some_iff.mp hr).1
      rw [List.map_append]
      show foldE (stepH R) b (st.2.map dN ++ [dN i]) = _
      rw [foldE_snoc h.ld]
      have hall : r.1.all (fun x => decide (x ∈ st.1)) = true := List.all_eq_true.mpr fun c hc => decide_eq_true (c2 c hc)
      have h0 : (0 : Int) ≤ (i : Int) ∧ (i : Int) < (R.length : Int) := by omega
      simp only [stepH, dN]
      rw [if_pos h0, Int.toNat_natCast, hr]
      simp only
      rw [if_pos hall]
  · exact h
theorem pass_iv {R : List Rule} {b : List Nat} : ∀ (rs : List Rule) (i : Nat) (st : List Nat × List Nat), R.drop i = rs → IvS R b st → IvS R b (passF rs i st)
  | [], _, _, _, h => h
  | r :: rs, i, st, e, h => by
    have hr : R[i]? = some r := by
      have : (R.drop i)[0]? = some r := by rw [e]; rfl
      rw [List.getElem?_drop] at this; simpa using this
    have e2 : R.drop (i + 1) = rs := by
      rw [← List.drop_drop, e]; rfl
    exact pass_iv rs (i + 1) _ e2 (step_iv h hr)
theorem pass_grow : ∀ (rs : List Rule) (i : Nat) (st : List Nat × List Nat), ∃ a c, passF rs i st = (st.1 ++ a, st.2 ++ c) ∧ a.length = c.length
  | [], _, st => ⟨[], [], by simp [passF], rfl⟩
  | r :: rs, i, st => by
    obtain ⟨a, c, e, hl⟩ := pass_grow rs (i + 1) (stepF st i r)
    rw [passF, e]
    unfold stepF
    split
    · exact ⟨[r.2] ++ a, [i] ++ c, by simp, by simp [hl]⟩
    · exact ⟨a, c, rfl, hl⟩
theorem pass_same {rs : List Rule} {i : Nat} {st : List Nat × List Nat} (h : (passF rs i st).2.length = st.2.length) : passF rs i st = st := by
  obtain ⟨a, c, e, hl⟩ := pass_grow rs i st
  rw [e] at h ⊢
  rw [List.length_append] at h
  have hc : c = [] := List.eq_nil_of_length_eq_zero (by omega)
  have ha : a = [] := List.eq_nil_of_length_eq_zero (by rw [hl, hc]; rfl)
  rw [ha, hc]; simp
/-- where a pass changes nothing all is closed -/
theorem pass_closed : ∀ {rs : List Rule} {i : Nat} {st : List Nat × List Nat}, passF rs i st = st → ∀ r ∈ rs, (∀ c ∈ r.1, c ∈ st.1) → r.2 ∈ st.1
  | [], _, _, _, _, hr => by cases hr
  | q :: rs, i, st, e, r, hr => fun hc => by
    have key : stepF st i q = st := by
      obtain ⟨a, c, e2, hl⟩ := pass_grow rs (i + 1) (stepF st i q)
      rw [passF, e2] at e
      unfold stepF at e ⊢
      split
      · rename_i h
        rw [if_pos h] at e
        have := congrArg (fun x => x.2.length) e
        simp at this
      · rfl
    rcases List.mem_cons.mp hr with z | z
    · subst z
      unfold stepF at key
      by_cases hm : r.2 ∈ st.1
      · exact hm
      · exfalso
        rw [if_pos (by rw [Bool.and_eq_true]; exact ⟨by simpa using hm, List.all_eq_true.mpr fun c h => decide_eq_true (hc c h)⟩)] at key
        have := congrArg (fun x => x.2.length) key
        simp at this
    · rw [passF, key] at e
      exact pass_closed e r z hc
theorem clo_iff {R : List Rule} {b : List Nat} {st : List Nat × List Nat} (h : IvS R b st) (e : passF R 0 st = st) (x : Nat) : x ∈ st.1 ↔ InClo R b x := by
  refine ⟨h.snd x, fun z => ?_⟩
  induction z with
  | base hb => rw [h.eq]; exact List.mem_append_left _ hb
  | step hr _ ih => exact pass_closed e _ hr ih
theorem iv_len {R : List Rule} {b : List Nat} {st : List Nat × List Nat} (h : IvS R b st) : st.2.length ≤ R.length ∧ st.1.length ≤ b.length + R.length := by
  have e := rightsAt_len h.lt
  have n : (rightsAt R st.2).Nodup := by
    have := h.nd
    rw [h.eq, List.nodup_append] at this
    exact this.2.1
  have sub : ∀ x ∈ rightsAt R st.2, x ∈ R.map (·.2) := fun x hx => by
    obtain ⟨i, hi, e⟩ := List.mem_filterMap.mp hx
    cases q : R[i]? with
    | none => rw [q] at e; cases e
    | some r => rw [q] at e; cases e; exact List.mem_map.mpr ⟨r, List.mem_of_getElem? q, rfl⟩
  have l := nodup_sub_len n sub
  rw [List.length_map] at l
  refine ⟨by omega, ?_⟩
  rw [h.eq, List.length_append]; omega
theorem InClo.trans {R : List Rule} {b b' : List Nat} (h : ∀ x ∈ b', InClo R b x) {x : Nat} (z : InClo R b' x) : InClo R b x := by
  induction z with
  | base hb => exact h _ hb
  | step hr _ ih => exact .step hr ih
open Classical in
theorem iv_start {R : List Rule} {b : List Nat} (hb : b.Nodup) : IvS R b (b, []) := ⟨by simp [rightsAt], hb, fun _ h => (by cases h), fun x hx => .base hx, rfl⟩
def rightOf (R : List Rule) (i : Nat) : Nat := (R[i]?.map (·.2)).getD 0
theorem rights_map {R : List Rule} : ∀ {is : List Nat}, (∀ i ∈ is, i < R.length) → rightsAt R is = is.map (rightOf R)
  | [], _ => rfl
  | i :: is, h => by
    have hi : i < R.length := h i List.mem_cons_self
    have e : R[i]? = some R[i] := List.getElem?_eq_getElem hi
    have : rightsAt R (i :: is) = rightsAt R [i] ++ rightsAt R is := rightsAt_app R [i] is
    rw [this, rightsAt_one e, rights_map (is := is) fun j hj => h j (List.mem_cons_of_mem _ hj)]
    unfold rightOf
    rw [List.map_cons, e]; rfl
theorem lit {s : String} {l : List Nat} (h : tl (Str.ofString s) = l) : D.str (Str.ofString s) = dS l := by
  rw [← h, dS, T_tl]
end DL
namespace DL
open PySem PySem.Spec PyProof.Rows L2 TL
/-- the key of a rule -/
def kR (r : Rule) : List Key := [.inr (T r.1), .inr (sgn r.2)]
theorem kR_inj {p q : Rule} : kR p = kR q ↔ p = q := by
  constructor
  · intro h
    unfold kR at h
    simp only [List.cons.injEq, Sum.inr.injEq, and_true] at h
    obtain ⟨h1, h2⟩ := h
    rw [T_inj] at h1
    rw [sgn_T, sgn_T, T_inj] at h2
    exact Prod.ext h1 (List.cons.inj h2).1
  · rintro rfl; rfl
def dT (rs : List Rule) : D := .dit (rs.map fun r => (kR r, .bl true))
theorem put_rule (rs : List Rule) (r : Rule) (h : rs.length < 16777216) : putO (dT rs) (dR r) (.bl true) = some (dT (if r ∈ rs then rs else rs ++ [r])) := by
  show ((keysO [dS r.1, dC r.2]).bind fun j => if (rs.map fun r => (kR r, D.bl true)).length < 16777216 then some (D.dit (putM (rs.map fun r => (kR r, D.bl true)) j (.bl true))) else none) = _
  have hk : keysO [dS r.1, dC r.2] = some (kR r) := rfl
  rw [hk, Option.bind_some, List.length_map, if_pos h]
  unfold putM
  have ha : ((rs.map fun r => (kR r, D.bl true)).any fun kv => decide (kv.1 = kR r)) = decide (r ∈ rs) := by
    rw [List.any_map]
    rw [Bool.eq_iff_iff, List.any_eq_true, decide_eq_true_eq]
    constructor
    · rintro ⟨x, hx, e⟩
      have e : kR x = kR r := of_decide_eq_true e
      rw [kR_inj] at e
      rw [← e]; exact hx
    · intro hr
      exact ⟨r, hr, decide_eq_true rfl⟩
  rw [ha]
  by_cases hr : r ∈ rs
  · rw [if_pos (decide_eq_true hr), if_pos hr]
    unfold dT
    congr 2
    rw [List.map_map]
    refine List.map_congr_left fun x _ => ?_
    show (if kR x = kR r then (kR x, D.bl true) else (kR x, D.bl true)) = _
    split <;> rfl
  · rw [if_neg (by simpa using hr), if_neg hr]
    unfold dT
    simp
theorem list_dT (rs : List Rule) : (rs.map fun r => (kR r, D.bl true)).map (fun x : List Key × D => D.tup (x.1.map kD)) = rs.map dR := by
  rw [List.map_map]; rfl
theorem erase_perm {α : Type} : ∀ (l : List α) (i : Nat) (h : i < l.length), (l[i] :: l.eraseIdx i).Perm l
  | x :: l, 0, _ => List.Perm.refl _
  | x :: l, i + 1, h => by
    have h : i < l.length := by simpa using h
    show (l[i] :: x :: l.eraseIdx i).Perm (x :: l)
    exact (List.Perm.swap x l[i] _).trans ((erase_perm l i h).cons x)
theorem erase_map {α β : Type} (f : α → β) : ∀ (l : List α) (i : Nat), (l.map f).eraseIdx i = (l.eraseIdx i).map f
  | [], _ => rfl
  | x :: l, 0 => rfl
  | x :: l, i + 1 => by
    show f x :: (l.map f).eraseIdx i = f x :: (l.eraseIdx i).map f
    rw [erase_map f l i]
theorem gPopAt_nat {α : Type} (f : α → D) (L : List α) (u : Nat) (h : u < L.length) (h2 : L.length ≤ 1000) : gPopAt (L.map f) [.int u] = some (f L[u], (L.eraseIdx u).map f) := by
  have e : seqIndex? (u : Int) (L.map f).length = some u := by
    unfold seqIndex?
    rw [List.length_map]
    have h1 : ¬ ((u : Int) < 0) := by omega
    simp only [if_neg h1]
    rw [if_pos (by simp; omega)]; rfl
  have h0 : gPopAt (L.map f) [.int u] = gPop (L.map f) [.int u] := if_pos rfl
  have h1 : -(2 ^ 63 : Int) ≤ (u : Int) ∧ (u : Int) < 2 ^ 63 := by
    constructor <;> omega
  have h3 : (L.map f)[u]? = some (f L[u]) := by rw [List.getElem?_map, List.getElem?_eq_getElem h]; rfl
  rw [h0, gPop, if_pos h1, e, Option.bind_some, h3, erase_map, Option.map_some]
theorem tup_dR (l : List Nat) (x : Nat) : D.tup [dS l, dC x] = dR (l, x) := rfl
theorem gListX_dS (l : List Nat) : gListX [dS l] = some (.lst (l.map dC)) := rfl
def pl (x : Cell) : Prop := plainC (some x) = true
end DL
namespace DL
open PySem PySem.Spec PyProof.Rows L2 TL
def noObj : D → Bool
  | .obj _ _ => false
  | _ => true
def isInt : D → Bool
  | .int _ => true
  | _ => false
@[simp] theorem kb1 : kitB "NoneType" "int" = some false := by decide +kernel
@[simp] theorem kb2 : kitB "bool" "int" = some true := by decide +kernel
@[simp] theorem kb3 : kitB "int" "int" = some true := by decide +kernel
@[simp] theorem kb4 : kitB "str" "int" = some false := by decide +kernel
@[simp] theorem kb5 : kitB "list" "int" = some false := by decide +kernel
@[simp] theorem kb6 : kitB "tuple" "int" = some false := by decide +kernel
@[simp] theorem kb7 : kitB "dict" "int" = some false := by decide +kernel
@[simp] theorem kb8 : kitB "int" "bool" = some false := by decide +kernel
@[simp] theorem kb9 : kitB "bool" "bool" = some true := by decide +kernel
@[simp] theorem kt1 : kitB "NoneType" "tuple" = some false := by decide +kernel
@[simp] theorem kt2 : kitB "bool" "tuple" = some false := by decide +kernel
@[simp] theorem kt3 : kitB "int" "tuple" = some false := by decide +kernel
@[simp] theorem kt4 : kitB "str" "tuple" = some false := by decide +kernel
@[simp] theorem kt5 : kitB "list" "tuple" = some false := by decide +kernel
@[simp] theorem kt7 : kitB "dict" "tuple" = some false := by decide +kernel
@[simp] theorem ks1 : kitB "NoneType" "str" = some false := by decide +kernel
@[simp] theorem ks2 : kitB "bool" "str" = some false := by decide +kernel
@[simp] theorem ks3 : kitB "int" "str" = some false := by decide +kernel
@[simp] theorem ks5 : kitB "list" "str" = some false := by decide +kernel
@[simp] theorem ks6 : kitB "tuple" "str" = some false := by decide +kernel
@[simp] theorem ks7 : kitB "dict" "str" = some false := by decide +kernel
@[simp] theorem gIs_bl (f : String → Option Bool) (h : Addr → Option Bool) (r : Bool) : gIs f h (.bl r) = (f "bool").map .bl := rfl
@[simp] theorem gIs_non (f : String → Option Bool) (h : Addr → Option Bool) : gIs f h .non = (f "NoneType").map .bl := rfl
@[simp] theorem gIs_str (f : String → Option Bool) (h : Addr → Option Bool) (x : Str) : gIs f h (.str x) = (f "str").map .bl := rfl
@[simp] theorem gIs_dic (f : String → Option Bool) (h : Addr → Option Bool) (x : List (Key × D)) : gIs f h (.dic x) = (f "dict").map .bl := rfl
@[simp] theorem gIs_dit (f : String → Option Bool) (h : Addr → Option Bool) (x : List (List Key × D)) : gIs f h (.dit x) = (f "dict").map .bl := rfl
theorem foldH_inl {R : List Rule} : ∀ {ds : List D} {b : List Nat} {d : D}, foldE (stepH R) b ds = .inl d → d = .bl false
  | [], _, _, h => by cases h
  | a :: ds, b, d, h => by
    rw [foldE] at h
    cases e : stepH R b a with
    | inr s => rw [e] at h; exact foldH_inl h
    | inl d' =>
      rw [e] at h; cases h
      unfold stepH at e
      split at e
      · split at e
        · split at e
          · split at e
            · cases e
            · cases e; rfl
          · cases e; rfl
        · cases e; rfl
      · cases e; rfl
@[simp] theorem gLe_int (i j : Int) : gLe (.int i) (.int j) = some (.bl (decide (i ≤ j))) := rfl
@[simp] theorem gLt_int (i j : Int) : gLt (.int i) (.int j) = some (.bl (decide (i < j))) := EncO.int.gLt Enc.int i j
@[simp] theorem gGt_int (i j : Int) : gGt (.int i) (.int j) = some (.bl (decide (j < i))) := rfl
@[simp] theorem gIsN_non (neg : Bool) (a : D) : gIsN neg a .non = some (.bl (if neg then !isNon a else isNon a)) := rfl
@[simp] theorem gNe_bl (a b : Bool) : gNe (.bl a) (.bl b) = some (.bl (a != b)) := by
  cases a <;> cases b <;> rfl
end DL
namespace DL
open PySem PySem.Spec PyProof.Rows L2 TL
theorem gAdd_lst (a b : List D) (h : a.length + b.length ≤ 16777216) : gAdd (.lst a) (.lst b) = some (.lst (a ++ b)) := if_pos h
structure LeastIn (full : List Nat → Bool) (P found : List (List Nat)) : Prop where
  nd : found.Nodup
  mem : ∀ s, s ∈ found ↔ s ∈ P ∧ full s = true ∧ ∀ t ∈ P, full t = true → (∀ x ∈ t, x ∈ s) → t = s
end DL
namespace DL
open PySem PySem.Spec PyProof.Rows L2 TL
def dI (k : List Int) : D := .tup (k.map .int)
theorem eI : Enc dI 1 := Enc.int.tup
theorem oI : EncO dI (lexL ltI) := EncO.int.tup Enc.int ordI
end DL
namespace DL
open PySem PySem.Spec PyProof.Rows L2 TL
@[simp] theorem sqD_dI (k : List Int) : sqD (dI k) = some (k.map .int) := rfl
@[simp] theorem gLen_dI (k : List Int) : gLen [dI k] = some (.int k.length) := by
  show some (D.int ((k.map D.int).length : Nat)) = _
  rw [List.length_map]
@[simp] theorem gIs_dI (f : String → Option Bool) (h : Addr → Option Bool) (k : List Int) : gIs f h (dI k) = (f "tuple").map .bl := rfl
@[simp] theorem gEq_dI (a b : List Int) : gEq (dI a) (dI b) = some (.bl (decide (a = b))) := eI.gEq a b
@[simp] theorem gNe_dI (a b : List Int) : gNe (dI a) (dI b) = some (.bl (!decide (a = b))) := eI.gNe a b
@[simp] theorem gLt_dI (a b : List Int) : gLt (dI a) (dI b) = some (.bl (lexL ltI a b)) := oI.gLt eI a b
theorem gIx_dI (k : List Int) (i : Nat) : gIx (dI k) (.int i) = (k[i]?).map .int := by
  show gIx (.tup (k.map .int)) (.int i) = _
  rw [gIx_tup_nat, List.getElem?_map]
@[simp] theorem gIx_dI_n (k : List Int) (n : Nat) : gIx (dI k) (.int (no_index (OfNat.ofNat n))) = (k[(OfNat.ofNat n : Nat)]?).map .int := gIx_dI k n
section
variable {α : Type} {E E' : Env} {g : GF} {body s2 : SF} {fi : IF} {Q : Fl × Env → Prop}
end
@[simp] theorem gTuple_ints (k : List Int) : gTuple [.lst (k.map .int)] = some (dI k) := rfl
end DL
namespace DL
open PySem PySem.Spec PyProof.Rows L2 TL
def splitN (c : Nat) : List Nat → List (List Nat)
  | [] => [[]]
  | x :: r => if x = c then [] :: splitN c r else match splitN c r with
    | p :: ps => (x :: p) :: ps
    | [] => [[x]]
def jn (c : Nat) : List (List Nat) → List Nat
  | [] => []
  | [p] => p
  | p :: q :: r => p ++ c :: jn c (q :: r)
theorem splitN_ne (c : Nat) : ∀ l : List Nat, splitN c l ≠ []
  | [] => by simp [splitN]
  | x :: r => by
    rw [splitN]
    split
    · simp
    · split <;> simp
theorem jn_pre (c x : Nat) (p : List Nat) : ∀ ps : List (List Nat), jn c ((x :: p) :: ps) = x :: jn c (p :: ps)
  | [] => rfl
  | _ :: _ => rfl
theorem jn_split (c : Nat) : ∀ l : List Nat, jn c (splitN c l) = l
  | [] => rfl
  | x :: r => by
    have ih := jn_split c r
    rw [splitN]
    split
    · rename_i h
      cases q : splitN c r with
      | nil => exact absurd q (splitN_ne c r)
      | cons p ps =>
        rw [q] at ih
        show [] ++ c :: jn c (p :: ps) = _
        rw [ih, h]; rfl
    · cases q : splitN c r with
      | nil => exact absurd q (splitN_ne c r)
      | cons p ps =>
        rw [q] at ih
        show jn c ((x :: p) :: ps) = _
        rw [jn_pre, ih]
theorem split_mem (c : Nat) : ∀ (l : List Nat), ∀ p ∈ splitN c l, c ∉ p ∧ ∀ x ∈ p, x ∈ l
  | [], p, hp => by
    rw [splitN, List.mem_singleton] at hp
    rw [hp]; exact ⟨by simp, fun _ h => by cases h⟩
  | x :: r, p, hp => by
    have ih := split_mem c r
    rw [splitN] at hp
    split at hp
    · rcases List.mem_cons.mp hp with z | z
      · rw [z]; exact ⟨by simp, fun _ h => by cases h⟩
      · exact ⟨(ih p z).1, fun y hy => List.mem_cons_of_mem _ ((ih p z).2 y hy)⟩
    · rename_i hx
      cases q : splitN c r with
      | nil => exact absurd q (splitN_ne c r)
      | cons u us =>
        rw [q] at hp ih
        rcases List.mem_cons.mp hp with z | z
        · have h := ih u List.mem_cons_self
          rw [z]
          refine ⟨fun h2 => ?_, fun y hy => ?_⟩
          · rcases List.mem_cons.mp h2 with e | e
            · exact hx e.symm
            · exact h.1 e
          · rcases List.mem_cons.mp hy with e | e
            · rw [e]; exact List.mem_cons_self
            · exact List.mem_cons_of_mem _ (h.2 y e)
        · have h := ih p (List.mem_cons_of_mem _ z)
          exact ⟨h.1, fun y hy => List.mem_cons_of_mem _ (h.2 y hy)⟩
theorem split_count (c : Nat) : ∀ l : List Nat, (splitN c l).length ≤ l.length + 1
  | [] => by simp [splitN]
  | x :: r => by
    have ih := split_count c r
    rw [splitN]
    split
    · simp; omega
    · cases q : splitN c r with
      | nil => simp
      | cons p ps => rw [q] at ih; simp at ih ⊢; omega
theorem cut_eq {c : Nat} : ∀ {p p' x x' : List Nat}, c ∉ p → c ∉ p' → p ++ c :: x = p' ++ c :: x' → p = p' ∧ x = x'
  | [], [], x, x', _, _, h => by injection h with _ h; exact ⟨rfl, h⟩
  | [], y :: p', x, x', _, h2, h => by
    injection h with e _
    exact absurd List.mem_cons_self (e ▸ h2)
  | y :: p, [], x, x', h1, _, h => by
    injection h with e _
    exact absurd List.mem_cons_self (e ▸ h1)
  | y :: p, y' :: p', x, x', h1, h2, h => by
    injection h with e h
    obtain ⟨a, b⟩ := cut_eq (fun z => h1 (List.mem_cons_of_mem _ z)) (fun z => h2 (List.mem_cons_of_mem _ z)) h
    exact ⟨by rw [e, a], b⟩
theorem jn_inj {c : Nat} : ∀ {a b : List (List Nat)}, a ≠ [] → b ≠ [] → (∀ p ∈ a, c ∉ p) → (∀ p ∈ b, c ∉ p) → jn c a = jn c b → a = b
  | [], _, h, _, _, _, _ => absurd rfl h
  | _, [], _, h, _, _, _ => absurd rfl h
  | [p], [q], _, _, _, _, h => by rw [show p = q from h]
  | [p], q :: q2 :: r, _, _, ha, _, h => by
    have h : p = q ++ c :: jn c (q2 :: r) := h
    exact absurd (show c ∈ p by rw [h]; simp) (ha p List.mem_cons_self)
  | p :: p2 :: r, [q], _, _, _, hb, h => by
    have h : p ++ c :: jn c (p2 :: r) = q := h
    exact absurd (show c ∈ q by rw [← h]; simp) (hb q List.mem_cons_self)
  | p :: p2 :: r, q :: q2 :: s, _, _, ha, hb, h => by
    have h : p ++ c :: jn c (p2 :: r) = q ++ c :: jn c (q2 :: s) := h
    obtain ⟨e1, e2⟩ := cut_eq (ha p List.mem_cons_self) (hb q List.mem_cons_self) h
    have := jn_inj (a := p2 :: r) (b := q2 :: s) (by simp) (by simp) (fun x hx => ha x (List.mem_cons_of_mem _ hx)) (fun x hx => hb x (List.mem_cons_of_mem _ hx)) e2
    rw [e1, this]
theorem split_jn {c : Nat} {a : List (List Nat)} (ha : a ≠ []) (h : ∀ p ∈ a, c ∉ p) : splitN c (jn c a) = a :=
  jn_inj (splitN_ne c _) ha (fun p hp => (split_mem c _ p hp).1) h (jn_split c _)
theorem str_join (c : Nat) : ∀ l : List (List Nat), Str.join (sgn c) (l.map T) = T (jn c l)
  | [] => rfl
  | [_] => rfl
  | p :: q :: r => by
    have ih := str_join c (q :: r)
    show T p ++ sgn c ++ Str.join (sgn c) ((q :: r).map T) = _
    rw [ih, sgn_T, T_app, T_app, jn]; simp
theorem jn_len (c : Nat) : ∀ l : List (List Nat), (jn c l).length ≤ (l.map (·.length)).sum + l.length
  | [] => by simp [jn]
  | [p] => by simp [jn]
  | p :: q :: r => by
    have ih := jn_len c (q :: r)
    rw [jn, List.length_append, List.length_cons, List.map_cons, List.sum_cons, List.length_cons]
    omega
theorem mem_jn {c : Nat} : ∀ {l : List (List Nat)} {x : Nat}, x ∈ jn c l → x = c ∨ ∃ p ∈ l, x ∈ p
  | [], x, h => by cases h
  | [p], x, h => .inr ⟨p, List.mem_cons_self, h⟩
  | p :: q :: r, x, h => by
    have h : x ∈ p ++ c :: jn c (q :: r) := h
    rcases List.mem_append.mp h with z | z
    · exact .inr ⟨p, List.mem_cons_self, z⟩
    · rcases List.mem_cons.mp z with z | z
      · exact .inl z
      · rcases mem_jn z with e | ⟨u, hu, e⟩
        · exact .inl e
        · exact .inr ⟨u, List.mem_cons_of_mem _ hu, e⟩
theorem txt_split (l : List Nat) (c : Nat) : Txt.split (T l) (sgn c) = (splitN c l).map T := by
  have h1 := PySem.StrLaws.join_split (T l) (sgn c)
  have h2 : ∀ p ∈ Txt.split (T l) (sgn c), c ∉ p.cps.toList := PySem.StrLaws.split_free (T l) c
  have h3 : 1 ≤ (Txt.split (T l) (sgn c)).length := split_pos (T l) (sgn c)
  have e : Txt.split (T l) (sgn c) = ((Txt.split (T l) (sgn c)).map tl).map T := by
    rw [List.map_map]
    have : T ∘ tl = id := funext fun x => T_tl x
    rw [this, List.map_id]
  generalize Txt.split (T l) (sgn c) = ps at *
  rw [e] at h1
  rw [str_join] at h1
  have h1 := T_inj.mp h1
  have : ps.map tl = splitN c l := by
    refine jn_inj (c := c) (fun z => ?_) (splitN_ne c l) (fun p hp => ?_) (fun p hp => (split_mem c l p hp).1) (by rw [h1, jn_split])
    · rw [List.map_eq_nil_iff] at z
      rw [z] at h3
      exact absurd h3 (by decide)
    · obtain ⟨u, hu, rfl⟩ := List.mem_map.mp hp
      exact h2 u hu
  rw [e, this]
/-- short enough, of code points -/
def TxOk (l : List Nat) : Prop := l.length ≤ 1000000 ∧ ∀ x ∈ l, x < 1114112
theorem gSplit_dS {l : List Nat} (c : Nat) (h : TxOk l) : gSplit (dS l) [dC c] = some (.lst ((splitN c l).map dS)) := by
  have e := txt_split l c
  show (if (((sgn c).length == 0) = false ∧ (T l).length ≤ 1000000) ∧ ((Txt.split (T l) (sgn c)).all fun t => decide (t.length ≤ 16777216) && PyData.strOk t) = true ∧ (Txt.split (T l) (sgn c)).length ≤ 16777216 then some (D.lst ((Txt.split (T l) (sgn c)).map D.str)) else none) = _
  rw [e, if_pos]
  · rw [List.map_map]; rfl
  · refine ⟨⟨rfl, h.1⟩, ?_, ?_⟩
    · rw [List.all_eq_true]
      intro t ht
      obtain ⟨p, hp, rfl⟩ := List.mem_map.mp ht
      have hm := (split_mem c l p hp).2
      rw [Bool.and_eq_true, decide_eq_true_eq]
      refine ⟨?_, strOk_iff.mpr fun x hx => h.2 x (hm x hx)⟩
      have h1 : T p ∈ Txt.split (T l) (sgn c) := by rw [e]; exact List.mem_map.mpr ⟨p, hp, rfl⟩
      have h2 := part_short h1
      have h3 : (T p).length ≤ l.length := h2
      have := h.1
      omega
    · rw [List.length_map]
      have := split_count c l
      have := h.1
      omega
theorem gJoin_dS (c : Nat) (ps : List (List Nat)) (h : (ps.map (·.length)).sum + ps.length ≤ 16777216) : gJoin (dC c) [.lst (ps.map dS)] = some (dS (jn c ps)) := by
  have e1 : ∀ l : List (List Nat), strsD (l.map dS) = some (l.map T) := by
    intro l
    induction l with
    | nil => rfl
    | cons a r ih =>
      show (strsD (r.map dS)).map (T a :: ·) = _
      rw [ih]; rfl
  show ((strsD (ps.map dS)).bind fun ys => if (ys.map (·.length)).sum + ys.length * (sgn c).length ≤ 16777216 then some (D.str (Str.join (sgn c) ys)) else none) = _
  rw [e1]
  show (if ((ps.map T).map (·.length)).sum + (ps.map T).length * 1 ≤ 16777216 then some (D.str (Str.join (sgn c) (ps.map T))) else none) = _
  have e2 : (ps.map T).map (·.length) = ps.map (·.length) := by rw [List.map_map]; rfl
  rw [e2, List.length_map, Nat.mul_one, if_pos h, str_join]; rfl
structure NumL (ds : List Nat) (n : Nat) : Prop where
  dig : ∀ c ∈ ds, 48 ≤ c ∧ c ≤ 57
  ne : ds ≠ []
  val : ds.foldl (fun acc c => acc * 10 + (c - 48)) 0 = n
  head : ds.head? = some 48 → ds = [48]
theorem gIx_last (l : List D) (z : D) : gIx (.lst (l ++ [z])) (.int (-1)) = some z := by
  show atI (l ++ [z]) (-1) = some z
  unfold atI ixN
  simp
  have : (-1 + ((l.length : Int) + 1)).toNat = l.length := by omega
  rw [if_pos (by omega), this]
  simp
end DL
namespace DL
open PySem PySem.Spec PyProof.Rows L2 TL
mutual
/-- ints below so much, texts of code points, no dict but {}, no instance -/
def D.gdb (m : Nat) : D → Bool
  | .non => true
  | .bl _ => true
  | .int i => decide (i.natAbs < 10 ^ m)
  | .str x => x.cps.toList.all fun c => decide (c < 1114112)
  | .lst xs => gdbL m xs
  | .tup xs => gdbL m xs
  | .dic l => l.isEmpty
  | .dit _ => false
  | .obj _ _ => false
def gdbL (m : Nat) : List D → Bool
  | [] => true
  | x :: xs => x.gdb m && gdbL m xs
end
/-- good data: ints of so many digits, of this bulk, of this depth -/
structure GD (m n h : Nat) (d : D) : Prop where
  gd : d.gdb m = true
  bulk : d.py.bulk ≤ n
  dep : d.py.depth ≤ h
structure GDs (m n h : Nat) (xs : List D) : Prop where
  gd : gdbL m xs = true
  bulk : PyData.bulkAll (pyL xs) ≤ n
  dep : PyData.depthAll (pyL xs) ≤ h
mutual
theorem gdb_mono {m m' : Nat} (hm : m ≤ m') : ∀ d : D, d.gdb m = true → d.gdb m' = true
  | .non, _ => rfl
  | .bl _, _ => rfl
  | .int i, h => decide_eq_true (Nat.lt_of_lt_of_le (of_decide_eq_true h) (Nat.pow_le_pow_right (by decide) hm))
  | .str _, h => h
  | .lst xs, h => gdbL_mono hm xs h
  | .tup xs, h => gdbL_mono hm xs h
  | .dic _, h => h
  | .dit _, h => by cases h
  | .obj _ _, h => by cases h
theorem gdbL_mono {m m' : Nat} (hm : m ≤ m') : ∀ xs : List D, gdbL m xs = true → gdbL m' xs = true
  | [], _ => rfl
  | x :: xs, h => by
    rw [gdbL, Bool.and_eq_true] at h
    rw [gdbL, gdb_mono hm x h.1, gdbL_mono hm xs h.2]; rfl
end
theorem GD.le {m n h m' n' h' : Nat} {d : D} (g : GD m n h d) (hm : m ≤ m') (hn : n ≤ n') (hh : h ≤ h') : GD m' n' h' d := ⟨gdb_mono hm d g.gd, Nat.le_trans g.bulk hn, Nat.le_trans g.dep hh⟩
theorem GDs.le {m n h m' n' h' : Nat} {d : List D} (g : GDs m n h d) (hm : m ≤ m') (hn : n ≤ n') (hh : h ≤ h') : GDs m' n' h' d := ⟨gdbL_mono hm d g.gd, Nat.le_trans g.bulk hn, Nat.le_trans g.dep hh⟩
theorem GDs.nil {m n h : Nat} : GDs m n h [] := ⟨rfl, Nat.zero_le _, Nat.zero_le _⟩
theorem GDs.cons {m n n' h : Nat} {x : D} {xs : List D} (g : GD m n h x) (g' : GDs m n' h xs) : GDs m (n + 1 + n') h (x :: xs) := ⟨by rw [gdbL, g.gd, g'.gd]; rfl, by
    show x.py.bulk + 1 + PyData.bulkAll (pyL xs) ≤ _
    have := g.bulk
    have := g'.bulk
    omega, Nat.max_le.mpr ⟨g.dep, g'.dep⟩⟩
theorem GDs.inv {m n h : Nat} {x : D} {xs : List D} (g : GDs m n h (x :: xs)) : GD m n h x ∧ GDs m n h xs := by
  have h1 := g.gd
  have h2 := g.bulk
  have h3 : max x.py.depth (PyData.depthAll (pyL xs)) ≤ h := g.dep
  have h2 : x.py.bulk + 1 + PyData.bulkAll (pyL xs) ≤ n := h2
  rw [gdbL, Bool.and_eq_true] at h1
  exact ⟨⟨h1.1, by omega, by omega⟩, h1.2, by omega, by omega⟩
theorem GDs.mem {m n h : Nat} {x : D} : ∀ {xs : List D}, GDs m n h xs → x ∈ xs → GD m n h x
  | y :: xs, g, hx => by
    rcases List.mem_cons.mp hx with e | hx
    · rw [e]; exact g.inv.1
    · exact g.inv.2.mem hx
theorem GDs.app {m n n' h : Nat} : ∀ {xs ys : List D}, GDs m n h xs → GDs m n' h ys → GDs m (n + n') h (xs ++ ys)
  | [], ys, _, g => g.le (Nat.le_refl _) (Nat.le_add_left _ _) (Nat.le_refl _)
  | x :: xs, ys, g, g' => by
    have h1 := g.gd
    have h2 : x.py.bulk + 1 + PyData.bulkAll (pyL xs) ≤ n := g.bulk
    have h3 : max x.py.depth (PyData.depthAll (pyL xs)) ≤ h := g.dep
    rw [gdbL, Bool.and_eq_true] at h1
    have k := GDs.cons (m := m) (n := x.py.bulk) (h := h) ⟨h1.1, Nat.le_refl _, by omega⟩ (GDs.app (n := PyData.bulkAll (pyL xs)) ⟨h1.2, Nat.le_refl _, by omega⟩ g')
    exact k.le (Nat.le_refl _) (by omega) (Nat.le_refl _)
theorem GDs.sub {m n h : Nat} {xs ys : List D} (s : xs.Sublist ys) (g : GDs m n h ys) : GDs m n h xs := by
  induction s generalizing n with
  | slnil => exact g
  | cons a _ ih => exact ih g.inv.2
  | cons_cons a _ ih =>
    rename_i l1 l2 _
    have h1 := g.gd
    have h2 : a.py.bulk + 1 + PyData.bulkAll (pyL l2) ≤ n := g.bulk
    have h3 : max a.py.depth (PyData.depthAll (pyL l2)) ≤ h := g.dep
    rw [gdbL, Bool.and_eq_true] at h1
    have k := ih (n := PyData.bulkAll (pyL l2)) ⟨h1.2, Nat.le_refl _, by omega⟩
    exact (GDs.cons (n := a.py.bulk) ⟨h1.1, Nat.le_refl _, by omega⟩ k).le (Nat.le_refl _) (by omega) (Nat.le_refl _)
theorem GDs.rev {m n h : Nat} : ∀ {xs : List D}, GDs m n h xs → GDs m n h xs.reverse
  | [], g => g
  | x :: xs, g => by
    have h1 := g.gd
    have h2 : x.py.bulk + 1 + PyData.bulkAll (pyL xs) ≤ n := g.bulk
    have h3 : max x.py.depth (PyData.depthAll (pyL xs)) ≤ h := g.dep
    rw [gdbL, Bool.and_eq_true] at h1
    rw [List.reverse_cons]
    have k := GDs.app (GDs.rev (xs := xs) (n := PyData.bulkAll (pyL xs)) (h := h) ⟨h1.2, Nat.le_refl _, by omega⟩) (GDs.cons (n := x.py.bulk) ⟨h1.1, Nat.le_refl _, by omega⟩ (GDs.nil (n := 0)))
    exact k.le (Nat.le_refl _) (by omega) (Nat.le_refl _)
theorem GDs.len {m n h : Nat} : ∀ {xs : List D}, GDs m n h xs → xs.length ≤ n
  | [], _ => Nat.zero_le _
  | x :: xs, g => by
    have h2 : x.py.bulk + 1 + PyData.bulkAll (pyL xs) ≤ n := g.bulk
    have h1 := g.inv.2
    have k := GDs.len (n := PyData.bulkAll (pyL xs)) ⟨h1.gd, Nat.le_refl _, h1.dep⟩
    rw [List.length_cons]; omega
theorem GDs.tup {m n h : Nat} {xs : List D} (g : GDs m n h xs) : GD m n (h + 1) (.tup xs) := ⟨g.gd, g.bulk, Nat.succ_le_succ g.dep⟩
theorem GDs.lst {m n h : Nat} {xs : List D} (g : GDs m n h xs) : GD m n (h + 1) (.lst xs) := ⟨g.gd, g.bulk, Nat.succ_le_succ g.dep⟩
theorem GD.items {m n h : Nat} {xs : List D} (g : GD m n (h + 1) (.tup xs)) : GDs m n h xs := ⟨g.gd, g.bulk, Nat.le_of_succ_le_succ g.dep⟩
theorem GD.bl {m n h : Nat} (b : Bool) : GD m n h (.bl b) := ⟨rfl, Nat.zero_le _, Nat.zero_le _⟩
theorem GD.non {m n h : Nat} : GD m n h .non := ⟨rfl, Nat.zero_le _, Nat.zero_le _⟩
theorem GD.int {m n h : Nat} {i : Int} (hi : i.natAbs < 10 ^ m) : GD m n h (.int i) := ⟨decide_eq_true hi, Nat.zero_le _, Nat.zero_le _⟩
theorem GD.str {m n h : Nat} {x : Str} (hx : ∀ c ∈ tl x, c < 1114112) (hn : x.length ≤ n) : GD m n h (.str x) := ⟨by
  show (x.cps.toList.all fun c => decide (c < 1114112)) = true
  rw [List.all_eq_true]
  exact fun c hc => decide_eq_true (hx c hc), hn, Nat.zero_le _⟩
theorem gStep_str (x : Str) : gStep (-1) (.str x) = some (.str ⟨(tl x).reverse.toArray⟩) := rfl
theorem gAdd_tup (a b : List D) (h : a.length + b.length ≤ 16777216) : gAdd (.tup a) (.tup b) = some (.tup (a ++ b)) := if_pos h
end DL
namespace DL
open PySem PySem.Spec PyProof.Rows L2 TL
def k_try (hs : List Hd) : Res (Fl × Env) → Res (Fl × Env)
  | .ok p => .ok p
  | .err x E' => goH hs x E'
  | .stuck => .stuck
@[simp] theorem ap_sTry (fb : SF) (hs : List Hd) (E : Env) : sTry fb hs E = k_try hs (fb E) := by
  unfold sTry k_try
  cases fb E <;> rfl
@[simp] theorem k_try_ok (hs : List Hd) (p : Fl × Env) : k_try hs (.ok p) = .ok p := rfl
@[simp] theorem k_try_err (hs : List Hd) (x : ExV) (E : Env) : k_try hs (.err x E) = goH hs x E := rfl
@[simp] theorem goH_nil (x : ExV) (E : Env) : goH [] x E = .err x E := rfl
def k_goH (i : Option Nat) : Fl × Env → Res (Fl × Env) := fun p => .ok (p.1, clr i p.2)
@[simp] theorem ap_k_goH (i : Option Nat) (p : Fl × Env) : k_goH i p = .ok (p.1, clr i p.2) := rfl
@[simp] theorem goH_cons (yes no : List Addr) (i : Option Nat) (su : ExV → SF) (r : List Hd) (x : ExV) (E : Env) :
    goH (⟨yes, no, i, su⟩ :: r) x E = if x.cls ∈ no then goH r x E else if x.cls ∈ yes ∧ fits i E = true then (noErr (su x (clr i E))).bind (k_goH i) else .stuck := rfl
@[simp] theorem clr_none (E : Env) : clr none E = E := rfl
@[simp] theorem clr_some (i : Nat) (E : Env) : clr (some i) E = E.set i .no := rfl
@[simp] theorem fits_none (E : Env) : fits none E = true := rfl
@[simp] theorem fits_some (i : Nat) (E : Env) : fits (some i) E = decide (i < E.length) := rfl
@[simp] theorem ap_suPl (fb : SF) (x : ExV) (E : Env) : suPl fb x E = fb E := rfl
def k_raise2 (C : Addr) (f : Str) (E : Env) : List D → Res (Fl × Env)
  | [d] => .err ⟨C, [(f, d)]⟩ E
  | _ => .stuck
@[simp] theorem ap_k_raise2 (C : Addr) (f : Str) (E : Env) (d : D) : k_raise2 C f E [d] = .err ⟨C, [(f, d)]⟩ E := rfl
def k_raise (C : Addr) (f : Str) : List W × Env → Res (Fl × Env) := fun p => (ofO (dats p.1)).bind (k_raise2 C f p.2)
@[simp] theorem ap_k_raise (C : Addr) (f : Str) (p : List W × Env) : k_raise C f p = (ofO (dats p.1)).bind (k_raise2 C f p.2) := rfl
@[simp] theorem ap_sRaise1 (C : Addr) (f : Str) (fs : AF) (E : Env) : sRaise1 C f fs E = (fs E).bind (k_raise C f) := rfl
@[simp] theorem ret_err (x : ExV) (E0 E : Env) : ret (.err x E0) E = .err x E := rfl
def Ox {α : Type} (r : Res α) (Q : α → Prop) (X : ExV → Prop) : Prop := match r with
  | .ok a => Q a
  | .err x _ => X x
  | .stuck => False
section
variable {α : Type} {r : Res α} {a : α} {P Q : α → Prop} {X Y : ExV → Prop}
@[simp] theorem Ox_ok : Ox (.ok a) Q X ↔ Q a := Iff.rfl
@[simp] theorem Ox_err {x : ExV} {E : Env} : Ox (.err x E : Res α) Q X ↔ X x := Iff.rfl
theorem Ox.cps (h : ∀ (P : α → Prop) (Z : ExV → Prop), (∀ a, Q a → P a) → (∀ x, X x → Z x) → Ox r P Z) : Ox r Q X := h Q X (fun _ h => h) fun _ h => h
theorem Ox.mono (h : Ox r P Y) (i : ∀ a, P a → Q a) (j : ∀ x, Y x → X x) : Ox r Q X := by
  cases r with
  | ok a => exact i _ h
  | err x E => exact j _ h
  | stuck => exact h
end
section
variable {α σ : Type} {E E' E1 : Env} {s1 s2 body : SF} {fi : IF} {g : GF} {Q : Fl × Env → Prop} {X : ExV → Prop}
theorem seq_eqX (h1 : s1 E = .ok (.nx, E')) (h2 : Ox (s2 E') Q X) : Ox (sSeq s1 s2 E) Q X := by
  rw [ap_sSeq, h1]; exact h2
theorem seq_X (h1 : Ox (s1 E) (fun p => p.1 = .nx ∧ Ox (s2 p.2) Q X) X) : Ox (sSeq s1 s2 E) Q X := by
  rw [ap_sSeq]
  generalize s1 E = r at h1 ⊢
  match r, h1 with
  | .ok (fl, E2), ⟨h, h2⟩ => dsimp only at h; subst h; exact h2
  | .err x E2, h1 => exact h1
def foldX {σ α : Type} (st : σ → α → ExV ⊕ σ) : σ → List α → ExV ⊕ σ
  | s, [] => .inr s
  | s, a :: r => match st s a with
    | .inl x => .inl x
    | .inr s' => foldX st s' r
/-- a loop that may raise -/
theorem forL_foldX (f : α → D) (st : σ → α → ExV ⊕ σ) (I : List α → σ → Env → Prop) (l : List α) (s : σ) (h0 : I l s E)
    (step : ∀ a r s E, a ∈ l → I (a :: r) s E → ∃ E1, g (f a) E = some E1 ∧ Ox (body E1) (fun p => ∃ s', st s a = .inr s' ∧ (p.1 = .nx ∨ p.1 = .ct) ∧ I r s' p.2) (fun x => st s a = .inl x))
    (fin : match foldX st s l with | .inr s' => ∀ E, I [] s' E → Q (.nx, E) | .inl x => X x) : Ox (forL g body (l.map f) E) Q X := by
  induction l generalizing E s with
  | nil => exact fin E h0
  | cons a r ih =>
    obtain ⟨E1, e1, h⟩ := step a r s E List.mem_cons_self h0
    rw [List.map_cons, forL, e1]
    show Ox ((body E1).bind _) Q X
    rw [foldX] at fin
    generalize body E1 = z at h ⊢
    match z, h with
    | .ok (fl, E2), h =>
      obtain ⟨s', e, h1, h2⟩ := h
      rw [e] at fin
      have ih := ih (E := E2) s' h2 (fun b r s E hb => step b r s E (List.mem_cons_of_mem _ hb)) fin
      rcases h1 with h1 | h1 <;> (dsimp only at h1; subst h1; exact ih)
    | .err x E2, h =>
      have h : st s a = .inl x := h
      rw [h] at fin
      exact fin
theorem seq_foldX (f : α → D) (st : σ → α → ExV ⊕ σ) (I : List α → σ → Env → Prop) (l : List α) (s : σ) (e : fi E = .ok (l.map f, E')) (h0 : I l s E')
    (step : ∀ a r s E, a ∈ l → I (a :: r) s E → ∃ E1, g (f a) E = some E1 ∧ Ox (body E1) (fun p => ∃ s', st s a = .inr s' ∧ (p.1 = .nx ∨ p.1 = .ct) ∧ I r s' p.2) (fun x => st s a = .inl x))
    (fin : match foldX st s l with | .inr s' => ∀ E, I [] s' E → Ox (s2 E) Q X | .inl x => X x) : Ox (sSeq (sFor fi g body) s2 E) Q X := by
  refine seq_X ?_
  rw [ap_sFor, e]
  refine forL_foldX f st I l s h0 step ?_
  cases q : foldX st s l with
  | inl x => rw [q] at fin; exact fin
  | inr s' => rw [q] at fin; exact fun E h => ⟨rfl, fin E h⟩
end
def resOf : D ⊕ ExV → Res D
  | .inl d => .ok d
  | .inr x => .err x []
theorem runP_ox {fb : SF} {n : Nat} {ds : List D} (spec : D ⊕ ExV) (h : Ox (fb (ds.map .dat ++ nos n)) (fun p => ∃ d, p.1 = .rt d ∧ spec = .inl d) (fun x => spec = .inr x)) : runP fb n ds = resOf spec := by
  unfold runP
  generalize fb (ds.map .dat ++ nos n) = r at h ⊢
  match r, h with
  | .ok (fl, E), ⟨d, h1, h2⟩ => dsimp only at h1; subst h1; rw [h2]; rfl
  | .err x E, h => have h : spec = .inr x := h; rw [h]; rfl
end DL
namespace DL
open PySem PySem.Spec PyProof.Rows L2 TL
theorem ap_nMkC {i : Nat} {C : Addr} {n : Nat} {fm : List D → Res (List (Str × D))} {fs : AF} {E : Env} (h : E[i]? = some (.cls C)) : nMkC i C n fm fs E = nMk C n fm fs E := by
  unfold nMkC clsAt
  rw [h]
  show (ofO (if C = C then some () else none)).bind _ = _
  rw [if_pos rfl]; rfl
@[simp] theorem ap_nMkC0 (C : Addr) (n : Nat) (fm : List D → Res (List (Str × D))) (fs : AF) (E : Env) : nMkC 0 C n fm fs (.cls C :: E) = nMk C n fm fs (.cls C :: E) := ap_nMkC rfl
end DL
namespace DL
open PySem PySem.Spec PyProof.Rows L2 TL
def k5_nOp (q : W × Env) : D → Res (D × Env) := fun d => .ok (d, q.2)
def k4_nOp (g : D → D → Option D) (q : W × Env) (x : D) : D → Res (D × Env) := fun y => (ofO (g x y)).bind (k5_nOp q)
def k3_nOp (g : D → D → Option D) (q : W × Env) : D → Res (D × Env) := fun x => (rd q.2 q.1).bind (k4_nOp g q x)
def k2_nOp (g : D → D → Option D) (p : W × Env) : W × Env → Res (D × Env) := fun q => (rd q.2 p.1).bind (k3_nOp g q)
def k1_nOp (g : D → D → Option D) (fb : EF) : W × Env → Res (D × Env) := fun p => (fb p.2).bind (k2_nOp g p)
@[simp] theorem ap_k5_nOp (q : W × Env) (d : D) : k5_nOp q d = .ok (d, q.2) := rfl
@[simp] theorem ap_k4_nOp (g : D → D → Option D) (q : W × Env) (x y : D) : k4_nOp g q x y = (ofO (g x y)).bind (k5_nOp q) := rfl
@[simp] theorem ap_k3_nOp (g : D → D → Option D) (q : W × Env) (x : D) : k3_nOp g q x = (rd q.2 q.1).bind (k4_nOp g q x) := rfl
@[simp] theorem ap_k2_nOp (g : D → D → Option D) (p q : W × Env) : k2_nOp g p q = (rd q.2 p.1).bind (k3_nOp g q) := rfl
@[simp] theorem ap_k1_nOp (g : D → D → Option D) (fb : EF) (p : W × Env) : k1_nOp g fb p = (fb p.2).bind (k2_nOp g p) := rfl
@[simp] theorem ap_nOp (g : D → D → Option D) (fa fb : EF) (E : Env) : nOp g fa fb E = (fa E).bind (k1_nOp g fb) := rfl
def k4_sPut2 (i : Nat) (E : Env) : D → Res (Fl × Env) := fun d' => .ok (.nx, E.set i (.own d'))
def k3_sPut2 (i : Nat) (a b : Str) (E : Env) (v : D) : D → Res (Fl × Env) := fun d => (ofO (put2 a b d v)).bind (k4_sPut2 i E)
def k2_sPut2 (i : Nat) (a b : Str) (E : Env) : D → Res (Fl × Env) := fun v => (ofO (ownO E i)).bind (k3_sPut2 i a b E v)
def k1_sPut2 (i : Nat) (a b : Str) : W × Env → Res (Fl × Env) := fun p => (ofO (asDat p.1)).bind (k2_sPut2 i a b p.2)
@[simp] theorem ap_k4_sPut2 (i : Nat) (E : Env) (d : D) : k4_sPut2 i E d = .ok (.nx, E.set i (.own d)) := rfl
@[simp] theorem ap_k3_sPut2 (i : Nat) (a b : Str) (E : Env) (v d : D) : k3_sPut2 i a b E v d = (ofO (put2 a b d v)).bind (k4_sPut2 i E) := rfl
@[simp] theorem ap_k2_sPut2 (i : Nat) (a b : Str) (E : Env) (v : D) : k2_sPut2 i a b E v = (ofO (ownO E i)).bind (k3_sPut2 i a b E v) := rfl
@[simp] theorem ap_k1_sPut2 (i : Nat) (a b : Str) (p : W × Env) : k1_sPut2 i a b p = (ofO (asDat p.1)).bind (k2_sPut2 i a b p.2) := rfl
@[simp] theorem ap_sPut2 (i : Nat) (a b : Str) (f : EF) (E : Env) : sPut2 i a b f E = (f E).bind (k1_sPut2 i a b) := rfl
def k3_nSortT (E : Env) : D → Res (D × Env) := fun d => .ok (d, E)
def k2_nSortT (p : List W × Env) : List D → Res (D × Env) := fun ds => match ds with | [.dit kd] => if kd.length ≤ 16777216 then (ofO (gSorted [.lst (kd.map fun x => .tup (x.1.map kD))])).bind (k3_nSortT p.2) else .stuck | _ => .stuck
def k1_nSortT : List W × Env → Res (D × Env) := fun p => (rds p.2 p.1).bind (k2_nSortT p)
@[simp] theorem ap_k3_nSortT (E : Env) (d : D) : k3_nSortT E d = .ok (d, E) := rfl
@[simp] theorem ap_k2_nSortT (p : List W × Env) (ds : List D) : k2_nSortT p ds = match ds with | [.dit kd] => if kd.length ≤ 16777216 then (ofO (gSorted [.lst (kd.map fun x => .tup (x.1.map kD))])).bind (k3_nSortT p.2) else .stuck | _ => .stuck := rfl
@[simp] theorem ap_k1_nSortT (p : List W × Env) : k1_nSortT p = (rds p.2 p.1).bind (k2_nSortT p) := rfl
@[simp] theorem ap_nSortT (fs : AF) (E : Env) : nSortT fs E = (fs E).bind k1_nSortT := rfl
def k2_eOrS (fb : EF) (p : W × Env) : D → Res (W × Env) := fun d => orS fb p.2 d
def k1_eOrS (fb : EF) : W × Env → Res (W × Env) := fun p => (rd p.2 p.1).bind (k2_eOrS fb p)
@[simp] theorem ap_orS (fb : EF) (E : Env) (l : List Nat) : orS fb E (dS l) = if l.isEmpty = true then fb E else .ok (.dat (dS l), E) := by
  show (if (tl (T l)).isEmpty = true then fb E else .ok (.dat (.str (T l)), E)) = _
  rw [tl_T]; rfl
@[simp] theorem ap_k2_eOrS (fb : EF) (p : W × Env) (d : D) : k2_eOrS fb p d = orS fb p.2 d := rfl
@[simp] theorem ap_k1_eOrS (fb : EF) (p : W × Env) : k1_eOrS fb p = (rd p.2 p.1).bind (k2_eOrS fb p) := rfl
@[simp] theorem ap_eOrS (fa fb : EF) (E : Env) : eOrS fa fb E = (fa E).bind (k1_eOrS fb) := rfl
def k3_eFL (E : Env) : Bool → Res (W × Env) := fun b => .ok (.dat (.bl b), E)
def k2_eFL (n : Nat) (fm : List D → Res D) (p : List W × Env) : List D → Res (W × Env) := fun ds => if ds.length = n then (ofO (boolD (fm ds))).bind (k3_eFL p.2) else .stuck
def k1_eFL (n : Nat) (fm : List D → Res D) : List W × Env → Res (W × Env) := fun p => (rds p.2 p.1).bind (k2_eFL n fm p)
@[simp] theorem ap_k3_eFL (E : Env) (b : Bool) : k3_eFL E b = .ok (.dat (.bl b), E) := rfl
@[simp] theorem ap_k2_eFL (n : Nat) (fm : List D → Res D) (p : List W × Env) (ds : List D) : k2_eFL n fm p ds = if ds.length = n then (ofO (boolD (fm ds))).bind (k3_eFL p.2) else .stuck := rfl
@[simp] theorem ap_k1_eFL (n : Nat) (fm : List D → Res D) (p : List W × Env) : k1_eFL n fm p = (rds p.2 p.1).bind (k2_eFL n fm p) := rfl
@[simp] theorem ap_eFL (n : Nat) (fm : List D → Res D) (fs : AF) (E : Env) : eFL n fm fs E = (fs E).bind (k1_eFL n fm) := rfl
@[simp] theorem ap_boolD (b : Bool) : boolD (.ok (.bl b)) = some b := rfl
@[simp] theorem ap_gAddL (x y : List D) : gAddL (.lst x) (.lst y) = gAdd (.lst x) (.lst y) := rfl
end DL
namespace DL
open PySem PySem.Spec PyProof.Rows L2 TL
def endM (f d m : Int) : Int := (((f * 39373 + 189) % 2147483647 * ((f * 39373 + 189) % 2147483647) + 52711 * d + 189) % 2147483587) * 40692 % 2147483563 / 64 % m
def drawM (k : Dk) (m : Int) : Int × Dk := match k.l.getLast? with
  | some c => if 1000000000000000000 ≤ c then (c % m, ⟨k.l.dropLast ++ [c / m], k.b + 2147483587⟩) else (endM (k.b % 2147483587 + 60875 * (k.b / 2147483587 + 1) + c % 2147483629) (k.b / 2147483587 + 1) m, ⟨k.l.dropLast, k.b + 2147483587⟩)
  | none => (endM (k.b % 2147483587 + 60875 * (k.b / 2147483587 + 1)) (k.b / 2147483587 + 1) m, ⟨k.l, k.b + 2147483587⟩)
def drawR (_ _ : Addr) (k : Dk) (ds : List D) : Res (D × Dk) := match ds with
  | [.int m] => if 0 < m ∧ m < 10000000000000000000000000000000000000000 ∧ k.l.length ≤ 1000 then .ok (.int (drawM k m).1, (drawM k m).2) else .stuck
  | _ => .stuck
theorem drawM_ok (k : Dk) (m : Int) (hm : 0 < m) (hk : k.l.length ≤ 63) : 0 ≤ (drawM k m).1 ∧ (drawM k m).1 < m ∧ (drawM k m).2.l.length ≤ 63 := by
  unfold drawM endM
  cases h : k.l.getLast? with
  | none => exact ⟨Int.emod_nonneg _ (by omega), Int.emod_lt_of_pos _ hm, hk⟩
  | some c =>
    have hne : k.l ≠ [] := fun e => by rw [e] at h; cases h
    have hpos : 0 < k.l.length := List.length_pos_iff.mpr hne
    dsimp only
    split
    · refine ⟨Int.emod_nonneg _ (by omega), Int.emod_lt_of_pos _ hm, ?_⟩
      show (k.l.dropLast ++ [c / m]).length ≤ 63
      rw [List.length_append, List.length_dropLast, List.length_singleton]; omega
    · refine ⟨Int.emod_nonneg _ (by omega), Int.emod_lt_of_pos _ hm, ?_⟩
      show k.l.dropLast.length ≤ 63
      rw [List.length_dropLast]; omega
theorem drawR_ok (a q : Addr) (k : Dk) (m : Int) (hm : 0 < m) (hm2 : m < 10000000000000000000000000000000000000000) (hk : k.l.length ≤ 63) : ∃ v k', drawR a q k [.int m] = .ok (.int v, k') ∧ 0 ≤ v ∧ v < m ∧ k'.l.length ≤ 63 := by
  obtain ⟨h1, h2, h3⟩ := drawM_ok k m hm hk
  exact ⟨_, _, if_pos ⟨hm, hm2, by omega⟩, h1, h2, h3⟩

theorem draw_ok (a q : Addr) (l : List Int) (b m : Int) (hm : 0 < m) (hm2 : m < 1073741824) (hl : l.length ≤ 63) : ∃ (v : Nat) (l' : List Int) (b' : Int), drawR a q ⟨l, b⟩ [.int m] = .ok (.int v, ⟨l', b'⟩) ∧ (v : Int) < m ∧ l'.length ≤ 63 := by
  obtain ⟨v, k', e, h0, h1, h2⟩ := drawR_ok a q ⟨l, b⟩ m hm (by omega) hl
  exact ⟨v.toNat, k'.l, k'.b, by rw [Int.toNat_of_nonneg h0]; exact e, by rw [Int.toNat_of_nonneg h0]; exact h1, h2⟩

structure CA where
  BadText : Addr
  Scheme : Addr
abbrev N__law_draw : List Str := ["_law_deck_here", "_law_many", "_law_figure", "_law_cell"]
theorem sc__law_draw : FnScope N__law_draw ["_law_deck_here", "_law_many"] (defScope s__law_draw) := ⟨rfl, rfl, rfl, by decide +kernel, rfl, by decide +kernel, by decide +kernel⟩
abbrev N__law_deck : List Str := ["_law_script", "_law_mixed", "_law_cell"]
theorem sc__law_deck : FnScope N__law_deck ["_law_script"] (defScope s__law_deck) := ⟨rfl, rfl, rfl, by decide +kernel, rfl, by decide +kernel, by decide +kernel⟩
abbrev N__law_pick : List Str := ["_law_deck_here", "_law_some"]
theorem sc__law_pick : FnScope N__law_pick ["_law_deck_here", "_law_some"] (defScope s__law_pick) := ⟨rfl, rfl, rfl, by decide +kernel, rfl, by decide +kernel, by decide +kernel⟩
abbrev N__law_closure : List Str := ["_law_rules", "_law_some", "_law_found", "_law_old", "_law_left", "_law_right", "_law_x"]
theorem sc__law_closure : FnScope N__law_closure ["_law_rules", "_law_some"] (defScope s__law_closure) := ⟨rfl, rfl, rfl, by decide +kernel, rfl, by decide +kernel, by decide +kernel⟩
abbrev N__law_is_within : List Str := ["_law_some", "_law_more", "_law_x"]
theorem sc__law_is_within : FnScope N__law_is_within ["_law_some", "_law_more"] (defScope s__law_is_within) := ⟨rfl, rfl, rfl, by decide +kernel, rfl, by decide +kernel, by decide +kernel⟩
abbrev N__law_frame : List Str := ["_law_deck_here", "_law_wide", "_law_dark", "_law_size", "_law_columns", "_law_left", "_law_hidden", "_law_rules", "_law_k", "_law_common", "_law_x", "_law_lot", "_law_right", "_law_led", "_law_w"]
theorem sc__law_frame : FnScope N__law_frame ["_law_deck_here", "_law_wide", "_law_dark"] (defScope s__law_frame) := ⟨rfl, rfl, rfl, by decide +kernel, rfl, by decide +kernel, by decide +kernel⟩
abbrev N__law_scheme_text : List Str := ["_law_w", "_law_lines", "_law_left", "_law_right"]
theorem sc__law_scheme_text : FnScope N__law_scheme_text ["_law_w"] (defScope s__law_scheme_text) := ⟨rfl, rfl, rfl, by decide +kernel, rfl, by decide +kernel, by decide +kernel⟩
abbrev N__law_others : List Str := ["_law_deck_here", "_law_w", "_law_steps", "_law_at", "_law_some"]
theorem sc__law_others : FnScope N__law_others ["_law_deck_here", "_law_w", "_law_steps"] (defScope s__law_others) := ⟨rfl, rfl, rfl, by decide +kernel, rfl, by decide +kernel, by decide +kernel⟩
abbrev N__law_own : List Str := ["_law_deck_here", "_law_w", "_law_some", "_law_steps", "_law_found", "_law_turn", "_law_k", "_law_rule"]
theorem sc__law_own : FnScope N__law_own ["_law_deck_here", "_law_w", "_law_some"] (defScope s__law_own) := ⟨rfl, rfl, rfl, by decide +kernel, rfl, by decide +kernel, by decide +kernel⟩
abbrev N__law_is_derivation : List Str := ["_law_w", "_law_some", "_law_x", "_law_it", "_law_k", "_law_found"]
theorem sc__law_is_derivation : FnScope N__law_is_derivation ["_law_w", "_law_some", "_law_x", "_law_it"] (defScope s__law_is_derivation) := ⟨rfl, rfl, rfl, by decide +kernel, rfl, by decide +kernel, by decide +kernel⟩
abbrev N_is_columns : List Str := ["thing", "letter", "one", "other"]
theorem sc_is_columns : FnScope N_is_columns ["thing"] (defScope s_is_columns) := ⟨rfl, rfl, rfl, by decide +kernel, rfl, by decide +kernel, by decide +kernel⟩
abbrev N_columns_in : List Str := ["word"]
theorem sc_columns_in : FnScope N_columns_in ["word"] (defScope s_columns_in) := ⟨rfl, rfl, rfl, by decide +kernel, rfl, by decide +kernel, by decide +kernel⟩
abbrev N_head_in : List Str := ["line", "words"]
theorem sc_head_in : FnScope N_head_in ["line"] (defScope s_head_in) := ⟨rfl, rfl, rfl, by decide +kernel, rfl, by decide +kernel, by decide +kernel⟩
abbrev N_are_within : List Str := ["thing", "columns", "letter"]
theorem sc_are_within : FnScope N_are_within ["thing", "columns"] (defScope s_are_within) := ⟨rfl, rfl, rfl, by decide +kernel, rfl, by decide +kernel, by decide +kernel⟩
abbrev N_is_rule : List Str := ["columns", "thing"]
theorem sc_is_rule : FnScope N_is_rule ["columns", "thing"] (defScope s_is_rule) := ⟨rfl, rfl, rfl, by decide +kernel, rfl, by decide +kernel, by decide +kernel⟩
abbrev N_Scheme___init__ : List Str := ["self", "columns", "rules", "rule", "one", "other"]
theorem sc_Scheme___init__ : FnScope N_Scheme___init__ ["self", "columns", "rules"] (defScope s_Scheme___init__) := ⟨rfl, rfl, rfl, by decide +kernel, rfl, by decide +kernel, by decide +kernel⟩
abbrev N_rule_in : List Str := ["columns", "line", "words", "left", "found"]
theorem sc_rule_in : FnScope N_rule_in ["columns", "line"] (defScope s_rule_in) := ⟨rfl, rfl, rfl, by decide +kernel, rfl, by decide +kernel, by decide +kernel⟩
abbrev N_rules_in : List Str := ["columns", "lines", "found", "place", "line", "rule"]
theorem sc_rules_in : FnScope N_rules_in ["columns", "lines"] (defScope s_rules_in) := ⟨rfl, rfl, rfl, by decide +kernel, rfl, by decide +kernel, by decide +kernel⟩
abbrev N_Scheme_read : List Str := ["cls", "text", "lines", "columns"]
theorem sc_Scheme_read : FnScope N_Scheme_read ["cls", "text"] (defScope s_Scheme_read) := ⟨rfl, rfl, rfl, by decide +kernel, rfl, by decide +kernel, by decide +kernel⟩
abbrev N_scheme_in : List Str := ["text", "found"]
theorem sc_scheme_in : FnScope N_scheme_in ["text"] (defScope s_scheme_in) := ⟨rfl, rfl, rfl, by decide +kernel, rfl, by decide +kernel, by decide +kernel⟩
abbrev N_is_integer : List Str := ["thing"]
theorem sc_is_integer : FnScope N_is_integer ["thing"] (defScope s_is_integer) := ⟨rfl, rfl, rfl, by decide +kernel, rfl, by decide +kernel, by decide +kernel⟩
abbrev N_derivation_holds : List Str := ["scheme", "columns", "column", "thing", "known", "index", "left", "right", "letter"]
theorem sc_derivation_holds : FnScope N_derivation_holds ["scheme", "columns", "column", "thing"] (defScope s_derivation_holds) := ⟨rfl, rfl, rfl, by decide +kernel, rfl, by decide +kernel, by decide +kernel⟩
abbrev N_settles_so : List Str := ["text", "columns", "column", "thing", "scheme"]
theorem sc_settles_so : FnScope N_settles_so ["text", "columns", "column", "thing"] (defScope s_settles_so) := ⟨rfl, rfl, rfl, by decide +kernel, rfl, by decide +kernel, by decide +kernel⟩
abbrev N_finding_holds : List Str := ["thing", "word", "frame"]
theorem sc_finding_holds : FnScope N_finding_holds ["thing"] (defScope s_finding_holds) := ⟨rfl, rfl, rfl, by decide +kernel, rfl, by decide +kernel, by decide +kernel⟩
abbrev N__law_text : List Str := ["_law_w"]
theorem sc__law_text : FnScope N__law_text ["_law_w"] (defScope s__law_text) := ⟨rfl, rfl, rfl, by decide +kernel, rfl, by decide +kernel, by decide +kernel⟩
abbrev N_law : List Str := ["_law_script", "_law_deck_here", "_law_go", "_law_w", "_law_text_now", "_law_some", "_law_x", "_law_k", "_law_it", "_law_one_now", "_law_due", "_law_first", "_law_odd"]
theorem sc_law : FnScope N_law ["_law_script"] (defScope s_law) := ⟨rfl, rfl, rfl, by decide +kernel, rfl, by decide +kernel, by decide +kernel⟩
theorem xt_BadText : ExText1 "BadText.__init__" s_BadText___init__ "place" "place" := ⟨⟨rfl, rfl, rfl, rfl, by decide +kernel, rfl, rfl⟩, rfl, by decide, ⟨_, rfl, rfl⟩, fun _ _ _ _ _ _ _ _ _ => rfl, ⟨_, _, _, _, _, _, _, _, _, _, _, _, rfl, ⟨fun _ _ _ _ => rfl, fun _ _ _ _ => rfl, _, fun _ _ _ _ => rfl⟩, fun _ _ _ _ => rfl⟩, by decide⟩
structure PR (P : Program) (w : World) (K : PySem.W.Frag) (mg : Str → Option Value) where
  c : CA
  f__law_draw : Addr
  fd__law_draw : FuncData
  F__law_draw : Fun K "_law_draw" "_law_draw" s__law_draw f__law_draw fd__law_draw
  b__law_draw : Binds K fd__law_draw ["_law_deck_here", "_law_many"] []
  g__law_draw : mg "_law_draw" = some (.ref f__law_draw)
  f__law_deck : Addr
  fd__law_deck : FuncData
  F__law_deck : Fun K "_law_deck" "_law_deck" s__law_deck f__law_deck fd__law_deck
  b__law_deck : Binds K fd__law_deck ["_law_script"] []
  g__law_deck : mg "_law_deck" = some (.ref f__law_deck)
  f__law_pick : Addr
  fd__law_pick : FuncData
  F__law_pick : Fun K "_law_pick" "_law_pick" s__law_pick f__law_pick fd__law_pick
  b__law_pick : Binds K fd__law_pick ["_law_deck_here", "_law_some"] []
  g__law_pick : mg "_law_pick" = some (.ref f__law_pick)
  f__law_closure : Addr
  fd__law_closure : FuncData
  F__law_closure : Fun K "_law_closure" "_law_closure" s__law_closure f__law_closure fd__law_closure
  b__law_closure : Binds K fd__law_closure ["_law_rules", "_law_some"] []
  g__law_closure : mg "_law_closure" = some (.ref f__law_closure)
  f__law_is_within : Addr
  fd__law_is_within : FuncData
  F__law_is_within : Fun K "_law_is_within" "_law_is_within" s__law_is_within f__law_is_within fd__law_is_within
  b__law_is_within : Binds K fd__law_is_within ["_law_some", "_law_more"] []
  g__law_is_within : mg "_law_is_within" = some (.ref f__law_is_within)
  f__law_frame : Addr
  fd__law_frame : FuncData
  F__law_frame : Fun K "_law_frame" "_law_frame" s__law_frame f__law_frame fd__law_frame
  b__law_frame : Binds K fd__law_frame ["_law_deck_here", "_law_wide", "_law_dark"] []
  g__law_frame : mg "_law_frame" = some (.ref f__law_frame)
  f__law_scheme_text : Addr
  fd__law_scheme_text : FuncData
  F__law_scheme_text : Fun K "_law_scheme_text" "_law_scheme_text" s__law_scheme_text f__law_scheme_text fd__law_scheme_text
  b__law_scheme_text : Binds K fd__law_scheme_text ["_law_w"] []
  g__law_scheme_text : mg "_law_scheme_text" = some (.ref f__law_scheme_text)
  f__law_others : Addr
  fd__law_others : FuncData
  F__law_others : Fun K "_law_others" "_law_others" s__law_others f__law_others fd__law_others
  b__law_others : Binds K fd__law_others ["_law_deck_here", "_law_w", "_law_steps"] []
  g__law_others : mg "_law_others" = some (.ref f__law_others)
  f__law_own : Addr
  fd__law_own : FuncData
  F__law_own : Fun K "_law_own" "_law_own" s__law_own f__law_own fd__law_own
  b__law_own : Binds K fd__law_own ["_law_deck_here", "_law_w", "_law_some"] []
  g__law_own : mg "_law_own" = some (.ref f__law_own)
  f__law_is_derivation : Addr
  fd__law_is_derivation : FuncData
  F__law_is_derivation : Fun K "_law_is_derivation" "_law_is_derivation" s__law_is_derivation f__law_is_derivation fd__law_is_derivation
  b__law_is_derivation : Binds K fd__law_is_derivation ["_law_w", "_law_some", "_law_x", "_law_it"] []
  g__law_is_derivation : mg "_law_is_derivation" = some (.ref f__law_is_derivation)
  f_is_columns : Addr
  fd_is_columns : FuncData
  F_is_columns : Fun K "is_columns" "is_columns" s_is_columns f_is_columns fd_is_columns
  b_is_columns : Binds K fd_is_columns ["thing"] []
  g_is_columns : mg "is_columns" = some (.ref f_is_columns)
  f_columns_in : Addr
  fd_columns_in : FuncData
  F_columns_in : Fun K "columns_in" "columns_in" s_columns_in f_columns_in fd_columns_in
  b_columns_in : Binds K fd_columns_in ["word"] []
  g_columns_in : mg "columns_in" = some (.ref f_columns_in)
  f_head_in : Addr
  fd_head_in : FuncData
  F_head_in : Fun K "head_in" "head_in" s_head_in f_head_in fd_head_in
  b_head_in : Binds K fd_head_in ["line"] []
  g_head_in : mg "head_in" = some (.ref f_head_in)
  f_are_within : Addr
  fd_are_within : FuncData
  F_are_within : Fun K "are_within" "are_within" s_are_within f_are_within fd_are_within
  b_are_within : Binds K fd_are_within ["thing", "columns"] []
  g_are_within : mg "are_within" = some (.ref f_are_within)
  f_is_rule : Addr
  fd_is_rule : FuncData
  F_is_rule : Fun K "is_rule" "is_rule" s_is_rule f_is_rule fd_is_rule
  b_is_rule : Binds K fd_is_rule ["columns", "thing"] []
  g_is_rule : mg "is_rule" = some (.ref f_is_rule)
  f_Scheme___init__ : Addr
  fd_Scheme___init__ : FuncData
  F_Scheme___init__ : Fun K "__init__" "Scheme.__init__" s_Scheme___init__ f_Scheme___init__ fd_Scheme___init__
  b_Scheme___init__ : Binds K fd_Scheme___init__ ["self", "columns", "rules"] []
  f_rule_in : Addr
  fd_rule_in : FuncData
  F_rule_in : Fun K "rule_in" "rule_in" s_rule_in f_rule_in fd_rule_in
  b_rule_in : Binds K fd_rule_in ["columns", "line"] []
  g_rule_in : mg "rule_in" = some (.ref f_rule_in)
  f_rules_in : Addr
  fd_rules_in : FuncData
  F_rules_in : Fun K "rules_in" "rules_in" s_rules_in f_rules_in fd_rules_in
  b_rules_in : Binds K fd_rules_in ["columns", "lines"] []
  g_rules_in : mg "rules_in" = some (.ref f_rules_in)
  f_Scheme_read : Addr
  fd_Scheme_read : FuncData
  F_Scheme_read : Fun K "read" "Scheme.read" s_Scheme_read f_Scheme_read fd_Scheme_read
  b_Scheme_read : Binds K fd_Scheme_read ["cls", "text"] []
  f_scheme_in : Addr
  fd_scheme_in : FuncData
  F_scheme_in : Fun K "scheme_in" "scheme_in" s_scheme_in f_scheme_in fd_scheme_in
  b_scheme_in : Binds K fd_scheme_in ["text"] []
  g_scheme_in : mg "scheme_in" = some (.ref f_scheme_in)
  f_is_integer : Addr
  fd_is_integer : FuncData
  F_is_integer : Fun K "is_integer" "is_integer" s_is_integer f_is_integer fd_is_integer
  b_is_integer : Binds K fd_is_integer ["thing"] []
  g_is_integer : mg "is_integer" = some (.ref f_is_integer)
  f_derivation_holds : Addr
  fd_derivation_holds : FuncData
  F_derivation_holds : Fun K "derivation_holds" "derivation_holds" s_derivation_holds f_derivation_holds fd_derivation_holds
  b_derivation_holds : Binds K fd_derivation_holds ["scheme", "columns", "column", "thing"] []
  g_derivation_holds : mg "derivation_holds" = some (.ref f_derivation_holds)
  f_settles_so : Addr
  fd_settles_so : FuncData
  F_settles_so : Fun K "settles_so" "settles_so" s_settles_so f_settles_so fd_settles_so
  b_settles_so : Binds K fd_settles_so ["text", "columns", "column", "thing"] []
  g_settles_so : mg "settles_so" = some (.ref f_settles_so)
  f_finding_holds : Addr
  fd_finding_holds : FuncData
  F_finding_holds : Fun K "finding_holds" "finding_holds" s_finding_holds f_finding_holds fd_finding_holds
  b_finding_holds : Binds K fd_finding_holds ["thing"] []
  g_finding_holds : mg "finding_holds" = some (.ref f_finding_holds)
  f__law_text : Addr
  fd__law_text : FuncData
  F__law_text : Fun K "_law_text" "_law_text" s__law_text f__law_text fd__law_text
  b__law_text : Binds K fd__law_text ["_law_w"] []
  g__law_text : mg "_law_text" = some (.ref f__law_text)
  f_law : Addr
  fd_law : FuncData
  F_law : Fun K "law" "law" s_law f_law fd_law
  b_law : Binds K fd_law ["_law_script"] []
  g_law : mg "law" = some (.ref f_law)
  z_int : mg "int" = none
  z_list : mg "list" = none
  z_range : mg "range" = none
  z_len : mg "len" = none
  z_sorted : mg "sorted" = none
  z_tuple : mg "tuple" = none
  z_enumerate : mg "enumerate" = none
  z_isinstance : mg "isinstance" = none
  z_bool : mg "bool" = none
  z_str : mg "str" = none
  d_SIZES : TabOk K w mg "SIZES" [("settles", 5)]
  g_SETTLES : ∃ t, mg "SETTLES" = some (.str "settles" t)
  ex_BadText : ExCls K c.BadText
  c_BadText : mg "BadText" = some (.ref c.BadText)
  xf_BadText : ∃ f, ExFn P K mg c.BadText f "BadText.__init__" s_BadText___init__
  n_BadText_place : NoAttr K c.BadText "place"
  g_BREAK : ∃ t, mg "BREAK" = some (.str "\n" t)
  g_BLANK : ∃ t, mg "BLANK" = some (.str " " t)
  g_RULE_PARTS : ∃ t, mg "RULE_PARTS" = some (.int 2 t)
  g_COLUMNS_WORD : ∃ t, mg "COLUMNS_WORD" = some (.str "columns" t)
  g_NONE : ∃ t, mg "NONE" = some (.str "-" t)
  g_LETTERS : ∃ t, mg "LETTERS" = some (.str "abcdefghijklmnopqrstuvwxyz" t)
  z_all : mg "all" = none
  z_zip : mg "zip" = none
  cl_Scheme : Cls K c.Scheme
  n_Scheme_columns : NoAttr K c.Scheme "columns"
  n_Scheme_rules : NoAttr K c.Scheme "rules"
  mk_Scheme : Mk K c.Scheme f_Scheme___init__
  g_RULE_WORDS : ∃ t, mg "RULE_WORDS" = some (.int 3 t)
  g_RULE_WORD : ∃ t, mg "RULE_WORD" = some (.str "rule" t)
  c_Scheme : mg "Scheme" = some (.ref c.Scheme)
  cr_Scheme : ClX.CRead K c.Scheme (.type "type")
  cm_Scheme_read : ∃ q0, ClX.CMet K c.Scheme (.type "type") "read" q0 f_Scheme_read
  sb_BadText_BadText : PySem.W.subIn K (.ref c.BadText) (.ref c.BadText) = some true
  kw_finding_holds_0_thing : KW fd_finding_holds ["thing"] 0 ["thing"] [0]
  z_repr : mg "repr" = none
section
variable {P : Program} {w : World} {K : PySem.W.Frag} {mg : Str → Option Value} {base : Heap}
def m__law_draw (_ : CA) : Addr → Addr → Dk → List D → Res (D × Dk) := drawR
theorem fn_draw {f : Addr} {fd : FuncData} (F : Fun K "_law_draw" "_law_draw" s__law_draw f fd) (zi : mg "int" = none) : FnG P w K mg base CX0 1 f fd ["_law_deck_here", "_law_many"] (spK K 1 drawR) := by
  refine FnG.body F sc__law_draw (spK_len rfl) fun cdv A outer s H vs Q E hg hr hsp => ?_
  obtain ⟨G, a, q, k, vr, ds, rfl, sm, ga, gq, ⟨da, dq⟩, dd, hl, z⟩ := hsp
  match ds, z with
  | [.int m], z =>
  have z : KRz K G H a q Q (if 0 < m ∧ m < 10000000000000000000000000000000000000000 ∧ k.l.length ≤ 1000 then .ok (.int (drawM k m).1, (drawM k m).2) else .stuck) := z
  have hm : 0 < m ∧ m < 10000000000000000000000000000000000000000 ∧ k.l.length ≤ 1000 := Decidable.byContradiction fun h => by rw [if_neg h] at z; exact z.elim
  rw [if_pos hm] at z
  obtain ⟨m0, m1, kl⟩ := hm
  match vr, dd with
  | [_], .cons (.int _) .nil =>
  have hu := hr.units
  obtain ⟨mx, emx⟩ : ∃ x, x = k.b % 2147483587 := ⟨_, rfl⟩
  obtain ⟨dr, edr⟩ : ∃ x, x = k.b / 2147483587 := ⟨_, rfl⟩
  rw [← emx, ← edr] at da
  refine ⟨_, PSs.nox (pss_cons (ps_dput (hu_of hr) (pv 0) pe_str (pe_op op_add (pe_dget (hu_of hr) (pv 0) pe_str (by intro _ _; rfl)) pe_int) rfl)
    (pss_cons (ps_set (i := 2) sc__law_draw.nd rfl (Or.inl rfl) (pe_op op_add (pe_dget (hu_of hr) (pv 0) pe_str (by intro _ _; rfl)) (pe_op op_mul pe_int (pe_dget (hu_of hr) (pv 0) pe_str (by intro _ _; rfl)))))
      (pss_cons (ps_if (pt_cmpR (op_neq hu) (pe_dget (hu_of hr) (pv 0) pe_str (by intro _ _; rfl)) (pe_lst pa_nil) (nomark _))
          (pss_cons (ps_set (i := 3) sc__law_draw.nd rfl (Or.inl rfl) (pe_bm0 PySem.F.plainAttrs_list PySem.F.slot_list_pop PySem.F.type_list_pop mt_pop (pe_dget (hu_of hr) (pv 0) pe_str (by intro _ _; rfl))))
            (pss_cons (ps_if (pt_cmpR op_ge (pv 3) (pe_op op_pow pe_int pe_int) (nomark _))
                (pss_cons (ps_expr (pe_bm PySem.F.plainAttrs_list PySem.F.slot_list_append PySem.F.type_list_append mt_append (pe_dget (hu_of hr) (pv 0) pe_str (by intro _ _; rfl)) (pa_cons (pe_op op_fdivW (pv 3) (pv 1)) pa_nil)))
                  (pss_one (ps_ret (pe_callTy call_int1 (by rfl) zi PyProof.Rows.boot_int (pa_cons (pe_op op_mod (pv 3) (pv 1)) pa_nil))))) pss_nil)
              (pss_one (ps_set (i := 2) sc__law_draw.nd rfl (Or.inl rfl) (pe_op op_add (pv 2) (pe_op op_mod (pe_callTy call_int1 (by rfl) zi PyProof.Rows.boot_int (pa_cons (pv 3) pa_nil)) pe_int)))))) pss_nil)
        (pss_cons (ps_set (i := 2) sc__law_draw.nd rfl (Or.inl rfl) (pe_op op_mod (pe_callTy call_int1 (by rfl) zi PyProof.Rows.boot_int (pa_cons (pe_op op_add (pe_op op_mul (pv 2) pe_int) pe_int) pa_nil)) pe_int))
          (pss_cons (ps_set (i := 2) sc__law_draw.nd rfl (Or.inl rfl) (pe_op op_mod (pe_callTy call_int1 (by rfl) zi PyProof.Rows.boot_int (pa_cons (pe_op op_add (pe_op op_add (pe_op op_mul (pv 2) (pv 2)) (pe_op op_mul pe_int (pe_dget (hu_of hr) (pv 0) pe_str (by intro _ _; rfl)))) pe_int) pa_nil)) pe_int))
            (pss_one (ps_ret (pe_callTy call_int1 (by rfl) zi PyProof.Rows.boot_int (pa_cons (pe_op op_mod (pe_op op_fdiv (pe_op op_mod (pe_op op_mul (pv 2) pe_int) pe_int) pe_int) (pv 1)) pa_nil))))))))), ?_⟩
  have lkd : DGet H a (.str "draws") (some (.int dr)) := .inl ⟨_, .inr "draws", .inl da, rfl, lk3_draws.symm⟩
  have naq : a ≠ q := fun e => by rw [e, dq] at da; cases da
  refine ⟨_, rfl, a, .int dr, rfl, lkd, dr, 1, rfl, rfl, _, rfl, a, _, rfl, .inl ⟨_, .inr "draws", da, rfl, by show 3 < sizeLine; decide, rfl⟩, ?_⟩
  rw [put3_draws]
  obtain ⟨H1, eH⟩ : ∃ X, X = upd H a (.dK (row3 q mx (dr + 1))) := ⟨_, rfl⟩
  rw [← eH]
  have d1 : H1 a = some (.dK (row3 q mx (dr + 1))) := by rw [eH, upd_same]
  have q1 : H1 q = some (.lst (k.l.map V.int)) := by rw [eH, upd_ne naq.symm]; exact dq
  have k1 : ∀ b o, H b = some o → b ≠ a → H1 b = some o := fun b o h hb => by rw [eH, upd_ne hb]; exact h
  have sm1 : Same G H1 := fun b o h => k1 b o (sm b o h) (ne_of_none h ga)
  clear eH
  have lkm : DGet H1 a (.str "mixed") (some (.int mx)) := .inl ⟨_, .inr "mixed", .inl d1, rfl, lk3_mixed.symm⟩
  have lkd1 : DGet H1 a (.str "draws") (some (.int (dr + 1))) := .inl ⟨_, .inr "draws", .inl d1, rfl, lk3_draws.symm⟩
  have lk : DGet H1 a (.str "left") (some (.ref q)) := .inl ⟨_, .inr "left", .inl d1, rfl, lk3_left.symm⟩
  refine ⟨_, rfl, a, .int mx, rfl, lkm, _, rfl, a, .int (dr + 1), rfl, lkd1, 60875, dr + 1, rfl, rfl, .inl ⟨by decide, by decide⟩, mx, 60875 * (dr + 1), rfl, rfl, ?_⟩
  refine ⟨_, rfl, a, .ref q, rfl, lk, Nat.zero_le _, fun p hp => ?_⟩
  have npa : p ≠ a := fun e => by rw [e, d1] at hp; cases hp
  have npq : p ≠ q := fun e => by rw [e, q1] at hp; cases hp
  have s1 : Same H1 (upd H1 p (.lst [])) := fun b u e => by rw [upd_ne (ne_of_none e hp)]; exact e
  have e1 := s1 _ _ d1
  have e2 := s1 _ _ q1
  refine ⟨G, .lst (k.l.map .int), .lst [], sm1.trans s1, .own rfl ⟨_, e2, by rw [List.length_map, sizeLine_eq]; omega, dds_ints _⟩, .own rfl ⟨_, upd_same, Nat.zero_le _, .nil⟩, ?_⟩
  refine ⟨plain_ints _, rfl, Nat.le_trans (Nat.min_le_right _ _) (by decide), trivial, _, rfl, ?_⟩
  show if (!PyData.eqv (D.lst (k.l.map D.int)).py (D.lst []).py) = true then _ else _
  rw [eqv_nil]
  have dk : ∀ {H' : Hp} {l' : List Int}, H' a = some (.dK (row3 q mx (dr + 1))) → H' q = some (.lst (l'.map V.int)) → DeckAt H' a q l' (k.b + 2147483587) := fun {H' l'} h1 h2 => by
    refine ⟨?_, h2⟩
    rw [show (k.b + 2147483587) % 2147483587 = mx by omega, show (k.b + 2147483587) / 2147483587 = dr + 1 by omega]
    exact h1
  have fin : ∀ {d : Int} {l' : List Int} {b' : Int} {H' : Hp}, drawM k m = (d, ⟨l', b'⟩) → (∀ b o, H b = some o → b ≠ a → b ≠ q → H' b = some o) → DeckAt H' a q l' b' → Q (.int d) H' := fun {d l' b' H'} e kp dk => by
    rw [e] at z
    exact z (.int d) G H' (Same.refl _) (fun b o h => kp b o (sm b o h) (ne_of_none h ga) (ne_of_none h gq)) kp (fun b o h _ _ _ _ => h) ga gq dk (.int d)
  cases hk : k.l with
  | nil =>
    refine iteF ?_
    have lkd2 : DGet (upd H1 p (.lst [])) a (.str "draws") (some (.int (dr + 1))) := .inl ⟨_, .inr "draws", .inl e1, rfl, lk3_draws.symm⟩
    have b0 := Int.emod_nonneg ((mx + 60875 * (dr + 1)) * 39373 + 189) (b := 2147483647) (by decide)
    have b1 := Int.emod_lt_of_pos ((mx + 60875 * (dr + 1)) * 39373 + 189) (b := 2147483647) (by decide)
    refine ⟨_, rfl, _, 39373, rfl, rfl, .inr ⟨by decide, by decide⟩, _, 189, rfl, rfl, .inl ⟨_, rfl, _, 2147483647, rfl, rfl, (by show (0 : Int) < 2147483647; decide), ?_⟩⟩
    refine ⟨_, rfl, _, rfl, _, _, rfl, rfl, .inl ⟨by omega, by omega⟩, _, rfl, a, .int (dr + 1), rfl, lkd2, 52711, _, rfl, rfl, .inl ⟨by decide, by decide⟩, _, _, rfl, rfl, _, 189, rfl, rfl, .inl ⟨_, rfl, _, 2147483587, rfl, rfl, (by show (0 : Int) < 2147483587; decide), ?_⟩⟩
    refine ⟨_, rfl, _, 40692, rfl, rfl, .inr ⟨by decide, by decide⟩, _, 2147483563, rfl, rfl, (by show (0 : Int) < 2147483563; decide), _, 64, rfl, rfl, ⟨by decide, by decide⟩, _, rfl, _, m, rfl, rfl, m0, .inl ⟨_, rfl, ?_⟩⟩
    refine fin (l' := []) (b' := k.b + 2147483587) (by unfold drawM endM; rw [hk, ← emx, ← edr]; rfl) (fun b o h h1 _ => s1 _ _ (k1 b o h h1)) (dk e1 ?_)
    rw [e2, hk]
  | cons c0 r0 =>
    refine iteT ?_
    have lk2 : DGet (upd H1 p (.lst [])) a (.str "left") (some (.ref q)) := .inl ⟨_, .inr "left", .inl e1, rfl, lk3_left.symm⟩
    obtain ⟨c, hc⟩ : ∃ c, k.l.getLast? = some c := by
      rw [hk]; exact ⟨_, List.getLast?_eq_some_getLast (by simp)⟩
    have hg : (k.l.map V.int)[(k.l.map V.int).length - 1]? = some (.int c) := by
      rw [List.length_map, List.getElem?_map, ← List.getLast?_eq_getElem?, hc]; rfl
    refine ⟨_, rfl, a, .ref q, rfl, lk2, .inl ⟨rfl, _, SqL.of e2⟩, q, _, .int c, rfl, rfl, e2, hg, ?_⟩
    have dl : (k.l.map V.int).dropLast = k.l.dropLast.map V.int := (List.map_dropLast).symm
    rw [dl]
    have e3 : upd (upd H1 p (.lst [])) q (.lst (k.l.dropLast.map V.int)) a = some (.dK (row3 q mx (dr + 1))) := by rw [upd_ne naq]; exact e1
    have e4 : upd (upd H1 p (.lst [])) q (.lst (k.l.dropLast.map V.int)) q = some (.lst (k.l.dropLast.map V.int)) := upd_same
    have k4 : ∀ b o, H b = some o → b ≠ a → b ≠ q → upd (upd H1 p (.lst [])) q (.lst (k.l.dropLast.map V.int)) b = some o := fun b o h h1 h2 => by
      rw [upd_ne h2]; exact s1 _ _ (k1 b o h h1)
    generalize upd (upd H1 p (.lst [])) q (.lst (k.l.dropLast.map V.int)) = H4 at e3 e4 k4 ⊢
    have lk4 : DGet H4 a (.str "left") (some (.ref q)) := .inl ⟨_, .inr "left", .inl e3, rfl, lk3_left.symm⟩
    refine ⟨_, rfl, 10, 18, rfl, rfl, ⟨by decide, by decide, by decide⟩, c, _, rfl, rfl, _, rfl, ?_⟩
    by_cases hmc : (1000000000000000000 : Int) ≤ c
    · rw [show decide (c ≥ (10 : Int) ^ (Int.toNat 18)) = true from decide_eq_true hmc]
      refine iteT ?_
      refine ⟨_, rfl, a, .ref q, rfl, lk4, .inl ⟨rfl, _, SqL.of e4⟩, _, rfl, _, rfl, c, m, rfl, rfl, wide_div (b := 140) m0 (by omega) (by decide) (by decide), q, _, _, rfl, rfl, e4, ?_, ?_⟩
      · rw [List.length_map, List.length_dropLast, sizeLine_eq]; omega
      · refine ⟨_, rfl, _, rfl, c, m, rfl, rfl, m0, .inl ⟨_, rfl, ?_⟩⟩
        refine fin (l' := k.l.dropLast ++ [c / m]) (b' := k.b + 2147483587) (by unfold drawM; rw [hc]; simp only [if_pos hmc]) (fun b o h h1 h2 => by rw [upd_ne h2]; exact k4 b o h h1 h2) (dk ?_ ?_)
        · rw [upd_ne naq]; exact e3
        · rw [upd_same, List.map_append]; rfl
    · rw [show decide (c ≥ (10 : Int) ^ (Int.toNat 18)) = false from decide_eq_false hmc]
      refine iteF ?_
      have lkd2 : DGet H4 a (.str "draws") (some (.int (dr + 1))) := .inl ⟨_, .inr "draws", .inl e3, rfl, lk3_draws.symm⟩
      refine ⟨_, rfl, _, rfl, .inl ⟨c, rfl, c, 2147483629, rfl, rfl, (by show (0 : Int) < 2147483629; decide), mx + 60875 * (dr + 1), _, rfl, rfl, ?_⟩⟩
      have b0 := Int.emod_nonneg ((mx + 60875 * (dr + 1) + c % 2147483629) * 39373 + 189) (b := 2147483647) (by decide)
      have b1 := Int.emod_lt_of_pos ((mx + 60875 * (dr + 1) + c % 2147483629) * 39373 + 189) (b := 2147483647) (by decide)
      refine ⟨_, rfl, _, 39373, rfl, rfl, .inr ⟨by decide, by decide⟩, _, 189, rfl, rfl, .inl ⟨_, rfl, _, 2147483647, rfl, rfl, (by show (0 : Int) < 2147483647; decide), ?_⟩⟩
      refine ⟨_, rfl, _, rfl, _, _, rfl, rfl, .inl ⟨by omega, by omega⟩, _, rfl, a, .int (dr + 1), rfl, lkd2, 52711, _, rfl, rfl, .inl ⟨by decide, by decide⟩, _, _, rfl, rfl, _, 189, rfl, rfl, .inl ⟨_, rfl, _, 2147483587, rfl, rfl, (by show (0 : Int) < 2147483587; decide), ?_⟩⟩
      refine ⟨_, rfl, _, 40692, rfl, rfl, .inr ⟨by decide, by decide⟩, _, 2147483563, rfl, rfl, (by show (0 : Int) < 2147483563; decide), _, 64, rfl, rfl, ⟨by decide, by decide⟩, _, rfl, _, m, rfl, rfl, m0, .inl ⟨_, rfl, ?_⟩⟩
      exact fin (l' := k.l.dropLast) (b' := k.b + 2147483587) (by unfold drawM endM; rw [hc]; simp only [if_neg hmc]; rw [← emx, ← edr]) k4 (dk e3 e4)
theorem ok__law_draw (R : PR P w K mg) : FnG P w K mg base CX0 1 R.f__law_draw R.fd__law_draw ["_law_deck_here", "_law_many"] (spK K 1 (m__law_draw R.c)) := fn_draw R.F__law_draw R.z_int

theorem fn_deck {f : Addr} {fd : FuncData} (F : Fun K "_law_deck" "_law_deck" s__law_deck f fd) (zi : mg "int" = none) (zl : mg "list" = none) : FnG P w K mg base CX0 1 f fd ["_law_script"] (spDeck K) := by
  refine FnG.body F sc__law_deck (fun vs H Q E h => by obtain ⟨a, ns, rfl, _⟩ := h; rfl) fun cdv A outer s H vs Q E hg hr hsp => ?_
  obtain ⟨a, ns, rfl, hS, hl, z⟩ := hsp
  refine ⟨_, PSs.nox (pss_cons (ps_set (i := 1) sc__law_deck.nd rfl (Or.inl rfl) pe_int) (pss_cons (ps_for PassesOwn.never rfl (pi_list (pe_slice sl_list (pv 0) po_none (po_some pe_int))) (pg_name (i := 2) sc__law_deck.nd rfl (Or.inl rfl))
      (pss_one (ps_set (i := 1) sc__law_deck.nd rfl (Or.inl rfl) (pe_op op_mod (pe_callTy call_int1 (by rfl) zi PyProof.Rows.boot_int (pa_cons (pe_op op_add (pe_op op_add (pe_op op_mul (pv 1) pe_int) (pe_op op_mod (pe_callTy call_int1 (by rfl) zi PyProof.Rows.boot_int (pa_cons (pv 2) pa_nil)) pe_int)) pe_int) pa_nil)) pe_int))))
    (pss_one (ps_ret (pe_disp (pps_cons pe_str (pe_revL (pe_callTy call_list_of (by rfl) zl PyProof.Rows.boot_list (pa_cons (pe_slice sl_list (pv 0) po_none (po_some pe_int)) pa_nil)))
      (pps_cons pe_str (pv 1) (pps_cons pe_str pe_int pps_nil))) rfl rfl (by intro z; cases z) (by decide)))))), ?_⟩
  refine ⟨_, rfl, 63, rfl, a, _, rfl, hS, fun p hp => ⟨p, rfl, ⟨_, SqL.of upd_same⟩, ?_⟩⟩
  rw [cutV_ints]
  have s1 : Same H (upd H p (.lst ((cutI ns none (some 63)).map V.int))) := fun b u e => by rw [upd_ne (ne_of_none e hp)]; exact e
  refine for_list (xs := (cutI ns none (some 63)).map V.int) (fun i σ H' => ∃ (b : Int) (v : Option V), (0 ≤ b ∧ b < 2147483587) ∧ σ = [some (.ref a), some (.int b), v] ∧ Same (upd H p (.lst ((cutI ns none (some 63)).map V.int))) H') ⟨1086144, none, ⟨by decide, by decide⟩, rfl, Same.refl _⟩ (fun i σ H' _ ⟨b, v, _, _, e⟩ => SqL.of (e _ _ upd_same)) ?_ ?_
  · rintro i x σ H' hx ⟨b, v, _, rfl, e⟩
    obtain ⟨c, rfl, _⟩ := int_at hx
    exact ⟨_, rfl, b, 48271, rfl, rfl, .inr ⟨by decide, by decide⟩, _, rfl, .inl ⟨c, rfl, c, 2147483629, rfl, rfl, (by show (0 : Int) < 2147483629; decide), _, _, rfl, rfl, _, 189, rfl, rfl, .inl ⟨_, rfl, _, 2147483587, rfl, rfl, (by show (0 : Int) < 2147483587; decide), _, _, ⟨Int.emod_nonneg _ (by decide), Int.emod_lt_of_pos _ (by decide)⟩, rfl, e⟩⟩⟩
  · rintro σ H' ⟨b, v, ⟨b0, b1⟩, rfl, e⟩
    have s2 : Same H H' := s1.trans e
    intro p1 hp1
    have s3 : Same H' (upd H' p1 (.dK [])) := fun b u e => by rw [upd_ne (ne_of_none e hp1)]; exact e
    refine ⟨_, rfl, 63, rfl, a, _, rfl, s3.seq (s2.seq hS), fun p2 hp2 => ⟨p2, _, rfl, .inl (SqL.of upd_same), fun D0 hD => ⟨D0, _, rfl, SqL.of upd_same, fun q hq => ?_⟩⟩⟩
    rw [cutV_ints] at hD hq ⊢
    have np21 : p2 ≠ p1 := fun e => by rw [e, upd_same] at hp2; cases hp2
    have hB1 : upd (upd H' p1 (.dK [])) p2 (.lst ((cutI ns none (some 63)).map V.int)) p1 = some (.dK []) := by rw [upd_ne np21.symm, upd_same]
    have s4 : Same H' (upd (upd H' p1 (.dK [])) p2 (.lst ((cutI ns none (some 63)).map V.int))) := fun b u e => by
      rw [upd_ne (ne_of_none (s3 b u e) hp2)]; exact s3 b u e
    have hD1 : D0 ≠ p1 := fun e => by rw [e, hB1] at hD; cases hD
    obtain ⟨H2, eH⟩ : ∃ X, X = upd (upd (upd H' p1 (.dK [])) p2 (.lst ((cutI ns none (some 63)).map V.int))) D0 (.lst ((cutI ns none (some 63)).map V.int)) := ⟨_, rfl⟩
    have hB2 : H2 p1 = some (.dK []) := by rw [eH, upd_ne hD1.symm]; exact hB1
    have s5 : Same H H2 := s2.trans fun b u e => by rw [eH, upd_ne (ne_of_none (s4 b u e) hD)]; exact s4 b u e
    rw [← eH] at hq ⊢
    have hq1 : q ≠ p1 := fun e => by rw [e, hB2] at hq; cases hq
    refine ⟨_, rfl, ?_, [(.inr "left", .ref q), (.inr "mixed", .int b), (.inr "draws", .int 0)], rfl, (by show 3 ≤ 15; decide), ?_⟩
    · rw [upd_ne hq1.symm]; exact hB2
    · rw [merge3, ← List.map_reverse]
      refine z p1 q (cutI ns none (some 63)).reverse b _ (fun b u e => ?_) (s2.free hp1) (s5.free hq) hq1.symm ?_ ⟨?_, ?_⟩
      · rw [upd_ne (ne_of_none e (s2.free hp1)), upd_ne (ne_of_none e (s5.free hq))]; exact s5 b u e
      · have := cutI_len ns none (some 63)
        rw [List.length_reverse]; omega
      · rw [upd_same, show b % 2147483587 = b by omega, show b / 2147483587 = 0 by omega]
      · rw [upd_ne hq1, upd_same]
theorem ok__law_deck (R : PR P w K mg) : FnG P w K mg base CX0 1 R.f__law_deck R.fd__law_deck ["_law_script"] (spDeck K) := fn_deck R.F__law_deck R.z_int R.z_list

def b__law_pick (c : CA) : SF := (sRet (eOp gIx (eV 1) (eK 0 1 (m__law_draw c) (aC (eCall gLen (aC (eV 1) aN)) aN))))
def m__law_pick (c : CA) : Addr → Addr → Dk → List D → Res (D × Dk) := runK (b__law_pick c) 0
theorem ok__law_pick (R : PR P w K mg) : FnG P w K mg base CX0 2 R.f__law_pick R.fd__law_pick ["_law_deck_here", "_law_some"] (spK K 1 (m__law_pick R.c)) :=
  fn_K R.F__law_pick sc__law_pick 1 0 rfl rfl fun cdv A outer s H E hg hr => (dss_one (ds_ret (de_ix ix_seq opd_ix (dv 1) (de_K (ok__law_draw R) hg (hr.mono (by decide)) (by rfl) R.g__law_draw R.F__law_draw.kp R.b__law_draw passW0 (pv 0) (da_cons (de_callB call_len calld_len (by rfl) R.z_len PySem.boot_len (da_cons (dv 1) da_nil)) da_nil)) (by intro _ _; rfl))))
def b__law_closure (c : CA) : SF := (sSeq (sPar [2, 3] [.n (nCall gList (aC (eV 1) aN)), .e (eUn gNeg (eC (.int 1)))])
  (sSeq (whileL (tB (eOp gNe (eV 3) (eCall gLen (aC (eV 2) aN))))
  (sSeq (sSet 3 (eCall gLen (aC (eV 2) aN)))
  (sFor (iSq (eV 0)) (gT (gCons' (gN 4) (gCons' (gN 5) gNil')))
  (sIf (tAnd' (tB (eOp (gInQ true) (eV 5) (eV 2))) (tB (eOp gEq (eN (nComp [6] (iSq (eV 4)) (gN 6) (tB (eOp (gInQ true) (eV 6) (eV 2))) (eV 6))) (eN nNil)))) (sEx (eOM 2 gApp (aC (eV 5) aN))) sNx))) 64)
  (sRet (eN (nCall gSorted (aC (eV 2) aN))))))
def m__law_closure (c : CA) : List D → Res D := fun ds => noErr (runP (b__law_closure c) 5 ds)
theorem ok__law_closure (R : PR P w K mg) : FnG P w K mg base CX0 1 R.f__law_closure R.fd__law_closure ["_law_rules", "_law_some"] (spP K 2 (m__law_closure R.c)) :=
  fn_P R.F__law_closure sc__law_closure 5 rfl fun cdv A outer s H E hg hr => (dss_cons (ds_parT rfl (pns_cons sc__law_closure.nd rfl (Or.inr rfl) (pns_cons sc__law_closure.nd rfl (Or.inl rfl) pns_nil)) (dws_n (dn_callTy call_list_of calln_list (by rfl) R.z_list PyProof.Rows.boot_list (da_cons (dv 1) da_nil)) (dws_e (de_un un_neg und_neg de_int) dws_nil)))
    (dss_cons (ds_while 64 PassesOwn.never (dt_cmp (op_neq hr.units) opd_ne (dv 3) (de_callB call_len calld_len (by rfl) R.z_len PySem.boot_len (da_cons (dv 2) da_nil)) (nomark _)) (dss_cons (ds_set sc__law_closure.nd rfl (Or.inl rfl) (de_callB call_len calld_len (by rfl) R.z_len PySem.boot_len (da_cons (dv 2) da_nil)))
    (dss_one (ds_for PassesOwn.never rfl (di_seq (dv 0)) (dg_tup rfl (dgs_cons (dg_name sc__law_closure.nd rfl (by first | exact Or.inl rfl | exact Or.inr rfl)) (dgs_cons (dg_name sc__law_closure.nd rfl (by first | exact Or.inl rfl | exact Or.inr rfl)) dgs_nil)) 2 rfl (pg_tup rfl (dgs_cons (dg_name sc__law_closure.nd rfl (by first | exact Or.inl rfl | exact Or.inr rfl)) (dgs_cons (dg_name sc__law_closure.nd rfl (by first | exact Or.inl rfl | exact Or.inr rfl)) dgs_nil))) (glen2)) (dss_one (ds_if (dt_w (dw_and (dt_cmp (op_notinq hr.units) opd_in (dv 5) (dv 2) (by rfl)) (dw_one (dt_cmp (op_eqq hr.units) opd_eq (dn_de (dn_comp (own := [("_law_x", 6)]) rfl sc__law_closure.nd (di_seq (dv 4)) (by exact blkOk_by (N := N__law_closure) (sc := defScope s__law_closure) (own := [("_law_x", 6)]) (by decide +kernel)) (fun _ _ _ _ _ => (dg_name sc__law_closure.nd rfl (by first | exact Or.inl rfl | exact Or.inr rfl))) (fun _ _ _ _ _ => (dts_one (dt_cmp (op_notinq hr.units) opd_in (dv 6) (dv 2) (by rfl)))) (fun _ _ _ _ _ => (dv 6)))) (dn_de dn_nil) (nomark _))))) (dss_one (ds_expr (de_om PySem.F.slot_list_append PySem.F.type_list_append mt_append own_app (pv 2) (da_cons (dv 5) da_nil)))) dss_nil))))))
    (dss_one (ds_ret (dn_de (dn_callB (call_sortD hr.units) calln_sorted (by rfl) R.z_sorted PyProof.Rows.boot_sorted (da_cons (dv 2) da_nil)))))))
def b__law_is_within (c : CA) : SF := (sRet (eOp gEq (eN (nComp [2] (iSq (eV 0)) (gN 2) (tB (eOp (gInQ true) (eV 2) (eV 1))) (eV 2))) (eN nNil)))
def m__law_is_within (c : CA) : List D → Res D := fun ds => noErr (runP (b__law_is_within c) 1 ds)
theorem ok__law_is_within (R : PR P w K mg) : FnG P w K mg base CX0 1 R.f__law_is_within R.fd__law_is_within ["_law_some", "_law_more"] (spP K 2 (m__law_is_within R.c)) :=
  fn_P R.F__law_is_within sc__law_is_within 1 rfl fun cdv A outer s H E hg hr => (dss_one (ds_ret (de_cmp (op_eqq hr.units) opd_eq (dn_de (dn_comp (own := [("_law_x", 2)]) rfl sc__law_is_within.nd (di_seq (dv 0)) (by exact blkOk_by (N := N__law_is_within) (sc := defScope s__law_is_within) (own := [("_law_x", 2)]) (by decide +kernel)) (fun _ _ _ _ _ => (dg_name sc__law_is_within.nd rfl (by first | exact Or.inl rfl | exact Or.inr rfl))) (fun _ _ _ _ _ => (dts_one (dt_cmp (op_notinq hr.units) opd_in (dv 2) (dv 1) (by rfl)))) (fun _ _ _ _ _ => (dv 2)))) (dn_de dn_nil) (nomark _))))
def b__law_frame (c : CA) : SF := (sSeq (sSet 3 (eOp gAdd (eC (.int 3)) (eK 0 1 (m__law_draw c) (aC (eOp gSub (eV 1) (eC (.int 2))) aN))))
  (sSeq (sSet 4 (eSl gSl (eK 0 1 (m__law_pick c) (aC (eN (nLst (aC (eC (.str "abcdef")) (aC (eC (.str "acegik")) (aC (eC (.str "uvwxyz")) aN))))) aN)) oNo (oSo (eV 3))))
  (sSeq (sPar [5, 6, 7] [.n (nCall gListX (aC (eV 4) aN)), .n nNil, .n nDT])
  (sSeq (sFor (iR1 (aC (eOp gAdd (eC (.int 1)) (eK 0 1 (m__law_draw c) (aC (eV 2) aN))) aN)) (gN 8)
  (sEx (eOM 6 gApp (aC (eOM 5 gPopAt (aC (eK 0 1 (m__law_draw c) (aC (eCall gLen (aC (eV 5) aN)) aN)) aN)) aN))))
  (sSeq (sSet 9 (eN (nComp [10] (iSq (eVf 5)) (gN 10) (tB (eOp gEq (eK 0 1 (m__law_draw c) (aC (eC (.int 2)) aN)) (eC (.int 0)))) (eV 10))))
  (sSeq (sIf (tAnd' (tB (eOp gEq (eV 9) (eN nNil))) (tB (eOp gGt (eK 0 1 (m__law_draw c) (aC (eC (.int 4)) aN)) (eC (.int 0))))) (sSet 9 (eN (nLst (aC (eK 0 1 (m__law_pick c) (aC (eVf 5) aN)) aN)))) sNx)
  (sSeq (sFor (iR1 (aC (eK 0 1 (m__law_draw c) (aC (eC (.int 4)) aN)) aN)) (gN 8)
  (sSeq (sPar [11, 12] [.e (eN (nComp [10] (iSq (eV 4)) (gN 10) (tB (eOp gEq (eK 0 1 (m__law_draw c) (aC (eC (.int 3)) aN)) (eC (.int 0)))) (eV 10))), .e (eK 0 1 (m__law_pick c) (aC (eV 4) aN))])
  (sPut 7 (eTup (aC (eM1 gJoin (eC (.str "")) (eN (nComp [10] (iSq (eV 11)) (gN 10) (tB (eOp gNe (eV 10) (eV 12))) (eV 10)))) (aC (eV 12) aN))) (eC (.bl true)))))
  (sSeq (sSet 13 (eF 2 (m__law_closure c) (aC (eN (nListT (aC (eV 7) aN))) (aC (eV 9) aN))))
  (sSeq (sIf (tAnd' (tNt (tB (eF 2 (m__law_is_within c) (aC (eVf 5) (aC (eV 13) aN))))) (tNt (tB (eF 2 (m__law_is_within c) (aC (eVf 6) (aC (eV 13) aN)))))) (sFor (iSq (eK 0 1 (m__law_pick c) (aC (eN (nLst (aC (eVf 5) (aC (eVf 6) (aC (eVf 6) aN))))) aN))) (gN 10)
  (sIf (tB (eOp (gInQ true) (eV 10) (eV 13))) (sPut 7 (eTup (aC (eM1 gJoin (eC (.str "")) (eV 9)) (aC (eV 10) aN))) (eC (.bl true))) sNx)) sNx)
  (sSeq (sSetN 14 (nDis (("columns", (eV 4)) :: (("rules", (eCall gTuple (aC (eN (nSortT (aC (eV 7) aN))) aN))) :: (("window", (eM1 gJoin (eC (.str "")) (eV 5))) :: (("common", (eM1 gJoin (eC (.str "")) (eV 9))) :: []))))))
  (sSeq (sPut2 14 "hidden" "rest" (eTup (aC (eM1 gJoin (eC (.str "")) (eN (nCall gSorted (aC (eV 6) aN)))) (aC (eM1 gJoin (eC (.str "")) (eN (nCall gSorted (aC (eOp gAdd (eV 9) (eV 6)) aN)))) aN))))
  (sRet (eV 14)))))))))))))
def m__law_frame (c : CA) : Addr → Addr → Dk → List D → Res (D × Dk) := runK (b__law_frame c) 12
theorem ok__law_frame (R : PR P w K mg) : FnG P w K mg base CX0 3 R.f__law_frame R.fd__law_frame ["_law_deck_here", "_law_wide", "_law_dark"] (spK K 2 (m__law_frame R.c)) :=
  fn_K R.F__law_frame sc__law_frame 2 12 rfl rfl fun cdv A outer s H E hg hr => (dss_cons (ds_set sc__law_frame.nd rfl (Or.inl rfl) (de_op op_addA opd_add de_int (de_K (ok__law_draw R) hg (hr.mono (by decide)) (by rfl) R.g__law_draw R.F__law_draw.kp R.b__law_draw passW0 (pv 0) (da_cons (de_op op_sub opd_sub (dv 1) de_int) da_nil))))
    (dss_cons (ds_set sc__law_frame.nd rfl (Or.inl rfl) (de_slice sl_3 sld_sl (de_K (ok__law_pick R) hg (hr.mono (by decide)) (by rfl) R.g__law_pick R.F__law_pick.kp R.b__law_pick passW0 (pv 0) (da_cons (dn_de (dn_lst (da_cons (de_str ⟨by decide +kernel, by decide +kernel⟩) (da_cons (de_str ⟨by decide +kernel, by decide +kernel⟩) (da_cons (de_str ⟨by decide +kernel, by decide +kernel⟩) da_nil))))) da_nil)) do_no (do_so (dv 3))))
    (dss_cons (ds_par3 rfl sc__law_frame.nd rfl rfl rfl (by decide) (by decide) (by decide) rfl rfl rfl (dws_n (dn_callTy (call_listX rfl) calln_listX (by rfl) R.z_list PyProof.Rows.boot_list (da_cons (dv 4) da_nil)) (dws_n dn_nil (dws_n dn_dt dws_nil))) rfl)
    (dss_cons (ds_for PassesOwn.never rfl (di_range1 (by rfl) R.z_range (da_cons (de_op op_addA opd_add de_int (de_K (ok__law_draw R) hg (hr.mono (by decide)) (by rfl) R.g__law_draw R.F__law_draw.kp R.b__law_draw passW0 (pv 0) (da_cons (dv 2) da_nil))) da_nil)) (dg_name sc__law_frame.nd rfl (by first | exact Or.inl rfl | exact Or.inr rfl)) (dss_one (ds_expr (de_om PySem.F.slot_list_append PySem.F.type_list_append mt_append own_app (pv 6) (da_cons (de_om PySem.F.slot_list_pop PySem.F.type_list_pop mt_popAt own_popAt (pv 5) (da_cons (de_K (ok__law_draw R) hg (hr.mono (by decide)) (by rfl) R.g__law_draw R.F__law_draw.kp R.b__law_draw passW0 (pv 0) (da_cons (de_callB call_len calld_len (by rfl) R.z_len PySem.boot_len (da_cons (dv 5) da_nil)) da_nil)) da_nil)) da_nil)))))
    (dss_cons (ds_setC rfl sc__law_frame.nd rfl rfl rfl (own := [("_law_x", 10)]) (di_seq (dvf 5)) (by exact blkOk_by (N := N__law_frame) (sc := defScope s__law_frame) (own := [("_law_x", 10)]) (by decide +kernel)) (fun _ _ _ _ _ => (dg_name sc__law_frame.nd rfl (by first | exact Or.inl rfl | exact Or.inr rfl))) (fun _ _ _ _ _ => (dts_one (dt_cmp (op_eqq hr.units) opd_eq (de_K (ok__law_draw R) hg (hr.mono (by decide)) (by rfl) R.g__law_draw R.F__law_draw.kp R.b__law_draw passW0 (pv 0) (da_cons de_int da_nil)) de_int (nomark _)))) (fun _ _ _ _ _ => (dv 10)))
    (dss_cons (ds_if (dt_w (dw_and (dt_cmp (op_eqq hr.units) opd_eq (dv 9) (dn_de dn_nil) (nomark _)) (dw_one (dt_cmp op_gt opd_gt (de_K (ok__law_draw R) hg (hr.mono (by decide)) (by rfl) R.g__law_draw R.F__law_draw.kp R.b__law_draw passW0 (pv 0) (da_cons de_int da_nil)) de_int (nomark _))))) (dss_one (ds_set sc__law_frame.nd rfl (Or.inl rfl) (dn_de (dn_lst (da_cons (de_K (ok__law_pick R) hg (hr.mono (by decide)) (by rfl) R.g__law_pick R.F__law_pick.kp R.b__law_pick passW0 (pv 0) (da_cons (dvf 5) da_nil)) da_nil))))) dss_nil)
    (dss_cons (ds_for PassesOwn.never rfl (di_range1 (by rfl) R.z_range (da_cons (de_K (ok__law_draw R) hg (hr.mono (by decide)) (by rfl) R.g__law_draw R.F__law_draw.kp R.b__law_draw passW0 (pv 0) (da_cons de_int da_nil)) da_nil)) (dg_name sc__law_frame.nd rfl (by first | exact Or.inl rfl | exact Or.inr rfl)) (dss_cons (ds_parT rfl (pns_cons sc__law_frame.nd rfl (Or.inl rfl) (pns_cons sc__law_frame.nd rfl (Or.inr rfl) pns_nil)) (dws_e (dn_de (dn_comp (own := [("_law_x", 10)]) rfl sc__law_frame.nd (di_seq (dv 4)) (by exact blkOk_by (N := N__law_frame) (sc := defScope s__law_frame) (own := [("_law_x", 10)]) (by decide +kernel)) (fun _ _ _ _ _ => (dg_name sc__law_frame.nd rfl (by first | exact Or.inl rfl | exact Or.inr rfl))) (fun _ _ _ _ _ => (dts_one (dt_cmp (op_eqq hr.units) opd_eq (de_K (ok__law_draw R) hg (hr.mono (by decide)) (by rfl) R.g__law_draw R.F__law_draw.kp R.b__law_draw passW0 (pv 0) (da_cons de_int da_nil)) de_int (nomark _)))) (fun _ _ _ _ _ => (dv 10)))) (dws_e (de_K (ok__law_pick R) hg (hr.mono (by decide)) (by rfl) R.g__law_pick R.F__law_pick.kp R.b__law_pick passW0 (pv 0) (da_cons (dv 4) da_nil)) dws_nil)))
    (dss_one (ds_put (hu_of hr) (pv 7) (de_tup (da_cons (de_join (de_str ⟨by decide +kernel, by decide +kernel⟩) (dn_de (dn_comp (own := [("_law_x", 10)]) rfl sc__law_frame.nd (di_seq (dv 11)) (by exact blkOk_by (N := N__law_frame) (sc := defScope s__law_frame) (own := [("_law_x", 10)]) (by decide +kernel)) (fun _ _ _ _ _ => (dg_name sc__law_frame.nd rfl (by first | exact Or.inl rfl | exact Or.inr rfl))) (fun _ _ _ _ _ => (dts_one (dt_cmp (op_neq hr.units) opd_ne (dv 10) (dv 12) (nomark _)))) (fun _ _ _ _ _ => (dv 10))))) (da_cons (dv 12) da_nil))) de_bl))))
    (dss_cons (ds_set sc__law_frame.nd rfl (Or.inl rfl) (de_F (ok__law_closure R) hg (hr.mono (by decide)) (by rfl) R.g__law_closure R.F__law_closure.kp R.b__law_closure passW0 (da_cons (dn_de (dn_listT rfl (by rfl) R.z_list (da_cons (dv 7) da_nil))) (da_cons (dv 9) da_nil))))
    (dss_cons (ds_if (dt_w (dw_and (dt_not (dt_val (de_F (ok__law_is_within R) hg (hr.mono (by decide)) (by rfl) R.g__law_is_within R.F__law_is_within.kp R.b__law_is_within passW0 (da_cons (dvf 5) (da_cons (dv 13) da_nil))))) (dw_one (dt_not (dt_val (de_F (ok__law_is_within R) hg (hr.mono (by decide)) (by rfl) R.g__law_is_within R.F__law_is_within.kp R.b__law_is_within passW0 (da_cons (dvf 6) (da_cons (dv 13) da_nil)))))))) (dss_one (ds_for PassesOwn.never rfl (di_seq (de_K (ok__law_pick R) hg (hr.mono (by decide)) (by rfl) R.g__law_pick R.F__law_pick.kp R.b__law_pick passW0 (pv 0) (da_cons (dn_de (dn_lst (da_cons (dvf 5) (da_cons (dvf 6) (da_cons (dvf 6) da_nil))))) da_nil))) (dg_name sc__law_frame.nd rfl (by first | exact Or.inl rfl | exact Or.inr rfl)) (dss_one (ds_if (dt_cmp (op_notinq hr.units) opd_in (dv 10) (dv 13) (by rfl)) (dss_one (ds_put (hu_of hr) (pv 7) (de_tup (da_cons (de_join (de_str ⟨by decide +kernel, by decide +kernel⟩) (dv 9)) (da_cons (dv 10) da_nil))) de_bl)) dss_nil)))) dss_nil)
    (dss_cons (ds_setN sc__law_frame.nd rfl (Or.inl rfl) (dn_dis (dps_cons ⟨by decide +kernel, by decide +kernel⟩ (dv 4) (dps_cons ⟨by decide +kernel, by decide +kernel⟩ (de_callTy call_tuple_of calld_tuple (by rfl) R.z_tuple PyProof.Rows.boot_tuple (da_cons (dn_de (dn_sortT rfl hr.units (by rfl) R.z_sorted (da_cons (dv 7) da_nil))) da_nil)) (dps_cons ⟨by decide +kernel, by decide +kernel⟩ (de_join (de_str ⟨by decide +kernel, by decide +kernel⟩) (dv 5)) (dps_cons ⟨by decide +kernel, by decide +kernel⟩ (de_join (de_str ⟨by decide +kernel, by decide +kernel⟩) (dv 9)) dps_nil))))))
    (dss_cons (ds_put2 rfl (hu_of hr) (pv 14) (pv 14) ⟨by decide +kernel, by decide +kernel⟩ ⟨by decide +kernel, by decide +kernel⟩ (de_tup (da_cons (de_join (de_str ⟨by decide +kernel, by decide +kernel⟩) (dn_de (dn_callB (call_sortD hr.units) calln_sorted (by rfl) R.z_sorted PyProof.Rows.boot_sorted (da_cons (dv 6) da_nil)))) (da_cons (de_join (de_str ⟨by decide +kernel, by decide +kernel⟩) (dn_de (dn_callB (call_sortD hr.units) calln_sorted (by rfl) R.z_sorted PyProof.Rows.boot_sorted (da_cons (de_op op_addA opd_add (dv 9) (dv 6)) da_nil)))) da_nil))) (by exact pg_tup rfl (pgs_cons (pg_sub (pv 14) pe_str (set_dict (hu_of hr))) (pgs_cons (pg_sub (pv 14) pe_str (set_dict (hu_of hr))) pgs_nil))))
    (dss_one (ds_ret (dv 14))))))))))))))
def b__law_scheme_text (c : CA) : SF := (sSeq (sSet 1 (eOp gAdd (eN (nLst (aC (eOp gAdd (eC (.str "columns ")) (eOp gGet (eV 0) (eC (.str "columns")))) aN))) (eN (nComp [2, 3] (iSq (eOp gGet (eV 0) (eC (.str "rules")))) (gT (gCons' (gN 2) (gCons' (gN 3) gNil'))) tYes' (eOp gAdd (eOp gAdd (eOp gAdd (eC (.str "rule ")) (eOrS (eV 2) (eC (.str "-")))) (eC (.str " "))) (eV 3))))))
  (sRet (eM1 gJoin (eC (.str "\n")) (eV 1))))
def m__law_scheme_text (c : CA) : List D → Res D := fun ds => noErr (runP (b__law_scheme_text c) 3 ds)
theorem ok__law_scheme_text (R : PR P w K mg) : FnG P w K mg base CX0 1 R.f__law_scheme_text R.fd__law_scheme_text ["_law_w"] (spP K 1 (m__law_scheme_text R.c)) :=
  fn_P R.F__law_scheme_text sc__law_scheme_text 3 rfl fun cdv A outer s H E hg hr => (dss_cons (ds_set sc__law_scheme_text.nd rfl (Or.inl rfl) (de_op op_addA opd_add (dn_de (dn_lst (da_cons (de_op op_addA opd_add (de_str ⟨by decide +kernel, by decide +kernel⟩) (de_dget (hu_of hr) (dv 0) (de_str ⟨by decide +kernel, by decide +kernel⟩))) da_nil))) (dn_de (dn_comp (own := [("_law_left", 2), ("_law_right", 3)]) rfl sc__law_scheme_text.nd (di_seq (de_dget (hu_of hr) (dv 0) (de_str ⟨by decide +kernel, by decide +kernel⟩))) (by exact blkOk_by (N := N__law_scheme_text) (sc := defScope s__law_scheme_text) (own := [("_law_left", 2), ("_law_right", 3)]) (by decide +kernel)) (fun _ _ _ _ _ => (dg_tup rfl (dgs_cons (dg_name sc__law_scheme_text.nd rfl (by first | exact Or.inl rfl | exact Or.inr rfl)) (dgs_cons (dg_name sc__law_scheme_text.nd rfl (by first | exact Or.inl rfl | exact Or.inr rfl)) dgs_nil)) 2 rfl (pg_tup rfl (dgs_cons (dg_name sc__law_scheme_text.nd rfl (by first | exact Or.inl rfl | exact Or.inr rfl)) (dgs_cons (dg_name sc__law_scheme_text.nd rfl (by first | exact Or.inl rfl | exact Or.inr rfl)) dgs_nil))) (glen2))) (fun _ _ _ _ _ => dts_nil) (fun _ _ _ _ _ => (de_op op_addA opd_add (de_op op_addA opd_add (de_op op_addA opd_add (de_str ⟨by decide +kernel, by decide +kernel⟩) (de_orS (dv 2) (de_str ⟨by decide +kernel, by decide +kernel⟩))) (de_str ⟨by decide +kernel, by decide +kernel⟩)) (dv 3)))))))
    (dss_one (ds_ret (de_join (de_str ⟨by decide +kernel, by decide +kernel⟩) (dv 1)))))
def b__law_others (c : CA) : SF := (sSeq (sSet 3 (eK 0 1 (m__law_draw c) (aC (eOp gAdd (eCall gLen (aC (eV 2) aN)) (eC (.int 1))) aN)))
  (sSeq (sSet 4 (eN (nLst (aC (eV 2) (aC (eTup aN) (aC (eOp gAdd (eSl gSl (eV 2) oNo (oSo (eV 3))) (eSl gSl (eV 2) (oSo (eOp gAdd (eV 3) (eC (.int 1)))) oNo)) (aC (eUn (gStep (-1)) (eV 2)) (aC (eOp gAdd (eV 2) (eTup (aC (eC (.int 0)) aN))) (aC (eOp gAdd (eTup (aC (eCall gLen (aC (eOp gGet (eV 1) (eC (.str "rules"))) aN)) aN)) (eV 2)) (aC (eN (nCall gList (aC (eV 2) aN))) aN))))))))))
  (sSeq (sSet 4 (eOp gAdd (eV 4) (eN (nLst (aC (eOp gAdd (eOp gAdd (eSl gSl (eV 2) oNo (oSo (eV 3))) (eTup (aC (eC (.bl true)) aN))) (eSl gSl (eV 2) (oSo (eV 3)) oNo)) (aC (eOp gAdd (eV 2) (eTup (aC (eUn gNeg (eC (.int 1))) aN))) (aC (eUn gTupRg (eCall gLen (aC (eOp gGet (eV 1) (eC (.str "rules"))) aN))) aN)))))))
  (sRet (eOp gAdd (eV 4) (eN (nLst (aC (eC .non) (aC (eC (.str "")) (aC (eSl gSl (eV 2) oNo (oSo (eV 3))) aN))))))))))
def m__law_others (c : CA) : Addr → Addr → Dk → List D → Res (D × Dk) := runK (b__law_others c) 2
theorem ok__law_others (R : PR P w K mg) : FnG P w K mg base CX0 2 R.f__law_others R.fd__law_others ["_law_deck_here", "_law_w", "_law_steps"] (spK K 2 (m__law_others R.c)) :=
  fn_K R.F__law_others sc__law_others 2 2 rfl rfl fun cdv A outer s H E hg hr => (dss_cons (ds_set sc__law_others.nd rfl (Or.inl rfl) (de_K (ok__law_draw R) hg (hr.mono (by decide)) (by rfl) R.g__law_draw R.F__law_draw.kp R.b__law_draw passW0 (pv 0) (da_cons (de_op op_addA opd_add (de_callB call_len calld_len (by rfl) R.z_len PySem.boot_len (da_cons (dv 2) da_nil)) de_int) da_nil)))
    (dss_cons (ds_set sc__law_others.nd rfl (Or.inl rfl) (dn_de (dn_lst (da_cons (dv 2) (da_cons (de_tup da_nil) (da_cons (de_op op_addA opd_add (de_slice sl_3 sld_sl (dv 2) do_no (do_so (dv 3))) (de_slice sl_3 sld_sl (dv 2) (do_so (de_op op_addA opd_add (dv 3) de_int)) do_no)) (da_cons (de_rev (dv 2)) (da_cons (de_op op_addA opd_add (dv 2) (de_tup (da_cons de_int da_nil))) (da_cons (de_op op_addA opd_add (de_tup (da_cons (de_callB call_len calld_len (by rfl) R.z_len PySem.boot_len (da_cons (de_dget (hu_of hr) (dv 1) (de_str ⟨by decide +kernel, by decide +kernel⟩)) da_nil)) da_nil)) (dv 2)) (da_cons (dn_de (dn_callTy call_list_of calln_list (by rfl) R.z_list PyProof.Rows.boot_list (da_cons (dv 2) da_nil))) da_nil))))))))))
    (dss_cons (ds_set sc__law_others.nd rfl (Or.inl rfl) (de_op op_addA opd_add (dv 4) (dn_de (dn_lst (da_cons (de_op op_addA opd_add (de_op op_addA opd_add (de_slice sl_3 sld_sl (dv 2) do_no (do_so (dv 3))) (de_tup (da_cons de_bl da_nil))) (de_slice sl_3 sld_sl (dv 2) (do_so (dv 3)) do_no)) (da_cons (de_op op_addA opd_add (dv 2) (de_tup (da_cons (de_un un_neg und_neg de_int) da_nil))) (da_cons (de_tupRg rfl (by rfl) R.z_tuple (by rfl) R.z_range (de_callB call_len calld_len (by rfl) R.z_len PySem.boot_len (da_cons (de_dget (hu_of hr) (dv 1) (de_str ⟨by decide +kernel, by decide +kernel⟩)) da_nil))) da_nil)))))))
    (dss_one (ds_ret (de_op op_addA opd_add (dv 4) (dn_de (dn_lst (da_cons de_non (da_cons (de_str ⟨by decide +kernel, by decide +kernel⟩) (da_cons (de_slice sl_3 sld_sl (dv 2) do_no (do_so (dv 3))) da_nil)))))))))))
def b__law_own (c : CA) : SF := (sSeq (sPar [3, 4] [.n nNil, .n (nCall gListX (aC (eV 2) aN))])
  (sSeq (sFor (iR1 (aC (eOp gAdd (eCall gLen (aC (eOp gGet (eV 1) (eC (.str "rules"))) aN)) (eC (.int 1))) aN)) (gN 5)
  (sFor (iN (aC (eOp gGet (eV 1) (eC (.str "rules"))) aN)) (gT (gCons' (gN 6) (gCons' (gN 7) gNil')))
  (sIf (tAnd' (tOr' (tB (eOp (gInQ true) (eOp gIx (eV 7) (eC (.int 1))) (eV 4))) (tB (eOp gEq (eK 0 1 (m__law_draw c) (aC (eC (.int 3)) aN)) (eC (.int 0))))) (tB (eFL 2 (m__law_is_within c) (aC (eOp gIx (eV 7) (eC (.int 0))) (aC (eV 4) aN))))) (sSeq (sEx (eOM 3 gApp (aC (eV 6) aN)))
  (sEx (eOM 4 gApp (aC (eOp gIx (eV 7) (eC (.int 1))) aN)))) sNx)))
  (sRet (eCall gTuple (aC (eV 3) aN)))))
def m__law_own (c : CA) : Addr → Addr → Dk → List D → Res (D × Dk) := runK (b__law_own c) 5
theorem ok__law_own (R : PR P w K mg) : FnG P w K mg base CX0 2 R.f__law_own R.fd__law_own ["_law_deck_here", "_law_w", "_law_some"] (spK K 2 (m__law_own R.c)) :=
  fn_K R.F__law_own sc__law_own 2 5 rfl rfl fun cdv A outer s H E hg hr => (dss_cons (ds_par2 rfl sc__law_own.nd rfl rfl (by decide) rfl rfl (dws_n dn_nil (dws_n (dn_callTy (call_listX rfl) calln_listX (by rfl) R.z_list PyProof.Rows.boot_list (da_cons (dv 2) da_nil)) dws_nil)) rfl)
    (dss_cons (ds_for PassesOwn.never rfl (di_range1 (by rfl) R.z_range (da_cons (de_op op_addA opd_add (de_callB call_len calld_len (by rfl) R.z_len PySem.boot_len (da_cons (de_dget (hu_of hr) (dv 1) (de_str ⟨by decide +kernel, by decide +kernel⟩)) da_nil)) de_int) da_nil)) (dg_name sc__law_own.nd rfl (by first | exact Or.inl rfl | exact Or.inr rfl)) (dss_one (ds_for PassesOwn.never rfl (di_enum (by rfl) R.z_enumerate (da_cons (de_dget (hu_of hr) (dv 1) (de_str ⟨by decide +kernel, by decide +kernel⟩)) da_nil)) (dg_tup rfl (dgs_cons (dg_name sc__law_own.nd rfl (by first | exact Or.inl rfl | exact Or.inr rfl)) (dgs_cons (dg_name sc__law_own.nd rfl (by first | exact Or.inl rfl | exact Or.inr rfl)) dgs_nil)) 2 rfl (pg_tup rfl (dgs_cons (dg_name sc__law_own.nd rfl (by first | exact Or.inl rfl | exact Or.inr rfl)) (dgs_cons (dg_name sc__law_own.nd rfl (by first | exact Or.inl rfl | exact Or.inr rfl)) dgs_nil))) (glen2)) (dss_one (ds_if (dt_w (dw_and (dt_w (dw_or (dt_cmp (op_notinq hr.units) opd_in (de_ix ix_seq opd_ix (dv 7) de_int (by intro _ _; rfl)) (dv 4) (by rfl)) (dw_one (dt_cmp (op_eqq hr.units) opd_eq (de_K (ok__law_draw R) hg (hr.mono (by decide)) (by rfl) R.g__law_draw R.F__law_draw.kp R.b__law_draw passW0 (pv 0) (da_cons de_int da_nil)) de_int (nomark _))))) (dw_one (dt_val (de_FL (ok__law_is_within R) hg (hr.mono (by decide)) (by rfl) R.g__law_is_within R.F__law_is_within.kp R.b__law_is_within passW0 (da_cons (de_ix ix_seq opd_ix (dv 7) de_int (by intro _ _; rfl)) (da_cons (dv 4) da_nil))))))) (dss_cons (ds_expr (de_om PySem.F.slot_list_append PySem.F.type_list_append mt_append own_app (pv 3) (da_cons (dv 6) da_nil)))
    (dss_one (ds_expr (de_om PySem.F.slot_list_append PySem.F.type_list_append mt_append own_app (pv 4) (da_cons (de_ix ix_seq opd_ix (dv 7) de_int (by intro _ _; rfl)) da_nil))))) dss_nil)))))
    (dss_one (ds_ret (de_callTy call_tuple_of calld_tuple (by rfl) R.z_tuple PyProof.Rows.boot_tuple (da_cons (dv 3) da_nil))))))
def b__law_is_derivation (c : CA) : SF := (sSeq (sIf (tOr' (tNt (tB (eIs (fun n => kitB n "tuple") (fun _ => none) (eV 3)))) (tB (eOp gNe (eN (nComp [4] (iSq (eV 3)) (gN 4) (tOr' (tNt (tB (eIs (fun n => kitB n "int") (fun _ => none) (eV 4)))) (tB (eIs (fun n => kitB n "bool") (fun _ => none) (eV 4)))) (eV 4))) (eN nNil)))) (sRet (eC (.bl false))) sNx)
  (sSeq (sSetN 5 (nCall gListX (aC (eV 1) aN)))
  (sSeq (sFor (iSq (eV 3)) (gN 4)
  (sSeq (sIf (tOr' (tNt (tB (eCh gLe gLt (eC (.int 0)) (eV 4) (eCall gLen (aC (eOp gGet (eV 0) (eC (.str "rules"))) aN))))) (tNt (tB (eFL 2 (m__law_is_within c) (aC (eOp gIx (eOp gIx (eOp gGet (eV 0) (eC (.str "rules"))) (eV 4)) (eC (.int 0))) (aC (eV 5) aN)))))) (sRet (eC (.bl false))) sNx)
  (sEx (eOM 5 gApp (aC (eOp gIx (eOp gIx (eOp gGet (eV 0) (eC (.str "rules"))) (eV 4)) (eC (.int 1))) aN)))))
  (sRet (eOp (gInQ false) (eV 2) (eV 5))))))
def m__law_is_derivation (c : CA) : List D → Res D := fun ds => noErr (runP (b__law_is_derivation c) 2 ds)
theorem ok__law_is_derivation (R : PR P w K mg) : FnG P w K mg base CX0 2 R.f__law_is_derivation R.fd__law_is_derivation ["_law_w", "_law_some", "_law_x", "_law_it"] (spP K 4 (m__law_is_derivation R.c)) :=
  fn_P R.F__law_is_derivation sc__law_is_derivation 2 rfl fun cdv A outer s H E hg hr => (dss_cons (ds_if (dt_w (dw_or (dt_not (dt_val (de_is (ClsV.ty "tuple") (fun _ _ h => kit_ty h) (fun _ _ h => nomatch h) (by rfl) R.z_isinstance (dv 3) (pe_bltn (by rfl) R.z_tuple PyProof.Rows.boot_tuple rfl)))) (dw_one (dt_cmp (op_neq hr.units) opd_ne (dn_de (dn_comp (own := [("_law_k", 4)]) rfl sc__law_is_derivation.nd (di_seq (dv 3)) (by exact blkOk_by (N := N__law_is_derivation) (sc := defScope s__law_is_derivation) (own := [("_law_k", 4)]) (by decide +kernel)) (fun _ _ _ _ _ => (dg_name sc__law_is_derivation.nd rfl (by first | exact Or.inl rfl | exact Or.inr rfl))) (fun _ _ _ _ _ => (dts_one (dt_w (dw_or (dt_not (dt_val (de_is (ClsV.ty "int") (fun _ _ h => kit_ty h) (fun _ _ h => nomatch h) (by rfl) R.z_isinstance (dv 4) (pe_bltn (by rfl) R.z_int PyProof.Rows.boot_int rfl)))) (dw_one (dt_val (de_is (ClsV.ty "bool") (fun _ _ h => kit_ty h) (fun _ _ h => nomatch h) (by rfl) R.z_isinstance (dv 4) (pe_bltn (by rfl) R.z_bool PyProof.Rows.boot_bool rfl)))))))) (fun _ _ _ _ _ => (dv 4)))) (dn_de dn_nil) (nomark _))))) (dss_one (ds_ret de_bl)) dss_nil)
    (dss_cons (ds_setN sc__law_is_derivation.nd rfl (Or.inl rfl) (dn_callTy (call_listX rfl) calln_listX (by rfl) R.z_list PyProof.Rows.boot_list (da_cons (dv 1) da_nil)))
    (dss_cons (ds_for PassesOwn.never rfl (di_seq (dv 3)) (dg_name sc__law_is_derivation.nd rfl (by first | exact Or.inl rfl | exact Or.inr rfl)) (dss_cons (ds_if (dt_w (dw_or (dt_not (dt_chain op_le opd_le (op_ltt hr.units) opd_lt de_int (dv 4) (de_callB call_len calld_len (by rfl) R.z_len PySem.boot_len (da_cons (de_dget (hu_of hr) (dv 0) (de_str ⟨by decide +kernel, by decide +kernel⟩)) da_nil)))) (dw_one (dt_not (dt_val (de_FL (ok__law_is_within R) hg (hr.mono (by decide)) (by rfl) R.g__law_is_within R.F__law_is_within.kp R.b__law_is_within passW0 (da_cons (de_ix ix_seq opd_ix (de_ix ix_seq opd_ix (de_dget (hu_of hr) (dv 0) (de_str ⟨by decide +kernel, by decide +kernel⟩)) (dv 4) (by intro _ _; rfl)) de_int (by intro _ _; rfl)) (da_cons (dv 5) da_nil)))))))) (dss_one (ds_ret de_bl)) dss_nil)
    (dss_one (ds_expr (de_om PySem.F.slot_list_append PySem.F.type_list_append mt_append own_app (pv 5) (da_cons (de_ix ix_seq opd_ix (de_ix ix_seq opd_ix (de_dget (hu_of hr) (dv 0) (de_str ⟨by decide +kernel, by decide +kernel⟩)) (dv 4) (by intro _ _; rfl)) de_int (by intro _ _; rfl)) da_nil))))))
    (dss_one (ds_ret (de_cmp (op_inq hr.units) opd_in (dv 2) (dv 5) (by rfl)))))))
def b_is_columns (c : CA) : SF := (sSeq (sIf (tOr' (tNt (tB (eIs (fun n => kitB n "str") (fun _ => none) (eV 0)))) (tNt (tB (eCall gAll (aC (eN (nComp [1] (iSq (eV 0)) (gN 1) tYes' (eOp (gInQ false) (eV 1) (eC (.str "abcdefghijklmnopqrstuvwxyz"))))) aN))))) (sRet (eC (.bl false))) sNx)
  (sRet (eCall gAll (aC (eN (nComp [2, 3] (iZ (aC (eSl gSl (eV 0) oNo (oSo (eUn gNeg (eC (.int 1))))) (aC (eSl gSl (eV 0) (oSo (eC (.int 1))) oNo) aN))) (gT (gCons' (gN 2) (gCons' (gN 3) gNil'))) tYes' (eOp gLt (eV 2) (eV 3)))) aN))))
def m_is_columns (c : CA) : List D → Res D := fun ds => noErr (runP (b_is_columns c) 3 ds)
theorem ok_is_columns (R : PR P w K mg) : FnG P w K mg base CX0 1 R.f_is_columns R.fd_is_columns ["thing"] (spP K 1 (m_is_columns R.c)) :=
  fn_P R.F_is_columns sc_is_columns 3 rfl fun cdv A outer s H E hg hr => (dss_cons (ds_if (dt_w (dw_or (dt_not (dt_val (de_is (ClsV.ty "str") (fun _ _ h => kit_ty h) (fun _ _ h => nomatch h) (by rfl) R.z_isinstance (dv 0) (pe_bltn (by rfl) R.z_str PyProof.Rows.boot_str rfl)))) (dw_one (dt_not (dt_val (de_callB (cr_all rfl) calld_all (by rfl) R.z_all PyProof.Rows.boot_all (da_cons (dn_de (dn_comp (own := [("letter", 1)]) rfl sc_is_columns.nd (di_seq (dv 0)) (by exact blkOk_by (N := N_is_columns) (sc := defScope s_is_columns) (own := [("letter", 1)]) (by decide +kernel)) (fun _ _ _ _ _ => (dg_name sc_is_columns.nd rfl (by first | exact Or.inl rfl | exact Or.inr rfl))) (fun _ _ _ _ _ => dts_nil) (fun _ _ _ _ _ => (de_cmp (op_inq hr.units) opd_in (dv 1) (de_gs (by rfl) R.g_LETTERS ⟨by decide +kernel, by decide +kernel⟩) (by rfl))))) da_nil))))))) (dss_one (ds_ret de_bl)) dss_nil)
    (dss_one (ds_ret (de_callB (cr_all rfl) calld_all (by rfl) R.z_all PyProof.Rows.boot_all (da_cons (dn_de (dn_comp (own := [("one", 2), ("other", 3)]) rfl sc_is_columns.nd (di_zip (by rfl) R.z_zip (da_cons (de_slice sl_3 sld_sl (dv 0) do_no (do_so (de_un un_neg und_neg de_int))) (da_cons (de_slice sl_3 sld_sl (dv 0) (do_so de_int) do_no) da_nil))) (by exact blkOk_by (N := N_is_columns) (sc := defScope s_is_columns) (own := [("one", 2), ("other", 3)]) (by decide +kernel)) (fun _ _ _ _ _ => (dg_tup rfl (dgs_cons (dg_name sc_is_columns.nd rfl (by first | exact Or.inl rfl | exact Or.inr rfl)) (dgs_cons (dg_name sc_is_columns.nd rfl (by first | exact Or.inl rfl | exact Or.inr rfl)) dgs_nil)) 2 rfl (pg_tup rfl (dgs_cons (dg_name sc_is_columns.nd rfl (by first | exact Or.inl rfl | exact Or.inr rfl)) (dgs_cons (dg_name sc_is_columns.nd rfl (by first | exact Or.inl rfl | exact Or.inr rfl)) dgs_nil))) (glen2))) (fun _ _ _ _ _ => dts_nil) (fun _ _ _ _ _ => (de_cmp (op_ltt hr.units) opd_lt (dv 2) (dv 3) (nomark _))))) da_nil)))))
def b_columns_in (c : CA) : SF := (sSeq (sIf (tB (eOp gEq (eV 0) (eC (.str "-")))) (sRet (eC (.str ""))) sNx)
  (sRet (eIf (tAnd' (tB (eOp gNe (eV 0) (eC (.str "")))) (tB (eF 1 (m_is_columns c) (aC (eV 0) aN)))) (eV 0) (eC .non))))
def m_columns_in (c : CA) : List D → Res D := fun ds => noErr (runP (b_columns_in c) 0 ds)
theorem ok_columns_in (R : PR P w K mg) : FnG P w K mg base CX0 2 R.f_columns_in R.fd_columns_in ["word"] (spP K 1 (m_columns_in R.c)) :=
  fn_P R.F_columns_in sc_columns_in 0 rfl fun cdv A outer s H E hg hr => (dss_cons (ds_if (dt_cmp (op_eqq hr.units) opd_eq (dv 0) (de_gs (by rfl) R.g_NONE ⟨by decide +kernel, by decide +kernel⟩) (nomark _)) (dss_one (ds_ret (de_str ⟨by decide +kernel, by decide +kernel⟩))) dss_nil)
    (dss_one (ds_ret (de_ifx (dt_w (dw_and (dt_cmp (op_neq hr.units) opd_ne (dv 0) (de_str ⟨by decide +kernel, by decide +kernel⟩) (nomark _)) (dw_one (dt_val (de_F (ok_is_columns R) hg (hr.mono (by decide)) (by rfl) R.g_is_columns R.F_is_columns.kp R.b_is_columns passW0 (da_cons (dv 0) da_nil)))))) (dv 0) de_non))))
def b_head_in (c : CA) : SF := (sSeq (sSet 1 (eN (nM1 gSplit (eV 0) (eC (.str " ")))))
  (sSeq (sIf (tOr' (tB (eOp gNe (eCall gLen (aC (eV 1) aN)) (eC (.int 2)))) (tOr' (tB (eOp gNe (eOp gIx (eV 1) (eC (.int 0))) (eC (.str "columns")))) (tB (eOp gEq (eOp gIx (eV 1) (eC (.int 1))) (eC (.str "-")))))) (sRet (eC .non)) sNx)
  (sRet (eF 1 (m_columns_in c) (aC (eOp gIx (eV 1) (eC (.int 1))) aN)))))
def m_head_in (c : CA) : List D → Res D := fun ds => noErr (runP (b_head_in c) 1 ds)
theorem ok_head_in (R : PR P w K mg) : FnG P w K mg base CX0 3 R.f_head_in R.fd_head_in ["line"] (spP K 1 (m_head_in R.c)) :=
  fn_P R.F_head_in sc_head_in 1 rfl fun cdv A outer s H E hg hr => (dss_cons (ds_set sc_head_in.nd rfl (Or.inl rfl) (dn_de (dn_split (dv 0) (de_gs (by rfl) R.g_BLANK ⟨by decide +kernel, by decide +kernel⟩))))
    (dss_cons (ds_if (dt_w (dw_or (dt_cmp (op_neq hr.units) opd_ne (de_callB call_len calld_len (by rfl) R.z_len PySem.boot_len (da_cons (dv 1) da_nil)) (de_gi (by rfl) R.g_RULE_PARTS) (nomark _)) (dw_or (dt_cmp (op_neq hr.units) opd_ne (de_ix ix_seq opd_ix (dv 1) de_int (by intro _ _; rfl)) (de_gs (by rfl) R.g_COLUMNS_WORD ⟨by decide +kernel, by decide +kernel⟩) (nomark _)) (dw_one (dt_cmp (op_eqq hr.units) opd_eq (de_ix ix_seq opd_ix (dv 1) de_int (by intro _ _; rfl)) (de_gs (by rfl) R.g_NONE ⟨by decide +kernel, by decide +kernel⟩) (nomark _)))))) (dss_one (ds_ret de_non)) dss_nil)
    (dss_one (ds_ret (de_F (ok_columns_in R) hg (hr.mono (by decide)) (by rfl) R.g_columns_in R.F_columns_in.kp R.b_columns_in passW0 (da_cons (de_ix ix_seq opd_ix (dv 1) de_int (by intro _ _; rfl)) da_nil))))))
def b_are_within (c : CA) : SF := (sRet (vAnd (eF 1 (m_is_columns c) (aC (eV 0) aN)) (eCall gAll (aC (eN (nComp [2] (iSq (eV 0)) (gN 2) tYes' (eOp (gInQ false) (eV 2) (eV 1)))) aN))))
def m_are_within (c : CA) : List D → Res D := fun ds => noErr (runP (b_are_within c) 1 ds)
theorem ok_are_within (R : PR P w K mg) : FnG P w K mg base CX0 2 R.f_are_within R.fd_are_within ["thing", "columns"] (spP K 2 (m_are_within R.c)) :=
  fn_P R.F_are_within sc_are_within 1 rfl fun cdv A outer s H E hg hr => (dss_one (ds_ret (de_and (de_F (ok_is_columns R) hg (hr.mono (by decide)) (by rfl) R.g_is_columns R.F_is_columns.kp R.b_is_columns passW0 (da_cons (dv 0) da_nil)) (de_one (de_callB (cr_all rfl) calld_all (by rfl) R.z_all PyProof.Rows.boot_all (da_cons (dn_de (dn_comp (own := [("letter", 2)]) rfl sc_are_within.nd (di_seq (dv 0)) (by exact blkOk_by (N := N_are_within) (sc := defScope s_are_within) (own := [("letter", 2)]) (by decide +kernel)) (fun _ _ _ _ _ => (dg_name sc_are_within.nd rfl (by first | exact Or.inl rfl | exact Or.inr rfl))) (fun _ _ _ _ _ => dts_nil) (fun _ _ _ _ _ => (de_cmp (op_inq hr.units) opd_in (dv 2) (dv 1) (by rfl))))) da_nil))))))
def b_is_rule (c : CA) : SF := (sSeq (sIf (tOr' (tNt (tB (eIs (fun n => kitB n "tuple") (fun _ => none) (eV 1)))) (tOr' (tB (eOp gNe (eCall gLen (aC (eV 1) aN)) (eC (.int 2)))) (tNt (tB (eF 2 (m_are_within c) (aC (eOp gIx (eV 1) (eC (.int 0))) (aC (eV 0) aN))))))) (sRet (eC (.bl false))) sNx)
  (sRet (vAnd (eF 2 (m_are_within c) (aC (eOp gIx (eV 1) (eC (.int 1))) (aC (eV 0) aN))) (vAnd (eOp gEq (eCall gLen (aC (eOp gIx (eV 1) (eC (.int 1))) aN)) (eC (.int 1))) (eOp (gInQ true) (eOp gIx (eV 1) (eC (.int 1))) (eOp gIx (eV 1) (eC (.int 0))))))))
def m_is_rule (c : CA) : List D → Res D := fun ds => noErr (runP (b_is_rule c) 0 ds)
theorem ok_is_rule (R : PR P w K mg) : FnG P w K mg base CX0 3 R.f_is_rule R.fd_is_rule ["columns", "thing"] (spP K 2 (m_is_rule R.c)) :=
  fn_P R.F_is_rule sc_is_rule 0 rfl fun cdv A outer s H E hg hr => (dss_cons (ds_if (dt_w (dw_or (dt_not (dt_val (de_is (ClsV.ty "tuple") (fun _ _ h => kit_ty h) (fun _ _ h => nomatch h) (by rfl) R.z_isinstance (dv 1) (pe_bltn (by rfl) R.z_tuple PyProof.Rows.boot_tuple rfl)))) (dw_or (dt_cmp (op_neq hr.units) opd_ne (de_callB call_len calld_len (by rfl) R.z_len PySem.boot_len (da_cons (dv 1) da_nil)) (de_gi (by rfl) R.g_RULE_PARTS) (nomark _)) (dw_one (dt_not (dt_val (de_F (ok_are_within R) hg (hr.mono (by decide)) (by rfl) R.g_are_within R.F_are_within.kp R.b_are_within passW0 (da_cons (de_ix ix_seq opd_ix (dv 1) de_int (by intro _ _; rfl)) (da_cons (dv 0) da_nil))))))))) (dss_one (ds_ret de_bl)) dss_nil)
    (dss_one (ds_ret (de_and (de_F (ok_are_within R) hg (hr.mono (by decide)) (by rfl) R.g_are_within R.F_are_within.kp R.b_are_within passW0 (da_cons (de_ix ix_seq opd_ix (dv 1) de_int (by intro _ _; rfl)) (da_cons (dv 0) da_nil))) (de_and (de_cmp (op_eqq hr.units) opd_eq (de_callB call_len calld_len (by rfl) R.z_len PySem.boot_len (da_cons (de_ix ix_seq opd_ix (dv 1) de_int (by intro _ _; rfl)) da_nil)) de_int (nomark _)) (de_one (de_cmp (op_notinq hr.units) opd_in (de_ix ix_seq opd_ix (dv 1) de_int (by intro _ _; rfl)) (de_ix ix_seq opd_ix (dv 1) de_int (by intro _ _; rfl)) (by rfl))))))))
def b_Scheme___init__ (c : CA) : SF := (sSeq (sIf (tOr' (tNt (tB (eF 1 (m_is_columns c) (aC (eV 1) aN)))) (tB (eOp gEq (eV 1) (eC (.str ""))))) sNever sNx)
  (sSeq (sIf (tNt (tB (eIs (fun n => kitB n "tuple") (fun _ => none) (eV 2)))) sNever sNx)
  (sSeq (sFor (iSq (eV 2)) (gN 3)
  (sIf (tNt (tB (eF 2 (m_is_rule c) (aC (eV 1) (aC (eV 3) aN))))) sNever sNx))
  (sSeq (sIf (tNt (tB (eCall gAll (aC (eN (nComp [4, 5] (iZ (aC (eSl gSl (eV 2) oNo (oSo (eUn gNeg (eC (.int 1))))) (aC (eSl gSl (eV 2) (oSo (eC (.int 1))) oNo) aN))) (gT (gCons' (gN 4) (gCons' (gN 5) gNil'))) tYes' (eOp gLt (eV 4) (eV 5)))) aN)))) sNever sNx)
  (sSeq (sFldD 0 c.Scheme "columns" (eV 1))
  (sFldD 0 c.Scheme "rules" (eV 2)))))))
def i_Scheme (_ : CA) : List D → Res (List (Str × D)) := iSch
theorem m_is_columns_str (c : CA) (l : List Nat) : m_is_columns c [dS l] = .ok (.bl (colsB l)) := by
  have h1 : ∀ a : Nat, gInQ false (dC a) (D.str (Str.ofString "abcdefghijklmnopqrstuvwxyz")) = some (.bl (isLetter a)) := fun a => gIn_one false a letters
  unfold m_is_columns
  apply runP_ok
  unfold b_is_columns colsB
  cases hl : l.all isLetter <;>
  simp [eV, nos, List.replicate, compL_res, h1, hl, ascB_zip ltN, -List.all_eq_true, -List.all_eq_false]
theorem m_are_within_str (c : CA) (a b : List Nat) : m_are_within c [dS a, dS b] = .ok (.bl (withinB a b)) := by
  have h0 := m_is_columns_str c a
  unfold m_are_within
  apply runP_ok
  unfold b_are_within withinB
  cases hl : colsB a <;>
  simp [eV, nos, List.replicate, compL_res, h0, hl, -List.all_eq_true, -List.all_eq_false]
theorem m_is_rule_r (c : CA) (cols : List Nat) (r : List Nat × Nat) : m_is_rule c [dS cols, dR r] = .ok (.bl (ruleB cols r)) := by
  have h0 := m_are_within_str c r.1 cols
  have h1 : m_are_within c [dC r.2, dS cols] = _ := m_are_within_str c [r.2] cols
  unfold m_is_rule
  apply runP_ok
  unfold b_is_rule ruleB
  cases hl : withinB r.1 cols <;> cases hr : withinB [r.2] cols <;>
    simp [eV, nos, List.replicate, h0, h1, hl, hr, -List.all_eq_true, -List.all_eq_false]
theorem init_run (c : CA) (a : Addr) {cols : List Nat} {l : List Rule} (h : schemeB cols l = true) : noErr (outI a c.Scheme (b_Scheme___init__ c (.slf a (.obj c.Scheme []) :: [dS cols, .tup (l.map dR)].map .dat ++ nos 3))) = .ok (fSch cols l) := by
  unfold schemeB at h
  simp only [Bool.and_eq_true] at h
  obtain ⟨⟨⟨h1, h2⟩, h3⟩, h4⟩ := h
  have e1 := m_is_columns_str c cols
  rw [h1] at e1
  have hne : cols ≠ [] := by cases cols <;> simp_all
  have h3 := List.all_eq_true.mp h3
  have lp : Ok (forL (gN 3) (sIf (tNt (tB (eF 2 (m_is_rule c) (aC (eV 1) (aC (eV 3) aN))))) sNever sNx) (l.map dR) [.slf a (.obj c.Scheme []), .dat (dS cols), .dat (.tup (l.map dR)), .no, .no, .no]) fun p => p.1 = .nx ∧ ∃ y, p.2 = [.slf a (.obj c.Scheme []), .dat (dS cols), .dat (.tup (l.map dR)), y, .no, .no] := by
    refine forL_all dR (fun E => ∃ y, E = [.slf a (.obj c.Scheme []), .dat (dS cols), .dat (.tup (l.map dR)), y, .no, .no]) l ⟨_, rfl⟩ ?_ fun E h => ⟨rfl, h⟩
    rintro r hr _ ⟨y, rfl⟩
    refine ⟨_, rfl, ?_⟩
    have h0 := m_is_rule_r c cols r
    rw [h3 r hr] at h0
    simp [eV, h0]
  obtain ⟨⟨fl, E⟩, e3, hf, y, hE⟩ := lp
  dsimp only at hf hE
  subst hf hE
  unfold b_Scheme___init__
  simp [eV, nos, List.replicate, e1, hne, e3, compL_res, ascB_zip ruleLt, h4, slfAt, setF, outI, slfO, col_ne_rul, fSch, -List.all_eq_true, -List.all_eq_false]
theorem r_Sch (c : CA) : RunI0 (b_Scheme___init__ c) 3 c.Scheme iSch := by
  intro a ds
  cases h : iSch ds with
  | ok fs =>
    obtain ⟨cols, l, rfl, hb, rfl⟩ := iSch_ok h
    exact init_run c a hb
  | err x E => exact iSch_err h
  | stuck => trivial
theorem r_Scheme (c : CA) : RunI0 (b_Scheme___init__ c) 3 c.Scheme (i_Scheme c) := r_Sch c

theorem ok_Scheme___init__ (R : PR P w K mg) : FnG P w K mg base CX0 4 R.f_Scheme___init__ R.fd_Scheme___init__ ["self", "columns", "rules"] (spI K 2 R.c.Scheme (i_Scheme R.c)) :=
  fn_I0 R.F_Scheme___init__ sc_Scheme___init__ 2 3 rfl rfl (r_Scheme R.c) fun cdv A outer s H E hg hr => (dss_cons (ds_if (dt_w (dw_or (dt_not (dt_val (de_F (ok_is_columns R) hg (hr.mono (by decide)) (by rfl) R.g_is_columns R.F_is_columns.kp R.b_is_columns passW0 (da_cons (dv 1) da_nil)))) (dw_one (dt_cmp (op_eqq hr.units) opd_eq (dv 1) (de_str ⟨by decide +kernel, by decide +kernel⟩) (nomark _))))) (dss_one ds_never) dss_nil)
    (dss_cons (ds_if (dt_not (dt_val (de_is (ClsV.ty "tuple") (fun _ _ h => kit_ty h) (fun _ _ h => nomatch h) (by rfl) R.z_isinstance (dv 2) (pe_bltn (by rfl) R.z_tuple PyProof.Rows.boot_tuple rfl)))) (dss_one ds_never) dss_nil)
    (dss_cons (ds_for PassesOwn.never rfl (di_seq (dv 2)) (dg_name sc_Scheme___init__.nd rfl (by first | exact Or.inl rfl | exact Or.inr rfl)) (dss_one (ds_if (dt_not (dt_val (de_F (ok_is_rule R) hg (hr.mono (by decide)) (by rfl) R.g_is_rule R.F_is_rule.kp R.b_is_rule passW0 (da_cons (dv 1) (da_cons (dv 3) da_nil))))) (dss_one ds_never) dss_nil)))
    (dss_cons (ds_if (dt_not (dt_val (de_callB (cr_all rfl) calld_all (by rfl) R.z_all PyProof.Rows.boot_all (da_cons (dn_de (dn_comp (own := [("one", 4), ("other", 5)]) rfl sc_Scheme___init__.nd (di_zip (by rfl) R.z_zip (da_cons (de_slice sl_3 sld_sl (dv 2) do_no (do_so (de_un un_neg und_neg de_int))) (da_cons (de_slice sl_3 sld_sl (dv 2) (do_so de_int) do_no) da_nil))) (by exact blkOk_by (N := N_Scheme___init__) (sc := defScope s_Scheme___init__) (own := [("one", 4), ("other", 5)]) (by decide +kernel)) (fun _ _ _ _ _ => (dg_tup rfl (dgs_cons (dg_name sc_Scheme___init__.nd rfl (by first | exact Or.inl rfl | exact Or.inr rfl)) (dgs_cons (dg_name sc_Scheme___init__.nd rfl (by first | exact Or.inl rfl | exact Or.inr rfl)) dgs_nil)) 2 rfl (pg_tup rfl (dgs_cons (dg_name sc_Scheme___init__.nd rfl (by first | exact Or.inl rfl | exact Or.inr rfl)) (dgs_cons (dg_name sc_Scheme___init__.nd rfl (by first | exact Or.inl rfl | exact Or.inr rfl)) dgs_nil))) (glen2))) (fun _ _ _ _ _ => dts_nil) (fun _ _ _ _ _ => (de_cmp (op_ltt hr.units) opd_lt (dv 4) (dv 5) (nomark _))))) da_nil)))) (dss_one ds_never) dss_nil)
    (dss_cons (ds_fld R.cl_Scheme R.n_Scheme_columns (pv 0) (dv 1))
    (dss_one (ds_fld R.cl_Scheme R.n_Scheme_rules (pv 0) (dv 2))))))))
def b_rule_in (c : CA) : SF := (sSeq (sSet 2 (eN (nM1 gSplit (eV 1) (eC (.str " ")))))
  (sSeq (sIf (tOr' (tB (eOp gNe (eCall gLen (aC (eV 2) aN)) (eC (.int 3)))) (tB (eOp gNe (eOp gIx (eV 2) (eC (.int 0))) (eC (.str "rule"))))) (sRet (eC .non)) sNx)
  (sSeq (sSet 3 (eF 1 (m_columns_in c) (aC (eOp gIx (eV 2) (eC (.int 1))) aN)))
  (sSeq (sSet 4 (eTup (aC (eV 3) (aC (eOp gIx (eV 2) (eC (.int 2))) aN))))
  (sRet (eIf (tAnd' (tB (eOp (gIsN true) (eV 3) (eC .non))) (tB (eF 2 (m_is_rule c) (aC (eV 0) (aC (eV 4) aN))))) (eV 4) (eC .non)))))))
def m_rule_in (c : CA) : List D → Res D := fun ds => noErr (runP (b_rule_in c) 3 ds)
theorem ok_rule_in (R : PR P w K mg) : FnG P w K mg base CX0 4 R.f_rule_in R.fd_rule_in ["columns", "line"] (spP K 2 (m_rule_in R.c)) :=
  fn_P R.F_rule_in sc_rule_in 3 rfl fun cdv A outer s H E hg hr => (dss_cons (ds_set sc_rule_in.nd rfl (Or.inl rfl) (dn_de (dn_split (dv 1) (de_gs (by rfl) R.g_BLANK ⟨by decide +kernel, by decide +kernel⟩))))
    (dss_cons (ds_if (dt_w (dw_or (dt_cmp (op_neq hr.units) opd_ne (de_callB call_len calld_len (by rfl) R.z_len PySem.boot_len (da_cons (dv 2) da_nil)) (de_gi (by rfl) R.g_RULE_WORDS) (nomark _)) (dw_one (dt_cmp (op_neq hr.units) opd_ne (de_ix ix_seq opd_ix (dv 2) de_int (by intro _ _; rfl)) (de_gs (by rfl) R.g_RULE_WORD ⟨by decide +kernel, by decide +kernel⟩) (nomark _))))) (dss_one (ds_ret de_non)) dss_nil)
    (dss_cons (ds_set sc_rule_in.nd rfl (Or.inl rfl) (de_F (ok_columns_in R) hg (hr.mono (by decide)) (by rfl) R.g_columns_in R.F_columns_in.kp R.b_columns_in passW0 (da_cons (de_ix ix_seq opd_ix (dv 2) de_int (by intro _ _; rfl)) da_nil)))
    (dss_cons (ds_set sc_rule_in.nd rfl (Or.inl rfl) (de_tup (da_cons (dv 3) (da_cons (de_ix ix_seq opd_ix (dv 2) de_int (by intro _ _; rfl)) da_nil))))
    (dss_one (ds_ret (de_ifx (dt_w (dw_and (dt_cmp op_notN opd_notN (dv 3) de_non (nomark _)) (dw_one (dt_val (de_F (ok_is_rule R) hg (hr.mono (by decide)) (by rfl) R.g_is_rule R.F_is_rule.kp R.b_is_rule passW0 (da_cons (dv 0) (da_cons (dv 4) da_nil))))))) (dv 4) de_non)))))))
def b_rules_in (c : CA) : SF := (sSeq (sSetN 2 nNil)
  (sSeq (sFor (iNk 1 (aC (eV 1) aN)) (gT (gCons' (gN 3) (gCons' (gN 4) gNil')))
  (sSeq (sSet 5 (eF 2 (m_rule_in c) (aC (eV 0) (aC (eV 4) aN))))
  (sSeq (sIf (tOr' (tB (eOp (gIsN false) (eV 5) (eC .non))) (tAnd' (tB (eOp gNe (eV 2) (eN nNil))) (tNt (tB (eOp gLt (eOp gIx (eV 2) (eUn gNeg (eC (.int 1)))) (eV 5)))))) (sRaise1 c.BadText "place" (aC (eV 3) aN)) sNx)
  (sEx (eOM 2 gApp (aC (eV 5) aN))))))
  (sRet (eCall gTuple (aC (eV 2) aN)))))
def m_rules_in (c : CA) : List D → Res D := fun ds => runP (b_rules_in c) 4 ds
theorem ok_rules_in (R : PR P w K mg) : FnG P w K mg base (L2.CX P w) 5 R.f_rules_in R.fd_rules_in ["columns", "lines"] (spP K 2 (m_rules_in R.c)) :=
  fn_PX R.F_rules_in sc_rules_in 4 rfl fun cdv A outer s H E hg hr tk => (dss_cons (ds_setN sc_rules_in.nd rfl (Or.inl rfl) dn_nil)
    (dss_cons (ds_for (passes_of rfl) rfl (di_enumK (by decide) (by decide) (by rfl) R.z_enumerate (da_cons (dv 1) da_nil)) (dg_tup rfl (dgs_cons (dg_name sc_rules_in.nd rfl (by first | exact Or.inl rfl | exact Or.inr rfl)) (dgs_cons (dg_name sc_rules_in.nd rfl (by first | exact Or.inl rfl | exact Or.inr rfl)) dgs_nil)) 2 rfl (pg_tup rfl (dgs_cons (dg_name sc_rules_in.nd rfl (by first | exact Or.inl rfl | exact Or.inr rfl)) (dgs_cons (dg_name sc_rules_in.nd rfl (by first | exact Or.inl rfl | exact Or.inr rfl)) dgs_nil))) (glen2)) (dss_cons (ds_set sc_rules_in.nd rfl (Or.inl rfl) (de_F (ok_rule_in R) hg (hr.mono (by decide)) (by rfl) R.g_rule_in R.F_rule_in.kp R.b_rule_in passW0 (da_cons (dv 0) (da_cons (dv 4) da_nil))))
    (dss_cons (ds_if (dt_w (dw_or (dt_cmp op_isN opd_isN (dv 5) de_non (nomark _)) (dw_one (dt_w (dw_and (dt_cmp (op_neq hr.units) opd_ne (dv 2) (dn_de dn_nil) (nomark _)) (dw_one (dt_not (dt_cmp (op_ltt hr.units) opd_lt (de_ix ix_seq opd_ix (dv 2) (de_un un_neg und_neg de_int) (by intro _ _; rfl)) (dv 5) (nomark _))))))))) (dss_one (ds_raise1 rfl tk R.ex_BadText (R.xf_BadText).choose_spec xt_BadText R.n_BadText_place (hr.mono (by decide)) (by rfl) R.c_BadText (da_cons (dv 3) da_nil))) dss_nil)
    (dss_one (ds_expr (de_om PySem.F.slot_list_append PySem.F.type_list_append mt_append own_app (pv 2) (da_cons (dv 5) da_nil)))))))
    (dss_one (ds_ret (de_callTy call_tuple_of calld_tuple (by rfl) R.z_tuple PyProof.Rows.boot_tuple (da_cons (dv 2) da_nil))))))
def b_Scheme_read (c : CA) : SF := (sSeq (sIf (tNt (tB (eIs (fun n => kitB n "str") (fun _ => none) (eV 1)))) (sRaise1 c.BadText "place" (aC (eUn gNeg (eC (.int 1))) aN)) sNx)
  (sSeq (sSet 2 (eN (nM1 gSplit (eV 1) (eC (.str "\n")))))
  (sSeq (sSet 3 (eF 1 (m_head_in c) (aC (eOp gIx (eV 2) (eC (.int 0))) aN)))
  (sSeq (sIf (tB (eOp (gIsN false) (eV 3) (eC .non))) (sRaise1 c.BadText "place" (aC (eC (.int 0)) aN)) sNx)
  (sRet (eN (nMkC 0 c.Scheme 2 (i_Scheme c) (aC (eV 3) (aC (eF 2 (m_rules_in c) (aC (eV 3) (aC (eSl gSl (eV 2) (oSo (eC (.int 1))) oNo) aN))) aN)))))))))
def m_Scheme_read (c : CA) : List D → Res D := fun ds => runC (b_Scheme_read c) 2 c.Scheme ds
theorem ok_Scheme_read (R : PR P w K mg) : FnG P w K mg base (L2.CX P w) 6 R.f_Scheme_read R.fd_Scheme_read ["cls", "text"] (spC K R.c.Scheme 1 (m_Scheme_read R.c)) :=
  fn_CX R.F_Scheme_read sc_Scheme_read 1 2 rfl rfl fun cdv A outer s H E hg hr tk => (dss_cons (ds_if (dt_not (dt_val (de_is (ClsV.ty "str") (fun _ _ h => kit_ty h) (fun _ _ h => nomatch h) (by rfl) R.z_isinstance (dv 1) (pe_bltn (by rfl) R.z_str PyProof.Rows.boot_str rfl)))) (dss_one (ds_raise1 rfl tk R.ex_BadText (R.xf_BadText).choose_spec xt_BadText R.n_BadText_place (hr.mono (by decide)) (by rfl) R.c_BadText (da_cons (de_un un_neg und_neg de_int) da_nil))) dss_nil)
    (dss_cons (ds_set sc_Scheme_read.nd rfl (Or.inl rfl) (dn_de (dn_split (dv 1) (de_gs (by rfl) R.g_BREAK ⟨by decide +kernel, by decide +kernel⟩))))
    (dss_cons (ds_set sc_Scheme_read.nd rfl (Or.inl rfl) (de_F (ok_head_in R) hg (hr.mono (by decide)) (by rfl) R.g_head_in R.F_head_in.kp R.b_head_in passW0 (da_cons (de_ix ix_seq opd_ix (dv 2) de_int (by intro _ _; rfl)) da_nil)))
    (dss_cons (ds_if (dt_cmp op_isN opd_isN (dv 3) de_non (nomark _)) (dss_one (ds_raise1 rfl tk R.ex_BadText (R.xf_BadText).choose_spec xt_BadText R.n_BadText_place (hr.mono (by decide)) (by rfl) R.c_BadText (da_cons de_int da_nil))) dss_nil)
    (dss_one (ds_ret (dn_de (dn_mkC (i := 0) R.mk_Scheme (ok_Scheme___init__ R) hg (hr.mono (by decide)) rfl (Or.inl rfl) R.b_Scheme___init__ passW0 (da_cons (dv 3) (da_cons (de_F (ok_rules_in R) hg (hr.mono (by decide)) (by rfl) R.g_rules_in R.F_rules_in.kp R.b_rules_in (passT tk) (da_cons (dv 3) (da_cons (de_slice sl_3 sld_sl (dv 2) (do_so de_int) do_no) da_nil))) da_nil))))))))))
def b_scheme_in (c : CA) : SF := (sSeq (sSet 1 (eC .non))
  (sSeq (sTry (sSet 1 (eF 1 (m_Scheme_read c) (aC (eV 0) aN))) [⟨[c.BadText], [], none, (suPl (sSet 1 (eC .non)))⟩])
  (sRet (eV 1))))
def m_scheme_in (c : CA) : List D → Res D := fun ds => noErr (runP (b_scheme_in c) 1 ds)
theorem ok_scheme_in (R : PR P w K mg) : FnG P w K mg base CX0 7 R.f_scheme_in R.fd_scheme_in ["text"] (spP K 1 (m_scheme_in R.c)) :=
  fn_P R.F_scheme_in sc_scheme_in 1 rfl fun cdv A outer s H E hg hr => (dss_cons (ds_set sc_scheme_in.nd rfl (Or.inl rfl) de_non)
    (dss_cons (ds_try rfl rfl sc_scheme_in.nd takes_none5 (fun _ _ _ t0 ht0 => (dss_one (ds_set sc_scheme_in.nd rfl (Or.inl rfl) (de_CM R.cr_Scheme (R.cm_Scheme_read).choose_spec (ok_Scheme_read R) hg (hr.mono (by decide)) (by rfl) R.c_Scheme R.b_Scheme_read (passT t0) (da_cons (dv 0) da_nil)))))
    (.bare ⟨by rfl, by decide, .inl R.c_BadText⟩ (all_cons (exm_own R.ex_BadText R.sb_BadText_BadText) all_nil) all_nil (su_plain fun _ _ _ => (dss_one (ds_set sc_scheme_in.nd rfl (Or.inl rfl) de_non))) .nil))
    (dss_one (ds_ret (dv 1)))))
def b_is_integer (c : CA) : SF := (sRet (vAnd (eIs (fun n => kitB n "int") (fun _ => none) (eV 0)) (vNot (eIs (fun n => kitB n "bool") (fun _ => none) (eV 0)))))
def m_is_integer (c : CA) : List D → Res D := fun ds => noErr (runP (b_is_integer c) 0 ds)
theorem ok_is_integer (R : PR P w K mg) : FnG P w K mg base CX0 1 R.f_is_integer R.fd_is_integer ["thing"] (spP K 1 (m_is_integer R.c)) :=
  fn_P R.F_is_integer sc_is_integer 0 rfl fun cdv A outer s H E hg hr => (dss_one (ds_ret (de_and (de_is (ClsV.ty "int") (fun _ _ h => kit_ty h) (fun _ _ h => nomatch h) (by rfl) R.z_isinstance (dv 0) (pe_bltn (by rfl) R.z_int PyProof.Rows.boot_int rfl)) (de_one (de_not (de_is (ClsV.ty "bool") (fun _ _ h => kit_ty h) (fun _ _ h => nomatch h) (by rfl) R.z_isinstance (dv 0) (pe_bltn (by rfl) R.z_bool PyProof.Rows.boot_bool rfl)))))))
def b_derivation_holds (c : CA) : SF := (sSeq (sIf (tNt (tB (eIs (fun n => kitB n "tuple") (fun _ => none) (eV 3)))) (sRet (eC (.bl false))) sNx)
  (sSeq (sSet 4 (eV 1))
  (sSeq (sFor (iSq (eV 3)) (gN 5)
  (sSeq (sIf (tOr' (tNt (tB (eF 1 (m_is_integer c) (aC (eV 5) aN)))) (tNt (tB (eCh gLe gLt (eC (.int 0)) (eV 5) (eCall gLen (aC (eFld c.Scheme "rules" (eV 0)) aN)))))) (sRet (eC (.bl false))) sNx)
  (sSeq (sAsg (gT (gCons' (gN 6) (gCons' (gN 7) gNil'))) (eOp gIx (eFld c.Scheme "rules" (eV 0)) (eV 5)))
  (sSeq (sIf (tNt (tB (eCall gAll (aC (eN (nComp [8] (iSq (eV 6)) (gN 8) tYes' (eOp (gInQ false) (eV 8) (eV 4)))) aN)))) (sRet (eC (.bl false))) sNx)
  (sSet 4 (eOp gAdd (eV 4) (eV 7)))))))
  (sRet (eOp (gInQ false) (eV 2) (eV 4))))))
def m_derivation_holds (c : CA) : List D → Res D := fun ds => noErr (runP (b_derivation_holds c) 5 ds)
theorem ok_derivation_holds (R : PR P w K mg) : FnG P w K mg base CX0 2 R.f_derivation_holds R.fd_derivation_holds ["scheme", "columns", "column", "thing"] (spP K 4 (m_derivation_holds R.c)) :=
  fn_P R.F_derivation_holds sc_derivation_holds 5 rfl fun cdv A outer s H E hg hr => (dss_cons (ds_if (dt_not (dt_val (de_is (ClsV.ty "tuple") (fun _ _ h => kit_ty h) (fun _ _ h => nomatch h) (by rfl) R.z_isinstance (dv 3) (pe_bltn (by rfl) R.z_tuple PyProof.Rows.boot_tuple rfl)))) (dss_one (ds_ret de_bl)) dss_nil)
    (dss_cons (ds_set sc_derivation_holds.nd rfl (Or.inr rfl) (dv 1))
    (dss_cons (ds_for PassesOwn.never rfl (di_seq (dv 3)) (dg_name sc_derivation_holds.nd rfl (by first | exact Or.inl rfl | exact Or.inr rfl)) (dss_cons (ds_if (dt_w (dw_or (dt_not (dt_val (de_F (ok_is_integer R) hg (hr.mono (by decide)) (by rfl) R.g_is_integer R.F_is_integer.kp R.b_is_integer passW0 (da_cons (dv 5) da_nil)))) (dw_one (dt_not (dt_chain op_le opd_le (op_ltt hr.units) opd_lt de_int (dv 5) (de_callB call_len calld_len (by rfl) R.z_len PySem.boot_len (da_cons (de_fld (dv 0) R.cl_Scheme R.n_Scheme_rules) da_nil))))))) (dss_one (ds_ret de_bl)) dss_nil)
    (dss_cons (ds_asg (de_ix ix_seq opd_ix (de_fld (dv 0) R.cl_Scheme R.n_Scheme_rules) (dv 5) (by intro _ _; rfl)) (dg_tup rfl (dgs_cons (dg_name sc_derivation_holds.nd rfl (by first | exact Or.inl rfl | exact Or.inr rfl)) (dgs_cons (dg_name sc_derivation_holds.nd rfl (by first | exact Or.inl rfl | exact Or.inr rfl)) dgs_nil)) 2 rfl (pg_tup rfl (dgs_cons (dg_name sc_derivation_holds.nd rfl (by first | exact Or.inl rfl | exact Or.inr rfl)) (dgs_cons (dg_name sc_derivation_holds.nd rfl (by first | exact Or.inl rfl | exact Or.inr rfl)) dgs_nil))) (glen2)))
    (dss_cons (ds_if (dt_not (dt_val (de_callB (cr_all rfl) calld_all (by rfl) R.z_all PyProof.Rows.boot_all (da_cons (dn_de (dn_comp (own := [("letter", 8)]) rfl sc_derivation_holds.nd (di_seq (dv 6)) (by exact blkOk_by (N := N_derivation_holds) (sc := defScope s_derivation_holds) (own := [("letter", 8)]) (by decide +kernel)) (fun _ _ _ _ _ => (dg_name sc_derivation_holds.nd rfl (by first | exact Or.inl rfl | exact Or.inr rfl))) (fun _ _ _ _ _ => dts_nil) (fun _ _ _ _ _ => (de_cmp (op_inq hr.units) opd_in (dv 8) (dv 4) (by rfl))))) da_nil)))) (dss_one (ds_ret de_bl)) dss_nil)
    (dss_one (ds_set sc_derivation_holds.nd rfl (Or.inr rfl) (de_op op_addA opd_add (dv 4) (dv 7))))))))
    (dss_one (ds_ret (de_cmp (op_inq hr.units) opd_in (dv 2) (dv 4) (by rfl)))))))
def b_settles_so (c : CA) : SF := (sSeq (sSet 4 (eF 1 (m_scheme_in c) (aC (eV 0) aN)))
  (sSeq (sIf (tOr' (tB (eOp (gIsN false) (eV 4) (eC .non))) (tOr' (tNt (tB (eF 2 (m_are_within c) (aC (eV 1) (aC (eFld c.Scheme "columns" (eV 4)) aN))))) (tNt (tB (eF 2 (m_are_within c) (aC (eV 2) (aC (eFld c.Scheme "columns" (eV 4)) aN))))))) (sRet (eC (.bl false))) sNx)
  (sRet (vAnd (eOp gEq (eCall gLen (aC (eV 2) aN)) (eC (.int 1))) (eF 4 (m_derivation_holds c) (aC (eV 4) (aC (eV 1) (aC (eV 2) (aC (eV 3) aN)))))))))
def m_settles_so (c : CA) : List D → Res D := fun ds => noErr (runP (b_settles_so c) 1 ds)
theorem ok_settles_so (R : PR P w K mg) : FnG P w K mg base CX0 8 R.f_settles_so R.fd_settles_so ["text", "columns", "column", "thing"] (spP K 4 (m_settles_so R.c)) :=
  fn_P R.F_settles_so sc_settles_so 1 rfl fun cdv A outer s H E hg hr => (dss_cons (ds_set sc_settles_so.nd rfl (Or.inl rfl) (de_F (ok_scheme_in R) hg (hr.mono (by decide)) (by rfl) R.g_scheme_in R.F_scheme_in.kp R.b_scheme_in passW0 (da_cons (dv 0) da_nil)))
    (dss_cons (ds_if (dt_w (dw_or (dt_cmp op_isN opd_isN (dv 4) de_non (nomark _)) (dw_or (dt_not (dt_val (de_F (ok_are_within R) hg (hr.mono (by decide)) (by rfl) R.g_are_within R.F_are_within.kp R.b_are_within passW0 (da_cons (dv 1) (da_cons (de_fld (dv 4) R.cl_Scheme R.n_Scheme_columns) da_nil))))) (dw_one (dt_not (dt_val (de_F (ok_are_within R) hg (hr.mono (by decide)) (by rfl) R.g_are_within R.F_are_within.kp R.b_are_within passW0 (da_cons (dv 2) (da_cons (de_fld (dv 4) R.cl_Scheme R.n_Scheme_columns) da_nil))))))))) (dss_one (ds_ret de_bl)) dss_nil)
    (dss_one (ds_ret (de_and (de_cmp (op_eqq hr.units) opd_eq (de_callB call_len calld_len (by rfl) R.z_len PySem.boot_len (da_cons (dv 2) da_nil)) de_int (nomark _)) (de_one (de_F (ok_derivation_holds R) hg (hr.mono (by decide)) (by rfl) R.g_derivation_holds R.F_derivation_holds.kp R.b_derivation_holds passW0 (da_cons (dv 4) (da_cons (dv 1) (da_cons (dv 2) (da_cons (dv 3) da_nil)))))))))))
def b_finding_holds (c : CA) : SF := (sSeq (sIf (tOr' (tNt (tB (eIs (fun n => kitB n "tuple") (fun _ => none) (eV 0)))) (tOr' (tB (eOp gEq (eV 0) (eTup aN))) (tNt (tB (eIs (fun n => kitB n "str") (fun _ => none) (eOp gIx (eV 0) (eC (.int 0)))))))) (sRet (eC (.bl false))) sNx)
  (sSeq (sSet 1 (eOp gIx (eV 0) (eC (.int 0))))
  (sSeq (sIf (tOr' (tB (eUn (gTabIn true [("settles", 5)]) (eV 1))) (tB (eOp gNe (eCall gLen (aC (eV 0) aN)) (eUn (gTabAt [("settles", 5)]) (eV 1))))) (sRet (eC (.bl false))) sNx)
  (sSeq (sIf (tB (eOp gEq (eV 1) (eC (.str "settles")))) (sRet (eF 4 (m_settles_so c) (aC (eOp gIx (eV 0) (eC (.int 1))) (aC (eOp gIx (eV 0) (eC (.int 2))) (aC (eOp gIx (eV 0) (eC (.int 3))) (aC (eOp gIx (eV 0) (eC (.int 4))) aN)))))) sNx)
  (sSeq sNever
  sNever)))))
def m_finding_holds (c : CA) : List D → Res D := fun ds => noErr (runP (b_finding_holds c) 2 ds)
theorem ok_finding_holds (R : PR P w K mg) : FnG P w K mg base CX0 9 R.f_finding_holds R.fd_finding_holds ["thing"] (spP K 1 (m_finding_holds R.c)) :=
  fn_P R.F_finding_holds sc_finding_holds 2 rfl fun cdv A outer s H E hg hr => (dss_cons (ds_if (dt_w (dw_or (dt_not (dt_val (de_is (ClsV.ty "tuple") (fun _ _ h => kit_ty h) (fun _ _ h => nomatch h) (by rfl) R.z_isinstance (dv 0) (pe_bltn (by rfl) R.z_tuple PyProof.Rows.boot_tuple rfl)))) (dw_or (dt_cmp (op_eqq hr.units) opd_eq (dv 0) (de_tup da_nil) (nomark _)) (dw_one (dt_not (dt_val (de_is (ClsV.ty "str") (fun _ _ h => kit_ty h) (fun _ _ h => nomatch h) (by rfl) R.z_isinstance (de_ix ix_seq opd_ix (dv 0) de_int (by intro _ _; rfl)) (pe_bltn (by rfl) R.z_str PyProof.Rows.boot_str rfl)))))))) (dss_one (ds_ret de_bl)) dss_nil)
    (dss_cons (ds_set sc_finding_holds.nd rfl (Or.inl rfl) (de_ix ix_seq opd_ix (dv 0) de_int (by intro _ _; rfl)))
    (dss_cons (ds_if (dt_w (dw_or (dt_tabNot R.d_SIZES (by rfl) (dv 1)) (dw_one (dt_cmp (op_neq hr.units) opd_ne (de_callB call_len calld_len (by rfl) R.z_len PySem.boot_len (da_cons (dv 0) da_nil)) (de_tabAt R.d_SIZES (by rfl) (dv 1) (by intro _ _; rfl)) (nomark _))))) (dss_one (ds_ret de_bl)) dss_nil)
    (dss_cons (ds_if (dt_cmp (op_eqq hr.units) opd_eq (dv 1) (de_gs (by rfl) R.g_SETTLES ⟨by decide +kernel, by decide +kernel⟩) (nomark _)) (dss_one (ds_ret (de_F (ok_settles_so R) hg (hr.mono (by decide)) (by rfl) R.g_settles_so R.F_settles_so.kp R.b_settles_so passW0 (da_cons (de_ix ix_seq opd_ix (dv 0) de_int (by intro _ _; rfl)) (da_cons (de_ix ix_seq opd_ix (dv 0) de_int (by intro _ _; rfl)) (da_cons (de_ix ix_seq opd_ix (dv 0) de_int (by intro _ _; rfl)) (da_cons (de_ix ix_seq opd_ix (dv 0) de_int (by intro _ _; rfl)) da_nil))))))) dss_nil)
    (dss_cons ds_never
    (dss_one ds_never))))))
def b__law_text (c : CA) : SF := (sRet (eOp gAdd (eOp gAdd (eOp gAdd (eOp gAdd (eF 1 (m__law_scheme_text c) (aC (eV 0) aN)) (eC (.str "\nwindow "))) (eOrS (eOp gGet (eV 0) (eC (.str "window"))) (eC (.str "-")))) (eC (.str "\nrest "))) (eOrS (eOp gGet (eV 0) (eC (.str "rest"))) (eC (.str "-")))))
def m__law_text (c : CA) : List D → Res D := fun ds => noErr (runP (b__law_text c) 0 ds)
theorem ok__law_text (R : PR P w K mg) : FnG P w K mg base CX0 2 R.f__law_text R.fd__law_text ["_law_w"] (spP K 1 (m__law_text R.c)) :=
  fn_P R.F__law_text sc__law_text 0 rfl fun cdv A outer s H E hg hr => (dss_one (ds_ret (de_op op_addA opd_add (de_op op_addA opd_add (de_op op_addA opd_add (de_op op_addA opd_add (de_F (ok__law_scheme_text R) hg (hr.mono (by decide)) (by rfl) R.g__law_scheme_text R.F__law_scheme_text.kp R.b__law_scheme_text passW0 (da_cons (dv 0) da_nil)) (de_str ⟨by decide +kernel, by decide +kernel⟩)) (de_orS (de_dget (hu_of hr) (dv 0) (de_str ⟨by decide +kernel, by decide +kernel⟩)) (de_str ⟨by decide +kernel, by decide +kernel⟩))) (de_str ⟨by decide +kernel, by decide +kernel⟩)) (de_orS (de_dget (hu_of hr) (dv 0) (de_str ⟨by decide +kernel, by decide +kernel⟩)) (de_str ⟨by decide +kernel, by decide +kernel⟩)))))
def b_law (c : CA) : SF := (sSeq (sFor (iR1 (aC (eC (.int 5)) aN)) (gN 2)
  (sSeq (sSet 3 (eK 1 2 (m__law_frame c) (aC (eC (.int 6)) (aC (eC (.int 2)) aN))))
  (sSeq (sPar [4, 5] [.e (eF 1 (m__law_scheme_text c) (aC (eV 3) aN)), .e (eM1 gJoin (eC (.str "")) (eN (nComp [6] (iSq (eOp gGet (eV 3) (eC (.str "columns")))) (gN 6) (tB (eOp gEq (eK 1 1 (m__law_draw c) (aC (eC (.int 3)) aN)) (eC (.int 0)))) (eV 6))))])
  (sSeq (sFor (iN (aC (eK 1 2 (m__law_others c) (aC (eV 3) (aC (eK 1 2 (m__law_own c) (aC (eV 3) (aC (eV 5) aN))) aN))) aN)) (gT (gCons' (gN 7) (gCons' (gN 8) gNil')))
  (sFor (iSq (eOp gGet (eV 3) (eC (.str "columns")))) (gN 6)
  (sSeq (sPar [9, 10] [.e (eTup (aC (eC (.str "settles")) (aC (eV 4) (aC (eV 5) (aC (eV 6) (aC (eV 8) aN)))))), .e (eF 4 (m__law_is_derivation c) (aC (eV 3) (aC (eV 5) (aC (eV 6) (aC (eV 8) aN)))))])
  (sIf (tB (eOp gNe (eCall gRepr (aC (eIf (tB (eOp gEq (eOp gMod (eV 7) (eC (.int 2))) (eC (.int 0)))) (eF 1 (m_finding_holds c) (aC (eV 9) aN)) (eFK 0 1 [0] 1 (m_finding_holds c) aN (aC (eV 9) aN))) aN)) (eCall gRepr (aC (eV 10) aN)))) (sRet (eC (.bl false))) sNx))))
  (sSeq (sSet 11 (eOp gIx (eOp gGet (eV 3) (eC (.str "columns"))) (eC (.int 0))))
  (sSeq (sSetN 12 (nLst (aC (eTup (aC (eC (.str "settles")) (aC (eV 4) (aC (eOp gAdd (eV 5) (eC (.str "A"))) (aC (eV 11) (aC (eTup aN) aN)))))) (aC (eTup (aC (eC (.str "settles")) (aC (eV 4) (aC (eV 5) (aC (eC (.str "")) (aC (eTup aN) aN)))))) aN))))
  (sSeq (sSetN 12 (nOp gAddL (eV 12) (eN (nLst (aC (eTup (aC (eC (.str "settles")) (aC (eV 4) (aC (eC (.int 0)) (aC (eV 11) (aC (eTup aN) aN)))))) (aC (eTup (aC (eC (.str "settles")) (aC (eF 1 (m__law_text c) (aC (eV 3) aN)) (aC (eOp gGet (eV 3) (eC (.str "columns"))) (aC (eV 11) (aC (eTup aN) aN)))))) aN))))))
  (sSeq (sSetN 12 (nOp gAddL (eV 12) (eN (nLst (aC (eTup (aC (eC (.str "settles")) (aC (eV 4) (aC (eV 5) (aC (eC .non) (aC (eTup aN) aN)))))) (aC (eTup (aC (eC (.str "settles")) (aC (eV 4) (aC (eUn (gStep (-1)) (eOp gGet (eV 3) (eC (.str "columns")))) (aC (eV 11) (aC (eTup aN) aN)))))) aN))))))
  (sSeq (sEx (eOM 12 gApp (aC (eTup (aC (eC (.str "settles")) (aC (eOp gAdd (eV 4) (eC (.str "\n"))) (aC (eOp gGet (eV 3) (eC (.str "columns"))) (aC (eV 11) (aC (eTup aN) aN)))))) aN)))
  (sIf (tB (eOp gNe (eN (nComp [8] (iSq (eVf 12)) (gN 8) (tB (eOp (gIsB true) (eF 1 (m_finding_holds c) (aC (eV 8) aN)) (eC (.bl false)))) (eV 8))) (eN nNil))) (sRet (eC (.bl false))) sNx))))))))))
  (sRet (eC (.bl true))))
def spLaw (K : PySem.W.Frag) : Sp := fun vs H Q _ => ∃ (a : Addr) (ns : List Int), vs = [.ref a] ∧ SqL K H a (ns.map V.int) ∧ ns.length ≤ 63 ∧ ∀ H', Q (.bl true) H'
theorem ok_law (R : PR P w K mg) (hm : ∀ (p q : Addr) (l : List Int) (b : Int), l.length ≤ 63 → ∃ E, b_law R.c (.no :: .deck p q l b :: nos 11) = .ok (.rt (.bl true), E)) : FnG P w K mg base CX0 10 R.f_law R.fd_law ["_law_script"] (spLaw K) := by
  refine FnG.body R.F_law sc_law (fun vs H Q E h => by obtain ⟨a, ns, rfl, _⟩ := h; rfl) fun cdv A outer s H vs Q E hg hr hsp => ?_
  obtain ⟨a, ns, rfl, hS, hl, z⟩ := hsp
  refine ⟨_, PSs.nox (pss_cons (ps_set (i := 1) sc_law.nd rfl (Or.inr rfl) (pe_F (ok__law_deck R) hg (hr.mono (by decide)) (by rfl) R.g__law_deck R.F__law_deck.kp R.b__law_deck (passW0 (Wi := W0)) (pa_cons (pv 0) pa_nil)))
   (show DSs _ W0 _ (b_law R.c) from (dss_cons (ds_for PassesOwn.never rfl (di_range1 (by rfl) R.z_range (da_cons de_int da_nil)) (dg_name sc_law.nd rfl (by first | exact Or.inl rfl | exact Or.inr rfl)) (dss_cons (ds_set sc_law.nd rfl (Or.inl rfl) (de_K (ok__law_frame R) hg (hr.mono (by decide)) (by rfl) R.g__law_frame R.F__law_frame.kp R.b__law_frame passW0 (pv 1) (da_cons de_int (da_cons de_int da_nil))))
    (dss_cons (ds_par2 rfl sc_law.nd rfl rfl (by decide) rfl rfl (dws_e (de_F (ok__law_scheme_text R) hg (hr.mono (by decide)) (by rfl) R.g__law_scheme_text R.F__law_scheme_text.kp R.b__law_scheme_text passW0 (da_cons (dv 3) da_nil)) (dws_e (de_join (de_str ⟨by decide +kernel, by decide +kernel⟩) (dn_de (dn_comp (own := [("_law_x", 6)]) rfl sc_law.nd (di_seq (de_dget (hu_of hr) (dv 3) (de_str ⟨by decide +kernel, by decide +kernel⟩))) (by exact blkOk_by (N := N_law) (sc := defScope s_law) (own := [("_law_x", 6)]) (by decide +kernel)) (fun _ _ _ _ _ => (dg_name sc_law.nd rfl (by first | exact Or.inl rfl | exact Or.inr rfl))) (fun _ _ _ _ _ => (dts_one (dt_cmp (op_eqq hr.units) opd_eq (de_K (ok__law_draw R) hg (hr.mono (by decide)) (by rfl) R.g__law_draw R.F__law_draw.kp R.b__law_draw passW0 (pv 1) (da_cons de_int da_nil)) de_int (nomark _)))) (fun _ _ _ _ _ => (dv 6))))) dws_nil)) rfl)
    (dss_cons (ds_for PassesOwn.never rfl (di_enum (by rfl) R.z_enumerate (da_cons (de_K (ok__law_others R) hg (hr.mono (by decide)) (by rfl) R.g__law_others R.F__law_others.kp R.b__law_others passW0 (pv 1) (da_cons (dv 3) (da_cons (de_K (ok__law_own R) hg (hr.mono (by decide)) (by rfl) R.g__law_own R.F__law_own.kp R.b__law_own passW0 (pv 1) (da_cons (dv 3) (da_cons (dv 5) da_nil))) da_nil))) da_nil)) (dg_tup rfl (dgs_cons (dg_name sc_law.nd rfl (by first | exact Or.inl rfl | exact Or.inr rfl)) (dgs_cons (dg_name sc_law.nd rfl (by first | exact Or.inl rfl | exact Or.inr rfl)) dgs_nil)) 2 rfl (pg_tup rfl (dgs_cons (dg_name sc_law.nd rfl (by first | exact Or.inl rfl | exact Or.inr rfl)) (dgs_cons (dg_name sc_law.nd rfl (by first | exact Or.inl rfl | exact Or.inr rfl)) dgs_nil))) (glen2)) (dss_one (ds_for PassesOwn.never rfl (di_seq (de_dget (hu_of hr) (dv 3) (de_str ⟨by decide +kernel, by decide +kernel⟩))) (dg_name sc_law.nd rfl (by first | exact Or.inl rfl | exact Or.inr rfl)) (dss_cons (ds_par2 rfl sc_law.nd rfl rfl (by decide) rfl rfl (dws_e (de_tup (da_cons (de_str ⟨by decide +kernel, by decide +kernel⟩) (da_cons (dv 4) (da_cons (dv 5) (da_cons (dv 6) (da_cons (dv 8) da_nil)))))) (dws_e (de_F (ok__law_is_derivation R) hg (hr.mono (by decide)) (by rfl) R.g__law_is_derivation R.F__law_is_derivation.kp R.b__law_is_derivation passW0 (da_cons (dv 3) (da_cons (dv 5) (da_cons (dv 6) (da_cons (dv 8) da_nil))))) dws_nil)) rfl)
    (dss_one (ds_if (dt_cmp (op_neq hr.units) opd_ne (de_callB (call_reprD hr.units hg) calld_repr (by rfl) R.z_repr PyProof.Rows.boot_repr (da_cons (de_ifx (dt_cmp (op_eqq hr.units) opd_eq (de_op op_mod opd_mod (dv 7) de_int) de_int (nomark _)) (de_F (ok_finding_holds R) hg (hr.mono (by decide)) (by rfl) R.g_finding_holds R.F_finding_holds.kp R.b_finding_holds passW0 (da_cons (dv 9) da_nil)) (de_FK0 (ok_finding_holds R) hg (hr.mono (by decide)) (by rfl) R.g_finding_holds R.F_finding_holds.kp R.kw_finding_holds_0_thing passW0 (dk_cons (dv 9) dk_nil))) da_nil)) (de_callB (call_reprD hr.units hg) calld_repr (by rfl) R.z_repr PyProof.Rows.boot_repr (da_cons (dv 10) da_nil)) (nomark _)) (dss_one (ds_ret de_bl)) dss_nil))))))
    (dss_cons (ds_set sc_law.nd rfl (Or.inl rfl) (de_ix ix_seq opd_ix (de_dget (hu_of hr) (dv 3) (de_str ⟨by decide +kernel, by decide +kernel⟩)) de_int (by intro _ _; rfl)))
    (dss_cons (ds_setN sc_law.nd rfl (Or.inl rfl) (dn_lst (da_cons (de_tup (da_cons (de_str ⟨by decide +kernel, by decide +kernel⟩) (da_cons (dv 4) (da_cons (de_op op_addA opd_add (dv 5) (de_str ⟨by decide +kernel, by decide +kernel⟩)) (da_cons (dv 11) (da_cons (de_tup da_nil) da_nil)))))) (da_cons (de_tup (da_cons (de_str ⟨by decide +kernel, by decide +kernel⟩) (da_cons (dv 4) (da_cons (dv 5) (da_cons (de_str ⟨by decide +kernel, by decide +kernel⟩) (da_cons (de_tup da_nil) da_nil)))))) da_nil))))
    (dss_cons (ds_setN sc_law.nd rfl (Or.inl rfl) (dn_op op_addA opn_addL (dv 12) (dn_de (dn_lst (da_cons (de_tup (da_cons (de_str ⟨by decide +kernel, by decide +kernel⟩) (da_cons (dv 4) (da_cons de_int (da_cons (dv 11) (da_cons (de_tup da_nil) da_nil)))))) (da_cons (de_tup (da_cons (de_str ⟨by decide +kernel, by decide +kernel⟩) (da_cons (de_F (ok__law_text R) hg (hr.mono (by decide)) (by rfl) R.g__law_text R.F__law_text.kp R.b__law_text passW0 (da_cons (dv 3) da_nil)) (da_cons (de_dget (hu_of hr) (dv 3) (de_str ⟨by decide +kernel, by decide +kernel⟩)) (da_cons (dv 11) (da_cons (de_tup da_nil) da_nil)))))) da_nil))))))
    (dss_cons (ds_setN sc_law.nd rfl (Or.inl rfl) (dn_op op_addA opn_addL (dv 12) (dn_de (dn_lst (da_cons (de_tup (da_cons (de_str ⟨by decide +kernel, by decide +kernel⟩) (da_cons (dv 4) (da_cons (dv 5) (da_cons de_non (da_cons (de_tup da_nil) da_nil)))))) (da_cons (de_tup (da_cons (de_str ⟨by decide +kernel, by decide +kernel⟩) (da_cons (dv 4) (da_cons (de_rev (de_dget (hu_of hr) (dv 3) (de_str ⟨by decide +kernel, by decide +kernel⟩))) (da_cons (dv 11) (da_cons (de_tup da_nil) da_nil)))))) da_nil))))))
    (dss_cons (ds_expr (de_om PySem.F.slot_list_append PySem.F.type_list_append mt_append own_app (pv 12) (da_cons (de_tup (da_cons (de_str ⟨by decide +kernel, by decide +kernel⟩) (da_cons (de_op op_addA opd_add (dv 4) (de_str ⟨by decide +kernel, by decide +kernel⟩)) (da_cons (de_dget (hu_of hr) (dv 3) (de_str ⟨by decide +kernel, by decide +kernel⟩)) (da_cons (dv 11) (da_cons (de_tup da_nil) da_nil)))))) da_nil)))
    (dss_one (ds_if (dt_cmp (op_neq hr.units) opd_ne (dn_de (dn_comp (own := [("_law_it", 8)]) rfl sc_law.nd (di_seq (dvf 12)) (by exact blkOk_by (N := N_law) (sc := defScope s_law) (own := [("_law_it", 8)]) (by decide +kernel)) (fun _ _ _ _ _ => (dg_name sc_law.nd rfl (by first | exact Or.inl rfl | exact Or.inr rfl))) (fun _ _ _ _ _ => (dts_one (dt_cmp op_notBl opd_notB (de_F (ok_finding_holds R) hg (hr.mono (by decide)) (by rfl) R.g_finding_holds R.F_finding_holds.kp R.b_finding_holds passW0 (da_cons (dv 8) da_nil)) de_bl (nomark _)))) (fun _ _ _ _ _ => (dv 8)))) (dn_de dn_nil) (nomark _)) (dss_one (ds_ret de_bl)) dss_nil)))))))))))
    (dss_one (ds_ret de_bl))))), ?_⟩
  exact law_read (n := 11) rfl hm hS hl z
theorem kw_finding_holds_0_thing {f : Addr} {fd : FuncData} (F : Fun K "finding_holds" "finding_holds" s_finding_holds f fd) : KW fd ["thing"] 0 ["thing"] [0] := by
  obtain ⟨oc, od, kV, doc, pm, an, cdv, ct, osl, rfl, lk, hcd⟩ := F.ex
  exact ⟨fun us ws h1 h2 => match us, ws, h1, h2 with | [], [_], _, _ => rfl⟩
theorem all_mk {l : PySem.W.OpenLaw} {h : Heap} {fa : Addr} (X : K.In h) (G : h.Ns mainGlobals mg) (hfa : mg "law" = some (.ref fa)) {C_BadText : Addr} {C_Scheme : Addr} {f__law_draw : Addr} {oc__law_draw : Value} {od__law_draw : Option Addr} {kV__law_draw dc__law_draw pm__law_draw cd__law_draw ct__law_draw : Value} {an__law_draw : Option Addr} {sl__law_draw : Array (Option Value)} {f__law_deck : Addr} {oc__law_deck : Value} {od__law_deck : Option Addr} {kV__law_deck dc__law_deck pm__law_deck cd__law_deck ct__law_deck : Value} {an__law_deck : Option Addr} {sl__law_deck : Array (Option Value)} {f__law_pick : Addr} {oc__law_pick : Value} {od__law_pick : Option Addr} {kV__law_pick dc__law_pick pm__law_pick cd__law_pick ct__law_pick : Value} {an__law_pick : Option Addr} {sl__law_pick : Array (Option Value)} {f__law_closure : Addr} {oc__law_closure : Value} {od__law_closure : Option Addr} {kV__law_closure dc__law_closure pm__law_closure cd__law_closure ct__law_closure : Value} {an__law_closure : Option Addr} {sl__law_closure : Array (Option Value)} {f__law_is_within : Addr} {oc__law_is_within : Value} {od__law_is_within : Option Addr} {kV__law_is_within dc__law_is_within pm__law_is_within cd__law_is_within ct__law_is_within : Value} {an__law_is_within : Option Addr} {sl__law_is_within : Array (Option Value)} {f__law_frame : Addr} {oc__law_frame : Value} {od__law_frame : Option Addr} {kV__law_frame dc__law_frame pm__law_frame cd__law_frame ct__law_frame : Value} {an__law_frame : Option Addr} {sl__law_frame : Array (Option Value)} {f__law_scheme_text : Addr} {oc__law_scheme_text : Value} {od__law_scheme_text : Option Addr} {kV__law_scheme_text dc__law_scheme_text pm__law_scheme_text cd__law_scheme_text ct__law_scheme_text : Value} {an__law_scheme_text : Option Addr} {sl__law_scheme_text : Array (Option Value)} {f__law_others : Addr} {oc__law_others : Value} {od__law_others : Option Addr} {kV__law_others dc__law_others pm__law_others cd__law_others ct__law_others : Value} {an__law_others : Option Addr} {sl__law_others : Array (Option Value)} {f__law_own : Addr} {oc__law_own : Value} {od__law_own : Option Addr} {kV__law_own dc__law_own pm__law_own cd__law_own ct__law_own : Value} {an__law_own : Option Addr} {sl__law_own : Array (Option Value)} {f__law_is_derivation : Addr} {oc__law_is_derivation : Value} {od__law_is_derivation : Option Addr} {kV__law_is_derivation dc__law_is_derivation pm__law_is_derivation cd__law_is_derivation ct__law_is_derivation : Value} {an__law_is_derivation : Option Addr} {sl__law_is_derivation : Array (Option Value)} {f_is_columns : Addr} {oc_is_columns : Value} {od_is_columns : Option Addr} {kV_is_columns dc_is_columns pm_is_columns cd_is_columns ct_is_columns : Value} {an_is_columns : Option Addr} {sl_is_columns : Array (Option Value)} {f_columns_in : Addr} {oc_columns_in : Value} {od_columns_in : Option Addr} {kV_columns_in dc_columns_in pm_columns_in cd_columns_in ct_columns_in : Value} {an_columns_in : Option Addr} {sl_columns_in : Array (Option Value)} {f_head_in : Addr} {oc_head_in : Value} {od_head_in : Option Addr} {kV_head_in dc_head_in pm_head_in cd_head_in ct_head_in : Value} {an_head_in : Option Addr} {sl_head_in : Array (Option Value)} {f_are_within : Addr} {oc_are_within : Value} {od_are_within : Option Addr} {kV_are_within dc_are_within pm_are_within cd_are_within ct_are_within : Value} {an_are_within : Option Addr} {sl_are_within : Array (Option Value)} {f_is_rule : Addr} {oc_is_rule : Value} {od_is_rule : Option Addr} {kV_is_rule dc_is_rule pm_is_rule cd_is_rule ct_is_rule : Value} {an_is_rule : Option Addr} {sl_is_rule : Array (Option Value)} {f_Scheme___init__ : Addr} {oc_Scheme___init__ : Value} {od_Scheme___init__ : Option Addr} {kV_Scheme___init__ dc_Scheme___init__ pm_Scheme___init__ cd_Scheme___init__ ct_Scheme___init__ : Value} {an_Scheme___init__ : Option Addr} {sl_Scheme___init__ : Array (Option Value)} {f_rule_in : Addr} {oc_rule_in : Value} {od_rule_in : Option Addr} {kV_rule_in dc_rule_in pm_rule_in cd_rule_in ct_rule_in : Value} {an_rule_in : Option Addr} {sl_rule_in : Array (Option Value)} {f_rules_in : Addr} {oc_rules_in : Value} {od_rules_in : Option Addr} {kV_rules_in dc_rules_in pm_rules_in cd_rules_in ct_rules_in : Value} {an_rules_in : Option Addr} {sl_rules_in : Array (Option Value)} {f_Scheme_read : Addr} {oc_Scheme_read : Value} {od_Scheme_read : Option Addr} {kV_Scheme_read dc_Scheme_read pm_Scheme_read cd_Scheme_read ct_Scheme_read : Value} {an_Scheme_read : Option Addr} {sl_Scheme_read : Array (Option Value)} {p_Scheme_read : Addr} {rs_Scheme_read : List Value} {f_scheme_in : Addr} {oc_scheme_in : Value} {od_scheme_in : Option Addr} {kV_scheme_in dc_scheme_in pm_scheme_in cd_scheme_in ct_scheme_in : Value} {an_scheme_in : Option Addr} {sl_scheme_in : Array (Option Value)} {f_is_integer : Addr} {oc_is_integer : Value} {od_is_integer : Option Addr} {kV_is_integer dc_is_integer pm_is_integer cd_is_integer ct_is_integer : Value} {an_is_integer : Option Addr} {sl_is_integer : Array (Option Value)} {f_derivation_holds : Addr} {oc_derivation_holds : Value} {od_derivation_holds : Option Addr} {kV_derivation_holds dc_derivation_holds pm_derivation_holds cd_derivation_holds ct_derivation_holds : Value} {an_derivation_holds : Option Addr} {sl_derivation_holds : Array (Option Value)} {f_settles_so : Addr} {oc_settles_so : Value} {od_settles_so : Option Addr} {kV_settles_so dc_settles_so pm_settles_so cd_settles_so ct_settles_so : Value} {an_settles_so : Option Addr} {sl_settles_so : Array (Option Value)} {f_finding_holds : Addr} {oc_finding_holds : Value} {od_finding_holds : Option Addr} {kV_finding_holds dc_finding_holds pm_finding_holds cd_finding_holds ct_finding_holds : Value} {an_finding_holds : Option Addr} {sl_finding_holds : Array (Option Value)} {f__law_text : Addr} {oc__law_text : Value} {od__law_text : Option Addr} {kV__law_text dc__law_text pm__law_text cd__law_text ct__law_text : Value} {an__law_text : Option Addr} {sl__law_text : Array (Option Value)} {f_law : Addr} {oc_law : Value} {od_law : Option Addr} {kV_law dc_law pm_law cd_law ct_law : Value} {an_law : Option Addr} {sl_law : Array (Option Value)} {D_SIZES : Addr} {es_SIZES : Array DictEntry} {n_SIZES : Nat} {tSIZES_0 : Tok} {tg_SETTLES : Tok} {fIxBadText : Addr} {cdaxBadText : Addr} {ccxBadText : Addr} {ocxBadText : Value} {kVxBadText : Value} {dcxBadText : Value} {pmxBadText : Value} {ctxBadText : Value} {clcxBadText : Value} {cllxBadText : Value} {odxBadText : Option Addr} {anxBadText : Option Addr} {cldxBadText : Option Addr} {cddxBadText : Option Addr} {oslxBadText : Array (Option Value)} {cslxBadText : Array (Option Value)} {ccsxBadText : Array (Option Value)} {vsxBadText : Array Value} {flxBadText : Str} {tfxBadText : Tok} {tg_BREAK : Tok} {tg_BLANK : Tok} {tg_RULE_PARTS : Tok} {tg_COLUMNS_WORD : Tok} {tg_NONE : Tok} {tg_LETTERS : Tok} {tg_RULE_WORDS : Tok} {tg_RULE_WORD : Tok}
  (aC_BadText : PySem.W.nsIn K mainGlobals "BadText" = some (some (.ref C_BadText)))
  (aC_Scheme : PySem.W.nsIn K mainGlobals "Scheme" = some (some (.ref C_Scheme)))
  (a__law_draw : PySem.W.nsIn K mainGlobals "_law_draw" = some (some (.ref f__law_draw)))
  (l__law_draw : K.lookup f__law_draw = some ⟨oc__law_draw, od__law_draw, .func (PySem.W.fnOf "_law_draw" "_law_draw" (defArgs s__law_draw) (defBody s__law_draw) (defScope s__law_draw) .none kV__law_draw dc__law_draw pm__law_draw an__law_draw cd__law_draw ct__law_draw), sl__law_draw⟩)
  (q__law_draw : PySem.W.codeIn K cd__law_draw "_law_draw" = true)
  (k__law_draw : PySem.W.keepIn K (.ref f__law_draw) = true)
  (a__law_deck : PySem.W.nsIn K mainGlobals "_law_deck" = some (some (.ref f__law_deck)))
  (l__law_deck : K.lookup f__law_deck = some ⟨oc__law_deck, od__law_deck, .func (PySem.W.fnOf "_law_deck" "_law_deck" (defArgs s__law_deck) (defBody s__law_deck) (defScope s__law_deck) .none kV__law_deck dc__law_deck pm__law_deck an__law_deck cd__law_deck ct__law_deck), sl__law_deck⟩)
  (q__law_deck : PySem.W.codeIn K cd__law_deck "_law_deck" = true)
  (k__law_deck : PySem.W.keepIn K (.ref f__law_deck) = true)
  (a__law_pick : PySem.W.nsIn K mainGlobals "_law_pick" = some (some (.ref f__law_pick)))
  (l__law_pick : K.lookup f__law_pick = some ⟨oc__law_pick, od__law_pick, .func (PySem.W.fnOf "_law_pick" "_law_pick" (defArgs s__law_pick) (defBody s__law_pick) (defScope s__law_pick) .none kV__law_pick dc__law_pick pm__law_pick an__law_pick cd__law_pick ct__law_pick), sl__law_pick⟩)
  (q__law_pick : PySem.W.codeIn K cd__law_pick "_law_pick" = true)
  (k__law_pick : PySem.W.keepIn K (.ref f__law_pick) = true)
  (a__law_closure : PySem.W.nsIn K mainGlobals "_law_closure" = some (some (.ref f__law_closure)))
  (l__law_closure : K.lookup f__law_closure = some ⟨oc__law_closure, od__law_closure, .func (PySem.W.fnOf "_law_closure" "_law_closure" (defArgs s__law_closure) (defBody s__law_closure) (defScope s__law_closure) .none kV__law_closure dc__law_closure pm__law_closure an__law_closure cd__law_closure ct__law_closure), sl__law_closure⟩)
  (q__law_closure : PySem.W.codeIn K cd__law_closure "_law_closure" = true)
  (k__law_closure : PySem.W.keepIn K (.ref f__law_closure) = true)
  (a__law_is_within : PySem.W.nsIn K mainGlobals "_law_is_within" = some (some (.ref f__law_is_within)))
  (l__law_is_within : K.lookup f__law_is_within = some ⟨oc__law_is_within, od__law_is_within, .func (PySem.W.fnOf "_law_is_within" "_law_is_within" (defArgs s__law_is_within) (defBody s__law_is_within) (defScope s__law_is_within) .none kV__law_is_within dc__law_is_within pm__law_is_within an__law_is_within cd__law_is_within ct__law_is_within), sl__law_is_within⟩)
  (q__law_is_within : PySem.W.codeIn K cd__law_is_within "_law_is_within" = true)
  (k__law_is_within : PySem.W.keepIn K (.ref f__law_is_within) = true)
  (a__law_frame : PySem.W.nsIn K mainGlobals "_law_frame" = some (some (.ref f__law_frame)))
  (l__law_frame : K.lookup f__law_frame = some ⟨oc__law_frame, od__law_frame, .func (PySem.W.fnOf "_law_frame" "_law_frame" (defArgs s__law_frame) (defBody s__law_frame) (defScope s__law_frame) .none kV__law_frame dc__law_frame pm__law_frame an__law_frame cd__law_frame ct__law_frame), sl__law_frame⟩)
  (q__law_frame : PySem.W.codeIn K cd__law_frame "_law_frame" = true)
  (k__law_frame : PySem.W.keepIn K (.ref f__law_frame) = true)
  (a__law_scheme_text : PySem.W.nsIn K mainGlobals "_law_scheme_text" = some (some (.ref f__law_scheme_text)))
  (l__law_scheme_text : K.lookup f__law_scheme_text = some ⟨oc__law_scheme_text, od__law_scheme_text, .func (PySem.W.fnOf "_law_scheme_text" "_law_scheme_text" (defArgs s__law_scheme_text) (defBody s__law_scheme_text) (defScope s__law_scheme_text) .none kV__law_scheme_text dc__law_scheme_text pm__law_scheme_text an__law_scheme_text cd__law_scheme_text ct__law_scheme_text), sl__law_scheme_text⟩)
  (q__law_scheme_text : PySem.W.codeIn K cd__law_scheme_text "_law_scheme_text" = true)
  (k__law_scheme_text : PySem.W.keepIn K (.ref f__law_scheme_text) = true)
  (a__law_others : PySem.W.nsIn K mainGlobals "_law_others" = some (some (.ref f__law_others)))
  (l__law_others : K.lookup f__law_others = some ⟨oc__law_others, od__law_others, .func (PySem.W.fnOf "_law_others" "_law_others" (defArgs s__law_others) (defBody s__law_others) (defScope s__law_others) .none kV__law_others dc__law_others pm__law_others an__law_others cd__law_others ct__law_others), sl__law_others⟩)
  (q__law_others : PySem.W.codeIn K cd__law_others "_law_others" = true)
  (k__law_others : PySem.W.keepIn K (.ref f__law_others) = true)
  (a__law_own : PySem.W.nsIn K mainGlobals "_law_own" = some (some (.ref f__law_own)))
  (l__law_own : K.lookup f__law_own = some ⟨oc__law_own, od__law_own, .func (PySem.W.fnOf "_law_own" "_law_own" (defArgs s__law_own) (defBody s__law_own) (defScope s__law_own) .none kV__law_own dc__law_own pm__law_own an__law_own cd__law_own ct__law_own), sl__law_own⟩)
  (q__law_own : PySem.W.codeIn K cd__law_own "_law_own" = true)
  (k__law_own : PySem.W.keepIn K (.ref f__law_own) = true)
  (a__law_is_derivation : PySem.W.nsIn K mainGlobals "_law_is_derivation" = some (some (.ref f__law_is_derivation)))
  (l__law_is_derivation : K.lookup f__law_is_derivation = some ⟨oc__law_is_derivation, od__law_is_derivation, .func (PySem.W.fnOf "_law_is_derivation" "_law_is_derivation" (defArgs s__law_is_derivation) (defBody s__law_is_derivation) (defScope s__law_is_derivation) .none kV__law_is_derivation dc__law_is_derivation pm__law_is_derivation an__law_is_derivation cd__law_is_derivation ct__law_is_derivation), sl__law_is_derivation⟩)
  (q__law_is_derivation : PySem.W.codeIn K cd__law_is_derivation "_law_is_derivation" = true)
  (k__law_is_derivation : PySem.W.keepIn K (.ref f__law_is_derivation) = true)
  (a_is_columns : PySem.W.nsIn K mainGlobals "is_columns" = some (some (.ref f_is_columns)))
  (l_is_columns : K.lookup f_is_columns = some ⟨oc_is_columns, od_is_columns, .func (PySem.W.fnOf "is_columns" "is_columns" (defArgs s_is_columns) (defBody s_is_columns) (defScope s_is_columns) .none kV_is_columns dc_is_columns pm_is_columns an_is_columns cd_is_columns ct_is_columns), sl_is_columns⟩)
  (q_is_columns : PySem.W.codeIn K cd_is_columns "is_columns" = true)
  (k_is_columns : PySem.W.keepIn K (.ref f_is_columns) = true)
  (a_columns_in : PySem.W.nsIn K mainGlobals "columns_in" = some (some (.ref f_columns_in)))
  (l_columns_in : K.lookup f_columns_in = some ⟨oc_columns_in, od_columns_in, .func (PySem.W.fnOf "columns_in" "columns_in" (defArgs s_columns_in) (defBody s_columns_in) (defScope s_columns_in) .none kV_columns_in dc_columns_in pm_columns_in an_columns_in cd_columns_in ct_columns_in), sl_columns_in⟩)
  (q_columns_in : PySem.W.codeIn K cd_columns_in "columns_in" = true)
  (k_columns_in : PySem.W.keepIn K (.ref f_columns_in) = true)
  (a_head_in : PySem.W.nsIn K mainGlobals "head_in" = some (some (.ref f_head_in)))
  (l_head_in : K.lookup f_head_in = some ⟨oc_head_in, od_head_in, .func (PySem.W.fnOf "head_in" "head_in" (defArgs s_head_in) (defBody s_head_in) (defScope s_head_in) .none kV_head_in dc_head_in pm_head_in an_head_in cd_head_in ct_head_in), sl_head_in⟩)
  (q_head_in : PySem.W.codeIn K cd_head_in "head_in" = true)
  (k_head_in : PySem.W.keepIn K (.ref f_head_in) = true)
  (a_are_within : PySem.W.nsIn K mainGlobals "are_within" = some (some (.ref f_are_within)))
  (l_are_within : K.lookup f_are_within = some ⟨oc_are_within, od_are_within, .func (PySem.W.fnOf "are_within" "are_within" (defArgs s_are_within) (defBody s_are_within) (defScope s_are_within) .none kV_are_within dc_are_within pm_are_within an_are_within cd_are_within ct_are_within), sl_are_within⟩)
  (q_are_within : PySem.W.codeIn K cd_are_within "are_within" = true)
  (k_are_within : PySem.W.keepIn K (.ref f_are_within) = true)
  (a_is_rule : PySem.W.nsIn K mainGlobals "is_rule" = some (some (.ref f_is_rule)))
  (l_is_rule : K.lookup f_is_rule = some ⟨oc_is_rule, od_is_rule, .func (PySem.W.fnOf "is_rule" "is_rule" (defArgs s_is_rule) (defBody s_is_rule) (defScope s_is_rule) .none kV_is_rule dc_is_rule pm_is_rule an_is_rule cd_is_rule ct_is_rule), sl_is_rule⟩)
  (q_is_rule : PySem.W.codeIn K cd_is_rule "is_rule" = true)
  (k_is_rule : PySem.W.keepIn K (.ref f_is_rule) = true)
  (a_Scheme___init__ : PySem.W.findIn K (.ref C_Scheme) "__init__" = some (some (.ref f_Scheme___init__)))
  (i_Scheme___init__ : PySem.W.isFn K (.ref f_Scheme___init__) = true)
  (l_Scheme___init__ : K.lookup f_Scheme___init__ = some ⟨oc_Scheme___init__, od_Scheme___init__, .func (PySem.W.fnOf "__init__" "Scheme.__init__" (defArgs s_Scheme___init__) (defBody s_Scheme___init__) (defScope s_Scheme___init__) .none kV_Scheme___init__ dc_Scheme___init__ pm_Scheme___init__ an_Scheme___init__ cd_Scheme___init__ ct_Scheme___init__), sl_Scheme___init__⟩)
  (q_Scheme___init__ : PySem.W.codeIn K cd_Scheme___init__ "Scheme.__init__" = true)
  (k_Scheme___init__ : PySem.W.keepIn K (.ref f_Scheme___init__) = true)
  (a_rule_in : PySem.W.nsIn K mainGlobals "rule_in" = some (some (.ref f_rule_in)))
  (l_rule_in : K.lookup f_rule_in = some ⟨oc_rule_in, od_rule_in, .func (PySem.W.fnOf "rule_in" "rule_in" (defArgs s_rule_in) (defBody s_rule_in) (defScope s_rule_in) .none kV_rule_in dc_rule_in pm_rule_in an_rule_in cd_rule_in ct_rule_in), sl_rule_in⟩)
  (q_rule_in : PySem.W.codeIn K cd_rule_in "rule_in" = true)
  (k_rule_in : PySem.W.keepIn K (.ref f_rule_in) = true)
  (a_rules_in : PySem.W.nsIn K mainGlobals "rules_in" = some (some (.ref f_rules_in)))
  (l_rules_in : K.lookup f_rules_in = some ⟨oc_rules_in, od_rules_in, .func (PySem.W.fnOf "rules_in" "rules_in" (defArgs s_rules_in) (defBody s_rules_in) (defScope s_rules_in) .none kV_rules_in dc_rules_in pm_rules_in an_rules_in cd_rules_in ct_rules_in), sl_rules_in⟩)
  (q_rules_in : PySem.W.codeIn K cd_rules_in "rules_in" = true)
  (k_rules_in : PySem.W.keepIn K (.ref f_rules_in) = true)
  (cf_Scheme_read : PySem.W.findCls K (.ref C_Scheme) (.type "type") "read" = some (.get (.builtin "classmethod.__get__") (.ref p_Scheme_read) .none (.ref C_Scheme)))
  (cg_Scheme_read : PySem.W.recIn K p_Scheme_read "classmethod" = some (.ref f_Scheme_read :: rs_Scheme_read))
  (ch_Scheme_read : PySem.W.fnIn K f_Scheme_read = true)
  (l_Scheme_read : K.lookup f_Scheme_read = some ⟨oc_Scheme_read, od_Scheme_read, .func (PySem.W.fnOf "read" "Scheme.read" (defArgs s_Scheme_read) (defBody s_Scheme_read) (defScope s_Scheme_read) .none kV_Scheme_read dc_Scheme_read pm_Scheme_read an_Scheme_read cd_Scheme_read ct_Scheme_read), sl_Scheme_read⟩)
  (q_Scheme_read : PySem.W.codeIn K cd_Scheme_read "Scheme.read" = true)
  (k_Scheme_read : PySem.W.keepIn K (.ref f_Scheme_read) = true)
  (a_scheme_in : PySem.W.nsIn K mainGlobals "scheme_in" = some (some (.ref f_scheme_in)))
  (l_scheme_in : K.lookup f_scheme_in = some ⟨oc_scheme_in, od_scheme_in, .func (PySem.W.fnOf "scheme_in" "scheme_in" (defArgs s_scheme_in) (defBody s_scheme_in) (defScope s_scheme_in) .none kV_scheme_in dc_scheme_in pm_scheme_in an_scheme_in cd_scheme_in ct_scheme_in), sl_scheme_in⟩)
  (q_scheme_in : PySem.W.codeIn K cd_scheme_in "scheme_in" = true)
  (k_scheme_in : PySem.W.keepIn K (.ref f_scheme_in) = true)
  (a_is_integer : PySem.W.nsIn K mainGlobals "is_integer" = some (some (.ref f_is_integer)))
  (l_is_integer : K.lookup f_is_integer = some ⟨oc_is_integer, od_is_integer, .func (PySem.W.fnOf "is_integer" "is_integer" (defArgs s_is_integer) (defBody s_is_integer) (defScope s_is_integer) .none kV_is_integer dc_is_integer pm_is_integer an_is_integer cd_is_integer ct_is_integer), sl_is_integer⟩)
  (q_is_integer : PySem.W.codeIn K cd_is_integer "is_integer" = true)
  (k_is_integer : PySem.W.keepIn K (.ref f_is_integer) = true)
  (a_derivation_holds : PySem.W.nsIn K mainGlobals "derivation_holds" = some (some (.ref f_derivation_holds)))
  (l_derivation_holds : K.lookup f_derivation_holds = some ⟨oc_derivation_holds, od_derivation_holds, .func (PySem.W.fnOf "derivation_holds" "derivation_holds" (defArgs s_derivation_holds) (defBody s_derivation_holds) (defScope s_derivation_holds) .none kV_derivation_holds dc_derivation_holds pm_derivation_holds an_derivation_holds cd_derivation_holds ct_derivation_holds), sl_derivation_holds⟩)
  (q_derivation_holds : PySem.W.codeIn K cd_derivation_holds "derivation_holds" = true)
  (k_derivation_holds : PySem.W.keepIn K (.ref f_derivation_holds) = true)
  (a_settles_so : PySem.W.nsIn K mainGlobals "settles_so" = some (some (.ref f_settles_so)))
  (l_settles_so : K.lookup f_settles_so = some ⟨oc_settles_so, od_settles_so, .func (PySem.W.fnOf "settles_so" "settles_so" (defArgs s_settles_so) (defBody s_settles_so) (defScope s_settles_so) .none kV_settles_so dc_settles_so pm_settles_so an_settles_so cd_settles_so ct_settles_so), sl_settles_so⟩)
  (q_settles_so : PySem.W.codeIn K cd_settles_so "settles_so" = true)
  (k_settles_so : PySem.W.keepIn K (.ref f_settles_so) = true)
  (a_finding_holds : PySem.W.nsIn K mainGlobals "finding_holds" = some (some (.ref f_finding_holds)))
  (l_finding_holds : K.lookup f_finding_holds = some ⟨oc_finding_holds, od_finding_holds, .func (PySem.W.fnOf "finding_holds" "finding_holds" (defArgs s_finding_holds) (defBody s_finding_holds) (defScope s_finding_holds) .none kV_finding_holds dc_finding_holds pm_finding_holds an_finding_holds cd_finding_holds ct_finding_holds), sl_finding_holds⟩)
  (q_finding_holds : PySem.W.codeIn K cd_finding_holds "finding_holds" = true)
  (k_finding_holds : PySem.W.keepIn K (.ref f_finding_holds) = true)
  (a__law_text : PySem.W.nsIn K mainGlobals "_law_text" = some (some (.ref f__law_text)))
  (l__law_text : K.lookup f__law_text = some ⟨oc__law_text, od__law_text, .func (PySem.W.fnOf "_law_text" "_law_text" (defArgs s__law_text) (defBody s__law_text) (defScope s__law_text) .none kV__law_text dc__law_text pm__law_text an__law_text cd__law_text ct__law_text), sl__law_text⟩)
  (q__law_text : PySem.W.codeIn K cd__law_text "_law_text" = true)
  (k__law_text : PySem.W.keepIn K (.ref f__law_text) = true)
  (a_law : PySem.W.nsIn K mainGlobals "law" = some (some (.ref f_law)))
  (l_law : K.lookup f_law = some ⟨oc_law, od_law, .func (PySem.W.fnOf "law" "law" (defArgs s_law) (defBody s_law) (defScope s_law) .none kV_law dc_law pm_law an_law cd_law ct_law), sl_law⟩)
  (q_law : PySem.W.codeIn K cd_law "law" = true)
  (k_law : PySem.W.keepIn K (.ref f_law) = true)
  (z_int : PySem.W.nsIn K mainGlobals "int" = some none)
  (z_list : PySem.W.nsIn K mainGlobals "list" = some none)
  (z_range : PySem.W.nsIn K mainGlobals "range" = some none)
  (z_len : PySem.W.nsIn K mainGlobals "len" = some none)
  (z_sorted : PySem.W.nsIn K mainGlobals "sorted" = some none)
  (z_tuple : PySem.W.nsIn K mainGlobals "tuple" = some none)
  (z_enumerate : PySem.W.nsIn K mainGlobals "enumerate" = some none)
  (z_isinstance : PySem.W.nsIn K mainGlobals "isinstance" = some none)
  (z_bool : PySem.W.nsIn K mainGlobals "bool" = some none)
  (z_str : PySem.W.nsIn K mainGlobals "str" = some none)
  (aD_SIZES : PySem.W.nsIn K mainGlobals "SIZES" = some (some (.ref D_SIZES)))
  (lD_SIZES : K.lookup D_SIZES = some ⟨.type "dict", none, .dict es_SIZES n_SIZES, #[]⟩)
  (kD_SIZES : PySem.W.KeysLit w.params es_SIZES.toList)
  (oD_SIZES : (D_SIZES == sysModules) = false)
  (vD_SIZES_0 : PySem.W.nsIn K D_SIZES "settles" = some (some (.int 5 tSIZES_0)))
  (g_SETTLES : PySem.W.nsIn K mainGlobals "SETTLES" = some (some (.str "settles" tg_SETTLES)))
  (ei_BadText : PySem.W.excInitIn K C_BadText [.type "Exception", .type "BaseException", .type "object"] "Exception.__new__" = true)
  (ov_BadText : PySem.W.excOver K C_BadText [.type "Exception", .type "BaseException", .type "object"] = true)
  (xb_BadText : PySem.W.subIn K (.ref C_BadText) (.type "BaseException") = some true)
  (xx_BadText : PySem.W.subIn K (.ref C_BadText) (.type "Exception") = some true)
  (xy_BadText : PySem.W.typeIn K (.ref C_BadText) = some (.type "type"))
  (kc_BadText : PySem.W.keepIn K (.ref C_BadText) = true)
  (hd_BadText : PySem.W.hasDictIn K C_BadText = true)
  (sa_BadText : PySem.W.findIn K (.ref C_BadText) "__setattr__" = some (some (.builtin "object.__setattr__")))
  (xm_BadText : PySem.W.mroIn K C_BadText (.ref C_BadText) = some true)
  (xs_BadText : PySem.W.ks_superIn K C_BadText C_BadText "__init__" = some (some (.builtin "Exception.__init__")))
  (xth : PySem.W.nsIn K cStatics "thirdparty.any" = some none)
  (xg_BadText : PySem.W.findIn K (.ref C_BadText) "__getattribute__" = some (some (.builtin "BaseException.__getattribute__")))
  (xh_BadText : PySem.W.findIn K (.ref C_BadText) "__getattr__" = some none)
  (ia_BadText : PySem.W.findIn K (.ref C_BadText) "__init__" = some (some (.ref fIxBadText)))
  (ib_BadText : PySem.W.typeIn K (.ref fIxBadText) = some (.type "function"))
  (ic_BadText : K.lookup fIxBadText = some ⟨ocxBadText, odxBadText, .func (PySem.W.fnX "__init__" "BadText.__init__" (defArgs s_BadText___init__) (defBody s_BadText___init__) (defScope s_BadText___init__) [("__class__", ccxBadText)] .none kVxBadText dcxBadText pmxBadText anxBadText (.ref cdaxBadText) ctxBadText), oslxBadText⟩)
  (id_BadText : PySem.W.codeIn K (.ref cdaxBadText) "BadText.__init__" = true)
  (ie_BadText : K.lookup cdaxBadText = some ⟨clcxBadText, cddxBadText, .fields vsxBadText, ccsxBadText⟩)
  (if_BadText : vsxBadText[2]? = some (.str flxBadText tfxBadText))
  (ig_BadText : ((l.prog.main.file : Str) == flxBadText) = true)
  (ih_BadText : K.lookup ccxBadText = some ⟨cllxBadText, cldxBadText, .cell (some (.ref C_BadText)), cslxBadText⟩)
  (z_super : PySem.W.nsIn K mainGlobals "super" = some none)
  (ztop : (l.prog.main.scope.names.lookup ("super" : Str)).isSome = false)
  (n_BadText_place : PySem.W.findIn K (.ref C_BadText) "place" = some none)
  (g_BREAK : PySem.W.nsIn K mainGlobals "BREAK" = some (some (.str "\n" tg_BREAK)))
  (g_BLANK : PySem.W.nsIn K mainGlobals "BLANK" = some (some (.str " " tg_BLANK)))
  (g_RULE_PARTS : PySem.W.nsIn K mainGlobals "RULE_PARTS" = some (some (.int 2 tg_RULE_PARTS)))
  (g_COLUMNS_WORD : PySem.W.nsIn K mainGlobals "COLUMNS_WORD" = some (some (.str "columns" tg_COLUMNS_WORD)))
  (g_NONE : PySem.W.nsIn K mainGlobals "NONE" = some (some (.str "-" tg_NONE)))
  (g_LETTERS : PySem.W.nsIn K mainGlobals "LETTERS" = some (some (.str "abcdefghijklmnopqrstuvwxyz" tg_LETTERS)))
  (z_all : PySem.W.nsIn K mainGlobals "all" = some none)
  (z_zip : PySem.W.nsIn K mainGlobals "zip" = some none)
  (pg_Scheme : PySem.W.plainGet K C_Scheme Str.empty = true)
  (hd_Scheme : PySem.W.hasDictIn K C_Scheme = true)
  (po_Scheme : PySem.W.plainOver K C_Scheme = true)
  (sa_Scheme : PySem.W.findIn K (.ref C_Scheme) "__setattr__" = some (some (.builtin "object.__setattr__")))
  (n_Scheme_columns : PySem.W.findIn K (.ref C_Scheme) "columns" = some none)
  (n_Scheme_rules : PySem.W.findIn K (.ref C_Scheme) "rules" = some none)
  (mk_Scheme : PySem.W.makesIn K C_Scheme = true)
  (kc_Scheme : PySem.W.keepIn K (.ref C_Scheme) = true)
  (g_RULE_WORDS : PySem.W.nsIn K mainGlobals "RULE_WORDS" = some (some (.int 3 tg_RULE_WORDS)))
  (g_RULE_WORD : PySem.W.nsIn K mainGlobals "RULE_WORD" = some (some (.str "rule" tg_RULE_WORD)))
  (rd_Scheme : PySem.W.readsIn K C_Scheme (.type "type") = true)
  (rg_Scheme : PySem.W.specialIn K (.ref C_Scheme) "__getattribute__" = some (some (.builtin "type.__getattribute__")))
  (sb_BadText_BadText : PySem.W.subIn K (.ref C_BadText) (.ref C_BadText) = some true)
  (z_repr : PySem.W.nsIn K mainGlobals "repr" = some none)
  (hm : ∀ (c : CA) (p q : Addr) (l : List Int) (b : Int), l.length ≤ 63 → ∃ E, b_law c (.no :: .deck p q l b :: nos 11) = .ok (.rt (.bl true), E)) :
  ∃ fd : FuncData, (∀ (s : Shared) (v : Value), BindsTo s fd ⟨[v], []⟩ [("_law_script", v)]) ∧ ∀ base : Heap, K.In base → base.Ns mainGlobals mg → FnG l.prog w K mg base CX0 10 fa fd ["_law_script"] (spLaw K) := by
  have e := (PySem.W.mg_of X G a_law).symm.trans hfa
  have e2 : f_law = fa := Value.ref.inj (Option.some.inj e)
  subst e2
  let R : PR l.prog w K mg := {
    c := ⟨C_BadText, C_Scheme⟩,
    f__law_draw := f__law_draw,
    fd__law_draw := _,
    F__law_draw := fun_mk (st := s__law_draw) l__law_draw q__law_draw k__law_draw,
    b__law_draw := (fun_mk (st := s__law_draw) l__law_draw q__law_draw k__law_draw).binds (ps := ["_law_deck_here", "_law_many"]) fun _ _ _ _ _ _ us hl => match us, hl with | [_, _], _ => rfl,
    g__law_draw := PySem.W.mg_of X G a__law_draw,
    f__law_deck := f__law_deck,
    fd__law_deck := _,
    F__law_deck := fun_mk (st := s__law_deck) l__law_deck q__law_deck k__law_deck,
    b__law_deck := (fun_mk (st := s__law_deck) l__law_deck q__law_deck k__law_deck).binds (ps := ["_law_script"]) fun _ _ _ _ _ _ us hl => match us, hl with | [_], _ => rfl,
    g__law_deck := PySem.W.mg_of X G a__law_deck,
    f__law_pick := f__law_pick,
    fd__law_pick := _,
    F__law_pick := fun_mk (st := s__law_pick) l__law_pick q__law_pick k__law_pick,
    b__law_pick := (fun_mk (st := s__law_pick) l__law_pick q__law_pick k__law_pick).binds (ps := ["_law_deck_here", "_law_some"]) fun _ _ _ _ _ _ us hl => match us, hl with | [_, _], _ => rfl,
    g__law_pick := PySem.W.mg_of X G a__law_pick,
    f__law_closure := f__law_closure,
    fd__law_closure := _,
    F__law_closure := fun_mk (st := s__law_closure) l__law_closure q__law_closure k__law_closure,
    b__law_closure := (fun_mk (st := s__law_closure) l__law_closure q__law_closure k__law_closure).binds (ps := ["_law_rules", "_law_some"]) fun _ _ _ _ _ _ us hl => match us, hl with | [_, _], _ => rfl,
    g__law_closure := PySem.W.mg_of X G a__law_closure,
    f__law_is_within := f__law_is_within,
    fd__law_is_within := _,
    F__law_is_within := fun_mk (st := s__law_is_within) l__law_is_within q__law_is_within k__law_is_within,
    b__law_is_within := (fun_mk (st := s__law_is_within) l__law_is_within q__law_is_within k__law_is_within).binds (ps := ["_law_some", "_law_more"]) fun _ _ _ _ _ _ us hl => match us, hl with | [_, _], _ => rfl,
    g__law_is_within := PySem.W.mg_of X G a__law_is_within,
    f__law_frame := f__law_frame,
    fd__law_frame := _,
    F__law_frame := fun_mk (st := s__law_frame) l__law_frame q__law_frame k__law_frame,
    b__law_frame := (fun_mk (st := s__law_frame) l__law_frame q__law_frame k__law_frame).binds (ps := ["_law_deck_here", "_law_wide", "_law_dark"]) fun _ _ _ _ _ _ us hl => match us, hl with | [_, _, _], _ => rfl,
    g__law_frame := PySem.W.mg_of X G a__law_frame,
    f__law_scheme_text := f__law_scheme_text,
    fd__law_scheme_text := _,
    F__law_scheme_text := fun_mk (st := s__law_scheme_text) l__law_scheme_text q__law_scheme_text k__law_scheme_text,
    b__law_scheme_text := (fun_mk (st := s__law_scheme_text) l__law_scheme_text q__law_scheme_text k__law_scheme_text).binds (ps := ["_law_w"]) fun _ _ _ _ _ _ us hl => match us, hl with | [_], _ => rfl,
    g__law_scheme_text := PySem.W.mg_of X G a__law_scheme_text,
    f__law_others := f__law_others,
    fd__law_others := _,
    F__law_others := fun_mk (st := s__law_others) l__law_others q__law_others k__law_others,
    b__law_others := (fun_mk (st := s__law_others) l__law_others q__law_others k__law_others).binds (ps := ["_law_deck_here", "_law_w", "_law_steps"]) fun _ _ _ _ _ _ us hl => match us, hl with | [_, _, _], _ => rfl,
    g__law_others := PySem.W.mg_of X G a__law_others,
    f__law_own := f__law_own,
    fd__law_own := _,
    F__law_own := fun_mk (st := s__law_own) l__law_own q__law_own k__law_own,
    b__law_own := (fun_mk (st := s__law_own) l__law_own q__law_own k__law_own).binds (ps := ["_law_deck_here", "_law_w", "_law_some"]) fun _ _ _ _ _ _ us hl => match us, hl with | [_, _, _], _ => rfl,
    g__law_own := PySem.W.mg_of X G a__law_own,
    f__law_is_derivation := f__law_is_derivation,
    fd__law_is_derivation := _,
    F__law_is_derivation := fun_mk (st := s__law_is_derivation) l__law_is_derivation q__law_is_derivation k__law_is_derivation,
    b__law_is_derivation := (fun_mk (st := s__law_is_derivation) l__law_is_derivation q__law_is_derivation k__law_is_derivation).binds (ps := ["_law_w", "_law_some", "_law_x", "_law_it"]) fun _ _ _ _ _ _ us hl => match us, hl with | [_, _, _, _], _ => rfl,
    g__law_is_derivation := PySem.W.mg_of X G a__law_is_derivation,
    f_is_columns := f_is_columns,
    fd_is_columns := _,
    F_is_columns := fun_mk (st := s_is_columns) l_is_columns q_is_columns k_is_columns,
    b_is_columns := (fun_mk (st := s_is_columns) l_is_columns q_is_columns k_is_columns).binds (ps := ["thing"]) fun _ _ _ _ _ _ us hl => match us, hl with | [_], _ => rfl,
    g_is_columns := PySem.W.mg_of X G a_is_columns,
    f_columns_in := f_columns_in,
    fd_columns_in := _,
    F_columns_in := fun_mk (st := s_columns_in) l_columns_in q_columns_in k_columns_in,
    b_columns_in := (fun_mk (st := s_columns_in) l_columns_in q_columns_in k_columns_in).binds (ps := ["word"]) fun _ _ _ _ _ _ us hl => match us, hl with | [_], _ => rfl,
    g_columns_in := PySem.W.mg_of X G a_columns_in,
    f_head_in := f_head_in,
    fd_head_in := _,
    F_head_in := fun_mk (st := s_head_in) l_head_in q_head_in k_head_in,
    b_head_in := (fun_mk (st := s_head_in) l_head_in q_head_in k_head_in).binds (ps := ["line"]) fun _ _ _ _ _ _ us hl => match us, hl with | [_], _ => rfl,
    g_head_in := PySem.W.mg_of X G a_head_in,
    f_are_within := f_are_within,
    fd_are_within := _,
    F_are_within := fun_mk (st := s_are_within) l_are_within q_are_within k_are_within,
    b_are_within := (fun_mk (st := s_are_within) l_are_within q_are_within k_are_within).binds (ps := ["thing", "columns"]) fun _ _ _ _ _ _ us hl => match us, hl with | [_, _], _ => rfl,
    g_are_within := PySem.W.mg_of X G a_are_within,
    f_is_rule := f_is_rule,
    fd_is_rule := _,
    F_is_rule := fun_mk (st := s_is_rule) l_is_rule q_is_rule k_is_rule,
    b_is_rule := (fun_mk (st := s_is_rule) l_is_rule q_is_rule k_is_rule).binds (ps := ["columns", "thing"]) fun _ _ _ _ _ _ us hl => match us, hl with | [_, _], _ => rfl,
    g_is_rule := PySem.W.mg_of X G a_is_rule,
    f_Scheme___init__ := f_Scheme___init__,
    fd_Scheme___init__ := _,
    F_Scheme___init__ := fun_mk (st := s_Scheme___init__) l_Scheme___init__ q_Scheme___init__ k_Scheme___init__,
    b_Scheme___init__ := (fun_mk (st := s_Scheme___init__) l_Scheme___init__ q_Scheme___init__ k_Scheme___init__).binds (ps := ["self", "columns", "rules"]) fun _ _ _ _ _ _ us hl => match us, hl with | [_, _, _], _ => rfl,
    f_rule_in := f_rule_in,
    fd_rule_in := _,
    F_rule_in := fun_mk (st := s_rule_in) l_rule_in q_rule_in k_rule_in,
    b_rule_in := (fun_mk (st := s_rule_in) l_rule_in q_rule_in k_rule_in).binds (ps := ["columns", "line"]) fun _ _ _ _ _ _ us hl => match us, hl with | [_, _], _ => rfl,
    g_rule_in := PySem.W.mg_of X G a_rule_in,
    f_rules_in := f_rules_in,
    fd_rules_in := _,
    F_rules_in := fun_mk (st := s_rules_in) l_rules_in q_rules_in k_rules_in,
    b_rules_in := (fun_mk (st := s_rules_in) l_rules_in q_rules_in k_rules_in).binds (ps := ["columns", "lines"]) fun _ _ _ _ _ _ us hl => match us, hl with | [_, _], _ => rfl,
    g_rules_in := PySem.W.mg_of X G a_rules_in,
    f_Scheme_read := f_Scheme_read,
    fd_Scheme_read := _,
    F_Scheme_read := fun_mk (st := s_Scheme_read) l_Scheme_read q_Scheme_read k_Scheme_read,
    b_Scheme_read := (fun_mk (st := s_Scheme_read) l_Scheme_read q_Scheme_read k_Scheme_read).binds (ps := ["cls", "text"]) fun _ _ _ _ _ _ us hl => match us, hl with | [_, _], _ => rfl,
    f_scheme_in := f_scheme_in,
    fd_scheme_in := _,
    F_scheme_in := fun_mk (st := s_scheme_in) l_scheme_in q_scheme_in k_scheme_in,
    b_scheme_in := (fun_mk (st := s_scheme_in) l_scheme_in q_scheme_in k_scheme_in).binds (ps := ["text"]) fun _ _ _ _ _ _ us hl => match us, hl with | [_], _ => rfl,
    g_scheme_in := PySem.W.mg_of X G a_scheme_in,
    f_is_integer := f_is_integer,
    fd_is_integer := _,
    F_is_integer := fun_mk (st := s_is_integer) l_is_integer q_is_integer k_is_integer,
    b_is_integer := (fun_mk (st := s_is_integer) l_is_integer q_is_integer k_is_integer).binds (ps := ["thing"]) fun _ _ _ _ _ _ us hl => match us, hl with | [_], _ => rfl,
    g_is_integer := PySem.W.mg_of X G a_is_integer,
    f_derivation_holds := f_derivation_holds,
    fd_derivation_holds := _,
    F_derivation_holds := fun_mk (st := s_derivation_holds) l_derivation_holds q_derivation_holds k_derivation_holds,
    b_derivation_holds := (fun_mk (st := s_derivation_holds) l_derivation_holds q_derivation_holds k_derivation_holds).binds (ps := ["scheme", "columns", "column", "thing"]) fun _ _ _ _ _ _ us hl => match us, hl with | [_, _, _, _], _ => rfl,
    g_derivation_holds := PySem.W.mg_of X G a_derivation_holds,
    f_settles_so := f_settles_so,
    fd_settles_so := _,
    F_settles_so := fun_mk (st := s_settles_so) l_settles_so q_settles_so k_settles_so,
    b_settles_so := (fun_mk (st := s_settles_so) l_settles_so q_settles_so k_settles_so).binds (ps := ["text", "columns", "column", "thing"]) fun _ _ _ _ _ _ us hl => match us, hl with | [_, _, _, _], _ => rfl,
    g_settles_so := PySem.W.mg_of X G a_settles_so,
    f_finding_holds := f_finding_holds,
    fd_finding_holds := _,
    F_finding_holds := fun_mk (st := s_finding_holds) l_finding_holds q_finding_holds k_finding_holds,
    b_finding_holds := (fun_mk (st := s_finding_holds) l_finding_holds q_finding_holds k_finding_holds).binds (ps := ["thing"]) fun _ _ _ _ _ _ us hl => match us, hl with | [_], _ => rfl,
    g_finding_holds := PySem.W.mg_of X G a_finding_holds,
    f__law_text := f__law_text,
    fd__law_text := _,
    F__law_text := fun_mk (st := s__law_text) l__law_text q__law_text k__law_text,
    b__law_text := (fun_mk (st := s__law_text) l__law_text q__law_text k__law_text).binds (ps := ["_law_w"]) fun _ _ _ _ _ _ us hl => match us, hl with | [_], _ => rfl,
    g__law_text := PySem.W.mg_of X G a__law_text,
    f_law := f_law,
    fd_law := _,
    F_law := fun_mk (st := s_law) l_law q_law k_law,
    b_law := (fun_mk (st := s_law) l_law q_law k_law).binds (ps := ["_law_script"]) fun _ _ _ _ _ _ us hl => match us, hl with | [_], _ => rfl,
    g_law := PySem.W.mg_of X G a_law,
    z_int := PySem.W.mg_none_of X G z_int,
    z_list := PySem.W.mg_none_of X G z_list,
    z_range := PySem.W.mg_none_of X G z_range,
    z_len := PySem.W.mg_none_of X G z_len,
    z_sorted := PySem.W.mg_none_of X G z_sorted,
    z_tuple := PySem.W.mg_none_of X G z_tuple,
    z_enumerate := PySem.W.mg_none_of X G z_enumerate,
    z_isinstance := PySem.W.mg_none_of X G z_isinstance,
    z_bool := PySem.W.mg_none_of X G z_bool,
    z_str := PySem.W.mg_none_of X G z_str,
    d_SIZES := ⟨D_SIZES, es_SIZES, n_SIZES, PySem.W.mg_of X G aD_SIZES, ⟨lD_SIZES, kD_SIZES, oD_SIZES⟩, (tab_cons vD_SIZES_0 tab_nil)⟩,
    g_SETTLES := ⟨_, PySem.W.mg_of X G g_SETTLES⟩,
    ex_BadText := ⟨ei_BadText, ov_BadText, xb_BadText, xx_BadText, xy_BadText, kc_BadText, hd_BadText, sa_BadText, xm_BadText, xs_BadText, xth, xg_BadText, xh_BadText⟩,
    c_BadText := PySem.W.mg_of X G aC_BadText,
    xf_BadText := ⟨fIxBadText, ia_BadText, ib_BadText, ⟨ocxBadText, kVxBadText, dcxBadText, pmxBadText, _, ctxBadText, clcxBadText, cllxBadText, odxBadText, anxBadText, cldxBadText, cddxBadText, oslxBadText, cslxBadText, ccsxBadText, cdaxBadText, ccxBadText, vsxBadText, flxBadText, tfxBadText, ic_BadText, rfl, id_BadText, ie_BadText, if_BadText, ig_BadText, ih_BadText⟩, PySem.W.mg_none_of X G z_super, ztop⟩,
    n_BadText_place := n_BadText_place,
    g_BREAK := ⟨_, PySem.W.mg_of X G g_BREAK⟩,
    g_BLANK := ⟨_, PySem.W.mg_of X G g_BLANK⟩,
    g_RULE_PARTS := ⟨_, PySem.W.mg_of X G g_RULE_PARTS⟩,
    g_COLUMNS_WORD := ⟨_, PySem.W.mg_of X G g_COLUMNS_WORD⟩,
    g_NONE := ⟨_, PySem.W.mg_of X G g_NONE⟩,
    g_LETTERS := ⟨_, PySem.W.mg_of X G g_LETTERS⟩,
    z_all := PySem.W.mg_none_of X G z_all,
    z_zip := PySem.W.mg_none_of X G z_zip,
    cl_Scheme := ⟨pg_Scheme, hd_Scheme, po_Scheme, sa_Scheme⟩,
    n_Scheme_columns := n_Scheme_columns,
    n_Scheme_rules := n_Scheme_rules,
    mk_Scheme := ⟨mk_Scheme, a_Scheme___init__, i_Scheme___init__, kc_Scheme⟩,
    g_RULE_WORDS := ⟨_, PySem.W.mg_of X G g_RULE_WORDS⟩,
    g_RULE_WORD := ⟨_, PySem.W.mg_of X G g_RULE_WORD⟩,
    c_Scheme := PySem.W.mg_of X G aC_Scheme,
    cr_Scheme := ⟨rd_Scheme, rg_Scheme⟩,
    cm_Scheme_read := ⟨_, ⟨cf_Scheme_read, ⟨_, cg_Scheme_read⟩, ch_Scheme_read⟩⟩,
    sb_BadText_BadText := sb_BadText_BadText,
    kw_finding_holds_0_thing := kw_finding_holds_0_thing (fun_mk (st := s_finding_holds) l_finding_holds q_finding_holds k_finding_holds),
    z_repr := PySem.W.mg_none_of X G z_repr }
  refine ⟨R.fd_law, fun s u => (.of_eq ?_), fun base _ _ => ok_law R (hm R.c)⟩
  rfl
end
def eC4 (rs : List Rule) (b : List Nat) (st : List Nat × List Nat) (before : Int) (x4 x5 : Cell) : Env := [.dat (.lst (rs.map dR)), .dat (.lst (b.map dC)), .own (.lst (st.1.map dC)), .dat (.int before), x4, x5, .no]
abbrev bodyC4 : SF := sIf (tAnd' (tB (eOp (gInQ true) (eV 5) (eV 2))) (tB (eOp gEq (eN (nComp [6] (iSq (eV 4)) (gN 6) (tB (eOp (gInQ true) (eV 6) (eV 2))) (eV 6))) (eN nNil)))) (sEx (eOM 2 gApp (aC (eV 5) aN))) sNx
theorem pass4_ok (R : List Rule) (b : List Nat) (before : Int) : ∀ (rs : List Rule) (i : Nat) (st : List Nat × List Nat) (x4 x5 : Cell), st.1.length + rs.length ≤ 1000 →
    ∃ y4 y5, forL (gT (gCons' (gN 4) (gCons' (gN 5) gNil'))) bodyC4 (rs.map dR) (eC4 R b st before x4 x5) = .ok (.nx, eC4 R b (passF rs i st) before y4 y5)
  | [], i, st, x4, x5, _ => ⟨x4, x5, rfl⟩
  | r :: rs, i, st, x4, x5, h1 => by
    have hs : (stepF st i r).1.length ≤ st.1.length + 1 := by
      unfold stepF
      split <;> simp
    rw [List.length_cons] at h1
    obtain ⟨y4, y5, hy⟩ := pass4_ok R b before rs (i + 1) (stepF st i r) (.dat (dS r.1)) (.dat (dC r.2)) (by omega)
    refine ⟨y4, y5, ?_⟩
    rw [List.map_cons, forL]
    show (bodyC4 (eC4 R b st before (.dat (dS r.1)) (.dat (dC r.2)))).bind _ = _
    have hb : bodyC4 (eC4 R b st before (.dat (dS r.1)) (.dat (dC r.2))) = .ok (.nx, eC4 R b (stepF st i r) before (.dat (dS r.1)) (.dat (dC r.2))) := by
      have gl : st.1.length < 16777216 := by omega
      have ef : (r.1.filter fun x => !decide (x ∈ st.1)).isEmpty = r.1.all fun c => decide (c ∈ st.1) := by
        rw [Bool.eq_iff_iff, List.isEmpty_iff, List.filter_eq_nil_iff, List.all_eq_true]
        simp
      cases q1 : decide (r.2 ∈ st.1) <;> cases q2 : r.1.all (fun c => decide (c ∈ st.1)) <;>
        simp [eC4, eV, compL_res, q1, q2, ef, gApp_ok, gl, stepF, -List.all_eq_true, -List.all_eq_false, -decide_eq_true_eq, -decide_eq_false_iff_not]
    rw [hb]
    exact hy
abbrev testC4 : BF := tB (eOp gNe (eV 3) (eCall gLen (aC (eV 2) aN)))
abbrev turnC4 : SF := sSeq (sSet 3 (eCall gLen (aC (eV 2) aN))) (sFor (iSq (eV 0)) (gT (gCons' (gN 4) (gCons' (gN 5) gNil'))) bodyC4)
theorem while4_ok (R : List Rule) (b : List Nat) (hR : R.length + b.length ≤ 500) : ∀ (n : Nat) (st : List Nat × List Nat) (before : Int) (x4 x5 : Cell), IvS R b st → (before = (st.1.length : Nat) → passF R 0 st = st) →
    (before ≠ (st.1.length : Nat) → R.length - st.2.length + 2 ≤ n) → 1 ≤ n → ∃ st' y4 y5, whileL testC4 turnC4 n (eC4 R b st before x4 x5) = .ok (.nx, eC4 R b st' (st'.1.length : Nat) y4 y5) ∧ IvS R b st' ∧ passF R 0 st' = st'
  | 0, _, _, _, _, _, _, _, h => by omega
  | n + 1, st, before, x4, x5, iv, hp, hn, _ => by
    have t : testC4 (eC4 R b st before x4 x5) = .ok (!decide (before = ((st.1.map dC).length : Nat)), eC4 R b st before x4 x5) := by
      simp [eC4, eV, rds, rd, gLen]
    by_cases hb : before = (st.1.length : Nat)
    · refine ⟨st, x4, x5, ?_, iv, hp hb⟩
      rw [whileL, t, List.length_map, decide_eq_true hb]
      subst hb
      rfl
    · have hl := iv_len iv
      obtain ⟨y4, y5, hy⟩ := pass4_ok R b (st.1.length : Nat) R 0 st x4 x5 (by omega)
      have iv2 := pass_iv R 0 st rfl iv
      have hl2 := iv_len iv2
      have tu : turnC4 (eC4 R b st before x4 x5) = .ok (.nx, eC4 R b (passF R 0 st) (st.1.length : Nat) y4 y5) := by
        unfold eC4 at hy ⊢
        simp [turnC4, eV, rds, rd, gLen]
        exact hy
      have len1 : ∀ {s : List Nat × List Nat}, IvS R b s → s.1.length = b.length + s.2.length := fun {s} h => by
        rw [h.eq, List.length_append, rights_map h.lt, List.length_map]
      have hgrow : passF R 0 st ≠ st → st.2.length + 1 ≤ (passF R 0 st).2.length := fun ne => by
        obtain ⟨a, c, e, hl⟩ := pass_grow R 0 st
        have hc : c ≠ [] := fun z => ne (pass_same (by rw [e, z]; simp))
        have : 0 < c.length := List.length_pos_iff.mpr hc
        rw [e, List.length_append]; omega
      have hn2 := hn hb
      have l1 := len1 iv
      have l2 := len1 iv2
      obtain ⟨st', z4, z5, hz, iv', hf⟩ := while4_ok R b hR n (passF R 0 st) (st.1.length : Nat) y4 y5 iv2 (fun e => by
          have e : (passF R 0 st).2.length = st.2.length := by omega
          rw [pass_same e]
          exact pass_same e) (fun e => by
          have ne : passF R 0 st ≠ st := fun z => e (by rw [z])
          have := hgrow ne
          omega) (by omega)
      refine ⟨st', z4, z5, ?_, iv', hf⟩
      rw [whileL, t, List.length_map, decide_eq_false hb]
      show (turnC4 (eC4 R b st before x4 x5)).bind _ = _
      rw [tu]
      exact hz
theorem m_closure4_ok (c : CA) (R : List Rule) (b : List Nat) (hb : b.Nodup) (hR : R.length + 3 ≤ 64) (hR2 : b.length ≤ 400) : ∃ st, m__law_closure c [.lst (R.map dR), .lst (b.map dC)] = .ok (.lst ((sortB ltN st.1).map dC)) ∧ IvS R b st ∧ passF R 0 st = st := by
  obtain ⟨st, y4, y5, h, iv, hf⟩ := while4_ok R b (by omega) 64 (b, []) (-1) .no .no (iv_start hb) (fun e => by simp at e) (fun _ => by simp; omega) (by omega)
  refine ⟨st, ?_, iv, hf⟩
  unfold m__law_closure
  apply runP_ok
  unfold b__law_closure
  unfold eC4 testC4 turnC4 bodyC4 at h
  have hls : gList [.lst (b.map dC)] = some (.lst (b.map dC)) := rfl
  simp [eV, nos, List.replicate, hls, h]
theorem m_within4_ok (c : CA) (a b : List Nat) : m__law_is_within c [.lst (a.map dC), .lst (b.map dC)] = .ok (.bl (a.all fun x => decide (x ∈ b))) := by
  have ef : (a.filter fun x => !decide (x ∈ b)).isEmpty = a.all fun c => decide (c ∈ b) := by
    rw [Bool.eq_iff_iff, List.isEmpty_iff, List.filter_eq_nil_iff, List.all_eq_true]
    simp
  unfold m__law_is_within
  apply runP_ok
  unfold b__law_is_within
  simp [ef, -List.all_eq_true, -List.all_eq_false]
theorem m_within4_S (c : CA) (a b : List Nat) : m__law_is_within c [dS a, .lst (b.map dC)] = .ok (.bl (a.all fun x => decide (x ∈ b))) := by
  have ef : (a.filter fun x => !decide (x ∈ b)).isEmpty = a.all fun c => decide (c ∈ b) := by
    rw [Bool.eq_iff_iff, List.isEmpty_iff, List.filter_eq_nil_iff, List.all_eq_true]
    simp
  unfold m__law_is_within
  apply runP_ok
  unfold b__law_is_within
  simp [ef, -List.all_eq_true, -List.all_eq_false]
theorem sIx_nat (n d k : Nat) : HT.sIx n d (some (k : Int)) = min k n := by
  unfold HT.sIx
  have : ¬ ((k : Int) < 0) := by omega
  simp [this]
theorem take_min {α : Type} (l : List α) (k : Nat) : l.take (min k l.length) = l.take k := by
  rcases Nat.le_total k l.length with h | h
  · rw [Nat.min_eq_left h]
  · rw [Nat.min_eq_right h, List.take_of_length_le (Nat.le_refl _), List.take_of_length_le h]
theorem drop_min {α : Type} (l : List α) (k : Nat) : l.drop (min k l.length) = l.drop k := by
  rcases Nat.le_total k l.length with h | h
  · rw [Nat.min_eq_left h]
  · rw [Nat.min_eq_right h, List.drop_of_length_le (Nat.le_refl _), List.drop_of_length_le h]
theorem dSl_to (w : List Nat) (k : Nat) : gSl (dS w) none (some (k : Int)) = some (dS (w.take k)) := by
  show some (D.str (T ((w.drop (HT.sIx w.length 0 none)).take (HT.sIx w.length w.length (some (k : Int)) - HT.sIx w.length 0 none)))) = _
  rw [sIx_nat, show HT.sIx w.length 0 none = 0 from rfl, List.drop_zero, Nat.sub_zero, take_min]; rfl
theorem lSl_from (f : α → D) (l : List α) (k : Nat) : gSl (.lst (l.map f)) (some (k : Int)) none = some (.lst ((l.drop k).map f)) := by
  show some (D.lst (((l.map f).drop (HT.sIx (l.map f).length 0 (some (k : Int)))).take (HT.sIx (l.map f).length (l.map f).length none - HT.sIx (l.map f).length 0 (some (k : Int))))) = _
  rw [sIx_nat, show HT.sIx (l.map f).length (l.map f).length none = (l.map f).length from rfl, drop_min, List.take_of_length_le (by rw [List.length_drop]; omega), List.map_drop]
theorem gAdd_map (f : α → D) (a b : List α) (h : a.length + b.length ≤ 16777216) : gAdd (.lst (a.map f)) (.lst (b.map f)) = some (.lst ((a ++ b).map f)) := by
  rw [List.map_append]
  exact gAdd_lst _ _ (by rw [List.length_map, List.length_map]; exact h)
/-- what the parts come to -/
def sizeP (l : List (List Nat)) : Nat := (l.map (·.length)).sum + l.length
theorem m_pick_ok {α : Type} (c : CA) (a q : Addr) (l : List Int) (b : Int) (d : D) (L : List α) (f : α → D) (hlen : gLen [d] = some (.int L.length)) (hix : ∀ i : Nat, gIx d (.int i) = (L[i]?).map f) (hne : L ≠ []) (hL : L.length ≤ 1000) (hl : l.length ≤ 63) :
    ∃ x ∈ L, ∃ l' b', m__law_pick c a q ⟨l, b⟩ [d] = .ok (f x, ⟨l', b'⟩) ∧ l'.length ≤ 63 := by
  have h0 : 0 < L.length := List.length_pos_iff.mpr hne
  obtain ⟨v, l', b', e, hv, hl'⟩ := draw_ok a q l b L.length (by omega) (by omega) hl
  have hv : v < L.length := by omega
  refine ⟨L[v], List.getElem_mem hv, l', b', ?_, hl'⟩
  refine runK_eq (E := [.dat d]) ?_
  unfold b__law_pick
  simp [m__law_draw, hlen, e, hix, hv]
theorem m_pick_lst {α : Type} (c : CA) (a q : Addr) (l : List Int) (b : Int) (L : List α) (f : α → D) (hne : L ≠ []) (hL : L.length ≤ 1000) (hl : l.length ≤ 63) :
    ∃ x ∈ L, ∃ l' b', m__law_pick c a q ⟨l, b⟩ [.lst (L.map f)] = .ok (f x, ⟨l', b'⟩) ∧ l'.length ≤ 63 :=
  m_pick_ok c a q l b _ L f (by simp [gLen]) (fun i => by rw [gIx_lst_nat, List.getElem?_map]) hne hL hl
abbrev rowF (cols : List Nat) (R : List Rule) (win com hid rst : List Nat) : List (Key × D) := [(.inr "columns", dS cols), (.inr "rules", .tup (R.map dR)), (.inr "window", dS win), (.inr "common", dS com), (.inr "hidden", dS hid), (.inr "rest", dS rst)]
def dFr (cols : List Nat) (R : List Rule) (win com hid rst : List Nat) : D := .dic (rowF cols R win com hid rst)
theorem gGet_F (cols : List Nat) (R : List Rule) (win com hid rst : List Nat) (x : Str) : gGet (dFr cols R win com hid rst) (.str x) = lkM (rowF cols R win com hid rst) (.inr x) := rfl
theorem lk_hit {k : Key} {v : D} {r : List (Key × D)} : lkM ((k, v) :: r) k = some v := by
  unfold lkM
  rw [List.find?_cons_of_pos (by simp)]; rfl
theorem lk_skip {k k' : Key} {v : D} {r : List (Key × D)} (h : ¬ k = k') : lkM ((k, v) :: r) k' = lkM r k' := by
  unfold lkM
  rw [List.find?_cons_of_neg (by simpa using h)]
section
variable (cols : List Nat) (R : List Rule) (win com hid rst : List Nat)
@[simp] theorem gFr_columns : gGet (dFr cols R win com hid rst) (.str "columns") = some (dS cols) := by
  rw [gGet_F]; exact lk_hit
@[simp] theorem gFr_rules : gGet (dFr cols R win com hid rst) (.str "rules") = some (.tup (R.map dR)) := by
  rw [gGet_F]; exact (lk_skip (by decide +kernel)).trans lk_hit
@[simp] theorem gFr_window : gGet (dFr cols R win com hid rst) (.str "window") = some (dS win) := by
  rw [gGet_F]; exact (lk_skip (by decide +kernel)).trans ((lk_skip (by decide +kernel)).trans lk_hit)
@[simp] theorem gFr_common : gGet (dFr cols R win com hid rst) (.str "common") = some (dS com) := by
  rw [gGet_F]; exact (lk_skip (by decide +kernel)).trans ((lk_skip (by decide +kernel)).trans ((lk_skip (by decide +kernel)).trans lk_hit))
@[simp] theorem gFr_hidden : gGet (dFr cols R win com hid rst) (.str "hidden") = some (dS hid) := by
  rw [gGet_F]; exact (lk_skip (by decide +kernel)).trans ((lk_skip (by decide +kernel)).trans ((lk_skip (by decide +kernel)).trans ((lk_skip (by decide +kernel)).trans lk_hit)))
@[simp] theorem gFr_rest : gGet (dFr cols R win com hid rst) (.str "rest") = some (dS rst) := by
  rw [gGet_F]; exact (lk_skip (by decide +kernel)).trans ((lk_skip (by decide +kernel)).trans ((lk_skip (by decide +kernel)).trans ((lk_skip (by decide +kernel)).trans ((lk_skip (by decide +kernel)).trans lk_hit))))
end
theorem merge_4 (c r w m : D) : mergeM [] [((.inr "columns" : Key), c), (.inr "rules", r), (.inr "window", w), (.inr "common", m)] = [(.inr "columns", c), (.inr "rules", r), (.inr "window", w), (.inr "common", m)] := by
  have h1 : ¬ ((Sum.inr "columns" : Key) = .inr "rules") := by decide +kernel
  have h2 : ¬ ((Sum.inr "columns" : Key) = .inr "window") := by decide +kernel
  have h3 : ¬ ((Sum.inr "columns" : Key) = .inr "common") := by decide +kernel
  have h4 : ¬ ((Sum.inr "rules" : Key) = .inr "window") := by decide +kernel
  have h5 : ¬ ((Sum.inr "rules" : Key) = .inr "common") := by decide +kernel
  have h6 : ¬ ((Sum.inr "window" : Key) = .inr "common") := by decide +kernel
  unfold mergeM
  simp [putM, h1, h2, h3, h4, h5, h6]
theorem put2_F (cols : List Nat) (R : List Rule) (win com hid rst : List Nat) : put2 "hidden" "rest" (.dic [(.inr "columns", dS cols), (.inr "rules", .tup (R.map dR)), (.inr "window", dS win), (.inr "common", dS com)]) (.tup [dS hid, dS rst]) = some (dFr cols R win com hid rst) := by
  have h1 : ¬ ((Sum.inr "columns" : Key) = .inr "hidden") := by decide +kernel
  have h2 : ¬ ((Sum.inr "rules" : Key) = .inr "hidden") := by decide +kernel
  have h3 : ¬ ((Sum.inr "window" : Key) = .inr "hidden") := by decide +kernel
  have h4 : ¬ ((Sum.inr "common" : Key) = .inr "hidden") := by decide +kernel
  have g1 : ¬ ((Sum.inr "columns" : Key) = .inr "rest") := by decide +kernel
  have g2 : ¬ ((Sum.inr "rules" : Key) = .inr "rest") := by decide +kernel
  have g3 : ¬ ((Sum.inr "window" : Key) = .inr "rest") := by decide +kernel
  have g4 : ¬ ((Sum.inr "common" : Key) = .inr "rest") := by decide +kernel
  have g5 : ¬ ((Sum.inr "hidden" : Key) = .inr "rest") := by decide +kernel
  unfold dFr rowF put2
  simp [putM, h1, h2, h3, h4, g1, g2, g3, g4, g5]
structure Frm (cols : List Nat) (R : List Rule) (win com hid : List Nat) : Prop where
  s : Sch cols R
  c3 : 3 ≤ cols.length
  c6 : cols.length ≤ 6
  rl : R.length ≤ 9
  wsub : win.Sublist cols
  csub : com.Sublist win
  perm : (hid ++ win).Perm cols
  hA : Asc hid
  h1 : 1 ≤ hid.length
  h2 : hid.length ≤ 2
  wh : (∀ x ∈ win, InClo R com x) ∨ (∀ x ∈ hid, InClo R com x)
theorem InClo.more {R R' : List Rule} {b : List Nat} (h : ∀ r ∈ R, r ∈ R') {x : Nat} (z : InClo R b x) : InClo R' b x := by
  induction z with
  | base hb => exact .base hb
  | step hr _ ih => exact .step (h _ hr) ih
def X3 : List (List Nat) := [[97, 98, 99, 100, 101, 102], [97, 99, 101, 103, 105, 107], [117, 118, 119, 120, 121, 122]]
theorem x3_1 : D.str (Str.ofString "abcdef") = dS [97, 98, 99, 100, 101, 102] := lit (by decide +kernel)
theorem x3_2 : D.str (Str.ofString "acegik") = dS [97, 99, 101, 103, 105, 107] := lit (by decide +kernel)
theorem x3_3 : D.str (Str.ofString "uvwxyz") = dS [117, 118, 119, 120, 121, 122] := lit (by decide +kernel)
theorem x3_ok : ∀ x ∈ X3, Asc x ∧ x.length = 6 ∧ ∀ y ∈ x, y ∈ letters := by
  intro x hx
  rw [letters_eq]
  simp only [X3, List.mem_cons, List.not_mem_nil, or_false] at hx
  rcases hx with rfl | rfl | rfl <;> exact ⟨ordN.ascB.mp (by decide), rfl, by decide⟩
theorem erase_sub {α : Type} : ∀ (l : List α) (i : Nat), (l.eraseIdx i).Sublist l
  | [], _ => List.Sublist.refl _
  | x :: l, 0 => List.sublist_cons_self x l
  | x :: l, i + 1 => (erase_sub l i).cons_cons x
theorem popF_step (c : CA) (a q : Addr) (l l3 : List Int) (b b3 : Int) (G : List D → List D → Option (D × List D)) (pool cs : List Nat) (x1 x2 x3 x4 x7 x8 x9 x10 x11 x12 x13 x14 : Cell) (u x : Nat) (pool' : List Nat) (e3 : drawR a q { l := l, b := b } [D.int pool.length] = Res.ok (D.int u, { l := l3, b := b3 }))
   (hg : G (pool.map dC) [D.int u] = some (dC x, pool'.map dC)) (hcs : cs.length < 16777216) :
  sEx (eOM 6 gApp (aC (eOM 5 G (aC (eK 0 1 (m__law_draw c) (aC (eCall gLen (aC (eV 5) aN)) aN)) aN)) aN)) [.deck a q l b, x1, x2, x3, x4, .own (.lst (pool.map dC)), .own (.lst (cs.map dC)), x7, x8, x9, x10, x11, x12, x13, x14] =
   .ok (.nx, [.deck a q l3 b3, x1, x2, x3, x4, .own (.lst (pool'.map dC)), .own (.lst ((cs ++ [x]).map dC)), x7, x8, x9, x10, x11, x12, x13, x14]) := by
  simp [m__law_draw, gLen, e3, hg, gApp_ok, hcs]
/-- what is drawn so far of a rule -/
def RuOk (cols : List Nat) (p : Rule) : Prop := Asc p.1 ∧ (∀ x ∈ p.1, x ∈ cols) ∧ p.2 ∈ cols ∧ p.2 ∉ p.1
theorem put_nodup {rs : List Rule} {r : Rule} (h : rs.Nodup) : (if r ∈ rs then rs else rs ++ [r]).Nodup := by
  split
  · exact h
  · rename_i hno
    rw [List.nodup_append]
    refine ⟨h, by simp, fun p hp' p' hp'' e => ?_⟩
    rw [List.mem_singleton.mp hp''] at e
    exact hno (e ▸ hp')
theorem put_mem {rs : List Rule} {r p : Rule} : p ∈ (if r ∈ rs then rs else rs ++ [r]) ↔ p ∈ rs ∨ p = r := by
  split
  · rename_i h
    exact ⟨.inl, fun z => z.elim id fun e => e ▸ h⟩
  · rw [List.mem_append, List.mem_singleton]
theorem put_len {rs : List Rule} {r : Rule} : (if r ∈ rs then rs else rs ++ [r]).length ≤ rs.length + 1 := by
  split <;> simp
theorem m_frame4_ok (c : CA) (a q : Addr) (l : List Int) (b : Int) (wide dark : Nat) (hw : 3 ≤ wide) (hw6 : wide ≤ 6) (hd : 1 ≤ dark) (hd2 : dark ≤ 2) (hl : l.length ≤ 63) :
    ∃ cols R win com hid l' b', m__law_frame c a q ⟨l, b⟩ [.int wide, .int dark] = .ok (dFr cols R win com hid (sortB ltN (com ++ hid)), ⟨l', b'⟩) ∧ Frm cols R win com hid ∧ l'.length ≤ 63 := by
  obtain ⟨d', l', b', e, cols, R, win, com, hid, hd', h⟩ : ∃ d' l' b', runK (b__law_frame c) 12 a q ⟨l, b⟩ [.int wide, .int dark] = .ok (d', ⟨l', b'⟩) ∧ ∃ cols R win com hid, d' = dFr cols R win com hid (sortB ltN (com ++ hid)) ∧ Frm cols R win com hid ∧ l'.length ≤ 63 := by
    apply runK_ok
    unfold b__law_frame
    obtain ⟨v, l1, b1, e1, hv, hl1⟩ := draw_ok a q l b (wide - 2) (by omega) (by omega) hl
    refine seq_eq (E' := [.deck a q l1 b1, .dat (.int wide), .dat (.int dark), .dat (.int (3 + (v : Int))), .no, .no, .no, .no, .no, .no, .no, .no, .no, .no, .no]) (by simp [m__law_draw, e1]) ?_
    obtain ⟨X, hX, l2, b2, e2, hl2⟩ := m_pick_lst c a q l1 b1 X3 dS (by simp [X3]) (by simp [X3]) hl1
    obtain ⟨xA, xL, xl⟩ := x3_ok X hX
    have hsl : gSl (dS X) none (some (3 + (v : Int))) = some (dS (X.take (3 + v))) := by
      have h := dSl_to X (3 + v)
      rwa [Int.natCast_add] at h
    have e2 : m__law_pick c a q ⟨l1, b1⟩ [.lst [.str (Str.ofString "abcdef"), .str (Str.ofString "acegik"), .str (Str.ofString "uvwxyz")]] = .ok (dS X, ⟨l2, b2⟩) := by
      rw [x3_1, x3_2, x3_3]; exact e2
    obtain ⟨cols, hcols⟩ : ∃ cols, cols = X.take (3 + v) := ⟨_, rfl⟩
    rw [← hcols] at hsl
    have cA : Asc cols := hcols ▸ xA.sublist (List.take_sublist _ _)
    have cl : ∀ x ∈ cols, x ∈ letters := fun x hx => xl x (List.mem_of_mem_take (hcols ▸ hx))
    have clen : cols.length = 3 + v := by rw [hcols, List.length_take, xL]; omega
    have c6 : cols.length ≤ 6 := by omega
    clear hcols hX xA xL xl
    have hsm3 : ∀ (a b c : D) r, small [a, b, c] r = r := fun _ _ _ _ => small_ok (by simp)
    refine seq_eq (E' := [.deck a q l2 b2, .dat (.int wide), .dat (.int dark), .dat (.int (3 + (v : Int))), .dat (dS cols), .no, .no, .no, .no, .no, .no, .no, .no, .no, .no]) (by simp [e2, hsl, hsm3]) ?_
    clear e1 e2 hsl
    refine seq_eq (E' := [.deck a q l2 b2, .dat (.int wide), .dat (.int dark), .dat (.int (3 + (v : Int))), .dat (dS cols), .own (.lst (cols.map dC)), .own (.lst []), .own (.dit []), .no, .no, .no, .no, .no, .no, .no]) (by simp [gListX_dS]) ?_
    obtain ⟨u, l3, b3, e3, hu, hl3⟩ := draw_ok a q l2 b2 dark (by omega) (by omega) hl2
    have hr : 1 + (u : Int) ≤ 16777216 ∧ -4611686018427387904 ≤ 1 + (u : Int) := by omega
    have hr2 : (1 + (u : Int)).toNat = 1 + u := by omega
    refine seq_for (fun i : Nat => D.int i) (fun r E => ∃ lf hd l b x8, E = [.deck a q l b, .dat (.int wide), .dat (.int dark), .dat (.int (3 + (v : Int))), .dat (dS cols), .own (.lst (lf.map dC)), .own (.lst (hd.map dC)), .own (.dit []), x8, .no, .no, .no, .no, .no, .no] ∧ lf.Sublist cols ∧ (hd ++ lf).Perm cols ∧ hd.length + r.length = 1 + u ∧ l.length ≤ 63) (List.range (1 + u)) (E' := [.deck a q l3 b3, .dat (.int wide), .dat (.int dark), .dat (.int (3 + (v : Int))), .dat (dS cols), .own (.lst (cols.map dC)), .own (.lst []), .own (.dit []), .no, .no, .no, .no, .no, .no, .no]) (by simp [m__law_draw, e3, hr, hr2, rgD_map]) ⟨cols, [], l3, b3, .no, rfl, List.Sublist.refl _, List.Perm.refl _, by simp, hl3⟩ ?_ ?_
    · rintro i r _ ⟨lf, hd, l4, b4, x8, rfl, hsub, hp, hc, hl4⟩
      refine ⟨_, rfl, ?_⟩
      have hpl := hp.length_eq
      rw [List.length_append] at hpl
      simp only [List.length_cons] at hc
      obtain ⟨w, l5, b5, e5, hw5, hl5⟩ := draw_ok a q l4 b4 lf.length (by omega) (by omega) hl4
      have hwl : w < lf.length := by omega
      have hg := gPopAt_nat dC lf w hwl (by omega)
      refine Ok.of (popF_step c a q l4 l5 b4 b5 gPopAt lf hd _ _ _ _ _ _ _ _ _ _ _ _ w lf[w] _ e5 hg (by omega)) ?_
      refine ⟨.inl rfl, lf.eraseIdx w, hd ++ [lf[w]], l5, b5, .dat (.int i), rfl, (erase_sub lf w).trans hsub, ?_, by simp; omega, hl5⟩
      refine List.Perm.trans ?_ hp
      rw [List.append_assoc]
      exact (erase_perm lf w hwl).append_left hd
    · rintro _ ⟨win, hdn, l4, b4, x8, rfl, wsub, hp, hc, hl4⟩
      have hc : hdn.length = 1 + u := by simpa using hc
      have hpl := hp.length_eq
      rw [List.length_append] at hpl
      have wne : win ≠ [] := fun z => by rw [z] at hpl; simp at hpl; omega
      have wA : Asc win := cA.sublist wsub
      clear e3 hr hr2
      refine seq_ok (Ok.mono (P := fun p => p.1 = .nx ∧ ∃ (com : List Nat) (l : List Int) (b : Int), p.2 = [.deck a q l b, .dat (.int wide), .dat (.int dark), .dat (.int (3 + (v : Int))), .dat (dS cols), .dat (.lst (win.map dC)), .own (.lst (hdn.map dC)), .own (dT []), x8, .dat (.lst (com.map dC)), .no, .no, .no, .no, .no] ∧ com.Sublist win ∧ l.length ≤ 63) ?_ ?_)
      · refine Ok.cps fun P hP => ?_
        simp [Ok_bind, -compL_res']
        refine compL_sub dC (fun E => ∃ l b, E = [.deck a q l b, .dat (.int wide), .dat (.int dark), .dat (.int (3 + (v : Int))), .dat (dS cols), .dat (.lst (win.map dC)), .own (.lst (hdn.map dC)), .own (.dit []), x8, .no, .no, .no, .no, .no, .no] ∧ l.length ≤ 63) (fun _ => True) win ⟨_, _, rfl, hl4⟩ ?_ ?_
        · rintro y hy _ ⟨l6, b6, rfl, hl6⟩
          refine ⟨_, rfl, ?_⟩
          refine Ok.cps fun P hP => ?_
          obtain ⟨w, l7, b7, e7, hw, hl7⟩ := draw_ok a q l6 b6 2 (by omega) (by omega) hl6
          simp [m__law_draw, e7]
          exact hP _ ⟨⟨_, _, rfl, hl7⟩, fun _ => ⟨by simp, trivial⟩⟩
        · rintro ls _ hsub _ ⟨l6, b6, rfl, hl6⟩
          simp
          exact hP _ ⟨rfl, ls, l6, b6, rfl, hsub, hl6⟩
      rintro ⟨_, _⟩ ⟨rfl, com0, l5, b5, rfl, hc0, hl5⟩
      clear hl4
      refine ⟨rfl, ?_⟩
      dsimp only
      refine seq_ok (Ok.mono (P := fun p => p.1 = .nx ∧ ∃ (com : List Nat) (l : List Int) (b : Int), p.2 = [.deck a q l b, .dat (.int wide), .dat (.int dark), .dat (.int (3 + (v : Int))), .dat (dS cols), .dat (.lst (win.map dC)), .own (.lst (hdn.map dC)), .own (dT []), x8, .dat (.lst (com.map dC)), .no, .no, .no, .no, .no] ∧ com.Sublist win ∧ l.length ≤ 63) ?_ ?_)
      · refine Ok.cps fun P hP => ?_
        cases com0 with
        | cons y ys =>
          have hne : gEq (.lst ((y :: ys).map dC)) (.lst []) = some (.bl false) := gEq_nilC _
          simp [hne, -List.map_cons]
          exact hP _ ⟨rfl, _, l5, b5, rfl, hc0, hl5⟩
        | nil =>
          have hne : gEq (.lst (([] : List Nat).map dC)) (.lst []) = some (.bl true) := gEq_nilC _
          obtain ⟨w, l6, b6, e6, hw, hl6⟩ := draw_ok a q l5 b5 4 (by omega) (by omega) hl5
          by_cases h0 : 0 < w
          · obtain ⟨y, hy, l7, b7, e7, hl7⟩ := m_pick_lst c a q l6 b6 win dC wne (by omega) hl6
            have hsm1 : ∀ (d : D) r, small [d] r = r := fun _ _ => small_ok (by simp)
            simp [hne, m__law_draw, e6, h0, e7, hsm1, -List.map_nil]
            exact hP _ ⟨rfl, [y], l7, b7, rfl, List.singleton_sublist.mpr hy, hl7⟩
          · simp [hne, m__law_draw, e6, h0, -List.map_nil]
            exact hP _ ⟨rfl, [], l6, b6, rfl, hc0, hl6⟩
      rintro ⟨_, _⟩ ⟨rfl, com, l6, b6, rfl, csub, hl6⟩
      clear hc0 hl5
      refine ⟨rfl, ?_⟩
      dsimp only
      have comA : Asc com := wA.sublist csub
      have comw : ∀ x ∈ com, x ∈ win := fun x hx => csub.subset hx
      have comc : ∀ x ∈ com, x ∈ cols := fun x hx => wsub.subset (comw x hx)
      have coml : com.length ≤ 6 := by
        have := csub.length_le
        have := wsub.length_le
        omega
      obtain ⟨n, l7, b7, e7, hn, hl7⟩ := draw_ok a q l6 b6 4 (by omega) (by omega) hl6
      have hn2 : (n : Int) ≤ 16777216 ∧ -4611686018427387904 ≤ (n : Int) := by omega
      refine seq_for (fun i : Nat => D.int i) (fun r E => ∃ l b x8 x11 x12 rs, E = [.deck a q l b, .dat (.int wide), .dat (.int dark), .dat (.int (3 + (v : Int))), .dat (dS cols), .dat (.lst (win.map dC)), .own (.lst (hdn.map dC)), .own (dT rs), x8, .dat (.lst (com.map dC)), .no, x11, x12, .no, .no] ∧ rs.Nodup ∧ (∀ p ∈ rs, RuOk cols p) ∧ rs.length + r.length ≤ 3 ∧ l.length ≤ 63) (List.range n) (E' := [.deck a q l7 b7, .dat (.int wide), .dat (.int dark), .dat (.int (3 + (v : Int))), .dat (dS cols), .dat (.lst (win.map dC)), .own (.lst (hdn.map dC)), .own (dT []), x8, .dat (.lst (com.map dC)), .no, .no, .no, .no, .no]) (by simp [m__law_draw, e7, hn2, rgD_map]) ⟨l7, b7, _, _, _, [], rfl, List.nodup_nil, by simp, by simp; omega, hl7⟩ ?_ ?_
      · rintro i r _ ⟨l8, b8, x8, x11, x12, rs, rfl, hrn, hrs, hrl, hl8⟩
        refine ⟨_, rfl, ?_⟩
        simp only [List.length_cons] at hrl
        refine seq_ok (Ok.mono (P := fun p => p.1 = .nx ∧ ∃ (ls : List Nat) (x : Nat) (l : List Int) (b : Int), p.2 = [.deck a q l b, .dat (.int wide), .dat (.int dark), .dat (.int (3 + (v : Int))), .dat (dS cols), .dat (.lst (win.map dC)), .own (.lst (hdn.map dC)), .own (dT rs), .dat (.int i), .dat (.lst (com.map dC)), .no, .dat (.lst (ls.map dC)), .dat (dC x), .no, .no] ∧ ls.Sublist cols ∧ x ∈ cols ∧ l.length ≤ 63) ?_ ?_)
        · refine Ok.cps fun P hP => ?_
          simp [Ok_bind, -compL_res']
          refine compL_sub dC (fun E => ∃ l b, E = [.deck a q l b, .dat (.int wide), .dat (.int dark), .dat (.int (3 + (v : Int))), .dat (dS cols), .dat (.lst (win.map dC)), .own (.lst (hdn.map dC)), .own (dT rs), .dat (.int i), .dat (.lst (com.map dC)), .no, x11, x12, .no, .no] ∧ l.length ≤ 63) (fun _ => True) cols ⟨_, _, rfl, hl8⟩ ?_ ?_
          · rintro y hy _ ⟨l9, b9, rfl, hl9⟩
            refine ⟨_, rfl, ?_⟩
            refine Ok.cps fun P hP => ?_
            obtain ⟨w, l10, b10, e10, hw, hl10⟩ := draw_ok a q l9 b9 3 (by omega) (by omega) hl9
            simp [m__law_draw, e10]
            exact hP _ ⟨⟨_, _, rfl, hl10⟩, fun _ => ⟨by simp, trivial⟩⟩
          · rintro ls _ hsub _ ⟨l9, b9, rfl, hl9⟩
            obtain ⟨x, hx, l10, b10, e10, hl10⟩ := m_pick_ok c a q l9 b9 (dS cols) cols dC (gLen_dS cols) (fun i => gIx_str_nat cols i) (fun z => by rw [z] at clen; simp at clen; omega) (by omega) hl9
            simp [e10]
            exact hP _ ⟨rfl, ls, x, l10, b10, rfl, hsub, hx, hl10⟩
        rintro ⟨_, _⟩ ⟨rfl, ls, x, l9, b9, rfl, lsub, hx, hl9⟩
        refine ⟨rfl, ?_⟩
        dsimp only
        have lsl : (ls.filter fun y => !decide (y = x)).length ≤ 6 := by
          have := List.length_filter_le (fun y => !decide (y = x)) ls
          have := lsub.length_le
          omega
        have hj := gJoin_signs (ls.filter fun y => !decide (y = x)) (by omega)
        have hsm : ∀ r, small [dS (ls.filter fun y => !decide (y = x)), dC x] r = r := fun r => small_ok (by simp)
        have hput := put_rule rs (ls.filter fun y => !decide (y = x), x) (by omega)
        refine Ok.cps fun P hP => ?_
        simp [hj, hsm, tup_dR, hput]
        refine hP _ ⟨.inl rfl, l9, b9, _, _, _, _, rfl, put_nodup hrn, ?_, ?_, hl9⟩
        · intro p hp'
          rcases put_mem.mp hp' with z | rfl
          · exact hrs p z
          · refine ⟨(cA.sublist lsub).sublist List.filter_sublist, fun y hy => lsub.subset (List.mem_filter.mp hy).1, hx, fun z => ?_⟩
            have := (List.mem_filter.mp z).2
            simp at this
        · have := put_len (rs := rs) (r := (ls.filter fun y => !decide (y = x), x))
          omega
      rintro _ ⟨l8, b8, x8, x11, x12, rs, rfl, hrn, hrs, hrl, hl8⟩
      have hrl : rs.length ≤ 3 := by simpa using hrl
      clear e7 hn2 hl6 hl7
      have rsA : rs.length < 16777216 := by omega
      obtain ⟨st, ecl, iv, fx⟩ := m_closure4_ok c rs com comA.nodup (by omega) (by omega)
      have inled : ∀ x, x ∈ sortB ltN st.1 ↔ InClo rs com x := fun x => mem_sortB.trans (clo_iff iv fx x)
      generalize sortB ltN st.1 = led at ecl inled
      clear iv fx
      have hls : nListT (aC (eV 7) aN) [.deck a q l8 b8, .dat (.int wide), .dat (.int dark), .dat (.int (3 + (v : Int))), .dat (dS cols), .dat (.lst (win.map dC)), .own (.lst (hdn.map dC)), .own (dT rs), x8, .dat (.lst (com.map dC)), .no, x11, x12, .no, .no] = .ok (.lst (rs.map dR), [.deck a q l8 b8, .dat (.int wide), .dat (.int dark), .dat (.int (3 + (v : Int))), .dat (dS cols), .dat (.lst (win.map dC)), .own (.lst (hdn.map dC)), .own (dT rs), x8, .dat (.lst (com.map dC)), .no, x11, x12, .no, .no]) := by
        have hle : rs.length ≤ 16777216 := by omega
        simp [dT, list_dT, hle, -List.map_map]
      refine seq_eq (E' := [.deck a q l8 b8, .dat (.int wide), .dat (.int dark), .dat (.int (3 + (v : Int))), .dat (dS cols), .dat (.lst (win.map dC)), .own (.lst (hdn.map dC)), .own (dT rs), x8, .dat (.lst (com.map dC)), .no, x11, x12, .dat (.lst (led.map dC)), .no]) (by simp [hls, ecl, -ap_nListT]) ?_
      clear hls ecl
      refine seq_ok (Ok.mono (P := fun p => p.1 = .nx ∧ ∃ (rs : List Rule) (x6 x10 : Cell) (l : List Int) (b : Int), p.2 = [.deck a q l b, .dat (.int wide), .dat (.int dark), .dat (.int (3 + (v : Int))), .dat (dS cols), .dat (.lst (win.map dC)), x6, .own (dT rs), x8, .dat (.lst (com.map dC)), x10, x11, x12, .dat (.lst (led.map dC)), .no] ∧ (x6 = .own (.lst (hdn.map dC)) ∨ x6 = .dat (.lst (hdn.map dC))) ∧ rs.Nodup ∧ (∀ p ∈ rs, RuOk cols p) ∧ rs.length ≤ 9 ∧ ((∀ x ∈ win, InClo rs com x) ∨ ∀ x ∈ hdn, InClo rs com x) ∧ l.length ≤ 63) ?_ ?_)
      · have w1 := m_within4_ok c win led
        have w2 := m_within4_ok c hdn led
        refine Ok.cps fun P hP => ?_
        cases q1 : win.all (fun x => decide (x ∈ led)) with
        | true =>
          rw [q1] at w1
          simp [w1]
          refine hP _ ⟨rfl, rs, _, _, l8, b8, rfl, .inl rfl, hrn, hrs, by omega, .inl fun x hx => (inled x).mp ?_, hl8⟩
          exact of_decide_eq_true (List.all_eq_true.mp q1 x hx)
        | false =>
          rw [q1] at w1
          cases q2 : hdn.all (fun x => decide (x ∈ led)) with
          | true =>
            rw [q2] at w2
            simp [w1, w2]
            refine hP _ ⟨rfl, rs, _, _, l8, b8, rfl, .inr rfl, hrn, hrs, by omega, .inr fun x hx => (inled x).mp ?_, hl8⟩
            exact of_decide_eq_true (List.all_eq_true.mp q2 x hx)
          | false =>
            rw [q2] at w2
            obtain ⟨L, hL, l9, b9, e9, hl9⟩ := m_pick_lst c a q l8 b8 [win, hdn, hdn] (fun z : List Nat => D.lst (z.map dC)) (by simp) (by simp) hl8
            have hsm3 : ∀ (a b c : D) r, small [a, b, c] r = r := fun _ _ _ _ => small_ok (by simp)
            have e9 : m__law_pick c a q ⟨l8, b8⟩ [.lst [.lst (win.map dC), .lst (hdn.map dC), .lst (hdn.map dC)]] = .ok (.lst (L.map dC), ⟨l9, b9⟩) := e9
            have hLw : L = win ∨ L = hdn := by simpa using hL
            have hLl : L.length ≤ 6 := by rcases hLw with rfl | rfl <;> omega
            have hLc : ∀ x ∈ L, x ∈ cols := fun x hx => by
              rcases hLw with rfl | rfl
              · exact wsub.subset hx
              · exact hp.mem_iff.mp (List.mem_append_left _ hx)
            have hjc := gJoin_signs com (by omega)
            refine if_yes (E' := [.deck a q l8 b8, .dat (.int wide), .dat (.int dark), .dat (.int (3 + (v : Int))), .dat (dS cols), .dat (.lst (win.map dC)), .dat (.lst (hdn.map dC)), .own (dT rs), x8, .dat (.lst (com.map dC)), .no, x11, x12, .dat (.lst (led.map dC)), .no]) (by simp [w1, w2]) ?_
            refine for_ok dC (fun r E => ∃ (x10 : Cell) (rs2 : List Rule), E = [.deck a q l9 b9, .dat (.int wide), .dat (.int dark), .dat (.int (3 + (v : Int))), .dat (dS cols), .dat (.lst (win.map dC)), .dat (.lst (hdn.map dC)), .own (dT rs2), x8, .dat (.lst (com.map dC)), x10, x11, x12, .dat (.lst (led.map dC)), .no] ∧ rs2.Nodup ∧ (∀ p ∈ rs2, RuOk cols p) ∧ rs2.length + r.length ≤ 9 ∧ (∀ p ∈ rs, p ∈ rs2) ∧ (∃ d, L = d ++ r ∧ ∀ x ∈ d, x ∈ led ∨ (com, x) ∈ rs2)) L (E' := [.deck a q l9 b9, .dat (.int wide), .dat (.int dark), .dat (.int (3 + (v : Int))), .dat (dS cols), .dat (.lst (win.map dC)), .dat (.lst (hdn.map dC)), .own (dT rs), x8, .dat (.lst (com.map dC)), .no, x11, x12, .dat (.lst (led.map dC)), .no]) (by simp [e9, hsm3]) ⟨.no, rs, rfl, hrn, hrs, by omega, fun p h => h, [], rfl, by simp⟩ ?_ ?_
            · rintro x r _ ⟨x10, rs2, rfl, hn2, ho2, hll2, hin2, d, hd2, hdd⟩
              refine ⟨_, rfl, ?_⟩
              simp only [List.length_cons] at hll2
              have hxL : x ∈ L := by rw [hd2]; simp
              cases q3 : decide (x ∈ led) with
              | true =>
                have hx : x ∈ led := of_decide_eq_true q3
                refine Ok.cps fun P hP => ?_
                simp [hx]
                refine hP _ ⟨.inl rfl, _, rs2, rfl, hn2, ho2, by omega, hin2, d ++ [x], by rw [hd2]; simp, fun y hy => ?_⟩
                rcases List.mem_append.mp hy with z | z
                · exact hdd y z
                · rw [List.mem_singleton.mp z]; exact .inl hx
              | false =>
                have hx : x ∉ led := of_decide_eq_false q3
                have hxc : x ∉ com := fun z => hx ((inled x).mpr (.base z))
                have hsm : ∀ r, small [dS com, dC x] r = r := fun r => small_ok (by simp)
                have hput := put_rule rs2 (com, x) (by omega)
                refine Ok.cps fun P hP => ?_
                simp [hx, hjc, hsm, tup_dR, hput]
                refine hP _ ⟨.inl rfl, _, _, rfl, put_nodup hn2, ?_, ?_, fun p hp => put_mem.mpr (.inl (hin2 p hp)), d ++ [x], by rw [hd2]; simp, fun y hy => ?_⟩
                · intro p hp'
                  rcases put_mem.mp hp' with z | rfl
                  · exact ho2 p z
                  · exact ⟨comA, comc, hLc x hxL, hxc⟩
                · have := put_len (rs := rs2) (r := (com, x))
                  omega
                · rcases List.mem_append.mp hy with z | z
                  · exact (hdd y z).imp id fun z => put_mem.mpr (.inl z)
                  · rw [List.mem_singleton.mp z]; exact .inr (put_mem.mpr (.inr rfl))
            · rintro _ ⟨x10, rs2, rfl, hn2, ho2, hll2, hin2, d, hd2, hdd⟩
              have hd2 : L = d := by simpa using hd2
              subst hd2
              have hall : ∀ x ∈ L, InClo rs2 com x := fun x hx => by
                rcases hdd x hx with z | z
                · exact InClo.more hin2 ((inled x).mp z)
                · exact InClo.step (r := (com, x)) z fun y hy => .base hy
              refine hP _ ⟨rfl, rs2, _, x10, l9, b9, rfl, .inr rfl, hn2, ho2, by simpa using hll2, ?_, hl9⟩
              rcases hLw with rfl | rfl
              · exact .inl hall
              · exact .inr hall
      rintro ⟨_, _⟩ ⟨rfl, rs', x6, x10, l9, b9, rfl, h6, hrn', hrs', hrl', hwh, hl9⟩
      refine ⟨rfl, ?_⟩
      dsimp only
      clear hrs hrn hrl hl8 inled
      have hjw := gJoin_signs win (by omega)
      have hjc := gJoin_signs com (by omega)
      have hdl : hdn.length ≤ 6 := by omega
      have hjh := gJoin_signs (sortB ltN hdn) (by rw [sortB_len]; omega)
      have hjr := gJoin_signs (sortB ltN (com ++ hdn)) (by rw [sortB_len, List.length_append]; omega)
      have hadd := gAdd_map dC com hdn (by omega)
      have hrl2 : rs'.length ≤ 16777216 := by omega
      have hsm : ∀ (a b : D) r, small [a, b] r = r := fun _ _ _ => small_ok (by simp)
      have dnd : (hdn ++ win).Nodup := hp.nodup_iff.mpr cA.nodup
      have hnd : hdn.Nodup := (List.nodup_append.mp dnd).1
      have hdj : ∀ x ∈ com, x ∉ hdn := fun x hx z => (List.nodup_append.mp dnd).2.2 x z x (comw x hx) rfl
      have hrst : sortB ltN (com ++ sortB ltN hdn) = sortB ltN (com ++ hdn) := by
        refine Asc.ext (Asc.sort ?_) (Asc.sort ?_) fun x => ?_
        · exact List.nodup_append.mpr ⟨comA.nodup, (Asc.sort hnd).nodup, fun x hx y hy e => hdj x hx (mem_sortB.mp (e ▸ hy))⟩
        · exact List.nodup_append.mpr ⟨comA.nodup, hnd, fun x hx y hy e => hdj x hx (e ▸ hy)⟩
        · rw [mem_sortB, mem_sortB, List.mem_append, List.mem_append, mem_sortB]
      refine seq_eq (E' := [.deck a q l9 b9, .dat (.int wide), .dat (.int dark), .dat (.int (3 + (v : Int))), .dat (dS cols), .dat (.lst (win.map dC)), x6, .own (dT rs'), x8, .dat (.lst (com.map dC)), x10, x11, x12, .dat (.lst (led.map dC)), .own (.dic [(.inr "columns", dS cols), (.inr "rules", .tup ((sortB ruleLt rs').map dR)), (.inr "window", dS win), (.inr "common", dS com)])]) (by simp [hjw, hjc, dT, hrl2, list_dT, merge_4, -List.map_map]) ?_
      have hput := put2_F cols (sortB ruleLt rs') win com (sortB ltN hdn) (sortB ltN (com ++ hdn))
      refine seq_eq (E' := [.deck a q l9 b9, .dat (.int wide), .dat (.int dark), .dat (.int (3 + (v : Int))), .dat (dS cols), .dat (.lst (win.map dC)), x6, .own (dT rs'), x8, .dat (.lst (com.map dC)), x10, x11, x12, .dat (.lst (led.map dC)), .own (dFr cols (sortB ruleLt rs') win com (sortB ltN hdn) (sortB ltN (com ++ hdn)))]) (by rcases h6 with rfl | rfl <;> simp [hjh, hjr, hadd, hsm, hput]) ?_
      refine Ok.cps fun P hP => ?_
      simp
      have hmem : ∀ r, r ∈ rs' → r ∈ sortB ruleLt rs' := fun r hr => mem_sortB.mpr hr
      refine hP _ ⟨_, l9, b9, _, rfl, cols, sortB ruleLt rs', win, com, sortB ltN hdn, by rw [hrst], ⟨⟨cA, cl, fun z => by rw [z] at clen; simp at clen; omega, fun r hr => (hrs' r (mem_sortB.mp hr)).2.1, fun r hr => (hrs' r (mem_sortB.mp hr)).1, fun r hr => (hrs' r (mem_sortB.mp hr)).2.2.1, fun r hr => (hrs' r (mem_sortB.mp hr)).2.2.2, ordR.asc hrn'⟩, by omega, c6, by rw [sortB_len]; exact hrl', wsub, csub, ?_, Asc.sort hnd, by rw [sortB_len]; omega, by rw [sortB_len]; omega, ?_⟩, hl9⟩
      · exact ((sortB_perm hdn).append_right win).trans hp
      · rcases hwh with z | z
        · exact .inl fun x hx => InClo.more hmem (z x hx)
        · exact .inr fun x hx => InClo.more hmem (z x (mem_sortB.mp hx))
  exact ⟨cols, R, win, com, hid, l', b', hd' ▸ e, h⟩
def COL : List Nat := [99, 111, 108, 117, 109, 110, 115]
def RUL : List Nat := [114, 117, 108, 101]
theorem s_col : D.str (Str.ofString "columns") = dS COL := lit (by decide +kernel)
theorem s_rul : D.str (Str.ofString "rule") = dS RUL := lit (by decide +kernel)
theorem s_colb : D.str (Str.ofString "columns ") = dS (COL ++ [32]) := lit (by decide +kernel)
theorem s_rulb : D.str (Str.ofString "rule ") = dS (RUL ++ [32]) := lit (by decide +kernel)
theorem s_minus : D.str (Str.ofString "-") = dC 45 := lit (by decide +kernel)
theorem s_blank : D.str (Str.ofString " ") = dC 32 := lit (by decide +kernel)
theorem s_break : D.str (Str.ofString "\n") = dC 10 := lit (by decide +kernel)
theorem s_e : D.str (Str.ofString "") = dS [] := lit (by decide +kernel)
def dLO : Option (List Nat) → D
  | none => .non
  | some l => dS l
def dRU : Option Rule → D
  | none => .non
  | some r => dR r
def lftO (w : List Nat) : Option (List Nat) := if w = [45] then some [] else if w ≠ [] ∧ colsB w = true then some w else none
def head1 (a w : List Nat) : Option (List Nat) := if a = COL ∧ w ≠ [45] then lftO w else none
def headW : List (List Nat) → Option (List Nat)
  | [a, w] => head1 a w
  | _ => none
def headO (l : List Nat) : Option (List Nat) := headW (splitN 32 l)
theorem headW_no {ps : List (List Nat)} (hn : ps.length ≠ 2) : headW ps = none := by
  match ps, hn with
  | [], _ => rfl
  | [_], _ => rfl
  | [_, _], hn => exact (hn rfl).elim
  | _ :: _ :: _ :: _, _ => rfl
def ruleG (cols l r : List Nat) : Bool := match r with
  | [x] => ruleB cols (l, x)
  | _ => false
def rule2 (cols l r : List Nat) : Option Rule := match r with
  | [x] => if ruleB cols (l, x) = true then some (l, x) else none
  | _ => none
theorem rule2_F {cols l r : List Nat} (h : ruleG cols l r = false) : rule2 cols l r = none := by
  match r, h with
  | [], _ => rfl
  | [x], h =>
    have h : ruleB cols (l, x) = false := h
    show (if ruleB cols (l, x) = true then some (l, x) else none) = none
    rw [h]; rfl
  | _ :: _ :: _, _ => rfl
theorem rule2_T {cols l r : List Nat} (h : ruleG cols l r = true) : ∃ x, r = [x] ∧ rule2 cols l r = some (l, x) := by
  match r, h with
  | [], h => cases h
  | [x], h =>
    have h : ruleB cols (l, x) = true := h
    refine ⟨x, rfl, ?_⟩
    show (if ruleB cols (l, x) = true then some (l, x) else none) = _
    rw [h]; rfl
  | _ :: _ :: _, h => cases h
def rule1 (cols a w r : List Nat) : Option Rule := if a = RUL then (match lftO w with
  | none => none
  | some l => rule2 cols l r) else none
def ruleW (cols : List Nat) : List (List Nat) → Option Rule
  | [a, w, r] => rule1 cols a w r
  | _ => none
def ruleO (cols l : List Nat) : Option Rule := ruleW cols (splitN 32 l)
theorem ruleW_no {cols : List Nat} {ps : List (List Nat)} (hn : ps.length ≠ 3) : ruleW cols ps = none := by
  match ps, hn with
  | [], _ => rfl
  | [_], _ => rfl
  | [_, _], _ => rfl
  | [_, _, _], hn => exact (hn rfl).elim
  | _ :: _ :: _ :: _ :: _, _ => rfl
def wordOf (l : List Nat) : List Nat := if l = [] then [45] else l
def headTx (cols : List Nat) : List Nat := COL ++ [32] ++ cols
def ruleTx (r : Rule) : List Nat := RUL ++ [32] ++ wordOf r.1 ++ [32] ++ [r.2]
def pageTx (cols : List Nat) (R : List Rule) : List Nat := jn 10 (headTx cols :: R.map ruleTx)
theorem lftO_ok {w l : List Nat} (h : lftO w = some l) : wordOf l = w ∧ colsB l = true := by
  unfold lftO at h
  split at h
  · rename_i e; cases h; exact ⟨by rw [e]; rfl, rfl⟩
  · split at h
    · rename_i e; cases h; exact ⟨by unfold wordOf; rw [if_neg e.1], e.2⟩
    · cases h
theorem headO_ok {l cols : List Nat} (h : headO l = some cols) : headTx cols = l ∧ colsB cols = true ∧ cols ≠ [] := by
  unfold headO headW at h
  split at h
  · rename_i a w e
    unfold head1 at h
    split at h
    · rename_i e2
      obtain ⟨e1, e3⟩ := lftO_ok h
      have hj := jn_split 32 l
      have hne : cols ≠ [] := fun z => by rw [z] at e1; exact e2.2 e1.symm
      have e1 : cols = w := by unfold wordOf at e1; rw [if_neg hne] at e1; exact e1
      refine ⟨?_, e3, hne⟩
      rw [e] at hj
      rw [← hj, e2.1, e1]
      unfold headTx jn jn
      simp
    · cases h
  · cases h
theorem ruleO_ok {cols l : List Nat} {r : Rule} (h : ruleO cols l = some r) : ruleTx r = l ∧ ruleB cols r = true := by
  unfold ruleO ruleW at h
  split at h
  · rename_i a w x e
    unfold rule1 at h
    split at h
    · rename_i e2
      split at h
      · cases h
      · rename_i l' e3
        obtain ⟨e1, _⟩ := lftO_ok e3
        cases hg : ruleG cols l' x with
        | false => rw [rule2_F hg] at h; cases h
        | true =>
          obtain ⟨y, rfl, e4⟩ := rule2_T hg
          rw [e4] at h
          cases h
          refine ⟨?_, hg⟩
          have hj := jn_split 32 l
          rw [e] at hj
          rw [← hj, e2]
          unfold ruleTx jn jn jn
          simp [e1]
    · cases h
  · cases h
theorem m_is_rule_g (c : CA) (cols l r : List Nat) : m_is_rule c [dS cols, .tup [dS l, dS r]] = .ok (.bl (ruleG cols l r)) := by
  match r with
  | [x] => exact m_is_rule_r c cols (l, x)
  | [] =>
    have h0 := m_are_within_str c l cols
    have h1 := m_are_within_str c [] cols
    unfold m_is_rule
    apply runP_ok
    unfold b_is_rule
    have h2 : withinB [] cols = true := rfl
    cases hl : withinB l cols <;> simp [eV, nos, List.replicate, h0, h1, hl, h2, ruleG, -List.all_eq_true, -List.all_eq_false]
  | x :: y :: z =>
    have h0 := m_are_within_str c l cols
    have h1 := m_are_within_str c (x :: y :: z) cols
    unfold m_is_rule
    apply runP_ok
    unfold b_is_rule
    have h3 : ¬ ((z.length : Int) + 1 + 1 = 1) := by omega
    cases hl : withinB l cols <;> cases hr : withinB (x :: y :: z) cols <;> simp [eV, nos, List.replicate, h0, h1, hl, hr, h3, ruleG, -List.all_eq_true, -List.all_eq_false]
theorem m_columns_in_ok (c : CA) (w : List Nat) : m_columns_in c [dS w] = .ok (dLO (lftO w)) := by
  have h0 := m_is_columns_str c w
  have h1 : gEq (dS w) (dC 45) = some (.bl (decide (w = [45]))) := gEq_dS _ [45]
  have h2 : gNe (dS w) (dS []) = some (.bl (!decide (w = []))) := gNe_dS _ _
  unfold m_columns_in
  apply runP_ok
  unfold b_columns_in
  simp only [s_minus, s_e]
  unfold lftO
  by_cases e1 : w = [45]
  · rw [decide_eq_true e1] at h1
    rw [if_pos e1]
    simp [h1, dLO]
  · rw [decide_eq_false e1] at h1
    rw [if_neg e1]
    by_cases e2 : w = []
    · rw [decide_eq_true e2] at h2
      rw [if_neg (fun z => z.1 e2)]
      simp [h1, h2, dLO]
    · rw [decide_eq_false e2] at h2
      by_cases e3 : colsB w = true
      · rw [e3] at h0
        rw [if_pos ⟨e2, e3⟩]
        simp [h1, h2, h0, dLO]
      · have e3 : colsB w = false := by simpa using e3
        rw [e3] at h0
        rw [if_neg (fun z => by rw [e3] at z; cases z.2)]
        simp [h1, h2, h0, dLO]
theorem gIx_lit0 (a : D) (l : List D) : gIx (.lst (a :: l)) (.int 0) = some a := by rw [show (0 : Int) = ((0 : Nat) : Int) from rfl, gIx_lst_nat]; rfl
theorem gIx_lit1 (a b : D) (l : List D) : gIx (.lst (a :: b :: l)) (.int 1) = some b := by rw [show (1 : Int) = ((1 : Nat) : Int) from rfl, gIx_lst_nat]; rfl
theorem gIx_lit2 (a b d : D) (l : List D) : gIx (.lst (a :: b :: d :: l)) (.int 2) = some d := by rw [show (2 : Int) = ((2 : Nat) : Int) from rfl, gIx_lst_nat]; rfl
theorem gLen_map (f : α → D) (l : List α) : gLen [.lst (l.map f)] = some (.int (l.length : Nat)) := by
  show some (D.int ((l.map f).length : Nat)) = _
  rw [List.length_map]
theorem m_head_in_ok (c : CA) {l : List Nat} (h : TxOk l) : m_head_in c [dS l] = .ok (dLO (headO l)) := by
  have hsp := gSplit_dS 32 h
  unfold m_head_in
  apply runP_ok
  unfold b_head_in
  simp only [s_minus, s_blank, s_col]
  obtain ⟨ps, hps⟩ : ∃ ps, ps = splitN 32 l := ⟨_, rfl⟩
  rw [← hps] at hsp
  have hgl := gLen_map dS ps
  refine seq_eq (E' := [.dat (dS l), .dat (.lst (ps.map dS))]) (by simp [hsp]) ?_
  unfold headO
  rw [← hps]
  clear hps hsp
  by_cases h2 : ps.length = 2
  · match ps, h2 with
    | [a, w], _ =>
      have g0 := gIx_lit0 (dS a) [dS w]
      have g1 := gIx_lit1 (dS a) (dS w) []
      have h1 : gNe (dS a) (dS COL) = some (.bl (!decide (a = COL))) := gNe_dS _ _
      have h3 : gEq (dS w) (dC 45) = some (.bl (decide (w = [45]))) := gEq_dS _ [45]
      have h4 := m_columns_in_ok c w
      have hgl : gLen [.lst [dS a, dS w]] = some (.int 2) := rfl
      show Ok _ fun p : Fl × Env => p.1 = Fl.rt (dLO (head1 a w))
      unfold head1
      by_cases e1 : a = COL
      · rw [decide_eq_true e1] at h1
        by_cases e2 : w = [45]
        · rw [decide_eq_true e2] at h3
          rw [if_neg (fun z => z.2 e2)]
          simp [hgl, g0, g1, h1, h3, dLO]
        · rw [decide_eq_false e2] at h3
          rw [if_pos ⟨e1, e2⟩]
          simp [hgl, g0, g1, h1, h3, h4]
      · rw [decide_eq_false e1] at h1
        rw [if_neg (fun z => e1 z.1)]
        simp [hgl, g0, g1, h1, dLO]
  · rw [headW_no h2]
    have h2' : ¬ (ps.length : Int) = 2 := by omega
    have hne : gNe (.int (ps.length : Nat)) (.int 2) = some (.bl true) := by rw [Enc.int.gNe, decide_eq_false h2']; rfl
    simp [hgl, hne, dLO]
theorem m_rule_in_ok (c : CA) {cols l : List Nat} (h : TxOk l) : m_rule_in c [dS cols, dS l] = .ok (dRU (ruleO cols l)) := by
  have hsp := gSplit_dS 32 h
  unfold m_rule_in
  apply runP_ok
  unfold b_rule_in
  simp only [s_blank, s_rul]
  obtain ⟨ps, hps⟩ : ∃ ps, ps = splitN 32 l := ⟨_, rfl⟩
  rw [← hps] at hsp
  have hgl := gLen_map dS ps
  refine seq_eq (E' := [.dat (dS cols), .dat (dS l), .dat (.lst (ps.map dS)), .no, .no]) (by simp [hsp]) ?_
  unfold ruleO
  rw [← hps]
  clear hps hsp
  by_cases h2 : ps.length = 3
  · match ps, h2 with
    | [a, w, r], _ =>
      have g0 := gIx_lit0 (dS a) [dS w, dS r]
      have g1 := gIx_lit1 (dS a) (dS w) [dS r]
      have g2 := gIx_lit2 (dS a) (dS w) (dS r) []
      have h1 : gNe (dS a) (dS RUL) = some (.bl (!decide (a = RUL))) := gNe_dS _ _
      have h4 := m_columns_in_ok c w
      have hsm : ∀ (a b : D) r, small [a, b] r = r := fun _ _ _ => small_ok (by simp)
      have hgl : gLen [.lst [dS a, dS w, dS r]] = some (.int 3) := rfl
      show Ok _ fun p : Fl × Env => p.1 = Fl.rt (dRU (rule1 cols a w r))
      unfold rule1
      by_cases e1 : a = RUL
      · rw [decide_eq_true e1] at h1
        rw [if_pos e1]
        refine seq_eq (E' := [.dat (dS cols), .dat (dS l), .dat (.lst [dS a, dS w, dS r]), .no, .no]) (by simp [hgl, g0, h1]) ?_
        refine seq_eq (E' := [.dat (dS cols), .dat (dS l), .dat (.lst [dS a, dS w, dS r]), .dat (dLO (lftO w)), .no]) (by simp [g1, h4]) ?_
        refine seq_eq (E' := [.dat (dS cols), .dat (dS l), .dat (.lst [dS a, dS w, dS r]), .dat (dLO (lftO w)), .dat (.tup [dLO (lftO w), dS r])]) (by simp [g2, hsm]) ?_
        cases hl : lftO w with
        | none =>
          have hn : gIsN true (dLO none) .non = some (.bl false) := rfl
          simp [hn, dRU]
        | some l' =>
          have hn : gIsN true (dLO (some l')) .non = some (.bl true) := rfl
          have h5 := m_is_rule_g c cols l' r
          have h5 : m_is_rule c [dS cols, .tup [dLO (some l'), dS r]] = _ := h5
          cases hb : ruleG cols l' r with
          | false =>
            rw [hb] at h5
            simp only [rule2_F hb]
            simp [hn, h5, dRU]
          | true =>
            rw [hb] at h5
            obtain ⟨x, rfl, e3⟩ := rule2_T hb
            simp only [e3]
            have e4 : dRU (some (l', x)) = .tup [dLO (some l'), dS [x]] := rfl
            rw [e4]
            simp [hn, h5]
      · rw [decide_eq_false e1] at h1
        rw [if_neg e1]
        simp [hgl, g0, h1, dRU]
  · rw [ruleW_no h2]
    have h2' : ¬ (ps.length : Int) = 3 := by omega
    have hne : gNe (.int (ps.length : Nat)) (.int 3) = some (.bl true) := by rw [Enc.int.gNe, decide_eq_false h2']; rfl
    simp [hgl, hne, dRU]
theorem numDn (f : α → D) : ∀ (l : List α) (n : Nat), numD (n : Int) (l.map f) = (l.zipIdx n).map fun p => .tup [.int (p.2 : Nat), f p.1]
  | [], _ => rfl
  | a :: l, n => by
    have ih := numDn f l (n + 1)
    rw [List.map_cons, List.zipIdx_cons, List.map_cons, ← ih]; rfl
theorem runC_ox {fb : SF} {n : Nat} {C : Addr} {ds : List D} (spec : D ⊕ ExV) (h : Ox (fb (.cls C :: ds.map .dat ++ nos n)) (fun p => ∃ d, p.1 = .rt d ∧ spec = .inl d) (fun x => spec = .inr x)) : runC fb n C ds = resOf spec := by
  unfold runC
  generalize fb (.cls C :: ds.map .dat ++ nos n) = r at h ⊢
  match r, h with
  | .ok (fl, E), ⟨d, h1, h2⟩ => dsimp only at h1; subst h1; rw [h2]; rfl
  | .err x E, h => have h : spec = .inr x := h; rw [h]; rfl
theorem isEmpty_ne {l : List α} (h : l ≠ []) : l.isEmpty = false := by
  cases l with
  | nil => exact absurd rfl h
  | cons _ _ => rfl
def stepL (cols : List Nat) (done : List Rule) (p : List Nat) : Option (List Rule) := match ruleO cols p with
  | none => none
  | some k => match done.getLast? with
    | none => some (done ++ [k])
    | some z => if ruleLt z k = true then some (done ++ [k]) else none
def goL (cols : List Nat) : List Rule → Nat → List (List Nat) → Nat ⊕ List Rule
  | done, _, [] => .inr done
  | done, i, p :: r => match stepL cols done p with
    | none => .inl i
    | some d => goL cols d (i + 1) r
def badX (c : CA) (i : Int) : ExV := ⟨c.BadText, [("place", .int i)]⟩
def specL (c : CA) : Nat ⊕ List Rule → D ⊕ ExV
  | .inl i => .inr (badX c i)
  | .inr R => .inl (.tup (R.map dR))
def stX (c : CA) (cols : List Nat) (done : List Rule) (q : List Nat × Nat) : ExV ⊕ List Rule := match stepL cols done q.1 with
  | none => .inl (badX c (q.2 : Nat))
  | some d => .inr d
theorem foldX_goL (c : CA) (cols : List Nat) : ∀ (ps : List (List Nat)) (done : List Rule) (n : Nat), foldX (stX c cols) done (ps.zipIdx n) = match goL cols done n ps with | .inl i => .inl (badX c (i : Nat)) | .inr d => .inr d
  | [], done, n => rfl
  | p :: r, done, n => by
    rw [List.zipIdx_cons, foldX, goL]
    have e : stX c cols done (p, n) = match stepL cols done p with | none => .inl (badX c (n : Nat)) | some d => .inr d := rfl
    rw [e]
    cases q : stepL cols done p with
    | none => rfl
    | some d => exact foldX_goL c cols r d (n + 1)
theorem stepL_len {cols p : List Nat} {done d : List Rule} (h : stepL cols done p = some d) : ∃ k, ruleO cols p = some k ∧ d = done ++ [k] ∧ ∀ z, done.getLast? = some z → ruleLt z k = true := by
  unfold stepL at h
  cases q : ruleO cols p with
  | none => rw [q] at h; cases h
  | some k =>
    rw [q] at h
    dsimp only at h
    split at h
    · rename_i e
      cases h
      exact ⟨k, rfl, rfl, fun z hz => by rw [hz] at e; cases e⟩
    · rename_i z e
      split at h
      · rename_i e2
        cases h
        exact ⟨k, rfl, rfl, fun z' hz => by rw [hz] at e; cases e; exact e2⟩
      · cases h
theorem ascB_snoc {lt : α → α → Bool} : ∀ {l : List α} {k : α}, ascB lt l = true → (∀ z, l.getLast? = some z → lt z k = true) → ascB lt (l ++ [k]) = true
  | [], k, _, _ => rfl
  | [a], k, _, h => by
    show (lt a k && true) = true
    rw [h a rfl]; rfl
  | a :: b :: l, k, h, hz => by
    have h : (lt a b && ascB lt (b :: l)) = true := h
    rw [Bool.and_eq_true] at h
    show (lt a b && ascB lt ((b :: l) ++ [k])) = true
    rw [h.1, ascB_snoc (l := b :: l) h.2 fun z e => hz z (by rw [List.getLast?_cons_cons]; exact e)]; rfl
/-- what is read right is written so -/
theorem goL_ok {cols : List Nat} : ∀ {ps : List (List Nat)} {done d : List Rule} {n : Nat}, goL cols done n ps = .inr d → ascB ruleLt done = true → ∃ ks, d = done ++ ks ∧ ks.map ruleTx = ps ∧ (∀ k ∈ ks, ruleB cols k = true) ∧ ascB ruleLt d = true
  | [], done, d, n, h, ha => by cases h; exact ⟨[], by simp, rfl, (fun _ h => nomatch h), ha⟩
  | p :: r, done, d, n, h, ha => by
    rw [goL] at h
    cases q : stepL cols done p with
    | none => rw [q] at h; cases h
    | some d1 =>
      rw [q] at h
      obtain ⟨k, hk, rfl, hz⟩ := stepL_len q
      obtain ⟨ks, h1, h2, h3, h4⟩ := goL_ok h (ascB_snoc ha hz)
      obtain ⟨k1, k2⟩ := ruleO_ok hk
      refine ⟨k :: ks, by rw [h1]; simp, by rw [List.map_cons, h2, k1], fun k' hk' => ?_, h4⟩
      rcases List.mem_cons.mp hk' with e | hk'
      · rw [e]; exact k2
      · exact h3 k' hk'
theorem m_rules_in_ok (c : CA) {cols : List Nat} {ps : List (List Nat)} (ht : ∀ p ∈ ps, TxOk p) (hl : ps.length ≤ 1000000) : m_rules_in c [dS cols, .lst (ps.map dS)] = resOf (specL c (goL cols [] 1 ps)) := by
  have hsm : ∀ r, small ([] : List D) r = r := fun r => small_ok (by simp)
  unfold m_rules_in
  refine runP_ox _ ?_
  unfold b_rules_in
  obtain ⟨cs, hcs⟩ : ∃ cs, cs = dS cols := ⟨_, rfl⟩
  have hE : ([dS cols, .lst (ps.map dS)].map Cell.dat ++ nos 4 : Env) = [.dat cs, .dat (.lst (ps.map dS)), .no, .no, .no, .no] := by rw [hcs]; rfl
  rw [hE]
  refine seq_eqX (E' := [.dat cs, .dat (.lst (ps.map dS)), .own (.lst []), .no, .no, .no]) (by simp) ?_
  refine seq_foldX (fun p : List Nat × Nat => D.tup [.int (p.2 : Nat), dS p.1]) (stX c cols) (fun r done E => ∃ x3 x4 x5, E = [.dat cs, .dat (.lst (ps.map dS)), .own (.lst (done.map dR)), x3, x4, x5] ∧ done.length + r.length = ps.length) (ps.zipIdx 1) [] (E' := [.dat cs, .dat (.lst (ps.map dS)), .own (.lst []), .no, .no, .no]) ?_ ⟨_, _, _, rfl, by simp⟩ ?_ ?_
  · have h2 : numD 1 (ps.map dS) = (ps.zipIdx 1).map fun p => .tup [.int (p.2 : Nat), dS p.1] := numDn dS ps 1
    simp [h2]
  · rintro ⟨p, i⟩ r done _ hmem ⟨x3, x4, x5, rfl, hlen⟩
    refine ⟨_, rfl, ?_⟩
    have hp : p ∈ ps := by
      have h := List.mem_zipIdx hmem
      exact h.2.2 ▸ List.getElem_mem _
    have h6 := m_rule_in_ok c (cols := cols) (ht p hp)
    rw [← hcs] at h6
    have hln : done.length < 16777216 := by
      simp only [List.length_cons] at hlen
      omega
    refine Ox.cps fun P Z hP hZ => ?_
    unfold stX stepL at hP hZ
    cases q : ruleO cols p with
    | none =>
      rw [q] at h6 hP hZ
      have h6 : m_rule_in c [cs, dS p] = .ok .non := h6
      simp [h6]
      exact hZ _ rfl
    | some k =>
      rw [q] at h6 hP hZ
      have h6 : m_rule_in c [cs, dS p] = .ok (dR k) := h6
      have hnon : gIsN false (dR k) .non = some (.bl false) := rfl
      have hnil : gNe (.lst (done.map dR)) (.lst []) = some (.bl (!(done.map dR).isEmpty)) := gNe_nil (Enc.dR.plainL done)
      have happ := gApp_ok (done.map dR) (dR k) (by rw [List.length_map]; exact hln)
      rcases List.eq_nil_or_concat done with hdn | ⟨d0, z, hdn⟩
      · subst hdn
        have hnil : gNe (.lst []) (.lst []) = some (.bl false) := gNe_nil rfl
        simp [h6, hnon, hnil, gApp]
        refine hP _ ⟨_, rfl, .inl rfl, _, _, _, rfl, ?_⟩
        simp only [List.length_cons, List.length_append, List.length_nil] at hlen ⊢
        omega
      · have hdn : done = d0 ++ [z] := by rw [hdn]; simp
        have hix : gIx (.lst (done.map dR)) (.int (-1)) = some (dR z) := by
          rw [hdn, List.map_append]
          exact gIx_last _ _
        have hne : (done.map dR).isEmpty = false := by rw [hdn]; simp
        have hla : done.getLast? = some z := by rw [hdn]; simp
        have hlt := gLt_rule z k
        rw [hne] at hnil
        rw [hla] at hP hZ
        by_cases hz : ruleLt z k = true
        · rw [hz] at hlt
          simp only [hz, if_true] at hP hZ
          simp [h6, hnon, hnil, hix, hlt, happ]
          refine hP _ ⟨_, rfl, .inl rfl, _, _, _, by rw [List.map_append]; rfl, ?_⟩
          simp only [List.length_cons, List.length_append, List.length_nil] at hlen ⊢
          omega
        · simp only [hz] at hP hZ
          have hz : ruleLt z k = false := by simpa using hz
          rw [hz] at hlt
          simp [h6, hnon, hnil, hix, hlt]
          exact hZ _ rfl
  · rw [foldX_goL]
    cases goL cols [] 1 ps with
    | inl i => rfl
    | inr d =>
      rintro _ ⟨x3, x4, x5, rfl, _⟩
      simp [specL]
def schO (t : List Nat) : Nat ⊕ (List Nat × List Rule) := match splitN 10 t with
  | [] => .inl 0
  | h :: ls => match headO h with
    | none => .inl 0
    | some cols => match goL cols [] 1 ls with
      | .inl i => .inl i
      | .inr R => .inr (cols, R)
theorem schO_ok {t cols : List Nat} {R : List Rule} (h : schO t = .inr (cols, R)) : pageTx cols R = t ∧ schemeB cols R = true := by
  unfold schO at h
  split at h
  · cases h
  · rename_i hd ls e
    split at h
    · cases h
    · rename_i cols' e1
      split at h
      · cases h
      · rename_i R' e2
        cases h
        obtain ⟨h1, h2, h3⟩ := headO_ok e1
        obtain ⟨ks, k1, k2, k3, k4⟩ := goL_ok e2 rfl
        have k1 : R = ks := by simpa using k1
        subst k1
        refine ⟨?_, ?_⟩
        · unfold pageTx
          rw [h1, k2, ← e, jn_split]
        · unfold schemeB
          have h3 : cols.isEmpty = false := isEmpty_ne h3
          rw [h2, h3, k4, List.all_eq_true.mpr k3]; rfl
def specT (c : CA) : Nat ⊕ (List Nat × List Rule) → D ⊕ ExV
  | .inl i => .inr (badX c i)
  | .inr p => .inl (dSch c.Scheme p.1 p.2)
theorem part_len {c : Nat} {t p : List Nat} (h : p ∈ splitN c t) : p.length ≤ t.length := by
  have h4 : T p ∈ Txt.split (T t) (sgn c) := by rw [txt_split]; exact List.mem_map.mpr ⟨_, h, rfl⟩
  exact part_short h4
theorem part_tx {c : Nat} {t p : List Nat} (ht : TxOk t) (h : p ∈ splitN c t) : TxOk p := ⟨by have := part_len h; have := ht.1; omega, fun x hx => ht.2 x ((split_mem c t p h).2 x hx)⟩
theorem lSl_tail (f : α → D) (a : α) (l : List α) : gSl (.lst ((a :: l).map f)) (some 1) none = some (.lst (l.map f)) := lSl_from f (a :: l) 1
theorem m_read_ok (c : CA) {t : List Nat} (ht : TxOk t) : m_Scheme_read c [dS t] = resOf (specT c (schO t)) := by
  unfold m_Scheme_read
  refine runC_ox _ ?_
  unfold b_Scheme_read
  simp only [s_break]
  obtain ⟨tx, htx⟩ : ∃ tx, tx = dS t := ⟨_, rfl⟩
  have his : gIs (fun n => kitB n "str") (fun _ => none) tx = some (.bl true) := by rw [htx]; simp
  have hsp := gSplit_dS 10 ht
  have hptx : ∀ p ∈ splitN 10 t, TxOk p := fun p hp => part_tx ht hp
  have hcount := split_count 10 t
  have htl := ht.1
  have hsp2 : nM1 gSplit (eV 1) (eC (dC 10)) [.cls c.Scheme, .dat tx, .no, .no] = .ok (.lst ((splitN 10 t).map dS), [.cls c.Scheme, .dat tx, .no, .no]) := by
    rw [htx]; simp [hsp]
  clear hsp
  rw [← htx]
  show Ox _ _ _
  have hE : (.cls c.Scheme :: [tx].map Cell.dat ++ nos 2 : Env) = [.cls c.Scheme, .dat tx, .no, .no] := rfl
  rw [hE]
  unfold schO
  have hne := splitN_ne 10 t
  generalize hps : splitN 10 t = ps at hsp2 hptx hcount hne ⊢
  refine seq_eqX (E' := [.cls c.Scheme, .dat tx, .no, .no]) (by simp [his]) ?_
  refine seq_eqX (E' := [.cls c.Scheme, .dat tx, .dat (.lst (ps.map dS)), .no]) (by simp [hsp2, -ap_nM1]) ?_
  match ps, hne with
  | hd :: ls, _ =>
    have hix : gIx (.lst ((hd :: ls).map dS)) (.int 0) = some (dS hd) := gIx_lit0 _ _
    have h1 := m_head_in_ok c (hptx hd List.mem_cons_self)
    have hsl := lSl_tail dS hd ls
    have h2 := fun cols => m_rules_in_ok c (cols := cols) (fun p hp => hptx p (List.mem_cons_of_mem _ hp)) (by rw [List.length_cons] at hcount; omega)
    generalize D.lst ((hd :: ls).map dS) = L at hix hsl ⊢
    generalize D.lst (ls.map dS) = L2 at hsl h2
    refine seq_eqX (E' := [.cls c.Scheme, .dat tx, .dat L, .dat (dLO (headO hd))]) (by simp [hix, h1]) ?_
    cases hh : headO hd with
    | none =>
      have hn : gIsN false (dLO none) .non = some (.bl true) := rfl
      simp [hn, hh, specT, badX]
    | some cols =>
      have hn : gIsN false (dLO (some cols)) .non = some (.bl false) := rfl
      have h2 := h2 cols
      refine seq_eqX (E' := [.cls c.Scheme, .dat tx, .dat L, .dat (dLO (some cols))]) (by simp [hn]) ?_
      have h2 : m_rules_in c [dLO (some cols), L2] = _ := h2
      cases hg : goL cols [] 1 ls with
      | inl i =>
        rw [hg] at h2
        have h2 : m_rules_in c [dLO (some cols), L2] = .err (badX c (i : Nat)) [] := h2
        simp [hsl, h2, hh, hg, specT]
      | inr R =>
        rw [hg] at h2
        have h2 : m_rules_in c [dLO (some cols), L2] = .ok (.tup (R.map dR)) := h2
        have hb : schemeB cols R = true := by
          obtain ⟨_, h2, h3⟩ := headO_ok hh
          obtain ⟨ks, k1, k2, k3, k4⟩ := goL_ok hg rfl
          have k1 : R = ks := by simpa using k1
          subst k1
          unfold schemeB
          have h3 : cols.isEmpty = false := isEmpty_ne h3
          rw [h2, h3, k4, List.all_eq_true.mpr k3]; rfl
        have h3 : i_Scheme c [dLO (some cols), .tup (R.map dR)] = .ok (fSch cols R) := iSch_eq hb
        generalize D.tup (R.map dR) = RR at h2 h3
        simp [hsl, h2, h3, hh, hg, specT, dSch]
theorem isLetter_iff (a : Nat) : isLetter a = (decide (97 ≤ a) && decide (a ≤ 122)) := by
  have h : letters = (List.range 26).map (· + 97) := by decide +kernel
  unfold isLetter
  rw [h, ← Bool.decide_and]
  refine decide_eq_decide.mpr ⟨fun h => ?_, fun h => List.mem_map.mpr ⟨a - 97, List.mem_range.mpr (by omega), by omega⟩⟩
  obtain ⟨b, hb, rfl⟩ := List.mem_map.mp h
  have := List.mem_range.mp hb
  exact ⟨by omega, by omega⟩
theorem headTx_len (cols : List Nat) : (headTx cols).length = cols.length + 8 := by simp [headTx, COL]
theorem ruleTx_len (r : Rule) : (ruleTx r).length ≤ r.1.length + 8 := by
  have : (wordOf r.1).length ≤ r.1.length + 1 := by
    unfold wordOf
    split
    · simp
    · omega
  simp [ruleTx, RUL]; omega
theorem rules_sizeU {n : Nat} : ∀ R : List Rule, (∀ r ∈ R, r.1.length ≤ n) → sizeP (R.map ruleTx) ≤ R.length * (n + 9)
  | [], _ => Nat.zero_le _
  | r :: R, h => by
    have ih := rules_sizeU R fun r hr => h r (List.mem_cons_of_mem _ hr)
    have h1 := ruleTx_len r
    have h2 := h r List.mem_cons_self
    have e : sizeP ((r :: R).map ruleTx) = (ruleTx r).length + 1 + sizeP (R.map ruleTx) := by
      unfold sizeP
      rw [List.map_cons, List.map_cons, List.sum_cons, List.length_cons]; omega
    rw [e, List.length_cons, Nat.succ_mul]; omega
theorem page_size {n : Nat} {cols : List Nat} {R : List Rule} (hc : cols.length ≤ n) (hr : ∀ r ∈ R, r.1.length ≤ n) : sizeP (headTx cols :: R.map ruleTx) ≤ (R.length + 1) * (n + 9) := by
  have h1 := rules_sizeU R hr
  have e : sizeP (headTx cols :: R.map ruleTx) = (headTx cols).length + 1 + sizeP (R.map ruleTx) := by
    unfold sizeP
    rw [List.map_cons, List.sum_cons, List.length_cons]; omega
  rw [e, headTx_len, Nat.succ_mul]; omega
theorem letter_lt {x : Nat} (h : x ∈ letters) : x < 128 := by
  have h2 := isLetter_iff x
  have h1 : isLetter x = true := decide_eq_true h
  rw [h1] at h2
  have h3 : (decide (97 ≤ x) && decide (x ≤ 122)) = true := h2.symm
  rw [Bool.and_eq_true, decide_eq_true_eq, decide_eq_true_eq] at h3
  omega
theorem page_chars {cols : List Nat} {R : List Rule} (s : Sch cols R) : ∀ x ∈ pageTx cols R, x < 128 := by
  intro x hx
  rcases mem_jn hx with e | ⟨p, hp, hx⟩
  · omega
  · rcases List.mem_cons.mp hp with e | hp
    · rw [e] at hx
      unfold headTx at hx
      rcases List.mem_append.mp hx with hx | hx
      · have : ∀ y ∈ COL ++ [32], y < 128 := by decide
        exact this x hx
      · exact letter_lt (s.let_ x hx)
    · obtain ⟨r, hr, rfl⟩ := List.mem_map.mp hp
      unfold ruleTx at hx
      have lt : ∀ y ∈ RUL ++ [32], y < 128 := by decide
      have l2 : ∀ y ∈ ([32] : List Nat), y < 128 := by decide
      rcases List.mem_append.mp hx with hx | hx
      · rcases List.mem_append.mp hx with hx | hx
        · rcases List.mem_append.mp hx with hx | hx
          · exact lt x hx
          · unfold wordOf at hx
            split at hx
            · have : ∀ y ∈ ([45] : List Nat), y < 128 := by decide
              exact this x hx
            · exact letter_lt (s.let_ x (s.left r hr x hx))
        · exact l2 x hx
      · rw [List.mem_singleton.mp hx]
        exact letter_lt (s.let_ _ (s.right r hr))
theorem page_len {cols : List Nat} {R : List Rule} {n : Nat} (h : sizeP (headTx cols :: R.map ruleTx) ≤ n) : (pageTx cols R).length ≤ n := by
  have := jn_len 10 (headTx cols :: R.map ruleTx)
  unfold pageTx sizeP at *
  omega
theorem let_no {x : Nat} (h : x ∈ letters) : x ≠ 32 ∧ x ≠ 10 ∧ x ≠ 45 := by
  have h2 := isLetter_iff x
  have h1 : isLetter x = true := decide_eq_true h
  rw [h1] at h2
  have h3 : (decide (97 ≤ x) && decide (x ≤ 122)) = true := h2.symm
  rw [Bool.and_eq_true, decide_eq_true_eq, decide_eq_true_eq] at h3
  omega
theorem word_no {l : List Nat} (h : ∀ x ∈ l, x ∈ letters) : 32 ∉ wordOf l ∧ 10 ∉ wordOf l := by
  unfold wordOf
  split
  · exact ⟨by decide, by decide⟩
  · exact ⟨fun z => (let_no (h _ z)).1 rfl, fun z => (let_no (h _ z)).2.1 rfl⟩
theorem head_back {cols : List Nat} (h : ∀ x ∈ cols, x ∈ letters) (hc : colsB cols = true) (hne : cols ≠ []) : headO (headTx cols) = some cols := by
  have e : jn 32 [COL, cols] = headTx cols := by unfold jn jn headTx; simp
  have hs : splitN 32 (headTx cols) = [COL, cols] := by
    rw [← e]
    refine split_jn (by simp) fun p hp => ?_
    rcases List.mem_cons.mp hp with rfl | hp
    · decide
    · rw [List.mem_singleton.mp hp]; exact fun z => (let_no (h _ z)).1 rfl
  unfold headO
  rw [hs]
  show head1 COL cols = some cols
  have h45 : cols ≠ [45] := fun z => by
    have := h 45 (by rw [z]; exact List.mem_singleton.mpr rfl)
    exact (let_no this).2.2 rfl
  unfold head1 lftO
  rw [if_pos ⟨rfl, h45⟩, if_neg h45, if_pos ⟨hne, hc⟩]
theorem rule_back {cols : List Nat} {r : Rule} (h : ∀ x ∈ r.1, x ∈ letters) (h2 : r.2 ∈ letters) (hb : ruleB cols r = true) : ruleO cols (ruleTx r) = some r := by
  have e : jn 32 [RUL, wordOf r.1, [r.2]] = ruleTx r := by unfold jn jn jn ruleTx; simp
  have hs : splitN 32 (ruleTx r) = [RUL, wordOf r.1, [r.2]] := by
    rw [← e]
    refine split_jn (by simp) fun p hp => ?_
    simp only [List.mem_cons, List.not_mem_nil, or_false] at hp
    rcases hp with rfl | rfl | rfl
    · decide
    · exact (word_no h).1
    · exact fun z => (let_no h2).1 (List.mem_singleton.mp z).symm
  unfold ruleO
  rw [hs]
  show rule1 cols RUL (wordOf r.1) [r.2] = some r
  have hl : lftO (wordOf r.1) = some r.1 := by
    unfold lftO wordOf
    by_cases e0 : r.1 = []
    · rw [if_pos e0, if_pos rfl, e0]
    · rw [if_neg e0]
      have h45 : r.1 ≠ [45] := fun z => by
        have := h 45 (by rw [z]; exact List.mem_singleton.mpr rfl)
        exact (let_no this).2.2 rfl
      have hcol : colsB r.1 = true := by
        unfold ruleB withinB at hb
        simp only [Bool.and_eq_true] at hb
        exact hb.1.1.1
      rw [if_neg h45, if_pos ⟨e0, hcol⟩]
  unfold rule1
  rw [if_pos rfl, hl]
  show (if ruleB cols (r.1, r.2) = true then some (r.1, r.2) else none) = some r
  rw [if_pos hb]
theorem ascB_last {lt : α → α → Bool} : ∀ {l : List α} {z k : α} {r : List α}, ascB lt (l ++ k :: r) = true → l.getLast? = some z → lt z k = true
  | [], _, _, _, _, h => by cases h
  | [a], z, k, r, h, e => by
    cases e
    have h : (lt a k && ascB lt (k :: r)) = true := h
    rw [Bool.and_eq_true] at h
    exact h.1
  | a :: b :: l, z, k, r, h, e => by
    have h : (lt a b && ascB lt ((b :: l) ++ k :: r)) = true := h
    rw [Bool.and_eq_true] at h
    exact ascB_last (l := b :: l) h.2 (by rw [← e, List.getLast?_cons_cons])
theorem goL_back {cols : List Nat} : ∀ (rs done : List Rule) (n : Nat), (∀ r ∈ rs, ruleO cols (ruleTx r) = some r) → ascB ruleLt (done ++ rs) = true → goL cols done n (rs.map ruleTx) = .inr (done ++ rs)
  | [], done, n, _, _ => by rw [List.append_nil]; rfl
  | r :: rs, done, n, h, ha => by
    rw [List.map_cons, goL]
    have e : stepL cols done (ruleTx r) = some (done ++ [r]) := by
      unfold stepL
      rw [h r List.mem_cons_self]
      dsimp only
      cases hl : done.getLast? with
      | none => rfl
      | some z =>
        dsimp only
        rw [if_pos (ascB_last ha hl)]
    rw [e]
    have ih := goL_back (cols := cols) rs (done ++ [r]) (n + 1) (fun r' hr => h r' (List.mem_cons_of_mem _ hr)) (by rw [List.append_assoc]; exact ha)
    rw [List.append_assoc] at ih
    exact ih
theorem sch_back {cols : List Nat} {R : List Rule} (s : Sch cols R) : schO (pageTx cols R) = .inr (cols, R) := by
  have hb := schemeB_iff.mpr s
  unfold schemeB at hb
  simp only [Bool.and_eq_true] at hb
  obtain ⟨⟨⟨h1, _⟩, h3⟩, h4⟩ := hb
  have h3 := List.all_eq_true.mp h3
  have hlet : ∀ r ∈ R, (∀ x ∈ r.1, x ∈ letters) ∧ r.2 ∈ letters := fun r hr => ⟨fun x hx => s.let_ x (s.left r hr x hx), s.let_ _ (s.right r hr)⟩
  have hs : splitN 10 (pageTx cols R) = headTx cols :: R.map ruleTx := by
    unfold pageTx
    refine split_jn (by simp) fun p hp => ?_
    rcases List.mem_cons.mp hp with rfl | hp
    · unfold headTx
      intro z
      rcases List.mem_append.mp z with z | z
      · revert z; decide
      · exact (let_no (s.let_ _ z)).2.1 rfl
    · obtain ⟨r, hr, rfl⟩ := List.mem_map.mp hp
      unfold ruleTx
      intro z
      rcases List.mem_append.mp z with z | z
      · rcases List.mem_append.mp z with z | z
        · rcases List.mem_append.mp z with z | z
          · revert z; decide
          · exact (word_no (hlet r hr).1).2 z
        · revert z; decide
      · exact (let_no (hlet r hr).2).2.1 (List.mem_singleton.mp z).symm
  unfold schO
  rw [hs]
  have k1 := head_back s.let_ h1 s.ne
  have k2 := goL_back (cols := cols) R [] 1 (fun r hr => rule_back (hlet r hr).1 (hlet r hr).2 (h3 r hr)) (by rw [List.nil_append]; exact h4)
  rw [List.nil_append] at k2
  simp only [k1, k2]
theorem s_win : D.str (Str.ofString "\nwindow ") = dS [10, 119, 105, 110, 100, 111, 119, 32] := lit (by decide +kernel)
theorem s_rst : D.str (Str.ofString "\nrest ") = dS [10, 114, 101, 115, 116, 32] := lit (by decide +kernel)
theorem wordOf_len (l : List Nat) : (wordOf l).length ≤ l.length + 1 := by
  unfold wordOf
  split
  · simp
  · omega
/-- a text, or else a minus -/
theorem or_word (l : List Nat) (E : Env) : (if l.isEmpty = true then (Res.ok (W.dat (dC 45), E) : Res (W × Env)) else .ok (.dat (dS l), E)) = .ok (.dat (dS (wordOf l)), E) := by
  unfold wordOf
  cases l with
  | nil => rfl
  | cons _ _ => rfl
theorem m_stext4_ok (c : CA) {cols : List Nat} {R : List Rule} (win com hid rst : List Nat) (hc : cols.length ≤ 1000) (hr : ∀ r ∈ R, r.1.length ≤ 1000) (hn : R.length ≤ 1000) : m__law_scheme_text c [dFr cols R win com hid rst] = .ok (dS (pageTx cols R)) := by
  have hsz := page_size (n := 1000) hc hr
  have hsz2 : sizeP (headTx cols :: R.map ruleTx) ≤ 16777216 := Nat.le_trans hsz (Nat.le_trans (Nat.mul_le_mul_right _ (show R.length + 1 ≤ 1001 by omega)) (by decide))
  have hj : gJoin (dC 10) [.lst ((headTx cols :: R.map ruleTx).map dS)] = some (dS (pageTx cols R)) := gJoin_dS 10 (headTx cols :: R.map ruleTx) hsz2
  have hgc := gFr_columns cols R win com hid rst
  have hgr := gFr_rules cols R win com hid rst
  unfold m__law_scheme_text
  apply runP_ok
  unfold b__law_scheme_text
  simp only [s_colb, s_rulb, s_minus, s_blank, s_break]
  obtain ⟨W0, hW0⟩ : ∃ W0, W0 = dFr cols R win com hid rst := ⟨_, rfl⟩
  rw [← hW0] at hgc hgr ⊢
  have hsm : ∀ (x : D) r, small [x] r = r := fun x r => small_ok (by simp)
  have hE : ([W0].map Cell.dat ++ nos 3 : Env) = [.dat W0, .no, .no, .no] := rfl
  rw [hE]
  have h1 : gAdd (dS (COL ++ [32])) (dS cols) = some (dS (headTx cols)) := gAdd_dS (COL ++ [32]) cols (by simp [COL]; omega)
  have hsq : sqD (.tup (R.map dR)) = some (R.map dR) := rfl
  have hcomp := compL_map (vs := [2, 3]) (g := gT (gCons' (gN 2) (gCons' (gN 3) gNil'))) (fc := tYes') (fe := eOp gAdd (eOp gAdd (eOp gAdd (eC (dS (RUL ++ [32]))) (eOrS (eV 2) (eC (dC 45)))) (eC (dC 32))) (eV 3)) (E0 := [.dat W0, .no, .no, .no]) (E := [.dat W0, .no, .no, .no]) dR (fun r => [.dat W0, .no, .dat (dS r.1), .dat (dC r.2)]) (fun _ => true) (fun r => dS (ruleTx r)) R (fun r hrm => by
    have hl := hr r hrm
    have hwl := wordOf_len r.1
    have a1 := gAdd_dS (RUL ++ [32]) (wordOf r.1) (by simp [RUL]; omega)
    have a2 := gAdd_dSC (RUL ++ [32] ++ wordOf r.1) 32 (by simp [RUL]; omega)
    have a3 : gAdd (dS (RUL ++ [32] ++ wordOf r.1 ++ [32])) (dC r.2) = some (dS (ruleTx r)) := gAdd_dSC (RUL ++ [32] ++ wordOf r.1 ++ [32]) r.2 (by simp [RUL]; omega)
    refine ⟨rfl, rfl, fun _ => ?_, rfl⟩
    have ho : eOrS (eV 2) (eC (dC 45)) [.dat W0, .no, .dat (dS r.1), .dat (dC r.2)] = .ok (.dat (dS (wordOf r.1)), [.dat W0, .no, .dat (dS r.1), .dat (dC r.2)]) := by
      rw [← or_word r.1]
      simp
    generalize dS (ruleTx r) = z3 at a3
    generalize dS (RUL ++ [32] ++ wordOf r.1 ++ [32]) = z2 at a2 a3
    generalize dS (RUL ++ [32] ++ wordOf r.1) = z1 at a1 a2
    generalize dS (wordOf r.1) = z0 at a1 ho
    generalize dS (RUL ++ [32]) = zr at a1 ⊢
    simp [ho, a1, a2, a3, -ap_eOrS]) []
  rw [List.filter_eq_self.mpr (fun _ _ => rfl), List.nil_append] at hcomp
  have hmap : R.map (fun r => dS (ruleTx r)) = (R.map ruleTx).map dS := by rw [List.map_map]; rfl
  rw [hmap] at hcomp
  have hadd : gAdd (.lst [dS (headTx cols)]) (.lst ((R.map ruleTx).map dS)) = some (.lst ((headTx cols :: R.map ruleTx).map dS)) := gAdd_map dS [headTx cols] (R.map ruleTx) (by simp; omega)
  generalize (headTx cols :: R.map ruleTx).map dS = L at hj hadd
  generalize (R.map ruleTx).map dS = L2 at hcomp hadd
  generalize dS (headTx cols) = hd at h1 hadd
  refine seq_eq (E' := [.dat W0, .dat (.lst L), .no, .no]) (by simp [hgc, hgr, hsq, h1, hsm, hcomp, hadd, -compL_res', -compL_res]) ?_
  simp [hj]
def frameTx (t w r : List Nat) : List Nat := t ++ [10, 119, 105, 110, 100, 111, 119, 32] ++ wordOf w ++ [10, 114, 101, 115, 116, 32] ++ wordOf r
theorem m_text4_ok (c : CA) {cols : List Nat} {R : List Rule} (win com hid rst : List Nat) (hc : cols.length ≤ 1000) (hr : ∀ r ∈ R, r.1.length ≤ 1000) (hn : R.length ≤ 1000) (hp : (pageTx cols R).length ≤ 10000) (hw : win.length ≤ 1000) (hrs : rst.length ≤ 1000) :
    m__law_text c [dFr cols R win com hid rst] = .ok (dS (frameTx (pageTx cols R) win rst)) := by
  have h0 := m_stext4_ok c win com hid rst hc hr hn
  have hgw := gFr_window cols R win com hid rst
  have hgr := gFr_rest cols R win com hid rst
  have l1 := wordOf_len win
  have l2 := wordOf_len rst
  have a1 := gAdd_dS (pageTx cols R) [10, 119, 105, 110, 100, 111, 119, 32] (by simp; omega)
  have a2 := gAdd_dS (pageTx cols R ++ [10, 119, 105, 110, 100, 111, 119, 32]) (wordOf win) (by simp; omega)
  have a3 := gAdd_dS (pageTx cols R ++ [10, 119, 105, 110, 100, 111, 119, 32] ++ wordOf win) [10, 114, 101, 115, 116, 32] (by simp; omega)
  have a4 : gAdd (dS (pageTx cols R ++ [10, 119, 105, 110, 100, 111, 119, 32] ++ wordOf win ++ [10, 114, 101, 115, 116, 32])) (dS (wordOf rst)) = some (dS (frameTx (pageTx cols R) win rst)) := gAdd_dS _ (wordOf rst) (by simp; omega)
  unfold m__law_text
  apply runP_ok
  unfold b__law_text
  simp only [s_minus, s_win, s_rst]
  obtain ⟨W0, hW0⟩ : ∃ W0, W0 = dFr cols R win com hid rst := ⟨_, rfl⟩
  rw [← hW0] at h0 hgw hgr ⊢
  have hE : ([W0].map Cell.dat ++ nos 0 : Env) = [.dat W0] := rfl
  rw [hE]
  have o1 : eOrS (eOp gGet (eV 0) (eC (.str (Str.ofString "window")))) (eC (dC 45)) [.dat W0] = .ok (.dat (dS (wordOf win)), [.dat W0]) := by
    rw [← or_word win]
    simp [hgw]
  have o2 : eOrS (eOp gGet (eV 0) (eC (.str (Str.ofString "rest")))) (eC (dC 45)) [.dat W0] = .ok (.dat (dS (wordOf rst)), [.dat W0]) := by
    rw [← or_word rst]
    simp [hgr]
  generalize dS (frameTx (pageTx cols R) win rst) = z4 at a4 ⊢
  generalize dS (pageTx cols R ++ [10, 119, 105, 110, 100, 111, 119, 32] ++ wordOf win ++ [10, 114, 101, 115, 116, 32]) = z3 at a3 a4
  generalize dS (pageTx cols R ++ [10, 119, 105, 110, 100, 111, 119, 32] ++ wordOf win) = z2 at a2 a3
  generalize dS (pageTx cols R ++ [10, 119, 105, 110, 100, 111, 119, 32]) = z1 at a1 a2
  generalize dS (pageTx cols R) = z0 at h0 a1
  generalize dS [10, 119, 105, 110, 100, 111, 119, 32] = k1 at a1 ⊢
  generalize dS [10, 114, 101, 115, 116, 32] = k2 at a3 ⊢
  simp [h0, o1, o2, a1, a2, a3, a4, -ap_eOrS]
theorem iR1_nat {fs : AF} {E E' : Env} {n : Nat} (h : fs E = .ok ([.dat (.int (n : Nat))], E')) (hn : n ≤ 1000) : iR1 fs E = .ok ((List.range n).map fun i : Nat => D.int i, E') := by
  have h1 : (n : Int) ≤ 16777216 ∧ -(2 ^ 62) ≤ (n : Int) := by
    constructor
    · omega
    · exact Int.le_trans (by decide) (Int.natCast_nonneg n)
  show (fs E).bind _ = _
  rw [h]
  show (if (n : Int) ≤ 16777216 ∧ -(2 ^ 62) ≤ (n : Int) then (Res.ok (rgD 0 ((n : Int).toNat), E')) else Res.stuck) = _
  rw [if_pos h1, Int.toNat_natCast, rgD_map]
/-- a derivation of the law's own going: indexes of rules -/
theorem m_own4_ok (c : CA) (a q : Addr) (l : List Int) (b : Int) {W : D} {R : List Rule} {so : List Nat} (gr : gGet W (.str "rules") = some (.tup (R.map dR))) (hs : so.length ≤ 100) (hR : R.length ≤ 9) (hl : l.length ≤ 63) :
    ∃ (is : List Nat) (l' : List Int) (b' : Int), m__law_own c a q ⟨l, b⟩ [W, dS so] = .ok (.tup (is.map dN), ⟨l', b'⟩) ∧ is.length ≤ 90 ∧ (∀ i ∈ is, i < R.length) ∧ l'.length ≤ 63 := by
  obtain ⟨d', l', b', e, is, hd, h⟩ : ∃ d' l' b', runK (b__law_own c) 5 a q ⟨l, b⟩ [W, dS so] = .ok (d', ⟨l', b'⟩) ∧ ∃ is : List Nat, d' = .tup (is.map dN) ∧ is.length ≤ 90 ∧ (∀ i ∈ is, i < R.length) ∧ l'.length ≤ 63 := by
    apply runK_ok
    unfold b__law_own
    refine seq_eq (E' := [.deck a q l b, .dat W, .dat (dS so), .own (.lst (([] : List Nat).map dN)), .own (.lst (so.map dC)), .no, .no, .no]) (by simp [gListX_dS]) ?_
    have hlen : gLen [.tup (R.map dR)] = some (.int (R.length : Nat)) := by rw [gLen_tup, List.length_map]
    refine seq_for (fun i : Nat => D.int i) (fun r E => ∃ (l : List Int) (b : Int) (met is : List Nat) (x5 x6 x7 : Cell), E = [.deck a q l b, .dat W, .dat (dS so), .own (.lst (is.map dN)), .own (.lst (met.map dC)), x5, x6, x7] ∧ l.length ≤ 63 ∧ met.length + r.length * 9 ≤ 200 ∧ is.length + r.length * 9 ≤ 90 ∧ ∀ i ∈ is, i < R.length) (List.range (R.length + 1)) (E' := [.deck a q l b, .dat W, .dat (dS so), .own (.lst (([] : List Nat).map dN)), .own (.lst (so.map dC)), .no, .no, .no]) (iR1_nat (n := R.length + 1) (by simp [gr, hlen]) (by omega)) ⟨l, b, so, [], _, _, _, rfl, hl, by rw [List.length_range]; omega, by rw [List.length_range, List.length_nil]; omega, by simp⟩ ?_ ?_
    · rintro i r _ ⟨l2, b2, met, is, x5, x6, x7, rfl, hl2, hm, hi, hin⟩
      refine ⟨_, rfl, ?_⟩
      simp only [List.length_cons] at hm hi
      have hnum : numD 0 (R.map dR) = (R.zipIdx).map fun p => .tup [.int (p.2 : Nat), dR p.1] := numDn dR R 0
      refine for_ok (fun p : Rule × Nat => D.tup [.int (p.2 : Nat), dR p.1]) (fun rest E => (∀ p ∈ rest, p.2 < R.length) ∧ ∃ (l : List Int) (b : Int) (met is : List Nat) (x6 x7 : Cell), E = [.deck a q l b, .dat W, .dat (dS so), .own (.lst (is.map dN)), .own (.lst (met.map dC)), .dat (.int i), x6, x7] ∧ l.length ≤ 63 ∧ met.length + rest.length + r.length * 9 ≤ 200 ∧ is.length + rest.length + r.length * 9 ≤ 90 ∧ ∀ i ∈ is, i < R.length) R.zipIdx (E' := [.deck a q l2 b2, .dat W, .dat (dS so), .own (.lst (is.map dN)), .own (.lst (met.map dC)), .dat (.int i), x6, x7]) (by simp [gr, hnum]) ⟨fun p hp => by have := List.mem_zipIdx hp; omega, l2, b2, met, is, _, _, rfl, hl2, by rw [List.length_zipIdx]; omega, by rw [List.length_zipIdx]; omega, hin⟩ ?_ ?_
      · rintro ⟨ru, k⟩ rest _ ⟨hrest, l3, b3, met, is, x6, x7, rfl, hl3, hm3, hi3, hin3⟩
        refine ⟨_, rfl, ?_⟩
        simp only [List.length_cons] at hm3 hi3
        have hk : k < R.length := hrest (ru, k) List.mem_cons_self
        have hrest2 : ∀ p ∈ rest, p.2 < R.length := fun p hp => hrest p (List.mem_cons_of_mem _ hp)
        have hw := m_within4_S c ru.1 met
        have ha1 : gApp (is.map dN) [dN k] = some (.non, (is ++ [k]).map dN) := by rw [List.map_append]; exact gApp_ok _ _ (by rw [List.length_map]; omega)
        have ha1 : gApp (is.map dN) [.int (k : Nat)] = some (.non, (is ++ [k]).map dN) := ha1
        have ha2 : gApp (met.map dC) [dC ru.2] = some (.non, (met ++ [ru.2]).map dC) := by rw [List.map_append]; exact gApp_ok _ _ (by rw [List.length_map]; omega)
        have fin1 : ∀ i ∈ is ++ [k], i < R.length := fun j hj => by
          rcases List.mem_append.mp hj with h | h
          · exact hin3 j h
          · rw [List.mem_singleton.mp h]; exact hk
        cases q1 : decide (ru.2 ∈ met) with
        | false =>
          cases q2 : ru.1.all (fun x => decide (x ∈ met)) with
          | true =>
            rw [q2] at hw
            refine Ok.cps fun P hP => ?_
            simp [q1, hw, ha1, ha2, -List.map_append, -decide_eq_true_eq, -decide_eq_false_iff_not]
            exact hP _ ⟨.inl rfl, hrest2, l3, b3, met ++ [ru.2], is ++ [k], _, _, rfl, hl3, by simp; omega, by simp; omega, fin1⟩
          | false =>
            rw [q2] at hw
            refine Ok.cps fun P hP => ?_
            simp [q1, hw, -decide_eq_true_eq, -decide_eq_false_iff_not]
            exact hP _ ⟨.inl rfl, hrest2, l3, b3, met, is, _, _, rfl, hl3, by omega, by omega, hin3⟩
        | true =>
          obtain ⟨w, l4, b4, e4, hw4, hl4⟩ := draw_ok a q l3 b3 3 (by omega) (by omega) hl3
          by_cases h0 : w = 0
          · cases q2 : ru.1.all (fun x => decide (x ∈ met)) with
            | true =>
              rw [q2] at hw
              refine Ok.cps fun P hP => ?_
              simp [q1, m__law_draw, e4, h0, hw, ha1, ha2, -List.map_append, -decide_eq_true_eq, -decide_eq_false_iff_not]
              exact hP _ ⟨.inl rfl, hrest2, l4, b4, met ++ [ru.2], is ++ [k], _, _, rfl, hl4, by simp; omega, by simp; omega, fin1⟩
            | false =>
              rw [q2] at hw
              refine Ok.cps fun P hP => ?_
              simp [q1, m__law_draw, e4, h0, hw, -decide_eq_true_eq, -decide_eq_false_iff_not]
              exact hP _ ⟨.inl rfl, hrest2, l4, b4, met, is, _, _, rfl, hl4, by omega, by omega, hin3⟩
          · refine Ok.cps fun P hP => ?_
            simp [q1, m__law_draw, e4, h0, -decide_eq_true_eq, -decide_eq_false_iff_not]
            exact hP _ ⟨.inl rfl, hrest2, l4, b4, met, is, _, _, rfl, hl4, by omega, by omega, hin3⟩
      · rintro _ ⟨_, l3, b3, met, is, x6, x7, rfl, hl3, hm3, hi3, hin3⟩
        simp only [List.length_nil] at hm3 hi3
        exact ⟨.inl rfl, l3, b3, met, is, _, _, _, rfl, hl3, by omega, by omega, hin3⟩
    · rintro _ ⟨l2, b2, met, is, x5, x6, x7, rfl, hl2, hm, hi, hin⟩
      simp only [List.length_nil] at hi
      refine Ok.cps fun P hP => ?_
      simp
      exact hP _ ⟨_, _, _, _, rfl, is, rfl, by omega, hin, hl2⟩
  subst hd
  exact ⟨is, l', b', e, h⟩
def isBl : D → Bool
  | .bl _ => true
  | _ => false
def IBs (ds : List D) : Prop := ∀ e ∈ ds, (∃ i, e = .int i) ∨ ∃ b, e = .bl b
def IB (d : D) : Prop := (∃ ds, d = .tup ds ∧ ds.length ≤ 500 ∧ IBs ds) ∨ (∃ is : List Nat, d = .lst (is.map dN)) ∨ d = .non ∨ d = dS []
theorem plain_bl : ∀ ds : List D, plainL (ds.filter isBl) = true
  | [] => rfl
  | d :: ds => by
    rw [List.filter_cons]
    cases d <;> first | exact plain_bl ds | (show plainL (_ :: _) = true; exact plain_bl ds)
theorem hold_bl {R : List Rule} : ∀ {ds : List D} {b k : List Nat}, foldE (stepH R) b ds = .inr k → ds.filter isBl = []
  | [], _, _, _ => rfl
  | d :: ds, b, k, h => by
    rw [foldE] at h
    cases q : stepH R b d with
    | inl x => rw [q] at h; cases h
    | inr s =>
      rw [q] at h
      have ih := hold_bl h
      rw [List.filter_cons]
      cases d with
      | bl _ => cases q
      | _ => exact ih
theorem comp_bl (W0 : D) (so : D) (x : D) (ds : List D) (h : IBs ds) (x5 : Cell) :
    compL [4] (gN 4) (tOr' (tNt (tB (eIs (fun n => kitB n "int") (fun _ => none) (eV 4)))) (tB (eIs (fun n => kitB n "bool") (fun _ => none) (eV 4)))) (eV 4) [.dat W0, .dat so, .dat x, .dat (.tup ds), .no, x5] ds [] [.dat W0, .dat so, .dat x, .dat (.tup ds), .no, x5] = .ok (.lst (ds.filter isBl), [.dat W0, .dat so, .dat x, .dat (.tup ds), .no, x5]) := by
  have k := compL_map (vs := [4]) (g := gN 4) (fc := tOr' (tNt (tB (eIs (fun n => kitB n "int") (fun _ => none) (eV 4)))) (tB (eIs (fun n => kitB n "bool") (fun _ => none) (eV 4)))) (fe := eV 4) (E0 := [.dat W0, .dat so, .dat x, .dat (.tup ds), .no, x5]) (E := [.dat W0, .dat so, .dat x, .dat (.tup ds), .no, x5]) (id : D → D) (fun z => [.dat W0, .dat so, .dat x, .dat (.tup ds), .dat z, x5]) isBl id ds (fun z hz => by
    refine ⟨rfl, ?_, fun _ => rfl, rfl⟩
    rcases h z hz with ⟨i, rfl⟩ | ⟨b, rfl⟩ <;> simp [isBl]) []
  rw [List.map_id, List.map_id, List.nil_append] at k
  exact k
theorem m_isder4_ok (c : CA) {W : D} {R : List Rule} (gr : gGet W (.str "rules") = some (.tup (R.map dR))) (so : List Nat) (x : Nat) (d : D) (hb : so.length ≤ 400) (hd : IB d) : m__law_is_derivation c [W, dS so, dC x, d] = .ok (.bl (holdsB R so x d)) := by
  unfold m__law_is_derivation
  apply runP_ok
  unfold b__law_is_derivation
  rcases hd with ⟨ds, rfl, hl, hi⟩ | ⟨is, rfl⟩ | rfl | rfl
  · have hcomp := comp_bl W (dS so) (dC x) ds hi .no
    have hne := gNe_nil (plain_bl ds)
    cases hf0 : (ds.filter isBl).isEmpty with
    | false =>
      have hh : holdsB R so x (.tup ds) = false := by
        show (match foldE (stepH R) so ds with
          | .inl _ => false
          | .inr k => decide (x ∈ k)) = false
        cases q : foldE (stepH R) so ds with
        | inl _ => rfl
        | inr k => rw [hold_bl q] at hf0; cases hf0
      rw [hh]
      rw [hf0] at hne
      generalize ds.filter isBl = L at hcomp hne
      simp [hcomp, hne, -compL_res']
    | true =>
      have hnb : ds.filter isBl = [] := List.isEmpty_iff.mp hf0
      have hint : ∀ e ∈ ds, ∃ i, e = .int i := fun e he => by
        rcases hi e he with h | ⟨b, rfl⟩
        · exact h
        · have : (D.bl b) ∈ ds.filter isBl := List.mem_filter.mpr ⟨he, rfl⟩
          rw [hnb] at this; cases this
      rw [hf0] at hne
      generalize ds.filter isBl = L at hcomp hne
      refine seq_eq (E' := [.dat W, .dat (dS so), .dat (dC x), .dat (.tup ds), .no, .no]) (by simp [hcomp, hne, -compL_res']) ?_
      clear hcomp hne
      refine seq_eq (E' := [.dat W, .dat (dS so), .dat (dC x), .dat (.tup ds), .no, .own (.lst (so.map dC))]) (by simp [gListX_dS]) ?_
      have hlen : gLen [.tup (R.map dR)] = some (.int (R.length : Nat)) := by rw [gLen_tup, List.length_map]
      refine seq_fold (fun d => d) (stepH R) (fun r known E => ∃ (x4 : Cell), E = [.dat W, .dat (dS so), .dat (dC x), .dat (.tup ds), x4, .own (.lst (known.map dC))] ∧ known.length + r.length ≤ 1000) ds so (E' := [.dat W, .dat (dS so), .dat (dC x), .dat (.tup ds), .no, .own (.lst (so.map dC))]) (by simp) ⟨_, rfl, by omega⟩ ?_ ?_
      · rintro e r known _ he ⟨x4, rfl, hk⟩
        refine ⟨_, rfl, ?_⟩
        obtain ⟨i, rfl⟩ := hint e he
        simp only [List.length_cons] at hk
        have hk1 : known.length < 16777216 := by omega
        refine Ok.cps fun P hP => ?_
        by_cases h0 : 0 ≤ i ∧ i < (R.length : Int)
        · obtain ⟨n, rfl⟩ : ∃ n : Nat, i = n := ⟨i.toNat, by omega⟩
          have hn : n < R.length := by omega
          have hw := m_within4_S c R[n].1 known
          cases hall : R[n].1.all (fun x => decide (x ∈ known)) with
          | true =>
            rw [hall] at hw
            simp [gr, hn, gIx_tup_nat, hw, gApp_ok, hk1, -List.all_eq_true, -List.all_eq_false]
            refine hP _ ?_
            simp only [stepH]
            simp [hn, hall, -List.all_eq_true, -List.all_eq_false]
            omega
          | false =>
            rw [hall] at hw
            simp [gr, hn, gIx_tup_nat, hw, -List.all_eq_true, -List.all_eq_false]
            refine hP _ ?_
            simp [stepH, hn, hall, -List.all_eq_true, -List.all_eq_false]
        · have hbad : stepH R known (.int i) = .inl (.bl false) := by
            simp only [stepH]; rw [if_neg h0]
          by_cases h1 : 0 ≤ i
          · have h2 : ¬ i < (R.length : Int) := fun z => h0 ⟨h1, z⟩
            simp [gr, h1, h2]
            refine hP _ ?_
            rw [hbad]
          · simp [gr, h1]
            refine hP _ ?_
            rw [hbad]
      · cases hf : foldE (stepH R) so ds with
        | inl d =>
          have hh : holdsB R so x (.tup ds) = false := by simp [holdsB, hf]
          rw [foldH_inl hf, hh]; exact fun E => rfl
        | inr k =>
          have hh : holdsB R so x (.tup ds) = decide (x ∈ k) := by simp [holdsB, hf]
          rw [hh]
          rintro _ ⟨x4, rfl, _⟩
          simp
  · show Ok _ _
    simp [holdsB]
  · simp [holdsB]
  · have hh : holdsB R so x (dS []) = false := rfl
    rw [hh]
    simp
theorem tSl_to (l : List D) (k : Nat) : gSl (.tup l) none (some (k : Int)) = some (.tup (l.take k)) := by
  show some (D.tup ((l.drop (HT.sIx l.length 0 none)).take (HT.sIx l.length l.length (some (k : Int)) - HT.sIx l.length 0 none))) = _
  rw [sIx_nat, show HT.sIx l.length 0 none = 0 from rfl, List.drop_zero, Nat.sub_zero, take_min]
theorem tSl_from (l : List D) (k : Nat) : gSl (.tup l) (some (k : Int)) none = some (.tup (l.drop k)) := by
  show some (D.tup ((l.drop (HT.sIx l.length 0 (some (k : Int)))).take (HT.sIx l.length l.length none - HT.sIx l.length 0 (some (k : Int))))) = _
  rw [sIx_nat, show HT.sIx l.length l.length none = l.length from rfl, drop_min, List.take_of_length_le (by rw [List.length_drop]; omega)]
theorem ib_ints (is : List Nat) : IBs (is.map dN) := fun e he => by
  obtain ⟨i, _, rfl⟩ := List.mem_map.mp he
  exact .inl ⟨_, rfl⟩
theorem IBs.app {a b : List D} (ha : IBs a) (hb : IBs b) : IBs (a ++ b) := fun e he => (List.mem_append.mp he).elim (ha e) (hb e)
theorem IBs.sub {a b : List D} (hb : IBs b) (h : ∀ e ∈ a, e ∈ b) : IBs a := fun e he => hb e (h e he)
theorem IBs.one_int (i : Int) : IBs [.int i] := fun e he => .inl ⟨i, List.mem_singleton.mp he⟩
theorem IBs.one_bl (b : Bool) : IBs [.bl b] := fun e he => .inr ⟨b, List.mem_singleton.mp he⟩
theorem IBs.ib {a : List D} (h : IBs a) (hl : a.length ≤ 500) : IB (.tup a) := .inl ⟨a, rfl, hl, h⟩
theorem m_others4_ok (c : CA) (a q : Addr) (l : List Int) (b : Int) {W : D} {R : List Rule} (gr : gGet W (.str "rules") = some (.tup (R.map dR))) (hR : R.length ≤ 9) (is : List Nat) (hi : is.length ≤ 90) (hl : l.length ≤ 63) :
    ∃ (ds : List D) (l' : List Int) (b' : Int), m__law_others c a q ⟨l, b⟩ [W, .tup (is.map dN)] = .ok (.lst ds, ⟨l', b'⟩) ∧ ds.length ≤ 20 ∧ (∀ d ∈ ds, IB d) ∧ l'.length ≤ 63 := by
  obtain ⟨d', l', b', e, ds, hd, h⟩ : ∃ d' l' b', runK (b__law_others c) 2 a q ⟨l, b⟩ [W, .tup (is.map dN)] = .ok (d', ⟨l', b'⟩) ∧ ∃ ds : List D, d' = .lst ds ∧ ds.length ≤ 20 ∧ (∀ d ∈ ds, IB d) ∧ l'.length ≤ 63 := by
    apply runK_ok
    unfold b__law_others
    obtain ⟨S, hS⟩ : ∃ S, S = is.map dN := ⟨_, rfl⟩
    have Si : IBs S := hS ▸ ib_ints is
    have Sl : S.length ≤ 90 := by rw [hS, List.length_map]; exact hi
    have hlS : gList [.tup S] = some (.lst S) := rfl
    rw [← hS]
    obtain ⟨v, l1, b1, e1, hv, hl1⟩ := draw_ok a q l b (S.length + 1 : Nat) (by omega) (by omega) hl
    have e1 : drawR a q ⟨l, b⟩ [.int ((S.length : Nat) + 1)] = .ok (.int v, ⟨l1, b1⟩) := e1
    refine seq_eq (E' := [.deck a q l1 b1, .dat W, .dat (.tup S), .dat (.int v), .no]) (by simp [m__law_draw, e1]) ?_
    have s1 := tSl_to S v
    have s2 : gSl (.tup S) (some ((v : Int) + 1)) none = some (.tup (S.drop (v + 1))) := tSl_from S (v + 1)
    have s3 := tSl_from S v
    have t1 : (S.take v).length ≤ 90 := by rw [List.length_take]; omega
    have t2 : (S.drop (v + 1)).length ≤ 90 := by rw [List.length_drop]; omega
    have t3 : (S.drop v).length ≤ 90 := by rw [List.length_drop]; omega
    have a1 := gAdd_tup (S.take v) (S.drop (v + 1)) (by omega)
    have a2 := gAdd_tup S [.int 0] (by simp; omega)
    have a3 := gAdd_tup [.int (R.length : Nat)] S (by simp; omega)
    have a4 := gAdd_tup (S.take v) [.bl true] (by simp; omega)
    have a5 := gAdd_tup (S.take v ++ [.bl true]) (S.drop v) (by simp; omega)
    have a6 := gAdd_tup S [.int (-1)] (by simp; omega)
    have hlen : gLen [.tup (R.map dR)] = some (.int (R.length : Nat)) := by rw [gLen_tup, List.length_map]
    have hrev : gStep (-1) (.tup S) = some (.tup (pickL (-1) S)) := by
      show (if (-1 : Int) = -1 ∨ (-1 : Int) = 2 then some (D.tup (pickL (-1) S)) else none) = _
      rw [if_pos (.inl rfl)]
    have hrg : gTupRg (.int (R.length : Nat)) = some (.tup ((List.range R.length).map dN)) := by
      show (if 0 ≤ ((R.length : Nat) : Int) ∧ ((R.length : Nat) : Int) ≤ 16777216 then some (D.tup ((List.range ((R.length : Nat) : Int).toNat).map fun i => D.int (i : Nat))) else none) = _
      rw [if_pos ⟨by omega, by omega⟩, Int.toNat_natCast]; rfl
    have Ti : IBs (S.take v) := Si.sub fun e he => List.mem_of_mem_take he
    have Di : IBs (S.drop (v + 1)) := Si.sub fun e he => List.mem_of_mem_drop he
    have Ei : IBs (S.drop v) := Si.sub fun e he => List.mem_of_mem_drop he
    have hsm : ∀ (xs : List D) r, xs.length ≤ 20 → small xs r = r := fun xs r h => small_ok (by omega)
    have i1 : IB (.tup S) := Si.ib (by omega)
    have i2 : IB (.tup []) := IBs.ib (fun _ h => by cases h) (by simp)
    have i3 : IB (.tup (S.take v ++ S.drop (v + 1))) := (Ti.app Di).ib (by rw [List.length_append]; omega)
    have i4 : IB (.tup (pickL (-1) S)) := (Si.sub fun e he => by
      unfold pickL at he
      obtain ⟨j, _, hj⟩ := List.mem_filterMap.mp he
      exact List.mem_of_getElem? hj).ib (Nat.le_trans (pickL_len _ _) (Nat.le_trans (step_len (.inl rfl) _) (by omega)))
    have i5 : IB (.tup (S ++ [.int 0])) := (Si.app (.one_int 0)).ib (by simp; omega)
    have i6 : IB (.tup ([.int (R.length : Nat)] ++ S)) := (IBs.app (.one_int _) Si).ib (by simp; omega)
    have i7 : IB (.lst S) := .inr (.inl ⟨is, by rw [hS]⟩)
    have i8 : IB (.tup (S.take v ++ [.bl true] ++ S.drop v)) := ((Ti.app (.one_bl true)).app Ei).ib (by simp; omega)
    have i9 : IB (.tup (S ++ [.int (-1)])) := (Si.app (.one_int (-1))).ib (by simp; omega)
    have i10 : IB (.tup ((List.range R.length).map dN)) := (ib_ints _).ib (by simp; omega)
    have i11 : IB (.tup (S.take v)) := Ti.ib (by omega)
    clear Ti Di Ei Si t1 t2 t3
    generalize S.take v ++ [D.bl true] ++ S.drop v = L8 at a5 i8
    generalize S.take v ++ [D.bl true] = L8' at a4 a5
    generalize S.take v ++ S.drop (v + 1) = L3 at a1 i3
    generalize S.take v = L11 at s1 a1 a4 i11
    generalize S.drop (v + 1) = L2 at s2 a1
    generalize S.drop v = L1 at s3 a5
    generalize S ++ [D.int 0] = L5 at a2 i5
    generalize [D.int (R.length : Nat)] ++ S = L6 at a3 i6
    generalize S ++ [D.int (-1)] = L9 at a6 i9
    generalize (List.range R.length).map dN = L10 at hrg i10
    generalize pickL (-1) S = L4 at hrev i4
    refine seq_eq (E' := [.deck a q l1 b1, .dat W, .dat (.tup S), .dat (.int v), .dat (.lst [.tup S, .tup [], .tup L3, .tup L4, .tup L5, .tup L6, .lst S])]) (by simp [gr, hlen, s1, s2, a1, hrev, a2, a3, hlS, hsm]) ?_
    have c1 : gAdd (.lst [.tup S, .tup [], .tup L3, .tup L4, .tup L5, .tup L6, .lst S]) (.lst [.tup L8, .tup L9, .tup L10]) = some (.lst [.tup S, .tup [], .tup L3, .tup L4, .tup L5, .tup L6, .lst S, .tup L8, .tup L9, .tup L10]) := gAdd_lst [.tup S, .tup [], .tup L3, .tup L4, .tup L5, .tup L6, .lst S] [.tup L8, .tup L9, .tup L10] (by simp)
    refine seq_eq (E' := [.deck a q l1 b1, .dat W, .dat (.tup S), .dat (.int v), .dat (.lst [.tup S, .tup [], .tup L3, .tup L4, .tup L5, .tup L6, .lst S, .tup L8, .tup L9, .tup L10])]) (by simp [gr, hlen, hrg, s1, s3, a4, a5, a6, hsm, c1]) ?_
    have c2 : gAdd (.lst [.tup S, .tup [], .tup L3, .tup L4, .tup L5, .tup L6, .lst S, .tup L8, .tup L9, .tup L10]) (.lst [.non, dS [], .tup L11]) = some (.lst [.tup S, .tup [], .tup L3, .tup L4, .tup L5, .tup L6, .lst S, .tup L8, .tup L9, .tup L10, .non, dS [], .tup L11]) := gAdd_lst [.tup S, .tup [], .tup L3, .tup L4, .tup L5, .tup L6, .lst S, .tup L8, .tup L9, .tup L10] [.non, dS [], .tup L11] (by simp)
    refine Ok.cps fun P hP => ?_
    simp only [s_e]
    simp [s1, hsm, c2]
    refine hP _ ⟨_, l1, b1, _, rfl, _, rfl, ?_, ?_, hl1⟩
    · simp
    intro d hd
    simp only [List.mem_cons, List.not_mem_nil, or_false] at hd
    rcases hd with rfl | rfl | rfl | rfl | rfl | rfl | rfl | rfl | rfl | rfl | rfl | rfl | rfl
    · exact i1
    · exact i2
    · exact i3
    · exact i4
    · exact i5
    · exact i6
    · exact i7
    · exact i8
    · exact i9
    · exact i10
    · exact .inr (.inr (.inl rfl))
    · exact .inr (.inr (.inr rfl))
    · exact i11
  subst hd
  exact ⟨ds, l', b', e, h⟩
theorem m_is_integer_ok (c : CA) (d : D) (h : noObj d = true) : m_is_integer c [d] = .ok (.bl (isInt d)) := by
  unfold m_is_integer
  apply runP_ok
  unfold b_is_integer
  cases d <;> first | (cases h; done) | simp [isInt]
theorem m_holds_ok (c : CA) (cols : List Nat) (R : List Rule) (b : List Nat) (x : Nat) (d : D) (hb : b.length ≤ 400) (hd : noObj d = true) (hds : ∀ ds, d = .tup ds → ds.length ≤ 500 ∧ ∀ e ∈ ds, noObj e = true) :
    m_derivation_holds c [dSch c.Scheme cols R, dS b, dC x, d] = .ok (.bl (holdsB R b x d)) := by
  unfold m_derivation_holds
  apply runP_ok
  unfold b_derivation_holds dSch
  by_cases ht : ∃ ds, d = .tup ds
  · obtain ⟨ds, rfl⟩ := ht
    obtain ⟨hl, hno⟩ := hds ds rfl
    refine seq_eq (E' := [.dat (.obj c.Scheme (fSch cols R)), .dat (dS b), .dat (dC x), .dat (.tup ds), .no, .no, .no, .no, .no]) (by simp) ?_
    refine seq_eq (E' := [.dat (.obj c.Scheme (fSch cols R)), .dat (dS b), .dat (dC x), .dat (.tup ds), .dat (dS b), .no, .no, .no, .no]) (by simp) ?_
    refine seq_fold (fun d => d) (stepH R) (fun r known E => ∃ x5 x6 x7, E = [.dat (.obj c.Scheme (fSch cols R)), .dat (dS b), .dat (dC x), .dat (.tup ds), .dat (dS known), x5, x6, x7, .no] ∧ known.length + r.length ≤ 1000) ds b (E' := [.dat (.obj c.Scheme (fSch cols R)), .dat (dS b), .dat (dC x), .dat (.tup ds), .dat (dS b), .no, .no, .no, .no]) (by simp) ⟨_, _, _, rfl, by omega⟩ ?_ ?_
    · rintro e r known _ he ⟨x5, x6, x7, rfl, hk⟩
      refine ⟨_, rfl, ?_⟩
      have hi := m_is_integer_ok c e (hno e he)
      simp only [List.length_cons] at hk
      refine Ok.cps fun P hP => ?_
      by_cases hint : ∃ i, e = .int i
      · obtain ⟨i, rfl⟩ := hint
        by_cases h0 : 0 ≤ i ∧ i < (R.length : Int)
        · obtain ⟨n, rfl⟩ : ∃ n : Nat, i = n := ⟨i.toNat, by omega⟩
          have hn : n < R.length := by omega
          have hadd := gAdd_dSC known R[n].2 (by omega)
          cases hall : R[n].1.all (fun x => decide (x ∈ known)) with
          | true =>
            simp [hi, isInt, lk_rules, hn, gIx_tup_nat, hall, hadd, -List.all_eq_true, -List.all_eq_false]
            refine hP _ ?_
            simp [stepH, hn, hall, -List.all_eq_true, -List.all_eq_false]
            omega
          | false =>
            simp [hi, isInt, lk_rules, hn, gIx_tup_nat, hall, -List.all_eq_true, -List.all_eq_false]
            refine hP _ ?_
            simp [stepH, hn, hall, -List.all_eq_true, -List.all_eq_false]
        · have hbad : stepH R known (.int i) = .inl (.bl false) := by
            simp only [stepH]; rw [if_neg h0]
          by_cases h1 : 0 ≤ i
          · have h2 : ¬ i < (R.length : Int) := fun z => h0 ⟨h1, z⟩
            simp [hi, isInt, lk_rules, h1, h2]
            refine hP _ ?_
            rw [hbad]
          · simp [hi, isInt, lk_rules, h1]
            refine hP _ ?_
            rw [hbad]
      · have hbad : stepH R known e = .inl (.bl false) := by
          unfold stepH
          split
          · exact absurd ⟨_, rfl⟩ hint
          · rfl
        have hf : isInt e = false := by
          cases e <;> first | rfl | exact absurd ⟨_, rfl⟩ hint
        simp [hi, hf]
        refine hP _ ?_
        rw [hbad]
    · cases hf : foldE (stepH R) b ds with
      | inl d =>
        have hh : holdsB R b x (.tup ds) = false := by simp [holdsB, hf]
        rw [foldH_inl hf, hh]; exact fun E => rfl
      | inr k =>
        have hh : holdsB R b x (.tup ds) = decide (x ∈ k) := by simp [holdsB, hf]
        rw [hh]
        rintro _ ⟨x5, x6, x7, rfl, _⟩
        simp
  · have hf : holdsB R b x d = false := by
      cases d <;> first | rfl | exact absurd ⟨_, rfl⟩ ht
    rw [hf]
    cases d <;> first | (cases hd; done) | exact absurd ⟨_, rfl⟩ ht | simp
def schD (c : CA) : Nat ⊕ (List Nat × List Rule) → D
  | .inl _ => .non
  | .inr p => dSch c.Scheme p.1 p.2
theorem m_scheme_in_ok (c : CA) {t : List Nat} (ht : TxOk t) : m_scheme_in c [dS t] = .ok (schD c (schO t)) := by
  have h := m_read_ok c ht
  unfold m_scheme_in
  apply runP_ok
  unfold b_scheme_in
  obtain ⟨tx, htx⟩ : ∃ tx, tx = dS t := ⟨_, rfl⟩
  rw [← htx] at h ⊢
  cases hs : schO t with
  | inl i =>
    rw [hs] at h
    have h : m_Scheme_read c [tx] = .err (badX c (i : Nat)) [] := h
    have hc : (badX c (i : Nat)).cls = c.BadText := rfl
    simp [h, hc, schD]
  | inr p =>
    rw [hs] at h
    have h : m_Scheme_read c [tx] = .ok (dSch c.Scheme p.1 p.2) := h
    generalize hz : dSch c.Scheme p.1 p.2 = z at h
    simp [h, schD, hz]
theorem gEq_tnil {l : List D} (h : DL.plainL l = true) : DL.gEq (.tup l) (.tup []) = some (.bl l.isEmpty) := by
  unfold DL.gEq okCmp
  rw [if_pos]
  · cases l <;> rfl
  · have : min (D.tup l).py.depth (D.tup []).py.depth ≤ 60 := Nat.le_trans (Nat.min_le_right _ _) (by decide)
    rw [decide_eq_true this]
    show (DL.plainL l && true && true) = true
    rw [h]; rfl
def SET : List Nat := [115, 101, 116, 116, 108, 101, 115]
theorem s_set : D.str (Str.ofString "settles") = dS SET := lit (by decide +kernel)
section
variable (c : CA) {t co x d : D} {cols so : List Nat} {R : List Rule}
theorem settles_none (h : m_scheme_in c [t] = .ok .non) : m_settles_so c [t, co, x, d] = .ok (.bl false) := by
  unfold m_settles_so
  apply runP_ok
  unfold b_settles_so
  have hn : gIsN false .non .non = some (.bl true) := rfl
  simp [h, hn]
theorem settles_co (h : m_scheme_in c [t] = .ok (dSch c.Scheme cols R)) (h1 : m_are_within c [co, dS cols] = .ok (.bl false)) : m_settles_so c [t, co, x, d] = .ok (.bl false) := by
  unfold m_settles_so
  apply runP_ok
  unfold b_settles_so
  unfold dSch at h
  have hn : gIsN false (.obj c.Scheme (fSch cols R)) .non = some (.bl false) := rfl
  simp [h, hn, lk_cols, h1]
theorem settles_x (h : m_scheme_in c [t] = .ok (dSch c.Scheme cols R)) (h1 : m_are_within c [co, dS cols] = .ok (.bl true)) (h2 : m_are_within c [x, dS cols] = .ok (.bl false)) : m_settles_so c [t, co, x, d] = .ok (.bl false) := by
  unfold m_settles_so
  apply runP_ok
  unfold b_settles_so
  unfold dSch at h
  have hn : gIsN false (.obj c.Scheme (fSch cols R)) .non = some (.bl false) := rfl
  simp [h, hn, lk_cols, h1, h2]
theorem settles_len {k : Int} (h : m_scheme_in c [t] = .ok (dSch c.Scheme cols R)) (h1 : m_are_within c [co, dS cols] = .ok (.bl true)) (h2 : m_are_within c [x, dS cols] = .ok (.bl true)) (h3 : gLen [x] = some (.int k)) (hk : ¬ k = 1) : m_settles_so c [t, co, x, d] = .ok (.bl false) := by
  unfold m_settles_so
  apply runP_ok
  unfold b_settles_so
  unfold dSch at h
  have hn : gIsN false (.obj c.Scheme (fSch cols R)) .non = some (.bl false) := rfl
  simp [h, hn, lk_cols, h1, h2, h3, hk]
theorem settles_yes {b : Bool} (h : m_scheme_in c [t] = .ok (dSch c.Scheme cols R)) (h1 : m_are_within c [co, dS cols] = .ok (.bl true)) (h2 : m_are_within c [x, dS cols] = .ok (.bl true)) (h3 : gLen [x] = some (.int 1)) (h4 : m_derivation_holds c [dSch c.Scheme cols R, co, x, d] = .ok (.bl b)) : m_settles_so c [t, co, x, d] = .ok (.bl b) := by
  unfold m_settles_so
  apply runP_ok
  unfold b_settles_so
  unfold dSch at h h4
  have hn : gIsN false (.obj c.Scheme (fSch cols R)) .non = some (.bl false) := rfl
  simp [h, hn, lk_cols, h1, h2, h3, h4]
theorem find_of {b : Bool} (hp : plainL [t, co, x, d] = true) (h : m_settles_so c [t, co, x, d] = .ok (.bl b)) : m_finding_holds c [.tup [dS SET, t, co, x, d]] = .ok (.bl b) := by
  have hz := gEq_tnil (l := [dS SET, t, co, x, d]) hp
  have h0 : gIx (.tup [dS SET, t, co, x, d]) (.int 0) = some (dS SET) := rfl
  have h1 : gIx (.tup [dS SET, t, co, x, d]) (.int 1) = some t := rfl
  have h2 : gIx (.tup [dS SET, t, co, x, d]) (.int 2) = some co := rfl
  have h3 : gIx (.tup [dS SET, t, co, x, d]) (.int 3) = some x := rfl
  have h4 : gIx (.tup [dS SET, t, co, x, d]) (.int 4) = some d := rfl
  have hl : gLen [.tup [dS SET, t, co, x, d]] = some (.int 5) := rfl
  have hi : gIs (fun n => kitB n "str") (fun _ => none) (dS SET) = some (.bl true) := by simp
  have hit : gIs (fun n => kitB n "tuple") (fun _ => none) (.tup [dS SET, t, co, x, d]) = some (.bl true) := by simp
  have ht : gTabIn true [(Str.ofString "settles", 5)] (dS SET) = some (.bl false) := by
    rw [← s_set]
    simp [gTabIn, List.lookup]
  have ht2 : gTabAt [(Str.ofString "settles", 5)] (dS SET) = some (.int 5) := by
    rw [← s_set]
    simp [gTabAt, List.lookup]
  have he : gEq (dS SET) (dS SET) = some (.bl true) := by
    have := Enc.dS.gEq SET SET
    rw [decide_eq_true rfl] at this
    exact this
  unfold m_finding_holds
  apply runP_ok
  unfold b_finding_holds
  simp only [s_set]
  generalize D.tup [dS SET, t, co, x, d] = th at hz h0 h1 h2 h3 h4 hl hit
  generalize dS SET = w at h0 hi ht ht2 he
  have hz : gEq th (.tup []) = some (.bl false) := hz
  have hsm0 : ∀ r, small ([] : List D) r = r := fun r => small_ok (by simp)
  refine seq_eq (E' := [.dat th, .no, .no]) (by simp [hz, h0, hi, hit, hsm0]) ?_
  refine seq_eq (E' := [.dat th, .dat w, .no]) (by simp [h0]) ?_
  refine seq_eq (E' := [.dat th, .dat w, .no]) (by simp [ht, ht2, hl]) ?_
  refine Ok.cps fun P hP => ?_
  simp [he, h1, h2, h3, h4, h]
  exact hP _ rfl
end
theorem m_within_no (c : CA) {d : D} (cols : List Nat) (h : gIs (fun n => kitB n "str") (fun _ => none) d = some (.bl false)) : m_are_within c [d, dS cols] = .ok (.bl false) := by
  have h1 : m_is_columns c [d] = .ok (.bl false) := by
    unfold m_is_columns
    apply runP_ok
    unfold b_is_columns
    simp [h]
  unfold m_are_within
  apply runP_ok
  unfold b_are_within
  simp [h1]
theorem page_no10 {cols : List Nat} {R : List Rule} (s : Sch cols R) : ∀ p ∈ headTx cols :: R.map ruleTx, 10 ∉ p := by
  intro p hp
  rcases List.mem_cons.mp hp with rfl | hp
  · unfold headTx
    intro z
    rcases List.mem_append.mp z with z | z
    · revert z; decide
    · exact (let_no (s.let_ _ z)).2.1 rfl
  · obtain ⟨r, hr, rfl⟩ := List.mem_map.mp hp
    have h1 : ∀ x ∈ r.1, x ∈ letters := fun x hx => s.let_ x (s.left r hr x hx)
    unfold ruleTx
    intro z
    rcases List.mem_append.mp z with z | z
    · rcases List.mem_append.mp z with z | z
      · rcases List.mem_append.mp z with z | z
        · revert z; decide
        · exact (word_no h1).2 z
      · revert z; decide
    · exact (let_no (s.let_ _ (s.right r hr))).2.1 (List.mem_singleton.mp z).symm
theorem jn_snoc (c : Nat) (x : List Nat) : ∀ {ps : List (List Nat)}, ps ≠ [] → jn c (ps ++ [x]) = jn c ps ++ c :: x
  | [], h => absurd rfl h
  | [p], _ => rfl
  | p :: q :: r, _ => by
    have ih := jn_snoc c x (ps := q :: r) (by simp)
    show p ++ c :: jn c (q :: r ++ [x]) = (p ++ c :: jn c (q :: r)) ++ c :: x
    rw [ih]; simp
theorem sch_bad {cols : List Nat} {R : List Rule} (s : Sch cols R) (ex : List (List Nat)) (z : List Nat) (h10 : ∀ p ∈ ex ++ [z], 10 ∉ p) (hz : ∀ r : Rule, ruleTx r ≠ z) : ∃ i, schO (jn 10 (headTx cols :: R.map ruleTx ++ (ex ++ [z]))) = .inl i := by
  cases h : schO (jn 10 (headTx cols :: R.map ruleTx ++ (ex ++ [z]))) with
  | inl i => exact ⟨i, rfl⟩
  | inr p =>
    exfalso
    obtain ⟨cols', R'⟩ := p
    obtain ⟨e, hb⟩ := schO_ok h
    have s' := schemeB_iff.mp hb
    have e2 : headTx cols' :: R'.map ruleTx = headTx cols :: R.map ruleTx ++ (ex ++ [z]) := by
      refine jn_inj (c := 10) (by simp) (by simp) (page_no10 s') (fun p hp => ?_) e
      rcases List.mem_append.mp hp with hp | hp
      · exact page_no10 s p hp
      · exact h10 p hp
    have e3 : (R'.map ruleTx) = (R.map ruleTx ++ ex) ++ [z] := by
      have e2 : headTx cols' :: R'.map ruleTx = headTx cols :: (R.map ruleTx ++ (ex ++ [z])) := e2
      rw [(List.cons.inj e2).2, List.append_assoc]
    have hm : z ∈ R'.map ruleTx := by rw [e3]; simp
    obtain ⟨r, _, hr⟩ := List.mem_map.mp hm
    exact hz r hr
theorem frame_bad {cols : List Nat} {R : List Rule} {w r : List Nat} (s : Sch cols R) (hw : ∀ x ∈ w, x ∈ letters) (hr : ∀ x ∈ r, x ∈ letters) : ∃ i, schO (frameTx (pageTx cols R) w r) = .inl i := by
  have e : frameTx (pageTx cols R) w r = jn 10 (headTx cols :: R.map ruleTx ++ ([[119, 105, 110, 100, 111, 119, 32] ++ wordOf w] ++ [[114, 101, 115, 116, 32] ++ wordOf r])) := by
    rw [← List.append_assoc, jn_snoc _ _ (by simp), jn_snoc _ _ (by simp)]
    unfold frameTx pageTx
    simp
  rw [e]
  refine sch_bad s _ _ (fun p hp => ?_) fun ru e => ?_
  · simp only [List.mem_append, List.mem_singleton] at hp
    rcases hp with rfl | rfl
    · intro z
      rcases List.mem_append.mp z with z | z
      · revert z; decide
      · exact (word_no hw).2 z
    · intro z
      rcases List.mem_append.mp z with z | z
      · revert z; decide
      · exact (word_no hr).2 z
  · unfold ruleTx RUL at e
    simp at e
theorem line_bad {cols : List Nat} {R : List Rule} (s : Sch cols R) : ∃ i, schO (pageTx cols R ++ [10]) = .inl i := by
  have e : pageTx cols R ++ [10] = jn 10 (headTx cols :: R.map ruleTx ++ ([] ++ [[]])) := by
    rw [List.nil_append, jn_snoc _ _ (by simp)]; rfl
  rw [e]
  refine sch_bad s _ _ (fun p hp => ?_) fun ru e => ?_
  · simp only [List.nil_append, List.mem_singleton] at hp
    rw [hp]; simp
  · unfold ruleTx RUL at e
    simp at e
theorem IB.noObj {d : D} (h : IB d) : DL.noObj d = true := by
  rcases h with ⟨ds, rfl, _⟩ | ⟨is, rfl⟩ | rfl | rfl <;> rfl
theorem IB.items {d : D} (h : IB d) : ∀ ds, d = .tup ds → ds.length ≤ 500 ∧ ∀ e ∈ ds, DL.noObj e = true := by
  rintro ds rfl
  rcases h with ⟨ds', e, hl, hi⟩ | ⟨is, e⟩ | e | e
  · cases e
    exact ⟨hl, fun e he => by rcases hi e he with ⟨i, rfl⟩ | ⟨b, rfl⟩ <;> rfl⟩
  · cases e
  · cases e
  · cases e
theorem IB.plain {d : D} (h : IB d) : d.plain = true := by
  rcases h with ⟨ds, rfl, _, hi⟩ | ⟨is, rfl⟩ | rfl | rfl
  · show plainL ds = true
    rw [plainL_all, List.all_eq_true]
    intro e he
    rcases hi e he with ⟨i, rfl⟩ | ⟨b, rfl⟩ <;> rfl
  · exact Enc.dN.plainL is
  · rfl
  · rfl
theorem find_ok (c : CA) {cols so t : List Nat} {R : List Rule} {y : Nat} {d : D} (hs : m_scheme_in c [dS t] = .ok (dSch c.Scheme cols R)) (h1 : withinB so cols = true) (h2 : withinB [y] cols = true) (hl : so.length ≤ 400) (hd : IB d) :
    m_finding_holds c [.tup [dS SET, dS t, dS so, dC y, d]] = .ok (.bl (holdsB R so y d)) := by
  have g1 := m_are_within_str c so cols
  rw [h1] at g1
  have g2 : m_are_within c [dC y, dS cols] = .ok (.bl (withinB [y] cols)) := m_are_within_str c [y] cols
  rw [h2] at g2
  exact find_of c (by
    show (true && (true && (true && (d.plain && true)))) = true
    rw [hd.plain]; rfl) (settles_yes c hs g1 g2 rfl (m_holds_ok c cols R so y d hl hd.noObj hd.items))
theorem s_A : D.str (Str.ofString "A") = dC 65 := lit (by decide +kernel)
def fnd (t co x d : D) : D := .tup [dS SET, t, co, x, d]
theorem repr_bl (b : Bool) : ∃ s, gRepr [.bl b] = some (.str s) := by
  cases b <;> exact ⟨_, rfl⟩
theorem odd_all (c : CA) (p q : Addr) (l : List Int) (b : Int) (x2 x3 x4 x5 x6 x7 x9 x10 x11 : Cell) (O : List D) (h : ∀ it ∈ O, m_finding_holds c [it] = .ok (.bl false)) (x8 : Cell) :
    compL [8] (gN 8) (tB (eOp (gIsB true) (eF 1 (m_finding_holds c) (aC (eV 8) aN)) (eC (.bl false)))) (eV 8) [.no, .deck p q l b, x2, x3, x4, x5, x6, x7, x8, x9, x10, x11, .dat (.lst O)] O [] [.no, .deck p q l b, x2, x3, x4, x5, x6, x7, x8, x9, x10, x11, .dat (.lst O)] = .ok (.lst [], [.no, .deck p q l b, x2, x3, x4, x5, x6, x7, x8, x9, x10, x11, .dat (.lst O)]) := by
  have hi : gIsB true (.bl false) (.bl false) = some (.bl false) := rfl
  have k := compL_map (vs := [8]) (g := gN 8) (fc := tB (eOp (gIsB true) (eF 1 (m_finding_holds c) (aC (eV 8) aN)) (eC (.bl false)))) (fe := eV 8) (E0 := [.no, .deck p q l b, x2, x3, x4, x5, x6, x7, x8, x9, x10, x11, .dat (.lst O)]) (E := [.no, .deck p q l b, x2, x3, x4, x5, x6, x7, x8, x9, x10, x11, .dat (.lst O)]) (id : D → D) (fun z => [.no, .deck p q l b, x2, x3, x4, x5, x6, x7, .dat z, x9, x10, x11, .dat (.lst O)]) (fun _ => false) id O (fun z hz => by
    have h1 := h z hz
    refine ⟨rfl, ?_, fun e => (by cases e), rfl⟩
    show tB (eOp (gIsB true) (eF 1 (m_finding_holds c) (aC (eV 8) aN)) (eC (.bl false))) [.no, .deck p q l b, x2, x3, x4, x5, x6, x7, .dat z, x9, x10, x11, .dat (.lst O)] = .ok (false, [.no, .deck p q l b, x2, x3, x4, x5, x6, x7, .dat z, x9, x10, x11, .dat (.lst O)])
    simp [h1, hi]) []
  rw [List.map_id] at k
  rw [k]
  simp
/-- the inner turn: a column of a finding that is shown -/
theorem one_turn (c : CA) (p q : Addr) (l : List Int) (b : Int) (x2 x11 x12 x9 x10 : Cell) (W t so x it : D) (k : Nat) (hb : Bool) (hf : m_finding_holds c [fnd t so x it] = .ok (.bl hb)) (hl : m__law_is_derivation c [W, so, x, it] = .ok (.bl hb)) :
    Ok ((sSeq (sPar [9, 10] [.e (eTup (aC (eC (dS SET)) (aC (eV 4) (aC (eV 5) (aC (eV 6) (aC (eV 8) aN)))))), .e (eF 4 (m__law_is_derivation c) (aC (eV 3) (aC (eV 5) (aC (eV 6) (aC (eV 8) aN)))))])
      (sIf (tB (eOp gNe (eCall gRepr (aC (eIf (tB (eOp gEq (eOp gMod (eV 7) (eC (.int 2))) (eC (.int 0)))) (eF 1 (m_finding_holds c) (aC (eV 9) aN)) (eFK 0 1 [0] 1 (m_finding_holds c) aN (aC (eV 9) aN))) aN)) (eCall gRepr (aC (eV 10) aN)))) (sRet (eC (.bl false))) sNx))
      [.no, .deck p q l b, x2, .dat W, .dat t, .dat so, .dat x, .dat (.int (k : Nat)), .dat it, x9, x10, x11, x12]) fun r => r.1 = .nx ∧ ∃ y9 y10, r.2 = [.no, .deck p q l b, x2, .dat W, .dat t, .dat so, .dat x, .dat (.int (k : Nat)), .dat it, y9, y10, x11, x12] := by
  have hsm : ∀ (xs : List D) r, xs.length ≤ 20 → small xs r = r := fun xs r h => small_ok (by omega)
  obtain ⟨s, hs⟩ := repr_bl hb
  have hne : gNe (.str s) (.str s) = some (.bl false) := by rw [gNe_str, decide_eq_true rfl]; rfl
  refine seq_eq (E' := [.no, .deck p q l b, x2, .dat W, .dat t, .dat so, .dat x, .dat (.int (k : Nat)), .dat it, .dat (fnd t so x it), .dat (.bl hb), x11, x12]) (by simp [hl, hsm]; rfl) ?_
  generalize fnd t so x it = f at hf
  have hm : gMod (.int (k : Nat)) (.int 2) = some (.int ((k : Int) % 2)) := rfl
  have hq := gEq_int ((k : Int) % 2) 0
  generalize (k : Int) % 2 = j at hm hq
  by_cases h0 : j = 0
  · rw [decide_eq_true h0] at hq
    refine Ok.cps fun P hP => ?_
    simp [hm, hq, hf, hs, hne]
    exact hP _ ⟨rfl, _, _, rfl⟩
  · rw [decide_eq_false h0] at hq
    refine Ok.cps fun P hP => ?_
    simp [hm, hq, hf, hs, hne, DL.pick]
    exact hP _ ⟨rfl, _, _, rfl⟩
theorem math_law (c : CA) (p q : Addr) (l : List Int) (b : Int) (hl : l.length ≤ 63) : ∃ E, b_law c (.no :: .deck p q l b :: nos 11) = .ok (.rt (.bl true), E) := by
  suffices h : Ok (b_law c (.no :: .deck p q l b :: nos 11)) fun r => r.1 = .rt (.bl true) by
    obtain ⟨⟨f, E⟩, e, h⟩ := h
    dsimp only at h
    subst h
    exact ⟨E, e⟩
  have hsm : ∀ (xs : List D) r, xs.length ≤ 20 → small xs r = r := fun xs r h => small_ok (by omega)
  have hnil : gNe (.lst []) (.lst []) = some (.bl false) := gNe_nil rfl
  unfold b_law
  simp only [s_set, s_A, s_break, s_e]
  refine seq_all (fun i : Nat => D.int i) (fun E => ∃ (l : List Int) (b : Int) (x2 x3 x4 x5 x6 x7 x8 x9 x10 x11 x12 : Cell), E = [.no, .deck p q l b, x2, x3, x4, x5, x6, x7, x8, x9, x10, x11, x12] ∧ plainC (some x6) = true ∧ plainC (some x8) = true ∧ l.length ≤ 63) (List.range 5) (E' := [.no, .deck p q l b, .no, .no, .no, .no, .no, .no, .no, .no, .no, .no, .no]) (by simp [rgD_map]) ⟨_, _, _, _, _, _, _, _, _, _, _, _, _, rfl, rfl, rfl, hl⟩ ?_ ?_
  · rintro i _ _ ⟨l, b, x2, x3, x4, x5, x6, x7, x8, x9, x10, x11, x12, rfl, hp6, hp8, hl⟩
    refine ⟨_, rfl, ?_⟩
    obtain ⟨cols, R, win, com, hid, l2, b2, e2, fr, hl2⟩ := m_frame4_ok c p q l b 6 2 (by decide) (by decide) (by decide) (by decide) hl
    have e2 : m__law_frame c p q ⟨l, b⟩ [.int 6, .int 2] = _ := e2
    have S := fr.s
    have hrl : ∀ r ∈ R, r.1.length ≤ 26 := fun r hr => (S.lasc r hr).len fun x hx => S.let_ x (S.left r hr x hx)
    have hc6 := fr.c6
    have hR9 := fr.rl
    have wl : win.length ≤ 6 := Nat.le_trans fr.wsub.length_le hc6
    have cml : com.length ≤ 6 := Nat.le_trans fr.csub.length_le wl
    have hdl := fr.h2
    obtain ⟨rst, hrst⟩ : ∃ r, r = sortB ltN (com ++ hid) := ⟨_, rfl⟩
    have rl : rst.length ≤ 8 := by rw [hrst, sortB_len, List.length_append]; omega
    have rlet : ∀ x ∈ rst, x ∈ letters := fun x hx => by
      rw [hrst, mem_sortB, List.mem_append] at hx
      refine S.let_ x ?_
      rcases hx with h | h
      · exact fr.wsub.subset (fr.csub.subset h)
      · exact fr.perm.mem_iff.mp (List.mem_append_left _ h)
    have wlet : ∀ x ∈ win, x ∈ letters := fun x hx => S.let_ x (fr.wsub.subset hx)
    rw [← hrst] at e2
    have hpl : (pageTx cols R).length ≤ 400 := page_len (Nat.le_trans (page_size (n := 26) (by omega) hrl) (Nat.le_trans (Nat.mul_le_mul_right _ (show R.length + 1 ≤ 10 by omega)) (by decide)))
    have hpc := page_chars S
    have hpt : TxOk (pageTx cols R) := ⟨by omega, fun x hx => by have := hpc x hx; omega⟩
    have e3 := m_stext4_ok c (cols := cols) (R := R) win com hid rst (by omega) (fun r hr => by have := hrl r hr; omega) (by omega)
    have e4 := m_text4_ok c (cols := cols) (R := R) win com hid rst (by omega) (fun r hr => by have := hrl r hr; omega) (by omega) (by omega) (by omega) (by omega)
    have hs := m_scheme_in_ok c hpt
    rw [sch_back S] at hs
    have hs : m_scheme_in c [dS (pageTx cols R)] = .ok (dSch c.Scheme cols R) := hs
    obtain ⟨i1, hi1⟩ := frame_bad S wlet rlet
    obtain ⟨i2, hi2⟩ := line_bad S
    have wlt : ∀ {w : List Nat}, (∀ x ∈ w, x ∈ letters) → ∀ x ∈ wordOf w, x < 128 := fun {w} h x hx => by
      unfold wordOf at hx
      split at hx
      · have := List.mem_singleton.mp hx; omega
      · exact letter_lt (h x hx)
    have hft : TxOk (frameTx (pageTx cols R) win rst) := by
      have h1 := wordOf_len win
      have h2 := wordOf_len rst
      unfold frameTx
      refine ⟨by simp; omega, fun x hx => ?_⟩
      simp only [List.mem_append] at hx
      have lt1 : ∀ y ∈ ([10, 119, 105, 110, 100, 111, 119, 32] : List Nat), y < 128 := by decide
      have lt2 : ∀ y ∈ ([10, 114, 101, 115, 116, 32] : List Nat), y < 128 := by decide
      rcases hx with (((hx | hx) | hx) | hx) | hx
      · have := hpc x hx; omega
      · have := lt1 x hx; omega
      · have := wlt wlet x hx; omega
      · have := lt2 x hx; omega
      · have := wlt rlet x hx; omega
    have hlt : TxOk (pageTx cols R ++ [10]) := by
      refine ⟨by simp; omega, fun x hx => ?_⟩
      rcases List.mem_append.mp hx with hx | hx
      · have := hpc x hx; omega
      · have := List.mem_singleton.mp hx; omega
    have hs1 := m_scheme_in_ok c hft
    rw [hi1] at hs1
    have hs2 := m_scheme_in_ok c hlt
    rw [hi2] at hs2
    have a1 := gAdd_dSC (pageTx cols R) 10 (by omega)
    clear hrst hi1 hi2 hft hlt wlt wlet rlet hpc hpt
    obtain ⟨t, ht⟩ : ∃ t, t = pageTx cols R := ⟨_, rfl⟩
    rw [← ht] at hs hs1 hs2 hpl e3 e4 a1
    have gc := gFr_columns cols R win com hid rst
    have gr := gFr_rules cols R win com hid rst
    obtain ⟨W, hW⟩ : ∃ W, W = dFr cols R win com hid rst := ⟨_, rfl⟩
    rw [← hW] at e2 e3 e4 gc gr
    clear hW ht
    refine seq_eq (E' := [.no, .deck p q l2 b2, .dat (.int i), .dat W, x4, x5, x6, x7, x8, x9, x10, x11, x12]) (by simp [e2]) ?_
    clear e2
    have hsq : sqD (dS cols) = some (cols.map dC) := sqD_dS cols
    have cA := S.asc
    refine seq_ok (Ok.mono (P := fun r => r.1 = .nx ∧ ∃ (so : List Nat) (l : List Int) (b : Int), r.2 = [.no, .deck p q l b, .dat (.int i), .dat W, .dat (dS t), .dat (dS so), x6, x7, x8, x9, x10, x11, x12] ∧ so.Sublist cols ∧ l.length ≤ 63) ?_ ?_)
    · refine Ok.cps fun P hP => ?_
      simp [Ok_bind, -compL_res', e3, gc, hsq, hp6]
      refine compL_sub dC (fun E => ∃ l b, E = [.no, .deck p q l b, .dat (.int i), .dat W, x4, x5, x6, x7, x8, x9, x10, x11, x12] ∧ l.length ≤ 63) (fun _ => True) cols ⟨_, _, rfl, hl2⟩ ?_ ?_
      · rintro y hy _ ⟨l6, b6, rfl, hl6⟩
        refine ⟨_, rfl, ?_⟩
        refine Ok.cps fun P hP => ?_
        obtain ⟨w, l7, b7, e7, hw, hl7⟩ := draw_ok p q l6 b6 3 (by omega) (by omega) hl6
        simp [m__law_draw, e7]
        exact hP _ ⟨⟨_, _, rfl, hl7⟩, fun _ => ⟨by simp, trivial⟩⟩
      · rintro ls _ hsub _ ⟨l6, b6, rfl, hl6⟩
        have hj := gJoin_signs ls (by have := hsub.length_le; omega)
        have s0 : D.str (Str.ofString "") = dS [] := s_e
        rw [s0] at hj
        simp [hj]
        exact hP _ ⟨rfl, ls, l6, b6, rfl, hsub, hl6⟩
    rintro ⟨_, _⟩ ⟨rfl, so, l3, b3, rfl, ssub, hl3⟩
    refine ⟨rfl, ?_⟩
    dsimp only
    clear hl2 hl e3
    have sl : so.length ≤ 6 := Nat.le_trans ssub.length_le hc6
    have sA : Asc so := cA.sublist ssub
    have slet : ∀ x ∈ so, x ∈ letters := fun x hx => S.let_ x (ssub.subset hx)
    have wso : withinB so cols = true := withinB_iff.mpr ⟨sA, slet, fun x hx => ssub.subset hx⟩
    have w1 : ∀ y ∈ cols, withinB [y] cols = true := fun y hy => withinB_iff.mpr ⟨ordN.ascB.mp rfl, fun x hx => by rw [List.mem_singleton.mp hx]; exact S.let_ y hy, fun x hx => by rw [List.mem_singleton.mp hx]; exact hy⟩
    obtain ⟨is, l4, b4, e5, hil, hin, hl4⟩ := m_own4_ok c p q l3 b3 gr (so := so) (by omega) hR9 hl3
    obtain ⟨ds, l5, b5, e6, hdsl, hds, hl5⟩ := m_others4_ok c p q l4 b4 gr hR9 is hil hl4
    have hnum : numD 0 ds = ds.zipIdx.map fun pr => D.tup [.int (pr.2 : Nat), pr.1] := by
      have h := numDn (fun d : D => d) ds 0
      rw [List.map_id'] at h
      exact h
    generalize D.tup (is.map dN) = st at e5 e6
    refine seq_all (fun pr : D × Nat => D.tup [.int (pr.2 : Nat), pr.1]) (fun E => ∃ (x6 x7 x8 x9 x10 : Cell), E = [.no, .deck p q l5 b5, .dat (.int i), .dat W, .dat (dS t), .dat (dS so), x6, x7, x8, x9, x10, x11, x12] ∧ plainC (some x6) = true ∧ plainC (some x8) = true) ds.zipIdx (E' := [.no, .deck p q l5 b5, .dat (.int i), .dat W, .dat (dS t), .dat (dS so), x6, x7, x8, x9, x10, x11, x12]) (by simp [e5, e6, hnum]) ⟨_, _, _, _, _, rfl, hp6, hp8⟩ ?_ ?_
    · rintro ⟨d, k⟩ hdk _ ⟨x6, x7, x8, x9, x10, rfl, hp6, _⟩
      refine ⟨_, rfl, ?_⟩
      have hd : d ∈ ds := (List.mem_zipIdx hdk).2.2 ▸ List.getElem_mem _
      have hib := hds d hd
      refine for_all dC (fun E => ∃ (x6 x9 x10 : Cell), E = [.no, .deck p q l5 b5, .dat (.int i), .dat W, .dat (dS t), .dat (dS so), x6, .dat (.int (k : Nat)), .dat d, x9, x10, x11, x12] ∧ plainC (some x6) = true) cols (E' := [.no, .deck p q l5 b5, .dat (.int i), .dat W, .dat (dS t), .dat (dS so), x6, .dat (.int (k : Nat)), .dat d, x9, x10, x11, x12]) (by simp [gc]) ⟨_, _, _, rfl, hp6⟩ ?_ ?_
      · rintro y hy _ ⟨x6, x9, x10, rfl, _⟩
        refine ⟨_, rfl, ?_⟩
        refine (one_turn c p q l5 b5 (.dat (.int i)) x11 x12 x9 x10 W (dS t) (dS so) (dC y) d k (holdsB R so y d) (find_ok c hs wso (w1 y hy) (by omega) hib) (m_isder4_ok c gr so y d (by omega) hib)).mono fun r h => ?_
        obtain ⟨h1, y9, y10, h2⟩ := h
        exact ⟨.inl h1, _, _, _, h2, rfl⟩
      · rintro _ ⟨x6, x9, x10, rfl, hp⟩
        exact ⟨.inl rfl, _, _, _, _, _, rfl, hp, rfl⟩
    · rintro _ ⟨x6, x7, x8, x9, x10, rfl, hp6, hp8⟩
      clear e5 e6 hnum hds hdsl hil hin
      obtain ⟨f, cs, hcs⟩ : ∃ f cs, cols = f :: cs := by
        cases h : cols with
        | nil => exact absurd h S.ne
        | cons f cs => exact ⟨f, cs, rfl⟩
      have hfc : f ∈ cols := by rw [hcs]; exact List.mem_cons_self
      have h0 : gIx (dS cols) (.int 0) = some (dC f) := by
        have h := gIx_str_nat cols 0
        rw [hcs] at h ⊢
        exact h
      have a2 : gAdd (dS so) (dC 65) = some (dS (so ++ [65])) := gAdd_dSC so 65 (by omega)
      have hst : gStep (-1) (dS cols) = some (dS cols.reverse) := by
        have h := gStep_str (T cols)
        rw [tl_T] at h; exact h
      have F1 : m_finding_holds c [.tup [dS SET, dS t, dS (so ++ [65]), dC f, .tup []]] = .ok (.bl false) := find_of c rfl (settles_co c hs (by
        have h := m_are_within_str c (so ++ [65]) cols
        have hw : withinB (so ++ [65]) cols = false := by
          cases hq : withinB (so ++ [65]) cols with
          | false => rfl
          | true =>
            have := (withinB_iff.mp hq).2.1 65 (by simp)
            rw [letters_eq] at this
            revert this; decide
        rw [hw] at h; exact h))
      have gso := m_are_within_str c so cols
      rw [wso] at gso
      have gf : m_are_within c [dC f, dS cols] = .ok (.bl (withinB [f] cols)) := m_are_within_str c [f] cols
      have gcc := m_are_within_str c cols cols
      have ge := m_are_within_str c [] cols
      have F2 : m_finding_holds c [.tup [dS SET, dS t, dS so, dS [], .tup []]] = .ok (.bl false) := find_of c rfl (settles_len c (k := 0) hs gso ge rfl (by decide))
      have F3 : m_finding_holds c [.tup [dS SET, dS t, .int 0, dC f, .tup []]] = .ok (.bl false) := find_of c rfl (settles_co c hs (m_within_no c cols (by simp)))
      have F4 : m_finding_holds c [.tup [dS SET, dS (frameTx t win rst), dS cols, dC f, .tup []]] = .ok (.bl false) := find_of c rfl (settles_none c hs1)
      have F5 : m_finding_holds c [.tup [dS SET, dS t, dS so, .non, .tup []]] = .ok (.bl false) := find_of c rfl (settles_x c hs gso (m_within_no c cols (by simp)))
      have F6 : m_finding_holds c [.tup [dS SET, dS t, dS cols.reverse, dC f, .tup []]] = .ok (.bl false) := find_of c rfl (settles_co c hs (by
        have h := m_are_within_str c cols.reverse cols
        have hw : withinB cols.reverse cols = false := by
          cases hq : withinB cols.reverse cols with
          | false => rfl
          | true =>
            exfalso
            have h1 := (withinB_iff.mp hq).1
            have h2 : cols.reverse = cols := h1.ext cA fun x => List.mem_reverse
            have c3 := fr.c3
            match cols, cA, h2, c3 with
            | x :: y :: r, cA, h2, c3 =>
              have hl : (x :: y :: r).getLast? = some x := by rw [← h2]; simp
              have hm : x ∈ y :: r := by
                rw [List.getLast?_cons_cons] at hl
                exact List.mem_of_getLast? hl
              exact (List.nodup_cons.mp cA.nodup).1 hm
        rw [hw] at h; exact h))
      have F7 : m_finding_holds c [.tup [dS SET, dS (t ++ [10]), dS cols, dC f, .tup []]] = .ok (.bl false) := find_of c rfl (settles_none c hs2)
      have a1 : gAdd (dS t) (dC 10) = some (dS (t ++ [10])) := a1
      clear gso gf gcc ge hs hs1 hs2 wso w1 slet hcs hsq
      refine seq_eq (E' := [.no, .deck p q l5 b5, .dat (.int i), .dat W, .dat (dS t), .dat (dS so), x6, x7, x8, x9, x10, .dat (dC f), x12]) (by simp [gc, h0]) ?_
      generalize dS (frameTx t win rst) = t4 at e4 F4
      generalize dS (t ++ [10]) = t7 at a1 F7
      generalize dS (so ++ [65]) = s1 at a2 F1
      generalize dS cols.reverse = cr at hst F6
      generalize dS cols = cc at gc h0 hst F4 F7
      generalize dS t = t0 at a1 F1 F2 F3 F5 F6 ⊢
      generalize dS so = s0 at a2 F2 F5 ⊢
      generalize dS SET = k0 at F1 F2 F3 F4 F5 F6 F7 ⊢
      generalize dC f = f0 at F1 F3 F4 F6 F7 ⊢
      generalize dS [] = em at F2 ⊢
      generalize dC 65 = c65 at a2 ⊢
      generalize dC 10 = c10 at a1 ⊢
      refine seq_eq (E' := [.no, .deck p q l5 b5, .dat (.int i), .dat W, .dat t0, .dat s0, x6, x7, x8, x9, x10, .dat f0, .own (.lst [.tup [k0, t0, s1, f0, .tup []], .tup [k0, t0, s0, em, .tup []]])]) (by simp [a2, hsm]) ?_
      have g1 : gAddL (.lst [.tup [k0, t0, s1, f0, .tup []], .tup [k0, t0, s0, em, .tup []]]) (.lst [.tup [k0, t0, .int 0, f0, .tup []], .tup [k0, t4, cc, f0, .tup []]]) = some (.lst [.tup [k0, t0, s1, f0, .tup []], .tup [k0, t0, s0, em, .tup []], .tup [k0, t0, .int 0, f0, .tup []], .tup [k0, t4, cc, f0, .tup []]]) := gAdd_lst [_, _] [_, _] (by simp)
      refine seq_eq (E' := [.no, .deck p q l5 b5, .dat (.int i), .dat W, .dat t0, .dat s0, x6, x7, x8, x9, x10, .dat f0, .own (.lst [.tup [k0, t0, s1, f0, .tup []], .tup [k0, t0, s0, em, .tup []], .tup [k0, t0, .int 0, f0, .tup []], .tup [k0, t4, cc, f0, .tup []]])]) (by simp [gc, e4, g1, hsm, -ap_gAddL]) ?_
      have g2 : gAddL (.lst [.tup [k0, t0, s1, f0, .tup []], .tup [k0, t0, s0, em, .tup []], .tup [k0, t0, .int 0, f0, .tup []], .tup [k0, t4, cc, f0, .tup []]]) (.lst [.tup [k0, t0, s0, .non, .tup []], .tup [k0, t0, cr, f0, .tup []]]) = some (.lst [.tup [k0, t0, s1, f0, .tup []], .tup [k0, t0, s0, em, .tup []], .tup [k0, t0, .int 0, f0, .tup []], .tup [k0, t4, cc, f0, .tup []], .tup [k0, t0, s0, .non, .tup []], .tup [k0, t0, cr, f0, .tup []]]) := gAdd_lst [_, _, _, _] [_, _] (by simp)
      refine seq_eq (E' := [.no, .deck p q l5 b5, .dat (.int i), .dat W, .dat t0, .dat s0, x6, x7, x8, x9, x10, .dat f0, .own (.lst [.tup [k0, t0, s1, f0, .tup []], .tup [k0, t0, s0, em, .tup []], .tup [k0, t0, .int 0, f0, .tup []], .tup [k0, t4, cc, f0, .tup []], .tup [k0, t0, s0, .non, .tup []], .tup [k0, t0, cr, f0, .tup []]])]) (by simp [gc, hst, g2, hsm, -ap_gAddL]) ?_
      have hO : ∀ it ∈ ([.tup [k0, t0, s1, f0, .tup []], .tup [k0, t0, s0, em, .tup []], .tup [k0, t0, .int 0, f0, .tup []], .tup [k0, t4, cc, f0, .tup []], .tup [k0, t0, s0, .non, .tup []], .tup [k0, t0, cr, f0, .tup []], .tup [k0, t7, cc, f0, .tup []]] : List D), m_finding_holds c [it] = .ok (.bl false) := by
        intro it h
        simp only [List.mem_cons, List.not_mem_nil, or_false] at h
        rcases h with rfl | rfl | rfl | rfl | rfl | rfl | rfl
        · exact F1
        · exact F2
        · exact F3
        · exact F4
        · exact F5
        · exact F6
        · exact F7
      have g3 := gApp_ok [.tup [k0, t0, s1, f0, .tup []], .tup [k0, t0, s0, em, .tup []], .tup [k0, t0, .int 0, f0, .tup []], .tup [k0, t4, cc, f0, .tup []], .tup [k0, t0, s0, .non, .tup []], .tup [k0, t0, cr, f0, .tup []]] (.tup [k0, t7, cc, f0, .tup []]) (by simp)
      refine seq_eq (E' := [.no, .deck p q l5 b5, .dat (.int i), .dat W, .dat t0, .dat s0, x6, x7, x8, x9, x10, .dat f0, .own (.lst [.tup [k0, t0, s1, f0, .tup []], .tup [k0, t0, s0, em, .tup []], .tup [k0, t0, .int 0, f0, .tup []], .tup [k0, t4, cc, f0, .tup []], .tup [k0, t0, s0, .non, .tup []], .tup [k0, t0, cr, f0, .tup []], .tup [k0, t7, cc, f0, .tup []]])]) (by simp [gc, a1, g3, hsm]) ?_
      generalize ([.tup [k0, t0, s1, f0, .tup []], .tup [k0, t0, s0, em, .tup []], .tup [k0, t0, .int 0, f0, .tup []], .tup [k0, t4, cc, f0, .tup []], .tup [k0, t0, s0, .non, .tup []], .tup [k0, t0, cr, f0, .tup []], .tup [k0, t7, cc, f0, .tup []]] : List D) = O at hO ⊢
      have hcomp := odd_all c p q l5 b5 (.dat (.int i)) (.dat W) (.dat t0) (.dat s0) x6 x7 x9 x10 (.dat f0) O hO x8
      refine Ok.cps fun P hP => ?_
      simp [hcomp, hnil, hp8, -compL_res']
      exact hP _ ⟨.inl rfl, _, _, _, _, _, _, _, _, _, _, _, _, _, rfl, hp6, hp8, hl5⟩
  · rintro _ ⟨l, b, x2, x3, x4, x5, x6, x7, x8, x9, x10, x11, x12, rfl, _, _, hl⟩
    simp
theorem facts_X {w : World} {K : PySem.W.Frag} {h : Heap} {mg : Str → Option Value} {fa : Addr} (X : K.In h) (G : h.Ns mainGlobals mg) (hfa : mg "law" = some (.ref fa)) (c : obX okX fnsX tbX K = (true, valsX, tvX w)) :
  ∃ fd : FuncData, (∀ (s : Shared) (v : Value), BindsTo s fd ⟨[v], []⟩ [("_law_script", v)]) ∧ ∀ base : Heap, K.In base → base.Ns mainGlobals mg → FnG (PySem.Challenge.rw_restbehind_k44_findings_of_settling).prog w K mg base CX0 10 fa fd ["_law_script"] (spLaw K) := by
  have c1 : okX K = true := congrArg (fun z : AlX => z.1) c
  have c2 : fnsX K = valsX := congrArg (fun z : AlX => z.2.1) c
  have c3 : tbX K = tvX w := congrArg (fun z : AlX => z.2.2) c
  have F : ∀ (i : Nat) (f : PySem.W.Frag → Bool), fxs[i]? = some f → f K = true := fun i f h => List.all_eq_true.mp c1 f (List.mem_of_getElem? h)
  obtain ⟨oc__law_draw, od__law_draw, sl__law_draw, kV__law_draw, dc__law_draw, pm__law_draw, an__law_draw, cd__law_draw, ct__law_draw, l__law_draw, q__law_draw⟩ := fnQ_ok (x := "_law_draw") (q := "_law_draw") (st := s__law_draw) (Option.some.inj (congrArg (fun z : List FnQ => z[0]?) c2)) (F 0 fx_0 rfl)
  obtain ⟨oc__law_deck, od__law_deck, sl__law_deck, kV__law_deck, dc__law_deck, pm__law_deck, an__law_deck, cd__law_deck, ct__law_deck, l__law_deck, q__law_deck⟩ := fnQ_ok (x := "_law_deck") (q := "_law_deck") (st := s__law_deck) (Option.some.inj (congrArg (fun z : List FnQ => z[1]?) c2)) (F 1 fx_1 rfl)
  obtain ⟨oc__law_pick, od__law_pick, sl__law_pick, kV__law_pick, dc__law_pick, pm__law_pick, an__law_pick, cd__law_pick, ct__law_pick, l__law_pick, q__law_pick⟩ := fnQ_ok (x := "_law_pick") (q := "_law_pick") (st := s__law_pick) (Option.some.inj (congrArg (fun z : List FnQ => z[2]?) c2)) (F 2 fx_2 rfl)
  obtain ⟨oc__law_closure, od__law_closure, sl__law_closure, kV__law_closure, dc__law_closure, pm__law_closure, an__law_closure, cd__law_closure, ct__law_closure, l__law_closure, q__law_closure⟩ := fnQ_ok (x := "_law_closure") (q := "_law_closure") (st := s__law_closure) (Option.some.inj (congrArg (fun z : List FnQ => z[3]?) c2)) (F 3 fx_3 rfl)
  obtain ⟨oc__law_is_within, od__law_is_within, sl__law_is_within, kV__law_is_within, dc__law_is_within, pm__law_is_within, an__law_is_within, cd__law_is_within, ct__law_is_within, l__law_is_within, q__law_is_within⟩ := fnQ_ok (x := "_law_is_within") (q := "_law_is_within") (st := s__law_is_within) (Option.some.inj (congrArg (fun z : List FnQ => z[4]?) c2)) (F 4 fx_4 rfl)
  obtain ⟨oc__law_frame, od__law_frame, sl__law_frame, kV__law_frame, dc__law_frame, pm__law_frame, an__law_frame, cd__law_frame, ct__law_frame, l__law_frame, q__law_frame⟩ := fnQ_ok (x := "_law_frame") (q := "_law_frame") (st := s__law_frame) (Option.some.inj (congrArg (fun z : List FnQ => z[5]?) c2)) (F 5 fx_5 rfl)
  obtain ⟨oc__law_scheme_text, od__law_scheme_text, sl__law_scheme_text, kV__law_scheme_text, dc__law_scheme_text, pm__law_scheme_text, an__law_scheme_text, cd__law_scheme_text, ct__law_scheme_text, l__law_scheme_text, q__law_scheme_text⟩ := fnQ_ok (x := "_law_scheme_text") (q := "_law_scheme_text") (st := s__law_scheme_text) (Option.some.inj (congrArg (fun z : List FnQ => z[6]?) c2)) (F 6 fx_6 rfl)
  obtain ⟨oc__law_others, od__law_others, sl__law_others, kV__law_others, dc__law_others, pm__law_others, an__law_others, cd__law_others, ct__law_others, l__law_others, q__law_others⟩ := fnQ_ok (x := "_law_others") (q := "_law_others") (st := s__law_others) (Option.some.inj (congrArg (fun z : List FnQ => z[7]?) c2)) (F 7 fx_7 rfl)
  obtain ⟨oc__law_own, od__law_own, sl__law_own, kV__law_own, dc__law_own, pm__law_own, an__law_own, cd__law_own, ct__law_own, l__law_own, q__law_own⟩ := fnQ_ok (x := "_law_own") (q := "_law_own") (st := s__law_own) (Option.some.inj (congrArg (fun z : List FnQ => z[8]?) c2)) (F 8 fx_8 rfl)
  obtain ⟨oc__law_is_derivation, od__law_is_derivation, sl__law_is_derivation, kV__law_is_derivation, dc__law_is_derivation, pm__law_is_derivation, an__law_is_derivation, cd__law_is_derivation, ct__law_is_derivation, l__law_is_derivation, q__law_is_derivation⟩ := fnQ_ok (x := "_law_is_derivation") (q := "_law_is_derivation") (st := s__law_is_derivation) (Option.some.inj (congrArg (fun z : List FnQ => z[9]?) c2)) (F 9 fx_9 rfl)
  obtain ⟨oc_is_columns, od_is_columns, sl_is_columns, kV_is_columns, dc_is_columns, pm_is_columns, an_is_columns, cd_is_columns, ct_is_columns, l_is_columns, q_is_columns⟩ := fnQ_ok (x := "is_columns") (q := "is_columns") (st := s_is_columns) (Option.some.inj (congrArg (fun z : List FnQ => z[10]?) c2)) (F 10 fx_10 rfl)
  obtain ⟨oc_columns_in, od_columns_in, sl_columns_in, kV_columns_in, dc_columns_in, pm_columns_in, an_columns_in, cd_columns_in, ct_columns_in, l_columns_in, q_columns_in⟩ := fnQ_ok (x := "columns_in") (q := "columns_in") (st := s_columns_in) (Option.some.inj (congrArg (fun z : List FnQ => z[11]?) c2)) (F 11 fx_11 rfl)
  obtain ⟨oc_head_in, od_head_in, sl_head_in, kV_head_in, dc_head_in, pm_head_in, an_head_in, cd_head_in, ct_head_in, l_head_in, q_head_in⟩ := fnQ_ok (x := "head_in") (q := "head_in") (st := s_head_in) (Option.some.inj (congrArg (fun z : List FnQ => z[12]?) c2)) (F 12 fx_12 rfl)
  obtain ⟨oc_are_within, od_are_within, sl_are_within, kV_are_within, dc_are_within, pm_are_within, an_are_within, cd_are_within, ct_are_within, l_are_within, q_are_within⟩ := fnQ_ok (x := "are_within") (q := "are_within") (st := s_are_within) (Option.some.inj (congrArg (fun z : List FnQ => z[13]?) c2)) (F 13 fx_13 rfl)
  obtain ⟨oc_is_rule, od_is_rule, sl_is_rule, kV_is_rule, dc_is_rule, pm_is_rule, an_is_rule, cd_is_rule, ct_is_rule, l_is_rule, q_is_rule⟩ := fnQ_ok (x := "is_rule") (q := "is_rule") (st := s_is_rule) (Option.some.inj (congrArg (fun z : List FnQ => z[14]?) c2)) (F 14 fx_14 rfl)
  obtain ⟨oc_Scheme___init__, od_Scheme___init__, sl_Scheme___init__, kV_Scheme___init__, dc_Scheme___init__, pm_Scheme___init__, an_Scheme___init__, cd_Scheme___init__, ct_Scheme___init__, l_Scheme___init__, q_Scheme___init__⟩ := fnQ_ok (x := "__init__") (q := "Scheme.__init__") (st := s_Scheme___init__) (Option.some.inj (congrArg (fun z : List FnQ => z[15]?) c2)) (F 15 fx_15 rfl)
  obtain ⟨oc_rule_in, od_rule_in, sl_rule_in, kV_rule_in, dc_rule_in, pm_rule_in, an_rule_in, cd_rule_in, ct_rule_in, l_rule_in, q_rule_in⟩ := fnQ_ok (x := "rule_in") (q := "rule_in") (st := s_rule_in) (Option.some.inj (congrArg (fun z : List FnQ => z[16]?) c2)) (F 16 fx_16 rfl)
  obtain ⟨oc_rules_in, od_rules_in, sl_rules_in, kV_rules_in, dc_rules_in, pm_rules_in, an_rules_in, cd_rules_in, ct_rules_in, l_rules_in, q_rules_in⟩ := fnQ_ok (x := "rules_in") (q := "rules_in") (st := s_rules_in) (Option.some.inj (congrArg (fun z : List FnQ => z[17]?) c2)) (F 17 fx_17 rfl)
  obtain ⟨oc_Scheme_read, od_Scheme_read, sl_Scheme_read, kV_Scheme_read, dc_Scheme_read, pm_Scheme_read, an_Scheme_read, cd_Scheme_read, ct_Scheme_read, l_Scheme_read, q_Scheme_read⟩ := fnQ_ok (x := "read") (q := "Scheme.read") (st := s_Scheme_read) (Option.some.inj (congrArg (fun z : List FnQ => z[18]?) c2)) (F 18 fx_18 rfl)
  obtain ⟨oc_scheme_in, od_scheme_in, sl_scheme_in, kV_scheme_in, dc_scheme_in, pm_scheme_in, an_scheme_in, cd_scheme_in, ct_scheme_in, l_scheme_in, q_scheme_in⟩ := fnQ_ok (x := "scheme_in") (q := "scheme_in") (st := s_scheme_in) (Option.some.inj (congrArg (fun z : List FnQ => z[19]?) c2)) (F 19 fx_19 rfl)
  obtain ⟨oc_is_integer, od_is_integer, sl_is_integer, kV_is_integer, dc_is_integer, pm_is_integer, an_is_integer, cd_is_integer, ct_is_integer, l_is_integer, q_is_integer⟩ := fnQ_ok (x := "is_integer") (q := "is_integer") (st := s_is_integer) (Option.some.inj (congrArg (fun z : List FnQ => z[20]?) c2)) (F 20 fx_20 rfl)
  obtain ⟨oc_derivation_holds, od_derivation_holds, sl_derivation_holds, kV_derivation_holds, dc_derivation_holds, pm_derivation_holds, an_derivation_holds, cd_derivation_holds, ct_derivation_holds, l_derivation_holds, q_derivation_holds⟩ := fnQ_ok (x := "derivation_holds") (q := "derivation_holds") (st := s_derivation_holds) (Option.some.inj (congrArg (fun z : List FnQ => z[21]?) c2)) (F 21 fx_21 rfl)
  obtain ⟨oc_settles_so, od_settles_so, sl_settles_so, kV_settles_so, dc_settles_so, pm_settles_so, an_settles_so, cd_settles_so, ct_settles_so, l_settles_so, q_settles_so⟩ := fnQ_ok (x := "settles_so") (q := "settles_so") (st := s_settles_so) (Option.some.inj (congrArg (fun z : List FnQ => z[22]?) c2)) (F 22 fx_22 rfl)
  obtain ⟨oc_finding_holds, od_finding_holds, sl_finding_holds, kV_finding_holds, dc_finding_holds, pm_finding_holds, an_finding_holds, cd_finding_holds, ct_finding_holds, l_finding_holds, q_finding_holds⟩ := fnQ_ok (x := "finding_holds") (q := "finding_holds") (st := s_finding_holds) (Option.some.inj (congrArg (fun z : List FnQ => z[23]?) c2)) (F 23 fx_23 rfl)
  obtain ⟨oc__law_text, od__law_text, sl__law_text, kV__law_text, dc__law_text, pm__law_text, an__law_text, cd__law_text, ct__law_text, l__law_text, q__law_text⟩ := fnQ_ok (x := "_law_text") (q := "_law_text") (st := s__law_text) (Option.some.inj (congrArg (fun z : List FnQ => z[24]?) c2)) (F 24 fx_24 rfl)
  obtain ⟨oc_law, od_law, sl_law, kV_law, dc_law, pm_law, an_law, cd_law, ct_law, l_law, q_law⟩ := fnQ_ok (x := "law") (q := "law") (st := s_law) (Option.some.inj (congrArg (fun z : List FnQ => z[25]?) c2)) (F 25 fx_25 rfl)
  obtain ⟨ocxBadText, odxBadText, kVxBadText, dcxBadText, pmxBadText, anxBadText, ctxBadText, oslxBadText, ccxBadText, cdaxBadText, clcxBadText, cddxBadText, vsxBadText, ccsxBadText, flxBadText, tfxBadText, cllxBadText, cldxBadText, cslxBadText, ic_BadText, id_BadText, ie_BadText, if_BadText, ig_BadText, ihx_BadText⟩ := fnX_ok (x := "__init__") (q := "BadText.__init__") (st := s_BadText___init__) (Option.some.inj (congrArg (fun z : List FnQ => z[26]?) c2)) (F 26 fx_26 rfl)
  obtain ⟨es_SIZES, n_SIZES, kd_SIZES⟩ := He.dicW_ok (w := w) (Option.some.inj (congrArg (fun z : List (Option (List (Option (Str × Int)))) => z[0]?) c3))
  exact all_mk (l := PySem.Challenge.rw_restbehind_k44_findings_of_settling) X G hfa (aC_BadText := (of_decide_eq_true (F 27 fx_27 rfl))) (aC_Scheme := (of_decide_eq_true (F 28 fx_28 rfl))) (a__law_draw := (of_decide_eq_true (F 29 fx_29 rfl))) (l__law_draw := l__law_draw) (q__law_draw := q__law_draw) (k__law_draw := (of_decide_eq_true (F 30 fx_30 rfl))) (a__law_deck := (of_decide_eq_true (F 31 fx_31 rfl))) (l__law_deck := l__law_deck) (q__law_deck := q__law_deck) (k__law_deck := (of_decide_eq_true (F 32 fx_32 rfl))) (a__law_pick := (of_decide_eq_true (F 33 fx_33 rfl))) (l__law_pick := l__law_pick) (q__law_pick := q__law_pick) (k__law_pick := (of_decide_eq_true (F 34 fx_34 rfl))) (a__law_closure := (of_decide_eq_true (F 35 fx_35 rfl))) (l__law_closure := l__law_closure) (q__law_closure := q__law_closure) (k__law_closure := (of_decide_eq_true (F 36 fx_36 rfl))) (a__law_is_within := (of_decide_eq_true (F 37 fx_37 rfl))) (l__law_is_within := l__law_is_within) (q__law_is_within := q__law_is_within) (k__law_is_within := (of_decide_eq_true (F 38 fx_38 rfl))) (a__law_frame := (of_decide_eq_true (F 39 fx_39 rfl))) (l__law_frame := l__law_frame) (q__law_frame := q__law_frame) (k__law_frame := (of_decide_eq_true (F 40 fx_40 rfl))) (a__law_scheme_text := (of_decide_eq_true (F 41 fx_41 rfl))) (l__law_scheme_text := l__law_scheme_text) (q__law_scheme_text := q__law_scheme_text) (k__law_scheme_text := (of_decide_eq_true (F 42 fx_42 rfl))) (a__law_others := (of_decide_eq_true (F 43 fx_43 rfl))) (l__law_others := l__law_others) (q__law_others := q__law_others) (k__law_others := (of_decide_eq_true (F 44 fx_44 rfl))) (a__law_own := (of_decide_eq_true (F 45 fx_45 rfl))) (l__law_own := l__law_own) (q__law_own := q__law_own) (k__law_own := (of_decide_eq_true (F 46 fx_46 rfl))) (a__law_is_derivation := (of_decide_eq_true (F 47 fx_47 rfl))) (l__law_is_derivation := l__law_is_derivation) (q__law_is_derivation := q__law_is_derivation) (k__law_is_derivation := (of_decide_eq_true (F 48 fx_48 rfl))) (a_is_columns := (of_decide_eq_true (F 49 fx_49 rfl))) (l_is_columns := l_is_columns) (q_is_columns := q_is_columns) (k_is_columns := (of_decide_eq_true (F 50 fx_50 rfl))) (a_columns_in := (of_decide_eq_true (F 51 fx_51 rfl))) (l_columns_in := l_columns_in) (q_columns_in := q_columns_in) (k_columns_in := (of_decide_eq_true (F 52 fx_52 rfl))) (a_head_in := (of_decide_eq_true (F 53 fx_53 rfl))) (l_head_in := l_head_in) (q_head_in := q_head_in) (k_head_in := (of_decide_eq_true (F 54 fx_54 rfl))) (a_are_within := (of_decide_eq_true (F 55 fx_55 rfl))) (l_are_within := l_are_within) (q_are_within := q_are_within) (k_are_within := (of_decide_eq_true (F 56 fx_56 rfl))) (a_is_rule := (of_decide_eq_true (F 57 fx_57 rfl))) (l_is_rule := l_is_rule) (q_is_rule := q_is_rule) (k_is_rule := (of_decide_eq_true (F 58 fx_58 rfl))) (a_Scheme___init__ := (of_decide_eq_true (F 59 fx_59 rfl))) (i_Scheme___init__ := (of_decide_eq_true (F 60 fx_60 rfl))) (l_Scheme___init__ := l_Scheme___init__) (q_Scheme___init__ := q_Scheme___init__) (k_Scheme___init__ := (of_decide_eq_true (F 61 fx_61 rfl))) (a_rule_in := (of_decide_eq_true (F 62 fx_62 rfl))) (l_rule_in := l_rule_in) (q_rule_in := q_rule_in) (k_rule_in := (of_decide_eq_true (F 63 fx_63 rfl))) (a_rules_in := (of_decide_eq_true (F 64 fx_64 rfl))) (l_rules_in := l_rules_in) (q_rules_in := q_rules_in) (k_rules_in := (of_decide_eq_true (F 65 fx_65 rfl))) (cf_Scheme_read := (cm_ok (F 66 fx_66 rfl))) (cg_Scheme_read := (of_decide_eq_true (F 67 fx_67 rfl))) (ch_Scheme_read := (of_decide_eq_true (F 68 fx_68 rfl))) (l_Scheme_read := l_Scheme_read) (q_Scheme_read := q_Scheme_read) (k_Scheme_read := (of_decide_eq_true (F 69 fx_69 rfl))) (a_scheme_in := (of_decide_eq_true (F 70 fx_70 rfl))) (l_scheme_in := l_scheme_in) (q_scheme_in := q_scheme_in) (k_scheme_in := (of_decide_eq_true (F 71 fx_71 rfl))) (a_is_integer := (of_decide_eq_true (F 72 fx_72 rfl))) (l_is_integer := l_is_integer) (q_is_integer := q_is_integer) (k_is_integer := (of_decide_eq_true (F 73 fx_73 rfl))) (a_derivation_holds := (of_decide_eq_true (F 74 fx_74 rfl))) (l_derivation_holds := l_derivation_holds) (q_derivation_holds := q_derivation_holds) (k_derivation_holds := (of_decide_eq_true (F 75 fx_75 rfl))) (a_settles_so := (of_decide_eq_true (F 76 fx_76 rfl))) (l_settles_so := l_settles_so) (q_settles_so := q_settles_so) (k_settles_so := (of_decide_eq_true (F 77 fx_77 rfl))) (a_finding_holds := (of_decide_eq_true (F 78 fx_78 rfl))) (l_finding_holds := l_finding_holds) (q_finding_holds := q_finding_holds) (k_finding_holds := (of_decide_eq_true (F 79 fx_79 rfl))) (a__law_text := (of_decide_eq_true (F 80 fx_80 rfl))) (l__law_text := l__law_text) (q__law_text := q__law_text) (k__law_text := (of_decide_eq_true (F 81 fx_81 rfl))) (a_law := (of_decide_eq_true (F 82 fx_82 rfl))) (l_law := l_law) (q_law := q_law) (k_law := (of_decide_eq_true (F 83 fx_83 rfl))) (z_int := (of_decide_eq_true (F 84 fx_84 rfl))) (z_list := (of_decide_eq_true (F 85 fx_85 rfl))) (z_range := (of_decide_eq_true (F 86 fx_86 rfl))) (z_len := (of_decide_eq_true (F 87 fx_87 rfl))) (z_sorted := (of_decide_eq_true (F 88 fx_88 rfl))) (z_tuple := (of_decide_eq_true (F 89 fx_89 rfl))) (z_enumerate := (of_decide_eq_true (F 90 fx_90 rfl))) (z_isinstance := (of_decide_eq_true (F 91 fx_91 rfl))) (z_bool := (of_decide_eq_true (F 92 fx_92 rfl))) (z_str := (of_decide_eq_true (F 93 fx_93 rfl))) (aD_SIZES := (of_decide_eq_true (F 94 fx_94 rfl))) (lD_SIZES := kd_SIZES.at_) (kD_SIZES := kd_SIZES.lit) (oD_SIZES := kd_SIZES.low) (vD_SIZES_0 := (of_decide_eq_true (F 95 fx_95 rfl))) (g_SETTLES := (of_decide_eq_true (F 96 fx_96 rfl))) (ei_BadText := (of_decide_eq_true (F 97 fx_97 rfl))) (ov_BadText := (of_decide_eq_true (F 98 fx_98 rfl))) (xb_BadText := (of_decide_eq_true (F 99 fx_99 rfl))) (xx_BadText := (of_decide_eq_true (F 100 fx_100 rfl))) (xy_BadText := (of_decide_eq_true (F 101 fx_101 rfl))) (kc_BadText := (of_decide_eq_true (F 102 fx_102 rfl))) (hd_BadText := (of_decide_eq_true (F 103 fx_103 rfl))) (sa_BadText := (of_decide_eq_true (F 104 fx_104 rfl))) (xm_BadText := (of_decide_eq_true (F 105 fx_105 rfl))) (xs_BadText := (of_decide_eq_true (F 106 fx_106 rfl))) (xth := (of_decide_eq_true (F 107 fx_107 rfl))) (xg_BadText := (of_decide_eq_true (F 108 fx_108 rfl))) (xh_BadText := (of_decide_eq_true (F 109 fx_109 rfl))) (ia_BadText := (of_decide_eq_true (F 110 fx_110 rfl))) (ib_BadText := (of_decide_eq_true (F 111 fx_111 rfl))) (ic_BadText := ic_BadText) (id_BadText := id_BadText) (ie_BadText := ie_BadText) (if_BadText := if_BadText) (ig_BadText := ig_BadText) (ih_BadText := ihx_BadText) (z_super := (of_decide_eq_true (F 112 fx_112 rfl))) (ztop := rfl) (n_BadText_place := (of_decide_eq_true (F 113 fx_113 rfl))) (g_BREAK := (of_decide_eq_true (F 114 fx_114 rfl))) (g_BLANK := (of_decide_eq_true (F 115 fx_115 rfl))) (g_RULE_PARTS := (of_decide_eq_true (F 116 fx_116 rfl))) (g_COLUMNS_WORD := (of_decide_eq_true (F 117 fx_117 rfl))) (g_NONE := (of_decide_eq_true (F 118 fx_118 rfl))) (g_LETTERS := (of_decide_eq_true (F 119 fx_119 rfl))) (z_all := (of_decide_eq_true (F 120 fx_120 rfl))) (z_zip := (of_decide_eq_true (F 121 fx_121 rfl))) (pg_Scheme := (of_decide_eq_true (F 122 fx_122 rfl))) (hd_Scheme := (of_decide_eq_true (F 123 fx_123 rfl))) (po_Scheme := (of_decide_eq_true (F 124 fx_124 rfl))) (sa_Scheme := (of_decide_eq_true (F 125 fx_125 rfl))) (n_Scheme_columns := (of_decide_eq_true (F 126 fx_126 rfl))) (n_Scheme_rules := (of_decide_eq_true (F 127 fx_127 rfl))) (mk_Scheme := (of_decide_eq_true (F 128 fx_128 rfl))) (kc_Scheme := (of_decide_eq_true (F 129 fx_129 rfl))) (g_RULE_WORDS := (of_decide_eq_true (F 130 fx_130 rfl))) (g_RULE_WORD := (of_decide_eq_true (F 131 fx_131 rfl))) (rd_Scheme := (of_decide_eq_true (F 132 fx_132 rfl))) (rg_Scheme := (of_decide_eq_true (F 133 fx_133 rfl))) (sb_BadText_BadText := (of_decide_eq_true (F 134 fx_134 rfl))) (z_repr := (of_decide_eq_true (F 135 fx_135 rfl))) math_law
end DL
open PySem PySem.W PySem.Calls PyProof.Rows in
set_option maxRecDepth 100000 in
set_option maxHeartbeats 0 in
theorem PySem.Challenge.cw_restbehind_k44_findings_of_settling_holds : PySem.Challenge.rw_restbehind_k44_findings_of_settling.Holds := by
  w_on; o_law
  refine HandSHeadRun.head_any (r := OpenLaw.row PySem.Challenge.rw_restbehind_k44_findings_of_settling) (q := DL.hq) (H := DL.hK) (ob := DL.hob) (M := 7000) (loose := DL.hnames) (d := HandSHeadRun.topDef (OpenLaw.row PySem.Challenge.rw_restbehind_k44_findings_of_settling).prog 133) (kwd := []) DL.hob_eq
    (by kernel_rfl) (fun s => by kernel_rfl) DL.hrun (by kernel_rfl) (by kernel_rfl) (by kernel_rfl) (by rfl) (by first | assumption | decide +kernel) (by decide +kernel) ⟨rfl, rfl, rfl, rfl, rfl, by decide +kernel⟩ ?hw ?hc
  case hw => w_witness2
  case hc =>
    refine DL.walk_GX (l := PySem.Challenge.rw_restbehind_k44_findings_of_settling) (n := 63) (k := 10) (x := "_law_script") (sp := fun K => DL.spLaw K) rfl (by decide) (by kernel_rfl) ⟨rfl, by decide, by decide⟩ ?F (fun _ _ a ns hl hS => ⟨a, ns, rfl, hS, hl, fun _ => rfl⟩)
    intro w mg fa h Y G hmg0
    obtain ⟨K, KX, c⟩ := Y
    have hmg : mg ("law" : PySem.Str) = some (.ref fa) := by
      have e : (HandSHeadRun.topDef (OpenLaw.row PySem.Challenge.rw_restbehind_k44_findings_of_settling).prog 133).name = ("law" : PySem.Str) := by kernel_rfl
      rw [← e]
      exact hmg0
    obtain ⟨fd, hb, hF⟩ := DL.facts_X (w := w) KX G hmg c
    exact ⟨K, KX, fd, hb, hF⟩

